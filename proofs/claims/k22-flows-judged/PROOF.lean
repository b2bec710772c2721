import PyProof.Rows.All
import Wide.All
import OpenK.AllK
import Wide.FinOn
import HandS.ForMost
import HandS.Walk
import KE.KeyNested
import HandS.Wide
import HandS.Deep
import HandS.TupAny
import HandS.Zip
import HandS.IsInst
import HandS.Conv
import HandS.Style
import HandS.WideBits
import KE.KExcInit
import KE.KExcIs
import HandS.Exc
import HandS.ExcInit
import HandS.ExcField
import HandS.ClsMeth
import HandS.TryMany
import HandS.ExcValue
import HandS.Defaults
import HandS.MakeKw
import HandS.Ends
import HandS.HeadEnd
import PyProof.ReprReads
import PyProof.ReprRoads
import HandS.Dict
import PyProof.StrBlock2
import HandS.ExcOwn
import HandS.List
import HandS.HeadHook1
import HandS.HeadHook2
import HandS.HeadHook3
import HandS.HeadHook4
import KE.KStateDown
import HandS.Head0
import HandS.Head1
import HandS.Head2
import HandS.Property
import PyProof.DictFindH
import KE.KDictWalk
import PyProof.DictRoadsH
import KE.KDictKeyed
import PyProof.TupleOfSeq
import KE.KItemsList
import HandS.DictTup
import HandS.ListItems
import HandS.Sort
import HandS.SortOrd
import HandS.SortRule
import PyProof.ZipIter
import HandS.Zip0
import HandS.TupLe
import HandS.FStrTup
import PyProof.ReprBulk
import HandS.Base
import HandS.Call
import HandS.More
import HandS.Words
import HandS.WordsExc
import PySem.Challenge.RW_wornsteps_k22_flows_judged
import Wide.Line
set_option Elab.async false
set_option linter.all false
set_option maxRecDepth 100000
set_option maxHeartbeats 2000000
/-! Ws1: deep data, owned locals, the relation to the layer's heap. -/
namespace Ws
open PySem PySem.Spec PyProof.Rows L2

/-! ### data -/
inductive D where
  | none
  | bool (b : Bool)
  | int (i : Int)
  | str (s : Str)
  | tup (xs : List D)
  | lst (xs : List D)
  | dct (kvs : List (D × D))
  | obj (c : Nat) (fs : List (Str × D))
  | exc (c : Nat) (fs : List (Str × D))
  | scr (ns : List Int)
  deriving Inhabited

mutual
def toKey : D → Option NestedKey
  | .none => some .none
  | .bool b => some (.num (if b = true then 1 else 0))
  | .int i => some (.num i)
  | .str s => some (.text s)
  | .tup xs => (toKeys xs).map .tup
  | .lst _ => Option.none
  | .dct _ => Option.none
  | .obj _ _ => Option.none
  | .exc _ _ => Option.none
  | .scr _ => Option.none
def toKeys : List D → Option (List NestedKey)
  | [] => some []
  | x :: xs => (toKey x).bind fun k => (toKeys xs).map fun ks => k :: ks
end

/-- a dict's keys -/
def keysD : List (D × D) → List NestedKey
  | [] => []
  | kv :: r => match toKey kv.1 with
    | some n => n :: keysD r
    | Option.none => keysD r
/-- the object at a is a dict with just these entries -/
def RawD (a : Addr) (es : Array DictEntry) (ep : Nat) : HO := .ext fun h => ∃ o, h.get? a = some o ∧ o.ExactDict ∧ o.data = .dict es ep ∧ es.size ≤ sizeLine ∧ (a == sysModules) = false

/-- the object at a is an exception of the class at C; d: its dict -/
def ExV (a C : Addr) (d : Option Addr) : HO := .ext fun h => ∃ (o : Obj) (vs : Array Value), h.get? a = some o ∧ o.cls = .ref C ∧ o.dict = d ∧ o.data = .fields vs
/-- the exception's dict has just these -/
def XdAt (M : Addr → Prop) (H : Hp) (d : Option Addr) (fs : List (Str × V)) : Prop := (d = Option.none ∧ fs = []) ∨ ∃ dx, d = some dx ∧ H dx = some (.xd fs) ∧ ¬ M dx

/-! ### a value at an abstract heap is a datum; M: what may still change -/
section
variable (w : World) (K : PySem.W.Frag) (cl : Nat → Addr) (M : Addr → Prop) (H : Hp)
mutual
inductive Is : V → D → Prop
  | non : Is .non .none
  | bl (b : Bool) : Is (.bl b) (.bool b)
  | int (i : Int) : Is (.int i) (.int i)
  | str (s : Str) : Is (.str s) (.str s)
  | tup {a : Addr} {xs : List V} {ds : List D} : Rd H a (.tup xs) → ¬ M a → IsL xs ds → Is (.ref a) (.tup ds)
  | tupK {a : Addr} {o : Obj} {its : Array Value} {n : Nat} {xs : List V} {ds : List D} : K.lookup a = some o → o.cls = .type "tuple" → o.data = .seq its n → its.size ≤ sizeLine → Vals xs its.toList → IsL xs ds → Is (.ref a) (.tup ds)
  | lst {a : Addr} {xs : List V} {ds : List D} : H a = some (.lst xs) → ¬ M a → IsL xs ds → Is (.ref a) (.lst ds)
  | scr {a : Addr} {o : Obj} {ns : List Int} : H a = some (.frz o (.lst (ns.map V.int))) → ¬ M a → Is (.ref a) (.scr ns)
  | scrK {a : Addr} {o : Obj} {its : Array Value} {n : Nat} {ns : List Int} : K.lookup a = some o → o.cls = .type "list" → o.dict = none → o.data = .seq its n → its.size ≤ sizeLine → Vals (ns.map V.int) its.toList → Is (.ref a) (.scr ns)
  | dct {a : Addr} {es : Array DictEntry} {ep : Nat} {kvs : List (D × D)} : H a = some (RawD a es ep) → ¬ M a → IsE es.toList kvs → (keysD kvs).Nodup → Is (.ref a) (.dct kvs)
  | obj {a dx : Addr} {c : Nat} {fs : List (Str × V)} {gs : List (Str × D)} : H a = some (.ins (cl c) dx fs) → ¬ M a → IsF fs gs → Is (.ref a) (.obj c gs)
  | exc {a : Addr} {c : Nat} {d : Option Addr} {fs : List (Str × V)} {gs : List (Str × D)} : H a = some (ExV a (cl c) d) → ¬ M a → XdAt M H d fs → IsF fs gs → Is (.ref a) (.exc c gs)
inductive IsL : List V → List D → Prop
  | nil : IsL [] []
  | cons {v : V} {d : D} {vs : List V} {ds : List D} : Is v d → IsL vs ds → IsL (v :: vs) (d :: ds)
inductive IsF : List (Str × V) → List (Str × D) → Prop
  | nil : IsF [] []
  | cons {f : Str} {v : V} {d : D} {vs : List (Str × V)} {ds : List (Str × D)} : Is v d → IsF vs ds → IsF ((f, v) :: vs) ((f, d) :: ds)
inductive IsE : List DictEntry → List (D × D) → Prop
  | nil : IsE [] []
  | cons {e : DictEntry} {kv vv : V} {dk dv : D} {k : NestedKey} {es : List DictEntry} {kvs : List (D × D)} : RelV kv e.key → Is kv dk → toKey dk = some k → k.depth ≤ 8 → e.hash = k.hash w → RelV vv e.val → Is vv dv → IsE es kvs → IsE (e :: es) ((dk, dv) :: kvs)
end
end

/-- what is not to change stands, and is still not to change -/
def Ext (M : Addr → Prop) (H : Hp) (M' : Addr → Prop) (H' : Hp) : Prop := ∀ b o, H b = some o → ¬ M b → H' b = some o ∧ ¬ M' b
theorem Ext.refl {M : Addr → Prop} {H : Hp} : Ext M H M H := fun _ _ h m => ⟨h, m⟩
theorem Ext.trans {M M1 M2 : Addr → Prop} {H H1 H2 : Hp} (a : Ext M H M1 H1) (b : Ext M1 H1 M2 H2) : Ext M H M2 H2 := fun c o h m => b c o (a c o h m).1 (a c o h m).2
theorem Ext.rd {M M' : Addr → Prop} {H H' : Hp} {a : Addr} {u : HO} (e : Ext M H M' H') (h : Rd H a u) (m : ¬ M a) : Rd H' a u ∧ ¬ M' a := by
  rcases h with h | ⟨o, h⟩
  · exact ⟨.inl (e a _ h m).1, (e a _ h m).2⟩
  · exact ⟨.inr ⟨o, (e a _ h m).1⟩, (e a _ h m).2⟩
theorem Ext.xd {M M' : Addr → Prop} {H H' : Hp} {d : Option Addr} {fs : List (Str × V)} (e : Ext M H M' H') (h : XdAt M H d fs) : XdAt M' H' d fs := by
  rcases h with h | ⟨dx, h1, h2, h3⟩
  · exact .inl h
  · exact .inr ⟨dx, h1, (e dx _ h2 h3).1, (e dx _ h2 h3).2⟩

section
variable {w : World} {K : PySem.W.Frag} {cl : Nat → Addr} {M M' : Addr → Prop} {H H' : Hp}
mutual
theorem Is.stay (e : Ext M H M' H') : ∀ {v : V} {d : D}, Is w K cl M H v d → Is w K cl M' H' v d
  | _, _, .non => .non
  | _, _, .bl b => .bl b
  | _, _, .int i => .int i
  | _, _, .str s => .str s
  | _, _, .tup h m t => .tup (e.rd h m).1 (e.rd h m).2 (IsL.stay e t)
  | _, _, .tupK a b c d f t => .tupK a b c d f (IsL.stay e t)
  | _, _, .lst h m t => .lst (e _ _ h m).1 (e _ _ h m).2 (IsL.stay e t)
  | _, _, .scr h m => .scr (e _ _ h m).1 (e _ _ h m).2
  | _, _, .scrK a b c d f g => .scrK a b c d f g
  | _, _, .dct h m t n => .dct (e _ _ h m).1 (e _ _ h m).2 (IsE.stay e t) n
  | _, _, .obj h m t => .obj (e _ _ h m).1 (e _ _ h m).2 (IsF.stay e t)
  | _, _, .exc h m x t => .exc (e _ _ h m).1 (e _ _ h m).2 (e.xd x) (IsF.stay e t)
theorem IsL.stay (e : Ext M H M' H') : ∀ {vs : List V} {ds : List D}, IsL w K cl M H vs ds → IsL w K cl M' H' vs ds
  | _, _, .nil => .nil
  | _, _, .cons a t => .cons (Is.stay e a) (IsL.stay e t)
theorem IsF.stay (e : Ext M H M' H') : ∀ {vs : List (Str × V)} {ds : List (Str × D)}, IsF w K cl M H vs ds → IsF w K cl M' H' vs ds
  | _, _, .nil => .nil
  | _, _, .cons a t => .cons (Is.stay e a) (IsF.stay e t)
theorem IsE.stay (e : Ext M H M' H') : ∀ {vs : List DictEntry} {ds : List (D × D)}, IsE w K cl M H vs ds → IsE w K cl M' H' vs ds
  | _, _, .nil => .nil
  | _, _, .cons a b c z d f g t => .cons a (Is.stay e b) c z d f (Is.stay e g) (IsE.stay e t)
end
theorem IsL.length : ∀ {vs : List V} {ds : List D}, IsL w K cl M H vs ds → vs.length = ds.length
  | _, _, .nil => rfl
  | _, _, .cons _ t => by simp [IsL.length t]
theorem IsL.append : ∀ {vs us : List V} {ds es : List D}, IsL w K cl M H vs ds → IsL w K cl M H us es → IsL w K cl M H (vs ++ us) (ds ++ es)
  | _, _, _, _, .nil, s => s
  | _, _, _, _, .cons a t, s => .cons a (IsL.append t s)
theorem IsL.get : ∀ {vs : List V} {ds : List D} {i : Nat} {d : D}, IsL w K cl M H vs ds → ds[i]? = some d → ∃ v, vs[i]? = some v ∧ Is w K cl M H v d
  | _, _, _, _, .nil, e => by simp at e
  | _, _, 0, _, .cons a _, e => by simp at e; subst e; exact ⟨_, rfl, a⟩
  | _, _, i + 1, _, .cons _ t, e => by
    obtain ⟨v, h1, h2⟩ := IsL.get (i := i) t (by simpa using e)
    exact ⟨v, by simpa using h1, h2⟩
theorem IsL.getV : ∀ {vs : List V} {ds : List D} {i : Nat} {v : V}, IsL w K cl M H vs ds → vs[i]? = some v → ∃ d, ds[i]? = some d ∧ Is w K cl M H v d
  | _, _, _, _, .nil, e => by simp at e
  | _, _, 0, _, .cons a _, e => by simp at e; subst e; exact ⟨_, rfl, a⟩
  | _, _, i + 1, _, .cons _ t, e => by
    obtain ⟨v, h1, h2⟩ := IsL.getV (i := i) t (by simpa using e)
    exact ⟨v, by simpa using h1, h2⟩
theorem IsL.take : ∀ {vs : List V} {ds : List D} (n : Nat), IsL w K cl M H vs ds → IsL w K cl M H (vs.take n) (ds.take n)
  | _, _, 0, _ => .nil
  | _, _, _ + 1, .nil => .nil
  | _, _, n + 1, .cons a t => .cons a (IsL.take n t)
theorem IsL.drop : ∀ {vs : List V} {ds : List D} (n : Nat), IsL w K cl M H vs ds → IsL w K cl M H (vs.drop n) (ds.drop n)
  | _, _, 0, r => r
  | _, _, _ + 1, .nil => .nil
  | _, _, n + 1, .cons _ t => IsL.drop n t
theorem IsL.set {x : V} {d : D} (r : Is w K cl M H x d) : ∀ {vs : List V} {ds : List D} (i : Nat), IsL w K cl M H vs ds → IsL w K cl M H (vs.set i x) (ds.set i d)
  | _, _, _, .nil => .nil
  | _, _, 0, .cons _ t => .cons r t
  | _, _, i + 1, .cons q t => .cons q (IsL.set r i t)
theorem IsL.eraseIdx : ∀ {vs : List V} {ds : List D} (i : Nat), IsL w K cl M H vs ds → IsL w K cl M H (vs.eraseIdx i) (ds.eraseIdx i)
  | _, _, _, .nil => .nil
  | _, _, 0, .cons _ t => t
  | _, _, i + 1, .cons q t => .cons q (IsL.eraseIdx i t)
theorem IsL.dropLast : ∀ {vs : List V} {ds : List D}, IsL w K cl M H vs ds → IsL w K cl M H vs.dropLast ds.dropLast
  | _, _, .nil => .nil
  | _, _, .cons _ .nil => .nil
  | _, _, .cons a (.cons b t) => .cons a (IsL.dropLast (.cons b t))
theorem IsL.reverse {vs : List V} {ds : List D} (h : IsL w K cl M H vs ds) : IsL w K cl M H vs.reverse ds.reverse := by
  induction vs generalizing ds with
  | nil => cases h; exact .nil
  | cons v vs ih =>
    cases h with
    | cons a t =>
      rw [List.reverse_cons, List.reverse_cons]
      exact (ih t).append (.cons a .nil)
end

/-! ### trees that a local owns -/
inductive W where
  | leaf (d : D)
  | lst (ws : List W)
  | dct (kvs : List (D × D))
  | ins (c : Nat) (fs : List (Str × D))
  deriving Inhabited
mutual
def W.toD : W → D
  | .leaf d => d
  | .lst ws => .lst (W.toDs ws)
  | .dct kvs => .dct kvs
  | .ins c fs => .obj c fs
def W.toDs : List W → List D
  | [] => []
  | x :: xs => W.toD x :: W.toDs xs
end
section
variable (w : World) (K : PySem.W.Frag) (cl : Nat → Addr) (M : Addr → Prop) (H : Hp)
mutual
inductive WIs : V → W → List Addr → Prop
  | leaf {v : V} {d : D} : Is w K cl M H v d → WIs v (.leaf d) []
  | lst {l : Addr} {xs : List V} {ws : List W} {fp : List Addr} : H l = some (.lst xs) → WAll xs ws fp → WIs (.ref l) (.lst ws) (l :: fp)
  | dct {l : Addr} {es : Array DictEntry} {ep : Nat} {kvs : List (D × D)} : H l = some (RawD l es ep) → IsE w K cl M H es.toList kvs → (keysD kvs).Nodup → WIs (.ref l) (.dct kvs) [l]
  | ins {a dx : Addr} {c : Nat} {fs : List (Str × V)} {gs : List (Str × D)} : H a = some (.ins (cl c) dx fs) → IsF w K cl M H fs gs → WIs (.ref a) (.ins c gs) [a]
inductive WAll : List V → List W → List Addr → Prop
  | nil : WAll [] [] []
  | cons {v : V} {x : W} {fp : List Addr} {vs : List V} {xs : List W} {fps : List Addr} : WIs v x fp → WAll vs xs fps → WAll (v :: vs) (x :: xs) (fp ++ fps)
end
end
section
variable {w : World} {K : PySem.W.Frag} {cl : Nat → Addr} {M M' : Addr → Prop} {H H' : Hp}
mutual
theorem WIs.stay (e : Ext M H M' H') : ∀ {v : V} {x : W} {fp : List Addr}, (∀ a ∈ fp, ∀ o, H a = some o → H' a = some o) → WIs w K cl M H v x fp → WIs w K cl M' H' v x fp
  | _, _, _, _, .leaf h => .leaf (h.stay e)
  | _, _, _, k, .lst h t => .lst (k _ (by simp) _ h) (WAll.stay e (fun a ha => k a (by simp [ha])) t)
  | _, _, _, k, .dct h t n => .dct (k _ (by simp) _ h) (t.stay e) n
  | _, _, _, k, .ins h t => .ins (k _ (by simp) _ h) (t.stay e)
theorem WAll.stay (e : Ext M H M' H') : ∀ {v : List V} {x : List W} {fp : List Addr}, (∀ a ∈ fp, ∀ o, H a = some o → H' a = some o) → WAll w K cl M H v x fp → WAll w K cl M' H' v x fp
  | _, _, _, _, .nil => .nil
  | _, _, _, k, .cons a t => .cons (WIs.stay e (fun b hb => k b (by simp [hb])) a) (WAll.stay e (fun b hb => k b (by simp [hb])) t)
end
mutual
/-- let go: what was owned is from now on not to change -/
theorem WIs.share (e : Ext M H M' H) : ∀ {v : V} {x : W} {fp : List Addr}, (∀ a ∈ fp, ¬ M' a) → WIs w K cl M H v x fp → Is w K cl M' H v x.toD
  | _, _, _, _, .leaf h => h.stay e
  | _, _, _, k, .lst h t => .lst h (k _ (by simp)) (WAll.share e (fun a ha => k a (by simp [ha])) t)
  | _, _, _, k, .dct h t n => .dct h (k _ (by simp)) (t.stay e) n
  | _, _, _, k, .ins h t => .obj h (k _ (by simp)) (t.stay e)
theorem WAll.share (e : Ext M H M' H) : ∀ {v : List V} {x : List W} {fp : List Addr}, (∀ a ∈ fp, ¬ M' a) → WAll w K cl M H v x fp → IsL w K cl M' H v (W.toDs x)
  | _, _, _, _, .nil => .nil
  | _, _, _, k, .cons a t => .cons (WIs.share e (fun b hb => k b (by simp [hb])) a) (WAll.share e (fun b hb => k b (by simp [hb])) t)
end
end
abbrev noM : Addr → Prop := fun _ => False
theorem ext_noM {M : Addr → Prop} {H : Hp} : Ext M H noM H := fun _ _ h _ => ⟨h, fun z => z⟩
theorem WIs.view {w : World} {K : PySem.W.Frag} {cl : Nat → Addr} {M : Addr → Prop} {H : Hp} {v : V} {x : W} {fp : List Addr} (h : WIs w K cl M H v x fp) : Is w K cl noM H v x.toD := h.share ext_noM fun _ _ z => z
theorem Is.view {w : World} {K : PySem.W.Frag} {cl : Nat → Addr} {M : Addr → Prop} {H : Hp} {v : V} {d : D} (h : Is w K cl M H v d) : Is w K cl noM H v d := h.stay ext_noM
end Ws
set_option Elab.async false
set_option linter.all false
set_option maxRecDepth 100000
set_option maxHeartbeats 2000000
/-! Ws2: states, steps, what an expression denotes. -/
namespace Ws
open PySem PySem.Spec PyProof.Rows L2

abbrev Env := List (Option W)
abbrev Fp := Nat → List Addr
def Trk (M : Addr → Prop) (H : Hp) : Prop := ∀ a, M a → ∃ o, H a = some o

structure RS (w : World) (K : PySem.W.Frag) (cl : Nat → Addr) (M : Addr → Prop) (ρ : Env) (σ : L2.St) (H : Hp) (f : Fp) : Prop where
  slot : ∀ i x, ρ[i]? = some (some x) → ∃ v, σ[i]? = some (some v) ∧ WIs w K cl M H v x (f i)
  none : ∀ i, (∀ x, ρ[i]? ≠ some (some x)) → f i = []
  nd : ∀ i, (f i).Nodup
  dj : ∀ i j a, a ∈ f i → a ∈ f j → i = j
  own : ∀ i a, a ∈ f i → M a
  trk : Trk M H
  len : ρ.length = σ.length

structure Step (M : Addr → Prop) (H : Hp) (f : Fp) (M' : Addr → Prop) (H' : Hp) (f' : Fp) : Prop where
  keep : ∀ b o, H b = some o → (∀ i, b ∉ f i) → H' b = some o
  there : ∀ b o, H b = some o → ∃ o', H' b = some o'
  prot : ∀ b, M b → (∀ i, b ∉ f i) → M' b
  anti : ∀ b, M' b → M b ∨ H b = Option.none
  own : ∀ i b, b ∈ f' i → b ∈ f i ∨ H b = Option.none

inductive Rv where
  | val (x : W)
  | slot (i : Nat)
  deriving Inhabited
abbrev Den (α : Type) := Env → Option (α × Env)

/-- what an expression gave: a tree of its own, laid since H; or a local's name -/
def RvOk (w : World) (K : PySem.W.Frag) (cl : Nat → Addr) (M' : Addr → Prop) (σ : L2.St) (H' : Hp) (f' : Fp) (H : Hp) : Rv → V → List Addr → Prop
  | .val x, v, fw => WIs w K cl M' H' v x fw ∧ fw.Nodup ∧ ∀ a ∈ fw, M' a ∧ (∀ i, a ∉ f' i) ∧ H a = none
  | .slot i, v, fw => fw = [] ∧ σ[i]? = some (some v)

def slotW (ρ : Env) (i : Nat) : Option W := match ρ[i]? with
  | some o => o
  | Option.none => Option.none
theorem slotW_some {ρ : Env} {i : Nat} {x : W} (h : slotW ρ i = some x) : ρ[i]? = some (some x) := by
  unfold slotW at h
  cases e : ρ[i]? with
  | none => rw [e] at h; cases h
  | some o => rw [e] at h; exact congrArg some h
def viewR (ρ : Env) : Rv → Option D
  | .val x => some x.toD
  | .slot i => (slotW ρ i).map W.toD
def shareR (ρ : Env) : Rv → Option (D × Env)
  | .val x => some (x.toD, ρ)
  | .slot i => (slotW ρ i).map fun x => (x.toD, ρ.set i (some (.leaf x.toD)))

section
variable {w : World} {K : PySem.W.Frag} {cl : Nat → Addr} {M M0 M1 M2 : Addr → Prop} {ρ ρ1 ρ2 : Env} {σ σ1 : L2.St} {H H0 H1 H2 : Hp} {f f0 f1 f2 : Fp} {rv : Rv} {v : V} {fw : List Addr}
theorem Step.refl : Step M H f M H f := ⟨fun _ _ h _ => h, fun _ o h => ⟨o, h⟩, fun _ h _ => h, fun _ h => .inl h, fun _ _ h => .inl h⟩
theorem Step.back (a : Step M H f M1 H1 f1) {c : Addr} (z : H1 c = Option.none) : H c = Option.none := by
  cases q : H c with
  | none => rfl
  | some o =>
    obtain ⟨o1, h1⟩ := a.there c o q
    rw [z] at h1; cases h1
theorem Step.trans (t : Trk M H) (a : Step M H f M1 H1 f1) (b : Step M1 H1 f1 M2 H2 f2) : Step M H f M2 H2 f2 where
  keep := fun c o h n => b.keep c o (a.keep c o h n) fun i hi => by
    rcases a.own i c hi with z | z
    · exact n i z
    · rw [h] at z; cases z
  there := fun c o h => by
    obtain ⟨o1, h1⟩ := a.there c o h
    exact b.there c o1 h1
  prot := fun c m n => by
    refine b.prot c (a.prot c m n) fun i hi => ?_
    rcases a.own i c hi with z | z
    · exact n i z
    · obtain ⟨o, h⟩ := t c m
      rw [h] at z; cases z
  anti := fun c m => by
    rcases b.anti c m with z | z
    · exact a.anti c z
    · exact .inr (a.back z)
  own := fun i c hi => by
    rcases b.own i c hi with z | z
    · exact a.own i c z
    · exact .inr (a.back z)
theorem RS.ext (r : RS w K cl M ρ σ H f) (s : Step M H f M1 H1 f1) : Ext M H M1 H1 := fun b o h m => by
  refine ⟨s.keep b o h fun i hi => m (r.own i b hi), fun z => ?_⟩
  rcases s.anti b z with q | q
  · exact m q
  · rw [h] at q; cases q
/-- what an expression gave is there behind further steps -/
theorem RvOk.carry (r1 : RS w K cl M1 ρ1 σ H1 f1) (s : Step M1 H1 f1 M2 H2 f2) (k : RvOk w K cl M1 σ H1 f1 H rv v fw) : RvOk w K cl M2 σ H2 f2 H rv v fw := by
  cases rv with
  | slot i => exact k
  | val x =>
    obtain ⟨h, nd, q⟩ := k
    refine ⟨h.stay (r1.ext s) (fun a ha o e => s.keep a o e (q a ha).2.1), nd, fun a ha => ?_⟩
    obtain ⟨m, n, z⟩ := q a ha
    refine ⟨s.prot a m n, fun i hi => ?_, z⟩
    rcases s.own i a hi with y | y
    · exact n i y
    · obtain ⟨o, e⟩ := r1.trk a m
      rw [e] at y; cases y
theorem RvOk.base (s : ∀ c, H c = Option.none → H0 c = Option.none) (k : RvOk w K cl M1 σ H1 f1 H rv v fw) : RvOk w K cl M1 σ H1 f1 H0 rv v fw := by
  cases rv with
  | slot i => exact k
  | val x =>
    obtain ⟨h, nd, q⟩ := k
    exact ⟨h, nd, fun a ha => ⟨(q a ha).1, (q a ha).2.1, s a (q a ha).2.2⟩⟩
theorem RvOk.view {d : D} (r : RS w K cl M ρ σ H f) (k : RvOk w K cl M σ H f H0 rv v fw) (e : viewR ρ rv = some d) : Is w K cl noM H v d := by
  cases rv with
  | val x =>
    cases (show some x.toD = some d from e)
    exact k.1.view
  | slot i =>
    obtain ⟨x, hx, e⟩ := Option.map_eq_some_iff.mp (show (slotW ρ i).map W.toD = some d from e)
    cases e
    obtain ⟨u, hu, hw⟩ := r.slot i x (slotW_some hx)
    have e2 := k.2
    rw [hu] at e2
    cases e2
    exact hw.view
theorem set_get {α : Type} {l : List α} {i j : Nat} {x y : α} (h : (l.set i x)[j]? = some y) : (i = j ∧ y = x) ∨ (i ≠ j ∧ l[j]? = some y) := by
  rw [List.getElem?_set] at h
  by_cases e : i = j
  · subst e
    rw [if_pos rfl] at h
    split at h
    · exact .inl ⟨rfl, (Option.some.inj h).symm⟩
    · cases h
  · rw [if_neg e] at h
    exact .inr ⟨e, h⟩
def fpSet (f : Fp) (i : Nat) (l : List Addr) : Fp := fun j => if j = i then l else f j
theorem fpSet_same {f : Fp} {i : Nat} {l : List Addr} : fpSet f i l i = l := by unfold fpSet; rw [if_pos rfl]
theorem fpSet_ne {f : Fp} {i j : Nat} {l : List Addr} (h : j ≠ i) : fpSet f i l j = f j := by unfold fpSet; rw [if_neg h]
/-- let go of what an expression gave: from now on it is not to change -/
theorem RvOk.share {d : D} (r : RS w K cl M1 ρ1 σ H1 f1) (k : RvOk w K cl M1 σ H1 f1 H rv v fw) (st : Step M H f M1 H1 f1) (t : Trk M H) (e : shareR ρ1 rv = some (d, ρ2)) :
    ∃ M' f', RS w K cl M' ρ2 σ H1 f' ∧ Is w K cl M' H1 v d ∧ Step M H f M' H1 f' := by
  cases rv with
  | val x =>
    cases (show some (x.toD, ρ1) = some (d, ρ2) from e)
    obtain ⟨h, nd, q⟩ := k
    have ex : Ext M1 H1 (fun a => M1 a ∧ a ∉ fw) H1 := fun b o hb m => ⟨hb, fun z => m z.1⟩
    refine ⟨fun a => M1 a ∧ a ∉ fw, f1, ⟨fun i y hy => ?_, r.none, r.nd, r.dj, fun i a ha => ⟨r.own i a ha, fun z => (q a z).2.1 i ha⟩, fun a ha => r.trk a ha.1, r.len⟩, h.share ex fun a ha z => z.2 ha, ⟨st.keep, st.there, fun b m n => ⟨st.prot b m n, fun z => ?_⟩, fun b z => st.anti b z.1, st.own⟩⟩
    · obtain ⟨u, hu, hw⟩ := r.slot i y hy
      exact ⟨u, hu, hw.stay ex fun _ _ _ z => z⟩
    · obtain ⟨o, ho⟩ := t b m
      rw [(q b z).2.2] at ho
      cases ho
  | slot i =>
    obtain ⟨x, hx0, e⟩ := Option.map_eq_some_iff.mp (show (slotW ρ1 i).map (fun x => (x.toD, ρ1.set i (some (W.leaf x.toD)))) = some (d, ρ2) from e)
    have hx := slotW_some hx0
    cases e
    obtain ⟨u, hu, hw⟩ := r.slot i x hx
    have e2 := k.2
    rw [hu] at e2
    cases e2
    have ex : Ext M1 H1 (fun a => M1 a ∧ a ∉ f1 i) H1 := fun b o hb m => ⟨hb, fun z => m z.1⟩
    have hs : Is w K cl (fun a => M1 a ∧ a ∉ f1 i) H1 v x.toD := hw.share ex fun a ha z => z.2 ha
    have sub : ∀ j a, a ∈ fpSet f1 i [] j → j ≠ i ∧ a ∈ f1 j := fun j a ha => by
      by_cases q : j = i
      · subst q
        rw [fpSet_same] at ha
        cases ha
      · rw [fpSet_ne q] at ha
        exact ⟨q, ha⟩
    refine ⟨fun a => M1 a ∧ a ∉ f1 i, fpSet f1 i [], ⟨fun j y hy => ?_, fun j hj => ?_, fun j => ?_, fun j k a ha hb => r.dj j k a (sub j a ha).2 (sub k a hb).2, fun j a ha => ⟨r.own j a (sub j a ha).2, fun z => (sub j a ha).1 (r.dj j i a (sub j a ha).2 z)⟩, fun a ha => r.trk a ha.1, by simpa using r.len⟩, hs, ⟨st.keep, st.there, fun b m n => ⟨st.prot b m n, fun z => ?_⟩, fun b z => st.anti b z.1, fun j b hb => st.own j b (sub j b hb).2⟩⟩
    · rcases set_get hy with ⟨e1, e2⟩ | ⟨e1, e2⟩
      · subst e1
        cases e2
        refine ⟨v, hu, ?_⟩
        rw [fpSet_same]
        exact .leaf hs
      · obtain ⟨u', hu', hw'⟩ := r.slot j y e2
        refine ⟨u', hu', ?_⟩
        rw [fpSet_ne (Ne.symm e1)]
        exact hw'.stay ex fun _ _ _ z => z
    · by_cases q : j = i
      · rw [q, fpSet_same]
      · rw [fpSet_ne q]
        refine r.none j fun y hy => hj y ?_
        rw [List.getElem?_set_ne (Ne.symm q)]
        exact hy
    · by_cases q : j = i
      · rw [q, fpSet_same]
        exact List.nodup_nil
      · rw [fpSet_ne q]
        exact r.nd j
    · rcases st.own i b z with y | y
      · exact n i y
      · obtain ⟨o, ho⟩ := t b m
        rw [y] at ho
        cases ho
end

/-! ### judgements -/
def tD (w : World) (K : PySem.W.Frag) (cl : Nat → Addr) (den : Den Rv) : TE := fun σ H Q => ∃ M ρ f rv ρ', RS w K cl M ρ σ H f ∧ den ρ = some (rv, ρ') ∧
  ∀ v M' H' f' fw, RS w K cl M' ρ' σ H' f' → RvOk w K cl M' σ H' f' H rv v fw → Step M H f M' H' f' → Q v H'
/-- .. let go at once -/
def tS (w : World) (K : PySem.W.Frag) (cl : Nat → Addr) (den : Den D) : TE := fun σ H Q => ∃ M ρ f d ρ', RS w K cl M ρ σ H f ∧ den ρ = some (d, ρ') ∧
  ∀ v M' H' f', RS w K cl M' ρ' σ H' f' → Is w K cl M' H' v d → Step M H f M' H' f' → Q v H'
def tDT (w : World) (K : PySem.W.Frag) (cl : Nat → Addr) (den : Den Bool) : TT := fun σ H Q => ∃ M ρ f b ρ', RS w K cl M ρ σ H f ∧ den ρ = some (b, ρ') ∧
  ∀ M' H' f', RS w K cl M' ρ' σ H' f' → Step M H f M' H' f' → Q b H'
def tSA (w : World) (K : PySem.W.Frag) (cl : Nat → Addr) (den : Den (List D)) : TA := fun σ H Q => ∃ M ρ f ds ρ', RS w K cl M ρ σ H f ∧ den ρ = some (ds, ρ') ∧
  ∀ vs M' H' f', RS w K cl M' ρ' σ H' f' → IsL w K cl M' H' vs ds → Step M H f M' H' f' → Q vs H'
abbrev DE (cl : Nat → Addr) (X : Cx) (e : Expr) (den : Den Rv) : Prop := PE X e (tD X.w X.K cl den)
abbrev DSh (cl : Nat → Addr) (X : Cx) (e : Expr) (den : Den D) : Prop := PE X e (tS X.w X.K cl den)
abbrev DT (cl : Nat → Addr) (X : Cx) (e : Expr) (den : Den Bool) : Prop := PT X e (tDT X.w X.K cl den)
abbrev DA (cl : Nat → Addr) (X : Cx) (es : List Expr) (den : Den (List D)) : Prop := PA X es (tSA X.w X.K cl den)

theorem pe_imp {X : Cx} {e : Expr} {t t' : TE} (h : PE X e t) (i : ∀ σ H Q, t' σ H Q → t σ H Q) : PE X e t' := ⟨fun pins s σ H Q I k => h.run pins s σ H Q I (i σ H Q k)⟩
theorem pt_imp {X : Cx} {e : Expr} {t t' : TT} (h : PT X e t) (i : ∀ σ H Q, t' σ H Q → t σ H Q) : PT X e t' := ⟨fun pins s σ H Q I k => h.run pins s σ H Q I (i σ H Q k)⟩
theorem pa_imp {X : Cx} {e : List Expr} {t t' : TA} (h : PA X e t) (i : ∀ σ H Q, t' σ H Q → t σ H Q) : PA X e t' := ⟨fun pos pins s σ H Q I k => h.run pos pins s σ H Q I (i σ H Q k)⟩

def dSh (d : Den Rv) : Den D := fun ρ => (d ρ).bind fun r => shareR r.2 r.1
section
variable {cl : Nat → Addr} {X : Cx} {e : Expr} {a b c : Expr} {pos : Pos}
theorem de_sh {d : Den Rv} (h : DE cl X e d) : DSh cl X e (dSh d) := pe_imp h fun σ H Q ⟨M, ρ, f, dd, ρ', rs, hd, k⟩ => by
  obtain ⟨⟨rv, ρ1⟩, h1, h2⟩ := Option.bind_eq_some_iff.mp hd
  refine ⟨M, ρ, f, rv, ρ1, rs, h1, fun v M' H' f' fw rs' ok st => ?_⟩
  obtain ⟨M2, f2, rs2, is2, st2⟩ := ok.share rs' st rs.trk h2
  exact k v M2 H' f2 rs2 is2 st2
/-- a value that owns nothing -/
def dVal (d : Den D) : Den Rv := fun ρ => (d ρ).map fun r => (.val (.leaf r.1), r.2)
theorem ds_de {d : Den D} (h : DSh cl X e d) : DE cl X e (dVal d) := pe_imp h fun σ H Q ⟨M, ρ, f, rv, ρ', rs, hd, k⟩ => by
  obtain ⟨⟨dd, ρ1⟩, h1, h2⟩ := Option.map_eq_some_iff.mp hd
  cases h2
  exact ⟨M, ρ, f, dd, ρ1, rs, h1, fun v M' H' f' rs' is st => k v M' H' f' [] rs' ⟨.leaf is, List.nodup_nil, fun a ha => nomatch ha⟩ st⟩

/-! ### names, constants -/
def dVar (i : Nat) : Den Rv := fun ρ => match ρ[i]? with
  | some (some (.leaf d)) => some (.val (.leaf d), ρ)
  | some (some _) => some (.slot i, ρ)
  | _ => none
theorem de_var {i : Nat} {x : Str} (hN : X.N[i]? = some x) (hv : Vis X.env.scope x) (hd : (x == ("__debug__" : Str)) = false := by decide) (hcd : (x == ("__classdict__" : Str)) = false := by decide) : DE cl X (.Name x pos) (dVar i) :=
  pe_imp (pe_var hN hv hd hcd) fun σ H Q ⟨M, ρ, f, rv, ρ', rs, hd, k⟩ => by
    unfold dVar at hd
    split at hd
    · rename_i d hx
      cases hd
      obtain ⟨v, hv, hw⟩ := rs.slot i _ hx
      have fi : ∃ l, l = f i := ⟨_, rfl⟩
      obtain ⟨l, hl⟩ := fi
      rw [← hl] at hw
      cases hw with
      | leaf is => exact ⟨v, hv, k v M H f [] rs ⟨.leaf is, List.nodup_nil, fun a ha => nomatch ha⟩ Step.refl⟩
    · rename_i x' hx
      cases hd
      obtain ⟨v, hv, hw⟩ := rs.slot i _ hx
      exact ⟨v, hv, k v M H f [] rs ⟨rfl, hv⟩ Step.refl⟩
    · cases hd
def dC (d : D) : Den Rv := fun ρ => some (.val (.leaf d), ρ)
theorem de_c {v : V} {d : D} (h : PE X e (tC v)) (is : ∀ (w : World) (K : PySem.W.Frag) (M : Addr → Prop) (H : Hp), Is w K cl M H v d) : DE cl X e (dC d) := pe_imp h fun σ H Q ⟨M, ρ, f, rv, ρ', rs, hd, k⟩ => by
  cases hd
  exact k v M H f [] rs ⟨.leaf (is _ _ _ _), List.nodup_nil, fun a ha => nomatch ha⟩ Step.refl
theorem de_int {i : Int} {j : Nat} : DE cl X (.Constant (.int i) j pos) (dC (.int i)) := de_c pe_int fun _ _ _ _ => .int i
theorem de_bl {i : Bool} {j : Nat} : DE cl X (.Constant (.bool i) j pos) (dC (.bool i)) := de_c pe_bl fun _ _ _ _ => .bl i
theorem de_non {j : Nat} : DE cl X (.Constant .none j pos) (dC .none) := de_c pe_non fun _ _ _ _ => .non
theorem de_str {i : Str} {j : Nat} : DE cl X (.Constant (.str i) j pos) (dC (.str i)) := de_c pe_str fun _ _ _ _ => .str i

/-! ### two-place operations whose answer is a number, a text, a truth, None -/
def sv : D → Option V
  | .none => some .non
  | .bool b => some (.bl b)
  | .int i => some (.int i)
  | .str s => some (.str s)
  | _ => none
theorem is_sv {w : World} {K : PySem.W.Frag} {M : Addr → Prop} {H : Hp} {d : D} {v : V} (h : sv d = some v) : Is w K cl M H v d := by
  cases d <;> simp [sv] at h
  all_goals subst h; constructor
theorem sv_is {w : World} {K : PySem.W.Frag} {M : Addr → Prop} {H : Hp} {d : D} {v u : V} (h : sv d = some v) (i : Is w K cl M H u d) : u = v := by
  cases i <;> simp [sv] at h <;> exact h
/-- both operands as they are read -/
def rV2 (w : World) (K : PySem.W.Frag) (cl : Nat → Addr) (g : D → D → Option D) : R2 := fun x y H Q => ∃ dx dy r v, Is w K cl noM H x dx ∧ Is w K cl noM H y dy ∧ g dx dy = some r ∧ sv r = some v ∧ Q v H
def dBin (g : D → D → Option D) (da db : Den Rv) : Den Rv := fun ρ => (da ρ).bind fun x => (db x.2).bind fun y => (viewR y.2 x.1).bind fun dx => (viewR y.2 y.1).bind fun dy => (g dx dy).bind fun r => (sv r).bind fun _ => some (.val (.leaf r), y.2)
theorem dBin_imp {g : D → D → Option D} {da db : Den Rv} {σ : L2.St} {H : Hp} {Q : VK} (h : tD X.w X.K cl (dBin g da db) σ H Q) : tOp (rV2 X.w X.K cl g) (tD X.w X.K cl da) (tD X.w X.K cl db) σ H Q := by
  obtain ⟨M, ρ, f, rv, ρ', rs, hd, k⟩ := h
  obtain ⟨⟨x, ρ1⟩, h1, hd⟩ := Option.bind_eq_some_iff.mp hd
  obtain ⟨⟨y, ρ2⟩, h2, hd⟩ := Option.bind_eq_some_iff.mp hd
  obtain ⟨dx, h3, hd⟩ := Option.bind_eq_some_iff.mp hd
  obtain ⟨dy, h4, hd⟩ := Option.bind_eq_some_iff.mp hd
  obtain ⟨r, h5, hd⟩ := Option.bind_eq_some_iff.mp hd
  obtain ⟨v, h6, hd⟩ := Option.bind_eq_some_iff.mp hd
  cases hd
  refine ⟨M, ρ, f, x, ρ1, rs, h1, fun v1 M1 H1 f1 fw1 rs1 ok1 st1 => ⟨M1, ρ1, f1, y, ρ2, rs1, h2, fun v2 M2 H2 f2 fw2 rs2 ok2 st2 => ?_⟩⟩
  exact ⟨dx, dy, r, v, (ok1.carry rs1 st2).view rs2 h3, ok2.view rs2 h4, h5, h6, k v M2 H2 f2 [] rs2 ⟨.leaf (is_sv h6), List.nodup_nil, fun a ha => nomatch ha⟩ (st1.trans rs.trk st2)⟩
theorem de_bin {op : Operator} {g : D → D → Option D} {da db : Den Rv} (ho : OpR X (binaryOp op) (rV2 X.w X.K cl g)) (ha : DE cl X a da) (hb : DE cl X b db) : DE cl X (.BinOp a op b pos) (dBin g da db) := pe_imp (pe_op ho ha hb) fun _ _ _ => dBin_imp
theorem de_cmp {op : CmpOp} {g : D → D → Option D} {da db : Den Rv} (ho : OpR X (compareOp op) (rV2 X.w X.K cl g)) (ha : DE cl X a da) (hb : DE cl X b db) (hm : behindInMarks op b = false) : DE cl X (.Compare a [op] [b] pos) (dBin g da db) := pe_imp (pe_cmpR ho ha hb hm) fun _ _ _ => dBin_imp
end
end Ws
set_option Elab.async false
set_option linter.all false
set_option maxRecDepth 100000
set_option maxHeartbeats 2000000
/-! Ws3: operators, displays, tests. -/
namespace Ws
open PySem PySem.Spec PyProof.Rows L2

section
variable {w : World} {K : PySem.W.Frag} {cl : Nat → Addr} {M : Addr → Prop} {H : Hp}
theorem is_int {v : V} {i : Int} (h : Is w K cl M H v (.int i)) : v = .int i := by cases h; rfl
theorem is_bool {v : V} {i : Bool} (h : Is w K cl M H v (.bool i)) : v = .bl i := by cases h; rfl
theorem is_str {v : V} {i : Str} (h : Is w K cl M H v (.str i)) : v = .str i := by cases h; rfl
theorem is_none {v : V} (h : Is w K cl M H v .none) : v = .non := by cases h; rfl
def isNone : D → Bool
  | .none => true
  | _ => false
theorem is_none_iff {v : V} {d : D} (h : Is w K cl M H v d) : decide (v = .non) = isNone d := by
  cases h <;> simp [isNone]
theorem is_lst {v : V} {ds : List D} (h : Is w K cl M H v (.lst ds)) : ∃ a xs, v = .ref a ∧ H a = some (.lst xs) ∧ IsL w K cl M H xs ds := by
  cases h with
  | lst h1 h2 h3 => exact ⟨_, _, rfl, h1, h3⟩
theorem is_tup {v : V} {ds : List D} (h : Is w K cl M H v (.tup ds)) : ∃ a xs, v = .ref a ∧ SqT K H a xs ∧ IsL w K cl M H xs ds := by
  cases h with
  | tup h1 h2 h3 => exact ⟨_, _, rfl, .inl h1, h3⟩
  | tupK h1 h2 h3 h4 h5 h6 => exact ⟨_, _, rfl, .inr ⟨_, _, _, h1, h2, h3, h4, h5⟩, h6⟩
end

/-! ### data without dicts and objects, as the library's == takes it -/
mutual
def toPy : D → Option PyData
  | .none => some .none
  | .bool b => some (.bool b)
  | .int i => some (.int i)
  | .str s => some (.str s)
  | .tup xs => (toPys xs).map .tuple
  | .lst xs => (toPys xs).map .list
  | .dct _ => Option.none
  | .obj _ _ => Option.none
  | .exc _ _ => Option.none
  | .scr _ => Option.none
def toPys : List D → Option (List PyData)
  | [] => some []
  | x :: xs => (toPy x).bind fun p => (toPys xs).map fun ps => p :: ps
end
section
variable {w : World} {K : PySem.W.Frag} {cl : Nat → Addr} {M : Addr → Prop} {H : Hp}
mutual
theorem is_dp : ∀ {v : V} {d : D} {p : PyData}, Is w K cl M H v d → toPy d = some p → Dp K H v p
  | _, _, p, .non, e => by simp only [toPy, Option.some.injEq] at e; subst e; exact .non
  | _, _, p, .bl b, e => by simp only [toPy, Option.some.injEq] at e; subst e; exact .bl b
  | _, _, p, .int i, e => by simp only [toPy, Option.some.injEq] at e; subst e; exact .int i
  | _, _, p, .str s, e => by simp only [toPy, Option.some.injEq] at e; subst e; exact .str s
  | _, _, p, .tup h m t, e => by
    simp only [toPy] at e
    obtain ⟨ps, e1, e2⟩ := Option.map_eq_some_iff.mp e
    subst e2
    exact .tup (.inl h) (isL_dp t e1)
  | _, _, p, .tupK a b c d f t, e => by
    simp only [toPy] at e
    obtain ⟨ps, e1, e2⟩ := Option.map_eq_some_iff.mp e
    subst e2
    exact .tup (.inr ⟨_, _, _, a, b, c, d, f⟩) (isL_dp t e1)
  | _, _, p, .lst h m t, e => by
    simp only [toPy] at e
    obtain ⟨ps, e1, e2⟩ := Option.map_eq_some_iff.mp e
    subst e2
    exact .lst (.inl (.inl h)) (isL_dp t e1)
  | _, _, p, .dct h m t _, e => by simp only [toPy] at e; cases e
  | _, _, p, .obj h m t, e => by simp only [toPy] at e; cases e
  | _, _, p, .scr h m, e => by simp only [toPy] at e; cases e
  | _, _, p, .scrK _ _ _ _ _ _, e => by simp only [toPy] at e; cases e
theorem isL_dp : ∀ {vs : List V} {ds : List D} {ps : List PyData}, IsL w K cl M H vs ds → toPys ds = some ps → DpAll K H vs ps
  | _, _, p, .nil, e => by simp only [toPys, Option.some.injEq] at e; subst e; exact .nil
  | _, _, p, .cons a t, e => by
    simp only [toPys] at e
    obtain ⟨p1, e1, e2⟩ := Option.bind_eq_some_iff.mp e
    obtain ⟨p2, e3, e4⟩ := Option.map_eq_some_iff.mp e2
    subst e4
    exact .cons (is_dp a e1) (isL_dp t e3)
end
end

theorem opr_imp {X : Cx} {f : Value → Value → Sem Value} {r r' : R2} (h : OpR X f r) (i : ∀ x y H Q, r' x y H Q → r x y H Q) : OpR X f r' := fun pins s σ H x y v u Q I rx ry q => h pins s σ H x y v u Q I rx ry (i x y H Q q)

/-! ### whole numbers -/
def gI (C : Int → Int → Bool) (g : Int → Int → D) : D → D → Option D
  | .int i, .int j => if C i j = true then some (g i j) else Option.none
  | _, _ => Option.none
theorem gI_some {C : Int → Int → Bool} {g : Int → Int → D} {x y r : D} (h : gI C g x y = some r) : ∃ i j, x = .int i ∧ y = .int j ∧ C i j = true ∧ r = g i j := by
  cases x <;> cases y <;> simp only [gI] at h <;> try cases h
  rename_i i j
  by_cases c : C i j = true
  · rw [if_pos c] at h
    exact ⟨i, j, rfl, rfl, c, (Option.some.inj h).symm⟩
  · rw [if_neg c] at h
    cases h
section
variable {cl : Nat → Addr} {X : Cx}
theorem op_gI {f : Value → Value → Sem Value} {C : Int → Int → Prop} {g : Int → Int → V} {Cb : Int → Int → Bool} {gd : Int → Int → D} (h : OpR X f (rI C g)) (hc : ∀ i j, Cb i j = true → C i j) (hg : ∀ i j, sv (gd i j) = some (g i j)) : OpR X f (rV2 X.w X.K cl (gI Cb gd)) :=
  opr_imp h fun x y H Q ⟨dx, dy, r, v, hx, hy, e, s, q⟩ => by
    obtain ⟨i, j, rfl, rfl, c, rfl⟩ := gI_some e
    rw [hg] at s
    cases s
    exact ⟨i, j, is_int hx, is_int hy, hc i j c, q⟩
theorem op_gI0 {f : Value → Value → Sem Value} {g : Int → Int → V} {gd : Int → Int → D} (h : OpR X f (rI0 g)) (hg : ∀ i j, sv (gd i j) = some (g i j)) : OpR X f (rV2 X.w X.K cl (gI (fun _ _ => true) gd)) :=
  opr_imp h fun x y H Q ⟨dx, dy, r, v, hx, hy, e, s, q⟩ => by
    obtain ⟨i, j, rfl, rfl, c, rfl⟩ := gI_some e
    rw [hg] at s
    cases s
    exact ⟨i, j, is_int hx, is_int hy, q⟩
def gSub := gI (fun _ _ => true) fun i j => .int (i - j)
def gMod := gI (fun _ j => decide (0 < j)) fun i j => .int (i % j)
def gDiv := gI (fun _ j => decide (0 < j ∧ j.natAbs.log2 < 9000)) fun i j => .int (i / j)
def gPow := gI (fun i j => decide (0 ≤ j ∧ j ≤ 1000000 ∧ i.natAbs < 2 ^ 64)) fun i j => .int (i ^ j.toNat)
def gMulI := gI (fun i j => decide ((-(2 ^ 64) < i ∧ i < 2 ^ 64) ∨ (-(2 ^ 64) < j ∧ j < 2 ^ 64))) fun i j => .int (i * j)
def gLt := gI (fun _ _ => true) fun i j => .bool (decide (i < j))
def gLe := gI (fun _ _ => true) fun i j => .bool (decide (i ≤ j))
def gGt := gI (fun _ _ => true) fun i j => .bool (decide (j < i))
def gGe := gI (fun _ _ => true) fun i j => .bool (decide (j ≤ i))
theorem o_sub : OpR X (binaryOp .Sub) (rV2 X.w X.K cl gSub) := op_gI0 op_sub fun _ _ => rfl
theorem o_mod : OpR X (binaryOp .Mod) (rV2 X.w X.K cl gMod) := op_gI op_mod (fun _ _ h => of_decide_eq_true h) fun _ _ => rfl
theorem o_div : OpR X (binaryOp .FloorDiv) (rV2 X.w X.K cl gDiv) := op_gI op_fdivW (fun i j h => of_decide_eq_true (p := 0 < j ∧ j.natAbs.log2 < 9000) h) fun _ _ => rfl
theorem o_pow : OpR X (binaryOp .Pow) (rV2 X.w X.K cl gPow) := op_gI op_pow (fun i j h => of_decide_eq_true (p := 0 ≤ j ∧ j ≤ 1000000 ∧ i.natAbs < 2 ^ 64) h) fun _ _ => rfl
theorem o_mulI : OpR X (binaryOp .Mult) (rV2 X.w X.K cl gMulI) := op_gI op_mul (fun i j h => of_decide_eq_true (p := (-(2 ^ 64) < i ∧ i < 2 ^ 64) ∨ (-(2 ^ 64) < j ∧ j < 2 ^ 64)) h) fun _ _ => rfl
theorem o_lt : OpR X (compareOp .Lt) (rV2 X.w X.K cl gLt) := op_gI0 op_lt fun _ _ => rfl
theorem o_le : OpR X (compareOp .LtE) (rV2 X.w X.K cl gLe) := op_gI0 op_le fun _ _ => rfl
theorem o_gt : OpR X (compareOp .Gt) (rV2 X.w X.K cl gGt) := op_gI0 op_gt fun _ _ => rfl
theorem o_ge : OpR X (compareOp .GtE) (rV2 X.w X.K cl gGe) := op_gI0 op_ge fun _ _ => rfl

/-! ### ==, in, is None over data -/
def gEqv0 (neg : Bool) : D → D → Option D := fun x y => (toPy x).bind fun p => (toPy y).bind fun q => if SeqAt.shaped p = true ∧ SeqAt.shaped q = true then some (.bool (if neg then !PyData.eqv p q else PyData.eqv p q)) else Option.none
theorem gEqv_some {neg : Bool} {x y r : D} (h : gEqv0 neg x y = some r) : ∃ p q, toPy x = some p ∧ toPy y = some q ∧ SeqAt.shaped p = true ∧ SeqAt.shaped q = true ∧ r = .bool (if neg then !PyData.eqv p q else PyData.eqv p q) := by
  obtain ⟨p, h1, h⟩ := Option.bind_eq_some_iff.mp h
  obtain ⟨q, h2, h⟩ := Option.bind_eq_some_iff.mp h
  by_cases c : SeqAt.shaped p = true ∧ SeqAt.shaped q = true
  · rw [if_pos c] at h
    exact ⟨p, q, h1, h2, c.1, c.2, (Option.some.inj h).symm⟩
  · rw [if_neg c] at h
    cases h
def gEqv (neg : Bool) : D → D → Option D := fun x y => match x, y with
  | .str s, .str t => some (.bool (if neg = true then !decide (s = t) else decide (s = t)))
  | x, y => gEqv0 neg x y
theorem dec_strV {s t : Str} : decide (V.str s = V.str t) = decide (s = t) := by
  by_cases e : s = t
  · subst e
    rw [decide_eq_true rfl, decide_eq_true rfl]
  · rw [decide_eq_false e, decide_eq_false (fun z => e (V.str.inj z))]
theorem o_eq (hu : X.A.units + 64 < cLine) : OpR X (compareOp .Eq) (rV2 X.w X.K cl (gEqv false)) :=
  opr_imp (op_eq.or (op_eqD hu)) fun x y H Q ⟨dx, dy, r, v, hx, hy, e, s, q⟩ => by
    unfold gEqv at e
    split at e
    · cases e
      cases s
      have e1 := is_str hx
      have e2 := is_str hy
      subst e1
      subst e2
      refine .inl ⟨rfl, ?_⟩
      rw [dec_strV]
      exact q
    · obtain ⟨p, p', e1, e2, s1, s2, rfl⟩ := gEqv_some e
      cases s
      exact .inr ⟨p, p', is_dp hx e1, is_dp hy e2, s1, s2, q⟩
theorem o_ne (hu : X.A.units + 64 < cLine) : OpR X (compareOp .NotEq) (rV2 X.w X.K cl (gEqv true)) :=
  opr_imp (op_ne.or (op_neD hu)) fun x y H Q ⟨dx, dy, r, v, hx, hy, e, s, q⟩ => by
    unfold gEqv at e
    split at e
    · cases e
      cases s
      have e1 := is_str hx
      have e2 := is_str hy
      subst e1
      subst e2
      refine .inl ⟨rfl, ?_⟩
      rw [dec_strV]
      exact q
    · obtain ⟨p, p', e1, e2, s1, s2, rfl⟩ := gEqv_some e
      cases s
      exact .inr ⟨p, p', is_dp hx e1, is_dp hy e2, s1, s2, q⟩
def gIsN (neg : Bool) : D → D → Option D := fun x y => match y with
  | .none => some (.bool (if neg = true then !isNone x else isNone x))
  | _ => Option.none
theorem o_isN : OpR X (compareOp .Is) (rV2 X.w X.K cl (gIsN false)) :=
  opr_imp op_isN fun x y H Q ⟨dx, dy, r, v, hx, hy, e, s, q⟩ => by
    cases dy <;> simp only [gIsN] at e <;> try cases e
    cases s
    refine ⟨is_none hy, ?_⟩
    rw [is_none_iff hx]
    exact q
theorem o_notN : OpR X (compareOp .IsNot) (rV2 X.w X.K cl (gIsN true)) :=
  opr_imp op_notN fun x y H Q ⟨dx, dy, r, v, hx, hy, e, s, q⟩ => by
    cases dy <;> simp only [gIsN] at e <;> try cases e
    cases s
    refine ⟨is_none hy, ?_⟩
    rw [is_none_iff hx]
    exact q

/-! ### tests -/
def dTest (d : Den Rv) : Den Bool := fun ρ => (d ρ).bind fun r => match r.1 with
  | .val (.leaf (.bool b)) => some (b, r.2)
  | _ => Option.none
theorem dTest_imp {w : World} {K : PySem.W.Frag} {d : Den Rv} {σ : L2.St} {H : Hp} {Q : Bool → Hp → Prop} (h : tDT w K cl (dTest d) σ H Q) : tD w K cl d σ H fun x H1 => ∃ k, x = .bl k ∧ Q k H1 := by
  obtain ⟨M, ρ, f, b, ρ', rs, hd, k⟩ := h
  obtain ⟨⟨rv, ρ1⟩, h1, hd⟩ := Option.bind_eq_some_iff.mp hd
  refine ⟨M, ρ, f, rv, ρ1, rs, h1, fun v M' H' f' fw rs' ok st => ?_⟩
  split at hd
  · rename_i b' e
    cases hd
    have e' : rv = .val (.leaf (.bool b)) := e
    subst e'
    obtain ⟨hw, _, _⟩ := ok
    cases hw with
    | leaf is => exact ⟨b, is_bool is, k M' H' f' rs' st⟩
  · cases hd
section
variable {e a b c : Expr} {rest : List Expr} {pos : Pos}
theorem dt_cmp {op : CmpOp} {g : D → D → Option D} {da db : Den Rv} (ho : OpR X (compareOp op) (rV2 X.w X.K cl g)) (ha : DE cl X a da) (hb : DE cl X b db) (hm : behindInMarks op b = false) : DT cl X (.Compare a [op] [b] pos) (dTest (dBin g da db)) :=
  pt_imp (pt_cmpR ho ha hb hm) fun σ H Q h => dBin_imp (dTest_imp h)
theorem dt_val {d : Den Rv} (h : DE cl X e d) (he : ∀ whole, isTrue e X.env whole = (do let v ← whole; standAt e.pos; holding [v] (truthy v)) := by intro _; rfl) : DT cl X e (dTest d) := pt_imp (pt_val h he) fun σ H Q h => dTest_imp h
abbrev DW (cl : Nat → Addr) (X : Cx) (e : Expr) (den : Den Bool) : Prop := PW X e (tDT X.w X.K cl den)
theorem pw_imp {t t' : TT} (h : PW X e t) (i : ∀ σ H Q, t' σ H Q → t σ H Q) : PW X e t' := ⟨fun wh pins s σ H Q I k => h.run wh pins s σ H Q I (i σ H Q k)⟩
theorem dt_w {d : Den Bool} (h : DW cl X e d) : DT cl X e d := h.pt
theorem dw_and1 {d : Den Bool} (h : DT cl X a d) : DW cl X (.BoolOp .And [a] pos) d := pw_and1 h
theorem dw_or1 {d : Den Bool} (h : DT cl X a d) : DW cl X (.BoolOp .Or [a] pos) d := pw_or1 h
def dAnd (da db : Den Bool) : Den Bool := fun ρ => (da ρ).bind fun r => if r.1 = true then db r.2 else some (false, r.2)
def dOr (da db : Den Bool) : Den Bool := fun ρ => (da ρ).bind fun r => if r.1 = true then some (true, r.2) else db r.2
theorem dAnd_imp {w : World} {K : PySem.W.Frag} {da db : Den Bool} {σ : L2.St} {H : Hp} {Q : Bool → Hp → Prop} (h : tDT w K cl (dAnd da db) σ H Q) : tAnd (tDT w K cl da) (tDT w K cl db) σ H Q := by
  obtain ⟨M, ρ, f, r, ρ', rs, hd, k⟩ := h
  obtain ⟨⟨x, ρ1⟩, h1, hd⟩ := Option.bind_eq_some_iff.mp hd
  refine ⟨M, ρ, f, x, ρ1, rs, h1, fun M' H' f' rs' st => ?_⟩
  cases x with
  | true =>
    rw [if_pos rfl] at hd ⊢
    exact ⟨M', ρ1, f', r, ρ', rs', hd, fun M2 H2 f2 rs2 st2 => k M2 H2 f2 rs2 (st.trans rs.trk st2)⟩
  | false =>
    rw [if_neg (by simp)] at hd ⊢
    cases hd
    exact k M' H' f' rs' st
theorem dOr_imp {w : World} {K : PySem.W.Frag} {da db : Den Bool} {σ : L2.St} {H : Hp} {Q : Bool → Hp → Prop} (h : tDT w K cl (dOr da db) σ H Q) : tOr (tDT w K cl da) (tDT w K cl db) σ H Q := by
  obtain ⟨M, ρ, f, r, ρ', rs, hd, k⟩ := h
  obtain ⟨⟨x, ρ1⟩, h1, hd⟩ := Option.bind_eq_some_iff.mp hd
  refine ⟨M, ρ, f, x, ρ1, rs, h1, fun M' H' f' rs' st => ?_⟩
  cases x with
  | true =>
    rw [if_pos rfl] at hd ⊢
    cases hd
    exact k M' H' f' rs' st
  | false =>
    rw [if_neg (by simp)] at hd ⊢
    exact ⟨M', ρ1, f', r, ρ', rs', hd, fun M2 H2 f2 rs2 st2 => k M2 H2 f2 rs2 (st.trans rs.trk st2)⟩
theorem dw_and {da db : Den Bool} (ha : DT cl X a da) (hb : DW cl X (.BoolOp .And (b :: rest) pos) db) : DW cl X (.BoolOp .And (a :: b :: rest) pos) (dAnd da db) := pw_imp (pw_and ha hb) fun _ _ _ => dAnd_imp
theorem dw_or {da db : Den Bool} (ha : DT cl X a da) (hb : DW cl X (.BoolOp .Or (b :: rest) pos) db) : DW cl X (.BoolOp .Or (a :: b :: rest) pos) (dOr da db) := pw_imp (pw_or ha hb) fun _ _ _ => dOr_imp
def dNot (d : Den Bool) : Den Bool := fun ρ => (d ρ).map fun r => (!r.1, r.2)
theorem dt_not {d : Den Bool} (h : DT cl X a d) : DT cl X (.UnaryOp .Not a pos) (dNot d) := pt_imp (pt_not h) fun σ H Q ⟨M, ρ, f, b, ρ', rs, hd, k⟩ => by
  obtain ⟨⟨x, ρ1⟩, h1, hd⟩ := Option.map_eq_some_iff.mp hd
  cases hd
  exact ⟨M, ρ, f, x, ρ1, rs, h1, fun M' H' f' rs' st => k M' H' f' rs' st⟩

/-! ### .. as values -/
def dOfT (d : Den Bool) : Den Rv := fun ρ => (d ρ).map fun r => (.val (.leaf (.bool r.1)), r.2)
def dOne (d : Den Rv) : Den Rv := fun ρ => (d ρ).bind fun r => match r.1 with
  | .val (.leaf (.bool b)) => some (.val (.leaf (.bool b)), r.2)
  | _ => Option.none
theorem de_one {op : BoolOp} {d : Den Rv} (h : DE cl X a d) : DE cl X (.BoolOp op [a] pos) d := pe_one h
def dAndV (da db : Den Rv) : Den Rv := fun ρ => (dTest da ρ).bind fun r => if r.1 = true then db r.2 else some (.val (.leaf (.bool false)), r.2)
def dOrV (da db : Den Rv) : Den Rv := fun ρ => (dTest da ρ).bind fun r => if r.1 = true then some (.val (.leaf (.bool true)), r.2) else db r.2
def ldB (b : Bool) : Rv := .val (.leaf (.bool b))
theorem rvB {w : World} {K : PySem.W.Frag} {M : Addr → Prop} {σ : L2.St} {H H0 : Hp} {f : Fp} {d : D} {v : V} (h : Is w K cl M H v d) : RvOk w K cl M σ H f H0 (.val (.leaf d)) v [] := ⟨.leaf h, List.nodup_nil, fun _ ha => nomatch ha⟩
theorem rv_base {w : World} {K : PySem.W.Frag} {M M' : Addr → Prop} {σ : L2.St} {H H' H2 : Hp} {f f' f2 : Fp} {M2 : Addr → Prop} {rv : Rv} {v : V} {fw : List Addr} (s : Step M H f M' H' f') (k : RvOk w K cl M2 σ H2 f2 H' rv v fw) : RvOk w K cl M2 σ H2 f2 H rv v fw := k.base fun _ z => s.back z
theorem de_and {da db : Den Rv} (ha : DE cl X a da) (hb : DE cl X (.BoolOp .And (b :: rest) pos) db) : DE cl X (.BoolOp .And (a :: b :: rest) pos) (dAndV da db) := pe_imp (pe_and ha hb) fun σ H Q ⟨M, ρ, f, rv, ρ', rs, hd, k⟩ => by
  obtain ⟨⟨x, ρ1⟩, h1, hd⟩ := Option.bind_eq_some_iff.mp hd
  refine dTest_imp ⟨M, ρ, f, x, ρ1, rs, h1, fun M' H' f' rs' st => ?_⟩
  cases x with
  | true =>
    rw [if_pos rfl] at hd ⊢
    exact ⟨M', ρ1, f', rv, ρ', rs', hd, fun v M2 H2 f2 fw rs2 ok st2 => k v M2 H2 f2 fw rs2 (rv_base st ok) (st.trans rs.trk st2)⟩
  | false =>
    rw [if_neg (by simp)] at hd ⊢
    cases hd
    exact k _ M' H' f' [] rs' (rvB (.bl false)) st
theorem de_or {da db : Den Rv} (ha : DE cl X a da) (hb : DE cl X (.BoolOp .Or (b :: rest) pos) db) : DE cl X (.BoolOp .Or (a :: b :: rest) pos) (dOrV da db) := pe_imp (pe_or ha hb) fun σ H Q ⟨M, ρ, f, rv, ρ', rs, hd, k⟩ => by
  obtain ⟨⟨x, ρ1⟩, h1, hd⟩ := Option.bind_eq_some_iff.mp hd
  refine dTest_imp ⟨M, ρ, f, x, ρ1, rs, h1, fun M' H' f' rs' st => ?_⟩
  cases x with
  | true =>
    rw [if_pos rfl] at hd ⊢
    cases hd
    exact k _ M' H' f' [] rs' (rvB (.bl true)) st
  | false =>
    rw [if_neg (by simp)] at hd ⊢
    exact ⟨M', ρ1, f', rv, ρ', rs', hd, fun v M2 H2 f2 fw rs2 ok st2 => k v M2 H2 f2 fw rs2 (rv_base st ok) (st.trans rs.trk st2)⟩
def dNotV (d : Den Rv) : Den Rv := fun ρ => (dTest d ρ).map fun r => (.val (.leaf (.bool (!r.1))), r.2)
theorem de_not {d : Den Rv} (h : DE cl X a d) : DE cl X (.UnaryOp .Not a pos) (dNotV d) := pe_imp (pe_not h) fun σ H Q ⟨M, ρ, f, rv, ρ', rs, hd, k⟩ => by
  obtain ⟨⟨x, ρ1⟩, h1, hd⟩ := Option.map_eq_some_iff.mp hd
  cases hd
  exact dTest_imp ⟨M, ρ, f, x, ρ1, rs, h1, fun M' H' f' rs' st => k _ M' H' f' [] rs' (rvB (.bl (!x))) st⟩
def dIf (t : Den Bool) (da db : Den Rv) : Den Rv := fun ρ => (t ρ).bind fun r => if r.1 = true then da r.2 else db r.2
theorem de_if {t : Den Bool} {da db : Den Rv} (hc : DT cl X c t) (ha : DE cl X a da) (hb : DE cl X b db) : DE cl X (.IfExp c a b pos) (dIf t da db) := pe_imp (pe_ifExp hc ha hb) fun σ H Q ⟨M, ρ, f, rv, ρ', rs, hd, k⟩ => by
  obtain ⟨⟨x, ρ1⟩, h1, hd⟩ := Option.bind_eq_some_iff.mp hd
  refine ⟨M, ρ, f, x, ρ1, rs, h1, fun M' H' f' rs' st => ?_⟩
  cases x with
  | true =>
    rw [if_pos rfl] at hd ⊢
    exact ⟨M', ρ1, f', rv, ρ', rs', hd, fun v M2 H2 f2 fw rs2 ok st2 => k v M2 H2 f2 fw rs2 (rv_base st ok) (st.trans rs.trk st2)⟩
  | false =>
    rw [if_neg (by simp)] at hd ⊢
    exact ⟨M', ρ1, f', rv, ρ', rs', hd, fun v M2 H2 f2 fw rs2 ok st2 => k v M2 H2 f2 fw rs2 (rv_base st ok) (st.trans rs.trk st2)⟩
/-! ### a < b < c -/
def dChain (g g' : D → D → Option D) (da db dc : Den Rv) : Den Rv := fun ρ => (da ρ).bind fun x => (db x.2).bind fun y => (viewR y.2 x.1).bind fun dx => (viewR y.2 y.1).bind fun dy => (g dx dy).bind fun r => match r with
  | .bool true => (dc y.2).bind fun z => (viewR z.2 y.1).bind fun dy => (viewR z.2 z.1).bind fun dz => (g' dy dz).bind fun r' => (sv r').bind fun _ => some (.val (.leaf r'), z.2)
  | .bool false => some (.val (.leaf (.bool false)), y.2)
  | _ => Option.none
theorem dChain_imp {w : World} {K : PySem.W.Frag} {g g' : D → D → Option D} {da db dc : Den Rv} {σ : L2.St} {H : Hp} {Q : VK} (h : tD w K cl (dChain g g' da db dc) σ H Q) : tChain (rV2 w K cl g) (rV2 w K cl g') (tD w K cl da) (tD w K cl db) (tD w K cl dc) σ H Q := by
  obtain ⟨M, ρ, f, rv, ρ', rs, hd, k⟩ := h
  obtain ⟨⟨x, ρ1⟩, h1, hd⟩ := Option.bind_eq_some_iff.mp hd
  obtain ⟨⟨y, ρ2⟩, h2, hd⟩ := Option.bind_eq_some_iff.mp hd
  obtain ⟨dx, h3, hd⟩ := Option.bind_eq_some_iff.mp hd
  obtain ⟨dy, h4, hd⟩ := Option.bind_eq_some_iff.mp hd
  obtain ⟨r, h5, hd⟩ := Option.bind_eq_some_iff.mp hd
  refine ⟨M, ρ, f, x, ρ1, rs, h1, fun v1 M1 H1 f1 fw1 rs1 ok1 st1 => ⟨M1, ρ1, f1, y, ρ2, rs1, h2, fun v2 M2 H2 f2 fw2 rs2 ok2 st2 => ?_⟩⟩
  have st12 := st1.trans rs.trk st2
  split at hd
  · obtain ⟨⟨z, ρ3⟩, h6, hd⟩ := Option.bind_eq_some_iff.mp hd
    obtain ⟨dy', h7, hd⟩ := Option.bind_eq_some_iff.mp hd
    obtain ⟨dz, h8, hd⟩ := Option.bind_eq_some_iff.mp hd
    obtain ⟨r', h9, hd⟩ := Option.bind_eq_some_iff.mp hd
    obtain ⟨v, h10, hd⟩ := Option.bind_eq_some_iff.mp hd
    cases hd
    refine ⟨dx, dy, .bool true, .bl true, (ok1.carry rs1 st2).view rs2 h3, ok2.view rs2 h4, h5, rfl, true, rfl, ?_⟩
    rw [if_pos rfl]
    refine ⟨M2, ρ2, f2, z, ρ3, rs2, h6, fun v3 M3 H3 f3 fw3 rs3 ok3 st3 => ?_⟩
    exact ⟨dy', dz, r', v, (ok2.carry rs2 st3).view rs3 h7, ok3.view rs3 h8, h9, h10, k v M3 H3 f3 [] rs3 (rvB (is_sv h10)) (st12.trans rs.trk st3)⟩
  · cases hd
    refine ⟨dx, dy, .bool false, .bl false, (ok1.carry rs1 st2).view rs2 h3, ok2.view rs2 h4, h5, rfl, false, rfl, ?_⟩
    rw [if_neg (by simp)]
    exact k _ M2 H2 f2 [] rs2 (rvB (.bl false)) st12
  · cases hd
theorem de_chain {op op' : CmpOp} {g g' : D → D → Option D} {da db dc : Den Rv} (ho : OpR X (compareOp op) (rV2 X.w X.K cl g)) (ho' : OpR X (compareOp op') (rV2 X.w X.K cl g')) (ha : DE cl X a da) (hb : DE cl X b db) (hc : DE cl X c dc)
    (hm : lastMarks [op, op'] [b, c] = false := by with_unfolding_all rfl) : DE cl X (.Compare a [op, op'] [b, c] pos) (dChain g g' da db dc) := pe_imp (pe_chain ho ho' ha hb hc hm) fun _ _ _ => dChain_imp
theorem dt_chain {op op' : CmpOp} {g g' : D → D → Option D} {da db dc : Den Rv} (ho : OpR X (compareOp op) (rV2 X.w X.K cl g)) (ho' : OpR X (compareOp op') (rV2 X.w X.K cl g')) (ha : DE cl X a da) (hb : DE cl X b db) (hc : DE cl X c dc)
    (hm : lastMarks [op, op'] [b, c] = false := by with_unfolding_all rfl) : DT cl X (.Compare a [op, op'] [b, c] pos) (dTest (dChain g g' da db dc)) := pt_imp (pt_chain ho ho' ha hb hc hm) fun _ _ _ h => dChain_imp (dTest_imp h)
end

/-! ### new objects -/
section
variable {w : World} {K : PySem.W.Frag} {M M0 : Addr → Prop} {ρ : Env} {σ : L2.St} {H H0 : Hp} {f f0 : Fp} {p : Addr} {o : HO}
theorem ext_new (n : H p = Option.none) (t : Trk M H) : Ext M H M (upd H p o) := fun b u h m => ⟨by rw [upd_ne (ne_of_none h n)]; exact h, m⟩
theorem ext_newM (n : H p = Option.none) (t : Trk M H) : Ext M H (fun a => M a ∨ a = p) (upd H p o) := fun b u h m => ⟨by rw [upd_ne (ne_of_none h n)]; exact h, fun z => z.elim m fun e => ne_of_none h n e⟩
theorem notM_new (n : H p = Option.none) (t : Trk M H) : ¬ M p := fun m => by
  obtain ⟨o, h⟩ := t p m
  rw [n] at h
  cases h
theorem upd_there {H : Hp} {p b : Addr} {o u : HO} (h : H b = some u) : ∃ u', upd H p o b = some u' := by
  by_cases e : b = p
  · subst e
    exact ⟨o, upd_same⟩
  · exact ⟨u, by rw [upd_ne e]; exact h⟩
/-- a new object that is not to change -/
theorem RS.new (r : RS w K cl M ρ σ H f) (n : H p = Option.none) (o : HO) : RS w K cl M ρ σ (upd H p o) f ∧ Step M H f M (upd H p o) f := by
  have ex := ext_new (o := o) n r.trk
  refine ⟨⟨fun i x hx => ?_, r.none, r.nd, r.dj, r.own, fun a ha => ?_, r.len⟩, ⟨fun b u h _ => by rw [upd_ne (ne_of_none h n)]; exact h, fun b u h => upd_there h, fun _ m _ => m, fun _ m => .inl m, fun _ _ h => .inl h⟩⟩
  · obtain ⟨v, hv, hw⟩ := r.slot i x hx
    exact ⟨v, hv, hw.stay ex fun a _ u h => by rw [upd_ne (ne_of_none h n)]; exact h⟩
  · obtain ⟨u, h⟩ := r.trk a ha
    exact upd_there h
/-- a new object of one's own -/
theorem RS.newM (r : RS w K cl M ρ σ H f) (n : H p = Option.none) (o : HO) : RS w K cl (fun a => M a ∨ a = p) ρ σ (upd H p o) f ∧ Step M H f (fun a => M a ∨ a = p) (upd H p o) f := by
  have ex := ext_newM (o := o) n r.trk
  refine ⟨⟨fun i x hx => ?_, r.none, r.nd, r.dj, fun i a ha => .inl (r.own i a ha), fun a ha => ?_, r.len⟩, ⟨fun b u h _ => by rw [upd_ne (ne_of_none h n)]; exact h, fun b u h => upd_there h, fun _ m _ => .inl m, fun b m => m.elim .inl fun e => .inr (e ▸ n), fun _ _ h => .inl h⟩⟩
  · obtain ⟨v, hv, hw⟩ := r.slot i x hx
    exact ⟨v, hv, hw.stay ex fun a _ u h => by rw [upd_ne (ne_of_none h n)]; exact h⟩
  · rcases ha with ha | ha
    · obtain ⟨u, h⟩ := r.trk a ha
      exact upd_there h
    · rw [ha]
      exact ⟨o, upd_same⟩
theorem RS.not_in (r : RS w K cl M ρ σ H f) (n : H p = Option.none) (i : Nat) : p ∉ f i := fun z => notM_new n r.trk (r.own i p z)
end
section
variable {w : World} {K : PySem.W.Frag} {M : Addr → Prop} {H : Hp} {fw : List Addr}
def leaves : List D → List W := fun ds => ds.map W.leaf
theorem wall_leaves : ∀ {vs : List V} {ds : List D}, IsL w K cl M H vs ds → WAll w K cl M H vs (leaves ds) []
  | _, _, .nil => .nil
  | _, _, .cons a t => WAll.cons (fp := []) (fps := []) (.leaf a) (wall_leaves t)
end
/-- a new list, a new tuple as an answer -/
def ownL (ds : List D) : Rv := .val (.lst (leaves ds))
section
variable {w : World} {K : PySem.W.Frag} {M : Addr → Prop} {ρ : Env} {σ : L2.St} {H H0 : Hp} {f : Fp} {p : Addr} {xs : List V} {ds : List D}
theorem fin_lst (r : RS w K cl M ρ σ H f) (n : H p = Option.none) (hb : H0 p = Option.none) (h : IsL w K cl M H xs ds) :
    RS w K cl (fun a => M a ∨ a = p) ρ σ (upd H p (.lst xs)) f ∧ RvOk w K cl (fun a => M a ∨ a = p) σ (upd H p (.lst xs)) f H0 (ownL ds) (.ref p) [p] ∧ Step M H f (fun a => M a ∨ a = p) (upd H p (.lst xs)) f :=
  ⟨(r.newM n _).1, ⟨.lst upd_same (wall_leaves (h.stay (ext_newM n r.trk))), by simp, fun a ha => by
    have e : a = p := by simpa using ha
    subst e
    exact ⟨.inr rfl, r.not_in n, hb⟩⟩, (r.newM n _).2⟩
theorem fin_tup (r : RS w K cl M ρ σ H f) (n : H p = Option.none) (h : IsL w K cl M H xs ds) :
    RS w K cl M ρ σ (upd H p (.tup xs)) f ∧ Is w K cl M (upd H p (.tup xs)) (.ref p) (.tup ds) ∧ Step M H f M (upd H p (.tup xs)) f :=
  ⟨(r.new n _).1, .tup (.inl upd_same) (notM_new n r.trk) (h.stay (ext_new n r.trk)), (r.new n _).2⟩
end
section
variable {e a b c : Expr} {es : List Expr} {pos : Pos}
theorem da_nil : DA cl X [] (fun ρ => some ([], ρ)) := pa_imp pa_nil fun σ H Q ⟨M, ρ, f, ds, ρ', rs, hd, k⟩ => by
  cases hd
  exact k [] M H f rs .nil Step.refl
def dNil : Den (List D) := fun ρ => some ([], ρ)
def dCons (d : Den Rv) (r : Den (List D)) : Den (List D) := fun ρ => (dSh d ρ).bind fun x => (r x.2).map fun y => (x.1 :: y.1, y.2)
theorem da_cons {d : Den Rv} {r : Den (List D)} (ha : DE cl X e d) (hr : DA cl X es r) (hs : starEach (e :: es) X.env = (false, eval e X.env) :: starEach es X.env := by rfl) : DA cl X (e :: es) (dCons d r) := pa_imp (pa_cons (de_sh ha) hr hs) fun σ H Q ⟨M, ρ, f, ds, ρ', rs, hd, k⟩ => by
  obtain ⟨⟨x, ρ1⟩, h1, hd⟩ := Option.bind_eq_some_iff.mp hd
  obtain ⟨⟨y, ρ2⟩, h2, hd⟩ := Option.map_eq_some_iff.mp hd
  cases hd
  refine ⟨M, ρ, f, x, ρ1, rs, h1, fun v M1 H1 f1 rs1 is1 st1 => ⟨M1, ρ1, f1, y, ρ2, rs1, h2, fun vs M2 H2 f2 rs2 is2 st2 => ?_⟩⟩
  exact k (v :: vs) M2 H2 f2 rs2 (.cons (is1.stay (rs1.ext st2)) is2) (st1.trans rs.trk st2)
def dLst (d : Den (List D)) : Den Rv := fun ρ => (d ρ).bind fun r => if r.1.length ≤ sizeLine then some (ownL r.1, r.2) else Option.none
theorem de_lst {d : Den (List D)} (h : DA cl X es d) : DE cl X (.List es pos) (dLst d) := pe_imp (pe_lst h) fun σ H Q ⟨M, ρ, f, rv, ρ', rs, hd, k⟩ => by
  obtain ⟨⟨ds, ρ1⟩, h1, hd⟩ := Option.bind_eq_some_iff.mp hd
  by_cases c : ds.length ≤ sizeLine
  · rw [if_pos c] at hd
    cases hd
    refine ⟨M, ρ, f, ds, ρ1, rs, h1, fun vs M1 H1 f1 rs1 is1 st1 => ⟨by rw [is1.length]; exact c, fun p np => ?_⟩⟩
    obtain ⟨r2, ok, st2⟩ := fin_lst rs1 np (st1.back np) is1
    exact k _ _ _ _ _ r2 ok (st1.trans rs.trk st2)
  · rw [if_neg c] at hd
    cases hd
def dTup (d : Den (List D)) : Den Rv := fun ρ => (d ρ).bind fun r => if r.1.length ≤ sizeLine then some (.val (.leaf (.tup r.1)), r.2) else Option.none
theorem de_tup {k1} {d : Den (List D)} (h : DA cl X es d) : DE cl X (.Tuple es k1 pos) (dTup d) := pe_imp (pe_tup h) fun σ H Q ⟨M, ρ, f, rv, ρ', rs, hd, k⟩ => by
  obtain ⟨⟨ds, ρ1⟩, h1, hd⟩ := Option.bind_eq_some_iff.mp hd
  by_cases c : ds.length ≤ sizeLine
  · rw [if_pos c] at hd
    cases hd
    refine ⟨M, ρ, f, ds, ρ1, rs, h1, fun vs M1 H1 f1 rs1 is1 st1 => ⟨by rw [is1.length]; exact c, fun p np => ?_⟩⟩
    obtain ⟨r2, is2, st2⟩ := fin_tup rs1 np is1
    exact k _ _ _ _ [] r2 (rvB is2) (st1.trans rs.trk st2)
  · rw [if_neg c] at hd
    cases hd
end
end
end Ws
set_option Elab.async false
set_option linter.all false
set_option maxRecDepth 100000
set_option maxHeartbeats 2000000
/-! Ws4: statements, defs, calls. -/
namespace Ws
open PySem PySem.Spec PyProof.Rows L2

inductive Out where
  | next
  | brk
  | cont
  | ret (rv : Rv)
  deriving Inhabited
def OutOk (w : World) (K : PySem.W.Frag) (cl : Nat → Addr) (E : Ends) (M' : Addr → Prop) (σ' : L2.St) (H' : Hp) (f' : Fp) (H : Hp) : Out → Prop
  | .next => E.nx σ' H'
  | .brk => E.bk σ' H'
  | .cont => E.ct σ' H'
  | .ret rv => ∀ v fw, RvOk w K cl M' σ' H' f' H rv v fw → E.rt v H'
def Par (np : Nat) (σ σ' : L2.St) : Prop := ∀ i, i < np → σ'[i]? = σ[i]?
theorem Par.refl {np : Nat} {σ : L2.St} : Par np σ σ := fun _ _ => rfl
theorem Par.trans {np : Nat} {σ σ1 σ2 : L2.St} (a : Par np σ σ1) (b : Par np σ1 σ2) : Par np σ σ2 := fun i h => (b i h).trans (a i h)
def tDS (w : World) (K : PySem.W.Frag) (cl : Nat → Addr) (np : Nat) (den : Den Out) : TS := fun E σ H => ∃ M ρ f o ρ', RS w K cl M ρ σ H f ∧ den ρ = some (o, ρ') ∧
  ∀ σ' M' H' f', RS w K cl M' ρ' σ' H' f' → Step M H f M' H' f' → Par np σ σ' → OutOk w K cl E M' σ' H' f' H o
abbrev DS (cl : Nat → Addr) (np : Nat) (X : Cx) (st : Stmt) (den : Den Out) : Prop := PS X st (tDS X.w X.K cl np den)
abbrev DSs (cl : Nat → Addr) (np : Nat) (X : Cx) (st : List Stmt) (den : Den Out) : Prop := PSs X st (tDS X.w X.K cl np den)
theorem ps_imp {X : Cx} {e : Stmt} {t t' : TS} (h : PS X e t) (i : ∀ E σ H, t' E σ H → t E σ H) : PS X e t' := ⟨fun pins s σ H D I k => h.run pins s σ H D I (i D σ H k)⟩
theorem pss_imp {X : Cx} {e : List Stmt} {t t' : TS} (h : PSs X e t) (i : ∀ E σ H, t' E σ H → t E σ H) : PSs X e t' := ⟨fun pins s σ H D I k => h.run pins s σ H D I (i D σ H k)⟩

section
variable {cl : Nat → Addr} {np : Nat} {X : Cx} {e : Expr} {a b : List Stmt} {st : Stmt} {rest : List Stmt} {pos : Pos}
theorem out_base {w : World} {K : PySem.W.Frag} {E : Ends} {M M1 M' : Addr → Prop} {σ' : L2.St} {H H1 H' : Hp} {f f1 f' : Fp} {o : Out} (s : Step M H f M1 H1 f1) (h : OutOk w K cl E M' σ' H' f' H o) : OutOk w K cl E M' σ' H' f' H1 o := by
  cases o with
  | next => exact h
  | brk => exact h
  | cont => exact h
  | ret rv => exact fun v fw k => h v fw (rv_base s k)
def dSeq (d1 d2 : Den Out) : Den Out := fun ρ => (d1 ρ).bind fun r => match r.1 with
  | .next => d2 r.2
  | o => some (o, r.2)
theorem dSeq_imp {w : World} {K : PySem.W.Frag} {d1 d2 : Den Out} {E : Ends} {σ : L2.St} {H : Hp} (h : tDS w K cl np (dSeq d1 d2) E σ H) : tSeq (tDS w K cl np d1) (tDS w K cl np d2) E σ H := by
  obtain ⟨M, ρ, f, o, ρ', rs, hd, k⟩ := h
  obtain ⟨⟨o1, ρ1⟩, h1, hd⟩ := Option.bind_eq_some_iff.mp hd
  refine ⟨M, ρ, f, o1, ρ1, rs, h1, fun σ1 M1 H1 f1 rs1 st1 p1 => ?_⟩
  cases o1 with
  | next => exact ⟨M1, ρ1, f1, o, ρ', rs1, hd, fun σ2 M2 H2 f2 rs2 st2 p2 => out_base st1 (k σ2 M2 H2 f2 rs2 (st1.trans rs.trk st2) (p1.trans p2))⟩
  | brk => cases hd; exact k σ1 M1 H1 f1 rs1 st1 p1
  | cont => cases hd; exact k σ1 M1 H1 f1 rs1 st1 p1
  | ret rv => cases hd; exact k σ1 M1 H1 f1 rs1 st1 p1
theorem dss_cons {d1 d2 : Den Out} (h1 : DS cl np X st d1) (h2 : DSs cl np X rest d2) : DSs cl np X (st :: rest) (dSeq d1 d2) := pss_imp (pss_cons h1 h2) fun _ _ _ => dSeq_imp
theorem dss_one {d : Den Out} (h : DS cl np X st d) : DSs cl np X [st] d := pss_one h
def dNext : Den Out := fun ρ => some (.next, ρ)
theorem dss_nil : DSs cl np X [] dNext := pss_imp pss_nil fun E σ H ⟨M, ρ, f, o, ρ', rs, hd, k⟩ => by
  cases hd
  exact k σ M H f rs Step.refl Par.refl
theorem ds_pass : DS cl np X (.Pass pos) dNext := ps_imp ps_pass fun E σ H ⟨M, ρ, f, o, ρ', rs, hd, k⟩ => by
  cases hd
  exact k σ M H f rs Step.refl Par.refl
def dBrk : Den Out := fun ρ => some (.brk, ρ)
theorem ds_break : DS cl np X (.Break pos) dBrk := ps_imp ps_break fun E σ H ⟨M, ρ, f, o, ρ', rs, hd, k⟩ => by
  cases hd
  exact k σ M H f rs Step.refl Par.refl
def dCont : Den Out := fun ρ => some (.cont, ρ)
theorem ds_continue : DS cl np X (.Continue pos) dCont := ps_imp ps_continue fun E σ H ⟨M, ρ, f, o, ρ', rs, hd, k⟩ => by
  cases hd
  exact k σ M H f rs Step.refl Par.refl
def dRet (d : Den Rv) : Den Out := fun ρ => (d ρ).map fun r => (.ret r.1, r.2)
theorem ds_ret {d : Den Rv} (h : DE cl X e d) : DS cl np X (.Return (some e) pos) (dRet d) := ps_imp (ps_ret h) fun E σ H ⟨M, ρ, f, o, ρ', rs, hd, k⟩ => by
  obtain ⟨⟨rv, ρ1⟩, h1, hd⟩ := Option.map_eq_some_iff.mp hd
  cases hd
  exact ⟨M, ρ, f, rv, ρ1, rs, h1, fun v M1 H1 f1 fw rs1 ok st1 => k σ M1 H1 f1 rs1 st1 Par.refl v fw ok⟩
def dRetN : Den Out := fun ρ => some (.ret (.val (.leaf .none)), ρ)
theorem ds_retN : DS cl np X (.Return none pos) dRetN := ps_imp ps_retN fun E σ H ⟨M, ρ, f, o, ρ', rs, hd, k⟩ => by
  cases hd
  exact k σ M H f rs Step.refl Par.refl .non [] (rvB .non)
def dDrop (d : Den Rv) : Den Out := fun ρ => (d ρ).map fun r => (.next, r.2)
theorem ds_expr {d : Den Rv} (h : DE cl X e d) (hs : swapsWith e none pos.line X.env = pure false := by rfl) : DS cl np X (.Expr e pos) (dDrop d) := ps_imp (ps_expr h hs) fun E σ H ⟨M, ρ, f, o, ρ', rs, hd, k⟩ => by
  obtain ⟨⟨rv, ρ1⟩, h1, hd⟩ := Option.map_eq_some_iff.mp hd
  cases hd
  exact ⟨M, ρ, f, rv, ρ1, rs, h1, fun v M1 H1 f1 fw rs1 ok st1 => k σ M1 H1 f1 rs1 st1 Par.refl⟩
def dIfS (t : Den Bool) (d1 d2 : Den Out) : Den Out := fun ρ => (t ρ).bind fun r => if r.1 = true then d1 r.2 else d2 r.2
theorem ds_if {t : Den Bool} {d1 d2 : Den Out} {c : Expr} (hc : DT cl X c t) (ha : DSs cl np X a d1) (hb : DSs cl np X b d2) : DS cl np X (.If c a b pos) (dIfS t d1 d2) := ps_imp (ps_if hc ha hb) fun E σ H ⟨M, ρ, f, o, ρ', rs, hd, k⟩ => by
  obtain ⟨⟨x, ρ1⟩, h1, hd⟩ := Option.bind_eq_some_iff.mp hd
  refine ⟨M, ρ, f, x, ρ1, rs, h1, fun M1 H1 f1 rs1 st1 => ?_⟩
  cases x with
  | true =>
    rw [if_pos rfl] at hd ⊢
    exact ⟨M1, ρ1, f1, o, ρ', rs1, hd, fun σ2 M2 H2 f2 rs2 st2 p2 => out_base st1 (k σ2 M2 H2 f2 rs2 (st1.trans rs.trk st2) p2)⟩
  | false =>
    rw [if_neg (by simp)] at hd ⊢
    exact ⟨M1, ρ1, f1, o, ρ', rs1, hd, fun σ2 M2 H2 f2 rs2 st2 p2 => out_base st1 (k σ2 M2 H2 f2 rs2 (st1.trans rs.trk st2) p2)⟩
/-- a statement that is never reached -/
def dNever : Den Out := fun _ => Option.none
theorem ds_never : DS cl np X st dNever := ⟨fun _ _ _ _ _ _ ⟨_, _, _, _, _, _, hd, _⟩ => nomatch hd⟩

/-! ### stores to names -/
section
variable {w : World} {K : PySem.W.Frag} {M M0 : Addr → Prop} {ρ : Env} {σ : L2.St} {H H0 : Hp} {f f0 : Fp} {v : V} {x : W} {fw : List Addr} {i : Nat}
theorem RS.store (r : RS w K cl M ρ σ H f) (hi : i < ρ.length) (h : WIs w K cl M H v x fw) (nd : fw.Nodup) (q : ∀ a ∈ fw, M a ∧ ∀ j, a ∉ f j) : RS w K cl M (ρ.set i (some x)) (σ.set i (some v)) H (fpSet f i fw) := by
  refine ⟨fun j y hy => ?_, fun j hj => ?_, fun j => ?_, fun j k a ha hb => ?_, fun j a ha => ?_, r.trk, by simpa using r.len⟩
  · rcases set_get hy with ⟨e1, e2⟩ | ⟨e1, e2⟩
    · subst e1
      cases e2
      refine ⟨v, ?_, by rw [fpSet_same]; exact h⟩
      rw [List.getElem?_set_self (by rw [← r.len]; exact hi)]
    · obtain ⟨u, hu, hw⟩ := r.slot j y e2
      refine ⟨u, by rw [List.getElem?_set_ne e1]; exact hu, by rw [fpSet_ne (Ne.symm e1)]; exact hw⟩
  · by_cases e : j = i
    · subst e
      exact absurd (List.getElem?_set_self hi) (hj x)
    · rw [fpSet_ne e]
      refine r.none j fun y hy => hj y ?_
      rw [List.getElem?_set_ne (Ne.symm e)]
      exact hy
  · by_cases e : j = i
    · rw [e, fpSet_same]; exact nd
    · rw [fpSet_ne e]; exact r.nd j
  · by_cases e1 : j = i
    · by_cases e2 : k = i
      · rw [e1, e2]
      · rw [e1, fpSet_same] at ha
        rw [fpSet_ne e2] at hb
        exact absurd hb ((q a ha).2 k)
    · rw [fpSet_ne e1] at ha
      by_cases e2 : k = i
      · rw [e2, fpSet_same] at hb
        exact absurd ha ((q a hb).2 j)
      · rw [fpSet_ne e2] at hb
        exact r.dj j k a ha hb
  · by_cases e : j = i
    · rw [e, fpSet_same] at ha; exact (q a ha).1
    · rw [fpSet_ne e] at ha; exact r.own j a ha
theorem Step.store {M1 : Addr → Prop} {H1 : Hp} {f1 : Fp} (s : Step M0 H0 f0 M1 H1 f1) (q : ∀ a ∈ fw, H0 a = Option.none) : Step M0 H0 f0 M1 H1 (fpSet f1 i fw) := ⟨s.keep, s.there, s.prot, s.anti, fun j b hb => by
  by_cases e : j = i
  · rw [e, fpSet_same] at hb; exact .inr (q b hb)
  · rw [fpSet_ne e] at hb; exact s.own j b hb⟩
end
def putR (i : Nat) (r : Rv × Env) : Option Env := match r.1 with
  | .val x => if i < r.2.length then some (r.2.set i (some x)) else Option.none
  | .slot j => (shareR r.2 (.slot j)).bind fun y => if i < y.2.length then some (y.2.set i (some (.leaf y.1))) else Option.none
theorem putR_ok {w : World} {K : PySem.W.Frag} {M0 M : Addr → Prop} {ρ ρ' : Env} {σ : L2.St} {H0 H : Hp} {f0 f : Fp} {v : V} {rv : Rv} {fw : List Addr} {i : Nat} (r : RS w K cl M ρ σ H f) (ok : RvOk w K cl M σ H f H0 rv v fw) (st : Step M0 H0 f0 M H f) (t : Trk M0 H0) (e : putR i (rv, ρ) = some ρ') :
    ∃ M' f', RS w K cl M' ρ' (σ.set i (some v)) H f' ∧ Step M0 H0 f0 M' H f' := by
  cases rv with
  | val x =>
    have e' : (if i < ρ.length then some (ρ.set i (some x)) else Option.none) = some ρ' := e
    by_cases c : i < ρ.length
    · rw [if_pos c] at e'
      cases e'
      obtain ⟨h, nd, q⟩ := ok
      exact ⟨M, _, r.store c h nd fun a ha => ⟨(q a ha).1, (q a ha).2.1⟩, st.store fun a ha => (q a ha).2.2⟩
    · rw [if_neg c] at e'
      cases e'
  | slot j =>
    obtain ⟨⟨d, ρ1⟩, h1, e⟩ := Option.bind_eq_some_iff.mp (show (shareR ρ (.slot j)).bind (fun y => if i < y.2.length then some (y.2.set i (some (W.leaf y.1))) else Option.none) = some ρ' from e)
    by_cases c : i < ρ1.length
    · have e' : (if i < ρ1.length then some (ρ1.set i (some (W.leaf d))) else Option.none) = some ρ' := e
      rw [if_pos c] at e'
      cases e'
      obtain ⟨M2, f2, rs2, is2, st2⟩ := ok.share r st t h1
      exact ⟨M2, _, rs2.store c (.leaf is2) List.nodup_nil (fun a ha => nomatch ha), st2.store fun a ha => nomatch ha⟩
    · have e' : (if i < ρ1.length then some (ρ1.set i (some (W.leaf d))) else Option.none) = some ρ' := e
      rw [if_neg c] at e'
      cases e'
def dSet (i : Nat) (d : Den Rv) : Den Out := fun ρ => (d ρ).bind fun r => (putR i r).map fun ρ' => (.next, ρ')
theorem par_set {σ : L2.St} {i : Nat} {v : V} (h : np ≤ i) : Par np σ (σ.set i (some v)) := fun j hj => List.getElem?_set_ne (by omega)
theorem ds_set {i : Nat} {x : Str} {d : Den Rv} {xpos : Pos} (hN : X.N.Nodup) (hi : X.N[i]? = some x) (hx : Loc X.env.scope x) (hp : np ≤ i) (h : DE cl X e d) (hs : swapsWithSole [.Name x xpos] e pos.line X.env = pure false := by rfl) (hw : swappedStores [.Name x xpos] e X.env = pure none := by rfl)
    (hf : X.fn x = true ∨ X.env.scope.names.lookup x = some .local := by first | exact .inl rfl | exact .inr rfl | assumption) : DS cl np X (.Assign [.Name x xpos] e pos) (dSet i d) := ps_imp (ps_asg h (pg_name hN hi hx hf) hs hw) fun E σ H ⟨M, ρ, f, o, ρ', rs, hd, k⟩ => by
  obtain ⟨⟨rv, ρ1⟩, h1, hd⟩ := Option.bind_eq_some_iff.mp hd
  obtain ⟨ρ2, h2, hd⟩ := Option.map_eq_some_iff.mp hd
  cases hd
  refine ⟨M, ρ, f, rv, ρ1, rs, h1, fun v M1 H1 f1 fw rs1 ok st1 => ?_⟩
  obtain ⟨M2, f2, rs2, st2⟩ := putR_ok rs1 ok st1 rs.trk h2
  exact k _ M2 H1 f2 rs2 st2 (par_set hp)
end

/-! ### what a def promises -/
def ArgRS (w : World) (K : PySem.W.Frag) (cl : Nat → Addr) (M : Addr → Prop) (ws : List W) (vs : List V) (H : Hp) (f : Fp) : Prop := RS w K cl M (ws.map some) (vs.map some) H f
def spW (w : World) (K : PySem.W.Frag) (cl : Nat → Addr) (den : List W → Option (W × List W)) : Sp := fun vs H Q _ => ∃ M ws f r ws', ArgRS w K cl M ws vs H f ∧ den ws = some (r, ws') ∧
  ∀ v M' H' f' fw, ArgRS w K cl M' ws' vs H' f' → Step M H f M' H' f' → RvOk w K cl M' [] H' f' H (.val r) v fw → Q v H'
def allSome {α : Type} : List (Option α) → Option (List α)
  | [] => some []
  | some x :: r => (allSome r).map (x :: ·)
  | Option.none :: _ => Option.none
theorem allSome_map {α : Type} : ∀ {l : List (Option α)} {r : List α}, allSome l = some r → l = r.map some
  | [], _, h => by cases h; rfl
  | some x :: l, r, h => by
    obtain ⟨r', h1, h2⟩ := Option.map_eq_some_iff.mp (show (allSome l).map (x :: ·) = some r from h)
    subst h2
    rw [allSome_map h1]
    rfl
  | Option.none :: _, _, h => nomatch h
def dOut (np : Nat) : Out × Env → Option (W × List W)
  | (.next, ρ) => (allSome (ρ.take np)).map fun ws => (.leaf .none, ws)
  | (.ret (.val x), ρ) => (allSome (ρ.take np)).map fun ws => (x, ws)
  | (.ret (.slot i), ρ) => if i < np then (shareR ρ (.slot i)).bind fun y => (allSome (y.2.take np)).map fun ws => (.leaf y.1, ws) else (slotW ρ i).bind fun x => (allSome (ρ.take np)).map fun ws => (x, ws)
  | _ => Option.none
def dFn (np n : Nat) (body : Den Out) : List W → Option (W × List W) := fun ws => if ws.length = np then (body (ws.map some ++ List.replicate (n - np) Option.none)).bind (dOut np) else Option.none
section
variable {w : World} {K : PySem.W.Frag} {cl : Nat → Addr} {M M' : Addr → Prop} {ws : List W} {vs : List V} {H H' : Hp} {f f' : Fp} {np n : Nat}
theorem ArgRS.len (a : ArgRS w K cl M ws vs H f) : ws.length = vs.length := by simpa using RS.len a
theorem ArgRS.start (a : ArgRS w K cl M ws vs H f) (N : List Str) (hn : N.length = n) (hw : ws.length = np) : RS w K cl M (ws.map some ++ List.replicate (n - np) Option.none) (L2.start N vs) H f := by
  have hl := a.len
  have hv : vs.length = np := by omega
  refine ⟨fun i x hx => ?_, fun i hi => RS.none a i fun x hx => hi x ?_, RS.nd a, RS.dj a, RS.own a, RS.trk a, ?_⟩
  · rw [List.getElem?_append] at hx
    split at hx
    · obtain ⟨v, h1, h2⟩ := RS.slot a i x hx
      refine ⟨v, ?_, h2⟩
      unfold L2.start
      rw [List.getElem?_append_left (by have := (List.getElem?_eq_some_iff.mp h1).1; exact this)]
      exact h1
    · rw [List.getElem?_replicate] at hx
      split at hx <;> cases hx
  · rw [List.getElem?_append_left (by have := (List.getElem?_eq_some_iff.mp hx).1; exact this)]
    exact hx
  · unfold L2.start
    simp only [List.length_append, List.length_map, List.length_replicate, hl, hn, hv]
/-- at a def's end: its arguments again -/
theorem args_end {ρ' : Env} {σ' : L2.St} {ws' : List W} (r : RS w K cl M' ρ' σ' H' f') (hs : ∀ i, i < vs.length → σ'[i]? = (vs.map some)[i]?) (e : ρ'.take vs.length = ws'.map some) (hl : vs.length ≤ ρ'.length) :
    ArgRS w K cl M' ws' vs H' (fun i => if i < vs.length then f' i else []) := by
  have hw : ws'.length = vs.length := by
    have := congrArg List.length e
    rw [List.length_take, List.length_map] at this
    omega
  have sub : ∀ i a, a ∈ (if i < vs.length then f' i else []) → i < vs.length ∧ a ∈ f' i := fun i a ha => by
    by_cases c : i < vs.length
    · rw [if_pos c] at ha; exact ⟨c, ha⟩
    · rw [if_neg c] at ha; cases ha
  refine ⟨fun i x hx => ?_, fun i hi => ?_, fun i => ?_, fun i j a ha hb => r.dj i j a (sub i a ha).2 (sub j a hb).2, fun i a ha => r.own i a (sub i a ha).2, r.trk, by simpa using hw⟩
  · have c : i < vs.length := by
      have := (List.getElem?_eq_some_iff.mp hx).1
      rw [List.length_map] at this
      omega
    have hx' : ρ'[i]? = some (some x) := by
      rw [← e, List.getElem?_take_of_lt c] at hx
      exact hx
    obtain ⟨v, h1, h2⟩ := r.slot i x hx'
    refine ⟨v, by rw [← hs i c]; exact h1, ?_⟩
    show WIs w K cl M' H' v x (if i < vs.length then f' i else [])
    rw [if_pos c]
    exact h2
  · show (if i < vs.length then f' i else []) = []
    by_cases c : i < vs.length
    · rw [if_pos c]
      refine r.none i fun x hx => hi x ?_
      rw [← e, List.getElem?_take_of_lt c]
      exact hx
    · rw [if_neg c]
  · show (if i < vs.length then f' i else []).Nodup
    split
    · exact r.nd i
    · exact List.nodup_nil
theorem step_args (s : Step M H f M' H' f') (k : Nat) : Step M H f M' H' (fun i => if i < k then f' i else []) := ⟨s.keep, s.there, s.prot, s.anti, fun i b hb => by
  by_cases c : i < k
  · have hb' : b ∈ (if i < k then f' i else []) := hb
    rw [if_pos c] at hb'
    exact s.own i b hb'
  · have hb' : b ∈ (if i < k then f' i else []) := hb
    rw [if_neg c] at hb'
    cases hb'⟩
/-- from a body's end to the promise -/
theorem fn_end {N : List Str} {den : Den Out} {Q : VK} {E : XK} (hN : N.length = n) (h : spW w K cl (dFn np n den) vs H Q E) : tDS w K cl np den { nx := fun _ H' => Q .non H', rt := Q } (L2.start N vs) H := by
  obtain ⟨M, ws, f, r, ws', a, hd, k⟩ := h
  have hw : ws.length = np := by
    by_cases c : ws.length = np
    · exact c
    · unfold dFn at hd
      rw [if_neg c] at hd
      cases hd
  unfold dFn at hd
  rw [if_pos hw] at hd
  obtain ⟨⟨o, ρ'⟩, h1, hd⟩ := Option.bind_eq_some_iff.mp hd
  have hl := a.len
  have hv : vs.length = np := by omega
  refine ⟨M, _, f, o, ρ', a.start N hN hw, h1, fun σ' M' H' f' rs st par => ?_⟩
  have hs : ∀ i, i < vs.length → σ'[i]? = (vs.map some)[i]? := fun i c => by
    rw [par i (by omega)]
    unfold L2.start
    rw [List.getElem?_append_left (by simpa using c)]
  have fin : ∀ (M2 : Addr → Prop) (ρ2 : Env) (f2 : Fp) (wr : W) (v : V) (fw : List Addr), RS w K cl M2 ρ2 σ' H' f2 → Step M H f M2 H' f2 → (allSome (ρ2.take np)) = some ws' → wr = r →
      WIs w K cl M2 H' v wr fw → fw.Nodup → (∀ b ∈ fw, M2 b ∧ (∀ i, i < np → b ∉ f2 i) ∧ H b = Option.none) → Q v H' := fun M2 ρ2 f2 wr v fw r2 s2 e er hw2 nd q => by
    subst er
    have e' := allSome_map e
    rw [← hv] at e'
    have hlen : vs.length ≤ ρ2.length := by
      by_cases c : vs.length ≤ ρ2.length
      · exact c
      · have e1 := r2.len
        have c2 : ρ2.length < vs.length := by omega
        have e3 := hs ρ2.length c2
        rw [List.getElem?_eq_none (by omega)] at e3
        have e4 : (vs.map some)[ρ2.length]? ≠ Option.none := by
          intro z
          have := List.getElem?_eq_none_iff.mp z
          rw [List.length_map] at this
          omega
        exact absurd e3.symm e4
    have a2 := args_end (vs := vs) r2 hs e' hlen
    refine k v M2 H' _ fw a2 (step_args s2 _) ⟨hw2, nd, fun b hb => ⟨(q b hb).1, fun i hi => ?_, (q b hb).2.2⟩⟩
    have hi' : b ∈ (if i < vs.length then f2 i else []) := hi
    by_cases c : i < vs.length
    · rw [if_pos c] at hi'
      exact (q b hb).2.1 i (by omega) hi'
    · rw [if_neg c] at hi'
      cases hi'
  cases o with
  | brk => cases hd
  | cont => cases hd
  | next =>
    obtain ⟨ws2, e1, e2⟩ := Option.map_eq_some_iff.mp (show (allSome (ρ'.take np)).map (fun ws => ((W.leaf .none : W), ws)) = some (r, ws') from hd)
    cases e2
    exact fin M' ρ' f' _ .non [] rs st e1 rfl (.leaf .non) List.nodup_nil fun b hb => nomatch hb
  | ret rv =>
    intro v fw ok
    cases rv with
    | val x =>
      obtain ⟨ws2, e1, e2⟩ := Option.map_eq_some_iff.mp (show (allSome (ρ'.take np)).map (fun ws => (x, ws)) = some (r, ws') from hd)
      cases e2
      exact fin M' ρ' f' _ v fw rs st e1 rfl ok.1 ok.2.1 fun b hb => ⟨(ok.2.2 b hb).1, fun i _ => (ok.2.2 b hb).2.1 i, (ok.2.2 b hb).2.2⟩
    | slot i =>
      have hd' : (if i < np then (shareR ρ' (.slot i)).bind (fun y => (allSome (y.2.take np)).map fun ws => (W.leaf y.1, ws)) else (slotW ρ' i).bind fun x => (allSome (ρ'.take np)).map fun ws => (x, ws)) = some (r, ws') := hd
      by_cases c : i < np
      · rw [if_pos c] at hd'
        obtain ⟨⟨d, ρ2⟩, e1, hd'⟩ := Option.bind_eq_some_iff.mp hd'
        obtain ⟨ws2, e2, e3⟩ := Option.map_eq_some_iff.mp hd'
        cases e3
        obtain ⟨M2, f2, rs2, is2, st2⟩ := ok.share rs st (RS.trk a) e1
        exact fin M2 ρ2 f2 _ v [] rs2 st2 e2 rfl (.leaf is2) List.nodup_nil fun b hb => nomatch hb
      · rw [if_neg c] at hd'
        obtain ⟨x, e1, hd'⟩ := Option.bind_eq_some_iff.mp hd'
        obtain ⟨ws2, e2, e3⟩ := Option.map_eq_some_iff.mp hd'
        cases e3
        obtain ⟨u, hu, hw2⟩ := rs.slot i _ (slotW_some e1)
        have e4 := ok.2
        rw [hu] at e4
        cases e4
        refine fin M' ρ' f' _ v (f' i) rs st e2 rfl hw2 (rs.nd i) fun b hb => ⟨rs.own i b hb, fun j hj z => ?_, ?_⟩
        · have := rs.dj i j b hb z
          omega
        · rcases st.own i b hb with y | y
          · have z := RS.none a i fun x' hx' => by
              have := (List.getElem?_eq_some_iff.mp hx').1
              rw [List.length_map] at this
              omega
            rw [z] at y
            cases y
          · exact y
end
end Ws
set_option Elab.async false
set_option linter.all false
set_option maxRecDepth 100000
set_option maxHeartbeats 2000000
/-! Ws5: calls. -/
namespace Ws
open PySem PySem.Spec PyProof.Rows L2

section
variable (w : World) (K : PySem.W.Frag) (cl : Nat → Addr) (M' : Addr → Prop) (σ : L2.St) (H' : Hp) (f' : Fp) (H : Hp)
inductive RvsOk : List Rv → List V → List (List Addr) → Prop
  | nil : RvsOk [] [] []
  | cons {rv : Rv} {v : V} {fw : List Addr} {rvs : List Rv} {vs : List V} {fws : List (List Addr)} : RvOk w K cl M' σ H' f' H rv v fw → RvsOk rvs vs fws → (∀ a ∈ fw, ∀ l ∈ fws, a ∉ l) → RvsOk (rv :: rvs) (v :: vs) (fw :: fws)
end
def tRA (w : World) (K : PySem.W.Frag) (cl : Nat → Addr) (den : Den (List Rv)) : TA := fun σ H Q => ∃ M ρ f rvs ρ', RS w K cl M ρ σ H f ∧ den ρ = some (rvs, ρ') ∧
  ∀ vs M' H' f' fws, RS w K cl M' ρ' σ H' f' → RvsOk w K cl M' σ H' f' H rvs vs fws → Step M H f M' H' f' → Q vs H'
abbrev DR (cl : Nat → Addr) (X : Cx) (es : List Expr) (den : Den (List Rv)) : Prop := PA X es (tRA X.w X.K cl den)
section
variable {w : World} {K : PySem.W.Frag} {cl : Nat → Addr} {M M1 M2 M0 : Addr → Prop} {ρ ρ1 : Env} {σ : L2.St} {H H0 H1 H2 : Hp} {f f0 f1 f2 : Fp}
theorem RvOk.fresh {rv : Rv} {v : V} {fw : List Addr} (k : RvOk w K cl M σ H f H0 rv v fw) : ∀ a ∈ fw, H0 a = Option.none := fun a ha => by
  cases rv with
  | slot i => rw [k.1] at ha; cases ha
  | val x => exact (k.2.2 a ha).2.2
theorem RvOk.inM {rv : Rv} {v : V} {fw : List Addr} (k : RvOk w K cl M σ H f H0 rv v fw) : ∀ a ∈ fw, M a ∧ ∀ i, a ∉ f i := fun a ha => by
  cases rv with
  | slot i => rw [k.1] at ha; cases ha
  | val x => exact ⟨(k.2.2 a ha).1, (k.2.2 a ha).2.1⟩
theorem RvsOk.fresh : ∀ {rvs : List Rv} {vs : List V} {fws : List (List Addr)}, RvsOk w K cl M σ H f H0 rvs vs fws → ∀ l ∈ fws, ∀ a ∈ l, H0 a = Option.none
  | _, _, _, .nil, _, h, _, _ => nomatch h
  | _, _, _, .cons k t _, l, h, a, ha => by
    rcases List.mem_cons.mp h with e | h
    · subst e; exact k.fresh a ha
    · exact RvsOk.fresh t l h a ha
theorem RvsOk.base : ∀ {rvs : List Rv} {vs : List V} {fws : List (List Addr)}, (∀ c, H0 c = Option.none → H1 c = Option.none) → RvsOk w K cl M σ H f H0 rvs vs fws → RvsOk w K cl M σ H f H1 rvs vs fws
  | _, _, _, _, .nil => .nil
  | _, _, _, s, .cons k t d => .cons (k.base s) (RvsOk.base s t) d
theorem dr_nil {X : Cx} : DR cl X [] (fun ρ => some ([], ρ)) := pa_imp pa_nil fun σ H Q ⟨M, ρ, f, ds, ρ', rs, hd, k⟩ => by
  cases hd
  exact k [] M H f [] rs .nil Step.refl
def dRCons (d : Den Rv) (r : Den (List Rv)) : Den (List Rv) := fun ρ => (d ρ).bind fun x => (r x.2).map fun y => (x.1 :: y.1, y.2)
def dRNil : Den (List Rv) := fun ρ => some ([], ρ)
theorem dRCons_imp {d : Den Rv} {r : Den (List Rv)} {Q : List V → Hp → Prop} (h : tRA w K cl (dRCons d r) σ H Q) : tCons (tD w K cl d) (tRA w K cl r) σ H Q := by
  obtain ⟨M, ρ, f, ds, ρ', rs, hd, k⟩ := h
  obtain ⟨⟨x, ρ1⟩, h1, hd⟩ := Option.bind_eq_some_iff.mp hd
  obtain ⟨⟨y, ρ2⟩, h2, hd⟩ := Option.map_eq_some_iff.mp hd
  cases hd
  refine ⟨M, ρ, f, x, ρ1, rs, h1, fun v M1 H1 f1 fw rs1 ok1 st1 => ⟨M1, ρ1, f1, y, ρ2, rs1, h2, fun vs M2 H2 f2 fws rs2 ok2 st2 => ?_⟩⟩
  refine k (v :: vs) M2 H2 f2 (fw :: fws) rs2 (.cons (ok1.carry rs1 st2) (ok2.base fun c z => st1.back z) fun a ha l hl z => ?_) (st1.trans rs.trk st2)
  obtain ⟨o, ho⟩ := rs1.trk a (ok1.inM a ha).1
  rw [ok2.fresh l hl a z] at ho
  cases ho
theorem dr_cons {X : Cx} {e : Expr} {es : List Expr} {d : Den Rv} {r : Den (List Rv)} (ha : DE cl X e d) (hr : DR cl X es r) (hs : starEach (e :: es) X.env = (false, eval e X.env) :: starEach es X.env := by rfl) : DR cl X (e :: es) (dRCons d r) := pa_imp (pa_cons ha hr hs) fun _ _ _ => dRCons_imp

/-! ### the arguments' own trees -/
def argW (ρ : Env) : List Rv → Option (List W)
  | [] => some []
  | .val x :: r => (argW ρ r).map (x :: ·)
  | .slot i :: r => (slotW ρ i).bind fun x => (argW ρ r).map (x :: ·)
def slotsOf : List Rv → List Nat
  | [] => []
  | .val _ :: r => slotsOf r
  | .slot i :: r => i :: slotsOf r
def clearAll : List Rv → Env → Env
  | [], ρ => ρ
  | .val _ :: r, ρ => clearAll r ρ
  | .slot i :: r, ρ => clearAll r (ρ.set i Option.none)
def putBack : List Rv → List W → Env → Env
  | .slot i :: r, x :: xs, ρ => putBack r xs (ρ.set i (some x))
  | .val _ :: r, _ :: xs, ρ => putBack r xs ρ
  | _, _, ρ => ρ
def fpsOf (f : Fp) : List Rv → List (List Addr) → List (List Addr)
  | .slot i :: r, _ :: fs => f i :: fpsOf f r fs
  | .val _ :: r, fw :: fs => fw :: fpsOf f r fs
  | _, _ => []
def fpG (ls : List (List Addr)) : Fp := fun k => match ls[k]? with
  | some l => l
  | Option.none => []
theorem fpG_zero {l : List Addr} {ls : List (List Addr)} : fpG (l :: ls) 0 = l := rfl
theorem fpG_succ {l : List Addr} {ls : List (List Addr)} {k : Nat} : fpG (l :: ls) (k + 1) = fpG ls k := rfl
theorem fpG_mem {ls : List (List Addr)} {k : Nat} {a : Addr} (h : a ∈ fpG ls k) : ∃ l ∈ ls, a ∈ l := by
  unfold fpG at h
  split at h
  · rename_i l e
    exact ⟨l, List.mem_of_getElem? e, h⟩
  · cases h
theorem argW_len {ρ : Env} : ∀ {rvs : List Rv} {ws : List W}, argW ρ rvs = some ws → ws.length = rvs.length
  | [], _, h => by cases h; rfl
  | .val x :: r, _, h => by
    obtain ⟨ws, h1, h2⟩ := Option.map_eq_some_iff.mp (show (argW ρ r).map (x :: ·) = some _ from h)
    subst h2
    simp [argW_len h1]
  | .slot i :: r, _, h => by
    obtain ⟨x, h0, h⟩ := Option.bind_eq_some_iff.mp (show (slotW ρ i).bind (fun x => (argW ρ r).map (x :: ·)) = some _ from h)
    obtain ⟨ws, h1, h2⟩ := Option.map_eq_some_iff.mp h
    subst h2
    simp [argW_len h1]
theorem RvsOk.lens : ∀ {rvs : List Rv} {vs : List V} {fws : List (List Addr)}, RvsOk w K cl M σ H f H0 rvs vs fws → vs.length = rvs.length ∧ (fpsOf f rvs fws).length = rvs.length
  | _, _, _, .nil => ⟨rfl, rfl⟩
  | .slot _ :: _, _, _, .cons _ t _ => ⟨by simp [(RvsOk.lens t).1], by simp [fpsOf, (RvsOk.lens t).2]⟩
  | .val _ :: _, _, _, .cons _ t _ => ⟨by simp [(RvsOk.lens t).1], by simp [fpsOf, (RvsOk.lens t).2]⟩
/-- each place of the arguments' trees: a slot's, or laid since H0 -/
theorem fps_mem (t : RvsOk w K cl M σ H f H0 rvs vs fws) : ∀ l ∈ fpsOf f rvs fws, ∀ a ∈ l, (∃ i, i ∈ slotsOf rvs ∧ a ∈ f i) ∨ (∃ l ∈ fws, a ∈ l) := by
  induction t with
  | nil => intro l h; cases h
  | @cons rv v fw rvs vs fws k t d ih =>
    intro l h a ha
    cases rv with
    | slot i =>
      rcases List.mem_cons.mp (show l ∈ f i :: fpsOf f rvs fws from h) with e | h
      · subst e; exact .inl ⟨i, List.mem_cons_self, ha⟩
      · rcases ih l h a ha with ⟨j, h1, h2⟩ | ⟨l', h1, h2⟩
        · exact .inl ⟨j, List.mem_cons_of_mem _ h1, h2⟩
        · exact .inr ⟨l', List.mem_cons_of_mem _ h1, h2⟩
    | val x =>
      rcases List.mem_cons.mp (show l ∈ fw :: fpsOf f rvs fws from h) with e | h
      · subst e; exact .inr ⟨l, List.mem_cons_self, ha⟩
      · rcases ih l h a ha with ⟨j, h1, h2⟩ | ⟨l', h1, h2⟩
        · exact .inl ⟨j, h1, h2⟩
        · exact .inr ⟨l', List.mem_cons_of_mem _ h1, h2⟩
theorem RvsOk.inM (t : RvsOk w K cl M σ H f H0 rvs vs fws) : ∀ l ∈ fws, ∀ a ∈ l, M a ∧ ∀ i, a ∉ f i := by
  induction t with
  | nil => intro l h; cases h
  | @cons rv v fw rvs vs fws k t d ih =>
    intro l h a ha
    rcases List.mem_cons.mp h with e | h
    · subst e; exact k.inM a ha
    · exact ih l h a ha
/-- the arguments as a callee takes them -/
theorem args_rs (r : RS w K cl M ρ σ H f) (t : RvsOk w K cl M σ H f H0 rvs vs fws) : ∀ {ws : List W}, argW ρ rvs = some ws → (slotsOf rvs).Nodup → ArgRS w K cl M ws vs H (fpG (fpsOf f rvs fws)) := by
  induction t with
  | nil =>
    intro ws e _
    cases e
    exact ⟨(fun i x h => by simp at h), (fun i _ => rfl), (fun i => List.nodup_nil), (fun i j a ha => nomatch ha), (fun i a ha => nomatch ha), r.trk, rfl⟩
  | @cons rv v fw rvs vs fws k t d ih =>
    intro ws e nd
    -- the head's tree
    have hd : ∃ x ws', ws = x :: ws' ∧ argW ρ rvs = some ws' ∧ (slotsOf rvs).Nodup ∧ ∃ l, fpsOf f (rv :: rvs) (fw :: fws) = l :: fpsOf f rvs fws ∧ WIs w K cl M H v x l ∧ l.Nodup ∧ (∀ a ∈ l, M a) ∧ (∀ l' ∈ fpsOf f rvs fws, ∀ a ∈ l, a ∉ l') := by
      cases rv with
      | val x =>
        obtain ⟨ws', h1, h2⟩ := Option.map_eq_some_iff.mp (show (argW ρ rvs).map (x :: ·) = some ws from e)
        refine ⟨x, ws', h2.symm, h1, nd, fw, rfl, k.1, k.2.1, fun a ha => (k.2.2 a ha).1, fun l' hl a ha z => ?_⟩
        rcases fps_mem t l' hl a z with ⟨i, _, h⟩ | ⟨l2, h3, h4⟩
        · exact (k.2.2 a ha).2.1 i h
        · exact d a ha l2 h3 h4
      | slot i =>
        obtain ⟨x, h0, e⟩ := Option.bind_eq_some_iff.mp (show (slotW ρ i).bind (fun x => (argW ρ rvs).map (x :: ·)) = some ws from e)
        obtain ⟨ws', h1, h2⟩ := Option.map_eq_some_iff.mp e
        obtain ⟨u, hu, hw⟩ := r.slot i x (slotW_some h0)
        have e2 := k.2
        rw [hu] at e2
        cases e2
        have nd' := List.nodup_cons.mp (show (i :: slotsOf rvs).Nodup from nd)
        refine ⟨x, ws', h2.symm, h1, nd'.2, f i, rfl, hw, r.nd i, r.own i, fun l' hl a ha z => ?_⟩
        rcases fps_mem t l' hl a z with ⟨j, hj, h⟩ | ⟨l2, h3, h4⟩
        · have := r.dj i j a ha h
          subst this
          exact nd'.1 hj
        · exact (t.inM l2 h3 a h4).2 i ha
    obtain ⟨x, ws', rfl, h1, nd', l, hl, hw, hn, hm, dj⟩ := hd
    have A := ih h1 nd'
    have g0 : fpG (fpsOf f (rv :: rvs) (fw :: fws)) 0 = l := by rw [hl]; rfl
    have gs : ∀ k, fpG (fpsOf f (rv :: rvs) (fw :: fws)) (k + 1) = fpG (fpsOf f rvs fws) k := fun k => by rw [hl]; rfl
    have gm : ∀ k a, a ∈ fpG (fpsOf f rvs fws) k → ∃ l' ∈ fpsOf f rvs fws, a ∈ l' := fun k a ha => fpG_mem ha
    refine ⟨fun i y hy => ?_, fun i hi => ?_, fun i => ?_, fun i j a ha hb => ?_, fun i a ha => ?_, r.trk, ?_⟩
    · cases i with
      | zero =>
        have e3 : x = y := by simpa using hy
        subst e3
        exact ⟨v, by simp, by rw [g0]; exact hw⟩
      | succ i =>
        obtain ⟨u, h3, h4⟩ := RS.slot A i y (by simpa using hy)
        exact ⟨u, by simpa using h3, by rw [gs]; exact h4⟩
    · cases i with
      | zero => exact absurd (by simp) (hi x)
      | succ i =>
        rw [gs]
        exact RS.none A i fun y hy => hi y (by simpa using hy)
    · cases i with
      | zero => rw [g0]; exact hn
      | succ i => rw [gs]; exact RS.nd A i
    · cases i with
      | zero =>
        cases j with
        | zero => rfl
        | succ j =>
          rw [g0] at ha
          rw [gs] at hb
          obtain ⟨l', h3, h4⟩ := gm j a hb
          exact absurd h4 (dj l' h3 a ha)
      | succ i =>
        cases j with
        | zero =>
          rw [gs] at ha
          rw [g0] at hb
          obtain ⟨l', h3, h4⟩ := gm i a ha
          exact absurd h4 (dj l' h3 a hb)
        | succ j =>
          rw [gs] at ha hb
          exact congrArg (· + 1) (RS.dj A i j a ha hb)
    · cases i with
      | zero => rw [g0] at ha; exact hm a ha
      | succ i => rw [gs] at ha; exact RS.own A i a ha
    · simpa using RS.len A
/-- the slots whose trees are handed over stand empty meanwhile -/
theorem RS.clear (r : RS w K cl M ρ σ H f) (i : Nat) : RS w K cl M (ρ.set i Option.none) σ H (fpSet f i []) := by
  have sub : ∀ j a, a ∈ fpSet f i [] j → j ≠ i ∧ a ∈ f j := fun j a ha => by
    by_cases q : j = i
    · subst q; rw [fpSet_same] at ha; cases ha
    · rw [fpSet_ne q] at ha; exact ⟨q, ha⟩
  refine ⟨fun j y hy => ?_, fun j hj => ?_, fun j => ?_, fun j k a ha hb => r.dj j k a (sub j a ha).2 (sub k a hb).2, fun j a ha => r.own j a (sub j a ha).2, r.trk, by simpa using r.len⟩
  · rcases set_get hy with ⟨e1, e2⟩ | ⟨e1, e2⟩
    · cases e2
    · obtain ⟨u, hu, hw⟩ := r.slot j y e2
      exact ⟨u, hu, by rw [fpSet_ne (Ne.symm e1)]; exact hw⟩
  · by_cases q : j = i
    · rw [q, fpSet_same]
    · rw [fpSet_ne q]
      refine r.none j fun y hy => hj y ?_
      rw [List.getElem?_set_ne (Ne.symm q)]
      exact hy
  · by_cases q : j = i
    · rw [q, fpSet_same]; exact List.nodup_nil
    · rw [fpSet_ne q]; exact r.nd j
def clearF : List Rv → Fp → Fp
  | [], f => f
  | .val _ :: r, f => clearF r f
  | .slot i :: r, f => clearF r (fpSet f i [])
theorem clearF_sub : ∀ (rvs : List Rv) (f : Fp) (j : Nat) (a : Addr), a ∈ clearF rvs f j → a ∈ f j ∧ j ∉ slotsOf rvs
  | [], _, _, _, h => ⟨h, fun z => nomatch z⟩
  | .val _ :: r, f, j, a, h => clearF_sub r f j a h
  | .slot i :: r, f, j, a, h => by
    obtain ⟨h1, h2⟩ := clearF_sub r (fpSet f i []) j a h
    by_cases q : j = i
    · subst q; rw [fpSet_same] at h1; cases h1
    · rw [fpSet_ne q] at h1
      exact ⟨h1, fun z => (List.mem_cons.mp z).elim q h2⟩
theorem RS.clears : ∀ (rvs : List Rv) {ρ : Env} {f : Fp}, RS w K cl M ρ σ H f → RS w K cl M (clearAll rvs ρ) σ H (clearF rvs f)
  | [], _, _, r => r
  | .val _ :: rs, _, _, r => RS.clears rs r
  | .slot i :: rs, _, _, r => RS.clears rs (r.clear i)
theorem set_self {σ : L2.St} {i : Nat} {v : V} (h : σ[i]? = some (some v)) : σ.set i (some v) = σ := by
  refine List.ext_getElem? fun j => ?_
  by_cases e : i = j
  · subst e
    rw [List.getElem?_set_self (List.getElem?_eq_some_iff.mp h).1, h]
  · rw [List.getElem?_set_ne e]
/-- .. and are filled again -/
theorem RS.putBacks : ∀ {rvs : List Rv} {vs : List V} {fws : List (List Addr)} {ws' : List W} {ρ : Env} {f g : Fp}, RvsOk w K cl M1 σ H1 f1 H0 rvs vs fws → RS w K cl M ρ σ H f →
    (∀ j x, ws'[j]? = some x → ∃ v, vs[j]? = some v ∧ WIs w K cl M H v x (g j)) → (∀ j, (g j).Nodup) → (∀ j k a, a ∈ g j → a ∈ g k → j = k) → (∀ j a, a ∈ g j → M a) → (∀ i a j, a ∈ f i → a ∉ g j) →
    ∃ f', RS w K cl M (putBack rvs ws' ρ) σ H f' ∧ ∀ i b, b ∈ f' i → b ∈ f i ∨ ∃ j, rvs[j]? = some (.slot i) ∧ b ∈ g j
  | [], _, _, _, _, f, _, _, r, _, _, _, _, _ => ⟨f, by unfold putBack; exact r, fun _ _ h => .inl h⟩
  | .val _ :: rvs, _, _, [], _, f, _, _, r, _, _, _, _, _ => ⟨f, by unfold putBack; exact r, fun _ _ h => .inl h⟩
  | .slot _ :: rvs, _, _, [], _, f, _, _, r, _, _, _, _, _ => ⟨f, by unfold putBack; exact r, fun _ _ h => .inl h⟩
  | .val y :: rvs, _, _, x :: xs, ρ, f, g, .cons k t d, r, hw, nd, dj, own, dis => by
    obtain ⟨f', r', q⟩ := RS.putBacks (g := fun j => g (j + 1)) (ws' := xs) t r (fun j z hz => by simpa using hw (j + 1) z (by simpa using hz)) (fun j => nd _) (fun j k a ha hb => Nat.succ.inj (dj _ _ a ha hb)) (fun j a => own _ a) fun i a j => dis i a _
    refine ⟨f', r', fun i b hb => ?_⟩
    rcases q i b hb with h | ⟨j, h1, h2⟩
    · exact .inl h
    · exact .inr ⟨j + 1, by simpa using h1, h2⟩
  | .slot i0 :: rvs, _, _, x :: xs, ρ, f, g, .cons (v := v0) k t d, r, hw, nd, dj, own, dis => by
    obtain ⟨v, hv, hwx⟩ := hw 0 x (by simp)
    have ev : v0 = v := by simpa using hv
    subst ev
    have hσ : σ[i0]? = some (some v0) := k.2
    have hi : i0 < ρ.length := by rw [r.len]; exact (List.getElem?_eq_some_iff.mp hσ).1
    have r2 := r.store hi hwx (nd 0) fun a ha => ⟨own 0 a ha, fun j z => dis j a 0 z ha⟩
    rw [set_self hσ] at r2
    obtain ⟨f', r', q⟩ := RS.putBacks (g := fun j => g (j + 1)) (ws' := xs) t r2 (fun j z hz => by simpa using hw (j + 1) z (by simpa using hz)) (fun j => nd _) (fun j k a ha hb => Nat.succ.inj (dj _ _ a ha hb)) (fun j a => own _ a) fun i a j ha z => by
      by_cases e : i = i0
      · rw [e, fpSet_same] at ha
        exact absurd (dj 0 (j + 1) a ha z) (by omega)
      · rw [fpSet_ne e] at ha
        exact dis i a (j + 1) ha z
    refine ⟨f', r', fun i b hb => ?_⟩
    rcases q i b hb with h | ⟨j, h1, h2⟩
    · by_cases e : i = i0
      · rw [e, fpSet_same] at h
        exact .inr ⟨0, by simp [e], h⟩
      · rw [fpSet_ne e] at h
        exact .inl h
    · exact .inr ⟨j + 1, by simpa using h1, h2⟩
/-- a promise's call: from the arguments to what follows. dvs: what the defaults add -/
theorem call_back2 {den : List W → Option (W × List W)} {rvs : List Rv} {vs : List V} {fws : List (List Addr)} {ws ws' : List W} {wr : W} {Q : VK} {E : XK} (t0 : Trk M0 H0) (st : Step M0 H0 f0 M1 H1 f1) (r : RS w K cl M1 ρ1 σ H1 f1) (t : RvsOk w K cl M1 σ H1 f1 H0 rvs vs fws)
    (ha : argW ρ1 rvs = some ws) (hn : (slotsOf rvs).Nodup) (hd : den ws = some (wr, ws'))
    (k : ∀ v M2 H2 f2 fw, RS w K cl M2 (putBack rvs ws' (clearAll rvs ρ1)) σ H2 f2 → RvOk w K cl M2 σ H2 f2 H0 (.val wr) v fw → Step M0 H0 f0 M2 H2 f2 →
      (∀ (j : Nat) (y x : W), rvs[j]? = some (Rv.val y) → ws'[j]? = some x → ∃ u fx, vs[j]? = some u ∧ RvOk w K cl M2 σ H2 f2 H0 (.val x) u fx) → Q v H2) : spW w K cl den vs H1 Q E := by
  have A := args_rs r t ha hn
  refine ⟨M1, ws, _, wr, ws', A, hd, fun v M2 H2 g fw A2 s2 ok => ?_⟩
  have fm : ∀ k a, a ∈ fpG (fpsOf f1 rvs fws) k → (∃ i, i ∈ slotsOf rvs ∧ a ∈ f1 i) ∨ ∃ l ∈ fws, a ∈ l := fun k a ha => by
    obtain ⟨l, hl, h⟩ := fpG_mem ha
    exact fps_mem t l hl a h
  have rc := RS.clears rvs r
  have off : ∀ i a k, a ∈ clearF rvs f1 i → a ∉ fpG (fpsOf f1 rvs fws) k := fun i a k ha z => by
    obtain ⟨h1, h2⟩ := clearF_sub rvs f1 i a ha
    rcases fm k a z with ⟨j, hj, h⟩ | ⟨l, hl, h⟩
    · have := r.dj i j a h1 h
      subst this
      exact h2 hj
    · exact (t.inM l hl a h).2 i h1
  have ex : Ext M1 H1 M2 H2 := RS.ext A s2
  have rc2 : RS w K cl M2 (clearAll rvs ρ1) σ H2 (clearF rvs f1) := by
    refine ⟨fun i x hx => ?_, rc.none, rc.nd, rc.dj, fun i a ha => s2.prot a (rc.own i a ha) fun k => off i a k ha, RS.trk A2, rc.len⟩
    obtain ⟨u, hu, hw⟩ := rc.slot i x hx
    exact ⟨u, hu, hw.stay ex fun a ha o e => s2.keep a o e fun k => off i a k ha⟩
  have gsub : ∀ j a, a ∈ g j → a ∈ fpG (fpsOf f1 rvs fws) j ∨ H1 a = Option.none := s2.own
  obtain ⟨f2, r2, q2⟩ := RS.putBacks (g := g) (ws' := ws') t rc2 (fun j x hx => by
      obtain ⟨u, h1, h2⟩ := RS.slot A2 j x (by simpa using hx)
      exact ⟨u, by simpa using h1, h2⟩) (RS.nd A2) (RS.dj A2) (RS.own A2) fun i a j ha z => by
    rcases gsub j a z with h | h
    · exact off i a j ha h
    · obtain ⟨o, ho⟩ := rc.trk a (rc.own i a ha)
      rw [h] at ho; cases ho
  have own2 : ∀ i b, b ∈ f2 i → b ∈ f1 i ∨ H1 b = Option.none := fun i b hb => by
    rcases q2 i b hb with h | ⟨j, h1, h2⟩
    · exact .inl (clearF_sub rvs f1 i b h).1
    · rcases gsub j b h2 with h | h
      · have e : fpG (fpsOf f1 rvs fws) j = f1 i := fps_slot rvs fws j i h1 t
        rw [e] at h
        exact .inl h
      · exact .inr h
  obtain ⟨hw, hnd, hq⟩ := ok
  have vals : ∀ (j : Nat) (y x : W), rvs[j]? = some (Rv.val y) → ws'[j]? = some x → ∃ u fx, vs[j]? = some u ∧ RvOk w K cl M2 σ H2 f2 H0 (.val x) u fx := fun j y x hj hx => by
    obtain ⟨u, h1, h2⟩ := RS.slot A2 j x (by simpa using hx)
    refine ⟨u, g j, by simpa using h1, h2, RS.nd A2 j, fun a ha => ⟨RS.own A2 j a ha, fun i z => ?_, ?_⟩⟩
    · rcases q2 i a z with h | ⟨j', e, h⟩
      · rcases gsub j a ha with h' | h'
        · exact off i a j h h'
        · obtain ⟨o, ho⟩ := rc.trk a (rc.own i a h)
          rw [h'] at ho; cases ho
      · have := RS.dj A2 j j' a ha h
        subst this
        rw [hj] at e; cases e
    · rcases gsub j a ha with h' | h'
      · obtain ⟨fw', e1, e2⟩ := fps_val rvs fws j y hj t
        rw [e1] at h'
        exact t.fresh _ e2 a h'
      · exact st.back h'
  refine k v M2 H2 f2 fw r2 ⟨hw, hnd, fun a ha => ⟨(hq a ha).1, fun i z => ?_, st.back (hq a ha).2.2⟩⟩ ⟨fun b o h n => ?_, fun b o h => ?_, fun b m n => ?_, fun b m => ?_, fun i b hb => ?_⟩ vals
  · rcases q2 i a z with h | ⟨j, _, h⟩
    · obtain ⟨o, ho⟩ := rc.trk a (rc.own i a h)
      rw [(hq a ha).2.2] at ho; cases ho
    · exact (hq a ha).2.1 j h
  · refine s2.keep b o (st.keep b o h n) fun k z => ?_
    rcases fm k b z with ⟨i, _, hi⟩ | ⟨l, hl, hb⟩
    · rcases st.own i b hi with y | y
      · exact n i y
      · rw [h] at y; cases y
    · rw [t.fresh l hl b hb] at h; cases h
  · obtain ⟨o1, h1⟩ := st.there b o h
    exact s2.there b o1 h1
  · refine s2.prot b (st.prot b m n) fun k z => ?_
    rcases fm k b z with ⟨i, _, hi⟩ | ⟨l, hl, hb⟩
    · rcases st.own i b hi with y | y
      · exact n i y
      · obtain ⟨o, ho⟩ := t0 b m
        rw [y] at ho; cases ho
    · obtain ⟨o, ho⟩ := t0 b m
      rw [t.fresh l hl b hb] at ho; cases ho
  · rcases s2.anti b m with y | y
    · exact st.anti b y
    · exact .inr (st.back y)
  · rcases own2 i b hb with y | y
    · exact st.own i b y
    · exact .inr (st.back y)
where
  fps_slot : ∀ (rvs : List Rv) (fws : List (List Addr)) (j i : Nat), rvs[j]? = some (.slot i) → ∀ {vs : List V} {M : Addr → Prop} {σ : L2.St} {H H0 : Hp} {f : Fp}, RvsOk w K cl M σ H f H0 rvs vs fws → fpG (fpsOf f rvs fws) j = f i
    | [], _, _, _, h, _, _, _, _, _, _, _ => by simp at h
    | .slot i0 :: rvs, _, 0, i, h, _, _, _, _, _, f, .cons _ _ _ => by
      have e : i0 = i := by simpa using h
      subst e
      rfl
    | .val x :: rvs, _, 0, i, h, _, _, _, _, _, f, .cons _ _ _ => by simp at h
    | .slot i0 :: rvs, _, j + 1, i, h, _, _, _, _, _, f, .cons _ t _ => by
      have := fps_slot rvs _ j i (by simpa using h) t
      exact this
    | .val x :: rvs, _, j + 1, i, h, _, _, _, _, _, f, .cons _ t _ => by
      have := fps_slot rvs _ j i (by simpa using h) t
      exact this
  fps_val : ∀ (rvs : List Rv) (fws : List (List Addr)) (j : Nat) (y : W), rvs[j]? = some (.val y) → ∀ {vs : List V} {M : Addr → Prop} {σ : L2.St} {H H0 : Hp} {f : Fp}, RvsOk w K cl M σ H f H0 rvs vs fws → ∃ l, fpG (fpsOf f rvs fws) j = l ∧ l ∈ fws
    | [], _, _, _, h, _, _, _, _, _, _, _ => by simp at h
    | .val x :: rvs, fw :: fws, 0, y, h, _, _, _, _, _, f, .cons _ _ _ => ⟨fw, rfl, List.mem_cons_self⟩
    | .slot i0 :: rvs, _, 0, i, h, _, _, _, _, _, f, .cons _ _ _ => by simp at h
    | .slot i0 :: rvs, _, j + 1, i, h, _, _, _, _, _, f, .cons _ t _ => by
      obtain ⟨l, h1, h2⟩ := fps_val rvs _ j i (by simpa using h) t
      exact ⟨l, h1, List.mem_cons_of_mem _ h2⟩
    | .val x :: rvs, _, j + 1, i, h, _, _, _, _, _, f, .cons _ t _ => by
      obtain ⟨l, h1, h2⟩ := fps_val rvs _ j i (by simpa using h) t
      exact ⟨l, h1, List.mem_cons_of_mem _ h2⟩
theorem call_back {den : List W → Option (W × List W)} {rvs : List Rv} {vs : List V} {fws : List (List Addr)} {ws ws' : List W} {wr : W} {Q : VK} {E : XK} (t0 : Trk M0 H0) (st : Step M0 H0 f0 M1 H1 f1) (r : RS w K cl M1 ρ1 σ H1 f1) (t : RvsOk w K cl M1 σ H1 f1 H0 rvs vs fws)
    (ha : argW ρ1 rvs = some ws) (hn : (slotsOf rvs).Nodup) (hd : den ws = some (wr, ws'))
    (k : ∀ v M2 H2 f2 fw, RS w K cl M2 (putBack rvs ws' (clearAll rvs ρ1)) σ H2 f2 → RvOk w K cl M2 σ H2 f2 H0 (.val wr) v fw → Step M0 H0 f0 M2 H2 f2 → Q v H2) : spW w K cl den vs H1 Q E :=
  call_back2 t0 st r t ha hn hd fun v M2 H2 f2 fw a b c _ => k v M2 H2 f2 fw a b c
theorem RvsOk.carry {rvs : List Rv} {vs : List V} {fws : List (List Addr)} (r1 : RS w K cl M1 ρ1 σ H1 f1) (s : Step M1 H1 f1 M2 H2 f2) (k : RvsOk w K cl M1 σ H1 f1 H rvs vs fws) : RvsOk w K cl M2 σ H2 f2 H rvs vs fws := by
  induction k with
  | nil => exact .nil
  | cons k t d ih => exact .cons (k.carry r1 s) ih d
end
end Ws
set_option Elab.async false
set_option linter.all false
set_option maxRecDepth 100000
set_option maxHeartbeats 2000000
/-! Ws6: calls of defs, methods, classes; what is walked; for; comprehensions. -/
namespace Ws
open PySem PySem.Spec PyProof.Rows L2

/-! ### calls -/
def leafR : List D → List Rv := fun ds => ds.map fun d => .val (.leaf d)
def dCall (den : List W → Option (W × List W)) (dr : Den (List Rv)) (dds : List D) : Den Rv := fun ρ => (dr ρ).bind fun r => if (slotsOf (r.1 ++ leafR dds)).Nodup then (argW r.2 (r.1 ++ leafR dds)).bind fun ws => (den ws).map fun y => (.val y.1, putBack (r.1 ++ leafR dds) y.2 (clearAll (r.1 ++ leafR dds) r.2)) else Option.none
section
variable {w : World} {K : PySem.W.Frag} {cl : Nat → Addr} {M M1 M2 M0 : Addr → Prop} {ρ ρ1 : Env} {σ : L2.St} {H H0 H1 H2 : Hp} {f f0 f1 f2 : Fp}
theorem RvsOk.leafs : ∀ {vs : List V} {ds : List D}, IsL w K cl M H vs ds → ∃ fws, RvsOk w K cl M σ H f H0 (leafR ds) vs fws ∧ ∀ l ∈ fws, l = []
  | _, _, .nil => ⟨[], .nil, fun _ h => nomatch h⟩
  | _, _, .cons a t => by
    obtain ⟨fws, h1, h2⟩ := RvsOk.leafs t
    exact ⟨[] :: fws, .cons (rvB a) h1 (fun _ h => nomatch h), fun l hl => (List.mem_cons.mp hl).elim id (h2 l)⟩
theorem RvsOk.append : ∀ {rvs : List Rv} {vs : List V} {fws : List (List Addr)} {rvs2 : List Rv} {vs2 : List V} {fws2 : List (List Addr)}, RvsOk w K cl M σ H f H0 rvs vs fws → RvsOk w K cl M σ H f H0 rvs2 vs2 fws2 → (∀ l ∈ fws2, l = []) → RvsOk w K cl M σ H f H0 (rvs ++ rvs2) (vs ++ vs2) (fws ++ fws2)
  | _, _, _, _, _, _, .nil, s, _ => s
  | _, _, _, _, _, _, .cons k t d, s, e => .cons k (RvsOk.append t s e) fun a ha l hl z => by
    rcases List.mem_append.mp hl with h | h
    · exact d a ha l h z
    · rw [e l h] at z; cases z
theorem dCall_imp {den : List W → Option (W × List W)} {dr : Den (List Rv)} {dvs : List V} {dds : List D} {Q : VK} {E : XK} (hdd : ∀ (M : Addr → Prop) (H : Hp), IsL w K cl M H dvs dds) (h : tD w K cl (dCall den dr dds) σ H Q) : tCall (spW w K cl den) dvs E (tRA w K cl dr) σ H Q := by
  obtain ⟨M, ρ, f, rv, ρ', rs, hd, k⟩ := h
  obtain ⟨⟨rvs, ρ1⟩, h1, hd⟩ := Option.bind_eq_some_iff.mp hd
  have hd' : (if (slotsOf (rvs ++ leafR dds)).Nodup then (argW ρ1 (rvs ++ leafR dds)).bind (fun ws => (den ws).map fun y => (Rv.val y.1, putBack (rvs ++ leafR dds) y.2 (clearAll (rvs ++ leafR dds) ρ1))) else Option.none) = some (rv, ρ') := hd
  by_cases c : (slotsOf (rvs ++ leafR dds)).Nodup
  · rw [if_pos c] at hd'
    obtain ⟨ws, h2, hd'⟩ := Option.bind_eq_some_iff.mp hd'
    obtain ⟨⟨wr, ws'⟩, h3, hd'⟩ := Option.map_eq_some_iff.mp hd'
    cases hd'
    refine ⟨M, ρ, f, rvs, ρ1, rs, h1, fun vs M1 H1 f1 fws rs1 ok1 st1 => ?_⟩
    obtain ⟨fws2, l1, l2⟩ := RvsOk.leafs (σ := σ) (f := f1) (H0 := H) (hdd M1 H1)
    exact call_back rs.trk st1 rs1 (ok1.append l1 l2) h2 c h3 k
  · rw [if_neg c] at hd'
    cases hd'
end
section
variable {cl : Nat → Addr} {X : Cx} {k : Nat} {f C : Addr} {c : Nat} {fd : FuncData} {ps : List Str} {den : List W → Option (W × List W)} {dvs : List V} {dds : List D} {ds : List Value} {x m : Str} {p pos apos : Pos} {e o : Expr} {es : List Expr} {dr : Den (List Rv)} {d : Den Rv}
theorem de_call (F : FnOk X.prog X.w X.K X.mg X.base CX0 k f fd ps (spW X.w X.K cl den)) (hr : Room k X.A) (hg : Gl X x) (hm : X.mg x = some (.ref f)) (hk : PySem.W.keepIn X.K (.ref f) = true) (hb : Binds X.K fd ps ds) (hd : Vals dvs ds) (hdd : ∀ (M : Addr → Prop) (H : Hp), IsL X.w X.K cl M H dvs dds)
    (ha : DR cl X (e :: es) dr) (hdb : (x == ("__debug__" : Str)) = false := by decide) (he : starEach (e :: es) X.env = (false, eval e X.env) :: starEach es X.env := by rfl) (hpl : (backTo pos (starEach es X.env)).any (·.1) = false := by rfl) :
    DE cl X (.Call (.Name x p) (e :: es) [] pos) (dCall den dr dds) := pe_imp (pe_call F hr hg hm hk hb hd pass0 ha hdb he hpl) fun _ _ _ => dCall_imp hdd
theorem de_call0 (F : FnOk X.prog X.w X.K X.mg X.base CX0 k f fd ps (spW X.w X.K cl den)) (hr : Room k X.A) (hg : Gl X x) (hm : X.mg x = some (.ref f)) (hk : PySem.W.keepIn X.K (.ref f) = true) (hb : Binds X.K fd ps ds) (hd : Vals dvs ds) (hdd : ∀ (M : Addr → Prop) (H : Hp), IsL X.w X.K cl M H dvs dds)
    (hdb : (x == ("__debug__" : Str)) = false := by decide) : DE cl X (.Call (.Name x p) [] [] pos) (dCall den dRNil dds) := pe_imp (pe_call0 F hr hg hm hk hb hd pass0 hdb) fun σ H Q h => by
  obtain ⟨M, ρ, f, rvs, ρ', rs, hd, k⟩ := dCall_imp (E := E0) hdd h
  cases hd
  exact k [] M H f [] rs .nil Step.refl

/-! ### methods of instances that are not to change, or of one's own -/
def dRecv (c : Nat) (m : Str) (d : Den Rv) : Den Rv := fun ρ => (d ρ).bind fun r => (viewR r.2 r.1).bind fun y => match y with
  | .obj c' gs => if c' = c ∧ gs.lookup m = Option.none then some r else Option.none
  | _ => Option.none
theorem isF_lookup {w : World} {K : PySem.W.Frag} {M : Addr → Prop} {H : Hp} {m : Str} : ∀ {fs : List (Str × V)} {gs : List (Str × D)}, IsF w K cl M H fs gs → gs.lookup m = Option.none → fs.lookup m = Option.none
  | _, _, .nil, _ => rfl
  | _, _, .cons (f := g) a t, h => by
    cases e : (m == g) with
    | true => simp [List.lookup_cons, e] at h
    | false =>
      simp only [List.lookup_cons, e] at h ⊢
      exact isF_lookup t h
theorem isF_get {w : World} {K : PySem.W.Frag} {M : Addr → Prop} {H : Hp} {m : Str} {d : D} : ∀ {fs : List (Str × V)} {gs : List (Str × D)}, IsF w K cl M H fs gs → gs.lookup m = some d → ∃ v, fs.lookup m = some v ∧ Is w K cl M H v d
  | _, _, .nil, h => nomatch h
  | _, _, .cons (f := g) (v := v) a t, h => by
    cases e : (m == g) with
    | true =>
      simp only [List.lookup_cons, e, Option.some.injEq] at h
      subst h
      exact ⟨v, by simp only [List.lookup_cons, e], a⟩
    | false =>
      simp only [List.lookup_cons, e] at h
      obtain ⟨u, h1, h2⟩ := isF_get t h
      exact ⟨u, by simp only [List.lookup_cons, e]; exact h1, h2⟩
theorem dMeth_imp {w : World} {K : PySem.W.Frag} {E : XK} {σ : L2.St} {H : Hp} {Q : VK} {dr : Den (List Rv)} (hC : cl c = C) (hdd : ∀ (M : Addr → Prop) (H : Hp), IsL w K cl M H dvs dds) (h : tD w K cl (dCall den (dRCons (dRecv c m d) dr) dds) σ H Q) : tMeth C m (spW w K cl den) dvs E (tD w K cl d) (tRA w K cl dr) σ H Q := by
  obtain ⟨M, ρ, f, rvs0, ρ', rs, hd, k⟩ := dCall_imp (E := E) hdd h
  obtain ⟨⟨x, ρ1⟩, h1, hd⟩ := Option.bind_eq_some_iff.mp hd
  obtain ⟨⟨y, ρ2⟩, h2, hd⟩ := Option.map_eq_some_iff.mp hd
  cases hd
  obtain ⟨⟨x', ρ1'⟩, h3, h1⟩ := Option.bind_eq_some_iff.mp h1
  obtain ⟨yv, h4, h1⟩ := Option.bind_eq_some_iff.mp h1
  split at h1
  · rename_i c' gs
    by_cases q : c' = c ∧ gs.lookup m = Option.none
    · rw [if_pos q] at h1
      cases h1
      refine ⟨M, ρ, f, x, ρ1, rs, h3, fun v M1 H1 f1 fw rs1 ok1 st1 => ?_⟩
      have iv := ok1.view rs1 h4
      cases iv with
      | obj e1 e2 e3 =>
        refine ⟨_, _, _, rfl, by rw [← hC, ← q.1]; exact e1, isF_lookup e3 q.2, M1, ρ1, f1, y, ρ2, rs1, h2, fun vs M2 H2 f2 fws rs2 ok2 st2 => ?_⟩
        refine k (_ :: vs) M2 H2 f2 (fw :: fws) rs2 (.cons (ok1.carry rs1 st2) (ok2.base fun c z => st1.back z) fun a ha l hl z => ?_) (st1.trans rs.trk st2)
        obtain ⟨o, ho⟩ := rs1.trk a (ok1.inM a ha).1
        rw [ok2.fresh l hl a z] at ho
        cases ho
    · rw [if_neg q] at h1
      cases h1
  · cases h1
theorem meth0_imp {w : World} {K : PySem.W.Frag} {sp : Sp} {E : XK} {σ : L2.St} {H : Hp} {Q : VK} (h : tMeth C m sp dvs E (tD w K cl d) (tRA w K cl dRNil) σ H Q) : tMeth C m sp dvs E (tD w K cl d) tNil σ H Q := by
  obtain ⟨M, ρ, f, rv, ρ', rs, hd, k⟩ := h
  refine ⟨M, ρ, f, rv, ρ', rs, hd, fun v M1 H1 f1 fw rs1 ok1 st1 => ?_⟩
  obtain ⟨a, dx, fs, e1, e2, e3, M2, ρ2, f2, rvs, ρ3, rs2, hd2, k2⟩ := k v M1 H1 f1 fw rs1 ok1 st1
  refine ⟨a, dx, fs, e1, e2, e3, ?_⟩
  cases hd2
  exact k2 [] M2 H1 f2 [] rs2 .nil Step.refl
theorem de_meth {pl : Sem Bool} (hC : cl c = C) (he : DE cl X o d) (hc : Cls X.K C) (hm : Meth X.K C m f) (F : FnOk X.prog X.w X.K X.mg X.base CX0 k f fd ps (spW X.w X.K cl den)) (hr : Room k X.A) (hb : Binds X.K fd ps ds) (hd : Vals dvs ds) (hdd : ∀ (M : Addr → Prop) (H : Hp), IsL X.w X.K cl M H dvs dds) (ha : DR cl X (e :: es) dr)
    (hst : starEach (e :: es) X.env = (false, eval e X.env) :: starEach es X.env := by rfl) (hpl : (backTo pos (starEach es X.env)).any (·.1) = false := by rfl)
    (ht : eval (.Call (.Attribute o m apos) (e :: es) [] pos) X.env = (do
      let ov ← eval o X.env
      standAt apos.atName
      let (f, first) ← holding [ov] (getMethod ov m pl)
      callWith pos f first (backTo pos (starEach (e :: es) X.env)) (backToKw pos (keywordEach [] X.env))) := by rfl) :
    DE cl X (.Call (.Attribute o m apos) (e :: es) [] pos) (dCall den (dRCons (dRecv c m d) dr) dds) := pe_imp (pe_meth he hc hm F hr hb hd pass0 ha hst hpl ht) fun _ _ _ => dMeth_imp hC hdd
theorem de_meth0 {pl : Sem Bool} (hC : cl c = C) (he : DE cl X o d) (hc : Cls X.K C) (hm : Meth X.K C m f) (F : FnOk X.prog X.w X.K X.mg X.base CX0 k f fd ps (spW X.w X.K cl den)) (hr : Room k X.A) (hb : Binds X.K fd ps ds) (hd : Vals dvs ds) (hdd : ∀ (M : Addr → Prop) (H : Hp), IsL X.w X.K cl M H dvs dds)
    (ht : eval (.Call (.Attribute o m apos) [] [] pos) X.env = (do
      let ov ← eval o X.env
      standAt apos.atName
      let (f, first) ← holding [ov] (getMethod ov m pl)
      callWith pos f first (backTo pos (starEach [] X.env)) (backToKw pos (keywordEach [] X.env))) := by rfl) :
    DE cl X (.Call (.Attribute o m apos) [] [] pos) (dCall den (dRCons (dRecv c m d) dRNil) dds) := pe_imp (pe_meth0 he hc hm F hr hb hd pass0 ht) fun σ H Q h => meth0_imp (dMeth_imp hC hdd h)
end
end Ws
set_option Elab.async false
set_option linter.all false
set_option maxRecDepth 100000
set_option maxHeartbeats 2000000
/-! Ws7: targets, what is walked, for, comprehensions, while. -/
namespace Ws
open PySem PySem.Spec PyProof.Rows L2

/-! ### targets -/
abbrev DenG := D → Env → Option Env
def Off (ts : List Nat) (σ σ' : L2.St) : Prop := (∀ i, i ∉ ts → σ'[i]? = σ[i]?) ∧ σ'.length = σ.length
def tDG (w : World) (K : PySem.W.Frag) (cl : Nat → Addr) (ts : List Nat) (den : DenG) : TG := fun v σ H Q => ∃ M ρ f d ρ', RS w K cl M ρ σ H f ∧ Is w K cl M H v d ∧ den d ρ = some ρ' ∧
  ∀ σ' M' H' f', RS w K cl M' ρ' σ' H' f' → Step M H f M' H' f' → Off ts σ σ' → Q σ' H'
abbrev DG (cl : Nat → Addr) (X : Cx) (tg : Expr) (ts : List Nat) (den : DenG) : Prop := PG X tg (tDG X.w X.K cl ts den)
theorem pg_imp {X : Cx} {e : Expr} {t t' : TG} (h : PG X e t) (i : ∀ v σ H Q, t' v σ H Q → t v σ H Q) : PG X e t' := ⟨fun pins s σ H v u Q I r k => h.run pins s σ H v u Q I r (i v σ H Q k)⟩
theorem pgs_imp {X : Cx} {e : List Expr} {t t' : TGs} (h : PGs X e t) (i : ∀ v σ H Q, t' v σ H Q → t v σ H Q) : PGs X e t' := ⟨fun pins s σ H v u Q I r k => h.run pins s σ H v u Q I r (i v σ H Q k)⟩
def tDGs (w : World) (K : PySem.W.Frag) (cl : Nat → Addr) (ts : List Nat) (den : List D → Env → Option Env) : TGs := fun vs σ H Q => ∃ M ρ f ds ρ', RS w K cl M ρ σ H f ∧ IsL w K cl M H vs ds ∧ den ds ρ = some ρ' ∧
  ∀ σ' M' H' f', RS w K cl M' ρ' σ' H' f' → Step M H f M' H' f' → Off ts σ σ' → Q σ' H'
abbrev DGs (cl : Nat → Addr) (X : Cx) (tg : List Expr) (ts : List Nat) (den : List D → Env → Option Env) : Prop := PGs X tg (tDGs X.w X.K cl ts den)
theorem Off.refl {ts : List Nat} {σ : L2.St} : Off ts σ σ := ⟨fun _ _ => rfl, rfl⟩
theorem Off.trans {ts us : List Nat} {σ σ1 σ2 : L2.St} (a : Off ts σ σ1) (b : Off us σ1 σ2) : Off (ts ++ us) σ σ2 :=
  ⟨fun i h => (b.1 i fun z => h (List.mem_append_right _ z)).trans (a.1 i fun z => h (List.mem_append_left _ z)), b.2.trans a.2⟩
theorem Off.par {ts : List Nat} {σ σ' : L2.St} {np : Nat} (a : Off ts σ σ') (h : ts.all (fun i => decide (np ≤ i)) = true) : Par np σ σ' := fun i hi => a.1 i fun z => by
  have := List.all_eq_true.mp h i z
  have := of_decide_eq_true this
  omega
section
variable {cl : Nat → Addr} {X : Cx} {pos : Pos}
def gNm (i : Nat) : DenG := fun d ρ => if i < ρ.length then some (ρ.set i (some (.leaf d))) else Option.none
theorem dg_name {i : Nat} {x : Str} (hN : X.N.Nodup) (hi : X.N[i]? = some x) (hx : Loc X.env.scope x) (hf : X.fn x = true ∨ X.env.scope.names.lookup x = some .local := by first | exact .inl rfl | exact .inr rfl | assumption) : DG cl X (.Name x pos) [i] (gNm i) :=
  pg_imp (pg_name hN hi hx hf) fun v σ H Q ⟨M, ρ, f, d, ρ', rs, is, hd, k⟩ => by
    unfold gNm at hd
    by_cases c : i < ρ.length
    · rw [if_pos c] at hd
      cases hd
      refine k _ M H _ (rs.store c (.leaf is) List.nodup_nil fun a ha => nomatch ha) (Step.store Step.refl fun a ha => nomatch ha) ⟨fun j hj => List.getElem?_set_ne fun e => hj (by simp [e]), by simp⟩
    · rw [if_neg c] at hd
      cases hd
def gsNil : List D → Env → Option Env := fun ds ρ => match ds with
  | [] => some ρ
  | _ => Option.none
def gsCons (g : DenG) (r : List D → Env → Option Env) : List D → Env → Option Env := fun ds ρ => match ds with
  | d :: ds => (g d ρ).bind fun ρ1 => r ds ρ1
  | [] => Option.none
theorem dgs_nil : DGs cl X [] [] gsNil := pgs_imp pgs_nil fun vs σ H Q ⟨M, ρ, f, ds, ρ', rs, is, hd, k⟩ => by
  cases is with
  | nil =>
    cases hd
    exact ⟨rfl, k σ M H f rs Step.refl Off.refl⟩
  | cons a t => cases hd
theorem dgs_cons {e : Expr} {es : List Expr} {ts us : List Nat} {g : DenG} {r : List D → Env → Option Env} (h1 : DG cl X e ts g) (h2 : DGs cl X es us r) (hs : (assignEach (e :: es) X.env).map (·.2) = assign e X.env :: (assignEach es X.env).map (·.2) := by rfl) : DGs cl X (e :: es) (ts ++ us) (gsCons g r) := pgs_imp (pgs_cons h1 h2 hs) fun vs σ H Q ⟨M, ρ, f, ds, ρ', rs, is, hd, k⟩ => by
  cases is with
  | nil => cases hd
  | cons a t =>
    obtain ⟨ρ1, h3, h4⟩ := Option.bind_eq_some_iff.mp hd
    refine ⟨_, _, rfl, M, ρ, f, _, ρ1, rs, a, h3, fun σ1 M1 H1 f1 rs1 st1 o1 => ⟨M1, ρ1, f1, _, ρ', rs1, t.stay (rs.ext st1), h4, fun σ2 M2 H2 f2 rs2 st2 o2 => k σ2 M2 H2 f2 rs2 (st1.trans rs.trk st2) (o1.trans o2)⟩⟩
def gTp (r : List D → Env → Option Env) : DenG := fun d ρ => match d with
  | .tup ds => r ds ρ
  | _ => Option.none
theorem tup_len {n : Nat} {us : List Nat} : True := trivial
theorem dg_tup {es : List Expr} {k1 : Nat} {ts : List Nat} {r : List D → Env → Option Env} (hc : X.calm = true) (h : DGs cl X es ts r) (hl : ∀ ds ρ ρ', r ds ρ = some ρ' → ds.length = es.length) (h2 : (assignEach es X.env).length = es.length := by rfl) (h3 : (assignEach es X.env).findIdx? (·.1) = none := by rfl) : DG cl X (.Tuple es k1 pos) ts (gTp r) :=
  pg_imp (pg_tup (n := es.length) hc h h2 h3) fun v σ H Q ⟨M, ρ, f, d, ρ', rs, is, hd, k⟩ => by
    cases d <;> try cases hd
    rename_i ds
    obtain ⟨a, xs, e, hs, hl'⟩ := is_tup is
    exact ⟨a, xs, e, hs, by rw [hl'.length]; exact hl ds ρ ρ' hd, M, ρ, f, ds, ρ', rs, hl', hd, k⟩
theorem gsl_nil : ∀ ds ρ ρ', gsNil ds ρ = some ρ' → ds.length = ([] : List Expr).length := fun ds ρ ρ' h => by
  cases ds with
  | nil => rfl
  | cons _ _ => cases h
theorem gsl_cons {g : DenG} {r : List D → Env → Option Env} {e : Expr} {es : List Expr} (h : ∀ ds ρ ρ', r ds ρ = some ρ' → ds.length = es.length) : ∀ ds ρ ρ', gsCons g r ds ρ = some ρ' → ds.length = (e :: es).length := fun ds ρ ρ' q => by
  cases ds with
  | nil => cases q
  | cons d ds =>
    obtain ⟨ρ1, _, h4⟩ := Option.bind_eq_some_iff.mp q
    simp [h ds ρ1 ρ' h4]
/-- a general assignment: what is assigned is let go first -/
def dAsg (d : Den Rv) (g : DenG) : Den Out := fun ρ => (dSh d ρ).bind fun r => (g r.1 r.2).map fun ρ' => (.next, ρ')
theorem ds_asg {np : Nat} {tg e : Expr} {ts : List Nat} {d : Den Rv} {g : DenG} (he : DE cl X e d) (hg : DG cl X tg ts g) (hp : ts.all (fun i => decide (np ≤ i)) = true) (hs : swapsWithSole [tg] e pos.line X.env = pure false := by rfl) (hw : swappedStores [tg] e X.env = pure none := by rfl) (ht : List.map (·.2) (assignEach [tg] X.env) = [assign tg X.env] := by rfl) : DS cl np X (.Assign [tg] e pos) (dAsg d g) :=
  ps_imp (ps_asg (de_sh he) hg hs hw ht) fun E σ H ⟨M, ρ, f, o, ρ', rs, hd, k⟩ => by
    obtain ⟨⟨x, ρ1⟩, h1, hd⟩ := Option.bind_eq_some_iff.mp hd
    obtain ⟨ρ2, h2, hd⟩ := Option.map_eq_some_iff.mp hd
    cases hd
    exact ⟨M, ρ, f, x, ρ1, rs, h1, fun v M1 H1 f1 rs1 is1 st1 => ⟨M1, ρ1, f1, x, _, rs1, is1, h2, fun σ' M' H' f' rs' st' o' => k σ' M' H' f' rs' (st1.trans rs.trk st') (o'.par hp)⟩⟩
end

/-! ### what is walked -/
def IterOk (w : World) (K : PySem.W.Frag) (cl : Nat → Addr) (M1 : Addr → Prop) (H1 : Hp) (J : It) (ds : List D) : Prop := ∃ (G : Hp → Prop) (Y : Nat → Hp → V → Hp → Prop), Walk J ds.length G Y ∧ (∀ M H, Ext M1 H1 M H → G H) ∧
  ∀ M H i x H', Ext M1 H1 M H → Trk M H → i < ds.length → Y i H x H' → (∀ b o, H b = some o → H' b = some o) ∧ ∃ d, ds[i]? = some d ∧ Is w K cl M H' x d
def tDI (w : World) (K : PySem.W.Frag) (cl : Nat → Addr) (den : Den (List D)) : TI := fun σ H R => ∃ M ρ f ds ρ', RS w K cl M ρ σ H f ∧ den ρ = some (ds, ρ') ∧
  ∀ J M' H' f', RS w K cl M' ρ' σ H' f' → Step M H f M' H' f' → IterOk w K cl M' H' J ds → R J H'
abbrev DI (cl : Nat → Addr) (X : Cx) (tg iter : Expr) (den : Den (List D)) : Prop := PI X tg iter (tDI X.w X.K cl den)
theorem pi_imp {X : Cx} {tg e : Expr} {t t' : TI} (h : PI X tg e t) (i : ∀ σ H Q, t' σ H Q → t σ H Q) : PI X tg e t' := ⟨fun pins s σ H Q I k => h.run pins s σ H Q I (i σ H Q k)⟩
theorem pi_or {X : Cx} {tg e : Expr} {t t' : TI} (h : PI X tg e t) (h' : PI X tg e t') : PI X tg e (fun σ H Q => t σ H Q ∨ t' σ H Q) := ⟨fun pins s σ H Q I k => k.elim (h.run pins s σ H Q I) (h'.run pins s σ H Q I)⟩
theorem pe_orr {X : Cx} {e : Expr} {t t' : TE} (h : PE X e t) (h' : PE X e t') : PE X e (fun σ H Q => t σ H Q ∨ t' σ H Q) := ⟨fun pins s σ H Q I k => k.elim (h.run pins s σ H Q I) (h'.run pins s σ H Q I)⟩
section
variable {w : World} {K : PySem.W.Frag} {cl : Nat → Addr} {M M1 M2 M0 : Addr → Prop} {ρ ρ1 : Env} {σ : L2.St} {H H0 H1 H2 H' : Hp} {f f0 f1 f2 : Fp}
/-- the heap grows -/
theorem RS.grow (r : RS w K cl M ρ σ H f) (g : ∀ b o, H b = some o → H' b = some o) : RS w K cl M ρ σ H' f ∧ Step M H f M H' f := by
  have ex : Ext M H M H' := fun b o h m => ⟨g b o h, m⟩
  refine ⟨⟨fun i x hx => ?_, r.none, r.nd, r.dj, r.own, fun a ha => ?_, r.len⟩, ⟨fun b o h _ => g b o h, fun b o h => ⟨o, g b o h⟩, fun _ m _ => m, fun _ m => .inl m, fun _ _ h => .inl h⟩⟩
  · obtain ⟨v, hv, hw⟩ := r.slot i x hx
    exact ⟨v, hv, hw.stay ex fun a _ o h => g a o h⟩
  · obtain ⟨o, h⟩ := r.trk a ha
    exact ⟨o, g a o h⟩
theorem iter_lst {a : Addr} {xs : List V} {ds : List D} (h : H1 a = some (.lst xs)) (m : ¬ M1 a) (t : IsL w K cl M1 H1 xs ds) : IterOk w K cl M1 H1 (Itl K a) ds := by
  have hl := t.length
  refine ⟨fun H => SqL K H a xs, YAt xs, by rw [← hl]; exact walk_list, fun M H e => .inl (.inl (e _ _ h m).1), fun M H i x H' e _ hi y => ?_⟩
  obtain ⟨rfl, y⟩ := y
  refine ⟨fun _ _ h => h, ?_⟩
  obtain ⟨d, h1, h2⟩ := t.getV y
  exact ⟨d, h1, h2.stay e⟩
theorem sqt_of_is {v : V} {ds : List D} (h : Is w K cl M1 H1 v (.tup ds)) : ∃ a xs, v = .ref a ∧ IsL w K cl M1 H1 xs ds ∧ ∀ M H, Ext M1 H1 M H → SqT K H a xs := by
  cases h with
  | tup h1 h2 h3 => exact ⟨_, _, rfl, h3, fun M H e => .inl (e.rd h1 h2).1⟩
  | tupK h1 h2 h3 h4 h5 h6 => exact ⟨_, _, rfl, h6, fun M H e => .inr ⟨_, _, _, h1, h2, h3, h4, h5⟩⟩
theorem iter_tup {a : Addr} {xs : List V} {ds : List D} (h : ∀ M H, Ext M1 H1 M H → SqT K H a xs) (t : IsL w K cl M1 H1 xs ds) : IterOk w K cl M1 H1 (Itt K a) ds := by
  have hl := t.length
  refine ⟨fun H => SqT K H a xs, YAt xs, by rw [← hl]; exact walk_tup, h, fun M H i x H' e _ hi y => ?_⟩
  obtain ⟨rfl, y⟩ := y
  refine ⟨fun _ _ h => h, ?_⟩
  obtain ⟨d, h1, h2⟩ := t.getV y
  exact ⟨d, h1, h2.stay e⟩
def rangeD (lo : Int) (n : Nat) : List D := (List.range n).map fun (i : Nat) => .int (lo + (i : Int))
theorem iter_range {lo : Int} {n : Nat} : IterOk w K cl M1 H1 (Itr lo n) (rangeD lo n) := by
  have hl : (rangeD lo n).length = n := by simp [rangeD]
  refine ⟨fun _ => True, YFn fun i => .int (lo + i), by rw [hl]; exact walk_range, fun _ _ _ => trivial, fun M H i x H' e _ hi y => ?_⟩
  obtain ⟨rfl, rfl⟩ := y
  rw [hl] at hi
  exact ⟨fun _ _ h => h, .int (lo + i), by simp [rangeD, hi], .int _⟩
def rangeDC (lo c : Int) (n : Nat) : List D := (List.range n).map fun (i : Nat) => .int (lo + (i : Int) * c)
theorem iter_rangeC {lo c : Int} {n : Nat} : IterOk w K cl M1 H1 (Itc lo c n) (rangeDC lo c n) := by
  have hl : (rangeDC lo c n).length = n := by simp [rangeDC]
  refine ⟨fun _ => True, YFn fun i => .int (lo + (i : Nat) * c), by rw [hl]; exact walk_rangeC, fun _ _ _ => trivial, fun M H i x H' e _ hi y => ?_⟩
  obtain ⟨rfl, rfl⟩ := y
  rw [hl] at hi
  exact ⟨fun _ _ h => h, .int (lo + (i : Nat) * c), by simp [rangeDC, hi], .int _⟩
theorem pair_is {T : Addr} {x y : V} {a b : D} (t : Trk M H) (n : H T = Option.none) (h1 : Is w K cl M H x a) (h2 : Is w K cl M H y b) : (∀ c o, H c = some o → (upd H T (.tup [x, y])) c = some o) ∧ Is w K cl M (upd H T (.tup [x, y])) (.ref T) (.tup [a, b]) :=
  ⟨fun c o h => by rw [upd_ne (ne_of_none h n)]; exact h, .tup (.inl upd_same) (notM_new n t) (.cons (h1.stay (ext_new n t)) (.cons (h2.stay (ext_new n t)) .nil))⟩
def enumD (ds : List D) : List D := (List.range ds.length).map fun (i : Nat) => .tup [.int (i : Int), ds.getD i .none]
theorem iter_enum {a : Addr} {xs : List V} {ds : List D} (h : H1 a = some (.lst xs)) (m : ¬ M1 a) (t : IsL w K cl M1 H1 xs ds) : IterOk w K cl M1 H1 (Ite K a) (enumD ds) := by
  have hl : (enumD ds).length = xs.length := by simp [enumD, t.length]
  refine ⟨fun H => SqL K H a xs, _, by rw [hl]; exact walk_enum, fun M H e => .inl (.inl (e _ _ h m).1), fun M H i x H' e tr hi y => ?_⟩
  obtain ⟨T, x1, x2, rfl, n, rfl, e1, e2⟩ := y
  cases e1
  obtain ⟨d, h1, h2⟩ := t.getV e2
  obtain ⟨q1, q2⟩ := pair_is tr n (Is.int (i : Int)) (h2.stay e)
  refine ⟨q1, _, ?_, q2⟩
  have hi' : i < ds.length := (List.getElem?_eq_some_iff.mp h1).1
  have e3 : ds.getD i .none = d := by rw [List.getD, h1]; rfl
  simp [enumD, hi']
  exact (List.getElem?_eq_some_iff.mp h1).2
def zipD (ds es : List D) : List D := (List.range (min ds.length es.length)).map fun (i : Nat) => .tup [ds.getD i .none, es.getD i .none]
theorem iter_pairs {J : It} {G : Hp → Prop} {xs ys : List V} {ds es : List D} {n : Nat} (hn : n = min xs.length ys.length) (wk : Walk J n G (YPair (fun i => xs[i]?) (fun i => ys[i]?))) (hG : ∀ M H, Ext M1 H1 M H → G H) (t : IsL w K cl M1 H1 xs ds) (u : IsL w K cl M1 H1 ys es) : IterOk w K cl M1 H1 J (zipD ds es) := by
  have hl : (zipD ds es).length = n := by simp [zipD, hn, t.length, u.length]
  refine ⟨G, _, by rw [hl]; exact wk, hG, fun M H i x H' e tr hi y => ?_⟩
  obtain ⟨T, x1, x2, rfl, n', rfl, e1, e2⟩ := y
  obtain ⟨d, h1, h2⟩ := t.getV e1
  obtain ⟨d', h3, h4⟩ := u.getV e2
  obtain ⟨q1, q2⟩ := pair_is tr n' (h2.stay e) (h4.stay e)
  refine ⟨q1, _, ?_, q2⟩
  have hi1 : i < ds.length := (List.getElem?_eq_some_iff.mp h1).1
  have hi2 : i < es.length := (List.getElem?_eq_some_iff.mp h3).1
  have e3 : ds.getD i .none = d := by rw [List.getD, h1]; rfl
  have e4 : es.getD i .none = d' := by rw [List.getD, h3]; rfl
  simp [zipD, hi1, hi2, Nat.lt_min]
  exact ⟨(List.getElem?_eq_some_iff.mp h1).2, (List.getElem?_eq_some_iff.mp h3).2⟩
theorem walk_zipT {a b : Addr} {xs ys : List V} {n : Nat} (hn : n = min xs.length ys.length) : Walk (RZ.ItzT K a b) n (fun H => SqT K H a xs ∧ SqT K H b ys) (YPair (fun i => xs[i]?) (fun i => ys[i]?)) := by
  subst hn
  refine ⟨fun i _ hi q => ?_, fun _ q => ⟨xs, ys, q.1, q.2, by omega⟩, fun i H v H' _ q y => ?_⟩
  · have h1 : i < xs.length := by omega
    have h2 : i < ys.length := by omega
    exact ⟨xs, ys, xs[i], ys[i], q.1, q.2, by simp [h1], by simp [h2]⟩
  · obtain ⟨T, x, z, h1, h2, h3, h4, h5⟩ := y
    exact ⟨T, x, z, h1, h2, h3, h4 xs q.1, h5 ys q.2⟩
end
section
variable {cl : Nat → Addr} {X : Cx} {pos p tpos : Pos} {tg e e2 e3 : Expr} {elts : List Expr} {kk : Nat}
/-- a list or a tuple, let go -/
def dISeq (d : Den Rv) : Den (List D) := fun ρ => (dSh d ρ).bind fun r => match r.1 with
  | .lst ds => some (ds, r.2)
  | .tup ds => some (ds, r.2)
  | _ => Option.none
theorem di_seq {d : Den Rv} (h : DE cl X e d) : DI cl X tg e (dISeq d) := pi_imp (pi_or (pi_list (de_sh h)) (pi_tup (de_sh h))) fun σ H R ⟨M, ρ, f, ds, ρ', rs, hd, k⟩ => by
  obtain ⟨⟨x, ρ1⟩, h1, hd⟩ := Option.bind_eq_some_iff.mp hd
  cases x <;> try cases hd
  · refine .inr ⟨M, ρ, f, _, _, rs, h1, fun v M1 H1 f1 rs1 is1 st1 => ?_⟩
    obtain ⟨a, xs, e, t, hs⟩ := sqt_of_is is1
    exact ⟨a, e, ⟨xs, hs M1 H1 Ext.refl⟩, k _ M1 H1 f1 rs1 st1 (iter_tup hs t)⟩
  · refine .inl ⟨M, ρ, f, _, _, rs, h1, fun v M1 H1 f1 rs1 is1 st1 => ?_⟩
    cases is1 with
    | lst h2 h3 h4 => exact ⟨_, rfl, ⟨_, .inl (.inl h2)⟩, k _ M1 H1 f1 rs1 st1 (iter_lst h2 h3 h4)⟩
def small62 (i : Int) : Bool := decide (-(2 ^ 62) ≤ i ∧ i < 2 ^ 62)
def dIRange1 (d : Den (List D)) : Den (List D) := fun ρ => (d ρ).bind fun r => match r.1 with
  | [.int j] => if small62 j = true then some (rangeD 0 j.toNat, r.2) else Option.none
  | _ => Option.none
theorem isL_int1 {w : World} {K : PySem.W.Frag} {M : Addr → Prop} {H : Hp} {vs : List V} {i : Int} (h : IsL w K cl M H vs [.int i]) : vs = [.int i] := by
  cases h with
  | cons a t => cases t; rw [is_int a]
theorem isL_int2 {w : World} {K : PySem.W.Frag} {M : Addr → Prop} {H : Hp} {vs : List V} {i j : Int} (h : IsL w K cl M H vs [.int i, .int j]) : vs = [.int i, .int j] := by
  cases h with
  | cons a t => rw [is_int a, isL_int1 t]
theorem isL_int3 {w : World} {K : PySem.W.Frag} {M : Addr → Prop} {H : Hp} {vs : List V} {i j l : Int} (h : IsL w K cl M H vs [.int i, .int j, .int l]) : vs = [.int i, .int j, .int l] := by
  cases h with
  | cons a t => rw [is_int a, isL_int2 t]
theorem di_range1 {a : Expr} {d : Den (List D)} (hg : Gl X "range") (hm : X.mg "range" = none) (ha : DA cl X [a] d) (hs : starEach [a] X.env = [(false, eval a X.env)] := by rfl) : DI cl X tg (.Call (.Name "range" p) [a] [] pos) (dIRange1 d) := pi_imp (pi_range1 hg hm ha hs) fun σ H R ⟨M, ρ, f, ds, ρ', rs, hd, k⟩ => by
  obtain ⟨⟨x, ρ1⟩, h1, hd⟩ := Option.bind_eq_some_iff.mp hd
  split at hd
  · rename_i j ej
    have ej' : x = [.int j] := ej
    subst ej'
    split at hd
    · rename_i c
      cases hd
      have c' := of_decide_eq_true c
      exact ⟨M, ρ, f, _, ρ1, rs, h1, fun vs M1 H1 f1 rs1 is1 st1 => ⟨j, isL_int1 is1, c'.1, c'.2, k _ M1 H1 f1 rs1 st1 iter_range⟩⟩
    · cases hd
  · cases hd
def dIRange2 (d : Den (List D)) : Den (List D) := fun ρ => (d ρ).bind fun r => match r.1 with
  | [.int i, .int j] => if (small62 i && small62 j) = true then some (rangeD i (j - i).toNat, r.2) else Option.none
  | _ => Option.none
theorem di_range2 {a b : Expr} {d : Den (List D)} (hg : Gl X "range") (hm : X.mg "range" = none) (ha : DA cl X [a, b] d) (hs : starEach [a, b] X.env = [(false, eval a X.env), (false, eval b X.env)] := by rfl) (hs2 : starEach [b] X.env = [(false, eval b X.env)] := by rfl) : DI cl X tg (.Call (.Name "range" p) [a, b] [] pos) (dIRange2 d) := pi_imp (pi_range2 hg hm ha hs hs2) fun σ H R ⟨M, ρ, f, ds, ρ', rs, hd, k⟩ => by
  obtain ⟨⟨x, ρ1⟩, h1, hd⟩ := Option.bind_eq_some_iff.mp hd
  split at hd
  · rename_i i j ej
    have ej' : x = [.int i, .int j] := ej
    subst ej'
    split at hd
    · rename_i c
      cases hd
      have c' := Bool.and_eq_true_iff.mp c
      have c1 := of_decide_eq_true c'.1
      have c2 := of_decide_eq_true c'.2
      exact ⟨M, ρ, f, _, ρ1, rs, h1, fun vs M1 H1 f1 rs1 is1 st1 => ⟨i, j, isL_int2 is1, ⟨c1.1, c1.2, c2.1, c2.2⟩, k _ M1 H1 f1 rs1 st1 iter_range⟩⟩
    · cases hd
  · cases hd
/-- range(a, b, -1) -/
def dIRange3 (d : Den (List D)) : Den (List D) := fun ρ => (d ρ).bind fun r => match r.1 with
  | [.int i, .int j, .int l] => if (small62 i && small62 j && decide (l = -1)) = true then some (rangeDC i (-1) (i - j).toNat, r.2) else Option.none
  | _ => Option.none
theorem di_range3 {a b c : Expr} {d : Den (List D)} (hg : Gl X "range") (hm : X.mg "range" = none) (ha : DA cl X [a, b, c] d)
    (hs : starEach [a, b, c] X.env = (false, eval a X.env) :: starEach [b, c] X.env := by rfl) (hpl : (backTo pos (starEach [b, c] X.env)).any (·.1) = false := by rfl) : DI cl X tg (.Call (.Name "range" p) [a, b, c] [] pos) (dIRange3 d) := pi_imp (pi_range3 hg hm ha hs hpl) fun σ H R ⟨M, ρ, f, ds, ρ', rs, hd, k⟩ => by
  obtain ⟨⟨x, ρ1⟩, h1, hd⟩ := Option.bind_eq_some_iff.mp hd
  split at hd
  · rename_i i j l ej
    have ej' : x = [.int i, .int j, .int l] := ej
    subst ej'
    split at hd
    · rename_i c
      cases hd
      have c' := Bool.and_eq_true_iff.mp c
      have c0 := Bool.and_eq_true_iff.mp c'.1
      have c1 := of_decide_eq_true c0.1
      have c2 := of_decide_eq_true c0.2
      have c3 := of_decide_eq_true c'.2
      subst c3
      exact ⟨M, ρ, f, _, ρ1, rs, h1, fun vs M1 H1 f1 rs1 is1 st1 => ⟨i, j, -1, _, isL_int3 is1, RgC.neg c1.1 c1.2 c2.1 c2.2, k _ M1 H1 f1 rs1 st1 iter_rangeC⟩⟩
    · cases hd
  · cases hd
def dIEnum (d : Den (List D)) : Den (List D) := fun ρ => (d ρ).bind fun r => match r.1 with
  | [.lst ds] => some (enumD ds, r.2)
  | _ => Option.none
theorem di_enum {d : Den (List D)} (hg : Gl X "enumerate") (hm : X.mg "enumerate" = none) (ha : DA cl X [e] d) (hs : starEach [e] X.env = [(false, eval e X.env)] := by rfl) : DI cl X (.Tuple elts kk tpos) (.Call (.Name "enumerate" p) [e] [] pos) (dIEnum d) := pi_imp (pi_enum hg hm ha hs) fun σ H R ⟨M, ρ, f, ds, ρ', rs, hd, k⟩ => by
  obtain ⟨⟨x, ρ1⟩, h1, hd⟩ := Option.bind_eq_some_iff.mp hd
  split at hd
  · rename_i l ej
    have ej' : x = [.lst l] := ej
    subst ej'
    cases hd
    refine ⟨M, ρ, f, _, ρ1, rs, h1, fun vs M1 H1 f1 rs1 is1 st1 => ?_⟩
    cases is1 with
    | cons a t =>
      cases t
      cases a with
      | lst h2 h3 h4 => exact ⟨_, _, rfl, .inl (.inl h2), k _ M1 H1 f1 rs1 st1 (iter_enum h2 h3 h4)⟩
  · cases hd
def dIZip (d : Den (List D)) : Den (List D) := fun ρ => (d ρ).bind fun r => match r.1 with
  | [.lst ds, .lst es] => some (zipD ds es, r.2)
  | [.tup ds, .tup es] => some (zipD ds es, r.2)
  | _ => Option.none
theorem di_zip {d : Den (List D)} (hg : Gl X "zip") (hm : X.mg "zip" = none) (ha : DA cl X [e, e2] d) (hs : starEach [e, e2] X.env = (false, eval e X.env) :: starEach [e2] X.env := by rfl) (hpl : (backTo pos (starEach [e2] X.env)).any (·.1) = false := by rfl) :
    DI cl X (.Tuple elts kk tpos) (.Call (.Name "zip" p) [e, e2] [] pos) (dIZip d) := pi_imp (RZ.pi_zipA hg hm ha hs hpl) fun σ H R ⟨M, ρ, f, ds, ρ', rs, hd, k⟩ => by
  obtain ⟨⟨x, ρ1⟩, h1, hd⟩ := Option.bind_eq_some_iff.mp hd
  split at hd
  · rename_i l l2 ej
    have ej' : x = [.lst l, .lst l2] := ej
    subst ej'
    cases hd
    refine ⟨M, ρ, f, _, ρ1, rs, h1, fun vs M1 H1 f1 rs1 is1 st1 => ?_⟩
    cases is1 with
    | cons a t =>
      cases t with
      | cons b t =>
        cases t
        cases a with
        | lst h2 h3 h4 =>
          cases b with
          | lst h5 h6 h7 => exact ⟨_, _, _, _, rfl, .inl ⟨.inl (.inl h2), .inl (.inl h5), k _ M1 H1 f1 rs1 st1 (iter_pairs rfl (walk_zip rfl) (fun M H e => ⟨.inl (.inl (e _ _ h2 h3).1), .inl (.inl (e _ _ h5 h6).1)⟩) h4 h7)⟩⟩
  · rename_i l l2 ej
    have ej' : x = [.tup l, .tup l2] := ej
    subst ej'
    cases hd
    refine ⟨M, ρ, f, _, ρ1, rs, h1, fun vs M1 H1 f1 rs1 is1 st1 => ?_⟩
    cases is1 with
    | cons a t =>
      cases t with
      | cons b t =>
        cases t
        obtain ⟨a1, xs, e1, t1, hs1⟩ := sqt_of_is a
        obtain ⟨a2, ys, e2, t2, hs2⟩ := sqt_of_is b
        subst e1 e2
        exact ⟨_, _, _, _, rfl, .inr ⟨hs1 _ _ Ext.refl, hs2 _ _ Ext.refl, k _ M1 H1 f1 rs1 st1 (iter_pairs rfl (walk_zipT rfl) (fun M H e => ⟨hs1 M H e, hs2 M H e⟩) t1 t2)⟩⟩
  · cases hd
end
end Ws
set_option Elab.async false
set_option linter.all false
set_option maxRecDepth 100000
set_option maxHeartbeats 2000000
/-! Ws8: for, comprehensions, while, instances. -/
namespace Ws
open PySem PySem.Spec PyProof.Rows L2

/-! ### for -/
def forLoop (g : DenG) (body : Den Out) : List D → Den Out
  | [] => fun ρ => some (.next, ρ)
  | d :: ds => fun ρ => (g d ρ).bind fun ρ1 => (body ρ1).bind fun r => match r.1 with
    | .next => forLoop g body ds r.2
    | .cont => forLoop g body ds r.2
    | .brk => some (.next, r.2)
    | .ret rv => some (.ret rv, r.2)
def dFor (di : Den (List D)) (g : DenG) (body : Den Out) : Den Out := fun ρ => (di ρ).bind fun r => forLoop g body r.1 r.2
section
variable {cl : Nat → Addr} {np : Nat} {X : Cx} {pos : Pos} {tg iter : Expr} {body : List Stmt} {ts : List Nat}
theorem ds_for {di : Den (List D)} {g : DenG} {db : Den Out} (hp : PassesOwn (model X.prog X.w) X.A X.env X.xe) (hc : X.calm = true) (hi : DI cl X tg iter di) (hg : DG cl X tg ts g) (hb : DSs cl np X body db) (ht : ts.all (fun i => decide (np ≤ i)) = true)
    (hs : ∀ x, foldedSetIterable iter X.env x = pure x := by intro _; rfl) : DS cl np X (.For tg iter body [] pos) (dFor di g db) := ps_imp (ps_for hp hc hi hg hb hs) fun E σ H ⟨M, ρ, f, o, ρ', rs, hd, k⟩ => by
  obtain ⟨⟨ds, ρ1⟩, h1, hd⟩ := Option.bind_eq_some_iff.mp hd
  refine ⟨M, ρ, f, ds, ρ1, rs, h1, fun J M1 H1 f1 rs1 st1 io => ?_⟩
  obtain ⟨G, Y, wk, hG, hY⟩ := io
  have hd' : forLoop g db ds ρ1 = some (o, ρ') := hd
  refine for_it wk (fun i σi Hi => ∃ Mi ρi fi, RS X.w X.K cl Mi ρi σi Hi fi ∧ Step M1 H1 f1 Mi Hi fi ∧ Par np σ σi ∧ forLoop g db (ds.drop i) ρi = some (o, ρ')) ⟨M1, ρ1, f1, rs1, Step.refl, Par.refl, by simpa using hd'⟩
    (fun i σi Hi _ ⟨Mi, ρi, fi, ri, si, pi, _⟩ => hG Mi Hi (rs1.ext si)) (fun i x σi Hi Hi' hi ⟨Mi, ρi, fi, ri, si, pi, ei⟩ y => ?_) (fun σi Hi ⟨Mi, ρi, fi, ri, si, pi, ei⟩ => ?_)
  · obtain ⟨gr, d, e1, e2⟩ := hY Mi Hi i x Hi' (rs1.ext si) ri.trk hi y
    obtain ⟨ri', si'⟩ := ri.grow gr
    have hdrop : ds.drop i = d :: ds.drop (i + 1) := by
      rw [List.drop_eq_getElem_cons hi, (List.getElem?_eq_some_iff.mp e1).2]
    rw [hdrop] at ei
    obtain ⟨ρ2, h3, ei⟩ := Option.bind_eq_some_iff.mp (show (g d ρi).bind (fun ρ1 => (db ρ1).bind fun r => match r.1 with
      | .next => forLoop g db (ds.drop (i + 1)) r.2
      | .cont => forLoop g db (ds.drop (i + 1)) r.2
      | .brk => some (.next, r.2)
      | .ret rv => some (.ret rv, r.2)) = some (o, ρ') from ei)
    obtain ⟨⟨o2, ρ3⟩, h4, ei⟩ := Option.bind_eq_some_iff.mp ei
    have s0 := si.trans rs1.trk si'
    refine ⟨Mi, ρi, fi, d, ρ2, ri', e2, h3, fun σ2 M2 H2 f2 r2 s2 o2' => ⟨M2, ρ2, f2, o2, ρ3, r2, h4, fun σ3 M3 H3 f3 r3 s3 p3 => ?_⟩⟩
    have s03 := (s0.trans rs1.trk s2).trans rs1.trk s3
    have p03 : Par np σ σ3 := (pi.trans (o2'.par ht)).trans p3
    cases o2 with
    | next => exact ⟨M3, ρ3, f3, r3, s03, p03, ei⟩
    | cont => exact ⟨M3, ρ3, f3, r3, s03, p03, ei⟩
    | brk =>
      cases ei
      exact k σ3 M3 H3 f3 r3 (st1.trans rs.trk s03) p03
    | ret rv =>
      cases ei
      exact fun v fw ok => k σ3 M3 H3 f3 r3 (st1.trans rs.trk s03) p03 v fw (rv_base (st1.trans rs.trk (s0.trans rs1.trk s2)) ok)
  · rw [List.drop_length] at ei
    cases ei
    exact k σi Mi Hi fi ri (st1.trans rs.trk si) pi

/-! ### while -/
def whileLoop (t : Den Bool) (body : Den Out) : Nat → Den Out
  | 0 => fun _ => Option.none
  | n + 1 => fun ρ => (t ρ).bind fun r => if r.1 = true then (body r.2).bind fun q => match q.1 with
      | .next => whileLoop t body n q.2
      | .cont => whileLoop t body n q.2
      | .brk => some (.next, q.2)
      | .ret rv => some (.ret rv, q.2)
    else some (.next, r.2)
theorem ds_while {c : Expr} {t : Den Bool} {db : Den Out} (n : Nat) (hp : PassesOwn (model X.prog X.w) X.A X.env X.xe) (hc : DT cl X c t) (hb : DSs cl np X body db) : DS cl np X (.While c body [] pos) (whileLoop t db n) := ps_imp (ps_while hp hc hb) fun E σ H ⟨M, ρ, f, o, ρ', rs, hd, k⟩ => by
  refine ⟨fun m σi Hi => ∃ Mi ρi fi, RS X.w X.K cl Mi ρi σi Hi fi ∧ Step M H f Mi Hi fi ∧ Par np σ σi ∧ whileLoop t db m ρi = some (o, ρ'), ⟨n, M, ρ, f, rs, Step.refl, Par.refl, hd⟩, ?_⟩
  rintro m σi Hi ⟨Mi, ρi, fi, ri, si, pi, ei⟩
  cases m with
  | zero => cases ei
  | succ m =>
    obtain ⟨⟨b, ρ2⟩, h1, ei⟩ := Option.bind_eq_some_iff.mp (show (t ρi).bind (fun r => if r.1 = true then (db r.2).bind fun q => match q.1 with
      | .next => whileLoop t db m q.2
      | .cont => whileLoop t db m q.2
      | .brk => some (.next, q.2)
      | .ret rv => some (.ret rv, q.2)
    else some (.next, r.2)) = some (o, ρ') from ei)
    refine ⟨Mi, ρi, fi, b, ρ2, ri, h1, fun M2 H2 f2 r2 s2 => ?_⟩
    have s02 := si.trans rs.trk s2
    cases b with
    | false =>
      rw [if_neg (by simp)] at ei
      refine L2.iteF ?_
      cases ei
      exact k σi M2 H2 f2 r2 s02 pi
    | true =>
      rw [if_pos rfl] at ei
      refine L2.iteT ?_
      obtain ⟨⟨o2, ρ3⟩, h4, ei⟩ := Option.bind_eq_some_iff.mp ei
      refine ⟨fun σ' H' => ∃ Mi ρi fi, RS X.w X.K cl Mi ρi σ' H' fi ∧ Step M H f Mi H' fi ∧ Par np σ σ' ∧ whileLoop t db m ρi = some (o, ρ'), fun σ' H' h => ⟨m, Nat.lt_succ_self _, h⟩, M2, ρ2, f2, o2, ρ3, r2, h4, fun σ3 M3 H3 f3 r3 s3 p3 => ?_⟩
      have s03 := s02.trans rs.trk s3
      have p03 := pi.trans p3
      cases o2 with
      | next => exact ⟨M3, ρ3, f3, r3, s03, p03, ei⟩
      | cont => exact ⟨M3, ρ3, f3, r3, s03, p03, ei⟩
      | brk =>
        cases ei
        exact k σ3 M3 H3 f3 r3 s03 p03
      | ret rv =>
        cases ei
        exact fun v fw ok => k σ3 M3 H3 f3 r3 s03 p03 v fw (rv_base s02 ok)
end

/-! ### list comprehensions -/
def wipeE (ρ : Env) : List Nat → Env
  | [] => ρ
  | v :: vs => (wipeE ρ vs).set v Option.none
def wipeF (f : Fp) : List Nat → Fp
  | [] => f
  | v :: vs => fpSet (wipeF f vs) v []
theorem wipeF_sub {f : Fp} : ∀ {vs : List Nat} {j : Nat} {a : Addr}, a ∈ wipeF f vs j → a ∈ f j
  | [], _, _, h => h
  | v :: vs, j, a, h => by
    have h' : a ∈ fpSet (wipeF f vs) v [] j := h
    by_cases e : j = v
    · rw [e, fpSet_same] at h'; cases h'
    · rw [fpSet_ne e] at h'; exact wipeF_sub h'
section
variable {w : World} {K : PySem.W.Frag} {cl : Nat → Addr} {M M1 M2 M0 : Addr → Prop} {ρ ρ1 : Env} {σ : L2.St} {H H0 H1 H2 H' : Hp} {f f0 f1 f2 : Fp}
theorem RS.clear2 (r : RS w K cl M ρ σ H f) (i : Nat) : RS w K cl M (ρ.set i Option.none) (σ.set i Option.none) H (fpSet f i []) := by
  have rc := r.clear i
  refine ⟨fun j y hy => ?_, rc.none, rc.nd, rc.dj, rc.own, rc.trk, by simpa using r.len⟩
  obtain ⟨u, hu, hw⟩ := rc.slot j y hy
  rcases set_get hy with ⟨_, e2⟩ | ⟨e1, e2⟩
  · cases e2
  · exact ⟨u, by rw [List.getElem?_set_ne e1]; exact hu, hw⟩
theorem RS.wipe (r : RS w K cl M ρ σ H f) : ∀ vs : List Nat, RS w K cl M (wipeE ρ vs) (L2.wipe σ vs) H (wipeF f vs)
  | [] => r
  | v :: vs => (RS.wipe r vs).clear2 v
theorem Step.wipe {vs : List Nat} (s : Step M0 H0 f0 M H f) : Step M0 H0 f0 M H (wipeF f vs) := ⟨s.keep, s.there, s.prot, s.anti, fun i b hb => s.own i b (wipeF_sub hb)⟩
theorem wipe_at {σ : L2.St} : ∀ {vs : List Nat} {i : Nat}, i ∉ vs → (L2.wipe σ vs)[i]? = σ[i]?
  | [], _, _ => rfl
  | v :: vs, i, h => by
    show ((L2.wipe σ vs).set v Option.none)[i]? = σ[i]?
    rw [List.getElem?_set_ne (fun e => h (by simp [e]))]
    exact wipe_at fun z => h (List.mem_cons_of_mem _ z)
theorem wipe_in {σ : L2.St} : ∀ {vs : List Nat} {i : Nat}, i ∈ vs → (L2.wipe σ vs)[i]? = if i < σ.length then some Option.none else Option.none
  | v :: vs, i, h => by
    show ((L2.wipe σ vs).set v Option.none)[i]? = _
    by_cases e : v = i
    · subst e
      rw [List.getElem?_set, if_pos rfl, L2.wipe_length]
    · rw [List.getElem?_set_ne e]
      rcases List.mem_cons.mp h with z | z
      · exact absurd z.symm e
      · exact wipe_in z
theorem wipe_off {σ σ' : L2.St} {ts vs : List Nat} (o : Off ts (L2.wipe σ vs) σ') (h : ∀ i ∈ ts, i ∈ vs) : L2.wipe σ' vs = L2.wipe σ vs := by
  refine List.ext_getElem? fun i => ?_
  have hl : σ'.length = σ.length := by rw [o.2, L2.wipe_length]
  by_cases e : i ∈ vs
  · rw [wipe_in e, wipe_in e, hl]
  · rw [wipe_at e, o.1 i fun z => e (h i z)]
theorem wipe_wipe {σ : L2.St} {vs : List Nat} : L2.wipe (L2.wipe σ vs) vs = L2.wipe σ vs := wipe_off (ts := []) Off.refl fun _ h => nomatch h
/-- an object of one's own that no local holds changes -/
theorem RS.poke {D : Addr} (r : RS w K cl M ρ σ H f) (m : M D) (n : ∀ i, D ∉ f i) (o : HO) : RS w K cl M ρ σ (upd H D o) f := by
  have ex : Ext M H M (upd H D o) := fun b u h hm => ⟨by rw [upd_ne (fun e => hm (by rw [e]; exact m))]; exact h, hm⟩
  refine ⟨fun i x hx => ?_, r.none, r.nd, r.dj, r.own, fun a ha => ?_, r.len⟩
  · obtain ⟨v, hv, hw⟩ := r.slot i x hx
    exact ⟨v, hv, hw.stay ex fun a ha u h => by rw [upd_ne (fun e => n i (by rw [← e]; exact ha))]; exact h⟩
  · obtain ⟨u, h⟩ := r.trk a ha
    exact upd_there h
theorem ext_poke {D : Addr} {o : HO} (m : M D) : Ext M H M (upd H D o) := fun b u h hm => ⟨by rw [upd_ne (fun e => hm (by rw [e]; exact m))]; exact h, hm⟩
theorem Step.poke {D : Addr} {o : HO} (s : Step M0 H0 f0 M H f) (n : H0 D = Option.none) : Step M0 H0 f0 M (upd H D o) f :=
  ⟨fun b u h q => by rw [upd_ne (ne_of_none h n)]; exact s.keep b u h q, fun b u h => by
    obtain ⟨u', h'⟩ := s.there b u h
    exact upd_there h', s.prot, s.anti, s.own⟩
end
/-- the locals that a comprehension's names cover are as before it, where they held data -/
def restE (ρ0 ρ : Env) : List Nat → Env
  | [] => ρ
  | v :: vs => (restE ρ0 ρ vs).set v (match slotW ρ0 v with
    | some (.leaf d) => some (.leaf d)
    | _ => Option.none)
def lcLoop (g : DenG) (tt : Den Bool) (te : Den D) (vs : List Nat) : List D → List D → Env → Option (List D × Env)
  | [], acc, ρ => some (acc, ρ)
  | d :: ds, acc, ρ => (g d ρ).bind fun ρ1 => (tt ρ1).bind fun r => if r.1 = true then (te r.2).bind fun q => if acc.length < sizeLine then lcLoop g tt te vs ds (acc ++ [q.1]) (wipeE q.2 vs) else Option.none else lcLoop g tt te vs ds acc (wipeE r.2 vs)
def dLc (di : Den (List D)) (g : DenG) (tt : Den Bool) (te : Den D) (vs : List Nat) : Den Rv := fun ρ => (di ρ).bind fun r => (lcLoop g tt te vs r.1 [] (wipeE r.2 vs)).map fun q => (ownL q.1, restE r.2 q.2 vs)
def dYes : Den Bool := fun ρ => some (true, ρ)
section
variable {w : World} {K : PySem.W.Frag} {cl : Nat → Addr} {M M1 M2 M0 : Addr → Prop} {ρ ρ1 : Env} {σ : L2.St} {H H0 H1 H2 H' : Hp} {f f0 f1 f2 : Fp}
theorem restE_len {ρ0 ρ : Env} : ∀ vs : List Nat, (restE ρ0 ρ vs).length = ρ.length
  | [] => rfl
  | v :: vs => by
    show ((restE ρ0 ρ vs).set v _).length = _
    rw [List.length_set, restE_len vs]
theorem restE_at {ρ0 ρ : Env} : ∀ {vs : List Nat} {i : Nat}, i ∉ vs → (restE ρ0 ρ vs)[i]? = ρ[i]?
  | [], _, _ => rfl
  | v :: vs, i, h => by
    show ((restE ρ0 ρ vs).set v _)[i]? = _
    rw [List.getElem?_set_ne (fun e => h (by simp [e]))]
    exact restE_at fun z => h (List.mem_cons_of_mem _ z)
theorem restE_in {ρ0 ρ : Env} {x : W} : ∀ {vs : List Nat} {i : Nat}, i ∈ vs → (restE ρ0 ρ vs)[i]? = some (some x) → ∃ d, x = .leaf d ∧ ρ0[i]? = some (some (.leaf d))
  | v :: vs, i, h, e => by
    have e' : ((restE ρ0 ρ vs).set v (match slotW ρ0 v with
      | some (.leaf d) => some (.leaf d)
      | _ => Option.none))[i]? = some (some x) := e
    by_cases q : v = i
    · subst q
      rcases set_get e' with ⟨_, e2⟩ | ⟨e1, _⟩
      · split at e2
        · rename_i d hd
          cases e2
          exact ⟨d, rfl, slotW_some hd⟩
        · cases e2
      · exact absurd rfl e1
    · rw [List.getElem?_set_ne q] at e'
      rcases List.mem_cons.mp h with z | z
      · exact absurd z.symm q
      · exact restE_in z e'
theorem RS.restore {ρ0 : Env} {f0 : Fp} {vs : List Nat} (r0 : RS w K cl M0 ρ0 σ H0 f0) (ex : Ext M0 H0 M H) (r : RS w K cl M ρ (L2.wipe σ vs) H f) : RS w K cl M (restE ρ0 ρ vs) σ H f := by
  have nov : ∀ i, i ∈ vs → f i = [] := fun i hi => r.none i fun x hx => by
    obtain ⟨v, hv, _⟩ := r.slot i x hx
    rw [wipe_in hi] at hv
    split at hv <;> cases hv
  refine ⟨fun i x hx => ?_, fun i hi => ?_, r.nd, r.dj, r.own, r.trk, ?_⟩
  · by_cases e : i ∈ vs
    · obtain ⟨d, rfl, h0⟩ := restE_in e hx
      obtain ⟨v, hv, hw⟩ := r0.slot i _ h0
      have : ∃ l, l = f0 i := ⟨_, rfl⟩
      obtain ⟨l, hl⟩ := this
      rw [← hl] at hw
      cases hw with
      | leaf is => exact ⟨v, hv, by rw [nov i e]; exact .leaf (is.stay ex)⟩
    · rw [restE_at e] at hx
      obtain ⟨v, hv, hw⟩ := r.slot i x hx
      rw [wipe_at e] at hv
      exact ⟨v, hv, hw⟩
  · by_cases e : i ∈ vs
    · exact nov i e
    · refine r.none i fun x hx => hi x ?_
      rw [restE_at e]
      exact hx
  · rw [restE_len, r.len, L2.wipe_length]
/-- the loop of a comprehension -/
theorem lc_run {di : Den (List D)} {g : DenG} {tt : Den Bool} {te : Den D} {ts vs : List Nat} {Q : VK} (hts : ∀ i ∈ ts, i ∈ vs) (h : tD w K cl (dLc di g tt te vs) σ H Q) :
    tLc (tDI w K cl di) (tDG w K cl ts g) (tDT w K cl tt) (tS w K cl te) vs σ H Q := by
  obtain ⟨M, ρ, f, rv, ρ', rs, hd, k⟩ := h
  obtain ⟨⟨ds, ρ1⟩, h1, hd⟩ := Option.bind_eq_some_iff.mp hd
  obtain ⟨⟨res, ρ2⟩, h2, hd⟩ := Option.map_eq_some_iff.mp hd
  cases hd
  refine ⟨M, ρ, f, ds, ρ1, rs, h1, fun J M1 H1 f1 rs1 st1 io D nD => ?_⟩
  obtain ⟨G, Y, wk, hG, hY⟩ := io
  obtain ⟨rD, sD⟩ := rs1.newM nD (.lst [])
  have r0 := rD.wipe vs
  have s0 : Step M1 H1 f1 (fun a => M1 a ∨ a = D) (upd H1 D (.lst [])) (wipeF f1 vs) := sD.wipe
  refine lc_it wk (fun i Hi => ∃ Mi ρi fi acc xs, RS w K cl Mi ρi (L2.wipe σ vs) Hi fi ∧ Step M1 H1 f1 Mi Hi fi ∧ lcLoop g tt te vs (ds.drop i) acc ρi = some (res, ρ2) ∧ Hi D = some (.lst xs) ∧ IsL w K cl Mi Hi xs acc ∧ Mi D ∧ ∀ j, D ∉ fi j)
    ⟨_, _, _, [], [], r0, s0, by simpa using h2, upd_same, .nil, .inr rfl, fun j z => rs1.not_in nD j (wipeF_sub z)⟩
    (fun i Hi _ ⟨Mi, ρi, fi, acc, xs, ri, si, _⟩ => hG Mi Hi (rs1.ext si)) (fun i x Hi Hi' hi ⟨Mi, ρi, fi, acc, xs, ri, si, ei, hD, ia, mD, nf⟩ y => ?_) (fun Hi ⟨Mi, ρi, fi, acc, xs, ri, si, ei, hD, ia, mD, nf⟩ => ?_)
  · obtain ⟨gr, d, e1, e2⟩ := hY Mi Hi i x Hi' (rs1.ext si) ri.trk hi y
    obtain ⟨ri', si'⟩ := ri.grow gr
    have hdrop : ds.drop i = d :: ds.drop (i + 1) := by rw [List.drop_eq_getElem_cons hi, (List.getElem?_eq_some_iff.mp e1).2]
    rw [hdrop] at ei
    obtain ⟨ρ3, h3, ei⟩ := Option.bind_eq_some_iff.mp (show (g d ρi).bind (fun ρ1 => (tt ρ1).bind fun r => if r.1 = true then (te r.2).bind fun q => if acc.length < sizeLine then lcLoop g tt te vs (ds.drop (i + 1)) (acc ++ [q.1]) (wipeE q.2 vs) else Option.none else lcLoop g tt te vs (ds.drop (i + 1)) acc (wipeE r.2 vs)) = some (res, ρ2) from ei)
    obtain ⟨⟨b, ρ4⟩, h4, ei⟩ := Option.bind_eq_some_iff.mp ei
    have si1 := si.trans rs1.trk si'
    refine ⟨Mi, ρi, fi, d, ρ3, ri', e2, h3, fun σ2 M2 H2 f2 r2 s2 o2 => ⟨?_, M2, ρ3, f2, b, ρ4, r2, h4, fun M3 H3 f3 r3 s3 => ?_⟩⟩
    · rw [wipe_off o2 hts]
    have hw2 : L2.wipe σ2 vs = L2.wipe σ vs := wipe_off o2 hts
    have si3 := (si1.trans rs1.trk s2).trans rs1.trk s3
    have s13 := (si'.trans ri.trk s2).trans ri.trk s3
    have hD3 : H3 D = some (.lst xs) := s13.keep D _ hD nf
    have mD3 : M3 D := s13.prot D mD nf
    have nf3 : ∀ j, D ∉ f3 j := fun j z => by
      rcases s13.own j D z with q | q
      · exact nf j q
      · rw [hD] at q; cases q
    have ia3 := ia.stay (ri.ext s13)
    cases b with
    | false =>
      rw [if_neg (by simp)] at ei
      refine L2.iteF ?_
      have r3' := r3.wipe vs
      rw [hw2] at r3'
      exact ⟨M3, _, _, acc, xs, r3', si3.wipe, ei, hD3, ia3, mD3, fun j z => nf3 j (wipeF_sub z)⟩
    | true =>
      rw [if_pos rfl] at ei
      refine L2.iteT ?_
      obtain ⟨⟨e, ρ5⟩, h5, ei⟩ := Option.bind_eq_some_iff.mp ei
      refine ⟨M3, ρ4, f3, e, ρ5, r3, h5, fun v M4 H4 f4 r4 is4 s4 => ?_⟩
      have hD4 : H4 D = some (.lst xs) := s4.keep D _ hD3 nf3
      have mD4 : M4 D := s4.prot D mD3 nf3
      have nf4 : ∀ j, D ∉ f4 j := fun j z => by
        rcases s4.own j D z with q | q
        · exact nf3 j q
        · rw [hD3] at q; cases q
      have ia4 := ia3.stay (r3.ext s4)
      have ei' : (if acc.length < sizeLine then lcLoop g tt te vs (ds.drop (i + 1)) (acc ++ [e]) (wipeE ρ5 vs) else Option.none) = some (res, ρ2) := ei
      by_cases c : acc.length < sizeLine
      · rw [if_pos c] at ei'
        refine ⟨xs, hD4, by rw [ia4.length]; exact c, M4, wipeE ρ5 vs, wipeF f4 vs, acc ++ [e], xs ++ [v], ?_, ((si3.trans rs1.trk s4).poke nD).wipe, ei', upd_same, ?_, mD4, fun j z => nf4 j (wipeF_sub z)⟩
        · have r4' := (r4.poke mD4 nf4 (.lst (xs ++ [v]))).wipe vs
          rw [hw2] at r4'
          exact r4'
        · exact (ia4.stay (ext_poke mD4)).append (.cons (is4.stay (ext_poke mD4)) .nil)
      · rw [if_neg c] at ei'
        cases ei'
  · rw [List.drop_length] at ei
    cases ei
    have ex : Ext M1 H1 Mi Hi := rs1.ext si
    refine k (.ref D) Mi Hi fi [D] (RS.restore rs1 ex ri) ⟨.lst hD (wall_leaves ia), by simp, fun a ha => ?_⟩ (st1.trans rs.trk si)
    have e : a = D := by simpa using ha
    subst e
    exact ⟨mD, nf, st1.back nD⟩
end
section
variable {cl : Nat → Addr} {np : Nat} {X : Cx} {pos spos py : Pos} {elt tg iter c : Expr} {ifs : List Expr} {scope : Scope} {own : List (Str × Nat)} {ts : List Nat} {di : Den (List D)} {g : DenG} {tt : Den Bool} {te : Den Rv}
abbrev DTs (cl : Nat → Addr) (X : Cx) (ifs : List Expr) (tt : Den Bool) : Prop := PTs X ifs (tDT X.w X.K cl tt)
theorem dts_nil : DTs cl X [] dYes := ⟨fun pins s σ H Q I ⟨M, ρ, f, b, ρ', rs, hd, k⟩ => by
  cases hd
  exact pts_nil.run pins s σ H Q I (k M H f rs Step.refl)⟩
theorem dts_one (h : DT cl X c tt) : DTs cl X [c] tt := pts_one h
theorem de_lc (hc : X.calm = true) (hN : X.N.Nodup) (hi : DI cl X tg iter di) (ok : BlkOk X.N X.env.scope scope own) (hts : ∀ i ∈ ts, i ∈ own.map (·.2))
    (hg : ∀ (s : Shared) (H : Hp) (C : Addr) (cl' : List (Str × Addr)) (fp : List Addr), DG cl (X.blk s H scope (compEnvC scope cl' C X.env) fp) tg ts g) (ht : ∀ (s : Shared) (H : Hp) (C : Addr) (cl' : List (Str × Addr)) (fp : List Addr), DTs cl (X.blk s H scope (compEnvC scope cl' C X.env) fp) ifs tt)
    (he : ∀ (s : Shared) (H : Hp) (C : Addr) (cl' : List (Str × Addr)) (fp : List Addr), DE cl (X.blk s H scope (compEnvC scope cl' C X.env) fp) elt te) (hs : ∀ x, foldedSetIterable iter X.env x = pure x := by intro _; rfl) :
    DE cl X (.ListComp elt [⟨tg, iter, ifs, 0⟩] scope pos) (dLc di g tt (dSh te) (own.map (·.2))) := pe_imp (pe_lc hc hN hi ok hg ht (fun s H C cl' fp => de_sh (he s H C cl' fp)) hs) fun _ _ _ h => lc_run hts h
/-- name = [..] on one line -/
theorem ds_setLc {i : Nat} {y : Str} (hc : X.calm = true) (hN : X.N.Nodup) (hy : X.N[i]? = some y) (hyl : X.env.scope.names.lookup y = some .local) (hp : np ≤ i)
    (hsw : swapsWith (.ListComp elt [⟨tg, iter, ifs, 0⟩] scope pos) (some (.Name y py)) spos.line X.env = pure true) (hi : DI cl X tg iter di) (ok : BlkOk X.N X.env.scope scope own) (hts : ∀ i ∈ ts, i ∈ own.map (·.2))
    (hg : ∀ (s : Shared) (H : Hp) (C : Addr) (cl' : List (Str × Addr)) (fp : List Addr), DG cl (X.blk s H scope (compEnvC scope cl' C X.env) fp) tg ts g) (ht : ∀ (s : Shared) (H : Hp) (C : Addr) (cl' : List (Str × Addr)) (fp : List Addr), DTs cl (X.blk s H scope (compEnvC scope cl' C X.env) fp) ifs tt)
    (he : ∀ (s : Shared) (H : Hp) (C : Addr) (cl' : List (Str × Addr)) (fp : List Addr), DE cl (X.blk s H scope (compEnvC scope cl' C X.env) fp) elt te) (hs : ∀ x, foldedSetIterable iter X.env x = pure x := by intro _; rfl) :
    DS cl np X (.Assign [.Name y py] (.ListComp elt [⟨tg, iter, ifs, 0⟩] scope pos) spos) (dSet i (dLc di g tt (dSh te) (own.map (·.2)))) :=
  ps_imp (ps_setLc hc hN hy hyl hsw hi ok hg ht (fun s H C cl' fp => de_sh (he s H C cl' fp)) hs) fun E σ H ⟨M, ρ, f, o, ρ', rs, hd, k⟩ => by
    obtain ⟨⟨rv, ρ1⟩, h1, hd⟩ := Option.bind_eq_some_iff.mp hd
    obtain ⟨ρ2, h2, hd⟩ := Option.map_eq_some_iff.mp hd
    cases hd
    refine lc_run hts ⟨M, ρ, f, rv, ρ1, rs, h1, fun v M1 H1 f1 fw rs1 ok1 st1 => ?_⟩
    obtain ⟨M2, f2, rs2, st2⟩ := putR_ok rs1 ok1 st1 rs.trk h2
    exact k _ M2 H1 f2 rs2 st2 (par_set hp)
end
end Ws
set_option Elab.async false
set_option linter.all false
set_option maxRecDepth 100000
set_option maxHeartbeats 2000000
/-! Ws9: items, slices, lists and tuples built from others, lists of one's own changed. -/
namespace Ws
open PySem PySem.Spec PyProof.Rows L2

/-! ### the items of a list or a tuple -/
def flatW : List W → Option (List D)
  | [] => some []
  | .leaf d :: r => (flatW r).map (d :: ·)
  | _ :: _ => Option.none
theorem flatW_leaves : ∀ {ds : List D}, flatW (leaves ds) = some ds
  | [] => rfl
  | d :: ds => by
    show (flatW (leaves ds)).map (d :: ·) = _
    rw [flatW_leaves]
    rfl
/-- a list (true) or a tuple (false) whose items are let go -/
def itemsW : W → Option (Bool × List D)
  | .leaf (.lst ds) => some (true, ds)
  | .leaf (.tup ds) => some (false, ds)
  | .lst ws => (flatW ws).map fun ds => (true, ds)
  | _ => Option.none
def rvW (ρ : Env) : Rv → Option W
  | .val x => some x
  | .slot i => slotW ρ i
def itemsR (ρ : Env) (r : Rv) : Option (Bool × List D) := (rvW ρ r).bind itemsW
section
variable {w : World} {K : PySem.W.Frag} {cl : Nat → Addr} {M M1 M2 M0 : Addr → Prop} {ρ ρ1 : Env} {σ : L2.St} {H H0 H1 H2 H' : Hp} {f f0 f1 f2 : Fp} {rv : Rv} {v : V} {fw : List Addr}
theorem wall_flat : ∀ {xs : List V} {ws : List W} {fp : List Addr} {ds : List D}, WAll w K cl M H xs ws fp → flatW ws = some ds → IsL w K cl M H xs ds ∧ fp = [] ∧ ws = leaves ds
  | _, _, _, _, .nil, e => by cases e; exact ⟨.nil, rfl, rfl⟩
  | _, _, _, ds, .cons (x := .leaf d) (xs := ws) (.leaf h) t, e => by
    obtain ⟨ds', h1, h2⟩ := Option.map_eq_some_iff.mp (show (flatW ws).map (d :: ·) = some ds from e)
    subst h2
    obtain ⟨a, b, c⟩ := wall_flat t h1
    exact ⟨.cons h a, by rw [b]; rfl, by rw [c]; rfl⟩
  | _, _, _, _, .cons (x := .lst _) _ _, e => nomatch e
  | _, _, _, _, .cons (x := .dct _) _ _, e => nomatch e
  | _, _, _, _, .cons (x := .ins _ _) _ _, e => nomatch e
/-- what stands behind an answer -/
theorem RvOk.tree {x : W} (r : RS w K cl M ρ σ H f) (k : RvOk w K cl M σ H f H0 rv v fw) (e : rvW ρ rv = some x) : ∃ fp, WIs w K cl M H v x fp := by
  cases rv with
  | val y =>
    cases (show some y = some x from e)
    exact ⟨fw, k.1⟩
  | slot i =>
    obtain ⟨u, hu, hw⟩ := r.slot i x (slotW_some e)
    have e2 := k.2
    rw [hu] at e2
    cases e2
    exact ⟨_, hw⟩
theorem tree_items {x : W} {b : Bool} {ds : List D} {fp : List Addr} (h : WIs w K cl M H v x fp) (e : itemsW x = some (b, ds)) : ∃ a xs, v = .ref a ∧ (if b = true then SqL K H a xs else SqT K H a xs) ∧ IsL w K cl M H xs ds := by
  cases h with
  | leaf is =>
    cases is <;> try cases e
    · rename_i h1 h2 h3
      exact ⟨_, _, rfl, .inl h1, h3⟩
    · rename_i h1 h2 h3 h4 h5 h6
      exact ⟨_, _, rfl, .inr ⟨_, _, _, h1, h2, h3, h4, h5⟩, h6⟩
    · rename_i h1 h2 h3
      exact ⟨_, _, rfl, .inl (.inl h1), h3⟩
  | lst h1 h2 =>
    obtain ⟨ds', h3, h4⟩ := Option.map_eq_some_iff.mp e
    cases h4
    obtain ⟨a, _, _⟩ := wall_flat h2 h3
    exact ⟨_, _, rfl, .inl (.inl h1), a⟩
  | dct _ _ => cases e
  | ins _ _ => cases e
theorem RvOk.items {b : Bool} {ds : List D} (r : RS w K cl M ρ σ H f) (k : RvOk w K cl M σ H f H0 rv v fw) (e : itemsR ρ rv = some (b, ds)) : ∃ a xs, v = .ref a ∧ (if b = true then SqL K H a xs else SqT K H a xs) ∧ IsL w K cl M H xs ds := by
  obtain ⟨x, e1, e2⟩ := Option.bind_eq_some_iff.mp e
  obtain ⟨fp, h⟩ := k.tree r e1
  exact tree_items h e2
end

/-! ### x[i] -/
def strAt (s : Str) (i : Int) : Option D := if s.length ≤ sizeLine then (atI s.cps.toList i).map fun c => .str ⟨#[c]⟩ else Option.none
def dIx (da di : Den Rv) : Den Rv := fun ρ => (da ρ).bind fun x => (di x.2).bind fun y => (viewR y.2 y.1).bind fun dy => match dy with
  | .int i => match itemsR y.2 x.1 with
    | some q => (atI q.2 i).map fun d => (.val (.leaf d), y.2)
    | Option.none => (viewR y.2 x.1).bind fun dx => match dx with
      | .str s => (strAt s i).map fun d => (.val (.leaf d), y.2)
      | .scr ns => (atI ns i).map fun n => (.val (.leaf (.int n)), y.2)
      | _ => Option.none
  | _ => Option.none
theorem sq_scr {w : World} {K : PySem.W.Frag} {cl : Nat → Addr} {M : Addr → Prop} {H : Hp} {v : V} {ns : List Int} (h : Is w K cl M H v (.scr ns)) : ∃ a, v = .ref a ∧ SqL K H a (ns.map V.int) := by
  cases h with
  | scr h1 h2 => exact ⟨_, rfl, .inl (.inr ⟨_, h1⟩)⟩
  | scrK a b c d e f => exact ⟨_, rfl, .inr ⟨_, _, _, a, b, c, d, e, f⟩⟩
theorem atI_ints {ns : List Int} {i n : Int} (h : atI ns i = some n) : atI (ns.map V.int) i = some (.int n) := by
  unfold atI at h ⊢
  rw [List.length_map]
  obtain ⟨j, h1, h2⟩ := Option.bind_eq_some_iff.mp h
  rw [h1]
  show (ns.map V.int)[j]? = _
  rw [List.getElem?_map, h2]
  rfl
theorem atI_map {w : World} {K : PySem.W.Frag} {cl : Nat → Addr} {M : Addr → Prop} {H : Hp} {xs : List V} {ds : List D} {i : Int} {d : D} (t : IsL w K cl M H xs ds) (h : atI ds i = some d) : ∃ v, atI xs i = some v ∧ Is w K cl M H v d := by
  unfold atI at h ⊢
  rw [t.length]
  obtain ⟨j, h1, h2⟩ := Option.bind_eq_some_iff.mp h
  obtain ⟨v, h3, h4⟩ := t.get h2
  exact ⟨v, by rw [h1]; exact h3, h4⟩
section
variable {cl : Nat → Addr} {X : Cx} {np : Nat} {a b e : Expr} {es : List Expr} {pos p : Pos} {da db di d : Den Rv}
theorem de_ix (ha : DE cl X a da) (hb : DE cl X b di) (hs : PlainIx b) : DE cl X (.Subscript a b pos) (dIx da di) := pe_imp (pe_ix ix_seq ha hb hs) fun σ H Q ⟨M, ρ, f, rv, ρ', rs, hd, k⟩ => by
  obtain ⟨⟨x, ρ1⟩, h1, hd⟩ := Option.bind_eq_some_iff.mp hd
  obtain ⟨⟨y, ρ2⟩, h2, hd⟩ := Option.bind_eq_some_iff.mp hd
  obtain ⟨dy, h3, hd⟩ := Option.bind_eq_some_iff.mp hd
  refine ⟨M, ρ, f, x, ρ1, rs, h1, fun v1 M1 H1 f1 fw1 rs1 ok1 st1 => ⟨M1, ρ1, f1, y, ρ2, rs1, h2, fun v2 M2 H2 f2 fw2 rs2 ok2 st2 => ?_⟩⟩
  have ok1' := ok1.carry rs1 st2
  have st := st1.trans rs.trk st2
  cases dy <;> try cases hd
  rename_i i
  have ei := is_int (ok2.view rs2 h3)
  have hd' : (match itemsR ρ2 x with
    | some q => (atI q.2 i).map fun d => (Rv.val (.leaf d), ρ2)
    | Option.none => (viewR ρ2 x).bind fun dx => match dx with
      | .str s => (strAt s i).map fun d => (Rv.val (.leaf d), ρ2)
      | .scr ns => (atI ns i).map fun n => (Rv.val (.leaf (.int n)), ρ2)
      | _ => Option.none) = some (rv, ρ') := hd
  cases hq : itemsR ρ2 x with
  | some q =>
    obtain ⟨bb, ds⟩ := q
    rw [hq] at hd'
    obtain ⟨d, h4, h5⟩ := Option.map_eq_some_iff.mp (show (atI ds i).map (fun d => (Rv.val (.leaf d), ρ2)) = some (rv, ρ') from hd')
    cases h5
    obtain ⟨p, xs, e1, e2, e3⟩ := ok1'.items rs2 hq
    obtain ⟨u, h6, h7⟩ := atI_map e3 h4
    cases bb with
    | true => exact .inl ⟨p, xs, i, u, e1, ei, e2, h6, k u M2 H2 f2 [] rs2 (rvB h7) st⟩
    | false => exact .inr (.inl ⟨p, xs, i, u, e1, ei, e2, h6, k u M2 H2 f2 [] rs2 (rvB h7) st⟩)
  | none =>
    rw [hq] at hd'
    obtain ⟨dx, h4, hd'⟩ := Option.bind_eq_some_iff.mp hd'
    cases dx <;> try cases hd'
    rotate_left
    · rename_i ns
      obtain ⟨n, h5, h6⟩ := Option.map_eq_some_iff.mp (show (atI ns i).map (fun n => (Rv.val (.leaf (.int n)), ρ2)) = some (rv, ρ') from hd')
      cases h6
      obtain ⟨a, e1, e2⟩ := sq_scr (ok1'.view rs2 h4)
      exact .inl ⟨a, _, i, _, e1, ei, e2, atI_ints h5, k _ M2 H2 f2 [] rs2 (rvB (.int n)) st⟩
    rename_i s
    obtain ⟨d, h5, h6⟩ := Option.map_eq_some_iff.mp (show (strAt s i).map (fun d => (Rv.val (.leaf d), ρ2)) = some (rv, ρ') from hd')
    cases h6
    unfold strAt at h5
    by_cases c : s.length ≤ sizeLine
    · rw [if_pos c] at h5
      obtain ⟨z, h7, h8⟩ := Option.map_eq_some_iff.mp h5
      subst h8
      exact .inr (.inr ⟨s, i, z, is_str (ok1'.view rs2 h4), ei, c, h7, k _ M2 H2 f2 [] rs2 (rvB (.str _)) st⟩)
    · rw [if_neg c] at h5
      cases h5

/-! ### x[a:b] -/
abbrev DenO := Den (Option Int)
def tDO (w : World) (K : PySem.W.Frag) (cl : Nat → Addr) (den : DenO) : TO := fun σ H Q => ∃ M ρ f o ρ', RS w K cl M ρ σ H f ∧ den ρ = some (o, ρ') ∧ ∀ M' H' f', RS w K cl M' ρ' σ H' f' → Step M H f M' H' f' → Q o H'
abbrev DO (cl : Nat → Addr) (X : Cx) (e : Option Expr) (den : DenO) : Prop := PO X e (tDO X.w X.K cl den)
theorem po_imp {X : Cx} {e : Option Expr} {t t' : TO} (h : PO X e t) (i : ∀ σ H Q, t' σ H Q → t σ H Q) : PO X e t' := ⟨fun pins s σ H Q I k => h.run pins s σ H Q I (i σ H Q k)⟩
def dNoPart : DenO := fun ρ => some (Option.none, ρ)
theorem do_none : DO cl X none dNoPart := po_imp po_none fun σ H Q ⟨M, ρ, f, o, ρ', rs, hd, k⟩ => by
  cases hd
  exact k M H f rs Step.refl
def dPart (d : Den Rv) : DenO := fun ρ => (d ρ).bind fun r => (viewR r.2 r.1).bind fun x => match x with
  | .int i => some (some i, r.2)
  | _ => Option.none
theorem do_some (h : DE cl X e d) : DO cl X (some e) (dPart d) := po_imp (po_some h) fun σ H Q ⟨M, ρ, f, o, ρ', rs, hd, k⟩ => by
  obtain ⟨⟨x, ρ1⟩, h1, hd⟩ := Option.bind_eq_some_iff.mp hd
  obtain ⟨dx, h2, hd⟩ := Option.bind_eq_some_iff.mp hd
  cases dx with
  | int i =>
    cases hd
    exact ⟨M, ρ, f, x, _, rs, h1, fun v M1 H1 f1 fw rs1 ok1 st1 => ⟨i, is_int (ok1.view rs1 h2), k M1 H1 f1 rs1 st1⟩⟩
  | _ => cases hd
def cutD (xs : List D) (lo hi : Option Int) : List D := (xs.drop (HT.sIx xs.length 0 lo)).take (HT.sIx xs.length xs.length hi - HT.sIx xs.length 0 lo)
theorem cut_is {w : World} {K : PySem.W.Frag} {M : Addr → Prop} {H : Hp} {xs : List V} {ds : List D} {lo hi : Option Int} (t : IsL w K cl M H xs ds) : IsL w K cl M H (cutV xs lo hi) (cutD ds lo hi) := by
  unfold cutV cutD
  rw [t.length]
  exact (t.drop _).take _
def isWhole (n : Nat) (lo hi : Option Int) : Bool := decide (HT.sIx n 0 lo = 0 ∧ HT.sIx n n hi = n)
def dSlice (d : Den Rv) (dl dh : DenO) : Den Rv := fun ρ => (d ρ).bind fun x => (dl x.2).bind fun l => (dh l.2).bind fun h => (itemsR h.2 x.1).bind fun q =>
  if q.1 = true then some (ownL (cutD q.2 l.1 h.1), h.2)
  else if isWhole q.2.length l.1 h.1 = true then Option.none else some (.val (.leaf (.tup (cutD q.2 l.1 h.1))), h.2)
theorem slr_or {r r' : V → Option Int → Option Int → Hp → VK → Prop} (h : SlR X r) (h' : SlR X r') : SlR X (fun x lo hi H Q => r x lo hi H Q ∨ r' x lo hi H Q) := h.or h'
theorem de_slice {lo hi : Option Expr} {dl dh : DenO} {p2 : Pos} (he : DE cl X e d) (hl : DO cl X lo dl) (hu : DO cl X hi dh) : DE cl X (.Subscript e (.Slice lo hi none p2) pos) (dSlice d dl dh) := pe_imp (pe_slice (sl_list.or sl_tup) he hl hu) fun σ H Q ⟨M, ρ, f, rv, ρ', rs, hd, k⟩ => by
  obtain ⟨⟨x, ρ1⟩, h1, hd⟩ := Option.bind_eq_some_iff.mp hd
  obtain ⟨⟨l, ρ2⟩, h2, hd⟩ := Option.bind_eq_some_iff.mp hd
  obtain ⟨⟨h, ρ3⟩, h3, hd⟩ := Option.bind_eq_some_iff.mp hd
  obtain ⟨⟨b, ds⟩, h4, hd⟩ := Option.bind_eq_some_iff.mp hd
  refine ⟨M, ρ, f, x, ρ1, rs, h1, fun v1 M1 H1 f1 fw1 rs1 ok1 st1 => ⟨M1, ρ1, f1, l, ρ2, rs1, h2, fun M2 H2 f2 rs2 st2 => ⟨M2, ρ2, f2, h, ρ3, rs2, h3, fun M3 H3 f3 rs3 st3 => ?_⟩⟩⟩
  have ok := (ok1.carry rs1 st2).carry rs2 st3
  have st := (st1.trans rs.trk st2).trans rs.trk st3
  obtain ⟨p, xs, e1, e2, e3⟩ := ok.items rs3 h4
  have hd' : (if b = true then some (ownL (cutD ds l h), ρ3) else if isWhole ds.length l h = true then Option.none else some (Rv.val (.leaf (.tup (cutD ds l h))), ρ3)) = some (rv, ρ') := hd
  cases b with
  | true =>
    rw [if_pos rfl] at hd'
    cases hd'
    refine .inl ⟨p, xs, e1, e2, fun q nq => ?_⟩
    obtain ⟨r4, ok4, s4⟩ := fin_lst rs3 nq (st.back nq) (cut_is (lo := l) (hi := h) e3)
    exact k _ _ _ _ _ r4 ok4 (st.trans rs.trk s4)
  | false =>
    rw [if_neg (by simp)] at hd'
    by_cases c : isWhole ds.length l h = true
    · rw [if_pos c] at hd'
      cases hd'
    · rw [if_neg c] at hd'
      cases hd'
      refine .inr ⟨p, xs, e1, e2, fun z => c (decide_eq_true (by rw [← e3.length]; exact z)), fun q nq => ?_⟩
      obtain ⟨r4, is4, s4⟩ := fin_tup rs3 nq (cut_is (lo := l) (hi := h) e3)
      exact k _ _ _ _ [] r4 (rvB is4) (st.trans rs.trk s4)
/-- x[::-1] of a list -/
def dRev (d : Den Rv) : Den Rv := fun ρ => (d ρ).bind fun x => (itemsR x.2 x.1).bind fun q => if q.1 = true then some (ownL q.2.reverse, x.2) else Option.none
theorem de_rev {k1 : Nat} {p1 p2 p3 : Pos} (he : DE cl X e d) : DE cl X (.Subscript e (.Slice none none (some (.UnaryOp .USub (.Constant (.int 1) k1 p1) p2)) p3) pos) (dRev d) := pe_imp (pe_revL he) fun σ H Q ⟨M, ρ, f, rv, ρ', rs, hd, k⟩ => by
  obtain ⟨⟨x, ρ1⟩, h1, hd⟩ := Option.bind_eq_some_iff.mp hd
  obtain ⟨⟨b, ds⟩, h2, hd⟩ := Option.bind_eq_some_iff.mp hd
  have hd' : (if b = true then some (ownL ds.reverse, ρ1) else Option.none) = some (rv, ρ') := hd
  cases b with
  | false => cases hd'
  | true =>
    rw [if_pos rfl] at hd'
    cases hd'
    refine ⟨M, ρ, f, x, _, rs, h1, fun v1 M1 H1 f1 fw1 rs1 ok1 st1 => ?_⟩
    obtain ⟨p, xs, e1, e2, e3⟩ := ok1.items rs1 h2
    refine ⟨p, xs, e1, e2, fun q nq => ?_⟩
    obtain ⟨r4, ok4, s4⟩ := fin_lst rs1 nq (st1.back nq) e3.reverse
    exact k _ _ _ _ _ r4 ok4 (st1.trans rs.trk s4)

/-! ### a + b, a * b -/
end
section
variable {w : World} {K : PySem.W.Frag} {cl : Nat → Addr} {M : Addr → Prop} {H : Hp} {v : V}
theorem tree_rd {x : W} {ds : List D} {fp : List Addr} (h : WIs w K cl M H v x fp) (e : itemsW x = some (true, ds)) : ∃ a xs, v = .ref a ∧ H a = some (.lst xs) ∧ IsL w K cl M H xs ds := by
  cases h with
  | leaf is =>
    cases is <;> try cases e
    rename_i h1 h2 h3
    exact ⟨_, _, rfl, h1, h3⟩
  | lst h1 h2 =>
    obtain ⟨ds', h3, h4⟩ := Option.map_eq_some_iff.mp e
    cases h4
    obtain ⟨a, _, _⟩ := wall_flat h2 h3
    exact ⟨_, _, rfl, h1, a⟩
  | dct _ _ => cases e
  | ins _ _ => cases e
end
section
variable {cl : Nat → Addr} {X : Cx} {np : Nat} {a b e : Expr} {es : List Expr} {pos p : Pos} {da db di d : Den Rv}
theorem rv_rd {w : World} {K : PySem.W.Frag} {M : Addr → Prop} {ρ : Env} {σ : L2.St} {H H0 : Hp} {f : Fp} {rv : Rv} {v : V} {fw : List Addr} {ds : List D} (r : RS w K cl M ρ σ H f) (k : RvOk w K cl M σ H f H0 rv v fw) (e : itemsR ρ rv = some (true, ds)) : ∃ a xs, v = .ref a ∧ H a = some (.lst xs) ∧ IsL w K cl M H xs ds := by
  obtain ⟨x, e1, e2⟩ := Option.bind_eq_some_iff.mp e
  obtain ⟨fp, h⟩ := k.tree r e1
  exact tree_rd h e2
def dAddK (ρ : Env) (x y : Rv) : Option (Rv × Env) := match itemsR ρ x, itemsR ρ y with
  | some (true, xs), some (true, ys) => if xs.length + ys.length ≤ sizeLine then some (ownL (xs ++ ys), ρ) else Option.none
  | some (false, xs), some (false, ys) => if xs.length + ys.length ≤ sizeLine then some (.val (.leaf (.tup (xs ++ ys))), ρ) else Option.none
  | _, _ => match viewR ρ x, viewR ρ y with
    | some (.int i), some (.int j) => some (.val (.leaf (.int (i + j))), ρ)
    | some (.str s), some (.str t) => if s.length + t.length ≤ sizeLine then some (.val (.leaf (.str (s ++ t))), ρ) else Option.none
    | _, _ => Option.none
end
end Ws
set_option Elab.async false
set_option linter.all false
set_option maxRecDepth 100000
set_option maxHeartbeats 2000000
/-! Ws10: +, *, built-in calls, lists of one's own changed, instances. -/
namespace Ws
open PySem PySem.Spec PyProof.Rows L2

section
variable {cl : Nat → Addr} {X : Cx} {np : Nat} {a b e : Expr} {es : List Expr} {pos p : Pos} {da db di d : Den Rv}
def dAdd (da db : Den Rv) : Den Rv := fun ρ => (da ρ).bind fun x => (db x.2).bind fun y => dAddK y.2 x.1 y.1
theorem rv_tup {w : World} {K : PySem.W.Frag} {M : Addr → Prop} {ρ : Env} {σ : L2.St} {H H0 : Hp} {f : Fp} {rv : Rv} {v : V} {fw : List Addr} {ds : List D} (r : RS w K cl M ρ σ H f) (k : RvOk w K cl M σ H f H0 rv v fw) (e : itemsR ρ rv = some (false, ds)) : Is w K cl M H v (.tup ds) := by
  obtain ⟨x, e1, e2⟩ := Option.bind_eq_some_iff.mp e
  obtain ⟨fp, h⟩ := k.tree r e1
  cases h with
  | leaf is =>
    cases is <;> try cases e2
    · rename_i h1 h2 h3; exact .tup h1 h2 h3
    · rename_i h1 h2 h3 h4 h5 h6; exact .tupK h1 h2 h3 h4 h5 h6
  | lst h1 h2 =>
    obtain ⟨ds', h3, h4⟩ := Option.map_eq_some_iff.mp e2
    cases h4
  | dct _ _ => cases e2
  | ins _ _ => cases e2
theorem de_add (ha : DE cl X a da) (hb : DE cl X b db) : DE cl X (.BinOp a .Add b pos) (dAdd da db) := pe_imp (pe_op ((op_add.or op_add_str).or (op_cat.or op_catA)) ha hb) fun σ H Q ⟨M, ρ, f, rv, ρ', rs, hd, k⟩ => by
  obtain ⟨⟨x, ρ1⟩, h1, hd⟩ := Option.bind_eq_some_iff.mp hd
  obtain ⟨⟨y, ρ2⟩, h2, hd⟩ := Option.bind_eq_some_iff.mp hd
  refine ⟨M, ρ, f, x, ρ1, rs, h1, fun v1 M1 H1 f1 fw1 rs1 ok1 st1 => ⟨M1, ρ1, f1, y, ρ2, rs1, h2, fun v2 M2 H2 f2 fw2 rs2 ok2 st2 => ?_⟩⟩
  have ok1' := ok1.carry rs1 st2
  have st := st1.trans rs.trk st2
  have hd' : dAddK ρ2 x y = some (rv, ρ') := hd
  unfold dAddK at hd'
  split at hd'
  · rename_i xs ys e1 e2
    split at hd'
    · rename_i c
      cases hd'
      obtain ⟨p, us, q1, q2, q3⟩ := rv_rd rs2 ok1' e1
      obtain ⟨p', us', q1', q2', q3'⟩ := rv_rd rs2 ok2 e2
      refine .inr (.inl ⟨p, p', us, us', q1, q1', q2, q2', by rw [q3.length, q3'.length]; exact c, fun l nl => ?_⟩)
      obtain ⟨r4, ok4, s4⟩ := fin_lst rs2 nl (st.back nl) (q3.append q3')
      exact k _ _ _ _ _ r4 ok4 (st.trans rs.trk s4)
    · cases hd'
  · rename_i xs ys e1 e2
    split at hd'
    · rename_i c
      cases hd'
      have i1 := rv_tup rs2 ok1' e1
      have i2 := rv_tup rs2 ok2 e2
      obtain ⟨p, us, q1, q3, q2⟩ := sqt_of_is i1
      obtain ⟨p', us', q1', q3', q2'⟩ := sqt_of_is i2
      refine .inr (.inr ⟨p, p', us, us', q1, q1', q2 _ _ Ext.refl, q2' _ _ Ext.refl, by rw [q3.length, q3'.length]; exact c, fun z => ?_, fun _ z => ?_, fun _ _ l nl => ?_⟩)
      · subst z
        cases q3
        rw [← q1']
        exact k _ M2 H2 f2 [] rs2 (rvB i2) st
      · subst z
        cases q3'
        rw [← q1]
        rw [List.append_nil] at k
        exact k _ M2 H2 f2 [] rs2 (rvB i1) st
      · obtain ⟨r4, is4, s4⟩ := fin_tup rs2 nl (q3.append q3')
        exact k _ _ _ _ [] r4 (rvB is4) (st.trans rs.trk s4)
    · cases hd'
  · split at hd'
    · rename_i i j e1 e2
      cases hd'
      exact .inl (.inl ⟨i, j, is_int (ok1'.view rs2 e1), is_int (ok2.view rs2 e2), k _ M2 H2 f2 [] rs2 (rvB (.int _)) st⟩)
    · rename_i s t e1 e2
      split at hd'
      · rename_i c
        cases hd'
        exact .inl (.inr ⟨s, t, is_str (ok1'.view rs2 e1), is_str (ok2.view rs2 e2), c, k _ M2 H2 f2 [] rs2 (rvB (.str _)) st⟩)
      · cases hd'
    · cases hd'
/-- xs * k, i * j -/
def rRepR : R2 := fun x y H Q => ∃ l k xs, x = .ref l ∧ y = .int k ∧ H l = some (.lst xs) ∧ -(2 ^ 63) ≤ k ∧ k < 2 ^ 63 ∧ xs.length * k.toNat ≤ sizeLine ∧ ∀ p, H p = none → Q (.ref p) (upd H p (.lst (List.replicate k.toNat xs).flatten))
def repD (xs : List D) (k : Nat) : List D := (List.replicate k xs).flatten
theorem rep_is {w : World} {K : PySem.W.Frag} {M : Addr → Prop} {H : Hp} {xs : List V} {ds : List D} (t : IsL w K cl M H xs ds) : ∀ k : Nat, IsL w K cl M H (List.replicate k xs).flatten (repD ds k)
  | 0 => .nil
  | k + 1 => by
    unfold repD
    rw [List.replicate_succ, List.replicate_succ, List.flatten_cons, List.flatten_cons]
    exact t.append (rep_is t k)
def dMul (da db : Den Rv) : Den Rv := fun ρ => (da ρ).bind fun x => (db x.2).bind fun y => (viewR y.2 y.1).bind fun dy => match dy with
  | .int j => match x.1 with
    | .val (.lst ws) => (flatW ws).bind fun xs => if xs.length * j.toNat ≤ sizeLine ∧ -(2 ^ 63) ≤ j ∧ j < 2 ^ 63 then some (ownL (repD xs j.toNat), y.2) else Option.none
    | r => (viewR y.2 r).bind fun dx => match dx with
      | .int i => (gMulI (.int i) (.int j)).map fun z => (.val (.leaf z), y.2)
      | _ => Option.none
  | _ => Option.none
theorem de_mul (ha : DE cl X a da) (hb : DE cl X b db) : DE cl X (.BinOp a .Mult b pos) (dMul da db) := pe_imp (pe_op (op_mul.or op_rep) ha hb) fun σ H Q ⟨M, ρ, f, rv, ρ', rs, hd, k⟩ => by
  obtain ⟨⟨x, ρ1⟩, h1, hd⟩ := Option.bind_eq_some_iff.mp hd
  obtain ⟨⟨y, ρ2⟩, h2, hd⟩ := Option.bind_eq_some_iff.mp hd
  obtain ⟨dy, h3, hd⟩ := Option.bind_eq_some_iff.mp hd
  refine ⟨M, ρ, f, x, ρ1, rs, h1, fun v1 M1 H1 f1 fw1 rs1 ok1 st1 => ⟨M1, ρ1, f1, y, ρ2, rs1, h2, fun v2 M2 H2 f2 fw2 rs2 ok2 st2 => ?_⟩⟩
  have ok1' := ok1.carry rs1 st2
  have st := st1.trans rs.trk st2
  cases dy with
  | int j =>
    have ej := is_int (ok2.view rs2 h3)
    have num : (viewR ρ2 x).bind (fun dx => match dx with
      | .int i => (gMulI (.int i) (.int j)).map fun z => (Rv.val (.leaf z), ρ2)
      | _ => Option.none) = some (rv, ρ') → (rI CMul (fun i j => .int (i * j)) v1 v2 H2 Q ∨ rRep v1 v2 H2 Q) := fun hd => by
      obtain ⟨dx, h4, hd⟩ := Option.bind_eq_some_iff.mp hd
      cases dx with
      | int i =>
        obtain ⟨z, h5, h6⟩ := Option.map_eq_some_iff.mp (show (gMulI (.int i) (.int j)).map (fun z => (Rv.val (.leaf z), ρ2)) = some (rv, ρ') from hd)
        cases h6
        obtain ⟨i', j', e1, e2, c, rfl⟩ := gI_some h5
        cases e1
        cases e2
        exact .inl ⟨i, j, is_int (ok1'.view rs2 h4), ej, of_decide_eq_true (p := (-(2 ^ 64) < i ∧ i < 2 ^ 64) ∨ (-(2 ^ 64) < j ∧ j < 2 ^ 64)) c, k _ M2 H2 f2 [] rs2 (rvB (.int _)) st⟩
      | _ => cases hd
    cases x with
    | slot i => exact num hd
    | val wx =>
      cases wx with
      | leaf d => exact num hd
      | dct _ => exact num hd
      | ins _ _ => exact num hd
      | lst ws =>
        obtain ⟨xs, h4, hd⟩ := Option.bind_eq_some_iff.mp (show (flatW ws).bind (fun xs => if xs.length * j.toNat ≤ sizeLine ∧ -(2 ^ 63) ≤ j ∧ j < 2 ^ 63 then some (ownL (repD xs j.toNat), ρ2) else Option.none) = some (rv, ρ') from hd)
        split at hd
        · rename_i c
          cases hd
          obtain ⟨hw, _, _⟩ := ok1'
          cases hw with
          | lst e1 e2 =>
            obtain ⟨t, _, _⟩ := wall_flat e2 h4
            refine .inr ⟨_, j, _, rfl, ej, e1, c.2.1, c.2.2, by rw [t.length]; exact c.1, fun q nq => ?_⟩
            obtain ⟨r4, ok4, s4⟩ := fin_lst rs2 nq (st.back nq) (rep_is t j.toNat)
            exact k _ _ _ _ _ r4 ok4 (st.trans rs.trk s4)
        · cases hd
  | _ => cases hd

/-! ### built-in functions of one and two values whose answer is a number, a text, a truth -/
def rC1 (w : World) (K : PySem.W.Frag) (cl : Nat → Addr) (g : D → Option D) : List V → Hp → VK → Prop := fun vs H Q => ∃ x d r v, vs = [x] ∧ Is w K cl noM H x d ∧ g d = some r ∧ sv r = some v ∧ Q v H
def rC2 (w : World) (K : PySem.W.Frag) (cl : Nat → Addr) (g : D → D → Option D) : List V → Hp → VK → Prop := fun vs H Q => ∃ x y d d' r v, vs = [x, y] ∧ Is w K cl noM H x d ∧ Is w K cl noM H y d' ∧ g d d' = some r ∧ sv r = some v ∧ Q v H
def dUn (g : D → Option D) (d : Den Rv) : Den Rv := fun ρ => (d ρ).bind fun x => (viewR x.2 x.1).bind fun dx => (g dx).bind fun r => (sv r).bind fun _ => some (.val (.leaf r), x.2)
theorem dUn_imp {g : D → Option D} {σ : L2.St} {H : Hp} {Q : VK} (h : tD X.w X.K cl (dUn g d) σ H Q) : tCB (rC1 X.w X.K cl g) (tCons (tD X.w X.K cl d) tNil) σ H Q := by
  obtain ⟨M, ρ, f, rv, ρ', rs, hd, k⟩ := h
  obtain ⟨⟨x, ρ1⟩, h1, hd⟩ := Option.bind_eq_some_iff.mp hd
  obtain ⟨dx, h2, hd⟩ := Option.bind_eq_some_iff.mp hd
  obtain ⟨r, h3, hd⟩ := Option.bind_eq_some_iff.mp hd
  obtain ⟨v, h4, hd⟩ := Option.bind_eq_some_iff.mp hd
  cases hd
  exact ⟨M, ρ, f, x, _, rs, h1, fun u M1 H1 f1 fw rs1 ok1 st1 => ⟨u, dx, r, v, rfl, ok1.view rs1 h2, h3, h4, k v M1 H1 f1 [] rs1 (rvB (is_sv h4)) st1⟩⟩
theorem de_cb {x : Str} {id : String} {g : D → Option D} (hc : CallR X (.builtin id) (rC1 X.w X.K cl g)) (hg : Gl X x) (hm : X.mg x = none) (hv : bootBuiltins x = some (.builtin id)) (ha : DE cl X e d) (hn : x ≠ "__name__" := by decide) (hdb : (x == ("__debug__" : Str)) = false := by decide)
    (he : starEach [e] X.env = (false, eval e X.env) :: starEach [] X.env := by rfl) (hpl : (backTo pos (starEach [] X.env)).any (·.1) = false := by rfl) : DE cl X (.Call (.Name x p) [e] [] pos) (dUn g d) := pe_imp (pe_callB hc hg hm hv (pa_cons ha pa_nil he) hn hdb he hpl) fun _ _ _ => dUn_imp
theorem de_ct {x : Str} {T : String} {g : D → Option D} (hc : CallR X (.type T) (rC1 X.w X.K cl g)) (hg : Gl X x) (hm : X.mg x = none) (hv : bootBuiltins x = some (.type T)) (ha : DE cl X e d) (hn : x ≠ "__name__" := by decide) (hdb : (x == ("__debug__" : Str)) = false := by decide)
    (he : starEach [e] X.env = (false, eval e X.env) :: starEach [] X.env := by rfl) (hpl : (backTo pos (starEach [] X.env)).any (·.1) = false := by rfl) : DE cl X (.Call (.Name x p) [e] [] pos) (dUn g d) := pe_imp (pe_callTy hc hg hm hv (pa_cons ha pa_nil he) hn hdb he hpl) fun _ _ _ => dUn_imp
theorem dBin_tcb {g : D → D → Option D} {σ : L2.St} {H : Hp} {Q : VK} (h : tD X.w X.K cl (dBin g da db) σ H Q) : tCB (rC2 X.w X.K cl g) (tCons (tD X.w X.K cl da) (tCons (tD X.w X.K cl db) tNil)) σ H Q := by
  obtain ⟨M, ρ, f, rv, ρ', rs, hd, k⟩ := h
  obtain ⟨⟨x, ρ1⟩, h1, hd⟩ := Option.bind_eq_some_iff.mp hd
  obtain ⟨⟨y, ρ2⟩, h2, hd⟩ := Option.bind_eq_some_iff.mp hd
  obtain ⟨dx, h3, hd⟩ := Option.bind_eq_some_iff.mp hd
  obtain ⟨dy, h4, hd⟩ := Option.bind_eq_some_iff.mp hd
  obtain ⟨r, h5, hd⟩ := Option.bind_eq_some_iff.mp hd
  obtain ⟨v, h6, hd⟩ := Option.bind_eq_some_iff.mp hd
  cases hd
  exact ⟨M, ρ, f, x, ρ1, rs, h1, fun v1 M1 H1 f1 fw1 rs1 ok1 st1 => ⟨M1, ρ1, f1, y, _, rs1, h2, fun v2 M2 H2 f2 fw2 rs2 ok2 st2 => ⟨v1, v2, dx, dy, r, v, rfl, (ok1.carry rs1 st2).view rs2 h3, ok2.view rs2 h4, h5, h6, k v M2 H2 f2 [] rs2 (rvB (is_sv h6)) (st1.trans rs.trk st2)⟩⟩⟩
theorem de_cb2 {x : Str} {id : String} {g : D → D → Option D} (hc : CallR X (.builtin id) (rC2 X.w X.K cl g)) (hg : Gl X x) (hm : X.mg x = none) (hv : bootBuiltins x = some (.builtin id)) (ha : DE cl X a da) (hb : DE cl X b db) (hn : x ≠ "__name__" := by decide) (hdb : (x == ("__debug__" : Str)) = false := by decide)
    (he : starEach [a, b] X.env = (false, eval a X.env) :: starEach [b] X.env := by rfl) (he2 : starEach [b] X.env = (false, eval b X.env) :: starEach [] X.env := by rfl) (hpl : (backTo pos (starEach [b] X.env)).any (·.1) = false := by rfl) : DE cl X (.Call (.Name x p) [a, b] [] pos) (dBin g da db) := pe_imp (pe_callB hc hg hm hv (pa_cons ha (pa_cons hb pa_nil he2) he) hn hdb he hpl) fun _ _ _ => dBin_tcb
def CallR.impl {f : Value} {r r' : List V → Hp → VK → Prop} (h : CallR X f r) (i : ∀ xs H Q, r' xs H Q → r xs H Q) : CallR X f r' := fun pins s σ H xs us Q I rv q => h pins s σ H xs us Q I rv (i xs H Q q)
def gLen : D → Option D
  | .lst ds => some (.int ds.length)
  | .tup ds => some (.int ds.length)
  | .str s => if s.length ≤ sizeLine then some (.int s.length) else Option.none
  | .scr ns => some (.int ns.length)
  | _ => Option.none
theorem c_len : CallR X (.builtin "len") (rC1 X.w X.K cl gLen) := CallR.impl (call_len_seq.or call_len_str) fun xs H Q ⟨x, d, r, v, e, is, hg, hs, q⟩ => by
  subst e
  cases d with
  | lst ds =>
    cases hg
    cases hs
    obtain ⟨a, us, e, h1, h2⟩ := is_lst is
    exact .inl ⟨a, us, by rw [e], .inl (.inl (.inl h1)), by rw [h2.length]; exact q⟩
  | scr ns =>
    cases hg
    cases hs
    obtain ⟨a, e, h1⟩ := sq_scr is
    exact .inl ⟨a, _, by rw [e], .inl h1, by rw [List.length_map]; exact q⟩
  | tup ds =>
    cases hg
    cases hs
    obtain ⟨a, us, e, h1, h2⟩ := is_tup is
    exact .inl ⟨a, us, by rw [e], .inr h1, by rw [h2.length]; exact q⟩
  | str s =>
    have hg' : (if s.length ≤ sizeLine then some (D.int s.length) else Option.none) = some r := hg
    by_cases c : s.length ≤ sizeLine
    · rw [if_pos c] at hg'
      cases hg'
      cases hs
      exact .inr ⟨s, by rw [is_str is], c, q⟩
    · rw [if_neg c] at hg'
      cases hg'
  | _ => cases hg
def gInt1 : D → Option D
  | .int i => some (.int i)
  | .bool b => some (.int (if b then 1 else 0))
  | _ => Option.none
theorem c_int : CallR X (.type "int") (rC1 X.w X.K cl gInt1) := CallR.impl call_int1 fun xs H Q ⟨x, d, r, v, e, is, hg, hs, q⟩ => by
  subst e
  cases d with
  | int i => cases hg; cases hs; exact .inl ⟨i, by rw [is_int is], q⟩
  | bool b => cases hg; cases hs; exact .inr ⟨b, by rw [is_bool is], q⟩
  | _ => cases hg
def gAbs : D → Option D
  | .int i => some (.int (if i < 0 then -i else i))
  | _ => Option.none
theorem c_abs : CallR X (.builtin "abs") (rC1 X.w X.K cl gAbs) := CallR.impl call_abs fun xs H Q ⟨x, d, r, v, e, is, hg, hs, q⟩ => by
  subst e
  cases d with
  | int i => cases hg; cases hs; exact ⟨i, by rw [is_int is], q⟩
  | _ => cases hg
def gMax2 : D → D → Option D := gI (fun _ _ => true) fun i j => .int (if j > i then j else i)
def gMin2 : D → D → Option D := gI (fun _ _ => true) fun i j => .int (if j < i then j else i)
theorem c_max2 (hc : X.calm = true) : CallR X (.builtin "max") (rC2 X.w X.K cl gMax2) := CallR.impl (call_max2 hc) fun xs H Q ⟨x, y, d, d', r, v, e, is, is', hg, hs, q⟩ => by
  subst e
  obtain ⟨i, j, rfl, rfl, _, rfl⟩ := gI_some hg
  cases hs
  exact ⟨i, j, by rw [is_int is, is_int is'], q⟩
theorem c_min2 (hc : X.calm = true) : CallR X (.builtin "min") (rC2 X.w X.K cl gMin2) := CallR.impl (call_min2 hc) fun xs H Q ⟨x, y, d, d', r, v, e, is, is', hg, hs, q⟩ => by
  subst e
  obtain ⟨i, j, rfl, rfl, _, rfl⟩ := gI_some hg
  cases hs
  exact ⟨i, j, by rw [is_int is, is_int is'], q⟩
/-- lists of truths, of whole numbers -/
def asBools : List D → Option (List Bool)
  | [] => some []
  | .bool b :: r => (asBools r).map (b :: ·)
  | _ :: _ => Option.none
def asInts : List D → Option (List Int)
  | [] => some []
  | .int b :: r => (asInts r).map (b :: ·)
  | _ :: _ => Option.none
theorem bools_is {w : World} {K : PySem.W.Frag} {M : Addr → Prop} {H : Hp} : ∀ {vs : List V} {ds : List D} {bs : List Bool}, IsL w K cl M H vs ds → asBools ds = some bs → vs = bs.map V.bl
  | _, _, _, .nil, e => by cases e; rfl
  | _, _, bs, .cons (d := .bool b) (ds := ds) a t, e => by
    obtain ⟨bs', h1, h2⟩ := Option.map_eq_some_iff.mp (show (asBools ds).map (b :: ·) = some bs from e)
    subst h2
    rw [is_bool a, bools_is t h1]
    rfl
  | _, _, _, .cons (d := .none) _ _, e => nomatch e
  | _, _, _, .cons (d := .int _) _ _, e => nomatch e
  | _, _, _, .cons (d := .str _) _ _, e => nomatch e
  | _, _, _, .cons (d := .tup _) _ _, e => nomatch e
  | _, _, _, .cons (d := .lst _) _ _, e => nomatch e
  | _, _, _, .cons (d := .dct _) _ _, e => nomatch e
  | _, _, _, .cons (d := .obj _ _) _ _, e => nomatch e
  | _, _, _, .cons (d := .scr _) _ _, e => nomatch e
theorem ints_is {w : World} {K : PySem.W.Frag} {M : Addr → Prop} {H : Hp} : ∀ {vs : List V} {ds : List D} {bs : List Int}, IsL w K cl M H vs ds → asInts ds = some bs → vs = bs.map V.int
  | _, _, _, .nil, e => by cases e; rfl
  | _, _, bs, .cons (d := .int b) (ds := ds) a t, e => by
    obtain ⟨bs', h1, h2⟩ := Option.map_eq_some_iff.mp (show (asInts ds).map (b :: ·) = some bs from e)
    subst h2
    rw [is_int a, ints_is t h1]
    rfl
  | _, _, _, .cons (d := .none) _ _, e => nomatch e
  | _, _, _, .cons (d := .bool _) _ _, e => nomatch e
  | _, _, _, .cons (d := .str _) _ _, e => nomatch e
  | _, _, _, .cons (d := .tup _) _ _, e => nomatch e
  | _, _, _, .cons (d := .lst _) _ _, e => nomatch e
  | _, _, _, .cons (d := .dct _) _ _, e => nomatch e
  | _, _, _, .cons (d := .obj _ _) _ _, e => nomatch e
  | _, _, _, .cons (d := .scr _) _ _, e => nomatch e
def gAll : D → Option D
  | .lst ds => (asBools ds).map fun bs => .bool (bs.all id)
  | _ => Option.none
def gAny : D → Option D
  | .lst ds => (asBools ds).map fun bs => .bool (bs.any id)
  | _ => Option.none
def gSum : D → Option D
  | .lst ds => (asInts ds).map fun bs => .int bs.sum
  | _ => Option.none
theorem c_all (hc : X.calm = true) : CallR X (.builtin "all") (rC1 X.w X.K cl gAll) := CallR.impl (cr_all hc) fun xs H Q ⟨x, d, r, v, e, is, hg, hs, q⟩ => by
  subst e
  cases d with
  | lst ds =>
    obtain ⟨bs, h1, h2⟩ := Option.map_eq_some_iff.mp (show (asBools ds).map (fun bs => D.bool (bs.all id)) = some r from hg)
    subst h2
    cases hs
    obtain ⟨a, us, e, h3, h4⟩ := is_lst is
    exact ⟨a, bs, by rw [e], .inl (.inl (by rw [← bools_is h4 h1]; exact h3)), q⟩
  | _ => cases hg
theorem c_any (hc : X.calm = true) : CallR X (.builtin "any") (rC1 X.w X.K cl gAny) := CallR.impl (cr_any hc) fun xs H Q ⟨x, d, r, v, e, is, hg, hs, q⟩ => by
  subst e
  cases d with
  | lst ds =>
    obtain ⟨bs, h1, h2⟩ := Option.map_eq_some_iff.mp (show (asBools ds).map (fun bs => D.bool (bs.any id)) = some r from hg)
    subst h2
    cases hs
    obtain ⟨a, us, e, h3, h4⟩ := is_lst is
    exact ⟨a, bs, by rw [e], .inl (.inl (by rw [← bools_is h4 h1]; exact h3)), q⟩
  | _ => cases hg
theorem c_sum (hc : X.calm = true) : CallR X (.builtin "sum") (rC1 X.w X.K cl gSum) := CallR.impl (cr_sum hc) fun xs H Q ⟨x, d, r, v, e, is, hg, hs, q⟩ => by
  subst e
  cases d with
  | lst ds =>
    obtain ⟨bs, h1, h2⟩ := Option.map_eq_some_iff.mp (show (asInts ds).map (fun bs => D.int bs.sum) = some r from hg)
    subst h2
    cases hs
    obtain ⟨a, us, e, h3, h4⟩ := is_lst is
    exact ⟨a, bs, by rw [e], .inl (.inl (by rw [← ints_is h4 h1]; exact h3)), q⟩
  | _ => cases hg
end
end Ws
set_option Elab.async false
set_option linter.all false
set_option maxRecDepth 100000
set_option maxHeartbeats 2000000
/-! Ws11: lists of one's own changed, new lists from others, divmod, in, isinstance. -/
namespace Ws
open PySem PySem.Spec PyProof.Rows L2

section
variable {w : World} {K : PySem.W.Frag} {cl : Nat → Addr} {M M1 M2 M0 : Addr → Prop} {ρ ρ1 : Env} {σ : L2.St} {H H0 H1 H2 H' : Hp} {f f0 f1 f2 : Fp} {rv : Rv} {v : V} {fw : List Addr}
theorem WAll.poke {l : Addr} {o : HO} : ∀ {xs : List V} {ws : List W} {fp : List Addr}, WAll w K cl M H xs ws fp → M l → l ∉ fp → WAll w K cl M (upd H l o) xs ws fp := fun h m n => h.stay (ext_poke m) fun a ha u e => by
  rw [upd_ne (fun z => n (by rw [← z]; exact ha))]
  exact e
theorem fp_head {l : Addr} {fp : List Addr} (h : (l :: fp).Nodup) : l ∉ fp := (List.nodup_cons.mp h).1
/-- a slot that holds a list of its own -/
theorem RS.ownLst {i : Nat} {ws : List W} (r : RS w K cl M ρ σ H f) (e : slotW ρ i = some (.lst ws)) : ∃ l xs fp, σ[i]? = some (some (.ref l)) ∧ H l = some (.lst xs) ∧ WAll w K cl M H xs ws fp ∧ f i = l :: fp ∧ M l ∧ l ∉ fp := by
  obtain ⟨u, hu, hw⟩ := r.slot i _ (slotW_some e)
  have : ∃ q, q = f i := ⟨_, rfl⟩
  obtain ⟨q, hq⟩ := this
  rw [← hq] at hw
  cases hw with
  | lst h1 h2 =>
    have nd := r.nd i
    rw [← hq] at nd
    exact ⟨_, _, _, hu, h1, h2, hq.symm, r.own i _ (by rw [← hq]; exact List.mem_cons_self), fp_head nd⟩
/-- .. is changed -/
theorem RS.putLst {i : Nat} {ws ws' : List W} {l : Addr} {xs' : List V} {fp : List Addr} (r : RS w K cl M ρ σ H f) (hσ : σ[i]? = some (some (.ref l))) (hf : f i = l :: fp) (hn : WAll w K cl M (upd H l (.lst xs')) xs' ws' fp) :
    RS w K cl M (ρ.set i (some (.lst ws'))) σ (upd H l (.lst xs')) f ∧ Step M H f M (upd H l (.lst xs')) f := by
  have ml : M l := r.own i l (by rw [hf]; exact List.mem_cons_self)
  refine ⟨⟨fun j y hy => ?_, fun j hj => ?_, r.nd, r.dj, r.own, fun a ha => ?_, by simpa using r.len⟩, ⟨fun b o h n => ?_, fun b o h => upd_there h, fun _ m _ => m, fun _ m => .inl m, fun _ _ h => .inl h⟩⟩
  · rcases set_get hy with ⟨e1, e2⟩ | ⟨e1, e2⟩
    · subst e1
      cases e2
      exact ⟨_, hσ, by rw [hf]; exact .lst upd_same hn⟩
    · obtain ⟨u, hu, hw⟩ := r.slot j y e2
      refine ⟨u, hu, hw.stay (ext_poke ml) fun a ha o h => ?_⟩
      rw [upd_ne (fun z => e1 (r.dj i j l (by rw [hf]; exact List.mem_cons_self) (by rw [← z]; exact ha)))]
      exact h
  · by_cases e : j = i
    · subst e
      exact absurd (List.getElem?_set_self (by rw [r.len]; exact (List.getElem?_eq_some_iff.mp hσ).1)) (hj _)
    · refine r.none j fun y hy => hj y ?_
      rw [List.getElem?_set_ne (Ne.symm e)]
      exact hy
  · obtain ⟨o, h⟩ := r.trk a ha
    exact upd_there h
  · rw [upd_ne (fun z => n i (by rw [hf, z]; exact List.mem_cons_self))]
    exact h
theorem WAll.snoc {y : V} {d : D} : ∀ {xs : List V} {ws : List W} {fp : List Addr}, WAll w K cl M H xs ws fp → Is w K cl M H y d → WAll w K cl M H (xs ++ [y]) (ws ++ [.leaf d]) fp
  | _, _, _, .nil, i => by
    have := WAll.cons (w := w) (K := K) (cl := cl) (M := M) (H := H) (WIs.leaf i) .nil
    simpa using this
  | _, _, _, .cons a t, i => .cons a (WAll.snoc t i)
theorem WAll.len : ∀ {xs : List V} {ws : List W} {fp : List Addr}, WAll w K cl M H xs ws fp → xs.length = ws.length
  | _, _, _, .nil => rfl
  | _, _, _, .cons _ t => by simp [WAll.len t]
end

section
variable {cl : Nat → Addr} {X : Cx} {np : Nat} {a b e : Expr} {es : List Expr} {pos p apos cpos xpos : Pos} {da db di d : Den Rv} {i : Nat} {x : Str}
def isLst : W → Bool
  | .lst _ => true
  | _ => false
def ownAt (ρ : Env) (i : Nat) : Option (List W) := match slotW ρ i with
  | some (.lst ws) => some ws
  | _ => Option.none
theorem ownAt_some {ρ : Env} {ws : List W} (h : ownAt ρ i = some ws) : slotW ρ i = some (.lst ws) := by
  unfold ownAt at h
  split at h
  · rename_i ws' e
    cases h
    exact e
  · cases h
theorem ty_list {K : PySem.W.Frag} {H : Hp} {l : Addr} {xs : List V} (h : H l = some (.lst xs)) : tyV K "list" (.ref l) H := .inl ⟨rfl, _, .inl (.inl h)⟩
/-- name.append(e) -/
def dAppend (i : Nat) (d : Den Rv) : Den Rv := fun ρ => (ownAt ρ i).bind fun _ => (dSh d ρ).bind fun r => (ownAt r.2 i).bind fun ws => if ws.length < sizeLine then some (.val (.leaf .none), r.2.set i (some (.lst (ws ++ [.leaf r.1])))) else Option.none
theorem de_append (hN : X.N[i]? = some x) (hv : Vis X.env.scope x) (hd : (x == ("__debug__" : Str)) = false) (hcd : (x == ("__classdict__" : Str)) = false) (he : DE cl X e d) (hs : starEach [e] X.env = (false, eval e X.env) :: starEach [] X.env := by rfl)
    (hbase : attributeBase (.Name x xpos) "append" X.env (eval (.Name x xpos) X.env) = eval (.Name x xpos) X.env := by rfl)
    (hfew : ((backTo cpos (starEach [e] X.env)).all (fun x => !x.1) && (backToKw cpos (keywordEach [] X.env)).all (fun x => x.1.isSome) && decide ([e].length + ([] : List Keyword).length + (if ([] : List Keyword).isEmpty then 0 else 1) < 30)) = true := by rfl)
    (hline : (apos.endLine == cpos.line) = true := by rfl) (hplain : (backTo cpos (starEach [] X.env)).any (·.1) = false := by rfl) : DE cl X (.Call (.Attribute (.Name x xpos) "append" apos) [e] [] cpos) (dAppend i d) :=
  pe_imp (pe_bm PySem.F.plainAttrs_list PySem.F.slot_list_append PySem.F.type_list_append mt_append (pe_var hN hv hd hcd) (pa_cons (de_sh he) pa_nil hs) hbase hfew hline hs hplain) fun σ H Q ⟨M, ρ, f, rv, ρ', rs, hd, k⟩ => by
    obtain ⟨ws0, h0, hd⟩ := Option.bind_eq_some_iff.mp hd
    obtain ⟨⟨dd, ρ1⟩, h1, hd⟩ := Option.bind_eq_some_iff.mp hd
    obtain ⟨ws, h2, hd⟩ := Option.bind_eq_some_iff.mp hd
    obtain ⟨l, xs, fp, q1, q2, q3, q4, q5, q6⟩ := rs.ownLst (ownAt_some h0)
    refine ⟨_, q1, ty_list q2, M, ρ, f, dd, ρ1, rs, h1, fun v M1 H1 f1 rs1 is1 st1 => ?_⟩
    obtain ⟨l', xs', fp', p1, p2, p3, p4, p5, p6⟩ := rs1.ownLst (ownAt_some h2)
    rw [q1] at p1
    cases p1
    have hd' : (if ws.length < sizeLine then some (Rv.val (.leaf .none), ρ1.set i (some (.lst (ws ++ [W.leaf dd])))) else Option.none) = some (rv, ρ') := hd
    by_cases c : ws.length < sizeLine
    · rw [if_pos c] at hd'
      cases hd'
      refine ⟨_, _, v, rfl, rfl, p2, by rw [p3.len]; exact c, ?_⟩
      obtain ⟨r2, s2⟩ := rs1.putLst (ws := ws) (ws' := ws ++ [.leaf dd]) (xs' := xs' ++ [v]) q1 p4 ((p3.poke p5 p6).snoc (is1.stay (ext_poke p5)))
      exact k .non M1 _ f1 [] r2 (rvB .non) (st1.trans rs.trk s2)
    · rw [if_neg c] at hd'
      cases hd'
/-- name.extend(e), e a list -/
def dExtend (i : Nat) (d : Den Rv) : Den Rv := fun ρ => (ownAt ρ i).bind fun _ => (dSh d ρ).bind fun r => (ownAt r.2 i).bind fun ws => (flatW ws).bind fun ds => match r.1 with
  | .lst es => if ds.length + es.length ≤ sizeLine then some (.val (.leaf .none), r.2.set i (some (.lst (leaves (ds ++ es))))) else Option.none
  | _ => Option.none
theorem de_extend (hN : X.N[i]? = some x) (hv : Vis X.env.scope x) (hd : (x == ("__debug__" : Str)) = false) (hcd : (x == ("__classdict__" : Str)) = false) (he : DE cl X e d) (hs : starEach [e] X.env = (false, eval e X.env) :: starEach [] X.env := by rfl)
    (hbase : attributeBase (.Name x xpos) "extend" X.env (eval (.Name x xpos) X.env) = eval (.Name x xpos) X.env := by rfl)
    (hfew : ((backTo cpos (starEach [e] X.env)).all (fun x => !x.1) && (backToKw cpos (keywordEach [] X.env)).all (fun x => x.1.isSome) && decide ([e].length + ([] : List Keyword).length + (if ([] : List Keyword).isEmpty then 0 else 1) < 30)) = true := by rfl)
    (hline : (apos.endLine == cpos.line) = true := by rfl) (hplain : (backTo cpos (starEach [] X.env)).any (·.1) = false := by rfl) : DE cl X (.Call (.Attribute (.Name x xpos) "extend" apos) [e] [] cpos) (dExtend i d) :=
  pe_imp (pe_bm PySem.F.plainAttrs_list PySem.F.slot_list_extend PySem.F.type_list_extend mt_extend (pe_var hN hv hd hcd) (pa_cons (de_sh he) pa_nil hs) hbase hfew hline hs hplain) fun σ H Q ⟨M, ρ, f, rv, ρ', rs, hd, k⟩ => by
    obtain ⟨ws0, h0, hd⟩ := Option.bind_eq_some_iff.mp hd
    obtain ⟨⟨dd, ρ1⟩, h1, hd⟩ := Option.bind_eq_some_iff.mp hd
    obtain ⟨ws, h2, hd⟩ := Option.bind_eq_some_iff.mp hd
    obtain ⟨ds, h3, hd⟩ := Option.bind_eq_some_iff.mp hd
    obtain ⟨l, xs, fp, q1, q2, q3, q4, q5, q6⟩ := rs.ownLst (ownAt_some h0)
    refine ⟨_, q1, ty_list q2, M, ρ, f, dd, ρ1, rs, h1, fun v M1 H1 f1 rs1 is1 st1 => ?_⟩
    obtain ⟨l', xs', fp', p1, p2, p3, p4, p5, p6⟩ := rs1.ownLst (ownAt_some h2)
    rw [q1] at p1
    cases p1
    obtain ⟨t1, t2, t3⟩ := wall_flat p3 h3
    cases dd with
    | lst es =>
      have hd' : (if ds.length + es.length ≤ sizeLine then some (Rv.val (.leaf .none), ρ1.set i (some (.lst (leaves (ds ++ es))))) else Option.none) = some (rv, ρ') := hd
      by_cases c : ds.length + es.length ≤ sizeLine
      · rw [if_pos c] at hd'
        cases hd'
        cases is1 with
        | lst e1 e2 e3 =>
          refine ⟨_, _, _, _, rfl, rfl, p2, e1, by rw [t1.length, e3.length]; exact c, ?_⟩
          obtain ⟨r2, s2⟩ := rs1.putLst (ws := ws) (ws' := leaves (ds ++ es)) (xs' := xs' ++ _) q1 p4 (by rw [t2]; exact wall_leaves ((t1.stay (ext_poke p5)).append (e3.stay (ext_poke p5))))
          exact k .non M1 _ f1 [] r2 (rvB .non) (st1.trans rs.trk s2)
      · rw [if_neg c] at hd'
        cases hd'
    | _ => cases hd
/-- name.pop(e) -/
def dPopAt (i : Nat) (d : Den Rv) : Den Rv := fun ρ => (ownAt ρ i).bind fun _ => (dSh d ρ).bind fun r => (ownAt r.2 i).bind fun ws => (flatW ws).bind fun ds => match r.1 with
  | .int j => if -(2 ^ 63) ≤ j ∧ j < 2 ^ 63 then (seqIndex? j ds.length).bind fun q => (ds[q]?).map fun z => (.val (.leaf z), r.2.set i (some (.lst (leaves (ds.eraseIdx q))))) else Option.none
  | _ => Option.none
theorem de_popAt (hN : X.N[i]? = some x) (hv : Vis X.env.scope x) (hd : (x == ("__debug__" : Str)) = false) (hcd : (x == ("__classdict__" : Str)) = false) (he : DE cl X e d) (hs : starEach [e] X.env = (false, eval e X.env) :: starEach [] X.env := by rfl)
    (hbase : attributeBase (.Name x xpos) "pop" X.env (eval (.Name x xpos) X.env) = eval (.Name x xpos) X.env := by rfl)
    (hfew : ((backTo cpos (starEach [e] X.env)).all (fun x => !x.1) && (backToKw cpos (keywordEach [] X.env)).all (fun x => x.1.isSome) && decide ([e].length + ([] : List Keyword).length + (if ([] : List Keyword).isEmpty then 0 else 1) < 30)) = true := by rfl)
    (hline : (apos.endLine == cpos.line) = true := by rfl) (hplain : (backTo cpos (starEach [] X.env)).any (·.1) = false := by rfl) : DE cl X (.Call (.Attribute (.Name x xpos) "pop" apos) [e] [] cpos) (dPopAt i d) :=
  pe_imp (pe_bm PySem.F.plainAttrs_list PySem.F.slot_list_pop PySem.F.type_list_pop mt_popAt (pe_var hN hv hd hcd) (pa_cons (de_sh he) pa_nil hs) hbase hfew hline hs hplain) fun σ H Q ⟨M, ρ, f, rv, ρ', rs, hd, k⟩ => by
    obtain ⟨ws0, h0, hd⟩ := Option.bind_eq_some_iff.mp hd
    obtain ⟨⟨dd, ρ1⟩, h1, hd⟩ := Option.bind_eq_some_iff.mp hd
    obtain ⟨ws, h2, hd⟩ := Option.bind_eq_some_iff.mp hd
    obtain ⟨ds, h3, hd⟩ := Option.bind_eq_some_iff.mp hd
    obtain ⟨l, xs, fp, q1, q2, q3, q4, q5, q6⟩ := rs.ownLst (ownAt_some h0)
    refine ⟨_, q1, ty_list q2, M, ρ, f, dd, ρ1, rs, h1, fun v M1 H1 f1 rs1 is1 st1 => ?_⟩
    obtain ⟨l', xs', fp', p1, p2, p3, p4, p5, p6⟩ := rs1.ownLst (ownAt_some h2)
    rw [q1] at p1
    cases p1
    obtain ⟨t1, t2, t3⟩ := wall_flat p3 h3
    cases dd with
    | int j =>
      have hd' : (if -(2 ^ 63) ≤ j ∧ j < 2 ^ 63 then (seqIndex? j ds.length).bind (fun q => (ds[q]?).map fun z => (Rv.val (.leaf z), ρ1.set i (some (.lst (leaves (ds.eraseIdx q)))))) else Option.none) = some (rv, ρ') := hd
      by_cases c : -(2 ^ 63) ≤ j ∧ j < 2 ^ 63
      · rw [if_pos c] at hd'
        obtain ⟨q, g1, hd'⟩ := Option.bind_eq_some_iff.mp hd'
        obtain ⟨z, g2, hd'⟩ := Option.map_eq_some_iff.mp hd'
        cases hd'
        obtain ⟨u, g3, g4⟩ := t1.get g2
        refine ⟨_, _, j, q, u, rfl, by rw [is_int is1], p2, c.1, c.2, by rw [t1.length]; exact g1, g3, ?_⟩
        obtain ⟨r2, s2⟩ := rs1.putLst (ws := ws) (ws' := leaves (ds.eraseIdx q)) (xs' := xs'.eraseIdx q) q1 p4 (by rw [t2]; exact wall_leaves ((t1.stay (ext_poke p5)).eraseIdx q))
        exact k u M1 _ f1 [] r2 (rvB (g4.stay (rs1.ext s2))) (st1.trans rs.trk s2)
      · rw [if_neg c] at hd'
        cases hd'
    | _ => cases hd
/-- name.pop() -/
def dPop (i : Nat) : Den Rv := fun ρ => (ownAt ρ i).bind fun ws => (flatW ws).bind fun ds => (ds[ds.length - 1]?).map fun z => (.val (.leaf z), ρ.set i (some (.lst (leaves ds.dropLast))))
theorem de_pop (hN : X.N[i]? = some x) (hv : Vis X.env.scope x) (hd : (x == ("__debug__" : Str)) = false) (hcd : (x == ("__classdict__" : Str)) = false)
    (hbase : attributeBase (.Name x xpos) "pop" X.env (eval (.Name x xpos) X.env) = eval (.Name x xpos) X.env := by rfl) (hline : (apos.endLine == cpos.line) = true := by rfl) : DE cl X (.Call (.Attribute (.Name x xpos) "pop" apos) [] [] cpos) (dPop i) :=
  pe_imp (pe_bm0 PySem.F.plainAttrs_list PySem.F.slot_list_pop PySem.F.type_list_pop mt_pop (pe_var hN hv hd hcd) hbase hline) fun σ H Q ⟨M, ρ, f, rv, ρ', rs, hd, k⟩ => by
    obtain ⟨ws, h0, hd⟩ := Option.bind_eq_some_iff.mp hd
    obtain ⟨ds, h3, hd⟩ := Option.bind_eq_some_iff.mp hd
    obtain ⟨z, g2, hd⟩ := Option.map_eq_some_iff.mp hd
    cases hd
    obtain ⟨l, xs, fp, q1, q2, q3, q4, q5, q6⟩ := rs.ownLst (ownAt_some h0)
    obtain ⟨t1, t2, t3⟩ := wall_flat q3 h3
    obtain ⟨u, g3, g4⟩ := t1.get g2
    obtain ⟨r2, s2⟩ := rs.putLst (ws := ws) (ws' := leaves ds.dropLast) (xs' := xs.dropLast) q1 q4 (by rw [t2]; exact wall_leaves ((t1.stay (ext_poke q5)).dropLast))
    exact ⟨_, q1, ty_list q2, l, xs, u, rfl, rfl, q2, by rw [t1.length]; exact g3, k u M _ f [] r2 (rvB (g4.stay (rs.ext s2))) s2⟩
/-- name[e] = .. of a list of one's own -/
def gIx (i : Nat) (di : Den Rv) : DenG := fun d ρ => (ownAt ρ i).bind fun _ => (dSh di ρ).bind fun r => (ownAt r.2 i).bind fun ws => (flatW ws).bind fun ds => match r.1 with
  | .int j => (ixN ds.length j).map fun q => r.2.set i (some (.lst (leaves (ds.set q d))))
  | _ => Option.none
theorem dg_ix (hN : X.N[i]? = some x) (hv : Vis X.env.scope x) (hd : (x == ("__debug__" : Str)) = false) (hcd : (x == ("__classdict__" : Str)) = false) (he : DE cl X e di)
    (hA : ∀ new, assign (.Subscript (.Name x xpos) e pos) X.env new = (do
      let ov ← holding [new] (eval (.Name x xpos) X.env)
      let iv ← holding [new, ov] (eval e X.env)
      standAt pos
      holding [new, ov, iv] (setItem ov iv new)
      release [new, ov, iv] []) := by intro _; rfl) : DG cl X (.Subscript (.Name x xpos) e pos) [] (gIx i di) :=
  pg_imp (pg_sub (pe_var hN hv hd hcd) (de_sh he) set_list hA) fun v σ H Q ⟨M, ρ, f, d, ρ', rs, is, hd, k⟩ => by
    obtain ⟨ws0, h0, hd⟩ := Option.bind_eq_some_iff.mp hd
    obtain ⟨⟨dd, ρ1⟩, h1, hd⟩ := Option.bind_eq_some_iff.mp hd
    obtain ⟨ws, h2, hd⟩ := Option.bind_eq_some_iff.mp hd
    obtain ⟨ds, h3, hd⟩ := Option.bind_eq_some_iff.mp hd
    obtain ⟨l, xs, fp, q1, q2, q3, q4, q5, q6⟩ := rs.ownLst (ownAt_some h0)
    refine ⟨_, q1, M, ρ, f, dd, ρ1, rs, h1, fun u M1 H1 f1 rs1 is1 st1 => ?_⟩
    obtain ⟨l', xs', fp', p1, p2, p3, p4, p5, p6⟩ := rs1.ownLst (ownAt_some h2)
    rw [q1] at p1
    cases p1
    obtain ⟨t1, t2, t3⟩ := wall_flat p3 h3
    have is' := is.stay (rs.ext st1)
    cases dd with
    | int j =>
      obtain ⟨q, g1, hd⟩ := Option.map_eq_some_iff.mp (show (ixN ds.length j).map (fun q => ρ1.set i (some (.lst (leaves (ds.set q d))))) = some ρ' from hd)
      subst hd
      refine ⟨_, _, j, q, rfl, is_int is1, p2, by rw [t1.length]; exact g1, ?_⟩
      obtain ⟨r2, s2⟩ := rs1.putLst (ws := ws) (ws' := leaves (ds.set q d)) (xs' := xs'.set q v) q1 p4 (by rw [t2]; exact wall_leaves (IsL.set (is'.stay (ext_poke p5)) q (t1.stay (ext_poke p5))))
      exact k σ M1 _ f1 r2 (st1.trans rs.trk s2) Off.refl
    | _ => cases hd

/-! ### new lists and tuples from others -/
def dList (d : Den Rv) : Den Rv := fun ρ => (d ρ).bind fun x => (itemsR x.2 x.1).map fun q => (ownL q.2, x.2)
theorem de_list (hg : Gl X "list") (hm : X.mg "list" = none) (ha : DE cl X e d) (he : starEach [e] X.env = (false, eval e X.env) :: starEach [] X.env := by rfl) (hpl : (backTo pos (starEach [] X.env)).any (·.1) = false := by rfl) : DE cl X (.Call (.Name "list" p) [e] [] pos) (dList d) :=
  pe_imp (pe_callTy call_list_of hg hm (by decide +kernel) (pa_cons ha pa_nil he) (by decide) (by decide) he hpl) fun σ H Q ⟨M, ρ, f, rv, ρ', rs, hd, k⟩ => by
    obtain ⟨⟨x, ρ1⟩, h1, hd⟩ := Option.bind_eq_some_iff.mp hd
    obtain ⟨⟨b, ds⟩, h2, hd⟩ := Option.map_eq_some_iff.mp hd
    cases hd
    refine ⟨M, ρ, f, x, _, rs, h1, fun v M1 H1 f1 fw rs1 ok1 st1 => ?_⟩
    obtain ⟨a, xs, e1, e2, e3⟩ := ok1.items rs1 h2
    refine ⟨a, xs, by rw [e1], ?_, fun l nl => ?_⟩
    · cases b
      · exact .inr e2
      · exact .inl e2
    · obtain ⟨r4, ok4, s4⟩ := fin_lst rs1 nl (st1.back nl) e3
      exact k _ _ _ _ _ r4 ok4 (st1.trans rs.trk s4)
def dTuple (d : Den Rv) : Den Rv := fun ρ => (d ρ).bind fun x => (itemsR x.2 x.1).map fun q => (.val (.leaf (.tup q.2)), x.2)
theorem de_tuple (hg : Gl X "tuple") (hm : X.mg "tuple" = none) (ha : DE cl X e d) (he : starEach [e] X.env = (false, eval e X.env) :: starEach [] X.env := by rfl) (hpl : (backTo pos (starEach [] X.env)).any (·.1) = false := by rfl) : DE cl X (.Call (.Name "tuple" p) [e] [] pos) (dTuple d) :=
  pe_imp (pe_callTy call_tuple_of hg hm (by decide +kernel) (pa_cons ha pa_nil he) (by decide) (by decide) he hpl) fun σ H Q ⟨M, ρ, f, rv, ρ', rs, hd, k⟩ => by
    obtain ⟨⟨x, ρ1⟩, h1, hd⟩ := Option.bind_eq_some_iff.mp hd
    obtain ⟨⟨b, ds⟩, h2, hd⟩ := Option.map_eq_some_iff.mp hd
    cases hd
    refine ⟨M, ρ, f, x, _, rs, h1, fun v M1 H1 f1 fw rs1 ok1 st1 => ?_⟩
    cases b with
    | true =>
      obtain ⟨a, xs, e1, e2, e3⟩ := ok1.items rs1 h2
      refine ⟨a, xs, by rw [e1], .inl ⟨e2, fun l nl => ?_⟩⟩
      obtain ⟨r4, is4, s4⟩ := fin_tup rs1 nl e3
      exact k _ _ _ _ [] r4 (rvB is4) (st1.trans rs.trk s4)
    | false =>
      have it := rv_tup rs1 ok1 h2
      obtain ⟨a, xs, e1, e3, e2⟩ := sqt_of_is it
      subst e1
      exact ⟨a, xs, rfl, .inr ⟨e2 _ _ Ext.refl, k _ M1 H1 f1 [] rs1 (rvB it) st1⟩⟩
/-- divmod by a positive divisor -/
def dDivmod (da db : Den Rv) : Den Rv := fun ρ => (da ρ).bind fun x => (db x.2).bind fun y => (viewR y.2 x.1).bind fun dx => (viewR y.2 y.1).bind fun dy => match dx, dy with
  | .int i, .int j => if 0 < j ∧ j.natAbs.log2 < 9000 then some (.val (.leaf (.tup [.int (i / j), .int (i % j)])), y.2) else Option.none
  | _, _ => Option.none
theorem de_divmod (hg : Gl X "divmod") (hm : X.mg "divmod" = none) (ha : DE cl X a da) (hb : DE cl X b db)
    (he : starEach [a, b] X.env = (false, eval a X.env) :: starEach [b] X.env := by rfl) (he2 : starEach [b] X.env = (false, eval b X.env) :: starEach [] X.env := by rfl) (hpl : (backTo pos (starEach [b] X.env)).any (·.1) = false := by rfl) : DE cl X (.Call (.Name "divmod" p) [a, b] [] pos) (dDivmod da db) :=
  pe_imp (pe_callB call_divmodW hg hm (by decide +kernel) (pa_cons ha (pa_cons hb pa_nil he2) he) (by decide) (by decide) he hpl) fun σ H Q ⟨M, ρ, f, rv, ρ', rs, hd, k⟩ => by
    obtain ⟨⟨x, ρ1⟩, h1, hd⟩ := Option.bind_eq_some_iff.mp hd
    obtain ⟨⟨y, ρ2⟩, h2, hd⟩ := Option.bind_eq_some_iff.mp hd
    obtain ⟨dx, h3, hd⟩ := Option.bind_eq_some_iff.mp hd
    obtain ⟨dy, h4, hd⟩ := Option.bind_eq_some_iff.mp hd
    refine ⟨M, ρ, f, x, ρ1, rs, h1, fun v1 M1 H1 f1 fw1 rs1 ok1 st1 => ⟨M1, ρ1, f1, y, ρ2, rs1, h2, fun v2 M2 H2 f2 fw2 rs2 ok2 st2 => ?_⟩⟩
    have i1 := (ok1.carry rs1 st2).view rs2 h3
    have i2 := ok2.view rs2 h4
    cases dx with
    | int i =>
      cases dy with
      | int j =>
        have hd' : (if 0 < j ∧ j.natAbs.log2 < 9000 then some (Rv.val (.leaf (.tup [.int (i / j), .int (i % j)])), ρ2) else Option.none) = some (rv, ρ') := hd
        by_cases c : 0 < j ∧ j.natAbs.log2 < 9000
        · rw [if_pos c] at hd'
          cases hd'
          refine ⟨i, j, by rw [is_int i1, is_int i2], ⟨c.1, PyProof.noPylong_of_log2 c.2⟩, fun q nq => ?_⟩
          obtain ⟨r4, is4, s4⟩ := fin_tup rs2 nq (IsL.cons (Is.int (i / j)) (IsL.cons (Is.int (i % j)) IsL.nil))
          exact k _ _ _ _ [] r4 (rvB is4) ((st1.trans rs.trk st2).trans rs.trk s4)
        · rw [if_neg c] at hd'
          cases hd'
      | _ => cases hd
    | _ => cases hd

/-! ### x in xs -/
def gInL (neg : Bool) : D → D → Option D := fun x y => match y with
  | .lst ds => (toPy x).bind fun p => (toPys ds).bind fun qs => if SeqAt.shaped p = true ∧ SeqAt.shaped (.list qs) = true then some (.bool (if neg = true then !(qs.any fun z => PyData.eqv z p) else qs.any fun z => PyData.eqv z p)) else Option.none
  | _ => Option.none
theorem gInL_some {neg : Bool} {x y r : D} (h : gInL neg x y = some r) : ∃ ds p qs, y = .lst ds ∧ toPy x = some p ∧ toPys ds = some qs ∧ SeqAt.shaped p = true ∧ SeqAt.shaped (.list qs) = true ∧ r = .bool (if neg = true then !(qs.any fun z => PyData.eqv z p) else qs.any fun z => PyData.eqv z p) := by
  cases y with
  | lst ds =>
    obtain ⟨p, h1, h⟩ := Option.bind_eq_some_iff.mp h
    obtain ⟨qs, h2, h⟩ := Option.bind_eq_some_iff.mp h
    by_cases c : SeqAt.shaped p = true ∧ SeqAt.shaped (.list qs) = true
    · rw [if_pos c] at h
      exact ⟨ds, p, qs, rfl, h1, h2, c.1, c.2, (Option.some.inj h).symm⟩
    · rw [if_neg c] at h
      cases h
  | _ => cases h
theorem o_in (hu : X.A.units + 65 < cLine) : OpR X (compareOp .In) (rV2 X.w X.K cl (gInL false)) :=
  opr_imp (op_inD hu) fun x y H Q ⟨dx, dy, r, v, hx, hy, e, s, q⟩ => by
    obtain ⟨ds, p, qs, rfl, e1, e2, s1, s2, rfl⟩ := gInL_some e
    cases s
    exact ⟨p, qs, is_dp hx e1, is_dp hy (by rw [toPy, e2]; rfl), s1, s2, q⟩
theorem o_notin (hu : X.A.units + 65 < cLine) : OpR X (compareOp .NotIn) (rV2 X.w X.K cl (gInL true)) :=
  opr_imp (op_notInD hu) fun x y H Q ⟨dx, dy, r, v, hx, hy, e, s, q⟩ => by
    obtain ⟨ds, p, qs, rfl, e1, e2, s1, s2, rfl⟩ := gInL_some e
    cases s
    exact ⟨p, qs, is_dp hx e1, is_dp hy (by rw [toPy, e2]; rfl), s1, s2, q⟩
end
end Ws
set_option Elab.async false
set_option linter.all false
set_option maxRecDepth 100000
set_option maxHeartbeats 4000000
/-! Ws12: exceptions of own classes over any built-in base: made, held, read, asked. -/
namespace PySem
namespace XKW
open Builtin Builtin.ObjectAttr PySem.HandSPX
section
variable {M : Model} {A : Around} {E : Value → Shared → Prop} {h : Heap} {g : Array GenState} {d : Drawn} {t : Nat} {os : OsState}
variable {nm q : Str} {C N : Addr} {bs bm bmB : List Value} {hdct : Bool} {sn : List Str} {sub : List Value} {ab : Bool} {col : Option Bool} {dd : Option Addr} {k0 k1 k2 k3 k5 : Option Value} {B newId initId : String} {kw : List (Str × Value)}
theorem check_new_kw (F : ExcBaseFacts B newId initId bmB) (hT : ∀ X : String, bm.contains (.type X) = bmB.contains (.type X)) {rest : List Value} {Q : Unit → Shared → Prop}
    (hC : h.get? C = some (excClassObj nm q C N bs bm hdct sn sub ab col dd k0 k1 k2 k3 k5 newId)) (hq : Q () ⟨h, g, d, t, os⟩) : wpAny M A (checkBuiltinCall newId ⟨.ref C :: rest, kw⟩) Q E ⟨h, g, d, t, os⟩ := by
  have hcont : (Value.ref C :: bm).contains (.type B) = true := by rw [List.contains_cons, hT, F.hasB, Bool.or_true]
  have hstar := F.noStar
  simp only [checkBuiltinCall, F.newKind, F.newSplit, F.newRow]
  repeat (first | refine wpAny_loadPart_at hC ?_ | (refine wpAny_isSubtype_exc hC ?_; rw [hcont]) | refine wpAny_staticBase_exc hC ?_ | refine wpAny_madeBy_exc hC ?_ | simp only [bne_self_eq_false, Bool.false_eq_true, if_false] | wp_step)
  exact hq
end
section
variable {prog : Program} {w : World} {A : Around} {E : Value → Shared → Prop} {R : Result → Shared → Prop} {h : Heap} {g : Array GenState} {d : Drawn} {t : Nat} {os : OsState}
variable {nm q : Str} {C N : Addr} {bs bm bmB : List Value} {hdct : Bool} {sn : List Str} {sub : List Value} {ab : Bool} {col : Option Bool} {dd : Option Addr} {k0 k1 k2 k3 k5 : Option Value} {B newId initId : String} {kw : List (Str × Value)}

theorem new_kw (F : ExcBaseFacts B newId initId bmB) (hT : ∀ X : String, bm.contains (.type X) = bmB.contains (.type X)) {rest : List Value}
    (hC : h.get? C = some (excClassObj nm q C N bs bm hdct sn sub ab col dd k0 k1 k2 k3 k5 newId))
    (hq : R (.ok (.ret (.ref (h.objs.size + 1)))) ⟨(h.push { cls := .type "tuple", data := .seq rest.toArray }).push
      { cls := .ref C, data := .fields #[.ref h.objs.size, .none, .none, .none, .bool false, .none] }, g, d, t, os⟩) (hrest : rest.length ≤ sizeLine) :
    codeAny (model prog w) A (.builtin newId ⟨.ref C :: rest, kw⟩) R ⟨h, g, d, t, os⟩ := by
  have hends := F.ends
  have hcB : (Value.ref C :: bm).contains (.type B) = true := by rw [List.contains_cons, hT, F.hasB, Bool.or_true]
  have hcA : (Value.ref C :: bm).contains (.type "AttributeError") = false := by rw [List.contains_cons, hT, F.noAttr]; rfl
  have hcN : (Value.ref C :: bm).contains (.type "NameError") = false := by rw [List.contains_cons, hT, F.noName]; rfl
  refine codeAny_builtinAt F.entry ?_
  unfold Builtin.«BaseException.__new__»
  refine wpAt_bind ?_
  show wpAt _ _ _ (stack >>= _) _ _ _
  refine wpAt_bind (wpAt_stack fun p below => wpAt_of_wpAny ?_)
  wp_walk
  refine wpAt_of_wpAny ?_
  rw [F.owner]
  repeat (first | with_reducible refine wpAny_madeHere_exc F.canon hC ?_ | with_reducible refine wpAny_loadPart_at hC ?_ | (with_reducible refine wpAny_isSubtype_exc hC ?_; first | rw [hcB] | rw [hcA] | rw [hcN]) | wp_step)
  show R _ _
  rw [Heap.size_push]
  exact hq

theorem type_call_kw (F : ExcBaseFacts B newId initId bmB) (hT : ∀ X : String, bm.contains (.type X) = bmB.contains (.type X)) {rest : List Value} {fI : Addr} {Q : Fin → Shared → Prop}
    (hC : h.get? C = some (excClassObj nm q C N bs bm hdct sn sub ab col dd k0 k1 k2 k3 k5 newId))
    (hi : W.Looks (model prog w) h (typeLookup (.ref C) "__init__") (some (.ref fI))) (hb : ∀ self, W.Looks (model prog w) h (bindSpecial (.ref fI) self) (.ref fI, [self])) (hrest : rest.length ≤ sizeLine)
    (hq : codeAny (model prog w) A (.call (.ref fI) ⟨.ref (h.objs.size + 1) :: rest, kw⟩)
      (fun r s' => match r with | .ok (.ret v) => v = .none ∧ Q (.done (.ret (.ref (h.objs.size + 1)))) s' | .ok _ => False | .error e => E e s')
      ⟨(h.push (W.kdv_tup rest)).push (excO C h.objs.size), g, d, t, os⟩) :
    wpAny (model prog w) A (Builtin.«type.__call__» ⟨.ref C :: rest, kw⟩) Q E ⟨h, g, d, t, os⟩ := by
  repeat (first | with_reducible refine wpAny_loadPart_at hC ?_ | with_reducible refine wpAny_madeBy_exc hC ?_ | wp_step)
  refine codeAny_call_builtin_code (Code.quiet_builtin _ F.quiet) (check_new_kw F hT hC ?_)
  refine new_kw F hT hC ?_ hrest
  show wpAny _ _ _ _ _ _
  have k : ∀ b o, h.get? b = some o → ((h.push (W.kdv_tup rest)).push (excO C h.objs.size)).get? b = some o := fun b o e => Heap.get?_push_of_some _ (Heap.get?_push_of_some _ e)
  have hC₁ := k _ _ hC
  have hget : ((h.push (W.kdv_tup rest)).push (excO C h.objs.size)).get? (h.objs.size + 1) = some (excO C h.objs.size) := by heap_get
  have hcC : (Value.ref C :: bm).contains (.ref C) = true := by simp
  have i1 := hi.keeps k
  have b1 := (hb (.ref (h.objs.size + 1))).keeps k
  unfold isInstance
  repeat (first | with_reducible refine wpAny_loadPart_at hget ?_ | (with_reducible refine wpAny_isSubtype_exc hC₁ ?_; rw [hcC]) | wp_step)
  show wpAny _ _ (typeLookup (.ref C) _) _ _ _
  refine i1.at ?_
  refine wpAny_holding (wpAny_bind (b1.at ?_))
  refine wpAny_bind (wpAny_call (codeAny_mono hq fun r s' z => ?_))
  rcases r with e | (v | _ | _ | _) <;> first | exact z | exact z.elim | skip
  obtain ⟨rfl, z⟩ := z
  first
    | exact wpAny_pure (wpAny_pure z)
    | (wp_walk; exact z)
theorem check_tc_kw {M : Model} {A : Around} {E : Value → Shared → Prop} {h : Heap} {g : Array GenState} {d : Drawn} {t : Nat} {os : OsState} {rest : List Value} {Q : Unit → Shared → Prop} (hC : h.get? C = some (excClassObj nm q C N bs bm hdct sn sub ab col dd k0 k1 k2 k3 k5 newId))
    (hq : Q () ⟨h, g, d, t, os⟩) : wpAny M A (checkBuiltinCall "type.__call__" ⟨.ref C :: rest, kw⟩) Q E ⟨h, g, d, t, os⟩ := by
  have f3 := tc_sub
  have hT : (⟨h, g, d, t, os⟩ : Shared).TypeIs (.ref C) "type" := ⟨_, hC, rfl⟩
  simp only [checkBuiltinCall, tc_kind, tc_split]
  repeat (any_goals (first | assumption | with_reducible refine wpAny_loadPart_at hC ?_ | with_reducible refine wpAny_onRaise ?_ | with_reducible refine wpAny_map ?_ | wp_step))
theorem call_kw (F : ExcBaseFacts B newId initId bmB) (hT : ∀ X : String, bm.contains (.type X) = bmB.contains (.type X)) {rest : List Value} {fI : Addr}
    (hC : h.get? C = some (excClassObj nm q C N bs bm hdct sn sub ab col dd k0 k1 k2 k3 k5 newId))
    (hi : W.Looks (model prog w) h (typeLookup (.ref C) "__init__") (some (.ref fI))) (hb : ∀ self, W.Looks (model prog w) h (bindSpecial (.ref fI) self) (.ref fI, [self])) (hrest : rest.length ≤ sizeLine)
    (hq : codeAny (model prog w) (A.under (.builtin "type.__call__" ⟨.ref C :: rest, kw⟩)) (.call (.ref fI) ⟨.ref (h.objs.size + 1) :: rest, kw⟩) (W.InitBack (h.objs.size + 1) R)
      ⟨(h.push (W.kdv_tup rest)).push (excO C h.objs.size), g, d, t, os⟩) :
    codeAny (model prog w) A (.call (.ref C) ⟨rest, kw⟩) R ⟨h, g, d, t, os⟩ := by
  have f1 := tc_lookup
  have f2 := tc_bind (.ref C)
  have hTy : (⟨h, g, d, t, os⟩ : Shared).TypeIs (.ref C) "type" := ⟨_, hC, rfl⟩
  refine codeAny_of_tree ?_
  show wpAny _ _ (callAny (.ref C) _) _ _ _
  repeat (any_goals (first | assumption | with_reducible refine wpAny_loadPart_at hC ?_ | wp_step))
  refine ⟨rfl, ?_⟩
  refine codeAny_call_builtin_at (Code.quiet_builtin _ (by decide +kernel)) entry_typeCall (check_tc_kw hC (type_call_kw F hT hC hi hb hrest ?_))
  refine codeAny_mono hq fun r s' z => ?_
  rcases r with e | (v | _ | _ | _) <;> exact z
end
end XKW
end PySem


namespace Ws
open PySem PySem.Spec PyProof.Rows L2 Builtin Builtin.ObjectAttr

/-! ### a class's line: own classes, then a built-in line -/
def refsT (tl : List Value) : List Value → Bool
  | .ref _ :: r => refsT tl r
  | l => l == tl
theorem refsT_cases {tl : List Value} : ∀ l : List Value, refsT tl l = true → (∃ c r, l = .ref c :: r ∧ refsT tl r = true) ∨ l = tl
  | [], e => .inr (beq_iff_eq.mp e)
  | .ref c :: r, e => .inl ⟨c, r, rfl, e⟩
  | .none :: _, e => .inr (beq_iff_eq.mp e)
  | .ellipsis :: _, e => .inr (beq_iff_eq.mp e)
  | .notImplemented :: _, e => .inr (beq_iff_eq.mp e)
  | .bool _ :: _, e => .inr (beq_iff_eq.mp e)
  | .int _ _ :: _, e => .inr (beq_iff_eq.mp e)
  | .float _ _ :: _, e => .inr (beq_iff_eq.mp e)
  | .str _ _ :: _, e => .inr (beq_iff_eq.mp e)
  | .bytes _ _ :: _, e => .inr (beq_iff_eq.mp e)
  | .type _ :: _, e => .inr (beq_iff_eq.mp e)
  | .builtin _ :: _, e => .inr (beq_iff_eq.mp e)
/-- what is asked of a built-in base -/
structure XBase (B newId initId : String) (tl : List Value) : Prop where
  F : ExcBaseFacts B newId initId tl
  pass : ∀ self, refuseLoop self "__setattr__" tl = pure ()
  obj : tl.contains (.type "object") = true
  ne : tl.isEmpty = false
theorem xb_VE : XBase "ValueError" "ValueError.__new__" "ValueError.__init__" [.type "ValueError", .type "Exception", .type "BaseException", .type "object"] := ⟨F.excBase_ValueError, F.store_ValueError.passes, by decide +kernel, rfl⟩
theorem xb_LE : XBase "LookupError" "LookupError.__new__" "LookupError.__init__" [.type "LookupError", .type "Exception", .type "BaseException", .type "object"] := ⟨F.excBase_LookupError, F.store_LookupError.passes, by decide +kernel, rfl⟩
theorem xb_RE : XBase "RuntimeError" "RuntimeError.__new__" "RuntimeError.__init__" [.type "RuntimeError", .type "Exception", .type "BaseException", .type "object"] := ⟨F.excBase_RuntimeError, F.store_RuntimeError.passes, by decide +kernel, rfl⟩
theorem xb_AE : XBase "ArithmeticError" "ArithmeticError.__new__" "ArithmeticError.__init__" [.type "ArithmeticError", .type "Exception", .type "BaseException", .type "object"] := ⟨F.excBase_ArithmeticError, F.store_ArithmeticError.passes, by decide +kernel, rfl⟩
section
variable {B newId initId : String} {tl : List Value}
theorem refsT_pass (XB : XBase B newId initId tl) (self : Value) : ∀ l : List Value, refsT tl l = true → refuseLoop self "__setattr__" l = pure () := by
  intro l
  induction l with
  | nil =>
    intro e
    rcases refsT_cases [] e with ⟨c, r', q, h⟩ | q
    · cases q
    · rw [q]; exact XB.pass self
  | cons a r ih =>
    intro e
    rcases refsT_cases (a :: r) e with ⟨c, r', q, h⟩ | q
    · obtain ⟨rfl, rfl⟩ := List.cons.inj q
      rw [refuseLoop_ref]; exact ih h
    · rw [q]; exact XB.pass self
theorem refsT_contains (X : String) : ∀ l : List Value, refsT tl l = true → l.contains (.type X) = tl.contains (.type X) := by
  intro l
  induction l with
  | nil =>
    intro e
    rcases refsT_cases [] e with ⟨c, r', q, h⟩ | q
    · cases q
    · rw [q]
  | cons a r ih =>
    intro e
    rcases refsT_cases (a :: r) e with ⟨c, r', q, h⟩ | q
    · obtain ⟨rfl, rfl⟩ := List.cons.inj q
      rw [List.contains_cons, ih h]; rfl
    · rw [q]
theorem refsT_ne (XB : XBase B newId initId tl) {l : List Value} (e : refsT tl l = true) : l.isEmpty = false := by
  cases l with
  | nil =>
    rcases refsT_cases [] e with ⟨c, r', q, h⟩ | q
    · cases q
    · rw [q]; exact XB.ne
  | cons _ _ => rfl
end

section
open PySem.W PySem.Calls PySem.HandSPX
variable {prog : Program} {w : World} {A : Around} {E : Value → Shared → Prop} {R : Result → Shared → Prop} {hp : Heap} {g : Array GenState} {d : Drawn} {t : Nat} {os : OsState} {B newId initId : String} {tl : List Value}
theorem osa_oldT (XB : XBase B newId initId tl) {K : PySem.W.Frag} {name : Str} {tk : Tok} {v : Value} {x C dx : Addr} {fv : Array Value} {cd : ClassData} {m0 : Str → Option Value} {nl : List Str}
    (X : K.In hp) (hx : hp.get? x = some { cls := .ref C, dict := some dx, data := .fields fv }) (hns : hp.Ns1 dx m0) (hw : Within m0 nl) (hz : nl.length ≤ 1000) (hcd : PySem.W.clsIn K C = some cd) (hm : refsT tl cd.mro = true) (hh : cd.hasDict = true)
    (ha : PySem.W.findIn K (.ref C) name = some none)
    (hq : ∀ h' tk', (∀ b o, b ≠ dx → hp.get? b = some o → h'.get? b = some o) → h'.Ns1 dx (fun y => if y = name then some v else m0 y) → R (.ok (.ret .none)) ⟨h', g, d, tk', os⟩) :
    codeAny (model prog w) A (.call (.builtin "object.__setattr__") ⟨[.ref x, .str name tk, v], []⟩) R ⟨hp, g, d, t, os⟩ := by
  obtain ⟨oD, esD, epD, hoD, hdD, _⟩ := hns.count hw
  have I : PySem.W.InstAt hp x { cls := .ref C, dict := some dx, data := .fields fv } C (some oD) := ⟨hx, rfl, rfl, hoD⟩
  have SF := PySem.F.store_object
  have ne := refsT_ne XB hm
  have hob : cd.mro.contains (.type "object") = true := (refsT_contains "object" _ hm).trans XB.obj
  have sub : PySem.W.Looks (model prog w) hp (isInstance (.ref x) (.type "object")) true := I.type.andThen (PySem.W.looks_mroIn X (by unfold PySem.W.mroIn; rw [hcd, Option.bind_some, if_neg (by rw [ne]; decide), hob]))
  refine codeAny_call_builtin SF.slot.plain SF.entry (@PySem.W.check_slot (model prog w) _ _ ⟨hp, g, d, t, os⟩ "object.__setattr__" "object" "__setattr__" (.ref x) [.str name tk, v] [] _ SF.kind SF.split sub (SF.args (.ref x) (.str name tk) v) ?_)
  have hmr : PySem.W.Looks (model prog w) hp (mroOf (.ref C)) cd.mro := (PySem.W.looks_clsIn X hcd).andThen .now
  have L3 : PySem.W.Looks (model prog w) hp (storeTaker? none) none := .now
  have hcls : PySem.W.Looks (model prog w) hp (classData C) cd := PySem.W.looks_clsIn X hcd
  rw [PySem.W.osa_eq, refuse_eq]
  refine wpAny_bind (wpAny_bind (I.type.at (wpAny_bind (hmr.at ?_))))
  rw [refsT_pass XB _ _ hm]
  refine wpAny_pure (wpAny_bind (I.type.at (wpAny_bind ((PySem.W.looks_findIn X ha).at (wpAny_bind (L3.at ?_))))))
  show wpAny _ _ (storeInOwnDict (.ref x) (.ref C) (.str name tk) name v false) _ _ _
  obtain ⟨nm, bs, mro, ns, qn, hd, sn, sb, ab, col, del⟩ := cd
  dsimp only at hh
  subst hh
  unfold storeInOwnDict ownDictForStores
  repeat (first | with_reducible refine PySem.OEX.store_in_old hns hw hz ?_ | with_reducible refine wpAny_loadPart_at hx ?_ | with_reducible refine hcls.at ?_ | wp_step)
  intro h' tk' hn' hs
  exact hq h' tk' (fun b o hb ho => (hs.2 b hb).trans ho) hn'
theorem exc_osaT (XB : XBase B newId initId tl) {K : PySem.W.Frag} {name : Str} {tk : Tok} {v : Value} {x C : Addr} {fv : Array Value} {cd : ClassData}
    (X : K.In hp) (hx : hp.get? x = some { cls := .ref C, data := .fields fv }) (hcd : PySem.W.clsIn K C = some cd) (hm : refsT tl cd.mro = true) (hh : cd.hasDict = true) (ha : PySem.W.findIn K (.ref C) name = some none)
    (hq : ∀ h' tk' dx, (∀ b o, b ≠ x → hp.get? b = some o → h'.get? b = some o) → hp.objs.size ≤ dx → dx ≠ x → h'.get? x = some { cls := .ref C, dict := some dx, data := .fields fv } →
      h'.Ns1 dx (fun y => if y = name then some v else none) → R (.ok (.ret .none)) ⟨h', g, d, tk', os⟩) :
    codeAny (model prog w) A (.call (.builtin "object.__setattr__") ⟨[.ref x, .str name tk, v], []⟩) R ⟨hp, g, d, t, os⟩ := by
  have I : PySem.W.InstAt hp x { cls := .ref C, data := .fields fv } C none := ⟨hx, rfl, rfl, trivial⟩
  have SF := PySem.F.store_object
  have ne := refsT_ne XB hm
  have hob : cd.mro.contains (.type "object") = true := (refsT_contains "object" _ hm).trans XB.obj
  have hxs : x ≠ hp.objs.size := Nat.ne_of_lt (Heap.lt_size hx)
  have sub : PySem.W.Looks (model prog w) hp (isInstance (.ref x) (.type "object")) true := I.type.andThen (PySem.W.looks_mroIn X (by unfold PySem.W.mroIn; rw [hcd, Option.bind_some, if_neg (by rw [ne]; decide), hob]))
  refine codeAny_call_builtin SF.slot.plain SF.entry (@PySem.W.check_slot (model prog w) _ _ ⟨hp, g, d, t, os⟩ "object.__setattr__" "object" "__setattr__" (.ref x) [.str name tk, v] [] _ SF.kind SF.split sub (SF.args (.ref x) (.str name tk) v) ?_)
  have hmr : PySem.W.Looks (model prog w) hp (mroOf (.ref C)) cd.mro := (PySem.W.looks_clsIn X hcd).andThen .now
  have L3 : PySem.W.Looks (model prog w) hp (storeTaker? none) none := .now
  have hcls : PySem.W.Looks (model prog w) hp (classData C) cd := PySem.W.looks_clsIn X hcd
  rw [PySem.W.osa_eq, refuse_eq]
  refine wpAny_bind (wpAny_bind (I.type.at (wpAny_bind (hmr.at ?_))))
  rw [refsT_pass XB _ _ hm]
  refine wpAny_pure (wpAny_bind (I.type.at (wpAny_bind ((PySem.W.looks_findIn X ha).at (wpAny_bind (L3.at ?_))))))
  show wpAny _ _ (storeInOwnDict (.ref x) (.ref C) (.str name tk) name v false) _ _ _
  obtain ⟨nm, bs, mro, ns, qn, hd, sn, sb, ab, col, del⟩ := cd
  dsimp only at hh
  subst hh
  unfold storeInOwnDict ownDictForStores
  repeat (first | with_reducible refine store_in_new ?_ ?_ | with_reducible refine wpAny_loadPart_at hx ?_ | with_reducible refine hcls.at ?_ | wp_step)
  · exact ⟨_, #[], _, (Heap.get?_update_ne _ _ _ _ hxs.symm).trans (Heap.get?_push_at rfl rfl), rfl, fun e he => absurd he (by simp), fun _ => rfl⟩
  · intro h' tk' hn' hs
    have hx₁ : (hp.push { cls := .type "dict", data := .dict #[] }).get? x = some { cls := .ref C, data := .fields fv } := Heap.get?_push_of_some _ hx
    refine hq h' tk' hp.objs.size (fun b o hb ho => ?_) (Nat.le_refl _) hxs.symm ?_ hn'
    · exact (hs.2 b (Nat.ne_of_lt (Heap.lt_size ho))).trans ((Heap.get?_update_ne _ _ _ _ hb).trans (Heap.get?_push_of_some _ ho))
    · exact (hs.2 x hxs).trans (Heap.get?_update_self _ hx₁ rfl)
end

/-! ### an exception that is being made -/
/-- what the written part says of the class -/
structure XCls (B newId initId : String) (tl : List Value) (K : PySem.W.Frag) (C : Addr) : Prop where
  xb : XBase B newId initId tl
  cls : ∃ nm q N bs bm sn sub ab col dd k0 k1 k2 k3 k5, K.lookup C = some (excClassObj nm q C N bs bm true sn sub ab col dd k0 k1 k2 k3 k5 newId) ∧ refsT tl bm = true
  sa : PySem.W.findIn K (.ref C) "__setattr__" = some (some (.builtin "object.__setattr__"))
  exC : PySem.W.subIn K (.ref C) (.type "BaseException") = some true
  tyC : PySem.W.typeIn K (.ref C) = some (.type "type")
  kC : PySem.W.keepIn K (.ref C) = true
/-- .. for some base -/
def XC (K : PySem.W.Frag) (C : Addr) : Prop := ∃ B newId initId tl, XCls B newId initId tl K C
section
variable {X : Cx} {pins : List (Addr × Obj)} {σ : L2.St} {H : Hp} {s : Shared} {a C dx : Addr} {f : Str} {y : V} {u : Value} {fs : List (Str × V)} {Q : Unit → Shared → Prop} {E : Value → Shared → Prop} {A : Around} {B newId initId : String} {tl : List Value}
theorem xst_new (T : XCls B newId initId tl X.K C) (I : Inv X pins σ H s) (e : H a = some (exo a C none)) (hno : PySem.W.findIn X.K (.ref C) f = some none) (ry : RelV y u)
    (h : ∀ dx s', H dx = none → dx ≠ a → Inv X pins σ (upd (upd H dx (exd dx [(f, y)])) a (exo a C (some dx))) s' → Q () s') : wpAny (model X.prog X.w) A (setAttr (.ref a) f u) Q E s := by
  obtain ⟨nm, q, N, bs, bm, sn, sub, ab, col, dd, k0, k1, k2, k3, k5, hC, hbm⟩ := T.cls
  have hcl : PySem.W.clsIn X.K C = some { name := nm, bases := bs, mro := .ref C :: bm, ns := N, qualname := q, hasDict := true, slotNames := sn, subclasses := sub, abstract := ab, collection := col, hasDel := false } := by unfold PySem.W.clsIn; rw [hC] <;> rfl
  obtain ⟨t1, ho⟩ := exo_at I.hok e
  obtain ⟨hp, g, d, t, os⟩ := s
  refine PySem.W.set_plain I.kIn (ox := { cls := .ref C, dict := none, data := .fields #[.ref t1, .none, .none, .none, .bool false, .none] }) (od := none) ⟨ho, rfl, rfl, trivial⟩ T.sa ?_
  refine exc_osaT T.xb I.kIn ho hcl (show refsT tl (.ref C :: bm) = true from hbm) rfl hno (fun h' tk' dx k dn dne hx hn => ?_)
  have hnd : H dx = none := I.hok.fresh dn
  have nd : ∀ {b : Addr} {o : Obj}, hp.get? b = some o → b ≠ dx := fun {b o} q => Nat.ne_of_lt (Nat.lt_of_lt_of_le (Heap.lt_size q) dn)
  have na : ∀ {b : Addr}, H b = none → b ≠ a := fun {b} n z => by
    rw [z, e] at n
    cases n
  have Un1 : Un X.fs [] H (upd (upd H dx (exd dx [(f, y)])) a (exo a C (some dx))) hp h' := {
    keep := fun b o q n _ _ => k b o (na n) q
    slot := fun b o q n _ _ => ⟨o.slots, k b o (na n) q⟩
    free := fun b o q n _ => by rw [upd_ne (na n), upd_ne (nd q)]; exact n
    there := fun b o q _ => by
      by_cases hb : b = a
      · exact ⟨_, by rw [hb]; exact hx⟩
      · exact ⟨o, k b o hb q⟩
    tups := fun b xs q => by rw [upd_ne (at_ne e q exo_tup), upd_ne (ne_of_none q hnd)]; exact q
    frzs := fun b o v q => by rw [upd_ne (at_ne e q exo_frz), upd_ne (ne_of_none q hnd)]; exact q
    tbls := fun b ps q => ⟨#[], by rw [upd_ne (at_ne e q exo_tbl), upd_ne (ne_of_none q hnd), q]; simp⟩ }
  refine h dx _ hnd dne (I.un (t' := tk') Un1 fun b o q => ?_)
  by_cases hb : b = a
  · subst hb
    rw [upd_same] at q
    cases q
    exact exo_ok hx
  · rw [upd_ne hb] at q
    by_cases hd : b = dx
    · subst hd
      rw [upd_same] at q
      cases q
      exact exd_ok hn (relO_put (fs := []) ry fun g => True.intro)
    · rw [upd_ne hd] at q
      exact (I.hok b o q).stay (fun c v hc z => k c v (by
          rcases hc with hc | hc
          · rw [hc]
            exact hb
          · exact at_ne e hc exo_own) z)
        (fun c hc => by rw [upd_ne (at_ne e hc exo_own), upd_ne (ne_of_none hc hnd)]; exact hc) (fun c xs hc => by rw [upd_ne (at_ne e hc exo_tup), upd_ne (ne_of_none hc hnd)]; exact hc)
theorem xst_old (T : XCls B newId initId tl X.K C) (I : Inv X pins σ H s) (e : H a = some (exo a C (some dx))) (ed : H dx = some (exd dx fs)) (hl : fs.length ≤ 900) (hno : PySem.W.findIn X.K (.ref C) f = some none) (ry : RelV y u)
    (h : ∀ s', Inv X pins σ (upd H dx (exd dx ((f, y) :: fs))) s' → Q () s') : wpAny (model X.prog X.w) A (setAttr (.ref a) f u) Q E s := by
  obtain ⟨nm, q, N, bs, bm, sn, sub, ab, col, dd, k0, k1, k2, k3, k5, hC, hbm⟩ := T.cls
  have hcl : PySem.W.clsIn X.K C = some { name := nm, bases := bs, mro := .ref C :: bm, ns := N, qualname := q, hasDict := true, slotNames := sn, subclasses := sub, abstract := ab, collection := col, hasDel := false } := by unfold PySem.W.clsIn; rw [hC] <;> rfl
  obtain ⟨t1, ho⟩ := exo_at I.hok e
  obtain ⟨mA, hns, rel⟩ := exd_at I.hok ed
  have hw := within_of rel
  obtain ⟨hp, g, d, t, os⟩ := s
  obtain ⟨oD, _, _, hoD, _, _⟩ := hns.count hw
  refine PySem.W.set_plain I.kIn (ox := { cls := .ref C, dict := some dx, data := .fields #[.ref t1, .none, .none, .none, .bool false, .none] }) (od := some oD) ⟨ho, rfl, rfl, hoD⟩ T.sa ?_
  refine osa_oldT T.xb I.kIn ho hns hw (by rw [List.length_map]; omega) hcl (show refsT tl (.ref C :: bm) = true from hbm) rfl hno (fun h' tk' k hn => ?_)
  have hd : ∃ o, h'.get? dx = some o := by
    obtain ⟨o, _, _, e', _⟩ := hn
    exact ⟨o, e'⟩
  exact h _ (I.write (t' := tk') (x := dx) (e := dx) (o := exd dx ((f, y) :: fs)) (by rw [ed]; exact True.intro) (.inl rfl) k hd (exd_ok hn (relO_put ry rel)))
theorem xinit_ok {us : List Value} {Q : Value → Shared → Prop} (T : XCls B newId initId tl X.K C) (I : Inv X pins σ H s) (e : H a = some (exo a C none)) (hl : us.length ≤ sizeLine) (h : ∀ s', Inv X pins σ H s' → Q .none s') :
    wpAny (model X.prog X.w) A (call (.builtin initId) (.ref a :: us)) Q E s := by
  obtain ⟨nm, q, N, bs, bm, sn, sub, ab, col, dd, k0, k1, k2, k3, k5, hC, hbm⟩ := T.cls
  obtain ⟨t1, ho⟩ := exo_at I.hok e
  obtain ⟨hp, g, d, t, os⟩ := s
  refine wpAny_call (PySem.HandSPX.init_base T.xb.F (fun Y => refsT_contains Y bm hbm) (I.kIn _ _ hC) ho hl fun h' t2 k hx => ?_)
  have J := I.write (t' := t) (x := a) (e := a) (o := exo a C none) (by rw [e]; exact True.intro) (.inl rfl) k ⟨_, hx⟩ (exo_ok hx)
  have eu : upd H a (exo a C none) = H := by
    funext b
    by_cases hb : b = a
    · rw [hb, upd_same, e]
    · rw [upd_ne hb]
  rw [eu] at J
  exact h _ J
end

/-! ### readings and rules of such an __init__ -/
/-- Base.__init__(self, ..) -/
def tXI (K : PySem.W.Frag) (initId : String) (ta : TA) : TE := fun σ H Q => ta σ H fun vs H1 => ∃ (a C : Addr) (ws : List V) (B newId : String) (tl : List Value), vs = .ref a :: ws ∧ ws.length ≤ 1000 ∧ XCls B newId initId tl K C ∧ H1 a = some (exo a C none) ∧ Q .non H1
/-- self.f = e -/
def tXst (K : PySem.W.Frag) (f : Str) (to te : TE) : TS := fun D σ H => te σ H fun y H1 => to σ H1 fun x H2 => ∃ (a C : Addr), x = .ref a ∧ XC K C ∧ PySem.W.findIn K (.ref C) f = some none ∧
  ((H2 a = some (exo a C none) ∧ ∀ dx, H2 dx = none → dx ≠ a → D.nx σ (upd (upd H2 dx (exd dx [(f, y)])) a (exo a C (some dx)))) ∨
    ∃ (dx : Addr) (fs : List (Str × V)), H2 a = some (exo a C (some dx)) ∧ H2 dx = some (exd dx fs) ∧ fs.length ≤ 900 ∧ D.nx σ (upd H2 dx (exd dx ((f, y) :: fs))))
/-- what is behind such a call -/
def xPost (C a : Addr) (Q : VK) : VK := fun v H2 => v = .non ∧ ((H2 a = some (exo a C none) ∧ Q (.ref a) (upd H2 a (ExV a C none))) ∨
    ∃ (d : Addr) (fs : List (Str × V)), d ≠ a ∧ H2 a = some (exo a C (some d)) ∧ H2 d = some (exd d fs) ∧ Q (.ref a) (upd (upd H2 a (ExV a C (some d))) d (.xd fs)))
/-- C(e, ..) held; p: the values in the parameters' order -/
def tXm (C : Addr) (sp : Sp) (p : List V → List V) (ta : TA) : TE := fun σ H Q => ta σ H fun vs H1 => (p vs).length = vs.length ∧ vs.length ≤ 1000 ∧ ∀ a, H1 a = none → sp (.ref a :: p vs) (upd H1 a (exo a C none)) (xPost C a Q) (fun _ _ _ => False)
section
variable {X : Cx} {o e : Expr} {es : List Expr} {to te : TE} {ta : TA} {f x : Str} {p p' p1 p2 pos : Pos} {C0 : Addr} {initId : String}
theorem pe_xinit {mc : Value} {pl : Sem Bool} (hg : Gl X x) (hm : X.mg x = some (.ref C0)) (r : ClX.CRead X.K C0 mc) (vV : PySem.W.findCls X.K (.ref C0) mc "__init__" = some (.val (.builtin initId))) (ha : PA X (e :: es) ta)
    (hh : PySem.W.handedIn (.builtin initId) = true) (hdb : (x == ("__debug__" : Str)) = false := by decide)
    (hc : eval (.Call (.Attribute (.Name x p1) "__init__" p2) (e :: es) [] pos) X.env = (do
      let ov ← eval (.Name x p1) X.env
      standAt p2.atName
      let (f, first) ← holding [ov] (getMethod ov "__init__" pl)
      callWith pos f first (backTo pos (starEach (e :: es) X.env)) (backToKw pos (keywordEach [] X.env))) := by rfl)
    (he : starEach (e :: es) X.env = (false, eval e X.env) :: starEach es X.env := by rfl) (hpl : (backTo pos (starEach es X.env)).any (·.1) = false := by rfl) :
    PE X (.Call (.Attribute (.Name x p1) "__init__" p2) (e :: es) [] pos) (tXI X.K initId ta) := by
  refine ⟨fun pins s σ H Q I h => ?_⟩
  refine PySem.W.methodCall_KW (ld_glob I hg hm ?_ hdb) hc
  refine PySem.W.method_cls I.kIn r.ga (PySem.W.cls_value I.kIn r.rd vV hh ?_)
  show wpAny _ _ (callWith pos (Value.builtin initId) [] (backTo pos (starEach (e :: es) X.env)) []) _ _ _
  refine PyProof.Rows.callWith_method1 (thn (ha.run pos pins _ σ H _ (I.tok _) h) fun us s1 ⟨vs, H1, I1, r1, a, C, ws, B, newId, tl, ev, hl, T, ea, q⟩ => ?_) he hpl
  subst ev
  cases r1 with
  | @cons _ u0 _ ur ra rw' =>
    obtain rfl : u0 = Value.ref a := ra
    have hlen : ur.length ≤ sizeLine := by
      rw [← Paired.length rw', sizeLine_eq]
      omega
    exact xinit_ok T I1 ea hlen fun s' J => ⟨.non, H1, J, rfl, q⟩
theorem ps_xst (ho : PE X o to) (he : PE X e te) (hs : swapsWith e (some (.Attribute o f p')) pos.line X.env = pure false := by rfl) : PS X (.Assign [.Attribute o f p'] e pos) (tXst X.K f to te) := by
  refine ⟨fun pins s σ H D I h => ?_⟩
  refine plainObj_wpAny_Assign_Attribute (thn (he.run pins s σ H _ I h) fun v s1 ⟨y, H1, I1, r1, q1⟩ => thn (ho.run pins s1 σ H1 _ I1 q1) fun u s2 ⟨x, H2, I2, r2, a, C, ex, ⟨B, ni, ii, tl, T⟩, hno, q⟩ => ?_) hs
  subst ex
  obtain rfl : u = Value.ref a := r2
  rcases q with ⟨ea, q⟩ | ⟨dx, fs, ea, ed, hl, q⟩
  · exact xst_new T I2 ea hno r1 fun dx s' n ne J => ⟨σ, _, J, q dx n ne⟩
  · exact xst_old T I2 ea ed hl hno r1 fun s' J => ⟨σ, _, J, q⟩
theorem exV_ok {P : Program} {w : World} {H : Hp} {h : Heap} {a C : Addr} {d : Option Addr} {o : Obj} {vs : Array Value} (e : h.get? a = some o) (h1 : o.cls = .ref C) (h2 : o.dict = d) (h3 : o.data = .fields vs) : ObjOk P w H h a (ExV a C d) :=
  ⟨⟨o, vs, e, h1, h2, h3⟩, ⟨o, e⟩, fun _ _ ⟨o, v, q, r⟩ k => ⟨o, v, k o q, r⟩⟩
section
variable {CX : CXT} {x : Str} {C fI : Addr} {k n : Nat} {fd : FuncData} {ps ks : List Str} {sp : Sp} {B newId initId : String} {tl : List Value} {g : List Value → List Value → List Value} {gV : List V → List V → List V} {kws : List Keyword} {tk : TA}
theorem run_xmk {pins : List (Addr × Obj)} {σ : L2.St} {H1 : Hp} {s : Shared} {Q : VK} {us ws : List Value} {vs zs : List V} (T : XCls B newId initId tl X.K C) (iC : PySem.W.findIn X.K (.ref C) "__init__" = some (some (.ref fI))) (tI : PySem.W.typeIn X.K (.ref fI) = some (.type "function"))
    (F1 : FnOk X.prog X.w X.K X.mg X.base CX k fI fd ps sp) (hr : Room (k + 1) X.A) (hb : KBn X.K fd ps (n + 1) ks g gV) (hx : Passes CX X (fun _ _ _ => False)) (I1 : Inv X pins σ H1 s) (r1 : Vals vs us) (rz : Vals zs ws) (l1 : vs.length = n) (l2 : zs.length = ks.length) (l3 : us.length ≤ 1000)
    (q1 : ∀ a, H1 a = none → sp (gV (.ref a :: vs) zs) (upd H1 a (exo a C none)) (xPost C a Q) (fun _ _ _ => False)) :
    wpAny (model X.prog X.w) X.A (call (.ref C) us (ks.zip ws)) (EP X pins σ Q) X.xe s := by
  obtain ⟨nm, q, N, bs, bm, sn, sub, ab, col, dd, k0, k1, k2, k3, k5, hC, hbm⟩ := T.cls
  obtain ⟨hp, g', dr, tk, os⟩ := s
  have hsz : hp.objs.size ≤ hp.objs.size + 1 := Nat.le_succ _
  have hn : H1 (hp.objs.size + 1) = none := I1.hok.fresh hsz
  have hq := q1 (hp.objs.size + 1) hn
  have kk : ∀ b o, hp.get? b = some o → ((hp.push (PySem.W.kdv_tup us)).push (PySem.HandSPX.excO C hp.objs.size)).get? b = some o := fun b o e => Heap.get?_push_of_some _ (Heap.get?_push_of_some _ e)
  have hget : ((hp.push (PySem.W.kdv_tup us)).push (PySem.HandSPX.excO C hp.objs.size)).get? (hp.objs.size + 1) = some (PySem.HandSPX.excO C hp.objs.size) := by heap_get
  have I2 : Inv X pins σ (upd H1 (hp.objs.size + 1) (exo (hp.objs.size + 1) C none)) ⟨(hp.push (PySem.W.kdv_tup us)).push (PySem.HandSPX.excO C hp.objs.size), g', dr, tk, os⟩ :=
    I1.laid (t' := tk) (a := hp.objs.size + 1) (o := exo (hp.objs.size + 1) C none) (h' := (hp.push (PySem.W.kdv_tup us)).push (PySem.HandSPX.excO C hp.objs.size)) kk hsz (exo_ok hget)
  have r0 : Vals (V.ref (hp.objs.size + 1) :: vs) (Value.ref (hp.objs.size + 1) :: us) := .cons rfl r1
  have r2 := hb.rel r0 rz
  have e1 : (Value.ref (hp.objs.size + 1) :: us).length = n + 1 := r0.length.symm.trans (congrArg Nat.succ l1)
  have e2 : ws.length = ks.length := rz.length.symm.trans l2
  have hus : us.length ≤ sizeLine := by
    rw [sizeLine_eq]
    omega
  refine wpAny_call (PySem.XKW.call_kw T.xb.F (fun Y => refsT_contains Y bm hbm) (I1.kIn _ _ hC) (PySem.W.looks_findIn I1.kIn iC) (fun self => PySem.W.bind_fn I1.kIn self tI) hus
    (codeAny_mono (F1.run _ X.stack _ _ ⟨Value.ref (hp.objs.size + 1) :: us, ks.zip ws⟩ (g (Value.ref (hp.objs.size + 1) :: us) ws) _ _ (fun _ _ _ => False) (hr.make C us (ks.zip ws)) (I2.env0.make C us (ks.zip ws)) (hb.to _ (Value.ref (hp.objs.size + 1) :: us) ws I2.kIn e1 e2) r2 hq) fun r s' hq' => ?_))
  cases r with
  | error er => exact hx pins σ _ _ er s' I2 hq'
  | ok fl =>
    cases fl with
    | ret u =>
      obtain ⟨v, H2, os2, bare2, un2, hok2, rv, ev, q2⟩ := hq'
      subst ev
      obtain ⟨h2, g2, d2, t2, os'⟩ := s'
      have J : Inv X pins σ H2 ⟨h2, g2, d2, t2, os'⟩ := I2.call' (ch := []) os2 un2 hok2 bare2 (fun b z => absurd z (by simp))
      rcases q2 with ⟨ea, q2⟩ | ⟨d, fs, hda, ea, ed, q2⟩
      · obtain ⟨t0, ho⟩ := exo_at hok2 ea
        have J2 := J.write (t' := t2) (x := hp.objs.size + 1) (e := hp.objs.size + 1) (o := ExV (hp.objs.size + 1) C none) (h' := h2) (by rw [ea]; exact True.intro) (.inl rfl) (fun b u _ z => z) ⟨_, ho⟩ (exV_ok ho rfl rfl rfl)
        exact ⟨rv, .ref (hp.objs.size + 1), _, J2, rfl, q2⟩
      · obtain ⟨t0, ho⟩ := exo_at hok2 ea
        obtain ⟨mA, hns, rel⟩ := exd_at hok2 ed
        have J2 := J.write (t' := t2) (x := hp.objs.size + 1) (e := hp.objs.size + 1) (o := ExV (hp.objs.size + 1) C (some d)) (h' := h2) (by rw [ea]; exact True.intro) (.inl rfl) (fun b u _ z => z) ⟨_, ho⟩ (exV_ok ho rfl rfl rfl)
        have hd : ∃ o, h2.get? d = some o := by
          obtain ⟨o, _, _, e', _⟩ := hns
          exact ⟨o, e'⟩
        have J3 := J2.write (t' := t2) (x := d) (e := d) (o := .xd fs) (h' := h2) (by rw [upd_ne hda, ed]; exact True.intro) (.inl rfl) (fun b u _ z => z) hd ⟨mA, hns, rel⟩
        exact ⟨rv, .ref (hp.objs.size + 1), _, J3, rfl, q2⟩
    | next => exact False.elim hq'
    | brk => exact False.elim hq'
    | cont => exact False.elim hq'
/-- C(e, ..) -/
theorem pe_xm (T : XCls B newId initId tl X.K C) (iC : PySem.W.findIn X.K (.ref C) "__init__" = some (some (.ref fI))) (tI : PySem.W.typeIn X.K (.ref fI) = some (.type "function"))
    (F1 : FnOk X.prog X.w X.K X.mg X.base CX k fI fd ps sp) (hr : Room (k + 1) X.A) (hb : Binds X.K fd ps []) (hx : Passes CX X (fun _ _ _ => False)) (hg : Gl X x) (hm : X.mg x = some (.ref C)) (ha : PA X (e :: es) ta)
    (hdb : (x == ("__debug__" : Str)) = false := by decide) (he : starEach (e :: es) X.env = (false, eval e X.env) :: starEach es X.env := by rfl) (hpl : (backTo pos (starEach es X.env)).any (·.1) = false := by rfl) :
    PE X (.Call (.Name x p) (e :: es) [] pos) (tXm C sp id ta) := by
  refine ⟨fun pins s σ H Q I h => ?_⟩
  refine wpAny_Call_Name_kw (ld_glob I hg hm ?_ hdb)
  refine PySem.W.callWith_K (h₀ := X.base) I.ok.mod.kin T.kC (thn (ha.run pos pins s σ H _ I h) fun us s1 ⟨vs, H1, I1, r1, _, hz, q1⟩ => ⟨I1.kIn, ?_⟩) he hpl
  have hl : ps.length = vs.length + 1 := by
    have := F1.len _ _ _ _ (q1 s1.heap.objs.size (I1.hok.fresh (Nat.le_refl _)))
    simpa using this.symm
  refine run_xmk (n := vs.length) (ks := []) (ws := []) (zs := []) (g := fun us _ => us) (gV := fun vs _ => vs) T iC tI F1 hr ⟨fun s us ws X l1 l2 => ?_, fun r _ => r⟩ hx I1 r1 .nil rfl rfl (by show us.length ≤ 1000; rw [← r1.length]; exact hz) q1
  have := hb s us X (by rw [List.append_nil, l1, hl])
  rw [List.append_nil] at this
  exact this
/-- C(k = v, ..) or C() -/
theorem pe_xmK {p' : List V → List V} {q' : List Value → List Value} (T : XCls B newId initId tl X.K C) (iC : PySem.W.findIn X.K (.ref C) "__init__" = some (some (.ref fI))) (tI : PySem.W.typeIn X.K (.ref fI) = some (.type "function"))
    (F1 : FnOk X.prog X.w X.K X.mg X.base CX k fI fd ps sp) (hr : Room (k + 1) X.A) (hb : KBn X.K fd ps 1 ks (fun us ws => us ++ q' ws) (fun vs zs => vs ++ p' zs)) (hx : Passes CX X (fun _ _ _ => False)) (hg : Gl X x) (hm : X.mg x = some (.ref C)) (hkw : PK X kws tk) (hps : ps.length = ks.length + 1)
    (hall : (backToKw pos (keywordEach kws X.env)).all (·.1.isSome) = true := by rfl) (hks : (backToKw pos (keywordEach kws X.env)).filterMap (·.1) = ks := by rfl) (hdb : (x == ("__debug__" : Str)) = false := by decide)
    (hpl : ((backTo pos (starEach [] X.env)).any (·.1) || (backToKw pos (keywordEach kws X.env)).any (·.1.isNone)) = false := by rfl) :
    PE X (.Call (.Name x p) [] kws pos) (tXm C sp p' tk) := by
  refine ⟨fun pins s σ H Q I h => ?_⟩
  refine wpAny_Call_Name_kw (ld_glob I hg hm ?_ hdb)
  refine PySem.W.callWith_KW0 (h₀ := X.base) I.ok.mod.kin T.kC hall ?_ hpl
  refine thn (hkw.run pos pins s σ H _ I h) fun ws s2 ⟨zs, H2, I2, rz, l2, hz, q2⟩ => ⟨I2.kIn, ?_⟩
  rw [hks]
  have hl : ks.length = zs.length := by
    have := F1.len _ _ _ _ (q2 s2.heap.objs.size (I2.hok.fresh (Nat.le_refl _)))
    rw [List.length_cons, l2] at this
    omega
  exact run_xmk (n := 0) (us := []) (vs := []) T iC tI F1 hr hb hx I2 .nil rz rfl hl.symm (by decide) q2
end
end
end Ws
set_option Elab.async false
set_option linter.all false
set_option maxRecDepth 100000
set_option maxHeartbeats 2000000
/-! Ws13: exceptions as data: made, read, asked for their class. -/
namespace Ws
open PySem PySem.Spec PyProof.Rows L2

def mkF {α : Type} (names : List Str) (ys : List α) : Option (List (Str × α)) := if ys.length = names.length then some ((names.zip ys).reverse) else none
def spInit (C : Addr) (names : List Str) : Sp := fun vs H Q _ => ∃ (a : Addr) (ys : List V) (fs : List (Str × V)), vs = .ref a :: ys ∧ H a = some (exo a C none) ∧ mkF names ys = some fs ∧
  ((fs = [] ∧ Q .non H) ∨ (fs ≠ [] ∧ ∀ dx, H dx = none → dx ≠ a → Q .non (upd (upd H dx (exd dx fs)) a (exo a C (some dx)))))
def revIf {α : Type} (rev : Bool) (l : List α) : List α := if rev = true then l.reverse else l
theorem revIf_length {α : Type} {rev : Bool} {l : List α} : (revIf rev l).length = l.length := by
  unfold revIf
  split <;> simp
def dXm (c : Nat) (names : List Str) (rev : Bool) (d : Den (List D)) : Den Rv := fun ρ => (d ρ).bind fun r => (mkF names (revIf rev r.1)).map fun gs => (.val (.leaf (.exc c gs)), r.2)
section
variable {w : World} {K : PySem.W.Frag} {cl : Nat → Addr} {M : Addr → Prop} {H : Hp}
theorem isF_snoc {fs : List (Str × V)} {gs : List (Str × D)} {f : Str} {v : V} {d : D} (h : IsF w K cl M H fs gs) (i : Is w K cl M H v d) : IsF w K cl M H (fs ++ [(f, v)]) (gs ++ [(f, d)]) := by
  induction fs generalizing gs with
  | nil =>
    cases h
    exact .cons i .nil
  | cons p fs ih =>
    cases h with
    | cons a t => exact .cons a (ih t)
theorem isF_rev {fs : List (Str × V)} {gs : List (Str × D)} (h : IsF w K cl M H fs gs) : IsF w K cl M H fs.reverse gs.reverse := by
  induction fs generalizing gs with
  | nil =>
    cases h
    exact .nil
  | cons p fs ih =>
    cases h with
    | cons a t =>
      rw [List.reverse_cons, List.reverse_cons]
      exact isF_snoc (ih t) a
theorem isF_zip : ∀ {names : List Str} {vs : List V} {ds : List D}, IsL w K cl M H vs ds → IsF w K cl M H (names.zip vs) (names.zip ds)
  | [], _, _, _ => by simp only [List.zip_nil_left]; exact .nil
  | _ :: _, _, _, .nil => by simp only [List.zip_nil_right]; exact .nil
  | n :: names, _, _, .cons a t => by simp only [List.zip_cons_cons]; exact .cons a (isF_zip t)
theorem mkF_is {names : List Str} {vs : List V} {ds : List D} {gs : List (Str × D)} (h : IsL w K cl M H vs ds) (e : mkF names ds = some gs) : ∃ fs, mkF names vs = some fs ∧ IsF w K cl M H fs gs := by
  unfold mkF at e ⊢
  by_cases c : ds.length = names.length
  · rw [if_pos c] at e
    cases e
    refine ⟨_, if_pos (by rw [h.length]; exact c), isF_rev (isF_zip h)⟩
  · rw [if_neg c] at e
    cases e
theorem isL_revIf {vs : List V} {ds : List D} {rev : Bool} (h : IsL w K cl M H vs ds) : IsL w K cl M H (revIf rev vs) (revIf rev ds) := by
  unfold revIf
  split
  · exact h.reverse
  · exact h
end
theorem upd_upd {H : Hp} {a : Addr} {o o' : HO} : upd (upd H a o) a o' = upd H a o' := by
  funext b
  by_cases e : b = a
  · rw [e, upd_same, upd_same]
  · rw [upd_ne e, upd_ne e, upd_ne e]
theorem upd_five {H : Hp} {a b : Addr} {o1 o2 o3 o4 o5 : HO} (h : b ≠ a) : upd (upd (upd (upd (upd H a o1) b o2) a o3) a o4) b o5 = upd (upd H b o5) a o4 := by
  funext c
  by_cases e : c = a
  · subst e
    rw [upd_ne (Ne.symm h), upd_same, upd_same]
  · by_cases e2 : c = b
    · subst e2
      rw [upd_same, upd_ne e, upd_same]
    · rw [upd_ne e2, upd_ne e, upd_ne e, upd_ne e2, upd_ne e, upd_ne e, upd_ne e2]
theorem dXm_imp {w : World} {K : PySem.W.Frag} {cl : Nat → Addr} {c : Nat} {C : Addr} {names : List Str} {rev : Bool} {d : Den (List D)} {σ : L2.St} {H : Hp} {Q : VK} (hC : cl c = C) (hn : names.length ≤ 1000) (h : tD w K cl (dXm c names rev d) σ H Q) : tXm C (spInit C names) (revIf rev) (tSA w K cl d) σ H Q := by
  obtain ⟨M, ρ, f, rv, ρ', rs, hd, k⟩ := h
  obtain ⟨⟨ds, ρ1⟩, h1, hd⟩ := Option.bind_eq_some_iff.mp hd
  obtain ⟨gs, h2, hd⟩ := Option.map_eq_some_iff.mp hd
  cases hd
  refine ⟨M, ρ, f, ds, ρ1, rs, h1, fun vs M1 H1 f1 rs1 is1 st1 => ?_⟩
  obtain ⟨fs, h3, if3⟩ := mkF_is (isL_revIf (rev := rev) is1) h2
  have hl : vs.length = names.length := by
    unfold mkF at h3
    by_cases c : (revIf rev vs).length = names.length
    · rw [← c, revIf_length]
    · rw [if_neg c] at h3
      cases h3
  refine ⟨revIf_length, by omega, fun a na => ⟨a, _, fs, rfl, upd_same, h3, ?_⟩⟩
  subst hC
  by_cases e : fs = []
  · refine .inl ⟨e, rfl, .inl ⟨upd_same, ?_⟩⟩
    rw [upd_upd]
    have r2 := rs1.new na (ExV a (cl c) none)
    exact k _ _ _ _ [] r2.1 (rvB (.exc upd_same (notM_new na rs1.trk) (.inl ⟨rfl, e⟩) (if3.stay (ext_new na rs1.trk)))) (st1.trans rs.trk r2.2)
  · refine .inr ⟨e, fun dx n0 ne => ⟨rfl, .inr ⟨dx, fs, ne, upd_same, by rw [upd_ne ne, upd_same], ?_⟩⟩⟩
    rw [upd_five ne]
    have nd : H1 dx = none := by rw [upd_ne ne] at n0; exact n0
    have r2 := rs1.new nd (.xd fs)
    have na2 : upd H1 dx (.xd fs) a = none := by rw [upd_ne (Ne.symm ne)]; exact na
    have r3 := r2.1.new na2 (ExV a (cl c) (some dx))
    have x1 := ext_new (o := HO.xd fs) nd rs1.trk
    have x2 := ext_new (o := ExV a (cl c) (some dx)) na2 r2.1.trk
    exact k _ _ _ _ [] r3.1 (rvB (.exc upd_same (notM_new na2 r2.1.trk) (.inr ⟨dx, rfl, by rw [upd_ne ne, upd_same], notM_new nd rs1.trk⟩) ((if3.stay x1).stay x2))) ((st1.trans rs.trk r2.2).trans rs.trk r3.2)
section
variable {cl : Nat → Addr} {X : Cx} {k : Nat} {fI C : Addr} {c : Nat} {fd : FuncData} {ps ks names : List Str} {x m : Str} {p pos apos kpos : Pos} {e o : Expr} {es : List Expr} {kws : List Keyword} {dr : Den (List D)} {d : Den Rv} {nm : Option Str}
theorem dk_nil : PK X [] (tSA X.w X.K cl dNil) := ⟨fun pos pins s σ H Q I h => pk_nil.run pos pins s σ H Q I (by
  obtain ⟨M, ρ, f, ds, ρ', rs, hd, k⟩ := h
  cases hd
  exact k [] M H f rs .nil Step.refl)⟩
theorem dk_cons {r : Den (List D)} (ha : DE cl X e d) (hr : PK X kws (tSA X.w X.K cl r)) : PK X (⟨nm, e, kpos⟩ :: kws) (tSA X.w X.K cl (dCons d r)) := ⟨fun pos pins s σ H Q I h => (pk_cons (nm := nm) (kpos := kpos) (de_sh ha) hr).run pos pins s σ H Q I (by
  obtain ⟨M, ρ, f, ds, ρ', rs, hd, k⟩ := h
  obtain ⟨⟨x, ρ1⟩, h1, hd⟩ := Option.bind_eq_some_iff.mp hd
  obtain ⟨⟨y, ρ2⟩, h2, hd⟩ := Option.map_eq_some_iff.mp hd
  cases hd
  refine ⟨M, ρ, f, x, ρ1, rs, h1, fun v M1 H1 f1 rs1 is1 st1 => ⟨M1, ρ1, f1, y, ρ2, rs1, h2, fun vs M2 H2 f2 rs2 is2 st2 => ?_⟩⟩
  exact k (v :: vs) M2 H2 f2 rs2 (.cons (is1.stay (rs1.ext st2)) is2) (st1.trans rs.trk st2))⟩
/-- all that is asked of a class of exceptions, so that its calls can be made -/
structure XMk (K : PySem.W.Frag) (C : Addr) (fI : Addr) : Prop where
  t : XC K C
  iC : PySem.W.findIn K (.ref C) "__init__" = some (some (.ref fI))
  tI : PySem.W.typeIn K (.ref fI) = some (.type "function")
theorem de_xm (hC : cl c = C) (hn : names.length ≤ 1000) (T : XMk X.K C fI) (F1 : FnOk X.prog X.w X.K X.mg X.base CX0 k fI fd ps (spInit C names)) (hr : Room (k + 1) X.A) (hb : Binds X.K fd ps []) (hg : Gl X x) (hm : X.mg x = some (.ref C)) (ha : DA cl X (e :: es) dr)
    (hdb : (x == ("__debug__" : Str)) = false := by decide) (he : starEach (e :: es) X.env = (false, eval e X.env) :: starEach es X.env := by rfl) (hpl : (backTo pos (starEach es X.env)).any (·.1) = false := by rfl) :
    DE cl X (.Call (.Name x p) (e :: es) [] pos) (dXm c names false dr) := by
  obtain ⟨B, ni, ii, tl, T1⟩ := T.t
  exact pe_imp (pe_xm T1 T.iC T.tI F1 hr hb pass0 hg hm ha hdb he hpl) fun σ H Q h => dXm_imp (rev := false) hC hn h
theorem de_xmK {rev : Bool} (hC : cl c = C) (hn : names.length ≤ 1000) (T : XMk X.K C fI) (F1 : FnOk X.prog X.w X.K X.mg X.base CX0 k fI fd ps (spInit C names)) (hr : Room (k + 1) X.A) (hb : KBn X.K fd ps 1 ks (fun us ws => us ++ revIf rev ws) (fun vs zs => vs ++ revIf rev zs)) (hg : Gl X x) (hm : X.mg x = some (.ref C)) (hkw : PK X kws (tSA X.w X.K cl dr)) (hps : ps.length = ks.length + 1)
    (hall : (backToKw pos (keywordEach kws X.env)).all (·.1.isSome) = true := by rfl) (hks : (backToKw pos (keywordEach kws X.env)).filterMap (·.1) = ks := by rfl) (hdb : (x == ("__debug__" : Str)) = false := by decide)
    (hpl : ((backTo pos (starEach [] X.env)).any (·.1) || (backToKw pos (keywordEach kws X.env)).any (·.1.isNone)) = false := by rfl) :
    DE cl X (.Call (.Name x p) [] kws pos) (dXm c names rev dr) := by
  obtain ⟨B, ni, ii, tl, T1⟩ := T.t
  exact pe_imp (pe_xmK (p' := revIf rev) (q' := revIf rev) T1 T.iC T.tI F1 hr hb pass0 hg hm hkw hps hall hks hdb hpl) fun σ H Q h => dXm_imp hC hn h

end

/-! ### reading a field of an exception -/
theorem exV_at {P : Program} {w : World} {H : Hp} {h : Heap} {a C : Addr} {d : Option Addr} (hok : HOk P w H h) (he : H a = some (ExV a C d)) : ∃ (o : Obj) (vs : Array Value), h.get? a = some o ∧ o.cls = .ref C ∧ o.dict = d ∧ o.data = .fields vs := by
  obtain ⟨h1, _, _⟩ := hok a _ he
  exact h1
def tXfV (K : PySem.W.Frag) (n : Str) (te : TE) : TE := fun σ H Q => te σ H fun x H1 => ∃ (a C dd : Addr) (fs : List (Str × V)) (v : V), x = .ref a ∧ H1 a = some (ExV a C (some dd)) ∧ XfC K C ∧ PySem.W.findIn K (.ref C) n = some none ∧ H1 dd = some (.xd fs) ∧ fs.lookup n = some v ∧ Q v H1
section
variable {cl : Nat → Addr} {X : Cx} {e o : Expr} {te : TE} {n : Str} {pos p : Pos} {d : Den Rv}
theorem pe_xfV (he : PE X e te) (hb : attributeBase e n X.env (eval e X.env) = eval e X.env := by rfl) : PE X (.Attribute e n pos) (tXfV X.K n te) := by
  refine ⟨fun pins s σ H Q I h => ?_⟩
  refine attr_of hb (thn (he.run pins s σ H _ I h) fun u s1 hh => ?_)
  obtain ⟨x, H1, I1, rx, a, C, dd, fs, v, ex, ea, T, hno, ed, l, q⟩ := hh
  subst ex
  obtain rfl : u = Value.ref a := rx
  obtain ⟨oe, vs, ha, h1, h2, hd⟩ := exV_at I1.hok ea
  have hx : ObjOk X.prog X.w H1 s1.heap dd (.xd fs) := I1.hok dd _ ed
  obtain ⟨mA, hns, hr⟩ := hx
  obtain ⟨od, ho, hl⟩ := lookIn_ns hns
  obtain ⟨u, hu, ru⟩ := RelO.some_of (v := v) (o := mA n) (by rw [← l]; exact hr n)
  have J : PySem.W.InstAt s1.heap a oe C (some od) := ⟨ha, h1, by unfold PySem.W.notCls; rw [hd] <;> rfl, by rw [h2]; exact ho⟩
  exact PySem.HandSPX.exc_get I1.kIn J T.ga T.gg T.exC (PySem.W.findObj_own T.hdC hno rfl (by rw [hl, hu])) (handed_of ru) ⟨v, H1, I1.tok _, ru, q⟩
def dXf (f : Str) (ok : Nat → Bool) (d : Den Rv) : Den Rv := fun ρ => (d ρ).bind fun r => match r.1 with
  | .val (.leaf (.exc c gs)) => if ok c = true then (gs.lookup f).map fun x => (.val (.leaf x), r.2) else Option.none
  | _ => Option.none
/-- e.f; ok c: the class c has no f of its own -/
theorem de_xf {ok : Nat → Bool} (hok : ∀ c, ok c = true → XfC X.K (cl c) ∧ PySem.W.findIn X.K (.ref (cl c)) n = some none) (he : DE cl X e d) (hb : attributeBase e n X.env (eval e X.env) = eval e X.env := by rfl) : DE cl X (.Attribute e n pos) (dXf n ok d) := pe_imp (pe_xfV he hb) fun σ H Q ⟨M, ρ, f, rv, ρ', rs, hd, k⟩ => by
  obtain ⟨⟨r, ρ1⟩, h1, hd⟩ := Option.bind_eq_some_iff.mp hd
  dsimp only at hd
  split at hd
  · rename_i c gs
    by_cases q : ok c = true
    · rw [if_pos q] at hd
      obtain ⟨x, h2, hd⟩ := Option.map_eq_some_iff.mp hd
      cases hd
      refine ⟨M, ρ, f, _, _, rs, h1, fun v M1 H1 f1 fw rs1 ok1 st1 => ?_⟩
      obtain ⟨wi, nd, qq⟩ := ok1
      cases wi with
      | leaf is =>
        cases is with
        | exc e1 e2 e3 e4 =>
          obtain ⟨v, l, iv⟩ := isF_get e4 h2
          rcases e3 with ⟨_, z⟩ | ⟨dx, z1, z2, z3⟩
          · subst z
            cases l
          · subst z1
            exact ⟨_, _, dx, _, v, rfl, e1, (hok c q).1, (hok c q).2, z2, l, k v M1 H1 f1 [] rs1 (rvB iv) st1⟩
    · rw [if_neg q] at hd
      cases hd
  · cases hd

/-! ### isinstance of exceptions -/
/-- what isinstance asks -/
structure XIs (K : PySem.W.Frag) (C : Addr) : Prop where
  cl : (PySem.W.clsIn K C).isSome = true
  ga : PySem.W.findIn K (.ref C) "__getattribute__" = some (some (.builtin "BaseException.__getattribute__"))
  gg : PySem.W.findIn K (.ref C) "__getattr__" = some none
  ex : PySem.W.subIn K (.ref C) (.type "BaseException") = some true
  ca : PySem.W.findIn K (.ref C) "__class__" = some (some (.builtin "object.__class__"))
  cg : PySem.W.specialIn K (.builtin "object.__class__") "__get__" = some (some (.builtin "getset_descriptor.__get__"))
  ct : PySem.W.takesIn K (.builtin "object.__class__") = some true
  mo : PySem.W.mroIn K C (.type "object") = some true
def rIsX (w : World) (K : PySem.W.Frag) (cl : Nat → Addr) (cv : Value) (g : Nat → Option Bool) : List V → Hp → VK → Prop := fun xs H Q => ∃ (x c : V) (i : Nat) (gs : List (Str × D)) (b : Bool), xs = [x, c] ∧ Is w K cl noM H x (.exc i gs) ∧ (∀ u, RelV c u → u = cv) ∧ g i = some b ∧ Q (.bl b) H
theorem call_isX {cv : Value} {g : Nat → Option Bool} (hg : ∀ i b, g i = some b → XIs X.K (cl i) ∧ PySem.W.kitOne X.K (.ref (cl i)) cv = some b) : CallR X (.builtin "isinstance") (rIsX X.w X.K cl cv g) := by
  intro pins s σ H xs us Q I r h
  obtain ⟨x, c, i, gs, b, rfl, is, hcv, e, q⟩ := h
  cases r with
  | cons rx rr =>
    cases rr with
    | cons rt rr =>
      cases rr
      cases is with
      | @exc a _ _ _ _ e1 e2 e3 e4 =>
        cases rx
        have ec := hcv _ rt
        subst ec
        obtain ⟨T, hk⟩ := hg i b e
        obtain ⟨oe, vs, ha, h1, h2, hd⟩ := exV_at I.hok e1
        have hno : PySem.W.notCls oe = true := by unfold PySem.W.notCls; rw [hd] <;> rfl
        have J : ∃ od, PySem.W.InstAt s.heap a oe (cl i) od := by
          rcases e3 with ⟨z, _⟩ | ⟨dx, z1, z2, z3⟩
          · exact ⟨none, ha, h1, hno, by rw [h2, z]; trivial⟩
          · obtain ⟨mA, hns, hr⟩ : ObjOk X.prog X.w H s.heap dx (.xd _) := I.hok dx _ z2
            obtain ⟨od, ho, hl⟩ := lookIn_ns hns
            exact ⟨some od, ha, h1, hno, by rw [h2, z1]; exact ho⟩
        obtain ⟨od, J⟩ := J
        exact PySem.W.kia_one (PySem.W.kitx_exc (x := a) (ox := oe) (od := od) T.cl T.ga T.gg T.ex T.ca T.cg T.ct T.mo) I.kIn J hk (fun z => nomatch z) fun tk => ⟨.bl b, H, I.kept (t' := tk) fun _ _ z => z, rfl, q⟩
def dIsX (g : Nat → Option Bool) (d : Den Rv) : Den Rv := fun ρ => (d ρ).bind fun r => (viewR r.2 r.1).bind fun y => match y with
  | .exc c _ => (g c).map fun b => (.val (.leaf (.bool b)), r.2)
  | _ => Option.none
theorem dIsX_imp {w : World} {K : PySem.W.Frag} {cv : Value} {vc : V} {g : Nat → Option Bool} {σ : L2.St} {H : Hp} {Q : VK} (hcv : ∀ u, RelV vc u → u = cv) (h : tD w K cl (dIsX g d) σ H Q) : tCB (rIsX w K cl cv g) (tCons (tD w K cl d) (tCons (tC vc) tNil)) σ H Q := by
  obtain ⟨M, ρ, f, rv, ρ', rs, hd, k⟩ := h
  obtain ⟨⟨r, ρ1⟩, h1, hd⟩ := Option.bind_eq_some_iff.mp hd
  obtain ⟨y, h2, hd⟩ := Option.bind_eq_some_iff.mp hd
  dsimp only at hd
  split at hd
  · rename_i c gs
    obtain ⟨b, h3, hd⟩ := Option.map_eq_some_iff.mp hd
    cases hd
    exact ⟨M, ρ, f, _, _, rs, h1, fun v M1 H1 f1 fw rs1 ok1 st1 => ⟨v, vc, c, gs, b, rfl, ok1.view rs1 h2, hcv, h3, k (.bl b) M1 H1 f1 [] rs1 (rvB (.bl b)) st1⟩⟩
  · cases hd
/-- isinstance(e, C), C an own class -/
theorem de_isX {x : Str} {C : Addr} {p1 p2 : Pos} {g : Nat → Option Bool} (hg : ∀ i b, g i = some b → XIs X.K (cl i) ∧ PySem.W.kitOne X.K (.ref (cl i)) (.ref C) = some b) (hI : Gl X "isinstance") (hmI : X.mg "isinstance" = none) (hx : Gl X x) (hmx : X.mg x = some (.ref C)) (he : DE cl X e d)
    (hdx : (x == ("__debug__" : Str)) = false := by decide)
    (s1 : starEach [e, .Name x p2] X.env = (false, eval e X.env) :: starEach [.Name x p2] X.env := by rfl) (s2 : starEach [.Name x p2] X.env = (false, eval (.Name x p2) X.env) :: starEach [] X.env := by rfl) (hpl : (backTo pos (starEach [.Name x p2] X.env)).any (·.1) = false := by rfl) :
    DE cl X (.Call (.Name "isinstance" p1) [e, .Name x p2] [] pos) (dIsX g d) :=
  pe_imp (pe_callB (call_isX hg) hI hmI PyProof.Rows.Boot.«isinstance» (pa_cons he (pa_cons (pe_glob (v := .ref C) hx hmx rfl hdx) pa_nil s2) s1) (by decide) (by decide) s1 hpl) fun σ H Q h => dIsX_imp (fun u r => r) h
/-- isinstance(e, T), T built in -/
theorem de_isXT {x : Str} {T : String} {p1 p2 : Pos} {g : Nat → Option Bool} (hg : ∀ i b, g i = some b → XIs X.K (cl i) ∧ PySem.W.kitOne X.K (.ref (cl i)) (.type T) = some b) (hI : Gl X "isinstance") (hmI : X.mg "isinstance" = none) (hx : Gl X x) (hmx : X.mg x = none) (hb : bootBuiltins x = some (.type T)) (he : DE cl X e d)
    (hn : x ≠ "__name__" := by decide) (hdx : (x == ("__debug__" : Str)) = false := by decide)
    (s1 : starEach [e, .Name x p2] X.env = (false, eval e X.env) :: starEach [.Name x p2] X.env := by rfl) (s2 : starEach [.Name x p2] X.env = (false, eval (.Name x p2) X.env) :: starEach [] X.env := by rfl) (hpl : (backTo pos (starEach [.Name x p2] X.env)).any (·.1) = false := by rfl) :
    DE cl X (.Call (.Name "isinstance" p1) [e, .Name x p2] [] pos) (dIsX g d) :=
  pe_imp (pe_callB (call_isX hg) hI hmI PyProof.Rows.Boot.«isinstance» (pa_cons he (pa_cons (pe_bltn (v := .ty T) hx hmx hb rfl hn hdx) pa_nil s2) s1) (by decide) (by decide) s1 hpl) fun σ H Q h => dIsX_imp (fun u r => r) h
end
end Ws
set_option Elab.async false
set_option linter.all false
set_option maxRecDepth 100000
set_option maxHeartbeats 2000000
/-! Ws14: defs that are called where no repr is under way. -/
namespace Ws
open PySem PySem.Spec PyProof.Rows L2
/-- .. where no repr is under way; c: nothing is handled -/
structure RoomG (c : Bool) (k : Nat) (A : Around) : Prop where
  hd : c = true → A.handled = none
  dp : A.depth + 3 * k + 5 < recursionLimit
  un : A.units + 16 * k + 200 < cLine
  g : A.guards = some []
theorem RoomG.mono {c : Bool} {j k : Nat} {A : Around} (h : RoomG c k A) (l : j ≤ k) : RoomG c j A := ⟨h.hd, by have := h.dp; omega, by have := h.un; omega, h.g⟩
theorem RoomG.deeper {c : Bool} {k : Nat} {A : Around} (h : RoomG c (k + 1) A) (env : PySem.Env) : RoomG c k (A.deeper env) :=
  ⟨h.hd, by have := h.dp; show A.depth + 1 + 3 * k + 5 < _; omega, by have := h.un; show A.units + 3 + 16 * k + 200 < _; omega, by
  have := h.g
  simpa [Around.deeper, Around.under] using this⟩
theorem RoomG.off {c : Bool} {k : Nat} {A : Around} (h : RoomG c k A) : RoomG false k A := ⟨fun z => absurd z Bool.false_ne_true, h.dp, h.un, h.g⟩
theorem RoomG.mark {c : Bool} {k : Nat} {A : Around} (h : RoomG c k A) (e : Option Value) : RoomG false k (A.mark e) := ⟨fun z => absurd z Bool.false_ne_true, h.dp, h.un, h.g⟩
theorem RoomG.depth {c : Bool} {k : Nat} {A : Around} (r : RoomG c k A) : A.depth < recursionLimit := by have := r.dp; omega
theorem RoomG.r {k : Nat} {A : Around} (h : RoomG true k A) : Room k A := ⟨h.hd rfl, h.dp, h.un⟩
theorem roomG_of {k : Nat} {A : Around} (h : Room k A) (g : A.guards = some []) : RoomG true k A := ⟨fun _ => h.hd, h.dp, h.un, g⟩
/-- a def's context, c: nothing is handled -/
abbrev cxC (c : Bool) (CX : CXT) (P : Program) (w : World) (K : PySem.W.Frag) (mg : Str → Option Value) (base : Heap) (N : List Str) (qual : Str) (scope : Scope) (f : Addr) (cd : Value) (A : Around) (outer : List PySem.Env) (s : Shared) (H : Hp) (E : XK) : Cx :=
  { cxOf CX P w K mg base N qual scope f cd A outer s H E with calm := c }
theorem inv_startC {c : Bool} {CX : CXT} {P : Program} {w : World} {K : PySem.W.Frag} {mg : Str → Option Value} {base : Heap} {N ps : List Str} {qual : Str} {scope : Scope} {f : Addr} {cd : Value} {A : Around} {outer : List PySem.Env} {s s1 : Shared} {H : Hp} {E : XK} {us : List Value} {vs : List V}
    (S : FnScope N ps scope) (hd : c = true → A.handled = none) (e0 : Env0 P w K mg base A outer s H) (hl : vs.length = ps.length) (r : Vals vs us)
    (x : InCallC s s.heap.objs.size (bindL (envOfC qual scope s.heap.objs.size f cd).kindOf (ps.zip us) fun _ => none) (cellsFrom (s.heap.objs.size + 1) scope.names []) (bindC (envOfC qual scope s.heap.objs.size f cd).kindOf (ps.zip us) fun _ => none) s1) :
    Inv (cxC c CX P w K mg base N qual scope f cd A outer s H E) [] (start N vs) H s1 := by
  have hpl : ps.length ≤ N.length := by have := congrArg List.length S.pre; rw [List.length_take] at this; omega
  obtain ⟨h1, tk, rfl, hk⟩ := x.done
  have noA : ∀ b : Addr, b ∉ (cxC c CX P w K mg base N qual scope f cd A outer s H E).ex := fun b z => absurd (show b ∈ ([] : List Addr) from z) (by simp)
  refine ⟨⟨e0.mod, S.kind, rfl, rfl, Nat.le_refl _, fun y z c h1 h2 => ?_, fun y hy => ?_, fun y c _ h => ?_, hd, Around.frames_deeper e0.frames, .inr ⟨rfl, rfl⟩, fun b z => absurd z (noA b), e0.bs, e0.bsz, fun b _ _ => noA b, fun b z => absurd z (noA b), e0.funs, e0.frf⟩,
    rfl, e0.bare, Un.kept hk, ⟨_, x.toInCall.ns, fun i y v h1 h2 h3 => ?_⟩, fun y c h => ⟨_, x.cell y c h⟩, e0.hok.fresh (Nat.le_refl _), fun y c h => ?_, fun p hp => absurd (show p ∈ ([] : List (Addr × Obj)) from hp) (by simp), e0.hok.kept hk, ?_⟩
  · exact name_of_addr x.apart (PySem.mem_of_lookup h1) (PySem.mem_of_lookup h2)
  · have hy : scope.names.lookup y = some .cell ∨ scope.names.lookup y = some .free := hy
    rcases hy with hy | hy
    · exact cell_has hy
    · exact absurd rfl (S.nofree _ (PySem.mem_of_lookup hy))
  · exact Nat.le_of_lt (x.above y c (PySem.mem_of_lookup h))
  · have hi : i < vs.length := by
      unfold L2.start at h2
      by_cases hi : i < vs.length
      · exact hi
      · rw [List.getElem?_append_right (by simpa using hi)] at h2
        rw [List.getElem?_replicate] at h2
        split at h2 <;> cases h2
    have ha : vs[i]? = some v := by
      unfold L2.start at h2
      rw [List.getElem?_append_left (by simpa using hi), List.getElem?_map] at h2
      cases e : vs[i]? with
      | none => rw [e] at h2; cases h2
      | some a => rw [e] at h2; cases h2; rfl
    obtain ⟨u, hu, rv⟩ := r.get ha
    have hp : ps[i]? = some y := by
      rw [← S.pre, List.getElem?_take_of_lt (by omega)]; exact h1
    have ndP : ps.Nodup := by rw [← S.pre]; exact S.nd.sublist (List.take_sublist _ _)
    refine ⟨u, rv, ?_⟩
    rcases S.par y (List.mem_of_getElem? hp) with k | k
    · exact .inl ⟨k, bindL_get ndP hp hu k⟩
    · obtain ⟨c, e⟩ := cell_has (n := s.heap.objs.size + 1) k
      refine .inr ⟨.inl k, c, e, ?_⟩
      have q := x.cell y c e
      rw [bindC_get ndP hp hu (by show scope.names.lookup y ≠ _; rw [k]; decide)] at q
      exact q
  · exact e0.hok.fresh (Nat.le_of_lt (x.above y c (PySem.mem_of_lookup h)))
  · unfold L2.start
    show _ = N.length
    rw [List.length_append, List.length_map, List.length_replicate]
    omega


structure FnOkG (c : Bool) (P : Program) (w : World) (K : PySem.W.Frag) (mg : Str → Option Value) (base : Heap) (CX : CXT) (k : Nat) (f : Addr) (fd : FuncData) (ps : List Str) (sp : Sp) : Prop where
  len : ∀ vs H Q E, sp vs H Q E → vs.length = ps.length
  run : ∀ (A : Around) (outer : List PySem.Env) (s : Shared) (H : Hp) (args : Args) (us : List Value) (vs : List V) (Q : VK) (E : XK), RoomG c k A → Env0 P w K mg base A outer s H → BindsTo s fd args (ps.zip us) → Vals vs us → sp vs H Q E →
    codeAny (model P w) A (.call (.ref f) args) (CR CX outer P w H s Q E) s
theorem FnOkG.of {c : Bool} {P : Program} {w : World} {K : PySem.W.Frag} {mg : Str → Option Value} {base : Heap} {CX : CXT} {k : Nat} {f : Addr} {fd : FuncData} {ps : List Str} {sp : Sp} (F : FnOk P w K mg base CX k f fd ps sp) : FnOkG true P w K mg base CX k f fd ps sp :=
  ⟨F.len, fun A outer s H args us vs Q E hr => F.run A outer s H args us vs Q E hr.r⟩
theorem FnOkG.on {c : Bool} {P : Program} {w : World} {K : PySem.W.Frag} {mg : Str → Option Value} {base : Heap} {CX : CXT} {k : Nat} {f : Addr} {fd : FuncData} {ps : List Str} {sp : Sp} (F : FnOkG false P w K mg base CX k f fd ps sp) : FnOkG c P w K mg base CX k f fd ps sp :=
  ⟨F.len, fun A outer s H args us vs Q E hr => F.run A outer s H args us vs Q E hr.off⟩
theorem FnOkG.mono {c : Bool} {P : Program} {w : World} {K : PySem.W.Frag} {mg : Str → Option Value} {base : Heap} {CX : CXT} {j k : Nat} {f : Addr} {fd : FuncData} {ps : List Str} {sp : Sp} (F : FnOkG c P w K mg base CX j f fd ps sp) (h : j ≤ k) :
    FnOkG c P w K mg base CX k f fd ps sp := ⟨F.len, fun A outer s H args us vs Q E hr => F.run A outer s H args us vs Q E (hr.mono h)⟩
theorem fn_ofG {c : Bool} {CX : CXT} {P : Program} {w : World} {K : PySem.W.Frag} {mg : Str → Option Value} {base : Heap} {k : Nat} {f : Addr} {name qual : Str} {params : Arguments} {body : List Stmt} {scope : Scope} {dV kV doc pm cdv ct oc : Value} {an od : Option Addr}
    {osl : Array (Option Value)} {N ps : List Str} {sp : Sp} (lk : K.lookup f = some ⟨oc, od, .func (PySem.W.fnOf name qual params body scope dV kV doc pm an cdv ct), osl⟩) (hcd : PySem.W.codeIn K cdv qual = true) (S : FnScope N ps scope)
    (len : ∀ vs H Q E, sp vs H Q E → vs.length = ps.length)
    (hbody : ∀ (A : Around) (outer : List PySem.Env) (s : Shared) (H : Hp) (vs : List V) (Q : VK) (E : XK), RoomG c k (A.deeper (envOfC qual scope s.heap.objs.size f cdv)) → sp vs H Q E →
      ∃ t, PSs (cxC c CX P w K mg base N qual scope f cdv A outer s H E) body t ∧ t { nx := fun _ H' => Q .non H', rt := Q } (start N vs) H) :
    FnOkG c P w K mg base CX (k + 1) f (PySem.W.fnOf name qual params body scope dV kV doc pm an cdv ct) ps sp := by
  refine ⟨len, fun A outer s H args us vs Q E hr e0 hb r hsp => ?_⟩
  have hl := len _ _ _ _ hsp
  have KX : K.In s.heap := e0.mod.kin.keeps fun b o e => (e0.bs b o e).1
  have lim : s.heap.NoLimit := e0.mod.nolimit.keeps fun b o e => (e0.bs b o e).1
  have hkind : ∀ y ∈ ps.zip us, scope.names.lookup y.1 = some .local ∨ (scope.names.lookup y.1 = some .cell ∧ ((cellsFrom (s.heap.objs.size + 1) scope.names []).lookup y.1).isSome = true) := fun ⟨n, v⟩ hy => by
    rcases S.par n (List.of_mem_zip hy).1 with q | q
    · exact .inl q
    · exact .inr ⟨q, PySem.W.cellsFrom_some _ _ _ (.inl q)⟩
  refine codeAny_call_function hr.depth (KX _ _ lk) rfl S.co S.gen rfl (PySem.W.codeRec_of KX hcd) (hb _ _ _ _ ?_)
  refine wpAny_newFunctionEnv_cells S.kind hkind fun env he s1 x => ?_
  subst he
  refine ⟨lim.keeps x.toInCall.keep, codeAny_func ?_⟩
  obtain ⟨t, ht, hq⟩ := hbody A outer s H vs Q E (hr.deeper _) hsp
  have I : Inv (cxC c CX P w K mg base N qual scope f cdv A outer s H E) [] (start N vs) H s1 := inv_startC S hr.hd e0 hl r x
  refine wpAny_mono (ht.run [] s1 (start N vs) H _ I hq) (fun fl s' hs => ?_) fun e s' hs => hs
  have fin : ∀ {σ' : L2.St} {H' : Hp} {v : V} {u : Value}, Inv (cxC c CX P w K mg base N qual scope f cdv A outer s H E) [] σ' H' s' → RelV v u → Q v H' → CE outer P w H s Q u s' :=
    fun {σ' H' v u} J rv q => ⟨v, H', J.os, J.bare, J.base, J.hok, rv, q⟩
  cases fl with
  | ret u =>
    obtain ⟨v, σ', H', J, rv, q⟩ := hs
    exact fin J rv q
  | next =>
    obtain ⟨σ', H', J, q⟩ := hs
    exact fin (v := V.non) (u := Value.none) J rfl q
  | brk =>
    obtain ⟨_, _, _, q⟩ := hs
    exact False.elim q
  | cont =>
    obtain ⟨_, _, _, q⟩ := hs
    exact False.elim q

section
variable {P : Program} {w : World} {K : PySem.W.Frag} {mg : Str → Option Value} {base : Heap} {x qual : Str} {params : Arguments} {body : List Stmt} {scope : Scope} {dvs : List V} {kws : List (Str × V)} {f : Addr} {fd : FuncData}
theorem okG {c : Bool} {CX : CXT} {N ps : List Str} {k : Nat} {sp : Sp} (F : FunD K x qual params body scope dvs kws f fd) (S : FnScope N ps scope) (len : ∀ vs H Q E, sp vs H Q E → vs.length = ps.length)
    (hbody : ∀ (cdv : Value) (A : Around) (outer : List PySem.Env) (s : Shared) (H : Hp) (vs : List V) (Q : VK) (E : XK), RoomG c k (A.deeper (envOfC qual scope s.heap.objs.size f cdv)) → sp vs H Q E →
      ∃ t, PSs (cxC c CX P w K mg base N qual scope f cdv A outer s H E) body t ∧ t { nx := fun _ H' => Q .non H', rt := Q } (start N vs) H) : FnOkG c P w K mg base CX (k + 1) f fd ps sp := by
  obtain ⟨oc, od, dV, kV, doc, pm, an, cdv, ct, osl, rfl, lk, hcd, _, _⟩ := F.ex
  exact fn_ofG lk hcd S len fun A outer s H vs Q E hr hsp => hbody cdv A outer s H vs Q E hr hsp
end
section
variable {c : Bool} {X : Cx} {CX : CXT} {k : Nat} {f : Addr} {fd : FuncData} {ps : List Str} {sp : Sp} {E : XK} {ds : List Value} {dvs : List V} {x : Str} {p pos : Pos} {e : Expr} {es : List Expr} {t : TA}
theorem run_fnG {pins : List (Addr × Obj)} {σ : L2.St} {H : Hp} {s : Shared} {Q : VK} {us : List Value} {vs : List V} (F : FnOkG c X.prog X.w X.K X.mg X.base CX k f fd ps sp) (hr : RoomG c k X.A) (hb : Binds X.K fd ps ds) (hd : Vals dvs ds) (hx : Passes CX X E)
    (I : Inv X pins σ H s) (r : Vals vs us) (h : sp (vs ++ dvs) H Q E) : wpAny (model X.prog X.w) X.A (call (.ref f) us) (EP X pins σ Q) X.xe s := by
  have r2 : Vals (vs ++ dvs) (us ++ ds) := r.append hd
  have hl : (us ++ ds).length = ps.length := by rw [← r2.length]; exact F.len _ _ _ _ h
  refine wpAny_call (codeAny_mono (F.run X.A X.stack s H ⟨us, []⟩ (us ++ ds) (vs ++ dvs) Q E hr I.env0 (hb s us I.kIn hl) r2 h) fun r s' hq => ?_)
  cases r with
  | error e => exact hx pins σ H s e s' I hq
  | ok fl =>
    cases fl with
    | ret u => exact I.after hq
    | next => exact False.elim hq
    | brk => exact False.elim hq
    | cont => exact False.elim hq
theorem pe_callG (F : FnOkG c X.prog X.w X.K X.mg X.base CX k f fd ps sp) (hr : RoomG c k X.A) (hg : Gl X x) (hm : X.mg x = some (.ref f)) (hk : PySem.W.keepIn X.K (.ref f) = true) (hb : Binds X.K fd ps ds) (hd : Vals dvs ds) (hx : Passes CX X E)
    (ha : PA X (e :: es) t) (hdb : (x == ("__debug__" : Str)) = false := by decide) (he : starEach (e :: es) X.env = (false, eval e X.env) :: starEach es X.env := by rfl) (hpl : (backTo pos (starEach es X.env)).any (·.1) = false := by rfl) :
    PE X (.Call (.Name x p) (e :: es) [] pos) (tCall sp dvs E t) := by
  refine ⟨fun pins s σ H Q I h => ?_⟩
  refine wpAny_Call_Name_kw (ld_glob I hg hm ?_ hdb)
  refine PySem.W.callWith_K (h₀ := X.base) I.ok.mod.kin hk (thn (ha.run pos pins s σ H _ I h) fun us s1 ⟨vs, H1, I1, r, q⟩ => ⟨I1.kIn, ?_⟩) he hpl
  exact run_fnG F hr hb hd hx I1 r q
theorem pe_callG0 (F : FnOkG c X.prog X.w X.K X.mg X.base CX k f fd ps sp) (hr : RoomG c k X.A) (hg : Gl X x) (hm : X.mg x = some (.ref f)) (hk : PySem.W.keepIn X.K (.ref f) = true) (hb : Binds X.K fd ps ds) (hd : Vals dvs ds) (hx : Passes CX X E)
    (hdb : (x == ("__debug__" : Str)) = false := by decide) : PE X (.Call (.Name x p) [] [] pos) (tCall sp dvs E tNil) := by
  refine ⟨fun pins s σ H Q I h => ?_⟩
  refine wpAny_Call_Name_kw (ld_glob I hg hm ?_ hdb)
  exact PySem.W.callWith_K0 I.kIn hk (run_fnG (us := []) F hr hb hd hx I .nil h)
end
section
variable {c : Bool} {cl : Nat → Addr} {X : Cx} {k : Nat} {f : Addr} {fd : FuncData} {ps : List Str} {den : List W → Option (W × List W)} {x : Str} {p pos : Pos} {e : Expr} {es : List Expr} {dr : Den (List Rv)}
/-- f(e, ..), no defaults -/
theorem dg_call (F : FnOkG c X.prog X.w X.K X.mg X.base CX0 k f fd ps (spW X.w X.K cl den)) (hr : RoomG c k X.A) (hg : Gl X x) (hm : X.mg x = some (.ref f)) (hk : PySem.W.keepIn X.K (.ref f) = true) (hb : Binds X.K fd ps [])
    (ha : DR cl X (e :: es) dr) (hdb : (x == ("__debug__" : Str)) = false := by decide) (he : starEach (e :: es) X.env = (false, eval e X.env) :: starEach es X.env := by rfl) (hpl : (backTo pos (starEach es X.env)).any (·.1) = false := by rfl) :
    DE cl X (.Call (.Name x p) (e :: es) [] pos) (dCall den dr []) := pe_imp (pe_callG F hr hg hm hk hb .nil pass0 ha hdb he hpl) fun _ _ _ => dCall_imp (fun _ _ => .nil)
theorem dg_call0 (F : FnOkG c X.prog X.w X.K X.mg X.base CX0 k f fd ps (spW X.w X.K cl den)) (hr : RoomG c k X.A) (hg : Gl X x) (hm : X.mg x = some (.ref f)) (hk : PySem.W.keepIn X.K (.ref f) = true) (hb : Binds X.K fd ps [])
    (hdb : (x == ("__debug__" : Str)) = false := by decide) : DE cl X (.Call (.Name x p) [] [] pos) (dCall den dRNil []) := pe_imp (pe_callG0 F hr hg hm hk hb .nil pass0 hdb) fun σ H Q h => by
  obtain ⟨M, ρ, f, rvs, ρ', rs, hd, k⟩ := dCall_imp (E := E0) (dvs := []) (fun _ _ => .nil) h
  cases hd
  exact k [] M H f [] rs .nil Step.refl
end
theorem law_callG {P : Program} {w : World} {K : PySem.W.Frag} {mg mb : Str → Option Value} {CX : CXT} {k : Nat} {fa a : Addr} {fd : FuncData} {x : Str} {sp : Sp} {s₁ : Shared} {vs : List Value} {ns : List Int}
    (KX : K.In s₁.heap) (hns : s₁.heap.Ns mainGlobals mg) (hb : s₁.heap.Ns builtinsNs mb) (hbb : ∀ x : Str, x ≠ "__name__" → mb x = bootBuiltins x) (hlim : s₁.heap.NoLimit) (hg : s₁.gens = #[])
    (ha : s₁.heap.get? a = some { cls := .type "list", data := .seq vs.toArray }) (hi : IntsAre vs ns) (hl : ns.length ≤ sizeLine) (hr : RoomG true k callerA)
    (F : ∀ base : Heap, K.In base → base.Ns mainGlobals mg → FnOkG true P w K mg base CX k fa fd [x] sp) (hbind : ∀ (s : Shared) (u : Value), BindsTo s fd ⟨[u], []⟩ [(x, u)])
    (hsp : ∀ H : Hp, Only H → SqL K H a (ns.map V.int) → sp [.ref a] H (fun v _ => v = .bl true) fun _ _ _ => False)
    (hCX : ∀ H e s', CX [] H s₁ (fun _ _ _ => False) e s' → False) :
    codeAny (model P w) callerA (.call (.ref fa) ⟨[.ref a], []⟩) (fun r s' => r = .ok (.ret (.bool true)) ∧ OldK s₁.heap s'.heap ∧ s'.os = s₁.os ∧ AllBare s'.gens) s₁ := by
  have rv := vals_ints hi
  have lenV := hi.length
  -- from an abstract heap in which nothing but the script may be tracked
  have core : ∀ H : Hp, Only H → SqL K H a (ns.map V.int) → HOk P w H s₁.heap → (∀ b, H b ≠ none → b = a) → (H a ≠ none → K.lookup a = none) →
      codeAny (model P w) callerA (.call (.ref fa) ⟨[.ref a], []⟩) (fun r s' => r = .ok (.ret (.bool true)) ∧ OldK s₁.heap s'.heap ∧ s'.os = s₁.os ∧ AllBare s'.gens) s₁ := by
    intro H hO hS hok hA hK
    have base_of : ∀ {b : Addr} {o : Obj}, s₁.heap.get? b = some o → H b = none → (hidT s₁.heap H).get? b = some o := fun e n => hidT_get e n
    have noA : ∀ {b : Addr} {o : Obj} {es : Array DictEntry} {ep : Nat}, s₁.heap.get? b = some o → o.data = .dict es ep → H b = none := fun {b o es ep} e d => by
      cases q : H b with
      | none => rfl
      | some u =>
        have e' : b = a := hA b (by rw [q]; simp)
        subst e'
        rw [ha] at e; cases e
        have d' : Data.seq vs.toArray _ = Data.dict es ep := d
        cases d'
    have nsK : ∀ {b : Addr} {m : Str → Option Value}, s₁.heap.Ns b m → (hidT s₁.heap H).Ns b m := fun {b m} ⟨o, es, ep, e, d, r⟩ => ⟨o, es, ep, base_of e (noA e d), d, r⟩
    have hKb : K.In (hidT s₁.heap H) := fun b o e => base_of (KX b o e) (by
      cases q : H b with
      | none => rfl
      | some u =>
        have e' : b = a := hA b (by rw [q]; simp)
        subst e'
        rw [hK (by rw [q]; simp)] at e; cases e)
    have hM : Mod K mg (hidT s₁.heap H) := ⟨hKb, nsK hns, ⟨mb, nsK hb, hbb⟩, let ⟨mc, h1, h2⟩ := hlim; ⟨mc, nsK h1, h2⟩⟩
    have e0 : Env0 P w K mg (hidT s₁.heap H) callerA [] s₁ H := ⟨rfl, hM, fun b o e => of_hidT e, Nat.le_of_eq (hidT_size _ _), trivial, fun b hb => absurd (show b ∈ ([] : List Addr) from hb) (by simp), hok, .of_eq hg⟩
    refine codeAny_mono ((F _ hKb (nsK hns)).run callerA [] s₁ H ⟨[.ref a], []⟩ [.ref a] [.ref a] _ _ hr e0 (hbind s₁ (.ref a)) (.cons rfl .nil) (hsp H hO hS)) fun r s' h => ?_
    cases r with
    | error e => exact (hCX H e s' h).elim
    | ok fl =>
      cases fl with
      | next => exact False.elim h
      | brk => exact False.elim h
      | cont => exact False.elim h
      | ret u =>
        obtain ⟨v, H', os, bare, un, hok', r', q⟩ := h
        have q' : v = .bl true := q
        subst q'
        obtain rfl : u = Value.bool true := r'
        refine ⟨rfl, OldK.of_keep fun b o e => ?_, os, bare⟩
        cases q : H b with
        | none => exact un.keep b o e q (by intro z; exact absurd (show b ∈ ([] : List Addr) from z) (by simp)) (by simp)
        | some u =>
          rcases hO b with z | ⟨ob, xs, z⟩
          · rw [q] at z; cases z
          · have z2 := un.frzs b ob _ z
            obtain ⟨e1, _⟩ := hok b _ z
            obtain ⟨e2, _⟩ := hok' b _ z2
            rw [e] at e1; cases e1
            exact e2
  cases hk : K.lookup a with
  | some o =>
    -- the script is one of the module's own objects
    have e := KX a o hk
    rw [ha] at e
    cases e
    refine core (fun _ => none) (fun _ => .inl rfl) (.inr ⟨_, vs.toArray, _, hk, rfl, rfl, rfl, by rw [List.size_toArray, lenV]; exact hl, by simpa using rv⟩) (fun b u z => by have z' : (none : Option HO) = some u := z; cases z') (fun b z => absurd rfl z) fun z => absurd rfl z
  | none =>
    refine core (fun b => if b = a then some (.frz { cls := .type "list", data := .seq vs.toArray } (.lst (ns.map V.int))) else none) (fun b => ?_) (.inl (.inr ⟨{ cls := .type "list", data := .seq vs.toArray }, if_pos rfl⟩)) (fun b u z => ?_) (fun b z => ?_) fun _ => hk
    · by_cases hb : b = a
      · exact .inr ⟨_, _, if_pos hb⟩
      · exact .inl (if_neg hb)
    · by_cases hb : b = a
      · have z' := (if_pos hb).symm.trans z
        cases z'
        subst hb
        exact ⟨ha, by rw [List.length_map]; exact hl, vs, _, rv, ha⟩
      · have z' := (if_neg hb).symm.trans z
        cases z'
    · by_cases hb : b = a
      · exact hb
      · exact absurd (if_neg hb) z

theorem walk_ofG {l : PySem.W.OpenLaw} {n k : Nat} {q : Program} {loose : List Str} {XP : (Str → Option Value) → Heap → Prop} {YP : World → Heap → Prop} {d : DefRec} {CX : CXT} {x : Str}
    (hn : l.most = some n) (hn2 : n ≤ sizeLine) (hdf : d.params.defaults = []) (hr : RoomG true k callerA)
    (F : ∀ (w : World) (mg : Str → Option Value) (fa : Addr) (h : Heap), YP w h → h.Ns mainGlobals mg → mg d.name = some (.ref fa) →
      ∃ (K : PySem.W.Frag) (fd : FuncData) (sp : Sp), K.In h ∧ (∀ (s : Shared) (u : Value), BindsTo s fd ⟨[u], []⟩ [(x, u)]) ∧
        (∀ (H : Hp) (a : Addr) (ns : List Int), ns.length ≤ n → Only H → SqL K H a (ns.map V.int) → sp [.ref a] H (fun v _ => v = .bl true) fun _ _ _ => False) ∧
        ∀ base : Heap, K.In base → base.Ns mainGlobals mg → FnOkG true l.prog w K mg base CX k fa fd [x] sp)
    (hCX : ∀ (H : Hp) (s : Shared) (e : Value) (s' : Shared), CX [] H s (fun _ _ _ => False) e s' → False) :
    PySem.W.WalkO q loose XP YP l.row.toRowW d [] (fun f vs => PySem.call f vs) := by
  refine Att.attach_call hn hdf fun w s₀ s₁ mg mb fa o pm cd doc a vs ns G Y ho hd hcd hmg hobj hints hlen hg => ?_
  obtain ⟨K, fd, sp, KX, hb, hsp, hF⟩ := F w mg fa _ Y G.T.g hmg
  exact law_callG KX G.T.g G.T.b G.T.builtins G.T.nolimit hg hobj hints (Nat.le_trans hlen hn2) hr hF hb (fun H hO hS => hsp H a ns hlen hO hS) fun H e s' => hCX H s₁ e s'

end Ws
set_option Elab.async false
set_option linter.all false
set_option maxRecDepth 100000
set_option maxHeartbeats 4000000
/-! Ws15: repr of deep data. -/
namespace PySem
namespace WsR
open PyData
section
variable {prog : Program} {w : World} {h₀ : Heap}
mutual

theorem reprK_reads : ∀ {v : Value} {d : PyData} {as : List Addr}, Reads h₀ v d as → d.showable = true → (∀ b o, b ∈ as → h₀.get? b = some o → o.cls = .type "dict" → (b == sysModules) = false) → d.shown.length ≤ sizeLine → ∃ bs, ReadAtMost h₀ d.depth bs ∧ ReprK prog w bs h₀ d.depth v d.shown
  | _, _, _, .none, _, _, _ => ⟨[], (fun _ h => nomatch h), by simp only [PyData.shown]; exact .of_is ReprIs.none _ _ _⟩
  | _, _, _, .bool b, _, _, _ => ⟨[], (fun _ h => nomatch h), by simp only [PyData.shown]; exact .of_is (ReprIs.bool b) _ _ _⟩
  | _, _, _, .int i t, hs, _, _ => ⟨[], (fun _ h => nomatch h), by simp only [PyData.shown]; exact .of_is (ReprIs.int t (by simpa [PyData.showable] using hs)) _ _ _⟩
  | _, _, _, .str x t, _, _, hz => ⟨[], (fun _ h => nomatch h), by simp only [PyData.shown]; exact .of_is (ReprIs.str x t (by simpa only [PyData.shown] using hz)) _ _ _⟩
  | _, _, _, .list (a := a) (vs := vs) (xs := xs) h1 h2 h3 h4, hs, hsm, hz => by
    have hz' : (listText (PyData.shownAll xs)).length ≤ sizeLine := by simpa only [PyData.shown] using hz
    obtain ⟨bs, hb, hk⟩ := reprAllK_reads h4 (by simpa [PyData.showable] using hs) (fun b o hm => hsm b o (List.mem_cons_of_mem _ hm)) (fun t ht => Nat.le_trans (listText_mem_le ht) hz')
    have r : Reads h₀ (.ref a) (.list xs) _ := .list h1 h2 h3 h4
    have hna : a ∉ bs := not_mem_of_deeper r (by simp only [PyData.depth]; omega) hb
    refine ⟨a :: bs, ReadAtMost.cons r (by simp only [PyData.depth]; omega) hb, ?_⟩
    simp only [PyData.depth, PyData.shown]
    obtain ⟨l⟩ := vs
    cases l with
    | nil =>
      have h4' : ReadsAll h₀ [] xs _ := h4
      cases h4'
      simp only [PyData.shownAll, listText_nil]
      exact ReprK.listEmpty h1 h2 h3
    | cons x l => exact ReprK.list h1 h2 h3 hna (by simpa using hk.length_eq) (fun i y e => hk.item i y (by simpa using e))
  | _, _, _, .tuple (a := a) (xs := xs) h1 h2 h3 h4, hs, hsm, hz => by
    have hz' : (tupleText (PyData.shownAll xs)).length ≤ sizeLine := by simpa only [PyData.shown] using hz
    obtain ⟨bs, hb, hk⟩ := reprAllK_reads h4 (by simpa [PyData.showable] using hs) (fun b o hm => hsm b o hm) (fun t ht => Nat.le_trans (tupleText_mem_le ht) hz')
    have r : Reads h₀ (.ref a) (.tuple xs) _ := .tuple h1 h2 h3 h4
    have hna : a ∉ bs := not_mem_of_deeper r (by simp only [PyData.depth]; omega) hb
    refine ⟨a :: bs, ReadAtMost.cons r (by simp only [PyData.depth]; omega) hb, ?_⟩
    simp only [PyData.depth, PyData.shown]
    exact ReprK.tuple h1 h2 h3 hna hk
  | _, _, _, .dict (a := a) (es := es) (kvs := kvs) (as := as₁) (bs := bs₁) h1 h2 h3 h4 h5, hs, hsm, hz => by
    have hz' : (dictText (PyData.shownKv kvs)).length ≤ sizeLine := by simpa only [PyData.shown] using hz
    obtain ⟨hs1, hs2⟩ := PyData.showableKv_split kvs (by simpa [PyData.showable] using hs)
    obtain ⟨b1, hb1, k1⟩ := reprAllK_reads h4 hs1 (fun b o hm => hsm b o (List.mem_cons_of_mem _ (List.mem_append_left _ hm))) (fun t ht => let ⟨p, hp, hl⟩ := PyData.shownKv_key_le kvs t ht; Nat.le_trans hl (Nat.le_trans (dictText_mem_le hp) hz'))
    obtain ⟨b2, hb2, k2⟩ := reprAllK_reads h5 hs2 (fun b o hm => hsm b o (List.mem_cons_of_mem _ (List.mem_append_right _ hm))) (fun t ht => let ⟨p, hp, hl⟩ := PyData.shownKv_val_le kvs t ht; Nat.le_trans hl (Nat.le_trans (dictText_mem_le hp) hz'))
    have r : Reads h₀ (.ref a) (.dict kvs) _ := .dict h1 h2 h3 h4 h5
    have hb : ReadAtMost h₀ (PyData.depthKv kvs) (b1 ++ b2) := (hb1.mono (PyData.depthAll_keys_le kvs)).append (hb2.mono (PyData.depthAll_vals_le kvs))
    have hna : a ∉ b1 ++ b2 := not_mem_of_deeper r (by simp only [PyData.depth]; omega) hb
    have hsys : (a == sysModules) = false := hsm a _ (List.mem_cons_self ..) h1 h2
    refine ⟨a :: (b1 ++ b2), ReadAtMost.cons r (by simp only [PyData.depth]; omega) hb, ?_⟩
    simp only [PyData.depth, PyData.shown, PyData.shownKv_eq]
    exact ReprK.dict h1 h2 h3 hsys hna (ReprEntriesK.of_two es.toList _ _
      (k1.more_le (fun b hb => List.mem_append_left _ hb) (PyData.depthAll_keys_le kvs)) (k2.more_le (fun b hb => List.mem_append_right _ hb) (PyData.depthAll_vals_le kvs)))
theorem reprAllK_reads : ∀ {vs : List Value} {ds : List PyData} {as : List Addr}, ReadsAll h₀ vs ds as → PyData.showableAll ds = true → (∀ b o, b ∈ as → h₀.get? b = some o → o.cls = .type "dict" → (b == sysModules) = false) → (∀ t ∈ PyData.shownAll ds, t.length ≤ sizeLine) →
    ∃ bs, ReadAtMost h₀ (PyData.depthAll ds) bs ∧ ReprAllK prog w bs h₀ (PyData.depthAll ds) vs (PyData.shownAll ds)
  | _, _, _, .nil, _, _, _ => ⟨[], (fun _ h => nomatch h), by simp only [PyData.shownAll]; exact .nil⟩
  | _, _, _, .cons (d := d) (ds := ds) r rs, hs, hsm, hz => by
    have hs' : d.showable = true ∧ PyData.showableAll ds = true := by simpa [PyData.showableAll] using hs
    obtain ⟨b1, hb1, k1⟩ := reprK_reads r hs'.1 (fun b o hm => hsm b o (List.mem_append_left _ hm)) (hz _ (by simp only [PyData.shownAll]; exact List.mem_cons_self ..))
    obtain ⟨b2, hb2, k2⟩ := reprAllK_reads rs hs'.2 (fun b o hm => hsm b o (List.mem_append_right _ hm)) (fun t ht => hz t (by simp only [PyData.shownAll]; exact List.mem_cons_of_mem _ ht))
    refine ⟨b1 ++ b2, ?_, ?_⟩
    · intro b hm
      simp only [PyData.depthAll]
      rcases List.mem_append.mp hm with hm | hm
      · obtain ⟨d', as', r', hd'⟩ := hb1 b hm
        exact ⟨d', as', r', Nat.le_trans hd' (Nat.le_max_left _ _)⟩
      · obtain ⟨d', as', r', hd'⟩ := hb2 b hm
        exact ⟨d', as', r', Nat.le_trans hd' (Nat.le_max_right _ _)⟩
    · simp only [PyData.depthAll, PyData.shownAll]
      exact .cons ((k1.more fun b hb => List.mem_append_left _ hb).level_le (Nat.le_max_left _ _)) (k2.more_le (fun b hb => List.mem_append_right _ hb) (Nat.le_max_right _ _))
end

end
section
variable {prog : Program} {w : World} {h₀ : Heap} {a : Addr} {d : PyData} {as : List Addr}
theorem showsBy_reads (r : Reads h₀ (.ref a) d as) (hs : d.showable = true) (hsm : ∀ b o, b ∈ as → h₀.get? b = some o → o.cls = .type "dict" → (b == sysModules) = false)
    (hsz : d.shown.length ≤ sizeLine := by size_fits) : ∃ T idr, ShowsBy prog w h₀ a d T idr := by
  cases r with
  | list h1 h2 h3 h4 =>
    rename_i o vs n xs bs₀
    have hz' : (listText (PyData.shownAll xs)).length ≤ sizeLine := by simpa only [PyData.shown] using hsz
    obtain ⟨bs, hb, hk⟩ := reprAllK_reads (prog := prog) (w := w) h4 (by simpa [PyData.showable] using hs) (fun b o hm => hsm b o (List.mem_cons_of_mem _ hm)) (fun t ht => Nat.le_trans (listText_mem_le ht) hz')
    have hna : a ∉ bs := not_mem_of_deeper (.list h1 h2 h3 h4) (by simp only [PyData.depth]; omega) hb
    refine ⟨"list", "list.__repr__", F.slot_list_repr.toG, F.slot_list_str, F.slot_list_format, fun s hk0 => ⟨o, hk0 _ _ h1, h2⟩, fun A E s Q hg hu hk0 hQ => ?_⟩
    simp only [PyData.depth] at hu
    simp only [PyData.shown] at hQ
    obtain ⟨l⟩ := vs
    cases l with
    | nil =>
      have h4' : ReadsAll h₀ [] xs _ := h4
      cases h4'
      simp only [PyData.shownAll, listText_nil] at hQ
      exact call_list_repr_empty ⟨o, hk0 _ _ h1, h2⟩ (hk0 _ _ h1) h3 (hQ s.heap _ _ fun _ _ e => e)
    | cons x l =>
      exact call_list_reprK h1 h2 h3 hna (by simpa using hk.length_eq) (fun i y e => hk.item i y (by simpa using e)) hg (fun b _ => Clear.nil b) hu hk0 hQ hz'
  | tuple h1 h2 h3 h4 =>
    rename_i o vs n xs
    have hz' : (tupleText (PyData.shownAll xs)).length ≤ sizeLine := by simpa only [PyData.shown] using hsz
    obtain ⟨bs, hb, hk⟩ := reprAllK_reads (prog := prog) (w := w) h4 (by simpa [PyData.showable] using hs) (fun b o hm => hsm b o hm) (fun t ht => Nat.le_trans (tupleText_mem_le ht) hz')
    have hna : a ∉ bs := not_mem_of_deeper (.tuple h1 h2 h3 h4) (by simp only [PyData.depth]; omega) hb
    refine ⟨"tuple", "tuple.__repr__", F.slot_tuple_repr, F.slot_tuple_str, F.slot_tuple_format, fun s hk0 => ⟨o, hk0 _ _ h1, h2⟩, fun A E s Q hg hu hk0 hQ => ?_⟩
    simp only [PyData.depth] at hu
    simp only [PyData.shown] at hQ
    exact call_tuple_reprK h1 h2 h3 hna hk hg (fun b _ => Clear.nil b) hu hk0 hQ hz'
  | dict h1 h2 h3 h4 h5 =>
    rename_i o es n kvs as₁ bs₁
    have hz' : (dictText (PyData.shownKv kvs)).length ≤ sizeLine := by simpa only [PyData.shown] using hsz
    obtain ⟨hs1, hs2⟩ := PyData.showableKv_split kvs (by simpa [PyData.showable] using hs)
    obtain ⟨b1, hb1, k1⟩ := reprAllK_reads (prog := prog) (w := w) h4 hs1 (fun b o hm => hsm b o (List.mem_cons_of_mem _ (List.mem_append_left _ hm))) (fun t ht => let ⟨p, hp, hl⟩ := PyData.shownKv_key_le kvs t ht; Nat.le_trans hl (Nat.le_trans (dictText_mem_le hp) hz'))
    obtain ⟨b2, hb2, k2⟩ := reprAllK_reads (prog := prog) (w := w) h5 hs2 (fun b o hm => hsm b o (List.mem_cons_of_mem _ (List.mem_append_right _ hm))) (fun t ht => let ⟨p, hp, hl⟩ := PyData.shownKv_val_le kvs t ht; Nat.le_trans hl (Nat.le_trans (dictText_mem_le hp) hz'))
    have hb : ReadAtMost h₀ (PyData.depthKv kvs) (b1 ++ b2) := (hb1.mono (PyData.depthAll_keys_le kvs)).append (hb2.mono (PyData.depthAll_vals_le kvs))
    have hna : a ∉ b1 ++ b2 := not_mem_of_deeper (.dict h1 h2 h3 h4 h5) (by simp only [PyData.depth]; omega) hb
    have hsys : (a == sysModules) = false := hsm a _ (List.mem_cons_self ..) h1 h2
    refine ⟨"dict", "dict.__repr__", F.slot_dict_repr, F.slot_dict_str, F.slot_dict_format, fun s hk0 => ⟨o, hk0 _ _ h1, h2⟩, fun A E s Q hg hu hk0 hQ => ?_⟩
    simp only [PyData.depth] at hu
    simp only [PyData.shown, PyData.shownKv_eq] at hQ
    exact call_dict_reprK h1 h2 h3 hsys hna (ReprEntriesK.of_two es.toList _ _
      (k1.more_le (fun b hb => List.mem_append_left _ hb) (PyData.depthAll_keys_le kvs)) (k2.more_le (fun b hb => List.mem_append_right _ hb) (PyData.depthAll_vals_le kvs))) hg (fun b _ => Clear.nil b) hu hk0 hQ (by rw [← PyData.shownKv_eq]; exact hz')


variable {A : Around} {E : Value → Shared → Prop} {s : Shared} {Q : Value → Shared → Prop}
theorem repr_reads (r : Reads h₀ (.ref a) d as) (hs : d.showable = true) (hsm : ∀ b o, b ∈ as → h₀.get? b = some o → o.cls = .type "dict" → (b == sysModules) = false) (hg : A.guards = some []) (hu : A.units + (d.depth + 1) < cLine) (hk0 : ∀ b o, h₀.get? b = some o → s.heap.get? b = some o)
    (hQ : ∀ h' u tk, (∀ b o, s.heap.get? b = some o → h'.get? b = some o) → Q (.str d.shown u) { s with heap := h', toks := tk })
    (hsz : d.shown.length ≤ sizeLine) : wpAny (model prog w) A (call (.builtin "repr") [.ref a]) Q E s := by
  obtain ⟨T, idr, S⟩ := showsBy_reads (prog := prog) (w := w) r hs hsm hsz
  exact call_repr_slot (by omega) (S.typeIs s hk0) S.slotRepr (S.call A.in1 E s _ hg (by show A.units + 1 + d.depth < cLine; omega) hk0 fun h' u tk hk => ⟨_, _, rfl, hQ h' u tk hk⟩)
end
end WsR
end PySem

namespace Ws
open PySem PySem.Spec PyProof.Rows L2
mutual
/-- .. as the library's repr takes it -/
def toR : D → Option PyData
  | .none => some .none
  | .bool b => some (.bool b)
  | .int i => some (.int i)
  | .str s => some (.str s)
  | .tup xs => (toRs xs).map .tuple
  | .lst xs => (toRs xs).map .list
  | .dct kvs => (toRk kvs).map .dict
  | .obj _ _ => Option.none
  | .exc _ _ => Option.none
  | .scr _ => Option.none
def toRs : List D → Option (List PyData)
  | [] => some []
  | x :: xs => (toR x).bind fun p => (toRs xs).map fun ps => p :: ps
def toRk : List (D × D) → Option (List (PyData × PyData))
  | [] => some []
  | x :: xs => (toR x.1).bind fun p => (toR x.2).bind fun q => (toRk xs).map fun ps => (p, q) :: ps
end
def DOk (h : Heap) (as : List Addr) : Prop := ∀ b o, b ∈ as → h.get? b = some o → o.cls = .type "dict" → (b == sysModules) = false
theorem DOk.app {h : Heap} {as bs : List Addr} (a : DOk h as) (b : DOk h bs) : DOk h (as ++ bs) := fun c o m e k => by
  rcases List.mem_append.mp m with m | m
  · exact a c o m e k
  · exact b c o m e k
section
variable {P : Program} {w : World} {K : PySem.W.Frag} {cl : Nat → Addr} {M : Addr → Prop} {H : Hp} {h : Heap}
mutual
theorem is_reads (hok : HOk P w H h) (hK : K.In h) : ∀ {v : V} {d : D} {p : PyData} {u : Value}, Is w K cl M H v d → toR d = some p → RelV v u → ∃ as, Reads h u p as ∧ DOk h as
  | _, _, p, u, .non, e, r => by
    simp only [toR, Option.some.injEq] at e; subst e
    obtain rfl : u = Value.none := r
    exact ⟨[], .none, fun _ _ m => nomatch m⟩
  | _, _, p, u, .bl b, e, r => by
    simp only [toR, Option.some.injEq] at e; subst e
    obtain rfl : u = Value.bool b := r
    exact ⟨[], .bool b, fun _ _ m => nomatch m⟩
  | _, _, p, u, .int i, e, r => by
    simp only [toR, Option.some.injEq] at e; subst e
    obtain ⟨t, rfl⟩ : ∃ t, u = Value.int i t := r
    exact ⟨[], .int i t, fun _ _ m => nomatch m⟩
  | _, _, p, u, .str s, e, r => by
    simp only [toR, Option.some.injEq] at e; subst e
    obtain ⟨t, rfl⟩ : ∃ t, u = Value.str s t := r
    exact ⟨[], .str s t, fun _ _ m => nomatch m⟩
  | _, _, p, u, .tup (a := a) (xs := xs) hh m t, e, r => by
    simp only [toR] at e
    obtain ⟨ps, e1, e2⟩ := Option.map_eq_some_iff.mp e
    subst e2
    obtain rfl : u = Value.ref a := r
    have ht : ∃ its : List Value, Vals xs its ∧ IsTup h a its.toArray := by
      rcases hh with hh | ⟨o, hh⟩
      · exact (hok a _ hh).2
      · exact (hok a _ hh).2.2
    obtain ⟨its, rv, ht⟩ := ht
    obtain ⟨as, ra, da⟩ := isL_reads hok hK t e1 rv
    obtain ⟨o, h1, h2, n, h3⟩ := ht
    exact ⟨as, .tuple h1 h2 h3 (by simpa using ra), da⟩
  | _, _, p, u, .tupK (a := a) h1 h2 h3 h4 h5 t, e, r => by
    simp only [toR] at e
    obtain ⟨ps, e1, e2⟩ := Option.map_eq_some_iff.mp e
    subst e2
    obtain rfl : u = Value.ref a := r
    obtain ⟨as, ra, da⟩ := isL_reads hok hK t e1 h5
    exact ⟨as, .tuple (hK _ _ h1) h2 h3 ra, da⟩
  | _, _, p, u, .lst (a := a) hh m t, e, r => by
    simp only [toR] at e
    obtain ⟨ps, e1, e2⟩ := Option.map_eq_some_iff.mp e
    subst e2
    obtain rfl : u = Value.ref a := r
    obtain ⟨_, its, n, rv, ho⟩ := hok a _ hh
    obtain ⟨as, ra, da⟩ := isL_reads hok hK t e1 rv
    refine ⟨a :: as, .list ho rfl rfl (by simpa using ra), fun b o m e k => ?_⟩
    rcases List.mem_cons.mp m with m | m
    · subst m
      rw [ho] at e
      cases e
      exact absurd (show Value.type "list" = Value.type "dict" from k) (by decide)
    · exact da b o m e k
  | _, _, p, u, .scr _ _, e, r => by simp [toR] at e
  | _, _, p, u, .scrK _ _ _ _ _ _, e, r => by simp [toR] at e
  | _, _, p, u, .obj _ _ _, e, r => by simp [toR] at e
  | _, _, p, u, .exc _ _ _ _, e, r => by simp [toR] at e
  | _, _, p, u, .dct (a := a) (es := es) (ep := ep) hh m t _, e, r => by
    simp only [toR] at e
    obtain ⟨ps, e1, e2⟩ := Option.map_eq_some_iff.mp e
    subst e2
    obtain rfl : u = Value.ref a := r
    obtain ⟨⟨o, ho, hx, hd, hl, hs⟩, _, _⟩ := hok a _ hh
    obtain ⟨as, bs, ra, rb, da, db⟩ := isE_reads hok hK t e1
    refine ⟨a :: as ++ bs, .dict ho hx.1 hd ra rb, fun b o' m e k => ?_⟩
    rcases List.mem_append.mp m with m | m
    · rcases List.mem_cons.mp m with m | m
      · subst m
        exact hs
      · exact da b o' m e k
    · exact db b o' m e k
theorem isL_reads (hok : HOk P w H h) (hK : K.In h) : ∀ {vs : List V} {ds : List D} {ps : List PyData} {us : List Value}, IsL w K cl M H vs ds → toRs ds = some ps → Vals vs us → ∃ as, ReadsAll h us ps as ∧ DOk h as
  | _, _, ps, us, .nil, e, r => by
    simp only [toRs, Option.some.injEq] at e; subst e
    cases r
    exact ⟨[], .nil, fun _ _ m => nomatch m⟩
  | _, _, ps, us, .cons a t, e, r => by
    simp only [toRs] at e
    obtain ⟨p, e1, e⟩ := Option.bind_eq_some_iff.mp e
    obtain ⟨qs, e2, e⟩ := Option.map_eq_some_iff.mp e
    subst e
    cases r with
    | cons ra rr =>
      obtain ⟨as, x1, x2⟩ := is_reads hok hK a e1 ra
      obtain ⟨bs, y1, y2⟩ := isL_reads hok hK t e2 rr
      exact ⟨as ++ bs, .cons x1 y1, x2.app y2⟩
theorem isE_reads (hok : HOk P w H h) (hK : K.In h) : ∀ {es : List DictEntry} {kvs : List (D × D)} {ps : List (PyData × PyData)}, IsE w K cl M H es kvs → toRk kvs = some ps →
    ∃ as bs, ReadsAll h (es.map (·.key)) (ps.map (·.1)) as ∧ ReadsAll h (es.map (·.val)) (ps.map (·.2)) bs ∧ DOk h as ∧ DOk h bs
  | _, _, ps, .nil, e => by
    simp only [toRk, Option.some.injEq] at e; subst e
    exact ⟨[], [], .nil, .nil, (fun _ _ m => nomatch m), (fun _ _ m => nomatch m)⟩
  | _, _, ps, .cons rk ik _ _ _ rv iv t, e => by
    simp only [toRk] at e
    obtain ⟨p, e1, e⟩ := Option.bind_eq_some_iff.mp e
    obtain ⟨q, e2, e⟩ := Option.bind_eq_some_iff.mp e
    obtain ⟨qs, e3, e⟩ := Option.map_eq_some_iff.mp e
    subst e
    obtain ⟨as, x1, x2⟩ := is_reads hok hK ik e1 rk
    obtain ⟨bs, y1, y2⟩ := is_reads hok hK iv e2 rv
    obtain ⟨as', bs', z1, z2, z3, z4⟩ := isE_reads hok hK t e3
    exact ⟨as ++ as', bs ++ bs', .cons x1 z1, .cons y1 z2, x2.app z3, y2.app z4⟩
end
end
/-- repr(d) -/
def gRepr (d : D) : Option D := (toR d).bind fun p => if p.showable = true ∧ p.shown.length ≤ sizeLine ∧ p.depth ≤ 60 then some (.str p.shown) else Option.none
section
variable {cl : Nat → Addr} {X : Cx} {k : Nat}
theorem c_repr {c : Bool} (hr : RoomG c k X.A) : CallR X (.builtin "repr") (rC1 X.w X.K cl gRepr) := by
  intro pins s σ H xs us Q I r h
  obtain ⟨x, d, rr, v, rfl, is, hg, hv, q⟩ := h
  obtain ⟨p, e1, hg⟩ := Option.bind_eq_some_iff.mp hg
  by_cases c : p.showable = true ∧ p.shown.length ≤ sizeLine ∧ p.depth ≤ 60
  · rw [if_pos c] at hg
    cases hg
    cases hv
    cases r with
    | @cons _ u0 _ _ r0 rn =>
      cases rn
      obtain ⟨as, ra, da⟩ := is_reads I.hok I.kIn is e1 r0
      have un := hr.un
      have big : ∀ a, u0 = Value.ref a → wpAny (model X.prog X.w) X.A (call (.builtin "repr") [.ref a]) (EP X pins σ Q) X.xe s := fun a ea => by
        subst ea
        exact PySem.WsR.repr_reads (h₀ := s.heap) ra c.1 da hr.g (by omega) (fun _ _ z => z) (fun h' u tk kk => ⟨.str p.shown, H, I.kept (t' := tk) kk, ⟨u, rfl⟩, q⟩) c.2.1
      cases ra with
      | none => exact PySem.P.repr_of_none ⟨.str _, H, I.tok _, ⟨_, rfl⟩, q⟩
      | bool b => exact PySem.P.repr_of_bool ⟨.str _, H, I.tok _, ⟨_, rfl⟩, q⟩
      | int i t => exact PySem.P.repr_of_int (by simpa [PyData.showable] using c.1) ⟨.str _, H, I.tok _, ⟨_, rfl⟩, q⟩
      | str y t => exact PySem.P.repr_of_str ⟨.str _, H, I.tok _, ⟨_, rfl⟩, q⟩ (by simpa only [PyData.shown] using c.2.1)
      | list => exact big _ rfl
      | tuple => exact big _ rfl
      | dict => exact big _ rfl
  · rw [if_neg c] at hg
    cases hg
theorem de_repr {c : Bool} {e : Expr} {p pos : Pos} {d : Den Rv} (hr : RoomG c k X.A) (hg : Gl X "repr") (hm : X.mg "repr" = none) (ha : DE cl X e d) (he : starEach [e] X.env = (false, eval e X.env) :: starEach [] X.env := by rfl) (hpl : (backTo pos (starEach [] X.env)).any (·.1) = false := by rfl) :
    DE cl X (.Call (.Name "repr" p) [e] [] pos) (dUn gRepr d) := de_cb (c_repr hr) hg hm PyProof.Rows.Boot.«repr» ha (by decide) (by decide) he hpl
end
end Ws
set_option Elab.async false
set_option linter.all false
set_option maxRecDepth 100000
set_option maxHeartbeats 2000000
/-! Ws16: small things: text * int, -int, two names at once, a dict of one pair. -/
namespace Ws
open PySem PySem.Spec PyProof.Rows L2
instance (x : Str) (n : Int) : Decidable (MulOk x n) := by unfold MulOk; infer_instance
/-- text * int -/
def gSMul : D → D → Option D
  | .str s, .int i => if MulOk s i then some (.str (Txt.mul s i)) else Option.none
  | _, _ => Option.none
def gNeg : D → Option D
  | .int i => some (.int (-i))
  | _ => Option.none
section
variable {cl : Nat → Addr} {X : Cx} {a b : Expr} {pos : Pos} {da db : Den Rv}
theorem o_smul : OpR X (binaryOp .Mult) (rV2 X.w X.K cl gSMul) := by
  intro pins s σ H x y u v Q I rx ry h
  obtain ⟨dx, dy, r, rv, ix, iy, hg, hs, q⟩ := h
  unfold gSMul at hg
  split at hg
  · rename_i st i
    by_cases c : MulOk st i
    · rw [if_pos c] at hg
      cases hg
      cases hs
      have ex := is_str ix
      have ey := is_int iy
      subst ex
      subst ey
      obtain ⟨t, rfl⟩ := rx
      obtain ⟨t', rfl⟩ := ry
      exact PySem.SB.mul c fun t2 k => ⟨.str _, H, I.tok _, ⟨t2, rfl⟩, q⟩
    · rw [if_neg c] at hg
      cases hg
  · cases hg
theorem de_smul (ha : DE cl X a da) (hb : DE cl X b db) : DE cl X (.BinOp a .Mult b pos) (dBin gSMul da db) := de_bin o_smul ha hb
theorem de_neg (ha : DE cl X a da) : DE cl X (.UnaryOp .USub a pos) (dUn gNeg da) := pe_imp (pe_un un_neg ha) fun σ H Q ⟨M, ρ, f, rv, ρ', rs, hd, k⟩ => by
  obtain ⟨⟨x, ρ1⟩, h1, hd⟩ := Option.bind_eq_some_iff.mp hd
  obtain ⟨dx, h2, hd⟩ := Option.bind_eq_some_iff.mp hd
  obtain ⟨r, h3, hd⟩ := Option.bind_eq_some_iff.mp hd
  obtain ⟨v, h4, hd⟩ := Option.bind_eq_some_iff.mp hd
  cases hd
  refine ⟨M, ρ, f, x, ρ1, rs, h1, fun v1 M1 H1 f1 fw1 rs1 ok1 st1 => ?_⟩
  have iv := ok1.view rs1 h2
  unfold gNeg at h3
  split at h3
  · cases h3
    cases h4
    exact ⟨_, is_int iv, k _ M1 H1 f1 [] rs1 (rvB (.int _)) st1⟩
  · cases h3

/-! ### two names at once -/
def dPar (i j : Nat) (dr : Den (List Rv)) : Den Out := fun ρ => (dr ρ).bind fun r => match r.1 with
  | [.val x, .val y] => if i < r.2.length ∧ j < r.2.length ∧ i ≠ j then some (.next, (r.2.set i (some x)).set j (some y)) else Option.none
  | _ => Option.none
theorem ds_par {np i j : Nat} {x y : Str} {dr : Den (List Rv)} {px py pt : Pos} {kt k2 pt2} (hc : X.calm = true) (hN : X.N.Nodup) (hi : X.N[i]? = some x) (hj : X.N[j]? = some y) (hij : i ≠ j)
    (hx : X.env.scope.names.lookup x = some .local) (hy : X.env.scope.names.lookup y = some .local) (hpi : np ≤ i) (hpj : np ≤ j) (ha : DR cl X [a, b] dr)
    (hw : swappedStores [.Tuple [.Name x px, .Name y py] kt pt] (.Tuple [a, b] k2 pt2) X.env = pure (some [x, y]) := by rfl)
    (hs : swapsWithSole [.Tuple [.Name x px, .Name y py] kt pt] (.Tuple [a, b] k2 pt2) pos.line X.env = pure false := by rfl) :
    DS cl np X (.Assign [.Tuple [.Name x px, .Name y py] kt pt] (.Tuple [a, b] k2 pt2) pos) (dPar i j dr) := ps_imp (ps_par hc hN hi hj hij hx hy ha hw hs) fun E σ H ⟨M, ρ, f, o, ρ', rs, hd, k⟩ => by
  obtain ⟨⟨rvs, ρ1⟩, h1, hd⟩ := Option.bind_eq_some_iff.mp hd
  dsimp only at hd
  split at hd
  · rename_i x y
    split at hd
    · rename_i c
      cases hd
      refine ⟨M, ρ, f, _, ρ1, rs, h1, fun vs M1 H1 f1 fws rs1 ok1 st1 => ?_⟩
      cases ok1 with
      | @cons _ v fw _ _ _ ok1 okr dj =>
        cases okr with
        | @cons _ v2 fw2 _ _ _ ok2 okr2 _ =>
          cases okr2
          refine ⟨v, v2, rfl, ?_⟩
          obtain ⟨w1, n1, q1⟩ := ok1
          obtain ⟨w2, n2, q2⟩ := ok2
          have r2 := rs1.store c.1 w1 n1 fun a ha => ⟨(q1 a ha).1, (q1 a ha).2.1⟩
          have r3 := r2.store (i := j) (x := y) (fw := fw2) (by simpa using c.2.1) w2 n2 fun a ha => ⟨(q2 a ha).1, fun kk hk => by
            by_cases e : kk = i
            · rw [e, fpSet_same] at hk
              exact dj a hk fw2 (by simp) ha
            · rw [fpSet_ne e] at hk
              exact (q2 a ha).2.1 kk hk⟩
          refine k _ M1 H1 _ r3 ((st1.store fun a ha => (q1 a ha).2.2).store fun a ha => (q2 a ha).2.2) ?_
          intro jj hjj
          show ((σ.set i (some v)).set j (some v2))[jj]? = σ[jj]?
          rw [List.getElem?_set_ne (by omega), List.getElem?_set_ne (by omega)]
    · cases hd
  · cases hd

/-! ### a dict of no pair, of one pair with an int as its key -/
def dDict0 : Den Rv := fun ρ => some (.val (.dct []), ρ)
def dDict1 (dk dv : Den Rv) : Den Rv := fun ρ => (dk ρ).bind fun x => (viewR x.2 x.1).bind fun y => match y with
  | .int i => (dSh dv x.2).map fun z => (.val (.dct [(.int i, z.1)]), z.2)
  | _ => Option.none
/-- a dict's description, its entries told one by one -/
theorem dk_raw {P : Program} {w : World} {H : Hp} {h : Heap} {p : Addr} {kvs : List (Key × V)} (hok : HOk P w H h) (e : H p = some (.dK kvs)) :
    ∃ (o : Obj) (es : Array DictEntry) (ep : Nat), h.get? p = some o ∧ o.ExactDict ∧ o.data = .dict es ep ∧ es.size ≤ sizeLine ∧ (p == sysModules) = false ∧
      Paired (fun (en : DictEntry) (kv : Key × V) => RelV (kV kv.1) en.key ∧ en.hash = keyH w kv.1 ∧ RelV kv.2 en.val) es.toList kvs := by
  obtain ⟨hl, hs, vs, rk, o, es, ep, ho, hx, hd, hK, hP, hn⟩ := dk_of hok e
  have key : ∀ {l : List DictEntry} {vs : List (Key × Value)} {kvs : List (Key × V)}, (∀ en ∈ l, en ∈ es.toList) → Pairs (mixKind P w) l vs → KV kvs vs → Paired (fun (en : DictEntry) (kv : Key × V) => RelV (kV kv.1) en.key ∧ en.hash = keyH w kv.1 ∧ RelV kv.2 en.val) l kvs := by
    intro l
    induction l with
    | nil =>
      intro vs kvs _ p r
      cases p
      cases r
      exact .nil
    | cons en l ih =>
      intro vs kvs sub p r
      cases p with
      | cons p1 p2 p3 =>
        cases r with
        | cons r1 r2 =>
          refine .cons ?_ (ih (fun x hx => sub x (List.mem_cons_of_mem _ hx)) p3 r2)
          obtain ⟨k', hk1, hk2⟩ := hK en (by simpa using sub en List.mem_cons_self)
          obtain ⟨e1, e2⟩ := r1
          have e3 := (mixKind P w).inj en.key _ _ hk1 p1
          refine ⟨?_, by rw [hk2, e3, e1]; rfl, by rw [p2]; exact e2⟩
          rw [e1]
          rcases keyIs_shape p1 with ⟨i, t, q1, q2⟩ | ⟨x, t, q1, q2⟩
          · rw [q1, q2]; exact ⟨t, rfl⟩
          · rw [q1, q2]; exact ⟨t, rfl⟩
  have r := key (fun _ h => h) hP rk
  refine ⟨o, es, ep, ho, hx, hd, ?_, hs, r⟩
  have := Paired.length r
  simp only [Array.length_toList] at this
  omega
theorem raw_ok {P : Program} {w : World} {H : Hp} {h : Heap} {p : Addr} {o : Obj} {es : Array DictEntry} {ep : Nat} (ho : h.get? p = some o) (hx : o.ExactDict) (hd : o.data = .dict es ep) (hl : es.size ≤ sizeLine) (hs : (p == sysModules) = false) : ObjOk P w H h p (RawD p es ep) :=
  ⟨⟨o, ho, hx, hd, hl, hs⟩, ⟨o, ho⟩, fun _ _ ⟨o, q, r⟩ k => ⟨o, k o q, r⟩⟩
theorem inv_raw {X : Cx} {pins : List (Addr × Obj)} {σ : L2.St} {H : Hp} {s : Shared} {p : Addr} {kvs : List (Key × V)} (I : Inv X pins σ (upd H p (.dK kvs)) s) :
    ∃ (es : Array DictEntry) (ep : Nat), Paired (fun (en : DictEntry) (kv : Key × V) => RelV (kV kv.1) en.key ∧ en.hash = keyH X.w kv.1 ∧ RelV kv.2 en.val) es.toList kvs ∧ Inv X pins σ (upd H p (RawD p es ep)) s := by
  obtain ⟨o, es, ep, ho, hx, hd, hl, hs, r⟩ := dk_raw I.hok upd_same
  refine ⟨es, ep, r, ?_⟩
  have J := I.write (t' := s.toks) (x := p) (e := p) (o := RawD p es ep) (h' := s.heap) (by rw [upd_same]; exact True.intro) (.inl rfl) (fun _ _ _ z => z) ⟨o, ho⟩ (raw_ok ho hx hd hl hs)
  rw [upd_upd] at J
  exact J
theorem toKey_hash {w : World} {k : Key} : ∀ {d : D} {M : Addr → Prop} {H : Hp} {K : PySem.W.Frag} {cl : Nat → Addr}, Is w K cl M H (kV k) d → ∃ n, toKey d = some n ∧ n.depth ≤ 8 ∧ keyH w k = n.hash w := by
  intro d M H K cl h
  cases k with
  | inl i =>
    cases h
    exact ⟨.num i, rfl, Nat.zero_le _, rfl⟩
  | inr x =>
    cases h
    exact ⟨.text x, rfl, Nat.zero_le _, rfl⟩
theorem de_dict0 : DE cl X (.Dict [] [] pos) dDict0 := ⟨fun pins s σ H Q I ⟨M, ρ, f, rv, ρ', rs, hd, k⟩ => by
  refine wpAny_mono (pe_dnewK.run pins s σ H (fun v H' => ∃ p, H p = none ∧ v = .ref p ∧ H' = upd H p (.dK [])) I fun p np => ⟨p, np, rfl, rfl⟩) (fun u s' z => ?_) fun _ _ z => z
  obtain ⟨v, H', I', rv', p, np, ev, eH⟩ := z
  subst ev
  subst eH
  cases hd
  obtain ⟨es, ep, r, J⟩ := inv_raw I'
  have e0 : es.toList = [] := by
    cases q : es.toList with
    | nil => rfl
    | cons a l => rw [q] at r; cases r
  obtain ⟨r2, s2⟩ := rs.newM np (RawD p es ep)
  exact ⟨.ref p, _, J, rv', k (.ref p) _ _ _ [p] r2 ⟨.dct upd_same (by rw [e0]; exact .nil) List.nodup_nil, (by simp), fun a ha => by
    have e : a = p := by simpa using ha
    subst e
    exact ⟨.inr rfl, rs.not_in np, np⟩⟩ s2⟩⟩
theorem de_dict1 (hk : DE cl X a da) (hv : DE cl X b db) : DE cl X (.Dict [some a] [b] pos) (dDict1 da db) := ⟨fun pins s σ H Q I ⟨M, ρ, f, rv, ρ', rs, hd, k⟩ => by
  obtain ⟨⟨x, ρ1⟩, h1, hd⟩ := Option.bind_eq_some_iff.mp hd
  obtain ⟨dx, h2, hd⟩ := Option.bind_eq_some_iff.mp hd
  dsimp only at hd
  split at hd
  · rename_i i
    obtain ⟨⟨z, ρ2⟩, h3, hd⟩ := Option.map_eq_some_iff.mp hd
    cases hd
    refine wpAny_mono ((pe_disp (X := X) (pos := pos) (pps_cons hk (de_sh hv) pps_nil) rfl rfl (by simp) (by simp)).run pins s σ H (fun v H' => ∃ (p : Addr) (H2 : Hp) (vv : V), v = .ref p ∧ H' = upd H2 p (.dK [(.inl i, vv)]) ∧
      ∀ (es : Array DictEntry) (ep : Nat), Paired (fun (en : DictEntry) (kv : Key × V) => RelV (kV kv.1) en.key ∧ en.hash = keyH X.w kv.1 ∧ RelV kv.2 en.val) es.toList [(Sum.inl i, vv)] → Q (.ref p) (upd H2 p (RawD p es ep))) I fun p np => ?_) (fun u s' z => ?_) fun _ _ z => z
    · obtain ⟨r2, s2⟩ := rs.newM np (.dK [])
      refine ⟨_, ρ, f, x, _, r2, h1, fun v1 M1 H1 f1 fw1 rs1 ok1 st1 => ⟨M1, _, f1, z, _, rs1, h3, fun v2 M2 H2 f2 rs2 is2 st2 => ?_⟩⟩
      have e1 : v1 = V.int i := is_int (ok1.view rs1 h2)
      subst e1
      have n0 : ∀ k, p ∉ f k := rs.not_in np
      have n1 : ∀ k, p ∉ f1 k := fun k hk => by
        rcases st1.own k p hk with y | y
        · exact n0 k y
        · rw [upd_same] at y; cases y
      have p1 : H1 p = some (.dK []) := st1.keep p _ upd_same n0
      have n2 : ∀ k, p ∉ f2 k := fun k hk => by
        rcases st2.own k p hk with y | y
        · exact n1 k y
        · rw [p1] at y; cases y
      have p2 : H2 p = some (.dK []) := st2.keep p _ p1 n1
      have m2 : M2 p := st2.prot p (st1.prot p (.inr rfl) n0) n1
      refine ⟨p2, [(.inl i, v2)], rfl, by simp, p, H2, v2, rfl, rfl, fun es ep r => ?_⟩
      have st : Step M H f M2 H2 f2 := (s2.trans rs.trk st1).trans rs.trk st2
      refine k (.ref p) M2 _ f2 [p] (rs2.poke m2 n2 (RawD p es ep)) ⟨.dct upd_same ?_ (by simp [keysD, toKey]), by simp, fun a ha => ?_⟩ (st.poke np)
      · cases q : es.toList with
        | nil => rw [q] at r; cases r
        | cons en l =>
          rw [q] at r
          cases r with
          | cons r1 r2 =>
            cases r2
            exact .cons r1.1 (.int i) rfl (Nat.zero_le _) r1.2.1 r1.2.2 (is2.stay (ext_poke m2)) .nil
      · have e : a = p := by simpa using ha
        subst e
        exact ⟨m2, n2, np⟩
    · obtain ⟨v, H', I', rv', p, H2, vv, ev, eH, kk⟩ := z
      subst ev
      subst eH
      obtain ⟨es, ep, r, J⟩ := inv_raw I'
      exact ⟨.ref p, _, J, rv', kk es ep r⟩
  · cases hd⟩
end
end Ws
set_option Elab.async false
set_option linter.all false
set_option maxRecDepth 100000
set_option maxHeartbeats 4000000
/-! Ws17: exceptions raised and caught. -/
namespace Ws
open PySem PySem.Spec PyProof.Rows L2

/-! ### raised: C(e, ..) is let go -/
def tXr (C : Addr) (sp : Sp) (ta : TA) : L2.St → Hp → XK → Prop := fun σ H Q => ta σ H fun vs H1 => vs.length ≤ 1000 ∧ ∀ a, H1 a = none → sp (.ref a :: vs) (upd H1 a (exo a C none))
  (fun v H2 => v = .non ∧ ((H2 a = some (exo a C none) ∧ Q (.ref C) none (del H2 a)) ∨ ∃ (d : Addr) (fs : List (Str × V)), H2 a = some (exo a C (some d)) ∧ H2 d = some (exd d fs) ∧ H1 d = none ∧ Q (.ref C) (some d) (upd (del H2 a) d (.xd fs)))) (fun _ _ _ => False)
theorem mk_endN {X : Cx} {pins : List (Addr × Obj)} {σ : L2.St} {H1 H2 : Hp} {Q : XK} {hp hp2 h2 : Heap} {g1 g2 : Array GenState} {d1 d2 : Drawn} {t1 t2 : Nat} {os1 os2 : OsState} {a C : Addr} (T : Raises X (.ref C)) (I1 : Inv X pins σ H1 ⟨hp, g1, d1, t1, os1⟩)
    (ha : hp.objs.size ≤ a) (k : ∀ b o, hp.get? b = some o → hp2.get? b = some o) (un : Un (frs X.stack) [] (upd H1 a (exo a C none)) H2 hp2 h2) (hok : HOk X.prog X.w H2 h2) (ho : os2 = os1) (hb : AllBare g2)
    (ea : H2 a = some (exo a C none)) (q : Q (.ref C) none (del H2 a)) : MkP X pins σ Q (.ref a) ⟨h2, g2, d2, t2, os2⟩ := by
  obtain ⟨t0, hoe⟩ := exo_at hok ea
  have hn : H1 a = none := I1.hok.fresh ha
  obtain ⟨G, g1', g2'⟩ := restrict h2 fun b => decide (b ≠ a)
  have gk : ∀ b, b ≠ a → G.get? b = h2.get? b := fun b hb => g1' b (decide_eq_true hb)
  have ge : G.get? a = none := g2' a (by simp)
  have nha : ∀ {b : Addr} {o : Obj}, hp.get? b = some o → b ≠ a := fun {b o} z => Nat.ne_of_lt (Nat.lt_of_lt_of_le (Heap.lt_size z) ha)
  have up : ∀ {b : Addr}, b ≠ a → H1 b = none → upd H1 a (exo a C none) b = none := fun {b} hb n => by rw [upd_ne hb]; exact n
  have U : Un (frs X.stack) [] H1 (del H2 a) hp G := {
    keep := fun b o z n hf hx => by
      rw [gk b (nha z)]
      exact un.keep b o (k b o z) (up (nha z) n) hf hx
    slot := fun b o z n hf hx => by
      rw [gk b (nha z)]
      exact un.slot b o (k b o z) (up (nha z) n) hf hx
    free := fun b o z n hx => by
      rw [del_ne (nha z)]
      exact un.free b o (k b o z) (up (nha z) n) hx
    there := fun b o z hx => by
      rw [gk b (nha z)]
      exact un.there b o (k b o z) hx
    tups := fun b xs z => by
      rw [del_ne (ne_of_none z hn)]
      exact un.tups b xs (by rw [upd_ne (ne_of_none z hn)]; exact z)
    frzs := fun b o v z => by
      rw [del_ne (ne_of_none z hn)]
      exact un.frzs b o v (by rw [upd_ne (ne_of_none z hn)]; exact z)
    tbls := fun b ps z => by
      rw [del_ne (ne_of_none z hn)]
      exact un.tbls b ps (by rw [upd_ne (ne_of_none z hn)]; exact z) }
  have hok3 : HOk X.prog X.w (del H2 a) G := fun b o z => by
    have hba : b ≠ a := fun e => by
      rw [e, del_same] at z
      cases z
    rw [del_ne hba] at z
    have noa : ∀ {c : Addr}, H2 c = some (.own b) → c ≠ a := fun {c} hc => at_ne ea hc exo_own
    exact (hok b o z).stay (fun c v hc y => by
        have hca : c ≠ a := by
          rcases hc with hc | hc
          · rw [hc]
            exact hba
          · exact noa hc
        rw [gk c hca]
        exact y)
      (fun c hc => by rw [del_ne (noa hc)]; exact hc) (fun c xs hc => by rw [del_ne (at_ne ea hc exo_tup)]; exact hc)
  have J : Inv X pins σ (del H2 a) ⟨G, g2, d2, t2, os2⟩ := I1.call' (ch := []) ho U hok3 hb (fun b z => absurd z (by simp))
  exact ⟨a, _, _, ⟨G, g2, d2, t2, os2⟩, _, .ref C, none, rfl, J, fun b o z => by
    by_cases hba : b = a
    · rw [hba, ge] at z
      cases z
    · exact (gk b hba).symm.trans z, ge, hoe, ⟨rfl, rfl⟩, rfl, rfl, del_same, rfl, hb, T, q⟩
section
variable {X : Cx} {x : Str} {e : Expr} {es : List Expr} {ta : TA} {p pos : Pos} {C fI : Addr} {k : Nat} {fd : FuncData} {ps : List Str} {sp : Sp} {CX : CXT}
theorem run_xr {pins : List (Addr × Obj)} {σ : L2.St} {H1 : Hp} {s : Shared} {Q : XK} {us : List Value} {vs : List V} (T : XC X.K C) (iC : PySem.W.findIn X.K (.ref C) "__init__" = some (some (.ref fI))) (tI : PySem.W.typeIn X.K (.ref fI) = some (.type "function"))
    (F1 : FnOk X.prog X.w X.K X.mg X.base CX k fI fd ps sp) (hr : Room (k + 1) X.A) (hb : Binds X.K fd ps []) (hx : Passes CX X (fun _ _ _ => False)) (I1 : Inv X pins σ H1 s) (r1 : Vals vs us) (l3 : vs.length ≤ 1000)
    (q1 : ∀ a, H1 a = none → sp (.ref a :: vs) (upd H1 a (exo a C none)) (fun v H2 => v = .non ∧ ((H2 a = some (exo a C none) ∧ Q (.ref C) none (del H2 a)) ∨ ∃ (d : Addr) (fs : List (Str × V)), H2 a = some (exo a C (some d)) ∧ H2 d = some (exd d fs) ∧ H1 d = none ∧ Q (.ref C) (some d) (upd (del H2 a) d (.xd fs)))) (fun _ _ _ => False)) :
    wpAny (model X.prog X.w) X.A (call (.ref C) us) (MkP X pins σ Q) X.xe s := by
  obtain ⟨B, ni, ii, tl, T⟩ := T
  obtain ⟨nm, q, N, bs, bm, sn, sub, ab, col, dd, k0, k1, k2, k3, k5, hC, hbm⟩ := T.cls
  obtain ⟨hp, g', dr, tk, os⟩ := s
  have hsz : hp.objs.size ≤ hp.objs.size + 1 := Nat.le_succ _
  have hn : H1 (hp.objs.size + 1) = none := I1.hok.fresh hsz
  have hq := q1 (hp.objs.size + 1) hn
  have kk : ∀ b o, hp.get? b = some o → ((hp.push (PySem.W.kdv_tup us)).push (PySem.HandSPX.excO C hp.objs.size)).get? b = some o := fun b o e => Heap.get?_push_of_some _ (Heap.get?_push_of_some _ e)
  have hget : ((hp.push (PySem.W.kdv_tup us)).push (PySem.HandSPX.excO C hp.objs.size)).get? (hp.objs.size + 1) = some (PySem.HandSPX.excO C hp.objs.size) := by heap_get
  have I2 : Inv X pins σ (upd H1 (hp.objs.size + 1) (exo (hp.objs.size + 1) C none)) ⟨(hp.push (PySem.W.kdv_tup us)).push (PySem.HandSPX.excO C hp.objs.size), g', dr, tk, os⟩ :=
    I1.laid (t' := tk) (a := hp.objs.size + 1) (o := exo (hp.objs.size + 1) C none) (h' := (hp.push (PySem.W.kdv_tup us)).push (PySem.HandSPX.excO C hp.objs.size)) kk hsz (exo_ok hget)
  have r2 : Vals (V.ref (hp.objs.size + 1) :: vs) (Value.ref (hp.objs.size + 1) :: us) := .cons rfl r1
  have hl : (Value.ref (hp.objs.size + 1) :: us ++ []).length = ps.length := by
    have e := r2.length
    rw [F1.len _ _ _ _ hq] at e
    rw [List.append_nil]
    exact e.symm
  have hus : us.length ≤ sizeLine := by
    rw [← Paired.length r1, sizeLine_eq]
    omega
  refine wpAny_call (PySem.HandSPX.call_own T.xb.F (fun Y => refsT_contains Y bm hbm) (I1.kIn _ _ hC) (PySem.W.looks_findIn I1.kIn iC) (fun self => PySem.W.bind_fn I1.kIn self tI) hus
    (codeAny_mono (F1.run _ X.stack _ _ ⟨Value.ref (hp.objs.size + 1) :: us, []⟩ (Value.ref (hp.objs.size + 1) :: us) _ _ (fun _ _ _ => False) (hr.make C us []) (I2.env0.make C us []) (by have := hb _ (Value.ref (hp.objs.size + 1) :: us) I2.kIn hl; rw [List.append_nil] at this; exact this) r2 hq) fun r s' hq' => ?_))
  cases r with
  | error er => exact hx pins σ _ _ er s' I2 hq'
  | ok fl =>
    cases fl with
    | ret u =>
      obtain ⟨v, H2, os2, bare2, un2, hok2, rv, ev, q2⟩ := hq'
      subst ev
      obtain ⟨h2, g2, d2, t2, os'⟩ := s'
      rcases q2 with ⟨ea, q2⟩ | ⟨d, fs, ea, ed, hd1, q2⟩
      · exact ⟨rv, mk_endN (raises_own T.exC T.tyC) I1 hsz kk un2 hok2 os2 bare2 ea q2⟩
      · exact ⟨rv, mk_end (raises_own T.exC T.tyC) I1 hsz kk un2 hok2 os2 bare2 ea ed hd1 q2⟩
    | next => exact False.elim hq'
    | brk => exact False.elim hq'
    | cont => exact False.elim hq'
theorem pmk_xr (T : XC X.K C) (iC : PySem.W.findIn X.K (.ref C) "__init__" = some (some (.ref fI))) (tI : PySem.W.typeIn X.K (.ref fI) = some (.type "function"))
    (F1 : FnOk X.prog X.w X.K X.mg X.base CX k fI fd ps sp) (hr : Room (k + 1) X.A) (hb : Binds X.K fd ps []) (hx : Passes CX X (fun _ _ _ => False)) (hg : Gl X x) (hm : X.mg x = some (.ref C)) (ha : PA X (e :: es) ta)
    (hdb : (x == ("__debug__" : Str)) = false := by decide) (he : starEach (e :: es) X.env = (false, eval e X.env) :: starEach es X.env := by rfl) (hpl : (backTo pos (starEach es X.env)).any (·.1) = false := by rfl) :
    PMk X (.Call (.Name x p) (e :: es) [] pos) (tXr C sp ta) := by
  intro pins s σ H Q I h
  have kC : PySem.W.keepIn X.K (.ref C) = true := by obtain ⟨B, ni, ii, tl, T⟩ := T; exact T.kC
  refine wpAny_Call_Name_kw (ld_glob I hg hm ?_ hdb)
  exact PySem.W.callWith_K (h₀ := X.base) I.ok.mod.kin kC (thn (ha.run pos pins s σ H _ I h) fun us s1 ⟨vs, H1, I1, r1, hz, q1⟩ => ⟨I1.kIn, run_xr T iC tI F1 hr hb hx I1 r1 hz q1⟩) he hpl
theorem pmk_xr0 (T : XC X.K C) (iC : PySem.W.findIn X.K (.ref C) "__init__" = some (some (.ref fI))) (tI : PySem.W.typeIn X.K (.ref fI) = some (.type "function"))
    (F1 : FnOk X.prog X.w X.K X.mg X.base CX k fI fd ps sp) (hr : Room (k + 1) X.A) (hb : Binds X.K fd ps []) (hx : Passes CX X (fun _ _ _ => False)) (hg : Gl X x) (hm : X.mg x = some (.ref C))
    (hdb : (x == ("__debug__" : Str)) = false := by decide) : PMk X (.Call (.Name x p) [] [] pos) (tXr C sp tNil) := by
  intro pins s σ H Q I h
  have kC : PySem.W.keepIn X.K (.ref C) = true := by obtain ⟨B, ni, ii, tl, T⟩ := T; exact T.kC
  refine wpAny_Call_Name_kw (ld_glob I hg hm ?_ hdb)
  exact PySem.W.callWith_K0 I.kIn kC (run_xr (us := []) (vs := []) T iC tI F1 hr hb hx I .nil (by simp) h.2)
end

/-! ### try .. except C as n: .., the caught exception told in the abstract heap -/
theorem Inv_track {X : Cx} {pins : List (Addr × Obj)} {σ : L2.St} {H : Hp} {s : Shared} {a : Addr} {o : HO} (I : Inv X pins σ H s) (na : H a = none) (n0 : X.s_0.heap.get? a = none) (nL : a ≠ X.env.locals) (nC : ∀ x c, X.env.cells.lookup x = some c → c ≠ a)
    (np : ∀ p ∈ X.pn ++ pins, p.1 ≠ a) (new : ObjOk X.prog X.w (upd H a o) s.heap a o) : Inv X pins σ (upd H a o) s := by
  refine ⟨I.ok, I.os, I.bare, ⟨I.base.keep, I.base.slot, fun b ob e n hx => ?_, I.base.there, fun b xs e => ?_, fun b ob u e => ?_, fun b ps e => ?_⟩, I.loc, I.cell, by rw [upd_ne (Ne.symm nL)]; exact I.free, fun x c e => by rw [upd_ne (nC x c e)]; exact I.freeC x c e,
    fun p hp => ?_, fun b ob e => ?_, I.len⟩
  · have hb : b ≠ a := fun z => by rw [z, n0] at e; cases e
    rw [upd_ne hb]
    exact I.base.free b ob e n hx
  · have q := I.base.tups b xs e
    rw [upd_ne (ne_of_none q na)]
    exact q
  · have q := I.base.frzs b ob u e
    rw [upd_ne (ne_of_none q na)]
    exact q
  · obtain ⟨m, q⟩ := I.base.tbls b ps e
    exact ⟨m, by rw [upd_ne (ne_of_none q na)]; exact q⟩
  · obtain ⟨h1, h2, h3, h4, h5⟩ := I.pin p hp
    exact ⟨h1, by rw [upd_ne (np p hp)]; exact h2, h3, h4, h5⟩
  · by_cases hb : b = a
    · subst hb
      rw [upd_same] at e
      cases e
      exact new
    · rw [upd_ne hb] at e
      exact (I.hok b ob e).stay (fun _ _ _ z => z) (fun c hc => by rw [upd_ne (ne_of_none hc na)]; exact hc) (fun c xs hc => by rw [upd_ne (ne_of_none hc na)]; exact hc)
theorem Inv_suite {X : Cx} {pins : List (Addr × Obj)} {σ : L2.St} {H : Hp} {s : Shared} (I : Inv X pins σ H s) (a : Addr) : Inv (X.suite a (X.pn ++ pins)) [] σ H s :=
  ⟨I.ok.suite _ _, I.os, I.bare, I.base, I.loc, I.cell, I.free, I.freeC, fun p hp => I.pin p (by rw [List.append_nil] at hp; exact hp), I.hok, I.len⟩
theorem Inv_unsuite {X : Cx} {pins pn' : List (Addr × Obj)} {σ : L2.St} {H : Hp} {s : Shared} {a : Addr} (I : Inv (X.suite a (X.pn ++ pins)) pn' σ H s) (ok : X.Ok) : Inv X pins σ H s :=
  ⟨ok, I.os, I.bare, I.base, I.loc, I.cell, I.free, I.freeC, fun p hp => I.pin p (List.mem_append_left _ hp), I.hok, I.len⟩
def offE (D : Ends) (i : Nat) : Ends := { nx := fun σ' H' => D.nx (σ'.set i none) H', rt := D.rt, bk := fun σ' H' => D.bk (σ'.set i none) H', ct := fun σ' H' => D.ct (σ'.set i none) H' }
/-- what the clauses wish of an exception of the body -/
def wCatch (K : PySem.W.Frag) (Wout : WX) (D : Ends) : List (Value × Nat × TS) → WX
  | [] => Wout
  | (c, i, ts) :: r => fun cls d σ H => ∃ b, PySem.W.exmOne K cls c = some b ∧ (b = true → ∃ C, cls = .ref C ∧ ∀ a, H a = none → ts (offE D i) (σ.set i (some (.ref a))) (upd H a (ExV a C d))) ∧ (b = false → wCatch K Wout D r cls d σ H)
inductive HdsV (X : Cx) : List ExceptHandler → List (Value × Nat × TS) → Prop
  | nil : HdsV X [] []
  | cons {x n : Str} {c : Value} {i : Nat} {ts : TS} {b₀ : Stmt} {suite : List Stmt} {np pos' : Pos} {hds : List ExceptHandler} {l : List (Value × Nat × TS)} (hc : Names X x c) (hi : X.N[i]? = some n) (hln : X.env.kindOf n = some .local)
      (hsu : ∀ (a : Addr) (pn : List (Addr × Obj)), PSs (X.suite a pn) (b₀ :: suite) ts) (r : HdsV X hds l) :
      HdsV X (.ExceptHandler (some (.Name x np)) (some n) (b₀ :: suite) pos' :: hds) ((c, i, ts) :: l)
section
variable {X : Cx} {body : List Stmt} {h₀ : ExceptHandler} {hds : List ExceptHandler} {l : List (Value × Nat × TS)} {pos : Pos} {tb : WX → TS} {Wout : WX}
theorem ps_tryV (hs : X.stack = X.env :: X.outer) (hf : X.env.frame = some X.env.locals) (hex : X.ex = []) (hN : X.N.Nodup) (tk : Takes X Wout)
    (hb : ∀ (W : WX) (pn : List (Addr × Obj)) (xe : Value → Shared → Prop), Takes (X.tr pn xe) W → PassesOwn (model X.prog X.w) X.A X.env xe → PSs (X.tr pn xe) body (tb W))
    (hh : HdsV X (h₀ :: hds) l) : PS X (.Try body (h₀ :: hds) [] [] pos) (fun D σ H => tb (wCatch X.K Wout D l) D σ H) := by
  refine ⟨fun pins s σ H D I h => ?_⟩
  have ok := I.ok
  have hfr : X.A.frames = some (X.env :: X.outer) := by rw [ok.frames, hs]
  refine wpAny_Try_except ?_
  refine wpAny_mono ((hb (wCatch X.K Wout D l) (X.pn ++ pins) (fun e s₁ => wpAny (model X.prog X.w) X.A (noteFrame e X.env) (fun _ s₂ => wpAny (model X.prog X.w) X.A (setFlight e none) (fun _ s₃ =>
    wpAny (model X.prog X.w) X.A (handleBy e X.env (h₀ :: hds)) (SP X pins D) X.xe s₃) X.xe s₂) X.xe s₁) (fun u s' xx => ?_) PassesOwn.looking).run [] s σ H D (I.toTry _) h) (fun f s1 hsp => ?_) (fun e s1 he => he)
  · obtain ⟨a, B, sI, pins', σ', H', cls, d, rfl, J', nb, up, sky, na, os, ag, w⟩ := xx
    have J : Inv X pins σ' H' sI := J'.ofTry ok
    have sky' : Sky B (X.env :: X.outer) a (Zc cls d) X.env.locals s'.heap := by rw [← hs]; exact sky
    show wpAny (model X.prog X.w) X.A (noteFrame (.ref a) X.env) _ _ _
    refine Sky.land Zc.steady hfr hf sky' fun h3 fl3 up3 => ?_
    have J3 : Inv X pins σ' H' { s' with heap := h3 } := J.landed nb fl3.1 (up.trans up3) os ag
    obtain ⟨oe3, vs3, he3, hz3, hd3⟩ := fl3.there
    have notFr : ∀ {h : Heap} {o : Obj} {vs : Array Value}, h.FunFrames B (X.env :: X.outer) → h.get? a = some o → o.data = .fields vs → a ∉ frs (X.env :: X.outer) := fun {h o vs} ff e dd hm => by
      obtain ⟨_, o', e', hnf⟩ := ff.mem hm
      rw [e] at e'; cases e'
      exact hnf _ dd
    have nfr := notFr fl3.2.2.1 he3 hd3
    have nL : a ≠ X.env.locals := fun z => nfr (List.mem_filterMap.mpr ⟨X.env, List.mem_cons_self, by rw [hf, z]⟩)
    have nI : sI.heap.get? a = none := by
      cases q : sI.heap.get? a with
      | none => rfl
      | some o =>
        have z := nb a o q (by rw [hs]; exact nfr)
        rw [fl3.2.1] at z
        cases z
    have n0 : X.s_0.heap.get? a = none := by
      cases q : X.s_0.heap.get? a with
      | none => rfl
      | some o =>
        obtain ⟨o', z⟩ := J.base.there a o q (by rw [hex]; simp)
        rw [nI] at z
        cases z
    have nC : ∀ x c, X.env.cells.lookup x = some c → c ≠ a := fun x c hc z => by
      obtain ⟨v, q⟩ := J.cell x c hc
      subst z
      obtain ⟨o, q1, _⟩ := q
      rw [nI] at q1
      cases q1
    have npn : ∀ p ∈ X.pn ++ pins, p.1 ≠ a := fun p hp z => by
      have q := (J.pin p hp).1
      rw [z, nI] at q
      cases q
    have go : ∀ {hds' : List ExceptHandler} {l' : List (Value × Nat × TS)}, HdsV X hds' l' → wCatch X.K Wout D l' cls d σ' H' →
        wpAny (model X.prog X.w) X.A (handleBy (.ref a) X.env hds') (SP X pins D) X.xe { s' with heap := h3 } := by
      intro hds' l' hk
      induction hk with
      | nil =>
        intro w
        refine wpAny_handleBy_nil ?_
        obtain ⟨k1, k2, k3, oe, vs, T, oT, ts', he, hz, hd, h1, hr⟩ := id fl3
        unfold PySem.passOn
        refine wpAny_bind (wpAny_field he hd h1 ?_)
        rw [if_neg (show ¬ ((Value.ref T == Value.none) = true) from by simp)]
        have fin : wpAny (model X.prog X.w) X.A (setFlight (.ref a) X.env.frame) (fun _ s4 => wpAny (model X.prog X.w) X.A (throw (.ref a) : Sem Flow) (SP X pins D) X.xe s4) X.xe { s' with heap := h3 } := by
          rw [hf]
          refine HandSPX.setFlight_upZ fl3 fun h4 hh4 up4 => wpAny_throw (tk _ _ ?_)
          exact ⟨a, B, sI, pins, σ', H', cls, d, rfl, J, nb, (up.trans up3).trans up4, .inr (.inr (by rw [hs]; exact hh4)), na, os, ag, w⟩
        first
          | exact wpAny_bind (wpAny_pure (wpAny_bind fin))
          | exact wpAny_bind fin
      | @cons x n c i ts b₀ suite np pos' hds2 l2 hc hi hln hsu r ih =>
        intro w
        obtain ⟨b, hb1, hyes, hno⟩ := w
        have hloc : Loc X.env.scope n := .inl hln
        refine wpAny_handleBy_cons (codeAny_handlers_test ?_) (by intro q; cases q)
        have LT : PySem.W.Looks (model X.prog X.w) h3 (typeOf (.ref a)) cls := fun A Q E s k q => wpAny_typeOf_ref (k _ _ he3) (by rw [hz3.1]; exact q)
        have LM := PySem.W.exm_one (M := model X.prog X.w) (J3.kIn) LT hb1
        have S3 := Inv_suite J3 a
        have test : ∀ {Q : Value → Shared → Prop} {E : Value → Shared → Prop}, Q c { s' with heap := h3 } → wpAny (model X.prog X.w) (X.A.mark (some (.ref a))) (eval (.Name x np) X.env) Q E { s' with heap := h3 } := fun {Q E} q => by
          obtain ⟨hg, hdbg, hm | ⟨hm, hv, hnn⟩⟩ := hc
          · exact ld_glob (X := X.suite a (X.pn ++ pins)) S3 hg hm q hdbg
          · exact ld_blt (X := X.suite a (X.pn ++ pins)) S3 hg hm hv q hnn hdbg
        refine test (LM.here ?_)
        cases b with
        | true =>
          refine codeAny_handlers_suite_as ?_
          refine HandSPX.lands_againZ fl3 fun h4 fl4 up4 => ?_
          have J4 : Inv X pins σ' H' { s' with heap := h4 } := J.landed nb fl4.1 ((up.trans up3).trans up4) os ag
          obtain ⟨oe4, vs4, he4, hz4, hd4⟩ := fl4.there
          obtain ⟨C, hC, q⟩ := hyes rfl
          have J5 := Inv_track J4 na n0 nL nC npn (exV_ok (C := C) (d := d) he4 (hz4.1.trans hC) hz4.2 hd4)
          have S4 := Inv_suite J5 a
          refine store_ok (X := X.suite a (X.pn ++ pins)) (v := .ref a) S4 hN hi hloc rfl (fun s5 S5 => ?_) (.inr hln)
          refine wpAny_mono ((hsu a (X.pn ++ pins)).run [] s5 _ _ _ S5 (q a na)) (fun f s6 hsp => ?_) (fun _ _ z => False.elim z)
          have end_ : ∀ {σ6 : L2.St} {H6 : Hp} {Q : Shared → Prop}, Inv (X.suite a (X.pn ++ pins)) [] σ6 H6 s6 → (∀ s7, Inv X pins (σ6.set i none) H6 s7 → Q s7) →
              wpAny (model X.prog X.w) X.A (do bindName X.env n .none; unbindBehindTheSuite X.env n pos') (fun _ s7 => Q s7) X.xe s6 := fun {σ6 H6 Q} S6 hq => gone_ok (Inv_unsuite S6 ok) hN hi hln hq
          cases f with
          | next =>
            obtain ⟨σ6, H6, S6, q6⟩ := hsp
            exact end_ S6 fun s7 J7 => ⟨_, _, J7, q6⟩
          | brk =>
            obtain ⟨σ6, H6, S6, q6⟩ := hsp
            exact end_ S6 fun s7 J7 => ⟨_, _, J7, q6⟩
          | cont =>
            obtain ⟨σ6, H6, S6, q6⟩ := hsp
            exact end_ S6 fun s7 J7 => ⟨_, _, J7, q6⟩
          | ret u =>
            obtain ⟨v6, σ6, H6, S6, r6, q6⟩ := hsp
            exact end_ S6 fun s7 J7 => ⟨_, _, _, J7, r6, q6⟩
        | false =>
          show wpAny _ X.A (handleBy (.ref a) X.env hds2) _ _ _
          exact ih (hno rfl)
    exact go hh w
  · cases f with
    | next =>
      obtain ⟨σ', H', J', q⟩ := hsp
      exact wpAny_execs_nil ⟨σ', H', J'.ofTry ok, q⟩
    | brk =>
      obtain ⟨σ', H', J', q⟩ := hsp
      exact ⟨σ', H', J'.ofTry ok, q⟩
    | cont =>
      obtain ⟨σ', H', J', q⟩ := hsp
      exact ⟨σ', H', J'.ofTry ok, q⟩
    | ret u =>
      obtain ⟨v, σ', H', J', r, q⟩ := hsp
      exact ⟨v, σ', H', J'.ofTry ok, r, q⟩
end
end Ws
set_option Elab.async false
set_option linter.all false
set_option maxRecDepth 100000
set_option maxHeartbeats 4000000
/-! Ws18: exceptions raised and caught, as data. -/
namespace Ws
open PySem PySem.Spec PyProof.Rows L2
abbrev Exn := Nat × List (Str × D)
/-- statements that raise -/
def tDX (w : World) (K : PySem.W.Frag) (cl : Nat → Addr) (np : Nat) (W : WX) (den : Den Exn) : TS := fun _ σ H => ∃ M ρ f x ρ', RS w K cl M ρ σ H f ∧ den ρ = some (x, ρ') ∧
  ∀ σ' fs d M' H' f', RS w K cl M' ρ' σ' H' f' → Step M H f M' H' f' → Par np σ σ' → XdAt M' H' d fs → IsF w K cl M' H' fs x.2 → W (.ref (cl x.1)) d σ' H'
abbrev DXs (cl : Nat → Addr) (np : Nat) (X : Cx) (W : WX) (sts : List Stmt) (den : Den Exn) : Prop := PSs X sts (tDX X.w X.K cl np W den)
abbrev DX (cl : Nat → Addr) (np : Nat) (X : Cx) (W : WX) (st : Stmt) (den : Den Exn) : Prop := PS X st (tDX X.w X.K cl np W den)
def dXr (c : Nat) (names : List Str) (d : Den (List D)) : Den Exn := fun ρ => (d ρ).bind fun r => (mkF names r.1).map fun gs => ((c, gs), r.2)
theorem del_upd {H : Hp} {a : Addr} {o : HO} (n : H a = none) : del (upd H a o) a = H := by
  funext b
  by_cases e : b = a
  · rw [e, del_same, n]
  · rw [del_ne e, upd_ne e]
theorem del_five {H : Hp} {a b : Addr} {o1 o2 o3 o5 : HO} (n : H a = none) (h : b ≠ a) : upd (del (upd (upd (upd H a o1) b o2) a o3) a) b o5 = upd H b o5 := by
  funext c
  by_cases e : c = b
  · subst e
    rw [upd_same, upd_same]
  · by_cases e2 : c = a
    · subst e2
      rw [upd_ne e, del_same, upd_ne e, n]
    · rw [upd_ne e, del_ne e2, upd_ne e2, upd_ne e, upd_ne e2, upd_ne e]
section
variable {cl : Nat → Addr} {np : Nat} {X : Cx} {W : WX} {k : Nat} {fI C : Addr} {c : Nat} {fd : FuncData} {ps names : List Str} {x : Str} {p pos rpos : Pos} {e : Expr} {es : List Expr} {dr : Den (List D)}
theorem dXr_imp {d : Den (List D)} {D : Ends} {σ : L2.St} {H : Hp} (hC : cl c = C) (hn : names.length ≤ 1000) (h : tDX X.w X.K cl np W (dXr c names d) D σ H) : tXr C (spInit C names) (tSA X.w X.K cl d) σ H fun cls d' H' => W cls d' σ H' := by
  obtain ⟨M, ρ, f, rv, ρ', rs, hd, k⟩ := h
  obtain ⟨⟨ds, ρ1⟩, h1, hd⟩ := Option.bind_eq_some_iff.mp hd
  obtain ⟨gs, h2, hd⟩ := Option.map_eq_some_iff.mp hd
  cases hd
  refine ⟨M, ρ, f, ds, ρ1, rs, h1, fun vs M1 H1 f1 rs1 is1 st1 => ?_⟩
  obtain ⟨fs, h3, if3⟩ := mkF_is is1 h2
  have hl : vs.length = names.length := by
    unfold mkF at h3
    by_cases c : vs.length = names.length
    · exact c
    · rw [if_neg c] at h3
      cases h3
  subst hC
  refine ⟨by omega, fun a na => ⟨a, vs, fs, rfl, upd_same, h3, ?_⟩⟩
  by_cases e : fs = []
  · refine .inl ⟨e, rfl, .inl ⟨upd_same, ?_⟩⟩
    rw [del_upd na]
    exact k σ fs none M1 H1 f1 rs1 st1 Par.refl (.inl ⟨rfl, e⟩) if3
  · refine .inr ⟨e, fun dx n0 ne => ⟨rfl, .inr ⟨dx, fs, upd_same, by rw [upd_ne ne, upd_same], by rw [upd_ne ne] at n0; exact n0, ?_⟩⟩⟩
    rw [del_five na ne]
    have nd : H1 dx = none := by rw [upd_ne ne] at n0; exact n0
    have r2 := rs1.new nd (.xd fs)
    exact k σ fs (some dx) M1 _ f1 r2.1 (st1.trans rs.trk r2.2) Par.refl (.inr ⟨dx, rfl, upd_same, notM_new nd rs1.trk⟩) (if3.stay (ext_new nd rs1.trk))
theorem dx_raise (hc : X.calm = true) (tk : Takes X W) (hC : cl c = C) (hn : names.length ≤ 1000) (T : XMk X.K C fI) (F1 : FnOk X.prog X.w X.K X.mg X.base CX0 k fI fd ps (spInit C names)) (hr : Room (k + 1) X.A) (hb : Binds X.K fd ps []) (hg : Gl X x) (hm : X.mg x = some (.ref C)) (ha : DA cl X (e :: es) dr)
    (hdb : (x == ("__debug__" : Str)) = false := by decide) (he : starEach (e :: es) X.env = (false, eval e X.env) :: starEach es X.env := by rfl) (hpl : (backTo pos (starEach es X.env)).any (·.1) = false := by rfl) :
    DX cl np X W (.Raise (some (.Call (.Name x p) (e :: es) [] pos)) none rpos) (dXr c names dr) :=
  ps_imp (ps_raise hc tk (pmk_xr T.t T.iC T.tI F1 hr hb pass0 hg hm ha hdb he hpl)) fun D σ H h => dXr_imp hC hn h
theorem dx_raise0 (hc : X.calm = true) (tk : Takes X W) (hC : cl c = C) (T : XMk X.K C fI) (F1 : FnOk X.prog X.w X.K X.mg X.base CX0 k fI fd ps (spInit C [])) (hr : Room (k + 1) X.A) (hb : Binds X.K fd ps []) (hg : Gl X x) (hm : X.mg x = some (.ref C))
    (hdb : (x == ("__debug__" : Str)) = false := by decide) :
    DX cl np X W (.Raise (some (.Call (.Name x p) [] [] pos)) none rpos) (dXr c [] dNil) :=
  ps_imp (ps_raise hc tk (pmk_xr0 T.t T.iC T.tI F1 hr hb pass0 hg hm hdb)) fun D σ H h => by
    have q := dXr_imp (names := []) hC (by decide) h
    obtain ⟨M, ρ, f, ds, ρ', rs, hd, k⟩ := q
    cases hd
    exact k [] M H f rs .nil Step.refl
theorem dxs_one {st : Stmt} {d : Den Exn} (h : DX cl np X W st d) : DXs cl np X W [st] d := pss_one h
/-- if c: .. raises; what is behind it raises -/
def dXif (t : Den Bool) (d1 d2 : Den Exn) : Den Exn := fun ρ => (t ρ).bind fun r => if r.1 = true then d1 r.2 else d2 r.2
theorem xd_step {w : World} {K : PySem.W.Frag} {den : Den Exn} {W : WX} {D' : Ends} {M M1 : Addr → Prop} {σ : L2.St} {H H1 : Hp} {f f1 : Fp} {ρ1 ρ' : Env} {x : Exn} (t0 : Trk M H) (st1 : Step M H f M1 H1 f1) (rs1 : RS w K cl M1 ρ1 σ H1 f1) (hd : den ρ1 = some (x, ρ'))
    (k : ∀ σ' fs d M' H' f', RS w K cl M' ρ' σ' H' f' → Step M H f M' H' f' → Par np σ σ' → XdAt M' H' d fs → IsF w K cl M' H' fs x.2 → W (.ref (cl x.1)) d σ' H') : tDX w K cl np W den D' σ H1 :=
  ⟨M1, ρ1, f1, x, ρ', rs1, hd, fun σ' fs d M' H' f' rs' st' par xd isf => k σ' fs d M' H' f' rs' (st1.trans t0 st') par xd isf⟩
theorem dxs_if {cnd : Expr} {a rest : List Stmt} {t : Den Bool} {d1 d2 : Den Exn} {ipos : Pos} (hc : DT cl X cnd t) (ha : DXs cl np X W a d1) (hb : DXs cl np X W rest d2) : DXs cl np X W (.If cnd a [] ipos :: rest) (dXif t d1 d2) :=
  pss_imp (pss_cons (ps_if hc ha pss_nil) hb) fun D σ H ⟨M, ρ, f, x, ρ', rs, hd, k⟩ => by
    obtain ⟨⟨b, ρ1⟩, h1, hd⟩ := Option.bind_eq_some_iff.mp hd
    refine ⟨M, ρ, f, b, ρ1, rs, h1, fun M1 H1 f1 rs1 st1 => ?_⟩
    cases b with
    | true =>
      rw [if_pos rfl] at hd ⊢
      exact xd_step (D' := D) rs.trk st1 rs1 hd k
    | false =>
      rw [if_neg (by simp)] at hd ⊢
      exact xd_step (D' := D) rs.trk st1 rs1 hd k
end

/-! ### a def that raises, at plain data -/
def spXX (w : World) (K : PySem.W.Frag) (cl : Nat → Addr) (den : List D → Option Exn) : Sp := fun vs H _ E => ∃ M ds x, IsL w K cl M H vs ds ∧ Trk M H ∧ den ds = some x ∧
  ∀ fs d M' H', Trk M' H' → XdAt M' H' d fs → IsF w K cl M' H' fs x.2 → Step M H (fun _ => []) M' H' (fun _ => []) → E (.ref (cl x.1)) d H'
def dFnX (np n : Nat) (body : Den Exn) : List D → Option Exn := fun ds => if ds.length = np then (body (ds.map (fun d => some (.leaf d)) ++ List.replicate (n - np) Option.none)).map (·.1) else Option.none
theorem leaf_args {w : World} {K : PySem.W.Frag} {cl : Nat → Addr} {M : Addr → Prop} {H : Hp} {vs : List V} {ds : List D} (h : IsL w K cl M H vs ds) (t : Trk M H) : ArgRS w K cl M (ds.map W.leaf) vs H (fun _ => []) := by
  refine ⟨fun i x hx => ?_, fun _ _ => rfl, fun _ => List.nodup_nil, (fun _ _ _ ha => nomatch ha), (fun _ _ ha => nomatch ha), t, by simpa using h.length.symm⟩
  rw [List.getElem?_map, List.getElem?_map] at hx
  cases e : ds[i]? with
  | none => rw [e] at hx; cases hx
  | some d =>
    rw [e] at hx
    cases hx
    obtain ⟨v, h1, h2⟩ := h.get e
    refine ⟨v, by rw [List.getElem?_map, h1]; rfl, .leaf h2⟩
theorem step_off {M M' : Addr → Prop} {H H' : Hp} {f' : Fp} (s : Step M H (fun _ => []) M' H' f') : Step M H (fun _ => []) M' H' (fun _ => []) := ⟨s.keep, s.there, s.prot, s.anti, fun _ _ h => nomatch h⟩
theorem fn_endX {w : World} {K : PySem.W.Frag} {cl : Nat → Addr} {np n : Nat} {vs : List V} {H : Hp} {N : List Str} {den : Den Exn} {Q : VK} {E : XK} {D' : Ends} (hN : N.length = n) (h : spXX w K cl (dFnX np n den) vs H Q E) : tDX w K cl np (fun cls d _ H' => E cls d H') den D' (L2.start N vs) H := by
  obtain ⟨M, ds, x, is, t, hd, k⟩ := h
  unfold dFnX at hd
  by_cases c : ds.length = np
  · rw [if_pos c] at hd
    obtain ⟨⟨x', ρ'⟩, h1, hd⟩ := Option.map_eq_some_iff.mp hd
    cases hd
    have a := leaf_args is t
    have r := a.start (np := np) (n := n) N hN (by simpa using c)
    rw [List.map_map] at r
    refine ⟨M, _, _, x', ρ', r, h1, fun σ' fs d M' H' f' rs' st' par xd isf => k fs d M' H' rs'.trk xd isf (step_off st')⟩
  · rw [if_neg c] at hd
    cases hd
section
variable {w : World} {K : PySem.W.Frag} {cl : Nat → Addr} {M M' : Addr → Prop} {ρ : Env} {σ : L2.St} {H H' : Hp} {f : Fp}
theorem RS.over (r : RS w K cl M ρ σ H f) (s : Step M H (fun _ => []) M' H' (fun _ => [])) (t : Trk M' H') : RS w K cl M' ρ σ H' f ∧ Step M H f M' H' f := by
  have kp : ∀ b o, H b = some o → H' b = some o := fun b o e => s.keep b o e fun _ h => nomatch h
  have ex : Ext M H M' H' := fun b o h m => ⟨kp b o h, fun z => by
    rcases s.anti b z with q | q
    · exact m q
    · rw [h] at q; cases q⟩
  refine ⟨⟨fun i x hx => ?_, r.none, r.nd, r.dj, fun i a ha => s.prot a (r.own i a ha) fun _ h => (nomatch h), t, r.len⟩, ⟨fun b o h _ => kp b o h, s.there, fun b m _ => s.prot b m fun _ h => (nomatch h), s.anti, fun _ _ h => .inl h⟩⟩
  obtain ⟨v, h1, h2⟩ := r.slot i x hx
  exact ⟨v, h1, h2.stay ex fun a _ o e => kp a o e⟩
theorem RS.drop {i : Nat} (r : RS w K cl M ρ σ H f) : RS w K cl M (ρ.set i Option.none) (σ.set i Option.none) H (fpSet f i []) ∧ Step M H f M H (fpSet f i []) := by
  have sub : ∀ j a, a ∈ fpSet f i [] j → j ≠ i ∧ a ∈ f j := fun j a ha => by
    by_cases q : j = i
    · subst q
      rw [fpSet_same] at ha
      cases ha
    · rw [fpSet_ne q] at ha
      exact ⟨q, ha⟩
  refine ⟨⟨fun j y hy => ?_, fun j hj => ?_, fun j => ?_, fun j k a ha hb => r.dj j k a (sub j a ha).2 (sub k a hb).2, fun j a ha => r.own j a (sub j a ha).2, r.trk, by simpa using r.len⟩, ⟨fun b o h _ => h, fun b o h => ⟨o, h⟩, fun _ m _ => m, fun _ m => .inl m, fun j b hb => .inl (sub j b hb).2⟩⟩
  · rcases set_get hy with ⟨e1, e2⟩ | ⟨e1, e2⟩
    · cases e2
    · obtain ⟨v, h1, h2⟩ := r.slot j y e2
      exact ⟨v, by rw [List.getElem?_set_ne e1]; exact h1, by rw [fpSet_ne (Ne.symm e1)]; exact h2⟩
  · by_cases q : j = i
    · rw [q, fpSet_same]
    · rw [fpSet_ne q]
      refine r.none j fun y hy => hj y ?_
      rw [List.getElem?_set_ne (Ne.symm q)]
      exact hy
  · by_cases q : j = i
    · rw [q, fpSet_same]
      exact List.nodup_nil
    · rw [fpSet_ne q]
      exact r.nd j
end

/-! ### a call that raises -/
/-- all plain, nothing of one's own -/
def leafsR : List Rv → Option (List D)
  | [] => some []
  | .val (.leaf d) :: r => (leafsR r).map (d :: ·)
  | _ => Option.none
def dCallX (den : List D → Option Exn) (dr : Den (List Rv)) : Den Exn := fun ρ => (dr ρ).bind fun r => (leafsR r.1).bind fun ds => (den ds).map fun x => (x, r.2)
theorem leafs_is {w : World} {K : PySem.W.Frag} {cl : Nat → Addr} {M : Addr → Prop} {σ : L2.St} {H H0 : Hp} {f : Fp} : ∀ {rvs : List Rv} {vs : List V} {fws : List (List Addr)} {ds : List D}, RvsOk w K cl M σ H f H0 rvs vs fws → leafsR rvs = some ds → IsL w K cl M H vs ds
  | _, _, _, ds, .nil, e => by
    cases e
    exact .nil
  | rv :: rvs, _, _, ds, .cons a t _, e => by
    unfold leafsR at e
    split at e
    · rename_i h1
      cases h1
    · rename_i d r h1
      cases h1
      obtain ⟨ds', e1, e2⟩ := Option.map_eq_some_iff.mp e
      subst e2
      obtain ⟨wi, _, _⟩ := a
      cases wi with
      | leaf is => exact .cons is (leafs_is t e1)
    · cases e
section
variable {cl : Nat → Addr} {np : Nat} {X : Cx} {W : WX} {c : Bool} {k : Nat} {f : Addr} {fd : FuncData} {ps : List Str} {sp : Sp} {E : L2.St → XK} {x : Str} {p pos epos : Pos} {e : Expr} {es : List Expr} {t : TA} {den : List D → Option Exn} {dr : Den (List Rv)}
theorem run_fnSG {pins : List (Addr × Obj)} {σ : L2.St} {H : Hp} {s : Shared} {Q : VK} {us : List Value} {vs : List V} {CX : CXT} (F : FnOkG c X.prog X.w X.K X.mg X.base CX k f fd ps sp) (hr : RoomG c k X.A) (hb : Binds X.K fd ps []) (hx : PassesAt CX X σ (E σ))
    (I : Inv X pins σ H s) (r : Vals vs us) (h : sp vs H Q (E σ)) : wpAny (model X.prog X.w) X.A (call (.ref f) us) (EP X pins σ Q) X.xe s := by
  have hl : us.length = ps.length := by rw [← r.length]; exact F.len _ _ _ _ h
  have b := hb s us I.kIn (by rw [List.append_nil]; exact hl)
  rw [List.append_nil] at b
  refine wpAny_call (codeAny_mono (F.run X.A X.stack s H ⟨us, []⟩ us vs Q (E σ) hr I.env0 b r h) fun r s' hq => ?_)
  cases r with
  | error e => exact hx pins H s e s' I hq
  | ok fl =>
    cases fl with
    | ret u => exact I.after hq
    | next => exact False.elim hq
    | brk => exact False.elim hq
    | cont => exact False.elim hq
theorem pe_callSG {CX : CXT} (F : FnOkG c X.prog X.w X.K X.mg X.base CX k f fd ps sp) (hr : RoomG c k X.A) (hg : Gl X x) (hm : X.mg x = some (.ref f)) (hk : PySem.W.keepIn X.K (.ref f) = true) (hb : Binds X.K fd ps []) (hx : ∀ σ, PassesAt CX X σ (E σ))
    (ha : PA X (e :: es) t) (hdb : (x == ("__debug__" : Str)) = false := by decide) (he : starEach (e :: es) X.env = (false, eval e X.env) :: starEach es X.env := by rfl) (hpl : (backTo pos (starEach es X.env)).any (·.1) = false := by rfl) :
    PE X (.Call (.Name x p) (e :: es) [] pos) (tCallS sp E t) := by
  refine ⟨fun pins s σ H Q I h => ?_⟩
  refine wpAny_Call_Name_kw (ld_glob I hg hm ?_ hdb)
  refine PySem.W.callWith_K (h₀ := X.base) I.ok.mod.kin hk (thn (ha.run pos pins s σ H _ I h) fun us s1 ⟨vs, H1, I1, r, q⟩ => ⟨I1.kIn, ?_⟩) he hpl
  exact run_fnSG F hr hb (hx σ) I1 r q
/-- f(e, ..) as a statement, f raises -/
theorem dx_call (tk : Takes X W) (F : FnOkG c X.prog X.w X.K X.mg X.base (L2.CX X.prog X.w) k f fd ps (spXX X.w X.K cl den)) (hr : RoomG c k X.A) (hg : Gl X x) (hm : X.mg x = some (.ref f)) (hk : PySem.W.keepIn X.K (.ref f) = true) (hb : Binds X.K fd ps [])
    (ha : DR cl X (e :: es) dr) (hdb : (x == ("__debug__" : Str)) = false := by decide) (he : starEach (e :: es) X.env = (false, eval e X.env) :: starEach es X.env := by rfl) (hpl : (backTo pos (starEach es X.env)).any (·.1) = false := by rfl)
    (hs : swapsWith (.Call (.Name x p) (e :: es) [] pos) none epos.line X.env = pure false := by rfl) :
    DX cl np X W (.Expr (.Call (.Name x p) (e :: es) [] pos) epos) (dCallX den dr) :=
  ps_imp (ps_expr (pe_callSG (E := WE W) F hr hg hm hk hb (passAt tk) ha hdb he hpl) hs) fun D σ H ⟨M, ρ, f, x, ρ', rs, hd, kk⟩ => by
    obtain ⟨⟨rvs, ρ1⟩, h1, hd⟩ := Option.bind_eq_some_iff.mp hd
    obtain ⟨ds, h2, hd⟩ := Option.bind_eq_some_iff.mp hd
    obtain ⟨x', h3, hd⟩ := Option.map_eq_some_iff.mp hd
    cases hd
    refine ⟨M, ρ, f, rvs, ρ1, rs, h1, fun vs M1 H1 f1 fws rs1 ok1 st1 => ⟨M1, ds, _, leafs_is ok1 h2, rs1.trk, h3, fun fs d M' H' t' xd isf s' => ?_⟩⟩
    obtain ⟨r2, s2⟩ := rs1.over s' t'
    exact kk σ fs d M' H' f1 r2 (st1.trans rs.trk s2) Par.refl xd isf
end

/-! ### try -/
def catchD : List ((Nat → Option Bool) × Nat × Den Out) → Exn → Env → Option (Out × Env)
  | [], _, _ => Option.none
  | (m, i, d) :: r, x, ρ => (m x.1).bind fun b => if b = true then (if i < ρ.length then (d (ρ.set i (some (.leaf (.exc x.1 x.2))))).bind fun q => match q.1 with
      | .next => some (.next, q.2.set i Option.none)
      | _ => Option.none
    else Option.none) else catchD r x ρ
def dTry (db : Den Exn) (hs : List ((Nat → Option Bool) × Nat × Den Out)) : Den Out := fun ρ => (db ρ).bind fun q => catchD hs q.1 q.2
inductive HdsD (cl : Nat → Addr) (np : Nat) (X : Cx) : List ExceptHandler → List ((Nat → Option Bool) × Nat × Den Out) → List (Value × Nat × TS) → Prop
  | nil : HdsD cl np X [] [] []
  | cons {x n : Str} {c : Value} {m : Nat → Option Bool} {i : Nat} {d : Den Out} {b₀ : Stmt} {suite : List Stmt} {ep pos' : Pos} {hds : List ExceptHandler} {ls : List ((Nat → Option Bool) × Nat × Den Out)} {l : List (Value × Nat × TS)} (hc : Names X x c) (hi : X.N[i]? = some n) (hln : X.env.kindOf n = some .local) (hpi : np ≤ i)
      (hm : ∀ j b, m j = some b → PySem.W.exmOne X.K (.ref (cl j)) c = some b) (hsu : ∀ (a : Addr) (pn : List (Addr × Obj)), DSs cl np (X.suite a pn) (b₀ :: suite) d) (r : HdsD cl np X hds ls l) :
      HdsD cl np X (.ExceptHandler (some (.Name x ep)) (some n) (b₀ :: suite) pos' :: hds) ((m, i, d) :: ls) ((c, i, tDS X.w X.K cl np d) :: l)
section
variable {cl : Nat → Addr} {np : Nat} {X : Cx} {Wout : WX} {body : List Stmt} {h₀ : ExceptHandler} {hds : List ExceptHandler} {ls : List ((Nat → Option Bool) × Nat × Den Out)} {l : List (Value × Nat × TS)} {pos : Pos} {db : Den Exn}
theorem HdsD.raw (h : HdsD cl np X hds ls l) : HdsV X hds l := by
  induction h with
  | nil => exact .nil
  | cons hc hi hln _ _ hsu _ ih => exact .cons hc hi hln hsu ih
theorem catch_imp {D : Ends} {M1 : Addr → Prop} {ρ1 ρ' : Env} {σ1 : L2.St} {H1 : Hp} {f1 : Fp} {x : Exn} {o : Out} {fs : List (Str × V)} {d : Option Addr} (h : HdsD cl np X hds ls l) (hd : catchD ls x ρ1 = some (o, ρ')) (rs : RS X.w X.K cl M1 ρ1 σ1 H1 f1) (xd : XdAt M1 H1 d fs) (isf : IsF X.w X.K cl M1 H1 fs x.2)
    (k : ∀ σ' M' H' f', RS X.w X.K cl M' ρ' σ' H' f' → Step M1 H1 f1 M' H' f' → Par np σ1 σ' → OutOk X.w X.K cl D M' σ' H' f' H1 o) : wCatch X.K Wout D l (.ref (cl x.1)) d σ1 H1 := by
  induction h with
  | nil => cases hd
  | @cons xn n c m i dd b₀ suite ep pos' hds ls l hc hi hln hpi hm hsu r ih =>
    obtain ⟨b, h1, hd⟩ := Option.bind_eq_some_iff.mp hd
    refine ⟨b, hm _ _ h1, fun hb => ?_, fun hb => ?_⟩
    · subst hb
      rw [if_pos rfl] at hd
      by_cases ci : i < ρ1.length
      · rw [if_pos ci] at hd
        obtain ⟨⟨o2, ρ2⟩, h2, hd⟩ := Option.bind_eq_some_iff.mp hd
        cases o2 with
        | next =>
          cases hd
          refine ⟨cl x.1, rfl, fun a na => ?_⟩
          have r2 := rs.new na (ExV a (cl x.1) d)
          have ex := ext_new (o := ExV a (cl x.1) d) na rs.trk
          have is : Is X.w X.K cl M1 (upd H1 a (ExV a (cl x.1) d)) (.ref a) (.exc x.1 x.2) := .exc upd_same (notM_new na rs.trk) (ex.xd xd) (isf.stay ex)
          have r3 := r2.1.store ci (.leaf is) List.nodup_nil fun _ h => nomatch h
          refine ⟨M1, _, _, .next, ρ2, r3, h2, fun σ2 M2 H2 f2 rs2 st2 p2 => ?_⟩
          have r4 := rs2.drop (i := i)
          have s1 : Step M1 H1 f1 M1 (upd H1 a (ExV a (cl x.1) d)) (fpSet f1 i []) := r2.2.store fun _ h => nomatch h
          refine k _ M2 H2 _ r4.1 ((s1.trans rs.trk st2).trans rs.trk r4.2) ?_
          intro j hj
          show (σ2.set i Option.none)[j]? = σ1[j]?
          rw [List.getElem?_set_ne (by omega), p2 j hj]
          exact List.getElem?_set_ne (by omega)
        | brk => cases hd
        | cont => cases hd
        | ret rv => cases hd
      · rw [if_neg ci] at hd
        cases hd
    · subst hb
      rw [if_neg (by simp)] at hd
      exact ih hd
theorem ds_try (hs : X.stack = X.env :: X.outer) (hf : X.env.frame = some X.env.locals) (hex : X.ex = []) (hN : X.N.Nodup) (tk : Takes X Wout)
    (hb : ∀ (W : WX) (pn : List (Addr × Obj)) (xe : Value → Shared → Prop), Takes (X.tr pn xe) W → DXs cl np (X.tr pn xe) W body db)
    (hh : HdsD cl np X (h₀ :: hds) ls l) : DS cl np X (.Try body (h₀ :: hds) [] [] pos) (dTry db ls) :=
  ps_imp (ps_tryV (tb := fun W => tDX X.w X.K cl np W db) hs hf hex hN tk (fun W pn xe t _ => hb W pn xe t) hh.raw) fun D σ H ⟨M, ρ, f, o, ρ', rs, hd, k⟩ => by
    obtain ⟨⟨x, ρ1⟩, h1, hd⟩ := Option.bind_eq_some_iff.mp hd
    refine ⟨M, ρ, f, x, ρ1, rs, h1, fun σ1 fs d M1 H1 f1 rs1 st1 p1 xd isf => catch_imp hh hd rs1 xd isf fun σ2 M2 H2 f2 rs2 st2 p2 => ?_⟩
    exact out_base st1 (k σ2 M2 H2 f2 rs2 (st1.trans rs.trk st2) (p1.trans p2))
end
end Ws
set_option Elab.async false
set_option linter.all false
set_option maxRecDepth 100000
set_option maxHeartbeats 4000000
/-! Ws19: the __init__ of exceptions: Base.__init__(self, text), then self.f = f for each parameter. -/
namespace Ws
open PySem PySem.Spec PyProof.Rows L2
section
variable {K : PySem.W.Frag} {C : Addr} {B ni ii : String} {tl : List Value} {vs : List V} {H : Hp} {Q : VK} {E : XK} {N : List Str} {msg f g : Str}
theorem initLen (names : List Str) : ∀ vs H Q E, spInit C names vs H Q E → vs.length = names.length + 1 := by
  intro vs H Q E ⟨a, ys, fs, e, _, hm, _⟩
  unfold mkF at hm
  by_cases c : ys.length = names.length
  · rw [e, List.length_cons, c]
  · rw [if_neg c] at hm
    cases hm
theorem pureI0 (T : XCls B ni ii tl K C) (h : spInit C [] vs H Q E) : tDrop (tXI K ii (tCons (tVar 0) (tCons (tC (.str msg)) tNil))) { nx := fun _ H' => Q .non H', rt := Q } (L2.start N vs) H := by
  obtain ⟨a, ys, fs, rfl, ha, hm, hq⟩ := h
  have e : ys = [] := by
    cases ys with
    | nil => rfl
    | cons y ys => cases (show (none : Option (List (Str × V))) = some fs from hm)
  subst e
  cases (show some ([] : List (Str × V)) = some fs from hm)
  refine ⟨.ref a, rfl, a, C, [.str msg], B, ni, tl, rfl, (by simp), T, ha, ?_⟩
  rcases hq with ⟨_, q⟩ | ⟨n, _⟩
  · exact q
  · exact absurd rfl n
theorem pureI1 (T : XCls B ni ii tl K C) (hno : PySem.W.findIn K (.ref C) f = some none) (h : spInit C [f] vs H Q E) :
    tSeq (tDrop (tXI K ii (tCons (tVar 0) (tCons (tC (.str msg)) tNil)))) (tXst K f (tVar 0) (tVar 1)) { nx := fun _ H' => Q .non H', rt := Q } (L2.start N vs) H := by
  obtain ⟨a, ys, fs, rfl, ha, hm, hq⟩ := h
  obtain ⟨y, rfl⟩ : ∃ y, ys = [y] := by
    match ys, hm with
    | [y], _ => exact ⟨y, rfl⟩
    | [], hm => cases (show (none : Option (List (Str × V))) = some fs from hm)
    | _ :: _ :: _, hm => exact absurd hm (by simp [mkF])
  cases (show some [(f, y)] = some fs from hm)
  refine ⟨.ref a, rfl, a, C, [.str msg], B, ni, tl, rfl, (by simp), T, ha, ?_⟩
  refine ⟨y, rfl, .ref a, rfl, a, C, rfl, ⟨B, ni, ii, tl, T⟩, hno, .inl ⟨ha, fun dx n ne => ?_⟩⟩
  rcases hq with ⟨n, _⟩ | ⟨_, q⟩
  · cases n
  · exact q dx n ne
theorem pureI2 (T : XCls B ni ii tl K C) (hf : PySem.W.findIn K (.ref C) f = some none) (hg : PySem.W.findIn K (.ref C) g = some none) (h : spInit C [f, g] vs H Q E) :
    tSeq (tDrop (tXI K ii (tCons (tVar 0) (tCons (tC (.str msg)) tNil)))) (tSeq (tXst K f (tVar 0) (tVar 1)) (tXst K g (tVar 0) (tVar 2))) { nx := fun _ H' => Q .non H', rt := Q } (L2.start N vs) H := by
  obtain ⟨a, ys, fs, rfl, ha, hm, hq⟩ := h
  obtain ⟨y, z, rfl⟩ : ∃ y z, ys = [y, z] := by
    match ys, hm with
    | [y, z], _ => exact ⟨y, z, rfl⟩
    | [], hm => cases (show (none : Option (List (Str × V))) = some fs from hm)
    | [_], hm => exact absurd hm (by simp [mkF])
    | _ :: _ :: _ :: _, hm => exact absurd hm (by simp [mkF])
  cases (show some [(g, z), (f, y)] = some fs from hm)
  refine ⟨.ref a, rfl, a, C, [.str msg], B, ni, tl, rfl, (by simp), T, ha, ?_⟩
  refine ⟨y, rfl, .ref a, rfl, a, C, rfl, ⟨B, ni, ii, tl, T⟩, hf, .inl ⟨ha, fun dx n ne => ?_⟩⟩
  refine ⟨z, rfl, .ref a, rfl, a, C, rfl, ⟨B, ni, ii, tl, T⟩, hg, .inr ⟨dx, [(f, y)], upd_same, by rw [upd_ne ne, upd_same], (by simp), ?_⟩⟩
  have e : upd (upd (upd H dx (exd dx [(f, y)])) a (exo a C (some dx))) dx (exd dx [(g, z), (f, y)]) = upd (upd H dx (exd dx [(g, z), (f, y)])) a (exo a C (some dx)) := by
    funext b
    by_cases e1 : b = dx
    · subst e1
      rw [upd_same, upd_ne ne, upd_same]
    · by_cases e2 : b = a
      · subst e2
        rw [upd_ne e1, upd_same, upd_same]
      · rw [upd_ne e1, upd_ne e2, upd_ne e1, upd_ne e2, upd_ne e1]
  rw [e]
  rcases hq with ⟨n, _⟩ | ⟨_, q⟩
  · cases n
  · exact q dx n ne
end
/-- keywords for parameters without defaults, in the parameters' order or against it -/
theorem kb_init {K : PySem.W.Frag} {x qual : Str} {params : Arguments} {body : List Stmt} {scope : Scope} {kws : List (Str × V)} {f : Addr} {fd : FuncData} {ps ks : List Str} {rev : Bool} (F : FunD K x qual params body scope [] kws f fd)
    (h : ∀ (kV doc pm : Value) (an : Option Addr) (cdv ct : Value) (u : Value) (ws : List Value), ws.length = ks.length → bindArgs (PySem.W.fnOf x qual params body scope .none kV doc pm an cdv ct) ⟨[u], ks.zip ws⟩ = pure (ps.zip ([u] ++ revIf rev ws))) :
    KBn K fd ps 1 ks (fun us ws => us ++ revIf rev ws) (fun vs zs => vs ++ revIf rev zs) := by
  obtain ⟨oc, od, dV, kV, doc, pm, an, cdv, ct, osl, rfl, lk, hcd, hD, hK⟩ := F.ex
  rcases hD with ⟨_, rfl⟩ | ⟨e, _⟩
  · refine ⟨fun s us ws X l1 l2 => ?_, fun r1 r2 => ?_⟩
    · match us, l1 with
      | [u], _ => exact .of_eq (h kV doc pm an cdv ct u ws l2)
    · refine r1.append ?_
      unfold revIf
      split
      · exact r2.reverse
      · exact r2
  · exact absurd rfl e
end Ws
set_option Elab.async false
set_option linter.all false
set_option maxRecDepth 100000
set_option maxHeartbeats 4000000
/-! Ws20: what is asked of the written part, as a truth that can be run. -/
namespace Ws
open PySem PySem.Spec PyProof.Rows L2
theorem RoomG.u64 {c : Bool} {k : Nat} {A : Around} (h : RoomG c k A) : A.units + 64 < cLine := by have := h.un; omega
theorem RoomG.u65 {c : Bool} {k : Nat} {A : Around} (h : RoomG c k A) : A.units + 65 < cLine := by have := h.un; omega
def clsFn (s : Stmt) (i : Nat) : Stmt := match s with
  | .ClassDef _ _ _ body _ _ _ _ _ _ _ => body.getD i (.Pass ⟨0, 0, 0, 0⟩)
  | _ => .Pass ⟨0, 0, 0, 0⟩
def xclsB (K : PySem.W.Frag) (tl : List Value) (newId : String) (C : Addr) : Bool := match K.lookup C with
  | some ⟨.type "type", _, .cls ⟨_, _, mro, _, _, true, _, _, _, _, false⟩, sl⟩ => (match mro with
    | c :: bm => decide (c = .ref C) && refsT tl bm
    | [] => false) && (match sl.toList with
    | [_, _, _, _, some (.builtin n), _] => decide (n = newId)
    | _ => false)
  | _ => false
theorem xclsB_ok {K : PySem.W.Frag} {tl : List Value} {newId : String} {C : Addr} (h : xclsB K tl newId C = true) :
    ∃ nm q N bs bm sn sub ab col dd k0 k1 k2 k3 k5, K.lookup C = some (excClassObj nm q C N bs bm true sn sub ab col dd k0 k1 k2 k3 k5 newId) ∧ refsT tl bm = true := by
  unfold xclsB at h
  split at h
  · rename_i dd nm bs mro ns qn sn sb ab col sl e
    obtain ⟨h1, h2⟩ := Bool.and_eq_true_iff.mp h
    split at h1
    · rename_i c bm
      obtain ⟨h3, h4⟩ := Bool.and_eq_true_iff.mp h1
      have h3 := of_decide_eq_true h3
      subst h3
      split at h2
      · rename_i k0 k1 k2 k3 n k5 e2
        have h2 := of_decide_eq_true h2
        subst h2
        obtain ⟨sl⟩ := sl
        have e2 : sl = _ := e2
        subst e2
        exact ⟨nm, qn, ns, bs, bm, sn, sb, ab, col, dd, k0, k1, k2, k3, k5, e, h4⟩
      · cases h2
    · cases h1
  · cases h
def eqW {α : Type} [DecidableEq α] (a b : α) : Bool := decide (a = b)
/-- a class of exceptions over the base tl -/
def xB (K : PySem.W.Frag) (tl : List Value) (newId : String) (C : Addr) : Bool :=
  xclsB K tl newId C && (decide (PySem.W.findIn K (.ref C) "__setattr__" = some (some (.builtin "object.__setattr__"))) && (decide (PySem.W.subIn K (.ref C) (.type "BaseException") = some true) && (decide (PySem.W.typeIn K (.ref C) = some (.type "type")) && PySem.W.keepIn K (.ref C))))
theorem xB_ok {B ni ii : String} {K : PySem.W.Frag} {tl : List Value} {C : Addr} (xb : XBase B ni ii tl) (h : xB K tl ni C = true) : XCls B ni ii tl K C := by
  obtain ⟨h1, h⟩ := Bool.and_eq_true_iff.mp h
  obtain ⟨h2, h⟩ := Bool.and_eq_true_iff.mp h
  obtain ⟨h3, h⟩ := Bool.and_eq_true_iff.mp h
  obtain ⟨h4, h5⟩ := Bool.and_eq_true_iff.mp h
  exact ⟨xb, xclsB_ok h1, of_decide_eq_true h2, of_decide_eq_true h3, of_decide_eq_true h4, h5⟩
/-- its __init__ -/
def xmB (K : PySem.W.Frag) (C : Addr) : Bool := decide (PySem.W.findIn K (.ref C) "__init__" = some (some (.ref (He.ma K C "__init__")))) && decide (PySem.W.typeIn K (.ref (He.ma K C "__init__")) = some (.type "function"))
theorem xmB_ok {K : PySem.W.Frag} {C : Addr} (t : XC K C) (h : xmB K C = true) : XMk K C (He.ma K C "__init__") := by
  obtain ⟨h1, h2⟩ := Bool.and_eq_true_iff.mp h
  exact ⟨t, of_decide_eq_true h1, of_decide_eq_true h2⟩
/-- isinstance of its instances -/
def xiB (K : PySem.W.Frag) (C : Addr) : Bool :=
  (PySem.W.clsIn K C).isSome && (decide (PySem.W.findIn K (.ref C) "__getattribute__" = some (some (.builtin "BaseException.__getattribute__"))) && (decide (PySem.W.findIn K (.ref C) "__getattr__" = some none) && (decide (PySem.W.subIn K (.ref C) (.type "BaseException") = some true) &&
  (decide (PySem.W.findIn K (.ref C) "__class__" = some (some (.builtin "object.__class__"))) && (decide (PySem.W.specialIn K (.builtin "object.__class__") "__get__" = some (some (.builtin "getset_descriptor.__get__"))) && (decide (PySem.W.takesIn K (.builtin "object.__class__") = some true) && decide (PySem.W.mroIn K C (.type "object") = some true)))))))
theorem xiB_ok {K : PySem.W.Frag} {C : Addr} (h : xiB K C = true) : XIs K C := by
  obtain ⟨h1, h⟩ := Bool.and_eq_true_iff.mp h
  obtain ⟨h2, h⟩ := Bool.and_eq_true_iff.mp h
  obtain ⟨h3, h⟩ := Bool.and_eq_true_iff.mp h
  obtain ⟨h4, h⟩ := Bool.and_eq_true_iff.mp h
  obtain ⟨h5, h⟩ := Bool.and_eq_true_iff.mp h
  obtain ⟨h6, h⟩ := Bool.and_eq_true_iff.mp h
  obtain ⟨h7, h8⟩ := Bool.and_eq_true_iff.mp h
  exact ⟨h1, of_decide_eq_true h2, of_decide_eq_true h3, of_decide_eq_true h4, of_decide_eq_true h5, of_decide_eq_true h6, of_decide_eq_true h7, of_decide_eq_true h8⟩
/-- C.__init__ read from the class -/
def xrB (K : PySem.W.Frag) (ii : String) (C : Addr) : Bool := PySem.W.readsIn K C (.type "type") && (decide (PySem.W.specialIn K (.ref C) "__getattribute__" = some (some (.builtin "type.__getattribute__"))) && (match PySem.W.findCls K (.ref C) (.type "type") "__init__" with
  | some (.val v) => decide (v = .builtin ii)
  | _ => false))
theorem xrB_ok {K : PySem.W.Frag} {ii : String} {C : Addr} (h : xrB K ii C = true) : ClX.CRead K C (.type "type") ∧ PySem.W.findCls K (.ref C) (.type "type") "__init__" = some (.val (.builtin ii)) := by
  obtain ⟨h1, h⟩ := Bool.and_eq_true_iff.mp h
  obtain ⟨h2, h3⟩ := Bool.and_eq_true_iff.mp h
  refine ⟨⟨h1, of_decide_eq_true h2⟩, ?_⟩
  split at h3
  · rename_i v e
    have h3 := of_decide_eq_true h3
    subst h3
    exact e
  · cases h3
end Ws
set_option Elab.async false
set_option linter.all false
set_option maxRecDepth 100000
set_option maxHeartbeats 4000000
/-! Ws21: promises of defs and classes in bundles. -/
namespace Ws
open PySem PySem.Spec PyProof.Rows L2
/-- f keeps den -/
def FunOk (c : Bool) (P : Program) (w : World) (K : PySem.W.Frag) (mg : Str → Option Value) (base : Heap) (cl : Nat → Addr) (k : Nat) (f : Addr) (den : List W → Option (W × List W)) : Prop :=
  ∃ fd ps, FnOkG c P w K mg base CX0 k f fd ps (spW w K cl den) ∧ Binds K fd ps [] ∧ PySem.W.keepIn K (.ref f) = true
/-- f raises as den says -/
def FunX (c : Bool) (P : Program) (w : World) (K : PySem.W.Frag) (mg : Str → Option Value) (base : Heap) (cl : Nat → Addr) (k : Nat) (f : Addr) (den : List D → Option Exn) : Prop :=
  ∃ fd ps, FnOkG c P w K mg base (L2.CX P w) k f fd ps (spXX w K cl den) ∧ Binds K fd ps [] ∧ PySem.W.keepIn K (.ref f) = true
/-- the class at C, its __init__ keeping the fields' names -/
def InitOk (P : Program) (w : World) (K : PySem.W.Frag) (mg : Str → Option Value) (base : Heap) (C : Addr) (names : List Str) : Prop :=
  ∃ fI fd ps, XMk K C fI ∧ FnOk P w K mg base CX0 1 fI fd ps (spInit C names) ∧ Binds K fd ps [] ∧ names.length ≤ 1000
def InitKw (P : Program) (w : World) (K : PySem.W.Frag) (mg : Str → Option Value) (base : Heap) (C : Addr) (names ks : List Str) (rev : Bool) : Prop :=
  ∃ fI fd ps, XMk K C fI ∧ FnOk P w K mg base CX0 1 fI fd ps (spInit C names) ∧ KBn K fd ps 1 ks (fun us ws => us ++ revIf rev ws) (fun vs zs => vs ++ revIf rev zs) ∧ names.length ≤ 1000 ∧ ps.length = ks.length + 1
theorem spW_len {w : World} {K : PySem.W.Frag} {cl : Nat → Addr} {np n : Nat} {den : Den Out} : ∀ vs H Q E, spW w K cl (dFn np n den) vs H Q E → vs.length = np := by
  intro vs H Q E ⟨M, ws, f, r, ws', a, hd, _⟩
  have hl := a.len
  unfold dFn at hd
  by_cases c : ws.length = np
  · omega
  · rw [if_neg c] at hd
    cases hd
theorem spXX_len {w : World} {K : PySem.W.Frag} {cl : Nat → Addr} {np n : Nat} {den : Den Exn} : ∀ vs H Q E, spXX w K cl (dFnX np n den) vs H Q E → vs.length = np := by
  intro vs H Q E ⟨M, ds, x, is, _, hd, _⟩
  have hl := is.length
  unfold dFnX at hd
  by_cases c : ds.length = np
  · omega
  · rw [if_neg c] at hd
    cases hd
section
variable {c : Bool} {cl : Nat → Addr} {np : Nat} {X : Cx} {k k' : Nat} {f C : Addr} {j : Nat} {den : List W → Option (W × List W)} {denX : List D → Option Exn} {names ks : List Str} {rev : Bool} {x : Str} {p pos epos : Pos} {e : Expr} {es : List Expr} {kws : List Keyword} {dr : Den (List Rv)} {da : Den (List D)} {W : WX}
theorem de_f (F : FunOk c X.prog X.w X.K X.mg X.base cl k f den) (hr : RoomG c k' X.A) (hk : k ≤ k') (hg : Gl X x) (hm : X.mg x = some (.ref f))
    (ha : DR cl X (e :: es) dr) (hdb : (x == ("__debug__" : Str)) = false := by decide) (he : starEach (e :: es) X.env = (false, eval e X.env) :: starEach es X.env := by rfl) (hpl : (backTo pos (starEach es X.env)).any (·.1) = false := by rfl) :
    DE cl X (.Call (.Name x p) (e :: es) [] pos) (dCall den dr []) := by
  obtain ⟨fd, ps, F, b, kp⟩ := F
  exact dg_call (F.mono hk) hr hg hm kp b ha hdb he hpl
theorem de_f0 (F : FunOk c X.prog X.w X.K X.mg X.base cl k f den) (hr : RoomG c k' X.A) (hk : k ≤ k') (hg : Gl X x) (hm : X.mg x = some (.ref f))
    (hdb : (x == ("__debug__" : Str)) = false := by decide) : DE cl X (.Call (.Name x p) [] [] pos) (dCall den dRNil []) := by
  obtain ⟨fd, ps, F, b, kp⟩ := F
  exact dg_call0 (F.mono hk) hr hg hm kp b hdb
theorem dx_f (tk : Takes X W) (F : FunX c X.prog X.w X.K X.mg X.base cl k f denX) (hr : RoomG c k' X.A) (hk : k ≤ k') (hg : Gl X x) (hm : X.mg x = some (.ref f))
    (ha : DR cl X (e :: es) dr) (hdb : (x == ("__debug__" : Str)) = false := by decide) (he : starEach (e :: es) X.env = (false, eval e X.env) :: starEach es X.env := by rfl) (hpl : (backTo pos (starEach es X.env)).any (·.1) = false := by rfl)
    (hs : swapsWith (.Call (.Name x p) (e :: es) [] pos) none epos.line X.env = pure false := by rfl) :
    DX cl np X W (.Expr (.Call (.Name x p) (e :: es) [] pos) epos) (dCallX denX dr) := by
  obtain ⟨fd, ps, F, b, kp⟩ := F
  exact dx_call tk (F.mono hk) hr hg hm kp b ha hdb he hpl hs
theorem de_new (I : InitOk X.prog X.w X.K X.mg X.base C names) (hC : cl j = C) (hr : RoomG true k X.A) (hk : 2 ≤ k) (hg : Gl X x) (hm : X.mg x = some (.ref C)) (ha : DA cl X (e :: es) da)
    (hdb : (x == ("__debug__" : Str)) = false := by decide) (he : starEach (e :: es) X.env = (false, eval e X.env) :: starEach es X.env := by rfl) (hpl : (backTo pos (starEach es X.env)).any (·.1) = false := by rfl) :
    DE cl X (.Call (.Name x p) (e :: es) [] pos) (dXm j names false da) := by
  obtain ⟨fI, fd, ps, T, F, b, hn⟩ := I
  exact de_xm hC hn T F (hr.r.mono hk) b hg hm ha hdb he hpl
theorem de_newK (I : InitKw X.prog X.w X.K X.mg X.base C names ks rev) (hC : cl j = C) (hr : RoomG true k X.A) (hk : 2 ≤ k) (hg : Gl X x) (hm : X.mg x = some (.ref C)) (hkw : PK X kws (tSA X.w X.K cl da))
    (hall : (backToKw pos (keywordEach kws X.env)).all (·.1.isSome) = true := by rfl) (hks : (backToKw pos (keywordEach kws X.env)).filterMap (·.1) = ks := by rfl) (hdb : (x == ("__debug__" : Str)) = false := by decide)
    (hpl : ((backTo pos (starEach [] X.env)).any (·.1) || (backToKw pos (keywordEach kws X.env)).any (·.1.isNone)) = false := by rfl) :
    DE cl X (.Call (.Name x p) [] kws pos) (dXm j names rev da) := by
  obtain ⟨fI, fd, ps, T, F, b, hn, hp⟩ := I
  exact de_xmK hC hn T F (hr.r.mono hk) b hg hm hkw hp hall hks hdb hpl
theorem dx_new (hc : X.calm = true) (tk : Takes X W) (I : InitOk X.prog X.w X.K X.mg X.base C names) (hC : cl j = C) (hr : RoomG true k X.A) (hk : 2 ≤ k) (hg : Gl X x) (hm : X.mg x = some (.ref C)) (ha : DA cl X (e :: es) da)
    (hdb : (x == ("__debug__" : Str)) = false := by decide) (he : starEach (e :: es) X.env = (false, eval e X.env) :: starEach es X.env := by rfl) (hpl : (backTo pos (starEach es X.env)).any (·.1) = false := by rfl) :
    DX cl np X W (.Raise (some (.Call (.Name x p) (e :: es) [] pos)) none epos) (dXr j names da) := by
  obtain ⟨fI, fd, ps, T, F, b, hn⟩ := I
  exact dx_raise hc tk hC hn T F (hr.r.mono hk) b hg hm ha hdb he hpl
theorem dx_new0 (hc : X.calm = true) (tk : Takes X W) (I : InitOk X.prog X.w X.K X.mg X.base C []) (hC : cl j = C) (hr : RoomG true k X.A) (hk : 2 ≤ k) (hg : Gl X x) (hm : X.mg x = some (.ref C))
    (hdb : (x == ("__debug__" : Str)) = false := by decide) :
    DX cl np X W (.Raise (some (.Call (.Name x p) [] [] pos)) none epos) (dXr j [] dNil) := by
  obtain ⟨fI, fd, ps, T, F, b, hn⟩ := I
  exact dx_raise0 hc tk hC T F (hr.r.mono hk) b hg hm hdb
theorem kb_nil {K : PySem.W.Frag} {fd : FuncData} {ps : List Str} (b : Binds K fd ps []) (hp : ps.length = 1) : KBn K fd ps 1 [] (fun us ws => us ++ revIf false ws) (fun vs zs => vs ++ revIf false zs) :=
  ⟨fun s us ws X l1 l2 => by
    have e : ws = [] := List.eq_nil_of_length_eq_zero l2
    subst e
    have := b s us X (by rw [List.append_nil, l1, hp])
    exact this, fun r1 r2 => r1.append (by show Vals (revIf false _) (revIf false _); unfold revIf; simpa using r2)⟩
/-- C() -/
theorem de_new0 (I : InitOk X.prog X.w X.K X.mg X.base C []) (hC : cl j = C) (hr : RoomG true k X.A) (hk : 2 ≤ k) (hg : Gl X x) (hm : X.mg x = some (.ref C)) (hdb : (x == ("__debug__" : Str)) = false := by decide) :
    DE cl X (.Call (.Name x p) [] [] pos) (dXm j [] false dNil) := by
  obtain ⟨fI, fd, ps, T, F, b, hn⟩ := I
  have hp : ps.length = 1 := by
    have := F.len [.ref 0] (upd (fun _ => none) 0 (exo 0 C none)) (fun _ _ => True) (fun _ _ _ => False) ⟨0, [], [], rfl, upd_same, rfl, .inl ⟨rfl, trivial⟩⟩
    exact this.symm
  exact de_xmK hC hn T F (hr.r.mono hk) (kb_nil b hp) hg hm dk_nil (by rw [hp]; rfl) rfl rfl hdb rfl
end
end Ws
set_option Elab.async false
set_option linter.all false
set_option maxRecDepth 100000
set_option maxHeartbeats 4000000
/-! Ws22: what is looked at behind the top: what the module's names reach, and the statics; and the law's end. -/
namespace Ws
open PySem PySem.Spec PyProof.Rows L2
/-- the part that is looked at -/
def frY (n : Nat) (g : Addr → Option Obj) : PySem.W.Frag := He.frG g (cStatics :: He.asD g n)
def obsY (n : Nat) (fa : List He.Fa) (fn : List He.DefD) (ex : PySem.W.Frag → Bool) (g : Addr → Option Obj) : He.AlD × Bool := (He.obsD fa fn (frY n g), ex (frY n g))
def hookY (n : Nat) (fa : List He.Fa) (fn : List He.DefD) (ex : PySem.W.Frag → Bool) : PySem.W.Hook where
  α := He.AlD × Bool
  obs := fun s => obsY n fa fn ex s.heap.get?
  val := fun _ => (He.valD fn, true)
  says := fun _ h => ∃ K : PySem.W.Frag, K.In h ∧ He.SaysD fa fn K ∧ ex K = true
  of := fun _ s e => ⟨frY n s.heap.get?, He.frG_in, congrArg Prod.fst e, congrArg Prod.snd e⟩
  keeps := fun _ _ _ ⟨K, hK, c⟩ k => ⟨K, PySem.W.Frag.In.keeps hK k, c⟩
theorem obsY_eq {n : Nat} {fa : List He.Fa} {fn : List He.DefD} {ex : PySem.W.Frag → Bool} {g : Addr → Option Obj} {s : Shared} (h : ∀ a, g a = s.heap.get? a) : obsY n fa fn ex g = (hookY n fa fn ex).obs s := by
  have e : g = s.heap.get? := funext h
  rw [e] <;> rfl
/-- the script, as it comes -/
theorem is_script {w : World} {K : PySem.W.Frag} {cl : Nat → Addr} {H : Hp} {a : Addr} {ns : List Int} (o : Only H) (h : SqL K H a (ns.map V.int)) : Is w K cl noM H (.ref a) (.scr ns) := by
  rcases h with h | ⟨ob, its, n, h1, h2, h3, h4, h5, h6⟩
  · rcases h with h | ⟨ob, h⟩
    · rcases o a with z | ⟨_, _, z⟩
      · rw [h] at z; cases z
      · rw [h] at z; cases z
    · exact .scr h fun z => z
  · exact .scrK h1 h2 h3 h4 h5 h6
/-- from what the law's def computes to the promise -/
theorem law_end {w : World} {K : PySem.W.Frag} {cl : Nat → Addr} {den : List W → Option (W × List W)} {H : Hp} {a : Addr} {ns : List Int} {ws' : List W} {E : XK} (o : Only H) (h : SqL K H a (ns.map V.int)) (e : den [.leaf (.scr ns)] = some (.leaf (.bool true), ws')) :
    spW w K cl den [.ref a] H (fun v _ => v = .bl true) E := by
  refine ⟨noM, [.leaf (.scr ns)], fun _ => [], .leaf (.bool true), ws', leaf_args (.cons (is_script o h) .nil) (fun _ z => z.elim), e, fun v M' H' f' fw _ _ k => ?_⟩
  obtain ⟨wi, _, _⟩ := k
  cases wi with
  | leaf is => exact is_bool is
end Ws
set_option Elab.async false
set_option linter.all false
set_option maxRecDepth 100000
set_option maxHeartbeats 4000000
/-! Ws23: instances of own classes: fields, constants, construction, methods, properties. -/
namespace Ws
open PySem PySem.Spec PyProof.Rows L2
/-- the object's class and fields, a leaf or one's own -/
def objR (ρ : Env) : Rv → Option (Nat × List (Str × D))
  | .val (.leaf (.obj c gs)) => some (c, gs)
  | .slot i => match slotW ρ i with
    | some (.ins c gs) => some (c, gs)
    | _ => Option.none
  | _ => Option.none
section
variable {w : World} {K : PySem.W.Frag} {cl : Nat → Addr} {M M0 M1 : Addr → Prop} {ρ ρ1 : Env} {σ : L2.St} {H H0 H1 : Hp} {f f0 f1 : Fp} {rv : Rv} {v : V} {fw : List Addr}
theorem objR_is {c : Nat} {gs : List (Str × D)} (r : RS w K cl M ρ σ H f) (k : RvOk w K cl M σ H f H0 rv v fw) (e : objR ρ rv = some (c, gs)) : ∃ a dx fs, v = .ref a ∧ H a = some (.ins (cl c) dx fs) ∧ IsF w K cl M H fs gs := by
  cases rv with
  | val x =>
    obtain ⟨wi, _, _⟩ := k
    cases wi with
    | leaf is =>
      cases is with
      | obj h1 h2 h3 =>
        cases e
        exact ⟨_, _, _, rfl, h1, h3⟩
      | _ => cases e
    | _ => cases e
  | slot i =>
    have e : (match slotW ρ i with
      | some (.ins c gs) => some (c, gs)
      | _ => Option.none) = some (c, gs) := e
    cases q : slotW ρ i with
    | none => rw [q] at e; cases e
    | some x =>
      rw [q] at e
      obtain ⟨u, hu, hw⟩ := r.slot i x (slotW_some q)
      have e2 := k.2
      rw [hu] at e2
      cases e2
      cases x with
      | ins c' gs' =>
        cases e
        have : ∃ l, l = f i := ⟨_, rfl⟩
        obtain ⟨l, hl⟩ := this
        rw [← hl] at hw
        cases hw with
        | ins h1 h2 => exact ⟨_, _, _, rfl, h1, h2⟩
      | _ => cases e
end
def dFld (f : Str) (ok : Nat → Bool) (d : Den Rv) : Den Rv := fun ρ => (d ρ).bind fun r => (objR r.2 r.1).bind fun o => if ok o.1 = true then (o.2.lookup f).map fun x => (.val (.leaf x), r.2) else Option.none
/-- e.f, a constant of the class -/
def dCon (f : Str) (con : Nat → Option D) (d : Den Rv) : Den Rv := fun ρ => (d ρ).bind fun r => (objR r.2 r.1).bind fun o => if o.2.lookup f = Option.none then (con o.1).bind fun x => (sv x).map fun _ => (.val (.leaf x), r.2) else Option.none
section
variable {cl : Nat → Addr} {np : Nat} {X : Cx} {e o : Expr} {n : Str} {pos p : Pos} {d : Den Rv}
theorem de_fld {ok : Nat → Bool} (hok : ∀ c, ok c = true → Cls X.K (cl c) ∧ NoAttr X.K (cl c) n) (he : DE cl X e d) (hb : attributeBase e n X.env (eval e X.env) = eval e X.env := by rfl) : DE cl X (.Attribute e n pos) (dFld n ok d) := pe_imp (pe_fld he hb) fun σ H Q ⟨M, ρ, f, rv, ρ', rs, hd, k⟩ => by
  obtain ⟨⟨r, ρ1⟩, h1, hd⟩ := Option.bind_eq_some_iff.mp hd
  obtain ⟨⟨c, gs⟩, h2, hd⟩ := Option.bind_eq_some_iff.mp hd
  by_cases q : ok c = true
  · rw [if_pos q] at hd
    obtain ⟨x, h3, hd⟩ := Option.map_eq_some_iff.mp hd
    cases hd
    refine ⟨M, ρ, f, r, _, rs, h1, fun v M1 H1 f1 fw rs1 ok1 st1 => ?_⟩
    obtain ⟨a, dx, fs, e1, e2, e3⟩ := objR_is rs1 ok1 h2
    obtain ⟨u, l, iv⟩ := isF_get e3 h3
    exact ⟨a, _, dx, fs, u, e1, e2, (hok c q).1, (hok c q).2, l, k u M1 H1 f1 [] rs1 (rvB iv) st1⟩
  · rw [if_neg q] at hd
    cases hd
theorem de_con {con : Nat → Option D} (hok : ∀ c x v, con c = some x → sv x = some v → Cls X.K (cl c) ∧ ∃ u, Con X.K (cl c) n v u) (he : DE cl X e d) (hb : attributeBase e n X.env (eval e X.env) = eval e X.env := by rfl) : DE cl X (.Attribute e n pos) (dCon n con d) := pe_imp (pe_con he hb) fun σ H Q ⟨M, ρ, f, rv, ρ', rs, hd, k⟩ => by
  obtain ⟨⟨r, ρ1⟩, h1, hd⟩ := Option.bind_eq_some_iff.mp hd
  obtain ⟨⟨c, gs⟩, h2, hd⟩ := Option.bind_eq_some_iff.mp hd
  by_cases q : gs.lookup n = Option.none
  · rw [if_pos q] at hd
    obtain ⟨x, h3, hd⟩ := Option.bind_eq_some_iff.mp hd
    obtain ⟨v, h4, hd⟩ := Option.map_eq_some_iff.mp hd
    cases hd
    refine ⟨M, ρ, f, r, _, rs, h1, fun v0 M1 H1 f1 fw rs1 ok1 st1 => ?_⟩
    obtain ⟨a, dx, fs, e1, e2, e3⟩ := objR_is rs1 ok1 h2
    obtain ⟨hc, u, hk⟩ := hok c x v h3 h4
    exact ⟨a, _, dx, fs, v, u, e1, e2, hc, hk, isF_lookup e3 q, k v M1 H1 f1 [] rs1 (rvB (is_sv h4)) st1⟩
  · rw [if_neg q] at hd
    cases hd
/-- C.f, a constant, read from the class -/
theorem de_ccon {x : Str} {C : Addr} {mc u : Value} {v : V} {dd : D} (hg : Gl X x) (hm : X.mg x = some (.ref C)) (r : ClX.CRead X.K C mc) (c : ClX.CVal X.K C mc n v u) (hs : sv dd = some v) (hdb : (x == ("__debug__" : Str)) = false := by decide)
    (hb : attributeBase (.Name x p) n X.env (eval (.Name x p) X.env) = eval (.Name x p) X.env := by rfl) : DE cl X (.Attribute (.Name x p) n pos) (dC dd) := pe_imp (ClX.pe_cval (pe_glob (v := .ref C) hg hm rfl hdb) hb) fun σ H Q ⟨M, ρ, f, rv, ρ', rs, hd, k⟩ => by
  cases hd
  exact ⟨C, mc, v, u, rfl, r, c, k v M H f [] rs (rvB (is_sv hs)) Step.refl⟩
end
end Ws
set_option Elab.async false
set_option linter.all false
set_option maxRecDepth 100000
set_option maxHeartbeats 4000000
/-! Ws24: fields stored, construction, methods, properties, where no repr is under way. -/
namespace Ws
open PySem PySem.Spec PyProof.Rows L2
def putG (f : Str) (v : D) : List (Str × D) → List (Str × D)
  | [] => [(f, v)]
  | (g, x) :: r => if g = f then (g, v) :: r else (g, x) :: putG f v r
section
variable {w : World} {K : PySem.W.Frag} {cl : Nat → Addr} {M M0 M1 : Addr → Prop} {ρ ρ1 : Env} {σ : L2.St} {H H0 H1 : Hp} {f f0 f1 : Fp} {v : V} {n : Str}
theorem isF_put {y : V} {d : D} (i : Is w K cl M H y d) : ∀ {fs : List (Str × V)} {gs : List (Str × D)}, IsF w K cl M H fs gs → IsF w K cl M H (putF n y fs) (putG n d gs)
  | _, _, .nil => .cons i .nil
  | _, _, .cons (f := g) a t => by
    unfold putF putG
    by_cases e : g = n
    · rw [if_pos e, if_pos e]
      exact .cons i t
    · rw [if_neg e, if_neg e]
      exact .cons a (isF_put i t)
theorem isF_len : ∀ {fs : List (Str × V)} {gs : List (Str × D)}, IsF w K cl M H fs gs → fs.length = gs.length
  | _, _, .nil => rfl
  | _, _, .cons _ t => by simp [isF_len t]
theorem RS.ownIns {i c : Nat} {gs : List (Str × D)} (r : RS w K cl M ρ σ H f) (e : slotW ρ i = some (.ins c gs)) : ∃ a dx fs, σ[i]? = some (some (.ref a)) ∧ H a = some (.ins (cl c) dx fs) ∧ IsF w K cl M H fs gs ∧ f i = [a] ∧ M a := by
  obtain ⟨u, hu, hw⟩ := r.slot i _ (slotW_some e)
  have : ∃ q, q = f i := ⟨_, rfl⟩
  obtain ⟨q, hq⟩ := this
  rw [← hq] at hw
  cases hw with
  | ins h1 h2 => exact ⟨_, _, _, hu, h1, h2, hq.symm, r.own i _ (by rw [← hq]; exact List.mem_cons_self)⟩
theorem RS.putIns {i c : Nat} {gs : List (Str × D)} {a dx : Addr} {fs : List (Str × V)} (r : RS w K cl M ρ σ H f) (hσ : σ[i]? = some (some (.ref a))) (hf : f i = [a]) (hn : IsF w K cl M H fs gs) :
    RS w K cl M (ρ.set i (some (.ins c gs))) σ (upd H a (.ins (cl c) dx fs)) f ∧ Step M H f M (upd H a (.ins (cl c) dx fs)) f := by
  have ml : M a := r.own i a (by rw [hf]; exact List.mem_cons_self)
  refine ⟨⟨fun j y hy => ?_, fun j hj => ?_, r.nd, r.dj, r.own, fun b hb => ?_, by simpa using r.len⟩, ⟨fun b o h n => ?_, fun b o h => upd_there h, fun _ m _ => m, fun _ m => .inl m, fun _ _ h => .inl h⟩⟩
  · rcases set_get hy with ⟨e1, e2⟩ | ⟨e1, e2⟩
    · subst e1
      cases e2
      exact ⟨_, hσ, by rw [hf]; exact .ins upd_same (hn.stay (ext_poke ml))⟩
    · obtain ⟨u, hu, hw⟩ := r.slot j y e2
      refine ⟨u, hu, hw.stay (ext_poke ml) fun b hb o h => ?_⟩
      rw [upd_ne (fun z => e1 (r.dj i j a (by rw [hf]; exact List.mem_cons_self) (by rw [← z]; exact hb)))]
      exact h
  · by_cases e : j = i
    · subst e
      exact absurd (List.getElem?_set_self (by rw [r.len]; exact (List.getElem?_eq_some_iff.mp hσ).1)) (hj _)
    · refine r.none j fun y hy => hj y ?_
      rw [List.getElem?_set_ne (Ne.symm e)]
      exact hy
  · obtain ⟨o, h⟩ := r.trk b hb
    exact upd_there h
  · rw [upd_ne (fun z => n i (by rw [hf, z]; exact List.mem_cons_self))]
    exact h
end
/-- name.f = e, the name's own instance -/
def dFldSet (i : Nat) (f : Str) (ok : Nat → Bool) (d : Den Rv) : Den Out := fun ρ => (dSh d ρ).bind fun r => match slotW r.2 i with
  | some (.ins c gs) => if ok c = true ∧ gs.length < 1000 then some (.next, r.2.set i (some (.ins c (putG f r.1 gs)))) else Option.none
  | _ => Option.none
section
variable {cl : Nat → Addr} {np : Nat} {X : Cx} {e : Expr} {n x : Str} {pos p p' : Pos} {d : Den Rv} {i : Nat}
theorem ds_fld {ok : Nat → Bool} (hok : ∀ c, ok c = true → Cls X.K (cl c) ∧ NoAttr X.K (cl c) n) (hN : X.N[i]? = some x) (hv : Vis X.env.scope x) (he : DE cl X e d) (hd : (x == ("__debug__" : Str)) = false := by decide) (hcd : (x == ("__classdict__" : Str)) = false := by decide)
    (hs : swapsWith e (some (.Attribute (.Name x p) n p')) pos.line X.env = pure false := by rfl) : DS cl np X (.Assign [.Attribute (.Name x p) n p'] e pos) (dFldSet i n ok d) :=
  ps_imp (ps_fld (pe_var hN hv hd hcd) (de_sh he) hs) fun E σ H ⟨M, ρ, f, o, ρ', rs, hd, k⟩ => by
    obtain ⟨⟨dv, ρ1⟩, h1, hd⟩ := Option.bind_eq_some_iff.mp hd
    dsimp only at hd
    split at hd
    · rename_i c gs hsl
      by_cases q : ok c = true ∧ gs.length < 1000
      · rw [if_pos q] at hd
        cases hd
        refine ⟨M, ρ, f, dv, ρ1, rs, h1, fun v M1 H1 f1 rs1 is1 st1 => ?_⟩
        obtain ⟨a, dx, fs, e1, e2, e3, e4, e5⟩ := rs1.ownIns hsl
        refine ⟨.ref a, e1, a, cl c, dx, fs, rfl, e2, (hok c q.1).1, (hok c q.1).2, by rw [isF_len e3]; exact q.2, ?_⟩
        obtain ⟨r2, s2⟩ := rs1.putIns (c := c) (gs := putG n dv gs) (dx := dx) (fs := putF n v fs) e1 e4 (isF_put is1 e3)
        exact k σ M1 _ f1 r2 (st1.trans rs.trk s2) Par.refl
      · rw [if_neg q] at hd
        cases hd
    · cases hd
end
/-! ### construction -/
theorem RoomG.make {c : Bool} {k : Nat} {A : Around} (r : RoomG c (k + 1) A) (C : Addr) (us : List Value) (kw : List (Str × Value)) : RoomG c k (A.under (.builtin "type.__call__" ⟨.ref C :: us, kw⟩)) := by
  refine ⟨fun h => r.hd h, by have := r.dp; rw [make_depth]; omega, by have := r.un; rw [make_units]; omega, ?_⟩
  have := r.g
  have hc : (Code.builtin "type.__call__" ⟨.ref C :: us, kw⟩).isGuard = false := by
    show guardIds.contains "type.__call__" = false
    decide +kernel
  simp [Around.under, Code.guards, hc, pushGuards, this]
section
variable {c : Bool} {X : Cx} {CX : CXT} {k n : Nat} {f C : Addr} {fd : FuncData} {ps ks : List Str} {sp : Sp} {E : XK} {x : Str} {p pos : Pos} {e : Expr} {es : List Expr} {kws : List Keyword} {t tk : TA} {g : List Value → List Value → List Value} {gV : List V → List V → List V}
theorem run_makeG {pins : List (Addr × Obj)} {σ : L2.St} {H : Hp} {s : Shared} {Q : VK} {us ws : List Value} {vs zs : List V} (M : Mk X.K C f) (F : FnOkG c X.prog X.w X.K X.mg X.base CX k f fd ps sp) (hr : RoomG c (k + 1) X.A) (hb : KBn X.K fd ps (n + 1) ks g gV)
    (hx : Passes CX X E) (I : Inv X pins σ H s) (r : Vals vs us) (rz : Vals zs ws) (l1 : vs.length = n) (l2 : zs.length = ks.length)
    (h : ∀ x dx, H x = none → H dx = none → dx ≠ x → sp (gV (.ref x :: vs) zs) (upd (upd H dx (.own x)) x (.ins C dx [])) (fun v H2 => v = .non ∧ Q (.ref x) H2) E) :
    wpAny (model X.prog X.w) X.A (call (.ref C) us (ks.zip ws)) (EP X pins σ Q) X.xe s := by
  have hq := h (s.heap.objs.size + 1) s.heap.objs.size (I.hok.fresh (Nat.le_succ _)) (I.hok.fresh (Nat.le_refl _)) (Nat.ne_of_lt (Nat.lt_succ_self _))
  have I2 := Inv.made (C := C) I
  have r1 : Vals (V.ref (s.heap.objs.size + 1) :: vs) (Value.ref (s.heap.objs.size + 1) :: us) := .cons rfl r
  have r2 := hb.rel r1 rz
  have e1 : (Value.ref (s.heap.objs.size + 1) :: us).length = n + 1 := r1.length.symm.trans (congrArg Nat.succ l1)
  have e2 : ws.length = ks.length := rz.length.symm.trans l2
  refine wpAny_call (make_map (f := f) I.kIn M.makes M.init (beq_iff_eq.mp M.fn) (codeAny_mono (F.run _ X.stack _ _ ⟨Value.ref (s.heap.objs.size + 1) :: us, ks.zip ws⟩ (g (Value.ref (s.heap.objs.size + 1) :: us) ws) _ _ E (hr.make C us (ks.zip ws))
    (I2.env0.make C us (ks.zip ws)) (hb.to _ (Value.ref (s.heap.objs.size + 1) :: us) ws I2.kIn e1 e2) r2 hq) fun r s' hq' => ?_))
  cases r with
  | error e => exact hx pins σ _ _ e s' I2 hq'
  | ok fl =>
    cases fl with
    | ret u =>
      obtain ⟨v, H', I3, rv, ev, q3⟩ := I2.after hq'
      subst ev
      exact ⟨rv, ⟨V.ref (s.heap.objs.size + 1), H', I3, rfl, q3⟩⟩
    | next => exact False.elim hq'
    | brk => exact False.elim hq'
    | cont => exact False.elim hq'
/-- what is asked of a construction: vs the values in the parameters' order -/
def tMkG (C : Addr) (sp : Sp) (p' : List V → List V) (E : XK) (t : TA) : TE := fun σ H Q => t σ H fun vs H1 => (p' vs).length = vs.length ∧ ∀ x dx, H1 x = none → H1 dx = none → dx ≠ x →
  sp (.ref x :: p' vs) (upd (upd H1 dx (.own x)) x (.ins C dx [])) (fun v H2 => v = .non ∧ Q (.ref x) H2) E
theorem pe_makeG (M : Mk X.K C f) (F : FnOkG c X.prog X.w X.K X.mg X.base CX k f fd ps sp) (hr : RoomG c (k + 1) X.A) (hg : Gl X x) (hm : X.mg x = some (.ref C)) (hb : Binds X.K fd ps []) (hx : Passes CX X E)
    (ha : PA X (e :: es) t) (hdb : (x == ("__debug__" : Str)) = false := by decide) (he : starEach (e :: es) X.env = (false, eval e X.env) :: starEach es X.env := by rfl) (hpl : (backTo pos (starEach es X.env)).any (·.1) = false := by rfl) :
    PE X (.Call (.Name x p) (e :: es) [] pos) (tMkG C sp id E t) := by
  refine ⟨fun pins s σ H Q I h => ?_⟩
  refine wpAny_Call_Name_kw (ld_glob I hg hm ?_ hdb)
  refine PySem.W.callWith_K (h₀ := X.base) I.ok.mod.kin M.kp (thn (ha.run pos pins s σ H _ I h) fun us s1 ⟨vs, H1, I1, r1, _, q1⟩ => ⟨I1.kIn, ?_⟩) he hpl
  have hl : ps.length = vs.length + 1 := by
    have := F.len _ _ _ _ (q1 (s1.heap.objs.size + 1) s1.heap.objs.size (I1.hok.fresh (Nat.le_succ _)) (I1.hok.fresh (Nat.le_refl _)) (Nat.ne_of_lt (Nat.lt_succ_self _)))
    simpa using this.symm
  refine run_makeG (n := vs.length) (ks := []) (ws := []) (zs := []) (g := fun us _ => us) (gV := fun vs _ => vs) M F hr ⟨fun s us ws X l1 l2 => ?_, fun r _ => r⟩ hx I1 r1 .nil rfl rfl q1
  have := hb s us X (by rw [List.append_nil, l1, hl])
  rw [List.append_nil] at this
  exact this
/-- C(k = v, ..) -/
theorem pe_makeGK {p' : List V → List V} {q' : List Value → List Value} (M : Mk X.K C f) (F : FnOkG c X.prog X.w X.K X.mg X.base CX k f fd ps sp) (hr : RoomG c (k + 1) X.A) (hg : Gl X x) (hm : X.mg x = some (.ref C)) (hb : KBn X.K fd ps 1 ks (fun us ws => us ++ q' ws) (fun vs zs => vs ++ p' zs)) (hx : Passes CX X E)
    (hkw : PK X kws tk) (hps : ps.length = ks.length + 1) (hall : (backToKw pos (keywordEach kws X.env)).all (·.1.isSome) = true := by rfl) (hks : (backToKw pos (keywordEach kws X.env)).filterMap (·.1) = ks := by rfl) (hdb : (x == ("__debug__" : Str)) = false := by decide)
    (hpl : ((backTo pos (starEach [] X.env)).any (·.1) || (backToKw pos (keywordEach kws X.env)).any (·.1.isNone)) = false := by rfl) :
    PE X (.Call (.Name x p) [] kws pos) (tMkG C sp p' E tk) := by
  refine ⟨fun pins s σ H Q I h => ?_⟩
  refine wpAny_Call_Name_kw (ld_glob I hg hm ?_ hdb)
  refine PySem.W.callWith_KW0 (h₀ := X.base) I.ok.mod.kin M.kp hall ?_ hpl
  refine thn (hkw.run pos pins s σ H _ I h) fun ws s2 ⟨zs, H2, I2, rz, l2, q2⟩ => ⟨I2.kIn, ?_⟩
  rw [hks]
  have hl : ks.length = zs.length := by
    have := F.len _ _ _ _ (q2 (s2.heap.objs.size + 1) s2.heap.objs.size (I2.hok.fresh (Nat.le_succ _)) (I2.hok.fresh (Nat.le_refl _)) (Nat.ne_of_lt (Nat.lt_succ_self _)))
    rw [List.length_cons, l2] at this
    omega
  exact run_makeG (n := 0) (us := []) (vs := []) M F hr hb hx I2 .nil rz rfl hl.symm q2
end
/-- C(e, ..): what is made is let go -/
def dMk (c : Nat) (den : List W → Option (W × List W)) (dr : Den (List Rv)) : Den Rv := fun ρ => (dr ρ).bind fun r => if (slotsOf r.1).Nodup then (argW r.2 r.1).bind fun ws => (den (.ins c [] :: ws)).bind fun y => match y.1, y.2 with
  | .leaf .none, x :: ws' => some (.val (.leaf x.toD), putBack r.1 ws' (clearAll r.1 r.2))
  | _, _ => Option.none else Option.none
theorem dMk_imp {w : World} {K : PySem.W.Frag} {cl : Nat → Addr} {c : Nat} {C : Addr} {den : List W → Option (W × List W)} {dr : Den (List Rv)} {E : XK} {σ : L2.St} {H : Hp} {Q : VK} (hC : cl c = C) (h : tD w K cl (dMk c den dr) σ H Q) : tMkG C (spW w K cl den) id E (tRA w K cl dr) σ H Q := by
  obtain ⟨M, ρ, f, rv, ρ', rs, hd, k⟩ := h
  obtain ⟨⟨rvs, ρ1⟩, h1, hd⟩ := Option.bind_eq_some_iff.mp hd
  dsimp only at hd
  by_cases q : (slotsOf rvs).Nodup
  · rw [if_pos q] at hd
    obtain ⟨ws, h2, hd⟩ := Option.bind_eq_some_iff.mp hd
    obtain ⟨⟨wr, wl⟩, h3, hd⟩ := Option.bind_eq_some_iff.mp hd
    dsimp only at hd
    split at hd
    · rename_i x' ws'
      cases hd
      subst hC
      refine ⟨M, ρ, f, rvs, ρ1, rs, h1, fun vs M1 H1 f1 fws rs1 ok1 st1 => ⟨rfl, fun x dx nx nd ne => ?_⟩⟩
      have r2 := rs1.new nd (.own x)
      have nx2 : upd H1 dx (.own x) x = none := by rw [upd_ne (Ne.symm ne)]; exact nx
      have r3 := r2.1.newM nx2 (.ins (cl c) dx [])
      have ok3 := (ok1.carry rs1 r2.2).carry r2.1 r3.2
      have st := (st1.trans rs.trk r2.2).trans rs.trk r3.2
      have ok4 := RvsOk.cons (w := w) (K := K) (cl := cl) (rv := Rv.val (.ins c [])) (v := V.ref x) (fw := [x]) ⟨.ins upd_same .nil, by simp, fun a ha => by
        have e : a = x := by simpa using ha
        subst e
        exact ⟨.inr rfl, rs1.not_in nx, st1.back nx⟩⟩ ok3 fun a ha l hl z => by
        have e : a = x := by simpa using ha
        subst e
        obtain ⟨o, ho⟩ := rs1.trk a (ok1.inM l hl a z).1
        rw [nx] at ho
        cases ho
      refine call_back2 (rvs := .val (.ins c []) :: rvs) (ws := .ins c [] :: ws) rs.trk st r3.1 ok4 (by show (argW ρ1 rvs).map _ = _; rw [h2]; rfl) q h3 fun v M2 H2 f2 fw rs2 okr st2 vals => ?_
      obtain ⟨wi, _, _⟩ := okr
      have ev : v = .non := by
        cases wi with
        | leaf is => cases is; rfl
      refine ⟨ev, ?_⟩
      obtain ⟨u, fx, e1, okx⟩ := vals 0 _ x' rfl rfl
      cases e1
      obtain ⟨M3, f3, rs3, is3, st3⟩ := okx.share rs2 st2 rs.trk (d := x'.toD) (ρ2 := putBack rvs ws' (clearAll rvs ρ1)) rfl
      exact k (.ref x) M3 H2 f3 [] rs3 (rvB is3) st3
    · cases hd
  · rw [if_neg q] at hd
    cases hd
end Ws
set_option Elab.async false
set_option linter.all false
set_option maxRecDepth 100000
set_option maxHeartbeats 4000000
/-! Ws25: a class whose __init__ keeps den. -/
namespace Ws
open PySem PySem.Spec PyProof.Rows L2
/-- the plain class at C, its __init__ keeping den -/
def MkOk (c : Bool) (P : Program) (w : World) (K : PySem.W.Frag) (mg : Str → Option Value) (base : Heap) (cl : Nat → Addr) (k : Nat) (C : Addr) (den : List W → Option (W × List W)) : Prop :=
  ∃ f fd ps, Mk K C f ∧ FnOkG c P w K mg base CX0 k f fd ps (spW w K cl den) ∧ Binds K fd ps []
section
variable {c : Bool} {cl : Nat → Addr} {X : Cx} {k k' : Nat} {C : Addr} {j : Nat} {den : List W → Option (W × List W)} {x : Str} {p pos : Pos} {e : Expr} {es : List Expr} {dr : Den (List Rv)}
theorem de_mk (I : MkOk c X.prog X.w X.K X.mg X.base cl k C den) (hC : cl j = C) (hr : RoomG c k' X.A) (hk : k + 1 ≤ k') (hg : Gl X x) (hm : X.mg x = some (.ref C)) (ha : DR cl X (e :: es) dr)
    (hdb : (x == ("__debug__" : Str)) = false := by decide) (he : starEach (e :: es) X.env = (false, eval e X.env) :: starEach es X.env := by rfl) (hpl : (backTo pos (starEach es X.env)).any (·.1) = false := by rfl) :
    DE cl X (.Call (.Name x p) (e :: es) [] pos) (dMk j den dr) := by
  obtain ⟨f, fd, ps, T, F, b⟩ := I
  exact pe_imp (pe_makeG T F (hr.mono hk) hg hm b pass0 ha hdb he hpl) fun _ _ _ h => dMk_imp hC h
end
end Ws
set_option Elab.async false
set_option linter.all false
set_option maxRecDepth 100000
set_option maxHeartbeats 4000000
/-! Ws26: methods and properties where no repr is under way. -/
namespace Ws
open PySem PySem.Spec PyProof.Rows L2
section
variable {c : Bool} {X : Cx} {CX : CXT} {k : Nat} {f C : Addr} {fd : FuncData} {ps : List Str} {ds : List Value} {dvs : List V} {sp : Sp} {E : XK} {m : Str} {apos pos : Pos} {o e : Expr} {es : List Expr} {ta : TE} {t : TA}
theorem pe_methG {pl : Sem Bool} (he : PE X o ta) (c1 : Cls X.K C) (hm : Meth X.K C m f) (F : FnOkG c X.prog X.w X.K X.mg X.base CX k f fd ps sp) (hr : RoomG c k X.A) (hb : Binds X.K fd ps ds) (hd : Vals dvs ds) (hx : Passes CX X E) (ha : PA X (e :: es) t)
    (hst : starEach (e :: es) X.env = (false, eval e X.env) :: starEach es X.env := by rfl) (hpl : (backTo pos (starEach es X.env)).any (·.1) = false := by rfl)
    (ht : eval (.Call (.Attribute o m apos) (e :: es) [] pos) X.env = (do
      let ov ← eval o X.env
      standAt apos.atName
      let (f, first) ← holding [ov] (getMethod ov m pl)
      callWith pos f first (backTo pos (starEach (e :: es) X.env)) (backToKw pos (keywordEach [] X.env))) := by rfl) :
    PE X (.Call (.Attribute o m apos) (e :: es) [] pos) (tMeth C m sp dvs E ta t) := by
  refine ⟨fun pins s σ H Q I h => ?_⟩
  refine PySem.W.methodCall_KW (pl := pl) (thn (he.run pins s σ H _ I h) fun u s1 ⟨x, H1, I1, rx, a, dx, fs, ex, ea, l, q⟩ => ?_) ht
  subst ex
  obtain rfl : u = Value.ref a := rx
  refine getmeth_ok I1 ea c1 hm l ?_
  refine PySem.W.callWith_K (first := [.ref a]) (h₀ := X.base) I.ok.mod.kin hm.kp (thn (ha.run pos pins s1 σ H1 _ I1 q) fun us s2 ⟨vs, H2, I2, r, q2⟩ => ⟨I2.kIn, ?_⟩) hst hpl
  exact run_fnG (us := .ref a :: us) (vs := .ref a :: vs) F hr hb hd hx I2 (.cons rfl r) q2
theorem pe_methG0 {pl : Sem Bool} (he : PE X o ta) (c1 : Cls X.K C) (hm : Meth X.K C m f) (F : FnOkG c X.prog X.w X.K X.mg X.base CX k f fd ps sp) (hr : RoomG c k X.A) (hb : Binds X.K fd ps ds) (hd : Vals dvs ds) (hx : Passes CX X E)
    (ht : eval (.Call (.Attribute o m apos) [] [] pos) X.env = (do
      let ov ← eval o X.env
      standAt apos.atName
      let (f, first) ← holding [ov] (getMethod ov m pl)
      callWith pos f first (backTo pos (starEach [] X.env)) (backToKw pos (keywordEach [] X.env))) := by rfl) :
    PE X (.Call (.Attribute o m apos) [] [] pos) (tMeth C m sp dvs E ta tNil) := by
  refine ⟨fun pins s σ H Q I h => ?_⟩
  refine PySem.W.methodCall_KW (pl := pl) (thn (he.run pins s σ H _ I h) fun u s1 ⟨x, H1, I1, rx, a, dx, fs, ex, ea, l, q⟩ => ?_) ht
  subst ex
  obtain rfl : u = Value.ref a := rx
  refine getmeth_ok I1 ea c1 hm l ?_
  exact PySem.W.callWith_K0 (first := [.ref a]) I1.kIn hm.kp (run_fnG (us := [.ref a]) (vs := [.ref a]) F hr hb hd hx I1 (.cons rfl .nil) q)
end
/-- the method m of the plain class at C keeps den (the object first) -/
def MethOk (c : Bool) (P : Program) (w : World) (K : PySem.W.Frag) (mg : Str → Option Value) (base : Heap) (cl : Nat → Addr) (k : Nat) (C : Addr) (m : Str) (den : List W → Option (W × List W)) : Prop :=
  ∃ f fd ps, Cls K C ∧ Meth K C m f ∧ FnOkG c P w K mg base CX0 k f fd ps (spW w K cl den) ∧ Binds K fd ps []
section
variable {c : Bool} {cl : Nat → Addr} {X : Cx} {k k' : Nat} {C : Addr} {j : Nat} {den : List W → Option (W × List W)} {m : Str} {apos pos : Pos} {o e : Expr} {es : List Expr} {d : Den Rv} {dr : Den (List Rv)}
theorem de_m {pl : Sem Bool} (I : MethOk c X.prog X.w X.K X.mg X.base cl k C m den) (hC : cl j = C) (hr : RoomG c k' X.A) (hk : k ≤ k') (he : DE cl X o d) (ha : DR cl X (e :: es) dr)
    (hst : starEach (e :: es) X.env = (false, eval e X.env) :: starEach es X.env := by rfl) (hpl : (backTo pos (starEach es X.env)).any (·.1) = false := by rfl)
    (ht : eval (.Call (.Attribute o m apos) (e :: es) [] pos) X.env = (do
      let ov ← eval o X.env
      standAt apos.atName
      let (f, first) ← holding [ov] (getMethod ov m pl)
      callWith pos f first (backTo pos (starEach (e :: es) X.env)) (backToKw pos (keywordEach [] X.env))) := by rfl) :
    DE cl X (.Call (.Attribute o m apos) (e :: es) [] pos) (dCall den (dRCons (dRecv j m d) dr) []) := by
  obtain ⟨f, fd, ps, c1, hm, F, b⟩ := I
  exact pe_imp (pe_methG he c1 hm (F.mono hk) hr b .nil pass0 ha hst hpl ht) fun _ _ _ => dMeth_imp hC (fun _ _ => .nil)
theorem de_m0 {pl : Sem Bool} (I : MethOk c X.prog X.w X.K X.mg X.base cl k C m den) (hC : cl j = C) (hr : RoomG c k' X.A) (hk : k ≤ k') (he : DE cl X o d)
    (ht : eval (.Call (.Attribute o m apos) [] [] pos) X.env = (do
      let ov ← eval o X.env
      standAt apos.atName
      let (f, first) ← holding [ov] (getMethod ov m pl)
      callWith pos f first (backTo pos (starEach [] X.env)) (backToKw pos (keywordEach [] X.env))) := by rfl) :
    DE cl X (.Call (.Attribute o m apos) [] [] pos) (dCall den (dRCons (dRecv j m d) dRNil) []) := by
  obtain ⟨f, fd, ps, c1, hm, F, b⟩ := I
  exact pe_imp (pe_methG0 he c1 hm (F.mono hk) hr b .nil pass0 ht) fun σ H Q h => meth0_imp (dMeth_imp hC (fun _ _ => .nil) h)
end
end Ws
set_option Elab.async false
set_option linter.all false
set_option maxRecDepth 100000
set_option maxHeartbeats 4000000
/-! Ws27: properties where no repr is under way. -/
namespace Ws
open PySem PySem.Spec PyProof.Rows L2
theorem RoomG.in1 {c : Bool} {k : Nat} {A : Around} (r : RoomG c (k + 1) A) : RoomG c k A.in1 :=
  ⟨r.hd, by have := r.dp; show A.depth + 3 * k + 5 < _; omega, by have := r.un; show A.units + 1 + 16 * k + 200 < _; omega, r.g⟩
section
variable {c : Bool} {X : Cx} {CX : CXT} {k : Nat} {C p g a dx : Addr} {fs : List (Str × V)} {f : Str} {fd : FuncData} {ps : List Str} {sp : Sp} {E : XK} {e : Expr} {pos : Pos} {ta : TE}
theorem pe_propG (he : PE X e ta) (c1 : Cls X.K C) (hp : PropOf X.K C f p g) (F : FnOkG c X.prog X.w X.K X.mg X.base CX k g fd ps sp) (hr : RoomG c (k + 1) X.A) (hb : Binds X.K fd ps []) (hx : Passes CX X.nox E)
    (hab : attributeBase e f X.env (eval e X.env) = eval e X.env) : PE X (.Attribute e f pos) (tProp C sp [] E ta) := by
  refine ⟨fun pins s σ H Q I0 h0 => ?_⟩
  refine attr_of hab (thn (he.run pins s σ H _ I0 h0) fun u s1 ⟨x, H1, I, rx, a, dx, fs, ex, ea, h⟩ => ?_)
  subst ex
  obtain rfl : u = Value.ref a := rx
  obtain ⟨mA, O, _, _, _, _⟩ := ins_get I.hok ea
  obtain ⟨od, J, _⟩ := O.look
  obtain ⟨rest, hrec⟩ := hp.rec_
  have I1 := I.tok (s1.toks + 1)
  have hl : ([Value.ref a] ++ ([] : List Value)).length = ps.length := by
    rw [← F.len _ _ _ _ h]
    rfl
  have hc : (PySem.W.clsIn X.K C).isSome = true := by
    obtain ⟨cd, hc, _⟩ := PySem.W.any_some c1.hd
    rw [hc]
    rfl
  refine PySem.W.get_bind I.kIn J (PySem.W.plainGet_of (c1.get f)).1 (PySem.W.findObj_data hc hp.at_ hp.get hp.tak) (PySem.W.plainGet_of (c1.get f)).2 (wpAny_call (PySem.W.prop_get (s := { s1 with toks := s1.toks + 1 }) I.kIn hrec ?_))
  refine codeAny_mono (F.run X.A.in1 X.stack { s1 with toks := s1.toks + 1 } H1 ⟨[.ref a], []⟩ [.ref a] [.ref a] Q E hr.in1 I1.env0.in1 (hb _ [.ref a] I1.kIn hl) (.cons rfl .nil) h) fun r s' hq => ?_
  cases r with
  | error er => exact False.elim (hx pins σ H1 { s1 with toks := s1.toks + 1 } er s' (I1.wish _) hq)
  | ok fl =>
    cases fl with
    | ret u =>
      obtain ⟨v, H', I3, rv, q3⟩ := I1.after hq
      show wpAny _ _ (handedOut u) _ _ _
      rw [PySem.W.handedOut_of (handed_of rv)]
      exact wpAny_pure ⟨v, H', I3, rv, q3⟩
    | next => exact False.elim hq
    | brk => exact False.elim hq
    | cont => exact False.elim hq
end
end Ws
set_option Elab.async false
set_option linter.all false
set_option maxRecDepth 100000
set_option maxHeartbeats 4000000
/-! Ws28: a property read, as a call of its getter. -/
namespace Ws
open PySem PySem.Spec PyProof.Rows L2
/-- the property m of the plain class at C keeps den (the object first) -/
def PropOk (c : Bool) (P : Program) (w : World) (K : PySem.W.Frag) (mg : Str → Option Value) (base : Heap) (cl : Nat → Addr) (k : Nat) (C : Addr) (m : Str) (den : List W → Option (W × List W)) : Prop :=
  ∃ p f fd ps, Cls K C ∧ PropOf K C m p f ∧ FnOkG c P w K mg base CX0 k f fd ps (spW w K cl den) ∧ Binds K fd ps []
section
variable {c : Bool} {cl : Nat → Addr} {X : Cx} {k k' : Nat} {C : Addr} {j : Nat} {den : List W → Option (W × List W)} {m : Str} {pos : Pos} {o : Expr} {d : Den Rv}
theorem tMeth_prop {w : World} {K : PySem.W.Frag} {sp : Sp} {E : XK} {σ : L2.St} {H : Hp} {Q : VK} (h : tMeth C m sp [] E (tD w K cl d) tNil σ H Q) : tProp C sp [] E (tD w K cl d) σ H Q := by
  obtain ⟨M, ρ, f, rv, ρ', rs, hd, k⟩ := h
  refine ⟨M, ρ, f, rv, ρ', rs, hd, fun v M1 H1 f1 fw rs1 ok1 st1 => ?_⟩
  obtain ⟨a, dx, fs, e1, e2, e3, q⟩ := k v M1 H1 f1 fw rs1 ok1 st1
  subst e1
  exact ⟨a, dx, fs, rfl, e2, q⟩
theorem de_p (I : PropOk c X.prog X.w X.K X.mg X.base cl k C m den) (hC : cl j = C) (hr : RoomG c k' X.A) (hk : k + 1 ≤ k') (he : DE cl X o d)
    (hab : attributeBase o m X.env (eval o X.env) = eval o X.env := by rfl) :
    DE cl X (.Attribute o m pos) (dCall den (dRCons (dRecv j m d) dRNil) []) := by
  obtain ⟨p, f, fd, ps, c1, hp, F, b⟩ := I
  exact pe_imp (pe_propG he c1 hp F (hr.mono hk) b pass0 hab) fun σ H Q h => tMeth_prop (meth0_imp (dMeth_imp hC (fun _ _ => .nil) h))
end
end Ws
set_option Elab.async false
set_option linter.all false
set_option maxRecDepth 100000
set_option maxHeartbeats 4000000
/-! Ws29: dicts whose keys are values of any kind (a kind of keys that may lie on the heap or not). -/
namespace Ws
open PySem PySem.Spec PyProof.Rows L2
structure VKind (prog : Program) (w : World) (K : Type) [DecidableEq K] where
  is : Heap → K → Value → Prop
  hash : K → Int
  room : Around → Prop
  inj : ∀ {h : Heap} {v : Value} {x y : K}, is h x v → is h y v → x = y
  keeps : ∀ {h h' : Heap} {k : K} {v : Value} {d : Addr} {o : Obj} {es ep}, is h k v → h.get? d = some o → o.data = .dict es ep → Heap.SameBut d h h' → is h' k v
  pyHash : ∀ {A : Around} {E : Value → Shared → Prop} {s : Shared} {k : K} {v : Value} {Q : Int → Shared → Prop}, room A → is s.heap k v → (∀ n, Q (hash k) { s with toks := s.toks + n }) → wpAny (model prog w) A (PySem.pyHash v) Q E s
  eqBool : ∀ {A : Around} {E : Value → Shared → Prop} {s : Shared} {x y : K} {u v : Value} {Q : Bool → Shared → Prop}, room A → is s.heap x u → is s.heap y v → Q (decide (x = y)) s → wpAny (model prog w) A (PySem.eqBool u v) Q E s
  quiet : ∀ {A : Around} {E : Value → Shared → Prop} {s : Shared} {k : K} {v : Value} {Q : Bool → Shared → Prop}, is s.heap k v → Q true s → wpAny (model prog w) A (eqIsQuiet 8 v) Q E s
  «strs» : ∀ {h : Heap} {k k' : K} {x : Str} {t : Tok} {v : Value}, is h k (.str x t) → is h k' v → v.isStr x = decide (k' = k)
section
variable {prog : Program} {w : World} {K : Type} [DecidableEq K] {knd : VKind prog w K} {A : Around} {E : Value → Shared → Prop} {s : Shared}
/-- the entries' keys are these -/
def KeysV (knd : VKind prog w K) (h : Heap) (es : Array DictEntry) (ks : List K) : Prop := Paired (fun (e : DictEntry) k => knd.is h k e.key ∧ e.hash = knd.hash k) es.toList ks
theorem tellV {key : Value} {k : K} {stored : List Value} {Q : Bool → Shared → Prop} (hkey : knd.is s.heap k key)
    (hst : ∀ v ∈ stored, ∃ k', knd.is s.heap k' v) (h : Q false s) : wpAny (model prog w) A (tableMayTell key stored) Q E s := by
  unfold tableMayTell
  split
  · exact wpAny_pure h
  · refine wpAny_bind (knd.quiet hkey ?_)
    simp only [Bool.not_true, Bool.false_eq_true, if_false]
    refine wpAny_bind ?_
    refine wpAny_forIn_list _ (fun rest r s' => s' = s ∧ r = (none, ()) ∧ ∀ v ∈ rest, ∃ k', knd.is s.heap k' v) _ ?_ ?_ _ _ ⟨rfl, rfl, hst⟩
    · rintro x rest r s' ⟨rfl, rfl, hr⟩
      obtain ⟨k', hb⟩ := hr x List.mem_cons_self
      refine wpAny_bind (knd.quiet hb ?_)
      simp only [Bool.not_true, Bool.false_eq_true, if_false]
      exact wpAny_pure ⟨rfl, rfl, fun v hv => hr v (List.mem_cons_of_mem _ hv)⟩
    · rintro r s' ⟨rfl, rfl, _⟩
      exact wpAny_pure h
end
end Ws
set_option Elab.async false
set_option linter.all false
set_option maxRecDepth 100000
set_option maxHeartbeats 4000000
/-! Ws30: a key is looked up. -/
namespace Ws
open PySem PySem.Spec PyProof.Rows L2
theorem Paired.get {α β : Type} {F : α → β → Prop} : ∀ {l₁ : List α} {l₂ : List β}, Paired F l₁ l₂ → ∀ {j : Nat} {a : α}, l₁[j]? = some a → ∃ b, l₂[j]? = some b ∧ F a b
  | _, _, .nil, _, _, h => by simp at h
  | _, _, .cons h t, 0, _, e => by
    simp only [List.getElem?_cons_zero, Option.some.injEq] at e
    subst e
    exact ⟨_, rfl, h⟩
  | _, _, .cons h t, j + 1, a, e => by
    simp only [List.getElem?_cons_succ] at e ⊢
    exact Paired.get t e
section
variable {prog : Program} {w : World} {K : Type} [DecidableEq K] {knd : VKind prog w K} {A : Around} {E : Value → Shared → Prop} {s : Shared}
theorem KeysV.at_ {h : Heap} {es : Array DictEntry} {ks : List K} (r : KeysV knd h es ks) {j : Nat} {e : DictEntry} (he : es[j]? = some e) : ∃ k, ks[j]? = some k ∧ knd.is h k e.key ∧ e.hash = knd.hash k := by
  rw [← Array.getElem?_toList] at he
  exact Paired.get r he
theorem KeysV.size {h : Heap} {es : Array DictEntry} {ks : List K} (r : KeysV knd h es ks) : es.size = ks.length := by
  rw [← Array.length_toList]
  exact Paired.length r
theorem KeysV.back {h : Heap} {es : Array DictEntry} {ks : List K} (r : KeysV knd h es ks) {j : Nat} {k : K} (hk : ks[j]? = some k) : ∃ e, es[j]? = some e ∧ knd.is h k e.key ∧ e.hash = knd.hash k := by
  have hj : j < es.size := by
    rw [r.size]
    exact (List.getElem?_eq_some_iff.mp hk).1
  have he : es[j]? = some es[j] := Array.getElem?_eq_getElem hj
  obtain ⟨k', e1, e2, e3⟩ := r.at_ he
  rw [hk] at e1
  cases e1
  exact ⟨_, he, e2, e3⟩
theorem nodup_at {ks : List K} (hn : ks.Nodup) {i j : Nat} {k : K} (hi : ks[i]? = some k) (hj : ks[j]? = some k) : i = j :=
  (List.getElem?_inj (List.getElem?_eq_some_iff.mp hi).1 hn).mp (hi.trans hj.symm)
/-- the plain walk -/
theorem walkPlainV {d : Addr} {o : Obj} {es : Array DictEntry} {ep : Nat} {ks : List K} {k : K} {key : Value} {Q : Option Nat → Shared → Prop} (hu : knd.room A) (hkey : knd.is s.heap k key) (ho : s.heap.get? d = some o) (hd : o.data = .dict es ep) (hks : KeysV knd s.heap es ks)
    (hnone : (∀ j : Nat, ks[j]? ≠ some k) → Q none s) (hsome : ∀ j : Nat, ks[j]? = some k → Q (some j) s) :
    wpAny (model prog w) A (dictWalkPlain d key (knd.hash k) es (placesWithHash es.size (fun i => es[i]?.map (·.hash)) (knd.hash k))) Q E s := by
  have haskey : ∀ j : Nat, ks[j]? = some k → ((es[j]?.map (·.hash)) == some (knd.hash k)) = true := by
    intro j hj
    obtain ⟨e, e1, _, e3⟩ := hks.back hj
    rw [e1, Option.map_some, e3]
    simp
  refine wpAny_bind ?_
  refine wpAny_forIn_list _
    (fun rest b s' => s' = s ∧ b = (none, ()) ∧ ∃ i, rest = (List.range' i (es.size - i)).filter (fun i => (es[i]?.map (·.hash)) == some (knd.hash k)) ∧ i ≤ es.size ∧
      ∀ j : Nat, j < i → ks[j]? ≠ some k) _ ?_ ?_ _ _
    ⟨rfl, rfl, 0, by rw [placesWithHash, List.range_eq_range', Nat.sub_zero], Nat.zero_le _, fun _ h => absurd h (Nat.not_lt_zero _)⟩
  · rintro x rest b s' ⟨rfl, rfl, i, hr, hi, hno⟩
    obtain ⟨hix, hxn, hpx, hskip, hrest⟩ := filter_range'_cons _ _ _ _ _ hr.symm
    have hlt : x < es.size := by omega
    obtain ⟨k', hk', hi', hhash⟩ := hks.at_ (Array.getElem?_eq_getElem hlt)
    have hnext : ¬ k' = k → ∃ i, rest = (List.range' i (es.size - i)).filter (fun i => (es[i]?.map (·.hash)) == some (knd.hash k)) ∧ i ≤ es.size ∧ ∀ j : Nat, j < i → ks[j]? ≠ some k := fun hne =>
      ⟨x + 1, by rw [hrest]; congr 2; omega, hlt, fun j hji hj => by
        rcases Nat.lt_or_ge j i with h | h
        · exact hno j h hj
        · rcases Nat.lt_or_ge j x with h' | h'
          · have := hskip j h h'
            rw [haskey j hj] at this
            exact absurd this (by decide)
          · have e : j = x := by omega
            subst e
            rw [hk'] at hj
            exact hne (Option.some.inj hj)⟩
    simp only [Array.getElem?_eq_getElem hlt]
    by_cases hh : (es[x].hash == knd.hash k) = true
    · rw [if_pos hh]
      refine wpAny_bind (wpAny_dictEpoch ho hd (wpAny_bind (knd.eqBool (x := k') (y := k) hu hi' hkey (wpAny_bind (wpAny_dictEpoch ho hd ?_)))))
      show wpAny _ _ (if (ep != ep) = true then _ else _) _ E _
      rw [if_neg (by simp)]
      by_cases hkk : k' = k
      · rw [decide_eq_true hkk]
        subst hkk
        exact wpAny_bind (wpAny_rule (wpAny_pure (wpAny_pure (hsome x hk'))))
      · rw [decide_eq_false hkk]
        exact wpAny_bind (wpAny_rule (wpAny_pure ⟨rfl, rfl, hnext hkk⟩))
    · rw [if_neg hh]
      refine wpAny_pure ⟨rfl, rfl, hnext ?_⟩
      intro hkk
      rw [hhash, hkk] at hh; simp at hh
  · rintro b s' ⟨rfl, rfl, i, hr, hi, hno⟩
    refine wpAny_pure (hnone fun j hj => ?_)
    rcases Nat.lt_or_ge j i with h | h
    · exact hno j h hj
    · have hjl : j < es.size := by
        rw [hks.size]
        exact (List.getElem?_eq_some_iff.mp hj).1
      have := List.filter_eq_nil_iff.mp hr.symm j (List.mem_range'_1.mpr ⟨h, by omega⟩)
      exact this (haskey j hj)
end
end Ws
set_option Elab.async false
set_option linter.all false
set_option maxRecDepth 100000
set_option maxHeartbeats 4000000
/-! Ws31: a key is looked up, read, stored. -/
namespace Ws
open PySem PySem.Spec PyProof.Rows L2
section
variable {prog : Program} {w : World} {K : Type} [DecidableEq K] {knd : VKind prog w K} {A : Around} {E : Value → Shared → Prop} {s : Shared}
theorem findV {d : Addr} {o : Obj} {es : Array DictEntry} {ep : Nat} {ks : List K} {k : K} {key : Value} {Q : Option Nat → Shared → Prop} (hu : knd.room A) (hkey : knd.is s.heap k key) (ho : s.heap.get? d = some o) (hd : o.data = .dict es ep) (hks : KeysV knd s.heap es ks) (hn : ks.Nodup)
    (hnone : (∀ j : Nat, ks[j]? ≠ some k) → Q none s) (hsome : ∀ j : Nat, ks[j]? = some k → Q (some j) s) :
    wpAny (model prog w) A (dictFind d key (knd.hash k)) Q E s := by
  have haskey : ∀ j : Nat, ks[j]? = some k → ((es[j]?.map (·.hash)) == some (knd.hash k)) = true := by
    intro j hj
    obtain ⟨e, e1, _, e3⟩ := hks.back hj
    rw [e1, Option.map_some, e3]
    simp
  have hst : ∀ v ∈ (placesWithHash es.size (fun i => es[i]?.map (·.hash)) (knd.hash k)).filterMap (fun i => es[i]?.map (·.key)), ∃ k', knd.is s.heap k' v := by
    intro v hv
    obtain ⟨i, _, hi⟩ := List.mem_filterMap.mp hv
    cases hei : es[i]? with
    | none => rw [hei] at hi; cases hi
    | some e =>
      rw [hei] at hi
      obtain rfl : e.key = v := by simpa using hi
      obtain ⟨k', _, h2, _⟩ := hks.at_ hei
      exact ⟨k', h2⟩
  have hany : ∀ a, key = Value.ref a → ¬ (es.any fun e => e.key == key && e.hash != knd.hash k) = true := by
    intro a _
    rw [← Array.any_toList, List.any_eq_true]
    rintro ⟨e, hin, hc⟩
    simp only [Bool.and_eq_true, beq_iff_eq, bne_iff_ne, ne_eq] at hc
    obtain ⟨hxa, hne⟩ := hc
    obtain ⟨j, hj⟩ := List.getElem?_of_mem hin
    rw [Array.getElem?_toList] at hj
    obtain ⟨k', _, h2, h3⟩ := hks.at_ hj
    rw [hxa] at h2
    exact hne (by rw [h3, knd.inj h2 hkey])
  unfold dictFind
  try with_reducible refine wpAny_holding ?_
  refine wpAny_bind (wpAny_dictEntries ho hd ?_)
  dsimp only
  have hallS : (es.all fun e => isExactStrKey e.key) = true → carriedByValue key = true → ((key :: (placesWithHash es.size (fun i => es[i]?.map (·.hash)) (knd.hash k)).filterMap fun i => es[i]?.map (·.key)).all carriedByValue) = true := by
    intro h1 h2
    rw [List.all_cons, h2, Bool.true_and, List.all_eq_true]
    intro v hv
    obtain ⟨i, _, hi⟩ := List.mem_filterMap.mp hv
    cases hei : es[i]? with
    | none => rw [hei] at hi; cases hi
    | some e =>
      rw [hei] at hi
      obtain rfl : e.key = v := by simpa using hi
      have := Array.all_eq_true_iff_forall_mem.mp h1 e (Array.mem_of_getElem? hei)
      cases hk : e.key <;> rw [hk] at this <;> first | rfl | cases this
  by_cases hall : ((key :: (placesWithHash es.size (fun i => es[i]?.map (·.hash)) (knd.hash k)).filterMap fun i => es[i]?.map (·.key)).all carriedByValue) = true
  · rw [if_pos hall]
    have old := walkPlainV (A := A) (E := E) hu hkey ho hd hks hnone hsome
    split
    next x t =>
      split
      next hstrs =>
        unfold foundByValue
        cases hf : es.findIdx? (fun e => e.key.isStr x) with
        | none =>
          refine wpAny_pure (hnone fun j hj => ?_)
          obtain ⟨e, e1, e2, _⟩ := hks.back hj
          have := Array.findIdx?_eq_none_iff.mp hf e (Array.mem_of_getElem? e1)
          rw [knd.strs hkey e2] at this
          simp at this
        | some i =>
          obtain ⟨hlt, hi, _⟩ := Array.findIdx?_eq_some_iff_getElem.mp hf
          obtain ⟨k', h1, h2, _⟩ := hks.at_ (Array.getElem?_eq_getElem hlt)
          have hkk : k' = k := by
            rw [knd.strs hkey h2] at hi
            exact of_decide_eq_true hi
          simp only [Array.getElem?_eq_getElem hlt]
          refine wpAny_bind (wpAny_dictEpoch ho hd (wpAny_bind (knd.eqBool (x := k') (y := k) hu h2 hkey (wpAny_bind (wpAny_dictEpoch ho hd ?_)))))
          show wpAny _ _ (if (ep != ep) = true then _ else _) _ E _
          rw [if_neg (by simp), decide_eq_true hkk]
          subst hkk
          exact wpAny_bind (wpAny_rule (wpAny_pure (hsome i h1)))
      next => exact old
    next => exact old
  · rw [if_neg hall]
    by_cases hone : (((placesWithHash es.size (fun i => es[i]?.map (·.hash)) (knd.hash k)).filterMap (fun i => es[i]?.map (·.key))) == [key]) = true <;> cases key
    all_goals try dsimp only
    all_goals try rw [if_neg (hany _ rfl)]
    all_goals try rw [if_neg (show ¬ (es.all fun e => isExactStrKey e.key) = true from fun z => hall (hallS z rfl))]
    all_goals
      (first | rw [if_pos hone] | rw [if_neg hone]) <;> (first | refine wpAny_bind (wpAny_pure ?_) | refine wpAny_bind (tellV hkey hst ?_)) <;> (
        rw [if_neg (by simp)]
        refine wpAny_bind ?_
        refine wpAny_forIn_list _
          (fun rest b s' => s' = s ∧ ∃ i hit, b = (none, hit) ∧ rest = (List.range' i (es.size - i)).filter (fun i => (es[i]?.map (·.hash)) == some (knd.hash k)) ∧ i ≤ es.size ∧
            ((hit = none ∧ ∀ j : Nat, j < i → ks[j]? ≠ some k) ∨ ∃ j : Nat, hit = some j ∧ j < i ∧ ks[j]? = some k)) _ ?_ ?_ _ _
          ⟨rfl, 0, none, rfl, by rw [placesWithHash, List.range_eq_range', Nat.sub_zero], Nat.zero_le _, .inl ⟨rfl, fun _ h => absurd h (Nat.not_lt_zero _)⟩⟩
        · rintro x rest b s' ⟨rfl, i, hit, rfl, hr, hi, hH⟩
          obtain ⟨hix, hxn, hpx, hskip, hrest⟩ := filter_range'_cons _ _ _ _ _ hr.symm
          have hlt : x < es.size := by omega
          have hrest' : rest = (List.range' (x + 1) (es.size - (x + 1))).filter (fun i => (es[i]?.map (·.hash)) == some (knd.hash k)) := by rw [hrest]; congr 2; omega
          obtain ⟨k', hkv, hib, hhash⟩ := hks.at_ (Array.getElem?_eq_getElem hlt)
          have hHx : (hit = none ∧ ∀ j : Nat, j < x → ks[j]? ≠ some k) ∨ ∃ j : Nat, hit = some j ∧ j < x ∧ ks[j]? = some k := by
            rcases hH with ⟨h0, hno⟩ | ⟨j, h1, hji, hj⟩
            · refine .inl ⟨h0, fun j hjx hj => ?_⟩
              rcases Nat.lt_or_ge j i with h | h
              · exact hno j h hj
              · have := hskip j h hjx
                rw [haskey j hj] at this
                exact absurd this (by decide)
            · exact .inr ⟨j, h1, by omega, hj⟩
          have hstay : ¬ k' = k → ((hit = none ∧ ∀ j : Nat, j < x + 1 → ks[j]? ≠ some k) ∨ ∃ j : Nat, hit = some j ∧ j < x + 1 ∧ ks[j]? = some k) := by
            intro hne
            rcases hHx with ⟨h0, hno⟩ | ⟨j, h1, hjx, hj⟩
            · refine .inl ⟨h0, fun j hjx hj => ?_⟩
              rcases Nat.lt_or_ge j x with h | h
              · exact hno j h hj
              · have hjx' : j = x := by omega
                subst hjx'
                rw [hkv] at hj
                exact hne (Option.some.inj hj)
            · exact .inr ⟨j, h1, by omega, hj⟩
          simp only [Array.getElem?_eq_getElem hlt]
          by_cases hh : (es[x].hash == knd.hash k) = true
          · rw [if_pos hh]
            refine wpAny_bind (wpAny_dictEpoch ho hd (wpAny_bind (knd.eqBool (x := k') (y := k) hu hib hkey (wpAny_bind (wpAny_dictEpoch ho hd ?_)))))
            show wpAny _ _ (if (ep != ep) = true then _ else _) _ E _
            rw [if_neg (by simp)]
            by_cases hkk : k' = k
            · rw [decide_eq_true hkk]
              subst hkk
              rcases hHx with ⟨rfl, _⟩ | ⟨j, _, hjx, hj⟩
              · first | rw [if_pos rfl] | skip
                simp only [Option.isSome_none, Bool.false_eq_true, if_false]
                first | refine wpAny_bind (wpAny_pure ?_) | skip
                refine wpAny_bind (wpAny_rule ?_)
                split
                · exact wpAny_pure (wpAny_pure (hsome x hkv))
                · exact wpAny_pure ⟨rfl, x + 1, some x, rfl, hrest', hlt, .inr ⟨x, rfl, Nat.lt_succ_self x, hkv⟩⟩
              · exact absurd (nodup_at hn hj hkv) (by omega)
            · rw [decide_eq_false hkk]
              simp only [Bool.false_eq_true, if_false]
              refine wpAny_bind (wpAny_rule ?_)
              first | rw [if_neg (by simp)] | skip
              first
                | exact wpAny_pure ⟨rfl, x + 1, hit, rfl, hrest', hlt, hstay hkk⟩
                | exact wpAny_bind (wpAny_pure (wpAny_pure ⟨rfl, x + 1, hit, rfl, hrest', hlt, hstay hkk⟩))
          · rw [if_neg hh]
            refine wpAny_pure ⟨rfl, x + 1, hit, rfl, hrest', hlt, hstay ?_⟩
            intro hkk
            rw [hhash, hkk] at hh; simp at hh
        · rintro b s' ⟨rfl, i, hit, rfl, hr, hi, hH⟩
          rcases hH with ⟨rfl, hno⟩ | ⟨j, rfl, _, hj⟩
          · refine wpAny_pure (hnone fun j hj => ?_)
            rcases Nat.lt_or_ge j i with h | h
            · exact hno j h hj
            · have hjl : j < es.size := by
                rw [hks.size]
                exact (List.getElem?_eq_some_iff.mp hj).1
              have := List.filter_eq_nil_iff.mp hr.symm j (List.mem_range'_1.mpr ⟨h, by omega⟩)
              exact this (haskey j hj)
          · exact wpAny_pure (hsome j hj))
end
end Ws
set_option Elab.async false
set_option linter.all false
set_option maxRecDepth 100000
set_option maxHeartbeats 4000000
/-! Ws32: d[k] and d[k] = v, keys of any kind. -/
namespace Ws
open PySem PySem.Spec PyProof.Rows L2
section
variable {prog : Program} {w : World} {K : Type} [DecidableEq K] {knd : VKind prog w K} {A : Around} {E : Value → Shared → Prop} {s : Shared}
/-- the place of a key -/
def posK (ks : List K) (k : K) : Option Nat := ks.findIdx? fun x => decide (x = k)
theorem posK_none {ks : List K} {k : K} (h : ∀ j : Nat, ks[j]? ≠ some k) : posK ks k = none := by
  refine List.findIdx?_eq_none_iff.mpr fun x hx => ?_
  obtain ⟨j, hj⟩ := List.getElem?_of_mem hx
  exact decide_eq_false fun e => h j (e ▸ hj)
theorem posK_some {ks : List K} {k : K} (hn : ks.Nodup) {j : Nat} (h : ks[j]? = some k) : posK ks k = some j := by
  obtain ⟨hl, e⟩ := List.getElem?_eq_some_iff.mp h
  refine List.findIdx?_eq_some_iff_getElem.mpr ⟨hl, decide_eq_true e, fun i hi => ?_⟩
  rw [Bool.not_eq_true]
  refine decide_eq_false fun z => ?_
  have := nodup_at hn (List.getElem?_eq_some_iff.mpr ⟨Nat.lt_trans hi hl, z⟩) h
  omega
theorem getV {d : Addr} {o : Obj} {es : Array DictEntry} {ep : Nat} {ks : List K} {k : K} {key : Value} {Q : Option Value → Shared → Prop} (hu : knd.room A) (hkey : knd.is s.heap k key) (ho : s.heap.get? d = some o) (hd : o.data = .dict es ep) (hks : KeysV knd s.heap es ks) (hn : ks.Nodup)
    (h : ∀ n, Q ((posK ks k).bind fun j => (es[j]?).map (·.val)) { s with toks := s.toks + n }) : wpAny (model prog w) A (dictGet d key) Q E s := by
  unfold dictGet
  try with_reducible refine wpAny_holding ?_
  refine wpAny_bind (knd.pyHash hu hkey fun n => wpAny_bind (findV (s := { s with toks := s.toks + n }) hu hkey ho hd hks hn ?_ ?_))
  · intro hno
    have := h n
    rw [posK_none hno] at this
    exact wpAny_pure this
  · intro j hj
    have := h n
    rw [posK_some hn hj] at this
    exact wpAny_bind (wpAny_dictEntries (s := { s with toks := s.toks + n }) ho hd (wpAny_pure this))
/-- the entries with the value stored -/
def putE (h : Int) (key v : Value) (es : Array DictEntry) : Option Nat → Array DictEntry
  | some i => es.modify i fun e => { e with val := v }
  | none => es.push ⟨h, key, v⟩
theorem setV {d : Addr} {o : Obj} {es : Array DictEntry} {ep : Nat} {ks : List K} {k : K} {key v : Value} {Q : Unit → Shared → Prop} (hu : knd.room A) (hkey : knd.is s.heap k key) (ho : s.heap.get? d = some o) (hc : o.ExactDict) (hd : o.data = .dict es ep) (hks : KeysV knd s.heap es ks) (hn : ks.Nodup)
    (hz : es.size ≤ sizeLine)
    (hQ : ∀ h' o' ep' n, h'.get? d = some o' → o'.ExactDict → o'.data = .dict (putE (knd.hash k) key v es (posK ks k)) ep' → Heap.SameBut d s.heap h' → Q () { s with heap := h', toks := s.toks + n }) :
    wpAny (model prog w) A (dictSet d key v) Q E s := by
  unfold dictSet
  try with_reducible refine wpAny_holding ?_
  refine wpAny_bind (knd.pyHash hu hkey fun n => ?_)
  unfold dictSetHashed
  try with_reducible refine wpAny_holding ?_
  refine wpAny_bind (findV (s := { s with toks := s.toks + n }) hu hkey ho hd hks hn ?_ ?_)
  · intro hno
    rw [posK_none hno] at hQ
    exact wpAny_bind (wpAny_rule (wpAny_updateDictKeys (hz := hz) (s := { s with toks := s.toks + n }) ho hd (hQ _ _ (ep + 1) n (Heap.get?_update_self _ ho (Obj.isFreed_of_dict (Obj.data_mapDictKeys hd _)))
      (hc.mapDictKeys _) (Obj.data_mapDictKeys hd _) (Heap.SameBut.update ..))))
  · intro j hj
    rw [posK_some hn hj] at hQ
    exact wpAny_bind (wpAny_rule (wpAny_bind (wpAny_updateDict (s := { s with toks := s.toks + n }) ho hd (wpAny_point (hQ _ _ ep n (Heap.get?_update_self _ ho (Obj.isFreed_of_dict (Obj.data_mapDict hd _)))
      (hc.mapDict _) (Obj.data_mapDict hd _) (Heap.SameBut.update ..))))))
end
end Ws
set_option Elab.async false
set_option linter.all false
set_option maxRecDepth 100000
set_option maxHeartbeats 4000000
/-! Ws33: keys that are ints, bools, texts, None and tuples of these, together; a datum that is a key is one on the heap. -/
namespace Ws
open PySem PySem.Spec PyProof.Rows L2
def mixV (prog : Program) (w : World) : VKind prog w NestedKey where
  is := fun h k v => NestedIs h k v ∧ k.depth ≤ 8
  hash := fun k => k.hash w
  room := fun A => A.units + 8 < cLine
  inj := fun hx hy => NestedIs.inj _ _ _ hx.1 hy.1
  keeps := fun {h h' k v d o es ep} x ho hd hs => ⟨NestedIs.at (fun b ob vs n hb hc => by
    refine (hs.2 b fun e => ?_).trans hb
    subst e
    rw [ho] at hb
    cases hb
    rw [hd] at hc
    cases hc) k _ x.1, x.2⟩
  pyHash := fun hu hk h => pyHash_key _ _ _ _ _ hk.1 (by omega) (h _)
  eqBool := fun {A E s x y a b Q} hu hx hy h => eqAt_key x y A s _ _ hx.1 hy.1 (by omega) _ _ _ _ (by rw [← NestedKey.decide_eq]; exact h)
  quiet := fun {A E s k a Q} hk h => quiet_key k _ 8 s hk.1 hk.2 A E Q h
  «strs» := fun {h k k' x t v} hx hv => by
    obtain ⟨hx, _⟩ := hx
    obtain ⟨hv, _⟩ := hv
    cases hx
    cases hv with
    | none => rfl
    | bool e => exact (decide_eq_false (fun z => nomatch z)).symm
    | int i t => exact (decide_eq_false (fun z => nomatch z)).symm
    | text y u =>
      show (y == x) = _
      rw [Bool.eq_iff_iff]
      simp
    | tup _ _ _ _ => exact (decide_eq_false (fun z => nomatch z)).symm
section
variable {P : Program} {w : World} {K : PySem.W.Frag} {cl : Nat → Addr} {M : Addr → Prop} {H : Hp} {h : Heap}
mutual
theorem is_key (hok : HOk P w H h) (hK : K.In h) : ∀ {v : V} {d : D} {k : NestedKey} {u : Value}, Is w K cl M H v d → toKey d = some k → RelV v u → NestedIs h k u
  | _, _, k, u, .non, e, r => by
    simp only [toKey, Option.some.injEq] at e; subst e
    obtain rfl : u = Value.none := r
    exact .none
  | _, _, k, u, .bl b, e, r => by
    simp only [toKey, Option.some.injEq] at e; subst e
    obtain rfl : u = Value.bool b := r
    exact .bool rfl
  | _, _, k, u, .int i, e, r => by
    simp only [toKey, Option.some.injEq] at e; subst e
    obtain ⟨t, rfl⟩ : ∃ t, u = Value.int i t := r
    exact .int i t
  | _, _, k, u, .str s, e, r => by
    simp only [toKey, Option.some.injEq] at e; subst e
    obtain ⟨t, rfl⟩ : ∃ t, u = Value.str s t := r
    exact .text s t
  | _, _, k, u, .tup (a := a) (xs := xs) hh m t, e, r => by
    simp only [toKey] at e
    obtain ⟨ps, e1, e2⟩ := Option.map_eq_some_iff.mp e
    subst e2
    obtain rfl : u = Value.ref a := r
    have ht : ∃ its : List Value, Vals xs its ∧ IsTup h a its.toArray := by
      rcases hh with hh | ⟨o, hh⟩
      · exact (hok a _ hh).2
      · exact (hok a _ hh).2.2
    obtain ⟨its, rv, ht⟩ := ht
    have ra := isL_keys hok hK t e1 rv
    obtain ⟨o, h1, h2, n, h3⟩ := ht
    exact .tup h1 h2 h3 (by simpa using ra)
  | _, _, k, u, .tupK (a := a) h1 h2 h3 h4 h5 t, e, r => by
    simp only [toKey] at e
    obtain ⟨ps, e1, e2⟩ := Option.map_eq_some_iff.mp e
    subst e2
    obtain rfl : u = Value.ref a := r
    exact .tup (hK _ _ h1) h2 h3 (isL_keys hok hK t e1 h5)
  | _, _, k, u, .lst _ _ _, e, r => by simp [toKey] at e
  | _, _, k, u, .scr _ _, e, r => by simp [toKey] at e
  | _, _, k, u, .scrK _ _ _ _ _ _, e, r => by simp [toKey] at e
  | _, _, k, u, .obj _ _ _, e, r => by simp [toKey] at e
  | _, _, k, u, .exc _ _ _ _, e, r => by simp [toKey] at e
  | _, _, k, u, .dct _ _ _ _, e, r => by simp [toKey] at e
theorem isL_keys (hok : HOk P w H h) (hK : K.In h) : ∀ {vs : List V} {ds : List D} {ks : List NestedKey} {us : List Value}, IsL w K cl M H vs ds → toKeys ds = some ks → Vals vs us → NestedAll h ks us
  | _, _, ks, us, .nil, e, r => by
    simp only [toKeys, Option.some.injEq] at e; subst e
    cases r
    exact .nil
  | _, _, ks, us, .cons a t, e, r => by
    simp only [toKeys] at e
    obtain ⟨p, e1, e⟩ := Option.bind_eq_some_iff.mp e
    obtain ⟨qs, e2, e⟩ := Option.map_eq_some_iff.mp e
    subst e
    cases r with
    | cons ra rr => exact .cons (is_key hok hK a e1 ra) (isL_keys hok hK t e2 rr)
end
theorem isE_keys (hok : HOk P w H h) (hK : K.In h) : ∀ {es : List DictEntry} {kvs : List (D × D)}, IsE w K cl M H es kvs → Paired (fun (e : DictEntry) k => (mixV P w).is h k e.key ∧ e.hash = (mixV P w).hash k) es (keysD kvs)
  | _, _, .nil => .nil
  | _, _, .cons rk ik e dp eh rv iv t => by
    simp only [keysD, e]
    exact .cons ⟨⟨is_key hok hK ik e rk, dp⟩, eh⟩ (isE_keys hok hK t)
theorem isE_at : ∀ {es : List DictEntry} {kvs : List (D × D)} {i : Nat} {e : DictEntry}, IsE w K cl M H es kvs → es[i]? = some e → ∃ kv vv dk dv k, RelV kv e.key ∧ Is w K cl M H kv dk ∧ toKey dk = some k ∧ RelV vv e.val ∧ Is w K cl M H vv dv ∧ kvs[i]? = some (dk, dv) ∧ (keysD kvs)[i]? = some k ∧ k.depth ≤ 8 ∧ e.hash = k.hash w
  | _, _, _, _, .nil, q => by simp at q
  | _, _, 0, _, .cons rk ik e dp eh rv iv t, q => by
    simp at q; subst q
    exact ⟨_, _, _, _, _, rk, ik, e, rv, iv, rfl, by simp [keysD, e], dp, eh⟩
  | _, _, i + 1, _, .cons rk ik e dp eh rv iv t, q => by
    obtain ⟨kv, vv, dk, dv, k, h1, h2, h3, h4, h5, h6, h7, h8⟩ := isE_at (i := i) t (by simpa using q)
    exact ⟨kv, vv, dk, dv, k, h1, h2, h3, h4, h5, by simpa using h6, by simp only [keysD, e]; simpa using h7, h8⟩
theorem isE_len : ∀ {es : List DictEntry} {kvs : List (D × D)}, IsE w K cl M H es kvs → es.length = kvs.length ∧ (keysD kvs).length = kvs.length
  | _, _, .nil => ⟨rfl, rfl⟩
  | _, _, .cons rk ik e dp eh rv iv t => by
    obtain ⟨a, b⟩ := isE_len t
    simp only [keysD, e]
    exact ⟨by simp [a], by simp [b]⟩
end
/-- the place of a key among the pairs -/
def atD : List (D × D) → NestedKey → Option Nat := fun kvs k => posK (keysD kvs) k
/-- the value stored under a key -/
def getDct (kvs : List (D × D)) (k : NestedKey) : Option D := (atD kvs k).bind fun j => (kvs[j]?).map (·.2)
/-- the pairs with one stored -/
def putDct (kvs : List (D × D)) (dk dv : D) (k : NestedKey) : List (D × D) := match atD kvs k with
  | some j => kvs.set j ((kvs.getD j (dk, dv)).1, dv)
  | Option.none => kvs ++ [(dk, dv)]
end Ws
set_option Elab.async false
set_option linter.all false
set_option maxRecDepth 100000
set_option maxHeartbeats 4000000
/-! Ws34: d[k], d[k] = v of dicts with keys of any kind. -/
namespace Ws
open PySem PySem.Spec PyProof.Rows L2
section
variable {prog : Program} {w : World} {K : Type} [DecidableEq K] {knd : VKind prog w K} {A : Around} {E : Value → Shared → Prop} {s : Shared} {d : Addr} {o : Obj} {es : Array DictEntry} {ep : Nat} {ks : List K} {k : K} {key v : Value}
theorem getItemV {Q : Value → Shared → Prop} (hu : knd.room A.in1) (hkey : knd.is s.heap k key) (ho : s.heap.get? d = some o) (hc : o.ExactDict) (hd : o.data = .dict es ep) (hks : KeysV knd s.heap es ks) (hn : ks.Nodup)
    (hv : ((posK ks k).bind fun j => (es[j]?).map (·.val)) = some v) (h : ∀ n, Q v { s with toks := s.toks + n }) : wpAny (model prog w) A (getItem (.ref d) key) Q E s := by
  have hT : s.TypeIs (.ref d) "dict" := ⟨o, ho, hc.1⟩
  unfold getItem
  try with_reducible refine wpAny_holding ?_
  refine wpAny_bind (wpAny_sequenceKey hT (by decide) ?_)
  refine wpAny_bind (wpAny_callSpecial?_slot (name := Str.ofString "__getitem__") hT slot_dict_getitem
    (wpAny_call_entry slot_dict_getitem hT entry_dict_getitem ?_ (args_dict_getitem _ _)))
  show wpAny _ _ (dictGet d key >>= _) _ _ s
  refine wpAny_bind (getV hu hkey ho hd hks hn fun n => ?_)
  rw [hv]
  exact wpAny_pure ⟨v, rfl, wpAny_pure (h n)⟩
theorem setItemV {Q : Unit → Shared → Prop} (hu : knd.room A.in1) (hkey : knd.is s.heap k key) (ho : s.heap.get? d = some o) (hc : o.ExactDict) (hd : o.data = .dict es ep) (hks : KeysV knd s.heap es ks) (hn : ks.Nodup)
    (hz : es.size ≤ sizeLine)
    (hQ : ∀ h' o' ep' n, h'.get? d = some o' → o'.ExactDict → o'.data = .dict (putE (knd.hash k) key v es (posK ks k)) ep' → Heap.SameBut d s.heap h' → Q () { s with heap := h', toks := s.toks + n }) :
    wpAny (model prog w) A (setItem (.ref d) key v) Q E s := by
  have hT : s.TypeIs (.ref d) "dict" := ⟨o, ho, hc.1⟩
  unfold setItem
  try with_reducible refine wpAny_holding ?_
  refine wpAny_bind (wpAny_sequenceKey hT (by decide) ?_)
  refine wpAny_bind (wpAny_callSpecial?_slot (name := Str.ofString "__setitem__") hT slot_dict_setitem
    (wpAny_call_entry slot_dict_setitem hT entry_dict_setitem ?_ (args_dict_setitem _ _ _)))
  show wpAny _ _ (Builtin.Dict.notOrdered "__setitem__" ⟨[.ref d, key, v], []⟩ >>= _) _ _ s
  refine wpAny_bind (wpAny_notOrdered_dict hT ?_)
  show wpAny _ _ (dictSet d key v >>= _) _ _ s
  exact wpAny_bind (setV hu hkey ho hc hd hks hn hz fun h' o' ep' n h1 h2 h3 h4 => wpAny_pure ⟨.none, rfl, wpAny_pure (hQ h' o' ep' n h1 h2 h3 h4)⟩)
theorem containsV {Q : Bool → Shared → Prop} (hu : knd.room A.in1) (hkey : knd.is s.heap k key) (hds : (d == sysModules) = false) (ho : s.heap.get? d = some o) (hc : o.ExactDict) (hd : o.data = .dict es ep) (hks : KeysV knd s.heap es ks) (hn : ks.Nodup)
    (h : ∀ n, Q (posK ks k).isSome { s with toks := s.toks + n }) : wpAny (model prog w) A (contains (.ref d) key) Q E s := by
  have hT : s.TypeIs (.ref d) "dict" := ⟨o, ho, hc.1⟩
  refine wpAny_contains_slot hT F.slot_dict_contains ?_
  refine call_meetsIn F.slot_dict_contains hT F.entry_dict_contains (F.args_dict_contains_2 _ _) (S := fun A' R s' => A' = A ∧ s' = s ∧ ∀ n, R (.ok (.ret (.bool (posK ks k).isSome))) { s with toks := s.toks + n }) (fun A' R s' hS => ?_) ⟨rfl, rfl, fun n => wpAny_truthy_bool (h n)⟩
  obtain ⟨rfl, rfl, hq⟩ := hS
  show wpAny _ _ (dictGet d key >>= _) _ _ _
  refine wpAny_bind (getV hu hkey ho hd hks hn fun n => ?_)
  have hq := hq n
  cases hf : posK ks k with
  | some j =>
    rw [hf] at hq
    obtain ⟨e, he⟩ : ∃ e, es[j]? = some e := by
      have hl := List.findIdx?_eq_some_iff_getElem.mp hf
      obtain ⟨hl, _⟩ := hl
      exact ⟨es[j]'(by rw [hks.size]; exact hl), by simp [hks.size, hl]⟩
    simp only [Option.bind_some, he, Option.map_some]
    show wpAny _ _ (ret (.bool true)) _ _ _
    exact wpAny_pure hq
  | none =>
    rw [hf] at hq
    show wpAny _ _ (Builtin.Dict.pendingKey? d key >>= _) _ _ _
    exact wpAny_bind (wpAny_pendingKey_other hds (wpAny_pure hq))
end

section
variable {X : Cx} {cl : Nat → Addr} {pins : List (Addr × Obj)} {σ : L2.St} {H : Hp} {s : Shared} {a : Addr} {es : Array DictEntry} {ep : Nat} {kvs : List (D × D)} {M M' : Addr → Prop}
/-- what the invariant says of a dict -/
theorem Inv.rawD (I : Inv X pins σ H s) (e : H a = some (RawD a es ep)) (t : IsE X.w X.K cl M H es.toList kvs) :
    ∃ o, s.heap.get? a = some o ∧ o.ExactDict ∧ o.data = .dict es ep ∧ es.size ≤ sizeLine ∧ (a == sysModules) = false ∧ KeysV (mixV X.prog X.w) s.heap es (keysD kvs) := by
  obtain ⟨⟨o, ho, hx, hd, hl, hs⟩, _, _⟩ := I.hok a _ e
  exact ⟨o, ho, hx, hd, hl, hs, isE_keys I.hok I.kIn t⟩
/-- the dict at a, read at a key -/
def rIxD (w : World) (K : PySem.W.Frag) (cl : Nat → Addr) : R2 := fun x y H Q => ∃ (a : Addr) (es : Array DictEntry) (ep : Nat) (kvs : List (D × D)) (M M' : Addr → Prop) (dk : D) (k : NestedKey) (j : Nat) (e : DictEntry) (vv : V), x = .ref a ∧ H a = some (RawD a es ep) ∧ IsE w K cl M H es.toList kvs ∧ (keysD kvs).Nodup ∧ Is w K cl M' H y dk ∧ toKey dk = some k ∧ k.depth ≤ 8 ∧
  atD kvs k = some j ∧ es[j]? = some e ∧ RelV vv e.val ∧ Q vv H
theorem ix_dct (hu : X.A.units + 64 < cLine) : IxR X (rIxD X.w X.K cl) := by
  intro value slice pins s σ H x y v u Q I rx ry h hs
  obtain ⟨a, es, ep, kvs, M, M', dk, k, j, e, vv, rfl, he, t, nd, isk, ek, dp, hj, hje, rvv, q⟩ := h
  obtain rfl : v = Value.ref a := rx
  obtain ⟨o, ho, hx, hd, hl, hsm, hks⟩ := Inv.rawD I he t
  refine tail_any (T := "dict") ⟨o, ho, hx.1⟩ PySem.F.slot_dict_getitem.lookup ?_ hs
  refine getItemV (knd := mixV X.prog X.w) (v := e.val) (show X.A.in1.units + 8 < cLine by rw [Around.in1_units]; omega) ⟨is_key I.hok I.kIn isk ek ry, dp⟩ ho hx hd hks nd ?_ fun n => ⟨vv, H, I.tok _, rvv, q⟩
  rw [show posK (keysD kvs) k = some j from hj]
  simp [hje]
/-- .. written -/
def rSetDct (w : World) (K : PySem.W.Frag) (cl : Nat → Addr) : TSet := fun x y v H Q => ∃ (a : Addr) (es : Array DictEntry) (ep : Nat) (kvs : List (D × D)) (M M' : Addr → Prop) (dk : D) (k : NestedKey), x = .ref a ∧ H a = some (RawD a es ep) ∧ IsE w K cl M H es.toList kvs ∧ (keysD kvs).Nodup ∧ Is w K cl M' H y dk ∧ toKey dk = some k ∧ k.depth ≤ 8 ∧ kvs.length < sizeLine ∧
  ∀ key u ep', RelV y key → RelV v u → Q (upd H a (RawD a (putE (k.hash w) key u es (atD kvs k)) ep'))
theorem putE_size {h : Int} {key u : Value} {es : Array DictEntry} {o : Option Nat} : (putE h key u es o).size ≤ es.size + 1 := by
  cases o <;> simp [putE]
theorem set_dct (hu : X.A.units + 64 < cLine) : PSet X (rSetDct X.w X.K cl) := by
  intro pins s σ H x y v ov iv u Q I rx ry rv h
  obtain ⟨a, es, ep, kvs, M, M', dk, k, rfl, he, t, nd, isk, ek, dp, hl0, q⟩ := h
  obtain rfl : ov = Value.ref a := rx
  obtain ⟨o, ho, hx, hd, hl, hsm, hks⟩ := Inv.rawD I he t
  refine setItemV (knd := mixV X.prog X.w) (show X.A.in1.units + 8 < cLine by rw [Around.in1_units]; omega) ⟨is_key I.hok I.kIn isk ek ry, dp⟩ ho hx hd hks nd hl fun h' o' ep' n h1 h2 h3 h4 => ?_
  refine ⟨_, ?_, q iv u ep' ry rv⟩
  have l1 := (isE_len t).1
  rw [Array.length_toList] at l1
  have sz : (putE (k.hash X.w) iv u es (atD kvs k)).size ≤ sizeLine := by
    have := putE_size (h := k.hash X.w) (key := iv) (u := u) (es := es) (o := atD kvs k)
    omega
  exact d_write I (by rw [he]; exact True.intro) h4 ⟨o', h1⟩ (raw_ok h1 h2 h3 sz hsm)
end
end Ws
set_option Elab.async false
set_option linter.all false
set_option maxRecDepth 100000
set_option maxHeartbeats 4000000
/-! Ws35: what d[k] and name[k] = v denote. -/
namespace Ws
open PySem PySem.Spec PyProof.Rows L2
def dctR (ρ : Env) (r : Rv) : Option (List (D × D)) := match rvW ρ r with
  | some (.dct kvs) => some kvs
  | some (.leaf (.dct kvs)) => some kvs
  | _ => Option.none
section
variable {w : World} {K : PySem.W.Frag} {cl : Nat → Addr} {M M1 M2 M0 : Addr → Prop} {ρ ρ1 : Env} {σ : L2.St} {H H0 H1 H2 H' : Hp} {f f0 f1 f2 : Fp} {rv : Rv} {v : V} {fw : List Addr} {kvs : List (D × D)}
theorem wis_dct {x : W} {fp : List Addr} (h : WIs w K cl M H v x fp) (e : x = .dct kvs ∨ x = .leaf (.dct kvs)) : ∃ a es ep, v = .ref a ∧ H a = some (RawD a es ep) ∧ IsE w K cl M H es.toList kvs ∧ (keysD kvs).Nodup := by
  rcases e with e | e
  · subst e
    cases h with
    | dct h1 h2 h3 => exact ⟨_, _, _, rfl, h1, h2, h3⟩
  · subst e
    cases h with
    | leaf h =>
      cases h with
      | dct h1 h2 h3 h4 => exact ⟨_, _, _, rfl, h1, h3, h4⟩
theorem dctR_some (e : dctR ρ rv = some kvs) : ∃ x, rvW ρ rv = some x ∧ (x = .dct kvs ∨ x = .leaf (.dct kvs)) := by
  unfold dctR at e
  split at e
  · cases e; exact ⟨_, by assumption, .inl rfl⟩
  · cases e; exact ⟨_, by assumption, .inr rfl⟩
  · cases e
theorem RvOk.dct (r : RS w K cl M ρ σ H f) (k : RvOk w K cl M σ H f H0 rv v fw) (e : dctR ρ rv = some kvs) : ∃ a es ep, v = .ref a ∧ H a = some (RawD a es ep) ∧ IsE w K cl M H es.toList kvs ∧ (keysD kvs).Nodup := by
  obtain ⟨x, h1, h2⟩ := dctR_some e
  obtain ⟨fp, h3⟩ := k.tree r h1
  exact wis_dct h3 h2
theorem RS.ownDct {i : Nat} (r : RS w K cl M ρ σ H f) (e : slotW ρ i = some (.dct kvs)) : ∃ l es ep, σ[i]? = some (some (.ref l)) ∧ H l = some (RawD l es ep) ∧ IsE w K cl M H es.toList kvs ∧ (keysD kvs).Nodup ∧ f i = [l] ∧ M l := by
  obtain ⟨u, hu, hw⟩ := r.slot i _ (slotW_some e)
  have : ∃ q, q = f i := ⟨_, rfl⟩
  obtain ⟨q, hq⟩ := this
  rw [← hq] at hw
  cases hw with
  | dct h1 h2 h3 => exact ⟨_, _, _, hu, h1, h2, h3, hq.symm, r.own i _ (by rw [← hq]; exact List.mem_cons_self)⟩
/-- an object of one's own, replaced -/
theorem RS.putOne {i : Nat} {x' : W} {l : Addr} {o' : HO} (r : RS w K cl M ρ σ H f) (hσ : σ[i]? = some (some (.ref l))) (hf : f i = [l]) (hn : WIs w K cl M (upd H l o') (.ref l) x' [l]) :
    RS w K cl M (ρ.set i (some x')) σ (upd H l o') f ∧ Step M H f M (upd H l o') f := by
  have ml : M l := r.own i l (by rw [hf]; exact List.mem_cons_self)
  refine ⟨⟨fun j y hy => ?_, fun j hj => ?_, r.nd, r.dj, r.own, fun a ha => ?_, by simpa using r.len⟩, ⟨fun b o h n => ?_, fun b o h => upd_there h, fun _ m _ => m, fun _ m => .inl m, fun _ _ h => .inl h⟩⟩
  · rcases set_get hy with ⟨e1, e2⟩ | ⟨e1, e2⟩
    · subst e1
      cases e2
      exact ⟨_, hσ, by rw [hf]; exact hn⟩
    · obtain ⟨u, hu, hw⟩ := r.slot j y e2
      refine ⟨u, hu, hw.stay (ext_poke ml) fun a ha o h => ?_⟩
      rw [upd_ne (fun z => e1 (r.dj i j l (by rw [hf]; exact List.mem_cons_self) (by rw [← z]; exact ha)))]
      exact h
  · by_cases e : j = i
    · subst e
      exact absurd (List.getElem?_set_self (by rw [r.len]; exact (List.getElem?_eq_some_iff.mp hσ).1)) (hj _)
    · refine r.none j fun y hy => hj y ?_
      rw [List.getElem?_set_ne (Ne.symm e)]
      exact hy
  · obtain ⟨o, h⟩ := r.trk a ha
    exact upd_there h
  · rw [upd_ne (fun z => n i (by rw [hf, z]; exact List.mem_cons_self))]
    exact h
theorem keysD_snoc {dk dv : D} {k : NestedKey} (e : toKey dk = some k) : ∀ kvs : List (D × D), keysD (kvs ++ [(dk, dv)]) = keysD kvs ++ [k]
  | [] => by simp [keysD, e]
  | kv :: r => by
    simp only [List.cons_append, keysD]
    cases toKey kv.1 with
    | none => exact keysD_snoc e r
    | some n => simp only [keysD_snoc e r, List.cons_append]
theorem keysD_set {dk dv : D} : ∀ (kvs : List (D × D)) (j : Nat), keysD (kvs.set j ((kvs.getD j (dk, dv)).1, dv)) = keysD kvs
  | [], _ => rfl
  | kv :: r, 0 => by simp [keysD]
  | kv :: r, j + 1 => by
    have ih := keysD_set (dk := dk) (dv := dv) r j
    simp only [List.set_cons_succ, keysD, List.getD_cons_succ, ih]
theorem isE_snoc {e : DictEntry} {kv vv : V} {dk dv : D} {k : NestedKey} (h1 : RelV kv e.key) (h2 : Is w K cl M H kv dk) (h3 : toKey dk = some k) (h4 : k.depth ≤ 8) (h5 : e.hash = k.hash w) (h6 : RelV vv e.val) (h7 : Is w K cl M H vv dv) :
    ∀ {es : List DictEntry} {kvs : List (D × D)}, IsE w K cl M H es kvs → IsE w K cl M H (es ++ [e]) (kvs ++ [(dk, dv)])
  | _, _, .nil => .cons h1 h2 h3 h4 h5 h6 h7 .nil
  | _, _, .cons a b c d f g z t => .cons a b c d f g z (isE_snoc h1 h2 h3 h4 h5 h6 h7 t)
theorem isE_mod {u : Value} {vv : V} {dk dv : D} (h6 : RelV vv u) (h7 : Is w K cl M H vv dv) :
    ∀ {es : List DictEntry} {kvs : List (D × D)} (j : Nat), IsE w K cl M H es kvs → IsE w K cl M H (es.modify j fun e => { e with val := u }) (kvs.set j ((kvs.getD j (dk, dv)).1, dv))
  | _, _, j, .nil => by cases j <;> simp [List.modify] <;> exact .nil
  | _, _, 0, .cons a b c d f g z t => by
    simp only [List.modify_zero_cons, List.set_cons_zero, List.getD_cons_zero]
    exact .cons a b c d f h6 h7 t
  | _, _, j + 1, .cons a b c d f g z t => by
    simp only [List.modify_succ_cons, List.set_cons_succ, List.getD_cons_succ]
    exact .cons a b c d f g z (isE_mod h6 h7 j t)
theorem isE_put {es : Array DictEntry} {key u : Value} {kv vv : V} {dk dv : D} {k : NestedKey} (t : IsE w K cl M H es.toList kvs) (nd : (keysD kvs).Nodup) (h1 : RelV kv key) (h2 : Is w K cl M H kv dk) (h3 : toKey dk = some k) (h4 : k.depth ≤ 8) (h6 : RelV vv u) (h7 : Is w K cl M H vv dv) :
    IsE w K cl M H (putE (k.hash w) key u es (atD kvs k)).toList (putDct kvs dk dv k) ∧ (keysD (putDct kvs dk dv k)).Nodup := by
  unfold putDct
  cases hf : atD kvs k with
  | some j =>
    refine ⟨?_, by rw [keysD_set]; exact nd⟩
    simp only [putE, Array.toList_modify]
    exact isE_mod h6 h7 j t
  | none =>
    refine ⟨?_, ?_⟩
    · simp only [putE, Array.toList_push]
      exact isE_snoc (e := ⟨k.hash w, key, u⟩) h1 h2 h3 h4 rfl h6 h7 t
    · rw [keysD_snoc h3]
      refine List.nodup_append.mpr ⟨nd, by simp, fun x hx y hy => ?_⟩
      have : y = k := by simpa using hy
      subst this
      intro z
      subst z
      have := List.findIdx?_eq_none_iff.mp hf x hx
      simp at this
end
section
variable {cl : Nat → Addr} {X : Cx} {np : Nat} {a b e : Expr} {pos p xpos : Pos} {da di d : Den Rv} {i : Nat} {x : Str}
def dIxD (da di : Den Rv) : Den Rv := fun ρ => (da ρ).bind fun x => (di x.2).bind fun y => (dctR y.2 x.1).bind fun kvs => (viewR y.2 y.1).bind fun dk => (toKey dk).bind fun k =>
  if k.depth ≤ 8 then (getDct kvs k).map fun dv => (.val (.leaf dv), y.2) else Option.none
theorem de_ixD {c : Bool} {k' : Nat} (hr : RoomG c k' X.A) (ha : DE cl X a da) (hb : DE cl X b di) (hs : PlainIx b) : DE cl X (.Subscript a b pos) (dIxD da di) := pe_imp (pe_ix (ix_dct (cl := cl) hr.u64) ha hb hs) fun σ H Q ⟨M, ρ, f, rv, ρ', rs, hd, k⟩ => by
  obtain ⟨⟨x, ρ1⟩, h1, hd⟩ := Option.bind_eq_some_iff.mp hd
  obtain ⟨⟨y, ρ2⟩, h2, hd⟩ := Option.bind_eq_some_iff.mp hd
  obtain ⟨kvs, h3, hd⟩ := Option.bind_eq_some_iff.mp hd
  obtain ⟨dk, h4, hd⟩ := Option.bind_eq_some_iff.mp hd
  obtain ⟨key, h5, hd⟩ := Option.bind_eq_some_iff.mp hd
  dsimp only at hd
  split at hd
  · rename_i dp
    obtain ⟨dv, h6, hd⟩ := Option.map_eq_some_iff.mp hd
    cases hd
    obtain ⟨j, h7, h8⟩ := Option.bind_eq_some_iff.mp h6
    obtain ⟨kv, h9, h10⟩ := Option.map_eq_some_iff.mp h8
    refine ⟨M, ρ, f, x, ρ1, rs, h1, fun v1 M1 H1 f1 fw1 rs1 ok1 st1 => ⟨M1, ρ1, f1, y, _, rs1, h2, fun v2 M2 H2 f2 fw2 rs2 ok2 st2 => ?_⟩⟩
    obtain ⟨a, es, ep, e1, e2, e3, e4⟩ := (ok1.carry rs1 st2).dct rs2 h3
    have lj : j < es.toList.length := by
      rw [(isE_len e3).1]
      exact (List.getElem?_eq_some_iff.mp h9).1
    obtain ⟨kk, vv, dk', dv', key', g1, g2, g3, g4, g5, g6, g7, g8⟩ := isE_at (i := j) (e := es.toList[j]) e3 (by simp)
    rw [h9] at g6
    cases g6
    cases h10
    refine ⟨a, es, ep, kvs, M2, noM, dk, key, j, es.toList[j], vv, e1, e2, e3, e4, ok2.view rs2 h4, h5, dp, h7, ?_, g4, k vv M2 H2 f2 [] rs2 (rvB g5) (st1.trans rs.trk st2)⟩
    simp only [Array.length_toList] at lj
    simp [lj]
  · cases hd
/-- name[e] = .. of a dict of one's own -/
def gIxD (i : Nat) (di : Den Rv) : DenG := fun d ρ => (slotW ρ i).bind fun _ => (dSh di ρ).bind fun r => match slotW r.2 i with
  | some (.dct kvs) => (toKey r.1).bind fun k => if k.depth ≤ 8 ∧ kvs.length < sizeLine then some (r.2.set i (some (.dct (putDct kvs r.1 d k)))) else Option.none
  | _ => Option.none
theorem dg_ixD {c : Bool} {k' : Nat} (hr : RoomG c k' X.A) (hN : X.N[i]? = some x) (hv : Vis X.env.scope x) (hd : (x == ("__debug__" : Str)) = false) (hcd : (x == ("__classdict__" : Str)) = false) (he : DE cl X e di)
    (hA : ∀ new, assign (.Subscript (.Name x xpos) e pos) X.env new = (do
      let ov ← holding [new] (eval (.Name x xpos) X.env)
      let iv ← holding [new, ov] (eval e X.env)
      standAt pos
      holding [new, ov, iv] (setItem ov iv new)
      release [new, ov, iv] []) := by intro _; rfl) : DG cl X (.Subscript (.Name x xpos) e pos) [] (gIxD i di) :=
  pg_imp (pg_sub (pe_var hN hv hd hcd) (de_sh he) (set_dct (cl := cl) hr.u64) hA) fun v σ H Q ⟨M, ρ, f, d, ρ', rs, is, hd, k⟩ => by
    obtain ⟨w0, h0, hd⟩ := Option.bind_eq_some_iff.mp hd
    obtain ⟨⟨dk, ρ1⟩, h1, hd⟩ := Option.bind_eq_some_iff.mp hd
    dsimp only at hd
    split at hd
    · rename_i kvs h2
      obtain ⟨key, h3, hd⟩ := Option.bind_eq_some_iff.mp hd
      try dsimp only at hd
      split at hd
      · rename_i hc
        cases hd
        obtain ⟨u0, hu0, _⟩ := rs.slot i w0 (slotW_some h0)
        refine ⟨_, hu0, M, ρ, f, dk, ρ1, rs, h1, fun u M1 H1 f1 rs1 is1 st1 => ?_⟩
        obtain ⟨l, es, ep, p1, p2, p3, p4, p5, p6⟩ := rs1.ownDct h2
        rw [hu0] at p1
        cases p1
        have is' := is.stay (rs.ext st1)
        refine ⟨l, es, ep, kvs, M1, M1, dk, key, rfl, p2, p3, p4, is1, h3, hc.1, hc.2, fun kv vu ep' rk rvu => ?_⟩
        obtain ⟨t1, t2⟩ := isE_put (H := upd H1 l (RawD l (putE (key.hash X.w) kv vu es (atD kvs key)) ep')) (p3.stay (ext_poke p6)) p4 rk (is1.stay (ext_poke p6)) h3 hc.1 rvu (is'.stay (ext_poke p6))
        obtain ⟨r2, s2⟩ := rs1.putOne (x' := .dct (putDct kvs dk d key)) hu0 p5 (.dct upd_same t1 t2)
        exact k σ M1 _ f1 r2 (st1.trans rs.trk s2) Off.refl
      · cases hd
    · cases hd
end
end Ws
set_option Elab.async false
set_option linter.all false
set_option maxRecDepth 100000
set_option maxHeartbeats 4000000
/-! Ws36: walks over dicts with keys of any kind: keys, values(), items(). -/
namespace Ws
open PySem PySem.Spec PyProof.Rows L2
def ItDk (d : Addr) (es : Array DictEntry) (ep : Nat) : It :=
  ⟨fun i H => H d = some (RawD d es ep) ∧ ∃ e x, es[i]? = some e ∧ RelV x e.key, fun i H x H' => H' = H ∧ ∃ e, es[i]? = some e ∧ RelV x e.key, fun i H => H d = some (RawD d es ep) ∧ es.size ≤ i⟩
def ItDv (d : Addr) (es : Array DictEntry) (ep : Nat) : It :=
  ⟨fun i H => H d = some (RawD d es ep) ∧ ∃ e x, es[i]? = some e ∧ RelV x e.val, fun i H x H' => H' = H ∧ ∃ e, es[i]? = some e ∧ RelV x e.val, fun i H => H d = some (RawD d es ep) ∧ es.size ≤ i⟩
def ItDi (d : Addr) (es : Array DictEntry) (ep : Nat) : It :=
  ⟨fun i H => H d = some (RawD d es ep) ∧ ∃ e x y, es[i]? = some e ∧ RelV x e.key ∧ RelV y e.val, fun i H v H' => ∃ T e x y, es[i]? = some e ∧ RelV x e.key ∧ RelV y e.val ∧ v = .ref T ∧ H T = Option.none ∧ H' = upd H T (.tup [x, y]), fun i H => H d = some (RawD d es ep) ∧ es.size ≤ i⟩
theorem rawD_raw {X : Cx} {pins : List (Addr × Obj)} {σ : L2.St} {H : Hp} {s : Shared} {d : Addr} {es : Array DictEntry} {ep : Nat} (I : Inv X pins σ H s) (h : H d = some (RawD d es ep)) : s.heap.DictRaw d es ep ∧ es.size ≤ sizeLine ∧ (d == sysModules) = false := by
  obtain ⟨⟨o, ho, hx, hd, hl, hs⟩, _, _⟩ := I.hok d _ h
  exact ⟨⟨o, ho, hx, hd⟩, hl, hs⟩
section
variable {P : Program} {w : World} {K : PySem.W.Frag} {tg : Expr} {d : Addr} {es : Array DictEntry} {ep : Nat}
theorem turn_Dk (it : Addr) : Turn P w K tg (ItDk d es ep) [it] it (fun i h => h.IsKeyIter it d i es.size ep) where
  mem := by simp
  obj := fun i h st b hb => by
    have e : b = it := by simpa using hb
    subst e
    obtain ⟨oi, e, c, dd⟩ := st
    exact ⟨oi, e, fun v z => by rw [dd] at z; cases z⟩
  keep := fun i h h' st k => st.at fun oi e => k it (by simp) oi e
  item := by
    intro X hP hw hK hc i pins s σ H E I hf st hg
    subst hP hw hK
    obtain ⟨hd, en, x, hen, rx⟩ := hg
    obtain ⟨f0, f1, f2, f3, f4, f5⟩ := hf it (by simp)
    obtain ⟨hm, hl, hs⟩ := rawD_raw I hd
    obtain ⟨hlt, e1⟩ := Array.getElem?_eq_some_iff.mp hen
    refine wpAny_pyNext_keys_item_raw st hm hlt fun h' st' sb => ?_
    have I1 : Inv X pins σ H { s with heap := h' } := I.turned (t' := s.toks) (fun b ob hb e => (sb.2 b hb).trans e) f0 f1 f3 f4 f5
    obtain ⟨oi, e, c, dd⟩ := id st'
    exact ⟨es[i].key, rfl, go_of (s := { s with heap := h' }) e c dd (by decide) ⟨x, H, I1, by rw [e1]; exact rx, ⟨rfl, en, hen, rx⟩, st', fun b hb => (hf b hb).1⟩⟩
  done := by
    intro X hP hw hK hc i pins s σ H E I hf st hg
    subst hP hw hK
    obtain ⟨hd, hi⟩ := hg
    obtain ⟨f0, f1, f2, f3, f4, f5⟩ := hf it (by simp)
    obtain ⟨hm, hl, hs⟩ := rawD_raw I hd
    exact wpAny_pyNext_keys_end_raw (I.ok.hd hc) st hm hi fun h' eb => ⟨rfl, I.turned (t' := s.toks) (fun b ob hb e => eb b ob hb e) f0 f1 f3 f4 f5⟩
  self := fun A i s Q E st h => by
    refine wpAny_pyIter_slot st.typeIs F.slot_dict_keyiterator_iter (wpAny_call_entry F.slot_dict_keyiterator_iter st.typeIs F.entry_dict_keyiterator_iter ?_ (F.args_dict_keyiterator_iter_1 _))
    show wpAny _ _ (ret (.ref it)) _ _ s
    exact wpAny_pure ⟨_, rfl, "dict_keyiterator", _, st.typeIs, F.slot_dict_keyiterator_next.lookup, h⟩
theorem turn_Dv (it : Addr) : Turn P w K tg (ItDv d es ep) [it] it (fun i h => h.IsValIter it d i es.size ep) where
  mem := by simp
  obj := fun i h st b hb => by
    have e : b = it := by simpa using hb
    subst e
    obtain ⟨oi, e, c, dd⟩ := st
    exact ⟨oi, e, fun v z => by rw [dd] at z; cases z⟩
  keep := fun i h h' st k => st.at fun oi e => k it (by simp) oi e
  item := by
    intro X hP hw hK hc i pins s σ H E I hf st hg
    subst hP hw hK
    obtain ⟨hd, en, x, hen, rx⟩ := hg
    obtain ⟨f0, f1, f2, f3, f4, f5⟩ := hf it (by simp)
    obtain ⟨hm, hl, hs⟩ := rawD_raw I hd
    obtain ⟨hlt, e1⟩ := Array.getElem?_eq_some_iff.mp hen
    refine wpAny_pyNext_values_item_raw st hm hlt fun h' st' sb => ?_
    have I1 : Inv X pins σ H { s with heap := h' } := I.turned (t' := s.toks) (fun b ob hb e => (sb.2 b hb).trans e) f0 f1 f3 f4 f5
    obtain ⟨oi, e, c, dd⟩ := id st'
    exact ⟨es[i].val, rfl, go_of (s := { s with heap := h' }) e c dd (by decide) ⟨x, H, I1, by rw [e1]; exact rx, ⟨rfl, en, hen, rx⟩, st', fun b hb => (hf b hb).1⟩⟩
  done := by
    intro X hP hw hK hc i pins s σ H E I hf st hg
    subst hP hw hK
    obtain ⟨hd, hi⟩ := hg
    obtain ⟨f0, f1, f2, f3, f4, f5⟩ := hf it (by simp)
    obtain ⟨hm, hl, hs⟩ := rawD_raw I hd
    exact wpAny_pyNext_values_end_raw (I.ok.hd hc) st hm hi fun h' eb => ⟨rfl, I.turned (t' := s.toks) (fun b ob hb e => eb b ob hb e) f0 f1 f3 f4 f5⟩
  self := fun A i s Q E st h => wpAny_pyIter_valiter st h
theorem turn_Di {elts : List Expr} {kk : Nat} {tpos : Pos} (it : Addr) :
    Turn P w K (.Tuple elts kk tpos) (ItDi d es ep) [it] it (fun i h => ∃ ok ov, IsItemIter h it d i es.size ep ok ov) where
  mem := by simp
  obj := fun i h st b hb => by
    have e : b = it := by simpa using hb
    subst e
    obtain ⟨ok, ov, e⟩ := st
    exact ⟨_, e, fun v z => nomatch z⟩
  keep := fun i h h' st k => let ⟨ok, ov, e⟩ := st; ⟨ok, ov, k it (by simp) _ e⟩
  item := by
    intro X hP hw hK hc i pins s σ H E I hf st hg
    subst hP hw hK
    obtain ⟨hd, en, x, y, hen, rx, ry⟩ := hg
    obtain ⟨hm, hl, hs⟩ := rawD_raw I hd
    obtain ⟨hlti, e1⟩ := Array.getElem?_eq_some_iff.mp hen
    obtain ⟨ok, ov, he⟩ := st
    have hlt : it < s.heap.objs.size := Heap.lt_size he
    refine wpAny_pyNext_items_item_raw he hm hlti fun h' ho hT hz hk => ?_
    refine ⟨_, rfl, wpAny_letOwnedTupleGo_items (s := { s with heap := h' }) ho fun h'' he' sb => ?_⟩
    have hT2 : h''.get? s.heap.objs.size = some { cls := .type "tuple", data := .seq #[es[i].key, es[i].val] } := (sb.2 _ (Nat.ne_of_gt hlt)).trans hT
    have new : ObjOk X.prog X.w (upd H s.heap.objs.size (.tup [x, y])) h'' s.heap.objs.size (.tup [x, y]) :=
      ⟨by show 2 ≤ sizeLine; decide, [es[i].key, es[i].val], .cons (by rw [e1]; exact rx) (.cons (by rw [e1]; exact ry) .nil), ⟨_, hT2, rfl, _, rfl⟩⟩
    have I1 : Inv X pins σ (upd H s.heap.objs.size (.tup [x, y])) { s with heap := h'' } :=
      I.turnedNew (t' := s.toks) (ch := [it]) (fun b ob hb e => (sb.2 b (by simpa using hb)).trans (hk b ob (by simpa using hb) e)) hf (Nat.le_refl _) new
    refine ⟨.ref s.heap.objs.size, _, I1, rfl, ⟨_, en, x, y, hen, rx, ry, rfl, I.hok.fresh (Nat.le_refl _), rfl⟩, ⟨es[i].key, es[i].val, he'⟩, fun b hb => ?_⟩
    have e : b = it := by simpa using hb
    rw [e, upd_ne (Nat.ne_of_lt hlt)]
    exact (hf it (by simp)).1
  done := by
    intro X hP hw hK hc i pins s σ H E I hf st hg
    subst hP hw hK
    obtain ⟨hd, hi⟩ := hg
    obtain ⟨f0, f1, f2, f3, f4, f5⟩ := hf it (by simp)
    obtain ⟨hm, hl, hs⟩ := rawD_raw I hd
    obtain ⟨ok, ov, he⟩ := st
    exact wpAny_pyNext_items_end_raw (I.ok.hd hc) he hm hi fun h' eb => ⟨rfl, I.turned (t' := s.toks) (fun b ob hb e => eb b ob hb e) f0 f1 f3 f4 f5⟩
  self := fun A i s Q E st h => let ⟨_, _, e⟩ := st; PySem.W.kcp_self e h
end
def iDk (td : TE) : TI := fun σ H R => td σ H fun x H1 => ∃ d es ep, x = .ref d ∧ H1 d = some (RawD d es ep) ∧ R (ItDk d es ep) H1
def iDv (td : TE) : TI := fun σ H R => td σ H fun x H1 => ∃ d es ep, x = .ref d ∧ H1 d = some (RawD d es ep) ∧ R (ItDv d es ep) H1
def iDi (td : TE) : TI := fun σ H R => td σ H fun x H1 => ∃ d es ep, x = .ref d ∧ H1 d = some (RawD d es ep) ∧ R (ItDi d es ep) H1
section
variable {X : Cx} {tg e : Expr} {td : TE} {apos cpos : Pos}
theorem raw_noDict {s : Shared} {d : Addr} {es : Array DictEntry} {ep : Nat} (h : s.heap.DictRaw d es ep) : ∀ b, Value.ref d = .ref b → ∃ ob, s.heap.get? b = some ob ∧ ob.dict = none := fun b q => by
  cases q
  obtain ⟨o, ho, hx, _⟩ := h
  exact ⟨o, ho, hx.2.1⟩
theorem pi_Dk (he : PE X e td) : PI X tg e (iDk td) := by
  refine ⟨fun pins s σ H R I h => ?_⟩
  refine thn (he.run pins s σ H _ I h) fun u s1 ⟨x, H1, I1, rx, d, es, ep, ex, hd, q⟩ => ?_
  subst ex
  obtain rfl : u = Value.ref d := rx
  obtain ⟨hm, hl, hs⟩ := rawD_raw I1 hd
  exact wpAny_pyIter_dict_raw hs hm (pi_one (tk := s1.toks) I1 _ (turn_Dk _) ⟨_, Heap.get?_push_size _ rfl, rfl, rfl⟩ q)
theorem pi_Dv (he : PE X e td) (hbase : attributeBase e "values" X.env (eval e X.env) = eval e X.env := by rfl) (hline : (apos.endLine == cpos.line) = true := by rfl) : PI X tg (.Call (.Attribute e "values" apos) [] [] cpos) (iDv td) := by
  refine ⟨fun pins s σ H R I h => ?_⟩
  refine wpAny_Call_method (T := "dict") (id := "dict.values") hbase rfl hline F.plainAttrs_dict F.slot_dict_values F.type_dict_values (thn (he.run pins s σ H _ I h) fun u s1 ⟨x, H1, I1, rx, d, es, ep, ex, hd, q⟩ => ?_)
  subst ex
  obtain rfl : u = Value.ref d := rx
  obtain ⟨hm, hl, hs⟩ := rawD_raw I1 hd
  refine ⟨hm.typeIs, raw_noDict hm, ?_⟩
  have I2 : Inv X pins σ H1 { s1 with heap := s1.heap.push { cls := .type "dict_values", data := .fields #[.ref d] } } := I1.kept (t' := s1.toks) fun b ob q => Heap.get?_push_of_some _ q
  have fin : wpAny (model X.prog X.w) X.A (pyIter (.ref s1.heap.objs.size)) (PIE X pins σ tg R) X.xe { s1 with heap := s1.heap.push { cls := .type "dict_values", data := .fields #[.ref d] } } := by
    refine wpAny_pyIter_values_raw (d := d) ⟨_, Heap.get?_push_size _ rfl, rfl, rfl⟩ (hm.at fun o e => Heap.get?_push_of_some _ e) (pi_one (tk := s1.toks) I2 _ (turn_Dv _) ⟨_, Heap.get?_push_size _ rfl, rfl, rfl⟩ q)
  show wpAny _ _ (callWith cpos (.builtin "dict.values") [.ref d] [] []) _ X.xe s1
  exact method_meetsIn F.slot_dict_values F.entry_dict_values rfl (PySem.evalArgs_none ⟨rfl, hm.typeIs, F.args_dict_values_1 _, _, meets_dict_values_raw d hs, ⟨es, ep, hm⟩, fin⟩)
theorem pi_Di {elts : List Expr} {kk : Nat} {tpos : Pos} (he : PE X e td) (hbase : attributeBase e "items" X.env (eval e X.env) = eval e X.env := by rfl) (hline : (apos.endLine == cpos.line) = true := by rfl) :
    PI X (.Tuple elts kk tpos) (.Call (.Attribute e "items" apos) [] [] cpos) (iDi td) := by
  refine ⟨fun pins s σ H R I h => ?_⟩
  refine wpAny_Call_method (T := "dict") (id := "dict.items") hbase rfl hline F.plainAttrs_dict F.slot_dict_items F.type_dict_items (thn (he.run pins s σ H _ I h) fun u s1 ⟨x, H1, I1, rx, d, es, ep, ex, hd, q⟩ => ?_)
  subst ex
  obtain rfl : u = Value.ref d := rx
  obtain ⟨hm, hl, hs⟩ := rawD_raw I1 hd
  refine ⟨hm.typeIs, raw_noDict hm, ?_⟩
  have I2 : Inv X pins σ H1 { s1 with heap := s1.heap.push { cls := .type "dict_items", data := .fields #[.ref d] } } := I1.kept (t' := s1.toks) fun b ob q => Heap.get?_push_of_some _ q
  have fin : wpAny (model X.prog X.w) X.A (pyIter (.ref s1.heap.objs.size)) (PIE X pins σ (.Tuple elts kk tpos) R) X.xe { s1 with heap := s1.heap.push { cls := .type "dict_items", data := .fields #[.ref d] } } := by
    refine wpAny_pyIter_items_raw (d := d) ⟨_, Heap.get?_push_size _ rfl, rfl, rfl⟩ (hm.at fun o e => Heap.get?_push_of_some _ e) (pi_one (tk := s1.toks) I2 _ (turn_Di _) ⟨.none, .none, Heap.get?_push_size _ rfl⟩ q)
  show wpAny _ _ (callWith cpos (.builtin "dict.items") [.ref d] [] []) _ X.xe s1
  exact method_meetsIn F.slot_dict_items F.entry_dict_items rfl (PySem.evalArgs_none ⟨rfl, hm.typeIs, F.args_dict_items_1 _, _, meets_dict_items_raw d hs, ⟨es, ep, hm⟩, fin⟩)
end
section
variable {w : World} {K : PySem.W.Frag} {cl : Nat → Addr} {M1 : Addr → Prop} {H1 : Hp} {a : Addr} {es : Array DictEntry} {ep : Nat} {kvs : List (D × D)}
theorem ent_at (t : IsE w K cl M1 H1 es.toList kvs) {i : Nat} (hi : i < kvs.length) : ∃ e kv vv dk dv, es[i]? = some e ∧ RelV kv e.key ∧ RelV vv e.val ∧ kvs[i]? = some (dk, dv) ∧ Is w K cl M1 H1 kv dk ∧ Is w K cl M1 H1 vv dv := by
  have hl := (isE_len t).1
  have hi' : i < es.toList.length := by omega
  obtain ⟨kk, vv, dk', dv', key', g1, g2, g3, g4, g5, g6, g7, g8⟩ := isE_at (i := i) (e := es.toList[i]) t (by simp)
  refine ⟨es.toList[i], kk, vv, dk', dv', ?_, g1, g4, g6, g2, g5⟩
  rw [← Array.getElem?_toList]
  simp
theorem iter_Dk (h : H1 a = some (RawD a es ep)) (m : ¬ M1 a) (t : IsE w K cl M1 H1 es.toList kvs) : IterOk w K cl M1 H1 (ItDk a es ep) (kvs.map (·.1)) := by
  have hl : es.size = kvs.length := by have := (isE_len t).1; simpa using this
  refine ⟨fun H => H a = some (RawD a es ep), fun i H x H' => H' = H ∧ ∃ e, es[i]? = some e ∧ RelV x e.key, ⟨fun i H hi q => ?_, fun H q => ⟨q, by simp [hl]⟩, fun _ _ _ _ _ _ y => y⟩, fun M H e => (e _ _ h m).1, fun M H i x H' e _ hi y => ?_⟩
  · obtain ⟨e, kv, vv, dk, dv, q1, q2, q3, q4, q5, q6⟩ := ent_at t (by simpa using hi)
    exact ⟨q, e, kv, q1, q2⟩
  · obtain ⟨rfl, e', y1, y2⟩ := y
    refine ⟨fun _ _ h => h, ?_⟩
    obtain ⟨e'', kv, vv, dk, dv, q1, q2, q3, q4, q5, q6⟩ := ent_at t (i := i) (by simpa using hi)
    rw [y1] at q1
    cases q1
    rw [RelV.inj y2 q2]
    exact ⟨dk, by simp [q4], q5.stay e⟩
theorem iter_Dv (h : H1 a = some (RawD a es ep)) (m : ¬ M1 a) (t : IsE w K cl M1 H1 es.toList kvs) : IterOk w K cl M1 H1 (ItDv a es ep) (kvs.map (·.2)) := by
  have hl : es.size = kvs.length := by have := (isE_len t).1; simpa using this
  refine ⟨fun H => H a = some (RawD a es ep), fun i H x H' => H' = H ∧ ∃ e, es[i]? = some e ∧ RelV x e.val, ⟨fun i H hi q => ?_, fun H q => ⟨q, by simp [hl]⟩, fun _ _ _ _ _ _ y => y⟩, fun M H e => (e _ _ h m).1, fun M H i x H' e _ hi y => ?_⟩
  · obtain ⟨e, kv, vv, dk, dv, q1, q2, q3, q4, q5, q6⟩ := ent_at t (by simpa using hi)
    exact ⟨q, e, vv, q1, q3⟩
  · obtain ⟨rfl, e', y1, y2⟩ := y
    refine ⟨fun _ _ h => h, ?_⟩
    obtain ⟨e'', kv, vv, dk, dv, q1, q2, q3, q4, q5, q6⟩ := ent_at t (i := i) (by simpa using hi)
    rw [y1] at q1
    cases q1
    rw [RelV.inj y2 q3]
    exact ⟨dv, by simp [q4], q6.stay e⟩
def pairsD (kvs : List (D × D)) : List D := kvs.map fun kv => .tup [kv.1, kv.2]
theorem iter_Di (h : H1 a = some (RawD a es ep)) (m : ¬ M1 a) (t : IsE w K cl M1 H1 es.toList kvs) : IterOk w K cl M1 H1 (ItDi a es ep) (pairsD kvs) := by
  have hl : es.size = kvs.length := by have := (isE_len t).1; simpa using this
  refine ⟨fun H => H a = some (RawD a es ep), fun i H v H' => ∃ T e x y, es[i]? = some e ∧ RelV x e.key ∧ RelV y e.val ∧ v = .ref T ∧ H T = Option.none ∧ H' = upd H T (.tup [x, y]), ⟨fun i H hi q => ?_, fun H q => ⟨q, by simp [pairsD, hl]⟩, fun _ _ _ _ _ _ y => y⟩, fun M H e => (e _ _ h m).1, fun M H i x H' e tr hi y => ?_⟩
  · obtain ⟨e, kv, vv, dk, dv, q1, q2, q3, q4, q5, q6⟩ := ent_at t (by simpa [pairsD] using hi)
    exact ⟨q, e, kv, vv, q1, q2, q3⟩
  · obtain ⟨T, e', x1, x2, y1, y2, y3, rfl, n, rfl⟩ := y
    obtain ⟨e'', kv, vv, dk, dv, q1, q2, q3, q4, q5, q6⟩ := ent_at t (i := i) (by simpa [pairsD] using hi)
    rw [y1] at q1
    cases q1
    rw [RelV.inj y2 q2, RelV.inj y3 q3]
    obtain ⟨z1, z2⟩ := pair_is tr n (q5.stay e) (q6.stay e)
    exact ⟨z1, _, by simp [pairsD, q4], z2⟩
end
section
variable {cl : Nat → Addr} {X : Cx} {tg e : Expr} {apos cpos : Pos} {elts : List Expr} {kk : Nat} {tpos : Pos}
def dIKeys (d : Den Rv) : Den (List D) := fun ρ => (dSh d ρ).bind fun r => match r.1 with
  | .dct kvs => some (kvs.map (·.1), r.2)
  | _ => Option.none
def dIVals (d : Den Rv) : Den (List D) := fun ρ => (dSh d ρ).bind fun r => match r.1 with
  | .dct kvs => some (kvs.map (·.2), r.2)
  | _ => Option.none
def dIItems (d : Den Rv) : Den (List D) := fun ρ => (dSh d ρ).bind fun r => match r.1 with
  | .dct kvs => some (pairsD kvs, r.2)
  | _ => Option.none
theorem di_keys {d : Den Rv} (h : DE cl X e d) : DI cl X tg e (dIKeys d) := pi_imp (pi_Dk (de_sh h)) fun σ H R ⟨M, ρ, f, ds, ρ', rs, hd, k⟩ => by
  obtain ⟨⟨x, ρ1⟩, h1, hd⟩ := Option.bind_eq_some_iff.mp hd
  cases x <;> try cases hd
  refine ⟨M, ρ, f, _, _, rs, h1, fun v M1 H1 f1 rs1 is1 st1 => ?_⟩
  cases is1 with
  | dct h2 h3 h4 h5 => exact ⟨_, _, _, rfl, h2, k _ M1 H1 f1 rs1 st1 (iter_Dk h2 h3 h4)⟩
theorem di_vals {d : Den Rv} (h : DE cl X e d) (hbase : attributeBase e "values" X.env (eval e X.env) = eval e X.env := by rfl) (hline : (apos.endLine == cpos.line) = true := by rfl) : DI cl X tg (.Call (.Attribute e "values" apos) [] [] cpos) (dIVals d) := pi_imp (pi_Dv (de_sh h) hbase hline) fun σ H R ⟨M, ρ, f, ds, ρ', rs, hd, k⟩ => by
  obtain ⟨⟨x, ρ1⟩, h1, hd⟩ := Option.bind_eq_some_iff.mp hd
  cases x <;> try cases hd
  refine ⟨M, ρ, f, _, _, rs, h1, fun v M1 H1 f1 rs1 is1 st1 => ?_⟩
  cases is1 with
  | dct h2 h3 h4 h5 => exact ⟨_, _, _, rfl, h2, k _ M1 H1 f1 rs1 st1 (iter_Dv h2 h3 h4)⟩
theorem di_items {d : Den Rv} (h : DE cl X e d) (hbase : attributeBase e "items" X.env (eval e X.env) = eval e X.env := by rfl) (hline : (apos.endLine == cpos.line) = true := by rfl) : DI cl X (.Tuple elts kk tpos) (.Call (.Attribute e "items" apos) [] [] cpos) (dIItems d) := pi_imp (pi_Di (de_sh h) hbase hline) fun σ H R ⟨M, ρ, f, ds, ρ', rs, hd, k⟩ => by
  obtain ⟨⟨x, ρ1⟩, h1, hd⟩ := Option.bind_eq_some_iff.mp hd
  cases x <;> try cases hd
  refine ⟨M, ρ, f, _, _, rs, h1, fun v M1 H1 f1 rs1 is1 st1 => ?_⟩
  cases is1 with
  | dct h2 h3 h4 h5 => exact ⟨_, _, _, rfl, h2, k _ M1 H1 f1 rs1 st1 (iter_Di h2 h3 h4)⟩
end
end Ws
set_option Elab.async false
set_option linter.all false
set_option maxRecDepth 100000
set_option maxHeartbeats 4000000
/-! Ws37: dict(xs) of a list of pairs, keys of any kind. -/
namespace Ws
open PySem PySem.Spec PyProof.Rows L2
def nextK (ks : List NestedKey) (k : NestedKey) : List NestedKey := match posK ks k with
  | some _ => ks
  | none => ks ++ [k]
section
variable {P : Program} {w : World} {h h' : Heap} {es : Array DictEntry} {ks : List NestedKey} {S I : Addr}
theorem paired_mono {α β : Type} {F G : α → β → Prop} (k : ∀ a b, F a b → G a b) : ∀ {l₁ : List α} {l₂ : List β}, Paired F l₁ l₂ → Paired G l₁ l₂
  | _, _, .nil => .nil
  | _, _, .cons h t => .cons (k _ _ h) (paired_mono k t)
theorem paired_mod {α β : Type} {F : α → β → Prop} {f : α → α} (k : ∀ a b, F a b → F (f a) b) : ∀ {l₁ : List α} {l₂ : List β} (j : Nat), Paired F l₁ l₂ → Paired F (l₁.modify j f) l₂
  | _, _, j, .nil => by cases j <;> simp [List.modify] <;> exact .nil
  | _, _, 0, .cons h t => by rw [List.modify_zero_cons]; exact .cons (k _ _ h) t
  | _, _, j + 1, .cons h t => by rw [List.modify_succ_cons]; exact .cons h (paired_mod k j t)
theorem paired_snoc {α β : Type} {F : α → β → Prop} {a : α} {b : β} (q : F a b) : ∀ {l₁ : List α} {l₂ : List β}, Paired F l₁ l₂ → Paired F (l₁ ++ [a]) (l₂ ++ [b])
  | _, _, .nil => .cons q .nil
  | _, _, .cons h t => .cons h (paired_snoc q t)
theorem keysV_at (hk : ∀ a o vs n, h.get? a = some o → o.data = .seq vs n → h'.get? a = some o) (r : KeysV (mixV P w) h es ks) : KeysV (mixV P w) h' es ks :=
  paired_mono (fun e k q => ⟨⟨NestedIs.at hk k _ q.1.1, q.1.2⟩, q.2⟩) r
theorem keysV_put {k : NestedKey} {key v : Value} (r : KeysV (mixV P w) h es ks) (hk : (mixV P w).is h k key) : KeysV (mixV P w) h (putE ((mixV P w).hash k) key v es (posK ks k)) (nextK ks k) := by
  unfold nextK
  cases hf : posK ks k with
  | some j =>
    simp only [putE]
    unfold KeysV at r ⊢
    rw [Array.toList_modify]
    exact paired_mod (f := fun e : DictEntry => { e with val := v }) (fun e k q => q) j r
  | none =>
    simp only [putE]
    unfold KeysV at r ⊢
    rw [Array.toList_push]
    exact paired_snoc ⟨hk, rfl⟩ r
theorem nextK_nodup {k : NestedKey} (hn : ks.Nodup) : (nextK ks k).Nodup := by
  unfold nextK
  cases hf : posK ks k with
  | some j => exact hn
  | none =>
    refine List.nodup_append.mpr ⟨hn, by simp, fun x hx y hy => ?_⟩
    have : y = k := by simpa using hy
    subst this
    intro z
    subst z
    have := List.findIdx?_eq_none_iff.mp hf x hx
    simp at this
def MixAt (P : Program) (w : World) (h : Heap) (S : Addr) (es : Array DictEntry) (ks : List NestedKey) : Prop := ∃ o ep, h.get? S = some o ∧ o.ExactDict ∧ o.data = .dict es ep ∧ KeysV (mixV P w) h es ks ∧ ks.Nodup
theorem MixAt.at (m : MixAt P w h S es ks) (k : ∀ o, h.get? S = some o → h'.get? S = some o) (hk : ∀ a o vs n, h.get? a = some o → o.data = .seq vs n → h'.get? a = some o) : MixAt P w h' S es ks := by
  obtain ⟨o, ep, h1, h2, h3, h4, h5⟩ := m
  exact ⟨o, ep, k o h1, h2, h3, keysV_at hk h4, h5⟩
theorem MixAt.typeIs {s : Shared} (m : MixAt P w s.heap S es ks) : s.TypeIs (.ref S) "dict" := by
  obtain ⟨o, ep, h1, h2, h3, h4, h5⟩ := m
  exact ⟨o, h1, h2.1⟩
/-- the entries behind several stores -/
def putsE (w : World) : Array DictEntry → List NestedKey → List (NestedKey × Value × Value) → Array DictEntry × List NestedKey
  | es, ks, [] => (es, ks)
  | es, ks, q :: r => putsE w (putE (q.1.hash w) q.2.1 q.2.2 es (posK ks q.1)) (nextK ks q.1) r
end
section
variable {P : Program} {w : World} {A : Around} {E : Value → Shared → Prop}
theorem upd_loopV {R : Result → Shared → Prop} {S I l : Addr} {items : Array Value} {res : Value} (hu : A.units + 16 < cLine) (hh : A.handled = none) (hlI : l ≠ I) (hSI : S ≠ I) (hSl : S ≠ l) :
    ∀ (rest : List (NestedKey × Value × Value)) (i : Nat) (es : Array DictEntry) (ks : List NestedKey) (ix : Int) (t : Tok) (s : Shared), items.size = i + rest.length → es.size + rest.length ≤ sizeLine →
      (∀ (j : Nat) (q : NestedKey × Value × Value), rest[j]? = some q → ∃ (b : Addr), items[i + j]? = some (.ref b) ∧ b ≠ S ∧ b ≠ I ∧ IsTup s.heap b #[q.2.1, q.2.2] ∧ NestedIs s.heap q.1 q.2.1 ∧ q.1.depth ≤ 8) →
      s.heap.IsListIter I l i → s.heap.IsList l items → MixAt P w s.heap S es ks →
      (∀ h' tk, MixAt P w h' S (putsE w es ks rest).1 (putsE w es ks rest).2 → (∀ b o, b ≠ S → b ≠ I → s.heap.get? b = some o → h'.get? b = some o) → R (.ok (.ret res)) { s with heap := h', toks := tk }) →
      codeAny (model P w) A (.builtin "dict.update.loop" ⟨[.ref S, .ref I, .int ix t, res], []⟩) R s
  | [], i, es, ks, ix, t, s, hsz, hln, ht, hit, hl, hm, hR => by
    refine codeAny_builtin ud_entry ?_
    rw [Around.under_plainId ud_plain _]
    show wpAny _ A.in1 (pyNext (.ref I) >>= _) _ _ s
    obtain ⟨oI, hoI, hcI, hdI⟩ := id hit
    refine wpAny_bind (wpAny_pyNext_list_end (A := A.in1) hh hit hl (by first | exact Array.getElem?_eq_none (Nat.le_of_eq hsz) | (simp at hsz; simp; omega)) fun h' he => ?_)
    show wpAny _ A.in1 (Builtin.Dict.addKeywords S [] >>= _) _ _ _
    refine wpAny_bind (wpAny_pure (wpAny_pure ?_))
    refine hR h' s.toks (hm.at (fun o e => he S o hSI e) fun a o vs n e d => he a o (fun z => ?_) e) fun b o _ hb e => he b o hb e
    subst z
    rw [hoI] at e
    cases e
    rw [hdI] at d
    cases d
  | q :: rest, i, es, ks, ix, t, s, hsz, hln, ht, hit, hl, hm, hR => by
    obtain ⟨b, hb, hbS, hbI, htup, hk, hdp⟩ := ht 0 q rfl
    rw [List.length_cons] at hsz hln
    refine codeAny_builtin ud_entry ?_
    rw [Around.under_plainId ud_plain _]
    show wpAny _ A.in1 (pyNext (.ref I) >>= _) _ _ s
    obtain ⟨oI, hoI, hcI, hdI⟩ := id hit
    refine wpAny_bind (wpAny_pyNext_list_item (x := .ref b) hit hl (by simpa using hb) fun h1 hit1 hs1 => ?_)
    have sq1 : ∀ a o vs n, s.heap.get? a = some o → o.data = .seq vs n → h1.get? a = some o := fun a o vs n e d => (hs1.2 a (fun z => by
      subst z
      rw [hoI] at e
      cases e
      rw [hdI] at d
      cases d)).trans e
    have ht1 : IsTup h1 b #[q.2.1, q.2.2] := htup.extBut hs1.extBut hbI
    have hl1 : h1.IsList l items := hl.extBut hs1.extBut hlI
    have hm1 : MixAt P w h1 S es ks := hm.at (fun o e => (hs1.2 S hSI).trans e) sq1
    obtain ⟨o, ho, hc, n, hd⟩ := id ht1
    obtain ⟨oS, epS, g1, g2, g3, g4, g5⟩ := id hm1
    show wpAny _ A.in1 (holding [Value.ref b] _ >>= _) _ _ _
    refine wpAny_bind (wpAny_holding ?_)
    refine wpAny_bind (wpAny_tryCatch ?_)
    unfold Builtin.Dict.pairItems
    refine wpAny_bind (wpAny_typeOf (T := "tuple") ⟨o, ho, hc⟩ ?_)
    rw [if_pos (by first | decide | rfl | simp)]
    refine wpAny_bind (wpAny_seqItems ho hd (wpAny_pure ?_))
    show wpAny _ A.in1 (holding [q.2.1, q.2.2] (dictSet S q.2.1 q.2.2)) _ _ _
    have ki : (mixV P w).is h1 q.1 q.2.1 := ⟨NestedIs.at sq1 _ _ hk, hdp⟩
    refine wpAny_holding (setV (knd := mixV P w) (k := q.1) (show A.in1.units + 8 < cLine by rw [Around.in1_units]; omega) ki g1 g2 g3 g4 g5 (by omega) fun h2 o2 ep2 n2 k1 k2 k3 hs2 => ?_)
    have sq2 : ∀ a o vs n, h1.get? a = some o → o.data = .seq vs n → h2.get? a = some o := fun a o vs n e d => (hs2.2 a (fun z => by
      subst z
      rw [g1] at e
      cases e
      rw [g3] at d
      cases d)).trans e
    have hm2 : MixAt P w h2 S (putE (q.1.hash w) q.2.1 q.2.2 es (posK ks q.1)) (nextK ks q.1) := ⟨o2, ep2, k1, k2, k3, keysV_at sq2 (keysV_put g4 ki), nextK_nodup g5⟩
    refine wpAny_pure ⟨plainId_quiet ud_plain _, upd_loopV (items := items) hu hh hlI hSI hSl rest (i + 1) _ _ (ix + 1) 0 _ (show items.size = i + 1 + rest.length by omega) ?_ (fun j q' e => ?_) ?_ ?_ hm2 fun h' tk hd' k => ?_⟩
    · have := putE_size (h := q.1.hash w) (key := q.2.1) (u := q.2.2) (es := es) (o := posK ks q.1)
      omega
    · obtain ⟨b', hb', hbS', hbI', htup', hk', hdp'⟩ := ht (j + 1) q' (by simpa using e)
      refine ⟨b', ?_, hbS', hbI', (htup'.extBut hs1.extBut hbI').extBut hs2.extBut hbS', NestedIs.at sq2 _ _ (NestedIs.at sq1 _ _ hk'), hdp'⟩
      rw [show i + 1 + j = i + (j + 1) by omega]
      exact hb'
    · exact hit1.at fun o' e => hs2.extBut I o' (Ne.symm hSI) e
    · exact hl1.extBut hs2.extBut (Ne.symm hSl)
    · exact hR h' tk hd' fun c oc h3 h4 e => k c oc h3 h4 (hs2.extBut c oc h3 (hs1.extBut c oc h4 e))
theorem call_dict_pairsV {s : Shared} {l : Addr} {ol : Obj} {items : Array Value} {n : Nat} {prs : List (NestedKey × Value × Value)} {Q : Value → Shared → Prop} (hu : A.units + 32 < cLine) (hh : A.handled = none) (hl : s.heap.get? l = some ol) (hc : ol.cls = .type "list") (hd : ol.dict = none)
    (hdat : ol.data = .seq items n) (hsz : items.size = prs.length) (hln : prs.length ≤ sizeLine)
    (ht : ∀ (j : Nat) (q : NestedKey × Value × Value), prs[j]? = some q → ∃ (b : Addr), items[j]? = some (.ref b) ∧ IsTup s.heap b #[q.2.1, q.2.2] ∧ NestedIs s.heap q.1 q.2.1 ∧ q.1.depth ≤ 8)
    (h : ∀ h' tk, MixAt P w h' s.heap.objs.size (putsE w #[] [] prs).1 (putsE w #[] [] prs).2 → (∀ b o, s.heap.get? b = some o → h'.get? b = some o) → Q (.ref s.heap.objs.size) { s with heap := h', toks := tk }) :
    wpAny (model P w) A (call (.type "dict") [.ref l]) Q E s := by
  refine callType_codes (Q₁ := fun obj s₁ => obj = .ref s.heap.objs.size ∧ s₁ = { s with heap := s.heap.push { cls := .type "dict", data := .dict #[] } }) PySem.F.kt_called_dict (PySem.F.kt_typeCall_dict_1 _) PySem.F.entry_dict_init (kt_code_dict_new _ ⟨rfl, rfl⟩) ?_
  rintro obj s₁ ⟨rfl, rfl⟩
  have hnew : MixAt P w (s.heap.push { cls := .type "dict", data := .dict #[] }) s.heap.objs.size #[] [] := ⟨_, _, Heap.get?_push_size _ rfl, ⟨rfl, rfl, rfl⟩, rfl, .nil, List.nodup_nil⟩
  have k0 : ∀ b o, s.heap.get? b = some o → (s.heap.push { cls := .type "dict", data := .dict #[] }).get? b = some o := fun b o e => Heap.get?_push_of_some _ e
  have hT : Shared.TypeIs { s with heap := s.heap.push { cls := .type "dict", data := .dict #[] } } (.ref s.heap.objs.size) "dict" := MixAt.typeIs (s := { s with heap := s.heap.push { cls := .type "dict", data := .dict #[] } }) hnew
  refine ⟨hT, PySem.F.args_dict_init_2 _ _, ?_⟩
  unfold Builtin.«dict.__init__»
  refine wpAny_bind ?_
  unfold Builtin.Dict.selfAndRest
  refine wpAny_bind (wpAny_notOrdered_dict hT ?_)
  show wpAny _ _ (pure (s.heap.objs.size, [Value.ref l])) _ _ _
  refine wpAny_pure ?_
  show wpAny _ _ (Builtin.Dict.updateFrom "dict.__init__" s.heap.objs.size (.ref l) [] .none) _ _ _
  unfold Builtin.Dict.updateFrom
  refine wpAny_bind (wpAny_typeOf (T := "list") ⟨ol, k0 _ _ hl, hc⟩ ?_)
  rw [if_pos (by first | decide | rfl | simp)]
  refine wpAny_bind (miss_list (k0 _ _ hl) hc hdat hd hh fun h1 tk1 hk1 => ?_)
  rw [if_pos (show (none : Option Value).isNone = true from rfl)]
  refine wpAny_bind (wpAny_rule ?_)
  have hl1 : h1.IsList l items := ⟨ol, hk1 _ _ (k0 _ _ hl), hc, n, hdat⟩
  have hS1 : s.heap.objs.size < h1.objs.size := by
    have e : (s.heap.push { cls := .type "dict", data := .dict #[] }).get? s.heap.objs.size = some { cls := .type "dict", data := .dict #[] } := Heap.get?_push_size _ rfl
    exact Heap.lt_size (hk1 _ _ e)
  refine wpAny_bind (wpAny_pyIter_list hl1 ?_)
  have k2 : ∀ b o, h1.get? b = some o → (h1.push { cls := .type "list_iterator", data := .fields #[.ref l, .int 0 0] }).get? b = some o := fun b o e => Heap.get?_push_of_some _ e
  have k3 : ∀ b o, s.heap.get? b = some o → (h1.push { cls := .type "list_iterator", data := .fields #[.ref l, .int 0 0] }).get? b = some o := fun b o e => k2 _ _ (hk1 _ _ (k0 _ _ e))
  have hlt : l < s.heap.objs.size := Heap.lt_size hl
  have key := upd_loopV (P := P) (w := w) (A := A.in1) (R := wants (fun r s₂ => r = .none ∧ Q (.ref s.heap.objs.size) s₂) E) (S := s.heap.objs.size) (I := h1.objs.size) (l := l) (items := items) (res := Value.none) (by rw [Around.in1_units]; omega) hh
    (Nat.ne_of_lt (Nat.lt_trans hlt hS1)) (Nat.ne_of_lt hS1) (Nat.ne_of_gt hlt) prs 0 #[] [] 0 0
    { s with heap := h1.push { cls := .type "list_iterator", data := .fields #[.ref l, .int 0 0] }, toks := tk1 } (by rw [hsz, Nat.zero_add]) (by simpa using hln)
    (fun j q e => by
      obtain ⟨b, e1, e2, e3, e4⟩ := ht j q e
      have hb : b < s.heap.objs.size := e2.lt
      exact ⟨b, by rw [Nat.zero_add]; exact e1, Nat.ne_of_lt hb, Nat.ne_of_lt (Nat.lt_trans hb hS1), e2.keeps fun c o z => k3 _ _ z, NestedIs.at (fun a o vs n z _ => k3 _ _ z) _ _ e3, e4⟩)
    ⟨_, Heap.get?_push_size _ rfl, rfl, rfl⟩ (hl1.at fun o e => k2 _ _ e) ((hnew.at (fun o e => hk1 _ _ e) fun a o vs n z _ => hk1 _ _ z).at (fun o e => k2 _ _ e) fun a o vs n z _ => k2 _ _ z)
    (fun h' tk hd' k => ⟨rfl, h h' tk hd' fun b o e => k b o (Nat.ne_of_lt (Heap.lt_size e)) (Nat.ne_of_lt (Nat.lt_trans (Heap.lt_size e) hS1)) (k3 _ _ e)⟩)
  first
    | exact wpAny_pure ⟨plainId_quiet ud_plain _, key⟩
    | exact wpAny_bind (wpAny_pure (wpAny_pure ⟨plainId_quiet ud_plain _, key⟩))
end
end Ws
set_option Elab.async false
set_option linter.all false
set_option maxRecDepth 100000
set_option maxHeartbeats 4000000
/-! Ws38: dict(xs), what it denotes. -/
namespace Ws
open PySem PySem.Spec PyProof.Rows L2
def asPairs : List D → Option (List (D × D))
  | [] => some []
  | d :: r => match d with
    | .tup [a, b] => (asPairs r).map ((a, b) :: ·)
    | _ => Option.none
def putsD : List (D × D) → List (D × D) → Option (List (D × D))
  | acc, [] => some acc
  | acc, kv :: r => (toKey kv.1).bind fun k => if k.depth ≤ 8 ∧ acc.length < sizeLine then putsD (putDct acc kv.1 kv.2 k) r else Option.none
theorem keysD_put {acc : List (D × D)} {dk dv : D} {k : NestedKey} (e : toKey dk = some k) : keysD (putDct acc dk dv k) = nextK (keysD acc) k := by
  unfold putDct nextK
  show _ = match atD acc k with | some _ => _ | none => _
  cases hf : atD acc k with
  | some j => exact keysD_set _ _
  | none => exact keysD_snoc e _
theorem putDct_len {acc : List (D × D)} {dk dv : D} {k : NestedKey} : (putDct acc dk dv k).length ≤ acc.length + 1 := by
  unfold putDct
  cases hf : atD acc k <;> simp
theorem putsD_len : ∀ {ps acc kvs : List (D × D)}, acc.length ≤ sizeLine → putsD acc ps = some kvs → kvs.length ≤ sizeLine
  | [], acc, kvs, h, e => by
    simp only [putsD, Option.some.injEq] at e
    subst e
    exact h
  | kv :: r, acc, kvs, h, e => by
    simp only [putsD] at e
    obtain ⟨k, e1, e⟩ := Option.bind_eq_some_iff.mp e
    split at e
    · rename_i hc
      exact putsD_len (by have := putDct_len (acc := acc) (dk := kv.1) (dv := kv.2) (k := k); omega) e
    · cases e
section
variable {P : Program} {w : World} {K : PySem.W.Frag} {cl : Nat → Addr} {M : Addr → Prop} {H : Hp} {h : Heap}
theorem is_tupAt (hok : HOk P w H h) (hK : K.In h) {v : V} {ds : List D} {u : Value} (i : Is w K cl M H v (.tup ds)) (r : RelV v u) : ∃ (b : Addr) (its : List Value) (xs : List V), u = .ref b ∧ IsTup h b its.toArray ∧ Vals xs its ∧ IsL w K cl M H xs ds := by
  cases i with
  | @tup a xs _ hh m t =>
    obtain rfl : u = Value.ref a := r
    have ht : ∃ its : List Value, Vals xs its ∧ IsTup h a its.toArray := by
      rcases hh with hh | ⟨o, hh⟩
      · exact (hok a _ hh).2
      · exact (hok a _ hh).2.2
    obtain ⟨its, rv, ht⟩ := ht
    exact ⟨a, its, xs, rfl, ht, rv, t⟩
  | @tupK a o its n xs _ h1 h2 h3 h4 h5 t =>
    obtain rfl : u = Value.ref a := r
    exact ⟨a, its.toList, xs, rfl, ⟨o, hK _ _ h1, h2, n, by simpa using h3⟩, h5, t⟩
theorem prs_of (hok : HOk P w H h) (hK : K.In h) : ∀ {ps : List (D × D)} {ds : List D} {ys : List V} {its : List Value} {acc kvs : List (D × D)} {es : Array DictEntry}, asPairs ds = some ps → IsL w K cl M H ys ds → Vals ys its → putsD acc ps = some kvs →
    IsE w K cl M H es.toList acc → (keysD acc).Nodup →
    ∃ prs : List (NestedKey × Value × Value), prs.length = its.length ∧ (∀ (j : Nat) (q : NestedKey × Value × Value), prs[j]? = some q → ∃ (b : Addr), its[j]? = some (.ref b) ∧ IsTup h b #[q.2.1, q.2.2] ∧ NestedIs h q.1 q.2.1 ∧ q.1.depth ≤ 8) ∧
      IsE w K cl M H (putsE w es (keysD acc) prs).1.toList kvs ∧ (keysD kvs).Nodup ∧ (putsE w es (keysD acc) prs).2 = keysD kvs
  | ps, [], ys, its, acc, kvs, es, e, t, rv, p, te, nd => by
    simp only [asPairs, Option.some.injEq] at e
    subst e
    cases t
    cases rv
    simp only [putsD, Option.some.injEq] at p
    subst p
    exact ⟨[], rfl, fun j q z => by simp at z, te, nd, rfl⟩
  | ps, d :: ds, ys, its, acc, kvs, es, e, t, rv, p, te, nd => by
    simp only [asPairs] at e
    split at e
    · rename_i dk dv
      obtain ⟨r, e1, e2⟩ := Option.map_eq_some_iff.mp e
      subst e2
      cases t with
      | cons ia ta =>
        cases rv with
        | cons ra rr =>
          simp only [putsD] at p
          obtain ⟨k, p1, p⟩ := Option.bind_eq_some_iff.mp p
          split at p
          · rename_i hc
            obtain ⟨b, its2, xs, eu, ht, rv2, t2⟩ := is_tupAt hok hK ia ra
            subst eu
            cases t2 with
            | cons ik t3 =>
              cases t3 with
              | cons iv t4 =>
                cases t4
                cases rv2 with
                | cons rk rv3 =>
                  cases rv3 with
                  | cons rvv rv4 =>
                    cases rv4
                    rename_i vk vv uk uv
                    obtain ⟨z1, z2⟩ := isE_put te nd rk ik p1 hc.1 rvv iv
                    obtain ⟨prs, q1, q2, q3, q4, q5⟩ := prs_of hok hK e1 ta rr p z1 z2
                    rw [keysD_put p1] at q3 q5
                    refine ⟨(k, uk, uv) :: prs, by simp [q1], fun j q z => ?_, q3, q4, q5⟩
                    cases j with
                    | zero =>
                      have z' : (k, uk, uv) = q := Option.some.inj z
                      subst z'
                      exact ⟨b, rfl, ht, is_key hok hK ik p1 rk, hc.1⟩
                    | succ j =>
                      obtain ⟨b', w1, w2⟩ := q2 j q (by simpa using z)
                      exact ⟨b', by simpa using w1, w2⟩
          · cases p
    · cases e
end
section
variable {cl : Nat → Addr} {X : Cx} {e : Expr} {pos p : Pos} {d : Den Rv}
def rDictV (w : World) (K : PySem.W.Frag) (cl : Nat → Addr) : List V → Hp → VK → Prop := fun xs H Q => ∃ (a : Addr) (ys : List V) (M : Addr → Prop) (ds : List D) (ps kvs : List (D × D)), xs = [.ref a] ∧ SqL K H a ys ∧ IsL w K cl M H ys ds ∧ asPairs ds = some ps ∧ putsD [] ps = some kvs ∧
  ∀ p es ep, H p = Option.none → IsE w K cl M H es.toList kvs → (keysD kvs).Nodup → Q (.ref p) (upd H p (RawD p es ep))
theorem call_dictV (hcalm : X.calm = true) (hu : X.A.units + 64 < cLine) : CallR X (.type "dict") (rDictV X.w X.K cl) := by
  intro pins s σ H xs us Q I r q
  obtain ⟨a, ys, M, ds, ps, kvs, ex, hq, t, e1, e2, q⟩ := q
  subst ex
  obtain ⟨u, eu, rx⟩ := vals1 r
  subst eu
  cases rx
  obtain ⟨its, rv, pl, hz⟩ := I.list hq
  obtain ⟨prs, hl, hpr, te, nd, ek⟩ := prs_of (es := #[]) (acc := []) I.hok I.kIn e1 t rv e2 .nil List.nodup_nil
  obtain ⟨o, n, ho, hc, hd, hdat⟩ := pl
  have lr := rv.length
  refine call_dict_pairsV (prs := prs) (by omega) (I.ok.hd hcalm) ho hc hd hdat (by simp [hl]) (by omega) (fun j q' e => ?_) fun h' tk hd' k => ?_
  · obtain ⟨b, e1, e2, e3⟩ := hpr j q' e
    exact ⟨b, by simpa using e1, e2, e3⟩
  · have hm : (s.heap.objs.size == sysModules) = false := beq_eq_false_iff_ne.mpr (Nat.ne_of_gt I.big)
    obtain ⟨o', ep, h1, h2, h3, h4, h5⟩ := hd'
    have hlen := putsD_len (by simp) e2
    have l2 := (isE_len te).1
    rw [Array.length_toList] at l2
    exact ⟨.ref s.heap.objs.size, upd H s.heap.objs.size (RawD s.heap.objs.size (putsE X.w #[] [] prs).1 ep), I.laid (t' := tk) k (Nat.le_refl _) (raw_ok h1 h2 h3 (by rw [show keysD ([] : List (D × D)) = [] from rfl] at l2; omega) hm), rfl, q _ _ ep (I.hok.fresh (Nat.le_refl _)) te nd⟩
def dDict (d : Den Rv) : Den Rv := fun ρ => (d ρ).bind fun x => (itemsR x.2 x.1).bind fun q => if q.1 = true then (asPairs q.2).bind fun ps => (putsD [] ps).map fun kvs => (.val (.dct kvs), x.2) else Option.none
theorem de_dict {c : Bool} {k' : Nat} (hr : RoomG c k' X.A) (hcalm : X.calm = true) (hg : Gl X "dict") (hm : X.mg "dict" = none) (ha : DE cl X e d) (he : starEach [e] X.env = (false, eval e X.env) :: starEach [] X.env := by rfl) (hpl : (backTo pos (starEach [] X.env)).any (·.1) = false := by rfl) : DE cl X (.Call (.Name "dict" p) [e] [] pos) (dDict d) :=
  pe_imp (pe_callTy (call_dictV (cl := cl) hcalm hr.u64) hg hm (by decide +kernel) (pa_cons ha pa_nil he) (by decide) (by decide) he hpl) fun σ H Q ⟨M, ρ, f, rv, ρ', rs, hd, k⟩ => by
    obtain ⟨⟨x, ρ1⟩, h1, hd⟩ := Option.bind_eq_some_iff.mp hd
    obtain ⟨⟨b, ds⟩, h2, hd⟩ := Option.bind_eq_some_iff.mp hd
    cases b with
    | false => cases hd
    | true =>
      obtain ⟨ps, h3, hd⟩ := Option.bind_eq_some_iff.mp (show ((asPairs ds).bind fun ps => (putsD [] ps).map fun kvs => (Rv.val (.dct kvs), ρ1)) = some (rv, ρ') from hd)
      obtain ⟨kvs, h4, hd⟩ := Option.map_eq_some_iff.mp hd
      cases hd
      refine ⟨M, ρ, f, x, _, rs, h1, fun v M1 H1 f1 fw rs1 ok1 st1 => ?_⟩
      obtain ⟨a, xs, e1, e2, e3⟩ := ok1.items rs1 h2
      refine ⟨a, xs, M1, ds, ps, kvs, by rw [e1], e2, e3, h3, h4, fun q es ep nq te nd => ?_⟩
      obtain ⟨r2, s2⟩ := rs1.newM nq (RawD q es ep)
      exact k (.ref q) _ _ _ [q] r2 ⟨.dct upd_same (te.stay (ext_newM nq rs1.trk)) nd, (by simp), fun a ha => by
        have e : a = q := by simpa using ha
        subst e
        exact ⟨.inr rfl, rs1.not_in nq, st1.back nq⟩⟩ (st1.trans rs.trk s2)
end
end Ws
set_option Elab.async false
set_option linter.all false
set_option maxRecDepth 100000
set_option maxHeartbeats 4000000
/-! Ws39: list(d.items()), tuple(d.items()). -/
namespace Ws
open PySem PySem.Spec PyProof.Rows L2
section
variable {prog : Program} {w : World} {A : Around} {E : Value → Shared → Prop} {s : Shared} {r d : Addr} {es : Array DictEntry} {ep : Nat}
theorem list_initV {R : Result → Shared → Prop} (hh : A.handled = none) (hv : s.heap.IsItemsView r d) (hm : DT.Raw s.heap d es ep) (S : Addr) (hSr : S ≠ r) (hSd : d ≠ S) (hS : s.heap.get? S = some { cls := .type "list", data := .seq #[] })
    (hR : ∀ h' tk acc c as, (∀ b o, b ≠ S → s.heap.get? b = some o → h'.get? b = some o) → h'.get? S = some { cls := .type "list", dict := none, data := .seq acc c, slots := #[] } → as.length = es.size → DT.Made es S h' as →
      acc.toList = as.map Value.ref → R (.ok (.ret .none)) { s with heap := h', toks := tk }) (hn : es.size ≤ sizeLine) :
    wpAny (model prog w) A.in1 (Builtin.«list.__init__» ⟨[.ref S, .ref r], []⟩)
      (fun fin s' => match fin with | .done f => R (.ok f) s' | .again c' => c'.quiet = true ∧ codeAny (model prog w) A c' R s') (fun e s' => R (.error e) s') s := by
  show wpAny _ _ (do let old ← Builtin.List.listItems (.ref S); Builtin.List.listUpdate (.ref S) (fun _ => #[]); letGo old.toList.reverse; Builtin.List.listExtendWith (.ref S) (.ref r) .none) _ _ s
  refine wpAny_bind ?_
  unfold Builtin.List.listItems
  refine wpAny_bind (wpAny_seqItems hS rfl (wpAny_pure ?_))
  show wpAny _ _ (updateSeq S (fun _ => #[]) >>= fun _ => letGo (#[] : Array Value).toList.reverse >>= fun _ => Builtin.List.listExtendWith (.ref S) (.ref r) .none) _ _ s
  refine wpAny_bind (wpAny_updateSeq hS rfl ?_)
  have hS₂ := Heap.get?_update_self (Obj.mapSeq (fun _ => (#[] : Array Value))) hS rfl
  have oth : ∀ b o, b ≠ S → s.heap.get? b = some o → (s.heap.update S (Obj.mapSeq (fun _ => (#[] : Array Value)))).get? b = some o :=
    fun b o hb e => (Heap.get?_update_other _ _ (Ne.symm hb)).trans e
  refine wpAny_bind (wpAny_letGo ?_)
  refine DT.extI (es := es) (ep := ep) hh (let ⟨o, ho, x⟩ := hv; ⟨o, oth r o hSr.symm ho, x⟩) (hm.at' fun o e => oth d o hSd e) S hSr hSd .none _ hS₂ (fun h' tk acc c as hk hS' hl hG hacc => ?_) hn
  exact hR h' tk acc c as (fun b o hb e => hk b o hb (oth b o hb e)) hS' hl (hG.low (Nat.le_of_lt (Heap.lt_size hS₂))) hacc
theorem call_listItems {Q : Value → Shared → Prop} (hh : A.handled = none) (hv : s.heap.IsItemsView r d) (hm : DT.Raw s.heap d es ep) (hn : es.size ≤ sizeLine)
    (hQ : ∀ h' tk acc c as, (∀ b o, s.heap.get? b = some o → h'.get? b = some o) → h'.get? s.heap.objs.size = some { cls := .type "list", dict := none, data := .seq acc c, slots := #[] } → as.length = es.size → DT.Made es s.heap.objs.size h' as →
      acc.toList = as.map Value.ref → Q (.ref s.heap.objs.size) { s with heap := h', toks := tk }) :
    wpAny (model prog w) A (call (.type "list") [.ref r]) Q E s := by
  refine callType_codes (Q₁ := fun obj s₁ => obj = .ref s.heap.objs.size ∧ s₁ = { s with heap := s.heap.push { cls := .type "list", data := .seq #[] } }) PySem.F.called_list (PySem.F.typeCall_list_1 _) PySem.F.entry_list_init
    (code_list_new _ ⟨rfl, rfl⟩) fun obj s₁ h₁ => ?_
  obtain ⟨rfl, rfl⟩ := h₁
  have hS : (s.heap.push { cls := .type "list", data := .seq #[] }).get? s.heap.objs.size = some { cls := .type "list", data := .seq #[] } := Heap.get?_push_size _ rfl
  have hr : r < s.heap.objs.size := let ⟨_, ho, _⟩ := hv; Heap.lt_size ho
  have hd : d < s.heap.objs.size := hm.lt
  refine ⟨⟨_, hS, rfl⟩, PySem.F.args_list_init_2 _ _, list_initV (es := es) (ep := ep) (A := A.in1) hh (let ⟨o, ho, x⟩ := hv; ⟨o, Heap.get?_push_of_some _ ho, x⟩) (hm.push _) _ (Nat.ne_of_gt hr) (Nat.ne_of_lt hd) hS (fun h' tk acc c as hk hS' hl hG hacc => ?_) hn⟩
  exact ⟨rfl, hQ h' tk acc c as (fun b o e => hk b o (Nat.ne_of_lt (Heap.lt_size e)) (Heap.get?_push_of_some _ e)) hS' hl hG hacc⟩
theorem meets_tupleItems (r d : Addr) (es : Array DictEntry) (ep : Nat) (hn : es.size ≤ sizeLine) :
    Meets (Builtin.«tuple.__new__» ⟨[.type "tuple", .ref r], []⟩)
      (fun A R s => A.handled = none ∧ s.heap.IsItemsView r d ∧ DT.Raw s.heap d es ep ∧ ∀ (h' : Heap) (tk : Nat) (as : List Addr), (∀ b o', s.heap.get? b = some o' → h'.get? b = some o') → as.length = es.size → DT.Made es s.heap.objs.size h' as →
        R (.ok (.ret (.ref h'.objs.size))) { s with heap := h'.push { cls := .type "tuple", data := .seq (as.map Value.ref).toArray }, toks := tk }) :=
  .of_wp fun prog w A R s h => by
    obtain ⟨hp, g, d', tk, os⟩ := s; obtain ⟨hh, hv, hm, h⟩ := h
    have hsub := sub_tuple_self
    have hinit := init_tuple_lookup
    have hmh := madeHere_tuple
    have hT : Shared.TypeIs ⟨hp, g, d', tk, os⟩ (.ref r) "dict_items" := hv.typeIs
    have col : ∀ {R' : List Value → Shared → Prop} {E' : Value → Shared → Prop}, (∀ (h' : Heap) (tk' : Nat) (as : List Addr), (∀ b o, hp.get? b = some o → h'.get? b = some o) → hp.objs.size < h'.objs.size → as.length = es.size → DT.Made es hp.objs.size h' as → R' (as.map Value.ref) ⟨h', g, d', tk', os⟩) →
        wpAny (model prog w) A.in1 (collect (.ref r)) R' E' ⟨hp, g, d', tk, os⟩ := fun q => DT.collectI (s := ⟨hp, g, d', tk, os⟩) (es := es) (ep := ep) hh hv hm hn q
    obtain ⟨ov, hov, hcv, hdv⟩ := id hv
    wp_walk using wpAny_loadPart' hov, wpAny_typeOf hT, col
    intro h' tk' as hk hlt hl hG
    show wpAny _ _ (Builtin.Tuple.tupleExact (as.map Value.ref).toArray >>= fun v => ret v) _ _ _
    unfold Builtin.Tuple.tupleExact
    refine wpAny_bind (wpAny_newObj_type ?_ (by show (as.map Value.ref).toArray.size ≤ sizeLine; rw [List.size_toArray, List.length_map, hl]; exact hn))
    exact wpAny_pure ⟨_, rfl, h h' tk' as hk hl hG⟩
theorem call_tupleItems {Q : Value → Shared → Prop} (hh : A.handled = none) (hv : s.heap.IsItemsView r d) (hm : DT.Raw s.heap d es ep) (hn : es.size ≤ sizeLine)
    (hQ : ∀ (h' : Heap) (tk : Nat) (as : List Addr), (∀ b o', s.heap.get? b = some o' → h'.get? b = some o') → as.length = es.size → DT.Made es s.heap.objs.size h' as → Q (.ref h'.objs.size) { s with heap := h'.push { cls := .type "tuple", data := .seq (as.map Value.ref).toArray }, toks := tk }) :
    wpAny (model prog w) A (call (.type "tuple") [.ref r]) Q E s :=
  callType_new F.called_tuple (by decide) (F.typeCall_tuple_1 _) (F.newCall_tuple_1 _) (fun obj => F.args_object_init_2 obj _) F.entry_tuple_new
    (meets_tupleItems r d es ep hn) ⟨hh, hv, hm, fun h' tk as hk hl hG => ⟨⟨_, Heap.get?_push_size _ rfl, rfl⟩, hQ h' tk as hk hl hG⟩⟩
theorem paired_of {α β : Type} {F : α → β → Prop} : ∀ {as : List α} {bs : List β}, as.length = bs.length → (∀ (j : Nat) (a : α), as[j]? = some a → ∃ b, bs[j]? = some b ∧ F a b) → Paired F as bs
  | [], [], _, _ => .nil
  | [], _ :: _, h, _ => by cases h
  | _ :: _, [], h, _ => by cases h
  | a :: as, b :: bs, h, k => by
    obtain ⟨b', e, q⟩ := k 0 a rfl
    have e' : b = b' := Option.some.inj e
    subst e'
    exact .cons q (paired_of (Nat.succ.inj h) fun j a e => k (j + 1) a (by simpa using e))
end
section
variable {X : Cx} {cl : Nat → Addr} {M : Addr → Prop}
theorem trk_new {H : Hp} {p : Addr} {o : HO} (t : Trk M H) : Trk M (upd H p o) := fun a m => by
  obtain ⟨u, h⟩ := t a m
  exact upd_there h
theorem takeE {pins : List (Addr × Obj)} {σ : L2.St} {H0 : Hp} {s : Shared} {h' : Heap} {tk : Nat} (I0 : Inv X pins σ H0 s) : ∀ (as : List Addr) (el : List DictEntry) (kvs : List (D × D)) (H1 : Hp), Inv X pins σ H1 { s with heap := h', toks := tk } → as.Nodup →
    (∀ a ∈ as, s.heap.objs.size ≤ a ∧ H1 a = Option.none) → Paired (fun (a : Addr) (e : DictEntry) => h'.get? a = some { cls := .type "tuple", data := .seq #[e.key, e.val] }) as el → IsE X.w X.K cl M H1 el kvs → Trk M H1 →
    ∃ H2, Inv X pins σ H2 { s with heap := h', toks := tk } ∧ (∀ b o, H1 b = some o → H2 b = some o) ∧ (∀ b, b ∉ as → H2 b = H1 b) ∧ IsL X.w X.K cl M H2 (as.map V.ref) (pairsD kvs)
  | [], _, kvs, H1, I1, _, _, p, t, _ => by
    cases p
    cases t
    exact ⟨H1, I1, fun _ _ e => e, fun _ _ => rfl, .nil⟩
  | a :: as, _, kvs, H1, I1, hn, hf, p, t, tr => by
    cases p with
    | cons p1 p2 =>
      cases t with
      | @cons e kv vv kd vd k el kvs rk ik ek dk eh rv iv te =>
        obtain ⟨hb, hnone⟩ := hf a List.mem_cons_self
        rw [List.nodup_cons] at hn
        have I2 : Inv X pins σ (upd H1 a (.tup [kv, vv])) { s with heap := h', toks := tk } := I1.take (h' := h') (t' := tk) (fun b ob _ e => e) (I0.fpOk hb hnone)
          ⟨by show 2 ≤ sizeLine; decide, [_, _], .cons rk (.cons rv .nil), ⟨_, p1, rfl, _, rfl⟩⟩
        obtain ⟨z1, z2⟩ := pair_is tr hnone ik iv
        obtain ⟨H2, I3, g, q, t3⟩ := takeE I0 as _ kvs (upd H1 a (.tup [kv, vv])) I2 hn.2 (fun c hc => by
          obtain ⟨c1, c2⟩ := hf c (List.mem_cons_of_mem _ hc)
          exact ⟨c1, by rw [upd_ne (fun z => hn.1 (by rw [← z]; exact hc))]; exact c2⟩) p2 (te.stay (ext_new hnone tr)) (trk_new tr)
        refine ⟨H2, I3, fun b o e => g b o (z1 b o e), fun b hb => ?_, .cons (z2.stay fun b o h m => ⟨g b o h, m⟩) t3⟩
        rw [q b fun z => hb (List.mem_cons_of_mem _ z), upd_ne fun z => hb (by rw [z]; exact List.mem_cons_self)]
def tItL (w : World) (K : PySem.W.Frag) (cl : Nat → Addr) (te : TE) : TE := fun σ H Q => te σ H fun x H1 => ∃ (d : Addr) (es : Array DictEntry) (ep : Nat) (kvs : List (D × D)) (M : Addr → Prop), x = .ref d ∧ H1 d = some (RawD d es ep) ∧ IsE w K cl M H1 es.toList kvs ∧ Trk M H1 ∧
  ∀ (H2 : Hp) (p : Addr) (xs : List V), (∀ b o, H1 b = some o → H2 b = some o) → H2 p = Option.none → IsL w K cl M H2 xs (pairsD kvs) → Q (.ref p) (upd H2 p (.lst xs))
def tItT (w : World) (K : PySem.W.Frag) (cl : Nat → Addr) (te : TE) : TE := fun σ H Q => te σ H fun x H1 => ∃ (d : Addr) (es : Array DictEntry) (ep : Nat) (kvs : List (D × D)) (M : Addr → Prop), x = .ref d ∧ H1 d = some (RawD d es ep) ∧ IsE w K cl M H1 es.toList kvs ∧ Trk M H1 ∧
  ∀ (H2 : Hp) (p : Addr) (xs : List V), (∀ b o, H1 b = some o → H2 b = some o) → H2 p = Option.none → IsL w K cl M H2 xs (pairsD kvs) → Q (.ref p) (upd H2 p (.tup xs))
variable {e : Expr} {te : TE} {p apos cpos pos : Pos}
theorem pe_itL (hc : X.calm = true) (he : PE X e te) (hg : Gl X "list") (hm : X.mg "list" = none) (hbase : attributeBase e "items" X.env (eval e X.env) = eval e X.env := by rfl) (hline : (apos.endLine == cpos.line) = true := by rfl)
    (hs : starEach [.Call (.Attribute e "items" apos) [] [] cpos] X.env = (false, eval (.Call (.Attribute e "items" apos) [] [] cpos) X.env) :: starEach [] X.env := by rfl) :
    PE X (.Call (.Name "list" p) [.Call (.Attribute e "items" apos) [] [] cpos] [] pos) (tItL X.w X.K cl te) := by
  refine ⟨fun pins s σ H Q I hq => ?_⟩
  refine wpAny_Call_Name_kw (ld_blt I hg hm (show bootBuiltins "list" = some (.type "list") by decide +kernel) ?_)
  refine PyProof.Rows.callWith_type1 ?_ hs rfl
  rw [hs]
  show wpAny _ _ (spliced ((false, eval (.Call (.Attribute e "items" apos) [] [] cpos) X.env) :: backTo pos (starEach [] X.env))) _ _ s
  refine Calls.spliced_cons ?_
  refine wpAny_Call_method (T := "dict") (id := "dict.items") hbase rfl hline F.plainAttrs_dict F.slot_dict_items F.type_dict_items (thn (he.run pins s σ H _ I hq) fun u s1 ⟨x, H1, I1, rx, d, es, ep, kvs, M, ex, hd, t, tr, q⟩ => ?_)
  subst ex
  obtain rfl : u = Value.ref d := rx
  obtain ⟨hm, hl0, hs0⟩ := rawD_raw I1 hd
  have I2 : Inv X pins σ H1 { s1 with heap := s1.heap.push { cls := .type "dict_items", data := .fields #[.ref d] } } := I1.kept (t' := s1.toks) fun b ob q => Heap.get?_push_of_some _ q
  refine ⟨hm.typeIs, raw_noDict hm, ?_⟩
  show wpAny _ _ (callWith cpos (.builtin "dict.items") [.ref d] [] []) _ X.xe s1
  refine method_meetsIn F.slot_dict_items F.entry_dict_items rfl (PySem.evalArgs_none ⟨rfl, hm.typeIs, F.args_dict_items_1 _, _, meets_dict_items_raw d hs0, ⟨es, ep, hm⟩, ?_⟩)
  refine Calls.spliced_nil ?_
  refine call_listItems (es := es) (ep := ep) (I1.ok.hd hc) ⟨_, Heap.get?_push_size _ rfl, rfl, rfl⟩ (hm.at fun o e => Heap.get?_push_of_some _ e) hl0 fun h' tk acc c as hk hS hl hG hacc => ?_
  have nd : as.Nodup := List.Pairwise.imp (fun {a b} (h : a < b) => Nat.ne_of_lt h) hG.rise
  have I3 : Inv X pins σ H1 { s1 with heap := h', toks := tk } := I2.kept (t' := tk) hk
  obtain ⟨H2, I4, g, q2, t2⟩ := takeE (h' := h') (tk := tk) I2 as es.toList kvs H1 I3 nd (fun a ha => ⟨Nat.le_of_lt (hG.above a ha), I2.hok.fresh (Nat.le_of_lt (hG.above a ha))⟩) (paired_of (by simpa using hl) fun j a e => by
    obtain ⟨en, e1, e2⟩ := hG.pairs j a e
    exact ⟨en, by rw [Array.getElem?_toList]; exact e1, e2⟩) t tr
  have nS : (s1.heap.push { cls := .type "dict_items", data := .fields #[.ref d] }).objs.size ∉ as := fun z => Nat.lt_irrefl _ (hG.above _ z)
  have fS : H2 (s1.heap.push { cls := .type "dict_items", data := .fields #[.ref d] }).objs.size = none := by rw [q2 _ nS]; exact I2.hok.fresh (Nat.le_refl _)
  have I5 := I4.take (h' := h') (t' := tk) (it := (s1.heap.push { cls := .type "dict_items", data := .fields #[.ref d] }).objs.size) (o := .lst (as.map V.ref)) (fun b ob _ e => e) (I2.fpOk (Nat.le_refl _) fS)
    ⟨by rw [List.length_map]; omega, acc.toList, c, by rw [hacc]; exact LiI.vals_refs as, by rw [Array.toArray_toList]; exact hS⟩
  exact ⟨.ref _, _, I5, rfl, q H2 _ _ g fS t2⟩
theorem pe_itT (hc : X.calm = true) (he : PE X e te) (hg : Gl X "tuple") (hm : X.mg "tuple" = none) (hbase : attributeBase e "items" X.env (eval e X.env) = eval e X.env := by rfl) (hline : (apos.endLine == cpos.line) = true := by rfl)
    (hs : starEach [.Call (.Attribute e "items" apos) [] [] cpos] X.env = (false, eval (.Call (.Attribute e "items" apos) [] [] cpos) X.env) :: starEach [] X.env := by rfl) :
    PE X (.Call (.Name "tuple" p) [.Call (.Attribute e "items" apos) [] [] cpos] [] pos) (tItT X.w X.K cl te) := by
  refine ⟨fun pins s σ H Q I hq => ?_⟩
  refine wpAny_Call_Name_kw (ld_blt I hg hm (show bootBuiltins "tuple" = some (.type "tuple") by decide +kernel) ?_)
  refine PyProof.Rows.callWith_type1 ?_ hs rfl
  rw [hs]
  show wpAny _ _ (spliced ((false, eval (.Call (.Attribute e "items" apos) [] [] cpos) X.env) :: backTo pos (starEach [] X.env))) _ _ s
  refine Calls.spliced_cons ?_
  refine wpAny_Call_method (T := "dict") (id := "dict.items") hbase rfl hline F.plainAttrs_dict F.slot_dict_items F.type_dict_items (thn (he.run pins s σ H _ I hq) fun u s1 ⟨x, H1, I1, rx, d, es, ep, kvs, M, ex, hd, t, tr, q⟩ => ?_)
  subst ex
  obtain rfl : u = Value.ref d := rx
  obtain ⟨hm, hl0, hs0⟩ := rawD_raw I1 hd
  have I2 : Inv X pins σ H1 { s1 with heap := s1.heap.push { cls := .type "dict_items", data := .fields #[.ref d] } } := I1.kept (t' := s1.toks) fun b ob q => Heap.get?_push_of_some _ q
  refine ⟨hm.typeIs, raw_noDict hm, ?_⟩
  show wpAny _ _ (callWith cpos (.builtin "dict.items") [.ref d] [] []) _ X.xe s1
  refine method_meetsIn F.slot_dict_items F.entry_dict_items rfl (PySem.evalArgs_none ⟨rfl, hm.typeIs, F.args_dict_items_1 _, _, meets_dict_items_raw d hs0, ⟨es, ep, hm⟩, ?_⟩)
  refine Calls.spliced_nil ?_
  refine call_tupleItems (es := es) (ep := ep) (I1.ok.hd hc) ⟨_, Heap.get?_push_size _ rfl, rfl, rfl⟩ (hm.at fun o e => Heap.get?_push_of_some _ e) hl0 fun h' tk as hk hl hG => ?_
  have nd : as.Nodup := List.Pairwise.imp (fun {a b} (h : a < b) => Nat.ne_of_lt h) hG.rise
  have I3 : Inv X pins σ H1 { s1 with heap := h', toks := tk } := I2.kept (t' := tk) hk
  obtain ⟨H2, I4, g, q2, t2⟩ := takeE (h' := h') (tk := tk) I2 as es.toList kvs H1 I3 nd (fun a ha => ⟨Nat.le_of_lt (hG.above a ha), I2.hok.fresh (Nat.le_of_lt (hG.above a ha))⟩) (paired_of (by simpa using hl) fun j a e => by
    obtain ⟨en, e1, e2⟩ := hG.pairs j a e
    exact ⟨en, by rw [Array.getElem?_toList]; exact e1, e2⟩) t tr
  have fS : H2 h'.objs.size = none := I4.hok.fresh (Nat.le_refl _)
  have I5 := I4.laid (h' := h'.push { cls := .type "tuple", data := .seq (as.map Value.ref).toArray }) (t' := tk) (a := h'.objs.size) (o := .tup (as.map V.ref)) (fun b o e => Heap.get?_push_of_some _ e) (Nat.le_refl _)
    (show ObjOk X.prog X.w _ _ _ (.tup (as.map V.ref)) from ⟨by rw [List.length_map]; omega, as.map Value.ref, LiI.vals_refs as, IsTup.new _ _⟩)
  exact ⟨.ref _, _, I5, rfl, q H2 _ _ g fS t2⟩
def dItL (d : Den Rv) : Den Rv := fun ρ => (d ρ).bind fun x => (dctR x.2 x.1).map fun kvs => (ownL (pairsD kvs), x.2)
def dItT (d : Den Rv) : Den Rv := fun ρ => (d ρ).bind fun x => (dctR x.2 x.1).map fun kvs => (.val (.leaf (.tup (pairsD kvs))), x.2)
theorem de_itL {d : Den Rv} (hc : X.calm = true) (he : DE cl X e d) (hg : Gl X "list") (hm : X.mg "list" = none) (hbase : attributeBase e "items" X.env (eval e X.env) = eval e X.env := by rfl) (hline : (apos.endLine == cpos.line) = true := by rfl)
    (hs : starEach [.Call (.Attribute e "items" apos) [] [] cpos] X.env = (false, eval (.Call (.Attribute e "items" apos) [] [] cpos) X.env) :: starEach [] X.env := by rfl) :
    DE cl X (.Call (.Name "list" p) [.Call (.Attribute e "items" apos) [] [] cpos] [] pos) (dItL d) := pe_imp (pe_itL (cl := cl) hc he hg hm hbase hline hs) fun σ H Q ⟨M, ρ, f, rv, ρ', rs, hd, k⟩ => by
  obtain ⟨⟨x, ρ1⟩, h1, hd⟩ := Option.bind_eq_some_iff.mp hd
  obtain ⟨kvs, h2, hd⟩ := Option.map_eq_some_iff.mp hd
  cases hd
  refine ⟨M, ρ, f, x, _, rs, h1, fun v M1 H1 f1 fw rs1 ok1 st1 => ?_⟩
  obtain ⟨a, es, ep, e1, e2, e3, e4⟩ := ok1.dct rs1 h2
  refine ⟨a, es, ep, kvs, M1, e1, e2, e3, rs1.trk, fun H2 q xs g nq t => ?_⟩
  obtain ⟨r2, s2⟩ := rs1.grow g
  obtain ⟨r4, ok4, s4⟩ := fin_lst (H0 := H) r2 nq ((st1.trans rs.trk s2).back nq) t
  exact k _ _ _ _ _ r4 ok4 ((st1.trans rs.trk s2).trans rs.trk s4)
theorem de_itT {d : Den Rv} (hc : X.calm = true) (he : DE cl X e d) (hg : Gl X "tuple") (hm : X.mg "tuple" = none) (hbase : attributeBase e "items" X.env (eval e X.env) = eval e X.env := by rfl) (hline : (apos.endLine == cpos.line) = true := by rfl)
    (hs : starEach [.Call (.Attribute e "items" apos) [] [] cpos] X.env = (false, eval (.Call (.Attribute e "items" apos) [] [] cpos) X.env) :: starEach [] X.env := by rfl) :
    DE cl X (.Call (.Name "tuple" p) [.Call (.Attribute e "items" apos) [] [] cpos] [] pos) (dItT d) := pe_imp (pe_itT (cl := cl) hc he hg hm hbase hline hs) fun σ H Q ⟨M, ρ, f, rv, ρ', rs, hd, k⟩ => by
  obtain ⟨⟨x, ρ1⟩, h1, hd⟩ := Option.bind_eq_some_iff.mp hd
  obtain ⟨kvs, h2, hd⟩ := Option.map_eq_some_iff.mp hd
  cases hd
  refine ⟨M, ρ, f, x, _, rs, h1, fun v M1 H1 f1 fw rs1 ok1 st1 => ?_⟩
  obtain ⟨a, es, ep, e1, e2, e3, e4⟩ := ok1.dct rs1 h2
  refine ⟨a, es, ep, kvs, M1, e1, e2, e3, rs1.trk, fun H2 q xs g nq t => ?_⟩
  obtain ⟨r2, s2⟩ := rs1.grow g
  obtain ⟨r4, is4, s4⟩ := fin_tup r2 nq t
  exact k _ _ _ _ [] r4 (rvB is4) ((st1.trans rs.trk s2).trans rs.trk s4)
end
end Ws
set_option Elab.async false
set_option linter.all false
set_option maxRecDepth 100000
set_option maxHeartbeats 4000000
/-! Ws40: sorted of lists and tuples of tuples of ints of any lengths. -/
namespace Ws
open PySem PySem.Spec PyProof.Rows L2
def lexI : List Int → List Int → Bool
  | [], [] => false
  | [], _ :: _ => true
  | _ :: _, [] => false
  | a :: as, b :: bs => if a = b then lexI as bs else decide (a < b)
theorem lexI_asym : ∀ x y, lexI x y = true → lexI y x = false
  | [], [], h => nomatch h
  | [], _ :: _, _ => rfl
  | _ :: _, [], h => nomatch h
  | a :: as, b :: bs, h => by
    unfold lexI at h ⊢
    by_cases e : a = b
    · rw [if_pos e] at h
      rw [if_pos e.symm]
      exact lexI_asym as bs h
    · rw [if_neg e] at h
      rw [if_neg (Ne.symm e)]
      have := of_decide_eq_true h
      exact decide_eq_false (by omega)
theorem lexI_tr : ∀ x y z, lexI y x = false → lexI z y = false → lexI z x = false
  | [], y, [], _, _ => rfl
  | [], [], _ :: _, _, h => by simp [lexI]
  | [], _ :: _, _ :: _, h, _ => by simp [lexI]
  | _ :: _, [], _, h, _ => nomatch h
  | a :: as, b :: bs, [], h, h2 => nomatch h2
  | a :: as, b :: bs, c :: cs, h, h2 => by
    unfold lexI at h h2 ⊢
    by_cases e : b = a
    · rw [if_pos e] at h
      by_cases e2 : c = b
      · rw [if_pos e2] at h2
        rw [if_pos (e2.trans e)]
        exact lexI_tr as bs cs h h2
      · rw [if_neg e2] at h2
        have := of_decide_eq_false h2
        rw [if_neg (by omega)]
        exact decide_eq_false (by omega)
    · rw [if_neg e] at h
      have h' := of_decide_eq_false h
      by_cases e2 : c = b
      · rw [if_neg (by omega)]
        exact decide_eq_false (by omega)
      · rw [if_neg e2] at h2
        have := of_decide_eq_false h2
        rw [if_neg (by omega)]
        exact decide_eq_false (by omega)
theorem lexI_tot : ∀ x y, lexI x y = false → lexI y x = false → x = y
  | [], [], _, _ => rfl
  | [], _ :: _, h, _ => nomatch h
  | _ :: _, [], _, h => nomatch h
  | a :: as, b :: bs, h, h2 => by
    unfold lexI at h h2
    by_cases e : a = b
    · rw [if_pos e] at h
      rw [if_pos e.symm] at h2
      rw [e, lexI_tot as bs h h2]
    · rw [if_neg e] at h
      rw [if_neg (Ne.symm e)] at h2
      have := of_decide_eq_false h
      have := of_decide_eq_false h2
      omega
theorem swoI : SrtO.Swo lexI := ⟨lexI_asym, lexI_tr⟩
def insI (x : List Int) : List (List Int) → List (List Int)
  | [] => [x]
  | y :: r => if lexI y x = true then y :: insI x r else x :: y :: r
def sortI : List (List Int) → List (List Int)
  | [] => []
  | x :: r => insI x (sortI r)
theorem insI_perm (x : List Int) : ∀ l, (insI x l).Perm (x :: l)
  | [] => .refl _
  | y :: r => by
    unfold insI
    split
    · exact ((insI_perm x r).cons y).trans (.swap _ _ _)
    · exact .refl _
theorem insI_srt (x : List Int) : ∀ l, SrtO.Srtd lexI l → SrtO.Srtd lexI (insI x l)
  | [], _ => List.pairwise_singleton _ _
  | y :: r, h => by
    have h' := List.pairwise_cons.mp h
    unfold insI
    split
    · rename_i e
      refine List.pairwise_cons.mpr ⟨fun z hz => ?_, insI_srt x r h'.2⟩
      rcases List.mem_cons.mp ((insI_perm x r).mem_iff.mp hz) with q | q
      · rw [q]; exact lexI_asym _ _ e
      · exact h'.1 z q
    · rename_i e
      have e' : lexI y x = false := by simpa using e
      refine List.pairwise_cons.mpr ⟨fun z hz => ?_, h⟩
      rcases List.mem_cons.mp hz with q | q
      · rw [q]; exact e'
      · exact lexI_tr x y z e' (h'.1 z q)
theorem sortI_perm : ∀ l, (sortI l).Perm l
  | [] => .refl _
  | x :: r => (insI_perm x _).trans ((sortI_perm r).cons x)
theorem sortI_srt : ∀ l, SrtO.Srtd lexI (sortI l)
  | [] => .nil
  | x :: r => insI_srt x _ (sortI_srt r)
theorem srtd_uniq : ∀ {l m : List (List Int)}, SrtO.Srtd lexI l → SrtO.Srtd lexI m → l.Perm m → l = m
  | [], m, _, _, p => (List.Perm.eq_nil p.symm).symm
  | x :: l, [], _, _, p => absurd p.length_eq (by simp)
  | x :: l, y :: m, hl, hm, p => by
    have e : x = y := by
      refine lexI_tot x y ?_ ?_
      · rcases List.mem_cons.mp (p.mem_iff.mp (List.mem_cons_self (a := x) (l := l))) with e | hx
        · rw [e]; exact swoI.refl y
        · exact (List.pairwise_cons.mp hm).1 x hx
      · rcases List.mem_cons.mp (p.mem_iff.mpr (List.mem_cons_self (a := y) (l := m))) with e | hy
        · rw [e]; exact swoI.refl x
        · exact (List.pairwise_cons.mp hl).1 y hy
    subst e
    rw [srtd_uniq (List.pairwise_cons.mp hl).2 (List.pairwise_cons.mp hm).2 p.cons_inv]
theorem sortI_uniq {l m : List (List Int)} (h : SrtO.Srtd lexI l) (p : l.Perm m) : l = sortI m := srtd_uniq h (sortI_srt m) (p.trans (sortI_perm m).symm)
section
variable {prog : Program} {w : World} {A : Around} {E : Value → Shared → Prop} {s : Shared}
theorem lex_any {b fin : Bool} {Q : Bool → Shared → Prop} {xs ys : List Value} {ns ms : List Int} (i : Nat) (hx : IntsAre xs ns) (hy : IntsAre ys ms) (hf : fin = decide (ns.length < ms.length))
    (h : Q (lexI ns ms) s) : PySem.W.KatLex prog w A b fin Q (xs.zip ys) i s := by
  induction hx generalizing ys ms i with
  | nil =>
    cases hy with
    | nil => subst hf; exact PySem.W.kat_nil h
    | cons q u hy => subst hf; exact PySem.W.kat_nil (by simpa [lexI] using h)
  | @cons p t xs ns hx ih =>
    cases hy with
    | nil => subst hf; exact PySem.W.kat_nil (by simpa [lexI] using h)
    | @cons q u ys ms hy =>
      have hf' : fin = decide (ns.length < ms.length) := by rw [hf]; simp
      show PySem.W.KatLex prog w A b fin Q ((Value.int p t, Value.int q u) :: xs.zip ys) i s
      refine PySem.W.kat_cons (wpAny_eqBool_int ?_)
      by_cases e : p = q
      · subst e
        rw [beq_self_eq_true]
        unfold lexI at h
        rw [if_pos rfl] at h
        refine PySem.W.kat_yes ?_
        first
          | exact ih (i + 1) hy hf' h
          | exact ih _ _ (i + 1) hy hf' h
      · rw [show (p == q) = false from beq_eq_false_iff_ne.mpr e]
        unfold lexI at h
        rw [if_neg e] at h
        exact PySem.W.kat_no (TS.oneLt_ints _ h)
theorem tups_cmp {vs : List Value} {k : Value → List Int} (hp : ∀ v ∈ vs, TS.TupInts s.heap v (k v)) : SrtO.Cmp prog w A s (tuples' true) (fun p => p.1 ∈ vs) (SrtO.lt2 fun v u => lexI (k v) (k u)) := by
  intro p q hm hm'
  obtain ⟨a, xs, e1, ⟨o, ho, hc, n, hd⟩, i1⟩ := hp _ hm
  obtain ⟨a', ys, e2, ⟨o', ho', hc', n', hd'⟩, i2⟩ := hp _ hm'
  show wpAny (model prog w) A (keyLt' (tuples' true) p.1 q.1) (fun r s' => s' = s ∧ r = lexI (k p.1) (k q.1)) (fun _ _ => False) s
  generalize k p.1 = ns at i1 ⊢
  generalize k q.1 = ms at i2 ⊢
  rw [e1, e2]
  refine PySem.W.kat_lt ho hd ho' hd' ?_
  refine lex_any 0 i1 i2 ?_ ⟨rfl, rfl⟩
  have l1 := i1.length
  have l2 := i2.length
  rw [Array.length_toList] at l1 l2
  rw [l1, l2]
theorem firsts_ofI {h : Heap} {k : Value → List Int} : ∀ vs : List Value, (∀ v ∈ vs, TS.TupInts h v (k v) ∧ k v ≠ []) → ∃ fs, PySem.W.KatTups h vs fs ∧ fs.length = vs.length ∧ ∀ f, f ∈ fs → ∃ n t, f = Value.int n t
  | [], _ => ⟨[], PySem.W.KatTups.nil, rfl, fun f hf => by simp at hf⟩
  | v :: vs, x => by
    obtain ⟨fs, kk, hl, hi⟩ := firsts_ofI vs fun u hu => x u (List.mem_cons_of_mem _ hu)
    obtain ⟨⟨a, xs, e0, ⟨o, ho, hc, n, hdt⟩, i⟩, hn⟩ := x v List.mem_cons_self
    obtain ⟨y, ys, e⟩ : ∃ y ys, xs.toList = y :: ys := by
      cases q : xs.toList with
      | nil =>
        rw [q] at i
        have l := i.length
        rw [List.length_nil] at l
        exact absurd (List.eq_nil_of_length_eq_zero l.symm) hn
      | cons y ys => exact ⟨y, ys, rfl⟩
    obtain ⟨m, t, hy⟩ := i.all y (by rw [e]; exact List.mem_cons_self ..)
    rw [e0]
    refine ⟨y :: fs, PySem.W.KatTups.cons ho hc hdt ?_ kk, by simp [hl], ?_⟩
    · have z := congrArg (fun l : List Value => l[0]?) e
      simpa using z
    · intro f hf
      rcases List.mem_cons.mp hf with rfl | hf
      · exact ⟨m, t, hy⟩
      · exact hi f hf
theorem tups_sortableO {a : Addr} {vs : List Value} {k : Value → List Int} (h0 : 0 < vs.length) (hp : ∀ v ∈ vs, TS.TupInts s.heap v (k v) ∧ k v ≠ []) (ha : ∀ o, s.heap.get? a = some o → o.cls ≠ .type "tuple") : SrtO.SortableO prog w A s a vs fun v u => lexI (k v) (k u) := by
  intro h' keep
  have hp' : ∀ v ∈ vs, TS.TupInts h' v (k v) ∧ k v ≠ [] := fun v hm => ⟨(hp v hm).1.keeps fun b o e c => keep b o (fun z => by subst z; exact ha o e c) e, (hp v hm).2⟩
  obtain ⟨fs, h1, h2, h3⟩ := firsts_ofI vs hp'
  refine ⟨tuples' true, fun Q E hq => ?_, tups_cmp fun v hm => (hp' v hm).1⟩
  refine PySem.W.kat_kind (T := .type "int") h1 (by omega) (fun f hm => ?_) (by rfl) ?_
  · obtain ⟨x, t, rfl⟩ := h3 f hm
    exact PySem.W.Looks.of_pure rfl
  · have e : (Value.type "int" != Value.type "tuple") = true := by first | decide +kernel | rfl | decide
    rw [e]
    exact hq
theorem swo_key (k : Value → List Int) : SrtO.Swo fun v u => lexI (k v) (k u) := ⟨fun x y => lexI_asym _ _, fun x y z => lexI_tr _ _ _⟩
theorem sorted_seqV {l : Addr} {o : Obj} {T : String} {vs : List Value} {n : Nat} {k : Value → List Int} {Q : Value → Shared → Prop} (hT : T = "list" ∨ T = "tuple") (ho : s.heap.get? l = some o) (hc : o.cls = .type T) (hd : o.data = .seq vs.toArray n) (hz : vs.length ≤ sizeLine) (hp : ∀ v ∈ vs, TS.TupInts s.heap v (k v) ∧ k v ≠ [])
    (h : ∀ (h1 h' : Heap) (out : List Value), SrtO.Srtd (fun v u => lexI (k v) (k u)) out → out.Perm vs → (∀ b o, s.heap.get? b = some o → h1.get? b = some o) → (∀ b o, h1.get? b = some o → h'.get? b = some o) → (∃ n, h'.get? h1.objs.size = some (seqObj "list" out.toArray n)) → Q (.ref h1.objs.size) { s with heap := h' }) :
    wpAny (model prog w) A (call (.builtin "sorted") [.ref l]) Q E s := by
  refine Calls.call_function_entry kind_sorted plain_sorted entry_sorted (args_sorted1 _) ?_
  unfold Builtin.«sorted»
  refine wpAny_bind (m := checkCount "sorted" 1 1 _) (wpAny_pure ?_)
  refine wpAny_bind (wpAny_collect_seq l hT ho hc hd (fun h1 k1 => ?_) (by rw [List.size_toArray]; exact hz))
  refine wpAny_bind (wpAny_newList ?_ (by simpa using hz))
  have hoL : (h1.push (seqObj "list" vs.toArray 0)).get? h1.objs.size = some (seqObj "list" vs.toArray 0) := Heap.get?_push_size _ rfl
  have keep : ∀ b o, s.heap.get? b = some o → b ≠ h1.objs.size ∧ (h1.push (seqObj "list" vs.toArray 0)).get? b = some o := fun b o q => ⟨Nat.ne_of_lt (Heap.lt_size (k1 b o q)), Heap.get?_push_of_some _ (k1 b o q)⟩
  show wpAny _ _ _ _ _ { s with heap := h1.push (seqObj "list" vs.toArray 0) }
  refine wpAny_bind (wpAny_holding (wpAny_call_entry slot_list_sort ⟨_, hoL, rfl⟩ entry_list_sort (SrtO.list_sort_ord (swo_key k) hoL hz (fun h2 => tups_sortableO (by omega) (fun v hm => ⟨(hp v hm).1.keeps fun b o e _ => (keep b o e).2, (hp v hm).2⟩) fun o e => ?_) fun out hs hb => ⟨_, rfl, ?_⟩) (args_list_sort _)))
  · have e' : some o = some (seqObj "list" vs.toArray 0) := e.symm.trans hoL
    cases e'
    intro c
    exact absurd (Value.type.inj c) (by decide)
  · refine wpAny_pure ⟨_, rfl, h h1 _ out hs hb.perm k1 (fun b o e => ?_) (sortedHeap_at hoL)⟩
    have lt := Heap.lt_size e
    exact (sortedHeap_old (Nat.ne_of_lt lt) (by rw [size_push']; exact Nat.lt_succ_of_lt lt)).trans (Heap.get?_push_of_some _ e)
end
section
variable {P : Program} {w : World} {K : PySem.W.Frag} {cl : Nat → Addr} {M : Addr → Prop} {H : Hp} {h : Heap}
def mkTup (ns : List Int) : D := .tup (ns.map .int)
/-- tuples of one int at least -/
def asTups : List D → Option (List (List Int))
  | [] => some []
  | d :: r => match d with
    | .tup xs => (asInts xs).bind fun ns => if ns = [] then Option.none else (asTups r).map (ns :: ·)
    | _ => Option.none
theorem asInts_eq : ∀ {ds : List D} {ns : List Int}, asInts ds = some ns → ds = ns.map .int
  | [], ns, e => by cases e; rfl
  | .int i :: ds, ns, e => by
    obtain ⟨ms, h1, h2⟩ := Option.map_eq_some_iff.mp (show (asInts ds).map (i :: ·) = some ns from e)
    subst h2
    rw [asInts_eq h1]
    rfl
  | .none :: _, _, e => nomatch e
  | .bool _ :: _, _, e => nomatch e
  | .str _ :: _, _, e => nomatch e
  | .tup _ :: _, _, e => nomatch e
  | .lst _ :: _, _, e => nomatch e
  | .dct _ :: _, _, e => nomatch e
  | .obj _ _ :: _, _, e => nomatch e
  | .exc _ _ :: _, _, e => nomatch e
  | .scr _ :: _, _, e => nomatch e
theorem tups_of (hok : HOk P w H h) (hK : K.In h) : ∀ {ds : List D} {ys : List V} {its : List Value} {nss : List (List Int)}, asTups ds = some nss → IsL w K cl M H ys ds → Vals ys its →
    its.map (TS.intsOf h) = nss ∧ ∀ v ∈ its, (TS.TupInts h v (TS.intsOf h v) ∧ TS.intsOf h v ≠ []) ∧ (∃ b, v = Value.ref b) ∧ Is w K cl M H (backV v) (mkTup (TS.intsOf h v))
  | [], ys, its, nss, e, t, rv => by
    cases e
    cases t
    cases rv
    exact ⟨rfl, fun v hv => nomatch hv⟩
  | d :: ds, ys, its, nss, e, t, rv => by
    simp only [asTups] at e
    split at e
    · rename_i xs
      obtain ⟨ns, e1, e⟩ := Option.bind_eq_some_iff.mp e
      split at e
      · cases e
      · rename_i hne
        obtain ⟨mss, e2, e3⟩ := Option.map_eq_some_iff.mp e
        subst e3
        cases t with
        | cons ia ta =>
          cases rv with
          | cons ra rr =>
            rename_i yv ys' u us
            obtain ⟨q1, q2⟩ := tups_of hok hK e2 ta rr
            obtain ⟨b, its2, xs2, eu, ht, rv2, t2⟩ := is_tupAt hok hK ia ra
            have ei := ints_is t2 e1
            subst ei
            have ti : TS.TupInts h u ns := ⟨b, its2.toArray, eu, ht, by simpa using RZ.intsAre_vals rv2⟩
            have en := ti.ints
            refine ⟨by rw [List.map_cons, q1, en], fun v hv => ?_⟩
            rcases List.mem_cons.mp hv with z | z
            · subst z
              refine ⟨⟨by rw [en]; exact ti, by rw [en]; exact hne⟩, ⟨b, eu⟩, ?_⟩
              rw [en, mkTup, ← asInts_eq e1]
              have : yv = backV v := by
                subst eu
                exact (show yv = V.ref b from RelV.inj ra (show RelV (V.ref b) (Value.ref b) from rfl))
              rw [← this]
              exact ia
            · exact q2 v z
    · cases e
end
section
variable {cl : Nat → Addr} {X : Cx} {e : Expr} {pos p : Pos} {d : Den Rv}
def rSortTI (w : World) (K : PySem.W.Frag) (cl : Nat → Addr) : List V → Hp → VK → Prop := fun vs H Q => ∃ (a : Addr) (ys : List V) (M : Addr → Prop) (ds : List D) (nss : List (List Int)), vs = [.ref a] ∧ (SqL K H a ys ∨ SqT K H a ys) ∧ IsL w K cl M H ys ds ∧ asTups ds = some nss ∧
  ∀ p ys', H p = Option.none → IsL w K cl M H ys' ((sortI nss).map mkTup) → Q (.ref p) (upd H p (.lst ys'))
theorem isL_back {w : World} {K : PySem.W.Frag} {M : Addr → Prop} {H : Hp} {k : Value → List Int} : ∀ {out : List Value}, (∀ v ∈ out, Is w K cl M H (backV v) (mkTup (k v))) → IsL w K cl M H (out.map backV) ((out.map k).map mkTup)
  | [], _ => .nil
  | v :: out, h => .cons (h v List.mem_cons_self) (isL_back fun u hu => h u (List.mem_cons_of_mem _ hu))
theorem call_sortTI : CallR X (.builtin "sorted") (rSortTI X.w X.K cl) := by
  intro pins s σ H vs us Q I r h
  obtain ⟨a, ys, M, ds, nss, rfl, hs, t, et, q⟩ := h
  obtain ⟨u, rfl, ru⟩ := vals1 r
  obtain rfl : u = Value.ref a := ru
  have key : ∀ (its : List Value) (T : String) (o : Obj) (n : Nat), (T = "list" ∨ T = "tuple") → s.heap.get? a = some o → o.cls = .type T → o.data = .seq its.toArray n → Vals ys its → ys.length ≤ sizeLine → wpAny (model X.prog X.w) X.A (call (.builtin "sorted") [.ref a]) (EP X pins σ Q) X.xe s := by
    intro its T o n hT ho hc hd rv hz
    obtain ⟨e1, e2⟩ := tups_of I.hok I.kIn et t rv
    have lr := rv.length
    refine sorted_seqV (k := TS.intsOf s.heap) hT ho hc hd (by omega) (fun v hv => (e2 v hv).1) fun h1 h' out s1 s2 k1 k2 hn => ?_
    obtain ⟨n', hn⟩ := hn
    have hin : ∀ v ∈ out, v ∈ its := fun v hv => s2.mem_iff.mp hv
    have I1 : Inv X pins σ H { s with heap := h1 } := I.kept (t' := s.toks) k1
    have nf : H h1.objs.size = none := I1.hok.fresh (Nat.le_refl _)
    have es : out.map (TS.intsOf s.heap) = sortI nss := by
      rw [← e1]
      exact sortI_uniq (SrtO.srtd_map s1) (s2.map _)
    refine ⟨.ref h1.objs.size, _, I1.laid (t' := s.toks) (a := h1.objs.size) (o := .lst (out.map backV)) k2 (Nat.le_refl _) ⟨?_, out, n', vals_back fun u hu => (e2 u (hin u hu)).2.1, hn⟩, rfl, q _ _ nf ?_⟩
    · rw [List.length_map, s2.length_eq]
      omega
    · rw [← es]
      exact isL_back fun v hv => (e2 v (hin v hv)).2.2
  rcases hs with hs | hs
  · obtain ⟨its, rv, pl, hz⟩ := I.list hs
    obtain ⟨o, n, ho, hc, hd, hdat⟩ := pl
    exact key its "list" o n (.inl rfl) ho hc hdat rv hz
  · obtain ⟨its, rv, pl, hz⟩ := I.tuple hs
    obtain ⟨o, ho, hc, n, hd⟩ := pl
    exact key its "tuple" o n (.inr rfl) ho hc hd rv hz
def dSorted (d : Den Rv) : Den Rv := fun ρ => (d ρ).bind fun x => (itemsR x.2 x.1).bind fun q => (asTups q.2).map fun nss => (ownL ((sortI nss).map mkTup), x.2)
theorem de_sorted (hg : Gl X "sorted") (hm : X.mg "sorted" = none) (ha : DE cl X e d) (he : starEach [e] X.env = (false, eval e X.env) :: starEach [] X.env := by rfl) (hpl : (backTo pos (starEach [] X.env)).any (·.1) = false := by rfl) : DE cl X (.Call (.Name "sorted" p) [e] [] pos) (dSorted d) :=
  pe_imp (pe_callB (call_sortTI (cl := cl)) hg hm (by decide +kernel) (pa_cons ha pa_nil he) (by decide) (by decide) he hpl) fun σ H Q ⟨M, ρ, f, rv, ρ', rs, hd, k⟩ => by
    obtain ⟨⟨x, ρ1⟩, h1, hd⟩ := Option.bind_eq_some_iff.mp hd
    obtain ⟨⟨b, ds⟩, h2, hd⟩ := Option.bind_eq_some_iff.mp hd
    obtain ⟨nss, h3, hd⟩ := Option.map_eq_some_iff.mp hd
    cases hd
    refine ⟨M, ρ, f, x, _, rs, h1, fun v M1 H1 f1 fw rs1 ok1 st1 => ?_⟩
    obtain ⟨a, xs, e1, e2, e3⟩ := ok1.items rs1 h2
    refine ⟨a, xs, M1, ds, nss, by rw [e1], ?_, e3, h3, fun l ys' nl t => ?_⟩
    · cases b
      · exact .inr e2
      · exact .inl e2
    · obtain ⟨r4, ok4, s4⟩ := fin_lst rs1 nl (st1.back nl) t
      exact k _ _ _ _ _ r4 ok4 (st1.trans rs.trk s4)
end
end Ws
set_option Elab.async false
set_option linter.all false
set_option maxRecDepth 100000
set_option maxHeartbeats 4000000
/-! Ws41: zip of two tuples walked into one name. -/
namespace Ws
open PySem PySem.Spec PyProof.Rows L2
abbrev IsZipF (h : Heap) (z TI TO : Addr) (f0 : Value) (f1 : Bool) : Prop :=
  h.get? z = some { cls := .type "zip", dict := none, data := .fields #[f0, .bool f1, .bool false, .ref TI, .ref TO], slots := #[] }
def Owned (f0 : Value) : Prop := f0 = .none ∨ ∃ T : Nat, f0 = rawInt T
section
variable {prog : Program} {w : World} {A : Around} {E : Value → Shared → Prop} {s : Shared}
theorem alive_any {a : Addr} {Q : Option Obj → Shared → Prop} (h : Q (s.heap.get? a) s) : wpAny (model prog w) A (loadIfAlive a) Q E s := fun _ _ _ => h
theorem zipF_free {z TI TO : Addr} {f0 : Value} {f1 : Bool} {Q : Bool → Shared → Prop} (hz : IsZipF s.heap z TI TO f0 f1) (ho : Owned f0) (h1 : Q true s) (h2 : ∀ h', IsZipF h' z TI TO f0 true → Heap.SameBut z s.heap h' → Q false { s with heap := h' }) :
    wpAny (model prog w) A (Builtin.SmallTypes.ownedTupleIsFree (.ref z)) Q E s := by
  unfold Builtin.SmallTypes.ownedTupleIsFree
  rcases ho with rfl | ⟨T, rfl⟩
  · refine wpAny_bind (wpAny_field hz rfl (x := .none) rfl (wpAny_pure h1))
  · refine wpAny_bind (wpAny_field hz rfl (x := rawInt T) rfl ?_)
    show wpAny _ _ (loadIfAlive ((T : Int).toNat) >>= _) _ _ _
    refine wpAny_bind (alive_any ?_)
    cases hT : s.heap.get? ((T : Int).toNat) with
    | none =>
      simp only [Option.isNone_none, if_true]
      exact wpAny_pure h1
    | some o =>
      simp only [Option.isNone_some, Bool.false_eq_true, if_false]
      refine wpAny_bind (wpAny_field hz rfl (x := .bool f1) rfl ?_)
      cases f1 with
      | true =>
        rw [if_neg (show ¬ ((Value.bool true != Value.bool true) = true) from Bool.false_ne_true)]
        exact wpAny_pure (h2 _ hz (Heap.SameBut.refl _ _))
      | false =>
        rw [if_pos (show (Value.bool false != Value.bool true) = true from rfl)]
        refine wpAny_bind (wpAny_setField_rec hz (by simp) fun h₃ he₃ hs₃ => ?_)
        replace he₃ : IsZipF h₃ z TI TO (rawInt T) true := he₃
        exact wpAny_pure (h2 _ he₃ hs₃)
theorem zipF_next_item {z TI TO i1 i2 l1 l2 : Addr} {k1 k2 : Nat} {f0 : Value} {f1 : Bool} {xs ys : Array Value} {x y a b : Value} {Q : Value → Shared → Prop} (D : ZipApart z TI TO i1 i2 l1 l2)
    (hz : IsZipF s.heap z TI TO f0 f1) (ow : Owned f0) (hTI : IsPair s.heap TI (.ref i1) (.ref i2)) (hTO : IsPair s.heap TO a b)
    (h1 : s.heap.IsTupleIter i1 l1 k1) (h2 : s.heap.IsTupleIter i2 l2 k2) (hl1 : s.heap.IsTuple l1 xs) (hl2 : s.heap.IsTuple l2 ys) (hx : xs[k1]? = some x) (hy : ys[k2]? = some y)
    (hQ : ∀ h', (∃ f0 f1, IsZipF h' z TI TO f0 f1 ∧ Owned f0) → (∃ a b, IsPair h' TO a b) → h'.IsTupleIter i1 l1 (k1 + 1) → h'.IsTupleIter i2 l2 (k2 + 1) → IsPair h' s.heap.objs.size x y → h'.objs.size = s.heap.objs.size + 1 →
      (∀ c o, c ≠ z → c ≠ TO → c ≠ i1 → c ≠ i2 → s.heap.get? c = some o → h'.get? c = some o) → Q (.ref s.heap.objs.size) { s with heap := h' }) :
    wpAny (model prog w) A (Builtin.«zip.__next__» ⟨[.ref z], []⟩) (fun fin s' => ∃ v, fin = .done (.ret v) ∧ Q v s') E s := by
  show wpAny _ _ (field (.ref z) 2 >>= _) _ _ _
  refine wpAny_bind (wpAny_field hz rfl (x := .bool false) rfl ?_)
  show wpAny _ _ (field (.ref z) 3 >>= _) _ _ _
  refine wpAny_bind (wpAny_field hz rfl (x := .ref TI) rfl ?_)
  refine wpAny_bind (wpAny_seqItems hTI rfl ?_)
  show wpAny _ _ (Builtin.SmallTypes.ownedTupleIsFree (.ref z) >>= _) _ _ _
  refine wpAny_bind (zipF_free hz ow ?_ fun h₁ hz₁ hs₁ => ?_)
  · simp only [if_true]
    refine wpAny_bind (wpAny_rule ?_)
    refine wpAny_bind (wpAny_field hz rfl (x := .ref TO) rfl ?_)
    refine wpAny_bind (wpAny_setField_rec hz (by simp) fun h₁ hz₁ hs₁ => ?_)
    replace hz₁ : IsZipF h₁ z TI TO .ellipsis f1 := hz₁
    refine wpAny_bind ?_
    simp only [List.zipIdx_cons, List.zipIdx_nil, List.forIn_cons, List.forIn_nil]
    refine wpAny_bind (wpAny_bind (wpAny_onRaise ?_))
    show wpAny _ _ (Builtin.SmallTypes.nextOf (.ref i1) >>= _) _ _ _
    refine wpAny_bind (RZ.nextOf_tuple_item (h1.extBut hs₁.extBut D.i1z) (hl1.extBut hs₁.extBut D.l1z) hx fun h₂ h1₂ hs₂ => wpAny_pure ?_)
    have hTO₂ : IsPair h₂ TO a b := hs₂.extBut _ _ D.TOi1 (hs₁.extBut _ _ D.TOz hTO)
    refine wpAny_bind (wpAny_seqItems hTO₂ rfl ?_)
    refine wpAny_bind (wpAny_updateSeq_pair hTO₂ fun h₃ hTO₃ hs₃ => ?_)
    replace hTO₃ : IsPair h₃ TO x b := hTO₃
    refine wpAny_bind (wpAny_letGo (wpAny_pure ?_))
    refine wpAny_bind (wpAny_bind (wpAny_onRaise ?_))
    show wpAny _ _ (Builtin.SmallTypes.nextOf (.ref i2) >>= _) _ _ _
    refine wpAny_bind (RZ.nextOf_tuple_item (((h2.extBut hs₁.extBut D.i2z).extBut hs₂.extBut D.i12.symm).extBut hs₃.extBut D.TOi2.symm)
      (((hl2.extBut hs₁.extBut D.l2z).extBut hs₂.extBut D.l2i1).extBut hs₃.extBut D.l2TO) hy fun h₄ h2₄ hs₄ => wpAny_pure ?_)
    have hTO₄ : IsPair h₄ TO x b := hs₄.extBut _ _ D.TOi2 hTO₃
    refine wpAny_bind (wpAny_seqItems hTO₄ rfl ?_)
    refine wpAny_bind (wpAny_updateSeq_pair hTO₄ fun h₅ hTO₅ hs₅ => ?_)
    replace hTO₅ : IsPair h₅ TO x y := hTO₅
    refine wpAny_bind (wpAny_letGo (wpAny_pure (wpAny_pure ?_)))
    refine wpAny_bind (wpAny_seqItems hTO₅ rfl ?_)
    refine wpAny_bind (wpAny_newTuple ?_)
    have hsz : h₅.objs.size = s.heap.objs.size := by rw [hs₅.1, hs₄.1, hs₃.1, hs₂.1, hs₁.1]
    have hz₅ : IsZipF h₅ z TI TO .ellipsis f1 := hs₅.extBut _ _ D.TOz.symm (hs₄.extBut _ _ D.i2z.symm (hs₃.extBut _ _ D.TOz.symm (hs₂.extBut _ _ D.i1z.symm hz₁)))
    have hk₅ : ∀ c o, c ≠ z → c ≠ TO → c ≠ i1 → c ≠ i2 → s.heap.get? c = some o → h₅.get? c = some o := fun c o c1 c2 c3 c4 e =>
      hs₅.extBut _ _ c2 (hs₄.extBut _ _ c4 (hs₃.extBut _ _ c2 (hs₂.extBut _ _ c3 (hs₁.extBut _ _ c1 e))))
    have h1₅ : h₅.IsTupleIter i1 l1 (k1 + 1) := ((h1₂.extBut hs₃.extBut D.TOi1.symm).extBut hs₄.extBut D.i12).extBut hs₅.extBut D.TOi1.symm
    have h2₅ : h₅.IsTupleIter i2 l2 (k2 + 1) := h2₄.extBut hs₅.extBut D.TOi2.symm
    have hzlt : z < h₅.objs.size := Heap.lt_size hz₅
    show wpAny _ _ (Builtin.SmallTypes.ownedTupleHandOut (.ref z) (.ref h₅.objs.size) >>= _) _ _ _
    refine wpAny_bind ?_
    unfold Builtin.SmallTypes.ownedTupleHandOut
    have hz₆ : IsZipF (h₅.push { cls := .type "tuple", data := .seq #[x, y] }) z TI TO .ellipsis f1 := Heap.get?_push_of_some _ hz₅
    refine wpAny_bind (wpAny_setField_rec hz₆ (by simp) fun h₇ hz₇ hs₇ => ?_)
    replace hz₇ : IsZipF h₇ z TI TO (rawInt h₅.objs.size) f1 := hz₇
    refine wpAny_setField_rec hz₇ (by simp) fun h₈ hz₈ hs₈ => ?_
    replace hz₈ : IsZipF h₈ z TI TO (rawInt h₅.objs.size) false := hz₈
    have up : ∀ c o, c ≠ z → h₅.get? c = some o → h₈.get? c = some o := fun c o c1 e => hs₈.extBut _ _ c1 (hs₇.extBut _ _ c1 (Heap.get?_push_of_some _ e))
    have hT₈ : IsPair h₈ h₅.objs.size x y := hs₈.extBut _ _ (Nat.ne_of_gt hzlt) (hs₇.extBut _ _ (Nat.ne_of_gt hzlt) (Heap.get?_push_size _ rfl))
    have hz8 : h₈.objs.size = h₅.objs.size + 1 := by rw [hs₈.1, hs₇.1, Heap.size_push]
    rw [hsz] at hz₈ hT₈ hz8
    refine wpAny_pure ⟨_, rfl, ?_⟩
    show Q (.ref h₅.objs.size) _
    rw [hsz]
    exact hQ h₈ ⟨_, _, hz₈, .inr ⟨_, rfl⟩⟩ ⟨_, _, up _ _ D.TOz hTO₅⟩ (h1₅.at fun o e => up _ o D.i1z e) (h2₅.at fun o e => up _ o D.i2z e) hT₈ hz8 fun c o c1 c2 c3 c4 e => up c o c1 (hk₅ c o c1 c2 c3 c4 e)
  · simp only [Bool.false_eq_true, if_false]
    refine wpAny_bind ?_
    rw [← Array.forIn_toList]
    simp only [List.forIn_cons, List.forIn_nil]
    refine wpAny_bind (wpAny_bind (wpAny_holding ?_))
    show wpAny _ _ (Builtin.SmallTypes.nextOf (.ref i1) >>= _) _ _ _
    refine wpAny_bind (RZ.nextOf_tuple_item (h1.extBut hs₁.extBut D.i1z) (hl1.extBut hs₁.extBut D.l1z) hx fun h₂ h1₂ hs₂ => wpAny_pure (wpAny_pure ?_))
    refine wpAny_bind (wpAny_bind (wpAny_holding ?_))
    show wpAny _ _ (Builtin.SmallTypes.nextOf (.ref i2) >>= _) _ _ _
    refine wpAny_bind (RZ.nextOf_tuple_item ((h2.extBut hs₁.extBut D.i2z).extBut hs₂.extBut D.i12.symm)
      ((hl2.extBut hs₁.extBut D.l2z).extBut hs₂.extBut D.l2i1) hy fun h₄ h2₄ hs₄ => wpAny_pure (wpAny_pure (wpAny_pure ?_)))
    have hsz : h₄.objs.size = s.heap.objs.size := by rw [hs₄.1, hs₂.1, hs₁.1]
    show wpAny _ _ (newTuple [x, y] >>= _) _ _ _
    refine wpAny_bind (wpAny_newTuple ?_)
    refine wpAny_pure ⟨_, rfl, ?_⟩
    show Q (.ref h₄.objs.size) _
    rw [hsz]
    have up : ∀ c o, h₄.get? c = some o → (h₄.push { cls := .type "tuple", data := .seq #[x, y] }).get? c = some o := fun c o e => Heap.get?_push_of_some _ e
    have hz₄ : IsZipF h₄ z TI TO f0 true := hs₄.extBut _ _ D.i2z.symm (hs₂.extBut _ _ D.i1z.symm hz₁)
    refine hQ (h₄.push { cls := .type "tuple", data := .seq #[x, y] }) ⟨_, _, up _ _ hz₄, ow⟩ ⟨a, b, up _ _ (hs₄.extBut _ _ D.TOi2 (hs₂.extBut _ _ D.TOi1 (hs₁.extBut _ _ D.TOz hTO)))⟩ ((h1₂.extBut hs₄.extBut D.i12).at fun o e => up _ o e) (h2₄.at fun o e => up _ o e) ?_ (by rw [Heap.size_push, hsz]) fun c o c1 c2 c3 c4 e => up c o (hs₄.extBut _ _ c4 (hs₂.extBut _ _ c3 (hs₁.extBut _ _ c1 e)))
    rw [← hsz]
    exact Heap.get?_push_size _ rfl
end
end Ws
set_option Elab.async false
set_option linter.all false
set_option maxRecDepth 100000
set_option maxHeartbeats 4000000
/-! Ws42: zip of two tuples walked into one name: the walk. -/
namespace Ws
open PySem PySem.Spec PyProof.Rows L2
section
variable {prog : Program} {w : World} {A : Around} {E : Value → Shared → Prop} {s : Shared}
theorem zipF_next_end {z TI TO i1 i2 l1 l2 : Addr} {k1 k2 : Nat} {f0 : Value} {f1 : Bool} {xs ys : Array Value} {a b : Value} {Q : PySem.Fin → Shared → Prop} (hh : A.handled = none) (D : ZipApart z TI TO i1 i2 l1 l2)
    (hz : IsZipF s.heap z TI TO f0 f1) (ow : Owned f0) (hTI : IsPair s.heap TI (.ref i1) (.ref i2)) (hTO : IsPair s.heap TO a b)
    (h1 : s.heap.IsTupleIter i1 l1 k1) (h2 : s.heap.IsTupleIter i2 l2 k2) (hl1 : s.heap.IsTuple l1 xs) (hl2 : s.heap.IsTuple l2 ys) (hend : xs[k1]? = none ∨ ys[k2]? = none)
    (hE : ∀ h' e, (∀ c o, c ≠ z → c ≠ TO → c ≠ i1 → c ≠ i2 → s.heap.get? c = some o → h'.get? c = some o) → (∃ o, h'.get? e = some o ∧ o.cls = .type "StopIteration") → E (.ref e) { s with heap := h' }) :
    wpAny (model prog w) A (Builtin.«zip.__next__» ⟨[.ref z], []⟩) Q E s := by
  show wpAny _ _ (field (.ref z) 2 >>= _) _ _ _
  refine wpAny_bind (wpAny_field hz rfl (x := .bool false) rfl ?_)
  show wpAny _ _ (field (.ref z) 3 >>= _) _ _ _
  refine wpAny_bind (wpAny_field hz rfl (x := .ref TI) rfl ?_)
  refine wpAny_bind (wpAny_seqItems hTI rfl ?_)
  show wpAny _ _ (Builtin.SmallTypes.ownedTupleIsFree (.ref z) >>= _) _ _ _
  refine wpAny_bind (zipF_free hz ow ?_ fun h₁ hz₁ hs₁ => ?_)
  · simp only [if_true]
    refine wpAny_bind (wpAny_rule ?_)
    refine wpAny_bind (wpAny_field hz rfl (x := .ref TO) rfl ?_)
    refine wpAny_bind (wpAny_setField_rec hz (by simp) fun h₁ hz₁ hs₁ => ?_)
    replace hz₁ : IsZipF h₁ z TI TO .ellipsis f1 := hz₁
    refine wpAny_bind ?_
    simp only [List.zipIdx_cons, List.zipIdx_nil, List.forIn_cons, List.forIn_nil]
    refine wpAny_bind (wpAny_bind (wpAny_onRaise ?_))
    show wpAny _ _ (Builtin.SmallTypes.nextOf (.ref i1) >>= _) _ _ _
    cases hx : xs[k1]? with
    | none =>
      refine wpAny_bind (RZ.nextOf_tuple_end hh (h1.extBut hs₁.extBut D.i1z) (hl1.extBut hs₁.extBut D.l1z) hx fun h₂ e hs₂ he => ?_)
      obtain ⟨oe, hoe, hce⟩ := he
      have hz₂ : IsZipF h₂ z TI TO .ellipsis f1 := hs₂ _ _ D.i1z.symm hz₁
      have hez : e ≠ z := fun x => by subst x; rw [hz₂] at hoe; cases hoe; simp at hce
      refine wpAny_setField_rec hz₂ (by simp) fun h₃ _ hs₃ => hE h₃ e (fun c o c1 _ c3 _ x => hs₃.extBut _ _ c1 (hs₂ _ _ c3 (hs₁.extBut _ _ c1 x))) ⟨oe, hs₃.extBut _ _ hez hoe, hce⟩
    | some x =>
      have hy : ys[k2]? = none := by rcases hend with h | h; rw [hx] at h; cases h; exact h
      refine wpAny_bind (RZ.nextOf_tuple_item (h1.extBut hs₁.extBut D.i1z) (hl1.extBut hs₁.extBut D.l1z) hx fun h₂ h1₂ hs₂ => wpAny_pure ?_)
      have hTO₂ : IsPair h₂ TO a b := hs₂.extBut _ _ D.TOi1 (hs₁.extBut _ _ D.TOz hTO)
      refine wpAny_bind (wpAny_seqItems hTO₂ rfl ?_)
      refine wpAny_bind (wpAny_updateSeq_pair hTO₂ fun h₃ hTO₃ hs₃ => ?_)
      refine wpAny_bind (wpAny_letGo (wpAny_pure ?_))
      refine wpAny_bind (wpAny_bind (wpAny_onRaise ?_))
      show wpAny _ _ (Builtin.SmallTypes.nextOf (.ref i2) >>= _) _ _ _
      refine wpAny_bind (RZ.nextOf_tuple_end hh (((h2.extBut hs₁.extBut D.i2z).extBut hs₂.extBut D.i12.symm).extBut hs₃.extBut D.TOi2.symm)
        (((hl2.extBut hs₁.extBut D.l2z).extBut hs₂.extBut D.l2i1).extBut hs₃.extBut D.l2TO) hy fun h₄ e hs₄ he => ?_)
      obtain ⟨oe, hoe, hce⟩ := he
      have hz₄ : IsZipF h₄ z TI TO .ellipsis f1 := hs₄ _ _ D.i2z.symm (hs₃.extBut _ _ D.TOz.symm (hs₂.extBut _ _ D.i1z.symm hz₁))
      have hez : e ≠ z := fun x => by subst x; rw [hz₄] at hoe; cases hoe; simp at hce
      refine wpAny_setField_rec hz₄ (by simp) fun h₅ _ hs₅ => hE h₅ e (fun c o c1 c2 c3 c4 x => hs₅.extBut _ _ c1 (hs₄ _ _ c4 (hs₃.extBut _ _ c2 (hs₂.extBut _ _ c3 (hs₁.extBut _ _ c1 x))))) ⟨oe, hs₅.extBut _ _ hez hoe, hce⟩
  · simp only [Bool.false_eq_true, if_false]
    refine wpAny_bind ?_
    rw [← Array.forIn_toList]
    simp only [List.forIn_cons, List.forIn_nil]
    refine wpAny_bind (wpAny_bind (wpAny_holding ?_))
    show wpAny _ _ (Builtin.SmallTypes.nextOf (.ref i1) >>= _) _ _ _
    cases hx : xs[k1]? with
    | none =>
      refine wpAny_bind (RZ.nextOf_tuple_end hh (h1.extBut hs₁.extBut D.i1z) (hl1.extBut hs₁.extBut D.l1z) hx fun h₂ e hs₂ he => ?_)
      exact hE h₂ e (fun c o c1 _ c3 _ x => hs₂ _ _ c3 (hs₁.extBut _ _ c1 x)) he
    | some x =>
      have hy : ys[k2]? = none := by rcases hend with h | h; rw [hx] at h; cases h; exact h
      refine wpAny_bind (RZ.nextOf_tuple_item (h1.extBut hs₁.extBut D.i1z) (hl1.extBut hs₁.extBut D.l1z) hx fun h₂ h1₂ hs₂ => wpAny_pure (wpAny_pure ?_))
      refine wpAny_bind (wpAny_bind (wpAny_holding ?_))
      show wpAny _ _ (Builtin.SmallTypes.nextOf (.ref i2) >>= _) _ _ _
      refine wpAny_bind (RZ.nextOf_tuple_end hh ((h2.extBut hs₁.extBut D.i2z).extBut hs₂.extBut D.i12.symm)
        ((hl2.extBut hs₁.extBut D.l2z).extBut hs₂.extBut D.l2i1) hy fun h₄ e hs₄ he => ?_)
      exact hE h₄ e (fun c o c1 c2 c3 c4 x => hs₄ _ _ c4 (hs₂.extBut _ _ c3 (hs₁.extBut _ _ c1 x))) he
theorem pyNext_zipF_item {z TI TO i1 i2 l1 l2 : Addr} {k1 k2 : Nat} {f0 : Value} {f1 : Bool} {xs ys : Array Value} {x y a b : Value} {Q : Option Value → Shared → Prop} (D : ZipApart z TI TO i1 i2 l1 l2)
    (hz : IsZipF s.heap z TI TO f0 f1) (ow : Owned f0) (hTI : IsPair s.heap TI (.ref i1) (.ref i2)) (hTO : IsPair s.heap TO a b)
    (h1 : s.heap.IsTupleIter i1 l1 k1) (h2 : s.heap.IsTupleIter i2 l2 k2) (hl1 : s.heap.IsTuple l1 xs) (hl2 : s.heap.IsTuple l2 ys) (hx : xs[k1]? = some x) (hy : ys[k2]? = some y)
    (hQ : ∀ h', (∃ f0 f1, IsZipF h' z TI TO f0 f1 ∧ Owned f0) → (∃ a b, IsPair h' TO a b) → h'.IsTupleIter i1 l1 (k1 + 1) → h'.IsTupleIter i2 l2 (k2 + 1) → IsPair h' s.heap.objs.size x y → h'.objs.size = s.heap.objs.size + 1 →
      (∀ c o, c ≠ z → c ≠ TO → c ≠ i1 → c ≠ i2 → s.heap.get? c = some o → h'.get? c = some o) → Q (some (.ref s.heap.objs.size)) { s with heap := h' }) :
    wpAny (model prog w) A (pyNext (.ref z)) Q E s := by
  have hT : s.TypeIs (.ref z) "zip" := ⟨_, hz, rfl⟩
  unfold pyNext
  exact wpAny_bind (wpAny_attempt (wpAny_callSpecial?_slot (name := Str.ofString "__next__") hT F.slot_zip_next
    (wpAny_call_entry F.slot_zip_next hT F.entry_zip_next
      (zipF_next_item D hz ow hTI hTO h1 h2 hl1 hl2 hx hy fun h' a1 a2 a3 a4 a5 a6 a7 => wpAny_pure (hQ h' a1 a2 a3 a4 a5 a6 a7)) (F.args_zip_next_1 _))))
theorem pyNext_zipF_end {z TI TO i1 i2 l1 l2 : Addr} {k1 k2 : Nat} {f0 : Value} {f1 : Bool} {xs ys : Array Value} {a b : Value} {Q : Option Value → Shared → Prop} (hh : A.handled = none) (D : ZipApart z TI TO i1 i2 l1 l2)
    (hz : IsZipF s.heap z TI TO f0 f1) (ow : Owned f0) (hTI : IsPair s.heap TI (.ref i1) (.ref i2)) (hTO : IsPair s.heap TO a b)
    (h1 : s.heap.IsTupleIter i1 l1 k1) (h2 : s.heap.IsTupleIter i2 l2 k2) (hl1 : s.heap.IsTuple l1 xs) (hl2 : s.heap.IsTuple l2 ys) (hend : xs[k1]? = none ∨ ys[k2]? = none)
    (hQ : ∀ h', (∀ c o, c ≠ z → c ≠ TO → c ≠ i1 → c ≠ i2 → s.heap.get? c = some o → h'.get? c = some o) → Q none { s with heap := h' }) : wpAny (model prog w) A (pyNext (.ref z)) Q E s := by
  have hT : s.TypeIs (.ref z) "zip" := ⟨_, hz, rfl⟩
  unfold pyNext
  refine wpAny_bind (wpAny_attempt (wpAny_callSpecial?_slot (name := Str.ofString "__next__") hT F.slot_zip_next
    (wpAny_call_entry F.slot_zip_next hT F.entry_zip_next (zipF_next_end hh D hz ow hTI hTO h1 h2 hl1 hl2 hend fun h' e hk he => ?_) (F.args_zip_next_1 _))))
  obtain ⟨o, ho, hc⟩ := he
  refine wpAny_bind (wpAny_isInstance (T := "StopIteration") (b := true) ⟨o, ho, hc⟩ isSubtype_stop ?_)
  exact wpAny_pure (hQ _ hk)
theorem pyIter_zipF {z TI TO : Addr} {f0 : Value} {f1 : Bool} {Q : Value → Shared → Prop} (hz : IsZipF s.heap z TI TO f0 f1) (h : Q (.ref z) s) : wpAny (model prog w) A (pyIter (.ref z)) Q E s := by
  have hT : s.TypeIs (.ref z) "zip" := ⟨_, hz, rfl⟩
  refine wpAny_pyIter_slot hT F.slot_zip_iter (wpAny_call_entry F.slot_zip_iter hT F.entry_zip_iter ?_ (F.args_zip_iter_1 _))
  show wpAny _ _ (ret (.ref z)) _ _ s
  exact wpAny_pure ⟨_, rfl, "zip", _, hT, F.slot_zip_next.lookup, h⟩
end
theorem turn_zipN {P : Program} {w : World} {K : PySem.W.Frag} {x : Str} {np : Pos} {a b z TI TO i1 i2 : Addr} (D : ZipApart z TI TO i1 i2 a b) :
    Turn P w K (.Name x np) (RZ.ItzT K a b) [z, TI, TO, i1, i2] z (fun i h => (∃ f0 f1, IsZipF h z TI TO f0 f1 ∧ Owned f0) ∧ IsPair h TI (.ref i1) (.ref i2) ∧ (∃ x y, IsPair h TO x y) ∧ h.IsTupleIter i1 a i ∧ h.IsTupleIter i2 b i) where
  mem := by simp
  obj := fun i h st c hc => by
    obtain ⟨⟨f0, f1, hz, _⟩, hTI, ⟨x, y, hTO⟩, ⟨o1, e1, _, d1⟩, ⟨o2, e2, _, d2⟩⟩ := st
    have e' : c = z ∨ c = TI ∨ c = TO ∨ c = i1 ∨ c = i2 := by simpa using hc
    rcases e' with q | q | q | q | q
    · rw [q]; exact ⟨_, hz, fun v q => nomatch q⟩
    · rw [q]; exact ⟨_, hTI, fun v q => nomatch q⟩
    · rw [q]; exact ⟨_, hTO, fun v q => nomatch q⟩
    · rw [q]; exact ⟨o1, e1, fun v q => by rw [d1] at q; cases q⟩
    · rw [q]; exact ⟨o2, e2, fun v q => by rw [d2] at q; cases q⟩
  keep := fun i h h' st k => by
    obtain ⟨⟨f0, f1, hz, ow⟩, hTI, ⟨x, y, hTO⟩, h1, h2⟩ := st
    exact ⟨⟨f0, f1, k z (by simp) _ hz, ow⟩, k TI (by simp) _ hTI, ⟨x, y, k TO (by simp) _ hTO⟩, h1.at fun o q => k i1 (by simp) o q, h2.at fun o q => k i2 (by simp) o q⟩
  item := by
    intro X hP hw hK hc i pins s σ H E I hf st hg
    subst hP hw hK
    obtain ⟨⟨f0, f1, hz, ow⟩, hTI, ⟨x0, y0, hTO⟩, h1, h2⟩ := st
    obtain ⟨xs, ys, x, y, hqx, hqy, hx, hy⟩ := hg
    obtain ⟨its, rv, p, _⟩ := I.tuple hqx
    obtain ⟨its2, rv2, p2, _⟩ := I.tuple hqy
    obtain ⟨u, hu, ru⟩ := rv.get hx
    obtain ⟨u2, hu2, ru2⟩ := rv2.get hy
    have hzl : z < s.heap.objs.size := Heap.lt_size hz
    refine pyNext_zipF_item D hz ow hTI hTO h1 h2 p p2 (x := u) (y := u2) (by simpa using hu) (by simpa using hu2) fun h' z' TO' h1' h2' hT hsz hk => ?_
    refine ⟨_, rfl, ?_⟩
    show wpAny _ _ (pure ()) _ _ _
    refine wpAny_pure ?_
    have new : ObjOk X.prog X.w (upd H s.heap.objs.size (.tup [x, y])) h' s.heap.objs.size (.tup [x, y]) :=
      ⟨by show 2 ≤ sizeLine; decide, [u, u2], .cons ru (.cons ru2 .nil), ⟨_, hT, rfl, _, rfl⟩⟩
    have I1 : Inv X pins σ (upd H s.heap.objs.size (.tup [x, y])) { s with heap := h' } :=
      I.turnedNew (t' := s.toks) (ch := [z, TI, TO, i1, i2]) (fun c o hb q => hk c o (fun q' => hb (by simp [q'])) (fun q' => hb (by simp [q'])) (fun q' => hb (by simp [q'])) (fun q' => hb (by simp [q'])) q) hf (Nat.le_refl _) new
    refine ⟨.ref s.heap.objs.size, _, I1, rfl, ⟨_, x, y, rfl, I.hok.fresh (Nat.le_refl _), rfl, fun l hl => by rw [I.tuple_inj hl hqx]; exact hx, fun l hl => by rw [I.tuple_inj hl hqy]; exact hy⟩, ⟨z', ?_, TO', h1', h2'⟩, fun c hcm => ?_⟩
    · exact hk _ _ D.TIz D.TITO D.TIi1 D.TIi2 hTI
    · have hlt : c < s.heap.objs.size := by
        have e' : c = z ∨ c = TI ∨ c = TO ∨ c = i1 ∨ c = i2 := by simpa using hcm
        rcases e' with q | q | q | q | q
        · rw [q]; exact hzl
        · rw [q]; exact Heap.lt_size hTI
        · rw [q]; exact Heap.lt_size hTO
        · rw [q]; obtain ⟨_, e1, _⟩ := h1; exact Heap.lt_size e1
        · rw [q]; obtain ⟨_, e2, _⟩ := h2; exact Heap.lt_size e2
      rw [upd_ne (Nat.ne_of_lt hlt)]
      exact (hf c hcm).1
  done := by
    intro X hP hw hK hc i pins s σ H E I hf st hg
    subst hP hw hK
    obtain ⟨⟨f0, f1, hz, ow⟩, hTI, ⟨x0, y0, hTO⟩, h1, h2⟩ := st
    obtain ⟨xs, ys, hqx, hqy, hend⟩ := hg
    obtain ⟨its, rv, p, _⟩ := I.tuple hqx
    obtain ⟨its2, rv2, p2, _⟩ := I.tuple hqy
    have l1 := rv.length
    have l2 := rv2.length
    have he : its.toArray[i]? = none ∨ its2.toArray[i]? = none := by
      rcases hend with q | q
      · exact .inl (by simp; omega)
      · exact .inr (by simp; omega)
    exact pyNext_zipF_end (I.ok.hd hc) D hz ow hTI hTO h1 h2 p p2 he fun h' hk => ⟨rfl, I.turnedL (t' := s.toks) (ch := [z, TI, TO, i1, i2]) (fun c o hb q =>
      hk c o (fun q' => hb (by simp [q'])) (fun q' => hb (by simp [q'])) (fun q' => hb (by simp [q'])) (fun q' => hb (by simp [q'])) q) hf⟩
  self := fun A i s Q E st h => let ⟨⟨_, _, hz, _⟩, _⟩ := st; pyIter_zipF hz h
def iZipN (K : PySem.W.Frag) (ta : TA) : TI := fun σ H R => ta σ H fun vs H1 => ∃ a b xs ys, vs = [.ref a, .ref b] ∧ SqT K H1 a xs ∧ SqT K H1 b ys ∧ R (RZ.ItzT K a b) H1
theorem pi_zipN {X : Cx} {e e2 : Expr} {ta : TA} {p pos np : Pos} {x : Str} (hg : Gl X "zip") (hm : X.mg "zip" = none) (ha : PA X [e, e2] ta)
    (hs : starEach [e, e2] X.env = (false, eval e X.env) :: starEach [e2] X.env := by rfl) (hpl : (backTo pos (starEach [e2] X.env)).any (·.1) = false := by rfl) :
    PI X (.Name x np) (.Call (.Name "zip" p) [e, e2] [] pos) (iZipN X.K ta) := by
  refine ⟨fun pins s σ H R I h => ?_⟩
  refine Call_ (ld_blt I hg hm PyProof.Rows.boot_zip (PyProof.Rows.callWith_type1 (thn (ha.run pos pins s σ H _ I h) fun us s1 ⟨vs, H1, I1, r1, q1⟩ => ?_) hs hpl))
  obtain ⟨a, b, xs, ys, ex, hqx, hqy, q⟩ := q1
  subst ex
  cases r1 with
  | cons r rr =>
    cases rr with
    | cons r' rr =>
      cases rr
      cases r
      cases r'
      have fresh5 : ∀ c, c ∈ [s1.heap.objs.size + 4, s1.heap.objs.size + 2, s1.heap.objs.size + 3, s1.heap.objs.size, s1.heap.objs.size + 1] → FpOk X pins H1 c := fun c hcm => by
        have e' : c = s1.heap.objs.size + 4 ∨ c = s1.heap.objs.size + 2 ∨ c = s1.heap.objs.size + 3 ∨ c = s1.heap.objs.size ∨ c = s1.heap.objs.size + 1 := by simpa using hcm
        have hle : s1.heap.objs.size ≤ c := by
          rcases e' with z | z | z | z | z
          · rw [z]; exact Nat.le_add_right _ _
          · rw [z]; exact Nat.le_add_right _ _
          · rw [z]; exact Nat.le_add_right _ _
          · rw [z]; exact Nat.le_refl _
          · rw [z]; exact Nat.le_add_right _ _
        exact I1.fpOk hle (I1.hok.fresh hle)
      obtain ⟨its, rv, p1, _⟩ := I1.tuple hqx
      obtain ⟨its2, rv2, p2, _⟩ := I1.tuple hqy
      obtain ⟨o1, ho1, _⟩ := id p1
      obtain ⟨o2, ho2, _⟩ := id p2
      refine RZ.call_zipT (show s1.heap.IsTuple a its.toArray from p1) (show s1.heap.IsTuple b its2.toArray from p2) fun h' hz hTI hTO h1 h2 hsz hk => wpAny_pyIter_zip hz ?_
      have I2 : Inv X pins σ H1 { s1 with heap := h' } := I1.kept (t' := s1.toks) hk
      exact ⟨s1.heap.objs.size + 4, [s1.heap.objs.size + 4, s1.heap.objs.size + 2, s1.heap.objs.size + 3, s1.heap.objs.size, s1.heap.objs.size + 1], _, _, H1, rfl, I2, turn_zipN (PySem.W.ktu_apart s1.heap.objs.size a b (Heap.lt_size ho1) (Heap.lt_size ho2)), ⟨⟨_, _, hz, .inl rfl⟩, hTI, ⟨_, _, hTO⟩, h1, h2⟩, fresh5, q⟩
section
variable {cl : Nat → Addr} {X : Cx} {pos p np : Pos} {e e2 : Expr} {x : Str}
def dIZipN (d : Den (List D)) : Den (List D) := fun ρ => (d ρ).bind fun r => match r.1 with
  | [.tup xs, .tup ys] => some (zipD xs ys, r.2)
  | _ => Option.none
theorem di_zipN {d : Den (List D)} (hg : Gl X "zip") (hm : X.mg "zip" = none) (ha : DA cl X [e, e2] d) (hs : starEach [e, e2] X.env = (false, eval e X.env) :: starEach [e2] X.env := by rfl) (hpl : (backTo pos (starEach [e2] X.env)).any (·.1) = false := by rfl) :
    DI cl X (.Name x np) (.Call (.Name "zip" p) [e, e2] [] pos) (dIZipN d) := pi_imp (pi_zipN hg hm ha hs hpl) fun σ H R ⟨M, ρ, f, ds, ρ', rs, hd, k⟩ => by
  obtain ⟨⟨x, ρ1⟩, h1, hd⟩ := Option.bind_eq_some_iff.mp hd
  dsimp only at hd
  split at hd
  · rename_i xs ys _
    cases hd
    refine ⟨M, ρ, f, _, _, rs, h1, fun vs M1 H1 f1 rs1 is1 st1 => ?_⟩
    cases is1 with
    | cons i1 t1 =>
      cases t1 with
      | cons i2 t2 =>
        cases t2
        obtain ⟨a, us, e1, q1, q2⟩ := sqt_of_is i1
        obtain ⟨b, ws, e2, q3, q4⟩ := sqt_of_is i2
        subst e1 e2
        exact ⟨a, b, us, ws, rfl, q2 _ _ Ext.refl, q4 _ _ Ext.refl, k _ M1 H1 f1 rs1 st1 (iter_pairs rfl (walk_zipT rfl) (fun M H e => ⟨q2 M H e, q4 M H e⟩) q1 q3)⟩
  · cases hd
end
end Ws
set_option Elab.async false
set_option linter.all false
set_option maxRecDepth 100000
set_option maxHeartbeats 4000000
/-! Ws43: isinstance of built-in types, `is True`. -/
namespace Ws
open PySem PySem.Spec PyProof.Rows L2
def tyD : D → Option String
  | .none => some "NoneType"
  | .bool _ => some "bool"
  | .int _ => some "int"
  | .str _ => some "str"
  | .tup _ => some "tuple"
  | .lst _ => some "list"
  | .dct _ => some "dict"
  | .scr _ => some "list"
  | .obj _ _ => Option.none
  | .exc _ _ => Option.none
def subT (T t : String) : Bool := T == t || (T == "bool" && t == "int")
def tyNames : List String := ["NoneType", "bool", "int", "str", "tuple", "list", "dict"]
def isiB (t : String) : Bool := tyNames.all fun T => decide (kitB T t = some (subT T t))
theorem tyD_in {d : D} {T : String} (h : tyD d = some T) : T ∈ tyNames := by
  cases d <;> simp only [tyD, Option.some.injEq] at h <;> first | (subst h; simp [tyNames]) | cases h
theorem isi_one {K : PySem.W.Frag} {t T : String} (h : isiB t = true) (hT : T ∈ tyNames) : PySem.W.kitOne K (.type T) (.type t) = some (subT T t) := kit_ty (of_decide_eq_true (List.all_eq_true.mp h T hT))
theorem isi_any {K : PySem.W.Frag} {T : String} (hT : T ∈ tyNames) : ∀ {ts : List String}, (∀ t ∈ ts, isiB t = true) → PySem.W.kitAny K (.type T) (ts.map .type) = some (ts.any fun t => subT T t)
  | [], _ => rfl
  | t :: ts, h => by
    rw [List.map_cons, List.any_cons]
    refine kitAny_cons (isi_one (h t List.mem_cons_self) hT) (fun e => ?_) fun e => ?_
    · rw [e, Bool.false_or]
      exact isi_any hT fun u hu => h u (List.mem_cons_of_mem _ hu)
    · rw [e]; rfl
section
variable {X : Cx} {cl : Nat → Addr} {M : Addr → Prop} {pins : List (Addr × Obj)} {σ : L2.St} {H : Hp} {s : Shared}
theorem is_kit (I : Inv X pins σ H s) {v : V} {d : D} {u : Value} {T : String} (i : Is X.w X.K cl M H v d) (e : tyD d = some T) (r : RelV v u) : ∃ P : Heap → Prop, PySem.W.KitX X.K u (.type T) P ∧ P s.heap ∧ u ≠ .builtin "__main__.__loader__#opaque" := by
  cases i with
  | non => cases e; cases (show u = Value.none from r); exact ⟨_, PySem.W.kitx_none, True.intro, fun z => nomatch z⟩
  | bl y => cases e; cases (show u = Value.bool y from r); exact ⟨_, PySem.W.kitx_bool, True.intro, fun z => nomatch z⟩
  | int i => cases e; obtain ⟨t, q⟩ := (show ∃ t, u = Value.int i t from r); cases q; exact ⟨_, PySem.W.kitx_int, True.intro, fun z => nomatch z⟩
  | str y => cases e; obtain ⟨t, q⟩ := (show ∃ t, u = Value.str y t from r); cases q; exact ⟨_, PySem.W.kitx_str, True.intro, fun z => nomatch z⟩
  | tup h1 h2 h3 =>
    cases e
    obtain ⟨b, its, xs, eu, ht, _, _⟩ := is_tupAt I.hok I.kIn (Is.tup h1 h2 h3) r
    subst eu
    obtain ⟨o, a1, a2, _⟩ := ht
    exact ⟨_, PySem.W.kitx_tuple, ⟨o, a1, a2⟩, fun z => nomatch z⟩
  | @tupK a o its n xs ds h1 h2 h3 h4 h5 h6 =>
    cases e
    cases (show u = Value.ref a from r)
    exact ⟨_, PySem.W.kitx_tuple, ⟨o, I.kIn _ _ h1, h2⟩, fun z => nomatch z⟩
  | @lst a xs ds h1 h2 h3 =>
    cases e
    cases (show u = Value.ref a from r)
    obtain ⟨_, its, n, _, ho⟩ := I.hok a _ h1
    exact ⟨_, PySem.W.kitx_list, ⟨_, ho, rfl⟩, fun z => nomatch z⟩
  | @scr a o ns h1 h2 =>
    cases e
    cases (show u = Value.ref a from r)
    obtain ⟨_, _, its, n, _, ho⟩ := I.hok a _ h1
    exact ⟨_, PySem.W.kitx_list, ⟨_, ho, rfl⟩, fun z => nomatch z⟩
  | @scrK a o its n ns h1 h2 h3 h4 h5 h6 =>
    cases e
    cases (show u = Value.ref a from r)
    exact ⟨_, PySem.W.kitx_list, ⟨o, I.kIn _ _ h1, h2⟩, fun z => nomatch z⟩
  | @dct a es ep kvs h1 h2 h3 h4 =>
    cases e
    cases (show u = Value.ref a from r)
    obtain ⟨⟨o, ho, hx, _⟩, _, _⟩ := I.hok a _ h1
    exact ⟨_, PySem.W.kitx_dict, ⟨o, ho, hx.1⟩, fun z => nomatch z⟩
  | obj h1 h2 h3 => cases e
  | exc h1 h2 h3 h4 => cases e
end
section
variable {X : Cx} {cl : Nat → Addr}
def rIsi1 (w : World) (K : PySem.W.Frag) (cl : Nat → Addr) (t : String) : List V → Hp → VK → Prop := fun xs H Q => ∃ (x : V) (M : Addr → Prop) (d : D) (T : String), xs = [x, .ty t] ∧ Is w K cl M H x d ∧ tyD d = some T ∧ Q (.bl (subT T t)) H
def rIsiN (w : World) (K : PySem.W.Frag) (cl : Nat → Addr) (ts : List String) : List V → Hp → VK → Prop := fun xs H Q => ∃ (x : V) (tp : Addr) (M : Addr → Prop) (d : D) (T : String), xs = [x, .ref tp] ∧ H tp = some (.tup (ts.map .ty)) ∧ Is w K cl M H x d ∧ tyD d = some T ∧ Q (.bl (ts.any fun t => subT T t)) H
theorem call_isi1 {t : String} (ht : isiB t = true) : CallR X (.builtin "isinstance") (rIsi1 X.w X.K cl t) := by
  intro pins s σ H xs us Q I r h
  obtain ⟨x, M, d, T, rfl, i, e, q⟩ := h
  obtain ⟨u1, u2, rfl, r1, r2⟩ := vals2 r
  cases (show u2 = Value.type t from r2)
  obtain ⟨P, Z, p, hx⟩ := is_kit I i e r1
  exact PySem.W.kia_one Z I.kIn p (isi_one ht (tyD_in e)) hx fun tk => ⟨.bl (subT T t), H, I.tok tk, rfl, q⟩
theorem tys_vals : ∀ {ts : List String} {us : List Value}, Vals (ts.map V.ty) us → us = ts.map Value.type
  | [], us, r => by cases r; rfl
  | t :: ts, us, r => by
    rw [List.map_cons] at r
    cases r with
    | cons h k =>
      rw [tys_vals k]
      cases (show _ = Value.type t from h)
      rfl
theorem call_isiN {ts : List String} (ht : ∀ t ∈ ts, isiB t = true) : CallR X (.builtin "isinstance") (rIsiN X.w X.K cl ts) := by
  intro pins s σ H xs us Q I r h
  obtain ⟨x, tp, M, d, T, rfl, hT, i, e, q⟩ := h
  obtain ⟨u1, u2, rfl, r1, r2⟩ := vals2 r
  cases (show u2 = Value.ref tp from r2)
  obtain ⟨P, Z, p, hx⟩ := is_kit I i e r1
  obtain ⟨_, its, rv, o, h1, h2, n, h3⟩ := (show ObjOk X.prog X.w H s.heap tp (.tup (ts.map .ty)) from I.hok tp _ hT)
  have e3 := tys_vals rv
  subst e3
  obtain ⟨oc, od, dt, sl⟩ := o
  simp only at h2 h3
  subst h2 h3
  exact PySem.W.kia_tup Z I.kIn p h1 (isi_any (tyD_in e) ht) hx fun tk => ⟨.bl (ts.any fun t => subT T t), H, I.tok tk, rfl, q⟩
def gIsi (ts : List String) : D → Option D := fun d => (tyD d).map fun T => .bool (ts.any fun t => subT T t)
variable {e : Expr} {d : Den Rv} {pos p1 p2 p3 p4 : Pos} {k1 : Nat}
theorem de_isi {x : Str} {T : String} (ht : isiB T = true) (hI : Gl X "isinstance") (hmI : X.mg "isinstance" = none) (hx : Gl X x) (hmx : X.mg x = none) (hb : bootBuiltins x = some (.type T)) (he : DE cl X e d)
    (hn : x ≠ "__name__" := by decide) (hdx : (x == ("__debug__" : Str)) = false := by decide)
    (s1 : starEach [e, .Name x p2] X.env = (false, eval e X.env) :: starEach [.Name x p2] X.env := by rfl) (s2 : starEach [.Name x p2] X.env = (false, eval (.Name x p2) X.env) :: starEach [] X.env := by rfl) (hpl : (backTo pos (starEach [.Name x p2] X.env)).any (·.1) = false := by rfl) :
    DE cl X (.Call (.Name "isinstance" p1) [e, .Name x p2] [] pos) (dUn (gIsi [T]) d) :=
  pe_imp (pe_callB (call_isi1 (cl := cl) ht) hI hmI PyProof.Rows.Boot.«isinstance» (pa_cons he (pa_cons (pe_bltn (v := .ty T) hx hmx hb rfl hn hdx) pa_nil s2) s1) (by decide) (by decide) s1 hpl) fun σ H Q ⟨M, ρ, f, rv, ρ', rs, hd, k⟩ => by
    obtain ⟨⟨r, ρ1⟩, h1, hd⟩ := Option.bind_eq_some_iff.mp hd
    obtain ⟨y, h2, hd⟩ := Option.bind_eq_some_iff.mp hd
    obtain ⟨z, h3, hd⟩ := Option.bind_eq_some_iff.mp hd
    obtain ⟨sv', h4, hd⟩ := Option.bind_eq_some_iff.mp hd
    cases hd
    obtain ⟨T', h5, h6⟩ := Option.map_eq_some_iff.mp h3
    subst h6
    refine ⟨M, ρ, f, r, _, rs, h1, fun v M1 H1 f1 fw rs1 ok1 st1 => ⟨v, noM, y, T', rfl, ok1.view rs1 h2, h5, ?_⟩⟩
    have e1 : ([T].any fun t => subT T' t) = subT T' T := by simp
    rw [← e1]
    exact k _ M1 H1 f1 [] rs1 (rvB (.bl _)) st1
theorem de_isi2 {x y : Str} {T U : String} (ht : isiB T = true) (hu : isiB U = true) (hI : Gl X "isinstance") (hmI : X.mg "isinstance" = none) (hx : Gl X x) (hmx : X.mg x = none) (hb : bootBuiltins x = some (.type T)) (hy : Gl X y) (hmy : X.mg y = none) (hby : bootBuiltins y = some (.type U)) (he : DE cl X e d)
    (hn : x ≠ "__name__" := by decide) (hdx : (x == ("__debug__" : Str)) = false := by decide) (hn' : y ≠ "__name__" := by decide) (hdy : (y == ("__debug__" : Str)) = false := by decide)
    (s1 : starEach [e, .Tuple [.Name x p2, .Name y p3] k1 p4] X.env = (false, eval e X.env) :: starEach [.Tuple [.Name x p2, .Name y p3] k1 p4] X.env := by rfl)
    (s2 : starEach [.Tuple [.Name x p2, .Name y p3] k1 p4] X.env = (false, eval (.Tuple [.Name x p2, .Name y p3] k1 p4) X.env) :: starEach [] X.env := by rfl) (hpl : (backTo pos (starEach [.Tuple [.Name x p2, .Name y p3] k1 p4] X.env)).any (·.1) = false := by rfl)
    (s3 : starEach [.Name x p2, .Name y p3] X.env = (false, eval (.Name x p2) X.env) :: starEach [.Name y p3] X.env := by rfl) (s4 : starEach [.Name y p3] X.env = (false, eval (.Name y p3) X.env) :: starEach [] X.env := by rfl) :
    DE cl X (.Call (.Name "isinstance" p1) [e, .Tuple [.Name x p2, .Name y p3] k1 p4] [] pos) (dUn (gIsi [T, U]) d) :=
  pe_imp (pe_callB (call_isiN (cl := cl) (ts := [T, U]) (fun t h => by
      rcases List.mem_cons.mp h with h | h
      · rw [h]; exact ht
      · rw [show t = U by simpa using h]; exact hu)) hI hmI PyProof.Rows.Boot.«isinstance» (pa_cons he (pa_cons (pe_tup (pa_cons (pe_bltn (v := .ty T) hx hmx hb rfl hn hdx) (pa_cons (pe_bltn (v := .ty U) hy hmy hby rfl hn' hdy) pa_nil s4) s3)) pa_nil s2) s1) (by decide) (by decide) s1 hpl) fun σ H Q ⟨M, ρ, f, rv, ρ', rs, hd, k⟩ => by
    obtain ⟨⟨r, ρ1⟩, h1, hd⟩ := Option.bind_eq_some_iff.mp hd
    obtain ⟨y, h2, hd⟩ := Option.bind_eq_some_iff.mp hd
    obtain ⟨z, h3, hd⟩ := Option.bind_eq_some_iff.mp hd
    obtain ⟨sv', h4, hd⟩ := Option.bind_eq_some_iff.mp hd
    cases hd
    obtain ⟨T', h5, h6⟩ := Option.map_eq_some_iff.mp h3
    subst h6
    refine ⟨M, ρ, f, r, _, rs, h1, fun v M1 H1 f1 fw rs1 ok1 st1 => ?_⟩
    refine ⟨by show 2 ≤ sizeLine; decide, fun p np => ⟨v, p, noM, y, T', rfl, upd_same, (ok1.view rs1 h2).stay (ext_new np (fun a z => z.elim)), h5, ?_⟩⟩
    obtain ⟨r2, s2⟩ := rs1.new np (.tup [.ty T, .ty U])
    exact k _ M1 _ f1 [] r2 (rvB (.bl _)) (st1.trans rs.trk s2)
def gIsB (neg : Bool) : D → D → Option D := fun x y => match x, y with
  | .bool a, .bool b => some (.bool (if neg = true then !decide (a = b) else decide (a = b)))
  | _, _ => Option.none
theorem o_isB : OpR X (compareOp .Is) (rV2 X.w X.K cl (gIsB false)) :=
  opr_imp op_is_bl fun x y H Q ⟨dx, dy, r, v, hx, hy, e, s, q⟩ => by
    unfold gIsB at e
    split at e
    · cases e
      cases s
      exact ⟨_, _, is_bool hx, is_bool hy, q⟩
    · cases e
theorem o_notB : OpR X (compareOp .IsNot) (rV2 X.w X.K cl (gIsB true)) :=
  opr_imp op_isnot_bl fun x y H Q ⟨dx, dy, r, v, hx, hy, e, s, q⟩ => by
    unfold gIsB at e
    split at e
    · cases e
      cases s
      exact ⟨_, _, is_bool hx, is_bool hy, q⟩
    · cases e
end
theorem isi_int : isiB "int" = true := by kernel_rfl
theorem isi_bool : isiB "bool" = true := by kernel_rfl
theorem isi_str : isiB "str" = true := by kernel_rfl
theorem isi_tuple : isiB "tuple" = true := by kernel_rfl
theorem isi_list : isiB "list" = true := by kernel_rfl
theorem isi_dict : isiB "dict" = true := by kernel_rfl
end Ws
set_option Elab.async false
set_option linter.all false
set_option maxRecDepth 100000
set_option maxHeartbeats 4000000
/-! Ws44: calls of defs and classes by keywords. -/
namespace Ws
open PySem PySem.Spec PyProof.Rows L2
section
variable {w : World} {K : PySem.W.Frag} {cl : Nat → Addr} {M : Addr → Prop} {σ : L2.St} {H H0 : Hp} {f : Fp}
theorem RvsOk.snoc {rv : Rv} {v : V} {fw : List Addr} (k : RvOk w K cl M σ H f H0 rv v fw) : ∀ {rvs : List Rv} {vs : List V} {fws : List (List Addr)}, RvsOk w K cl M σ H f H0 rvs vs fws → (∀ l ∈ fws, ∀ a ∈ l, a ∉ fw) → RvsOk w K cl M σ H f H0 (rvs ++ [rv]) (vs ++ [v]) (fws ++ [fw])
  | _, _, _, .nil, _ => .cons k .nil fun _ _ _ h => nomatch h
  | _, _, _, .cons k' t d, h => .cons k' (RvsOk.snoc k t fun l hl => h l (List.mem_cons_of_mem _ hl)) fun a ha l hl => by
    rcases List.mem_append.mp hl with z | z
    · exact d a ha l z
    · have e : l = fw := by simpa using z
      rw [e]
      exact h _ List.mem_cons_self a ha
theorem RvsOk.reverse : ∀ {rvs : List Rv} {vs : List V} {fws : List (List Addr)}, RvsOk w K cl M σ H f H0 rvs vs fws → RvsOk w K cl M σ H f H0 rvs.reverse vs.reverse fws.reverse
  | _, _, _, .nil => .nil
  | _, _, _, .cons k t d => by
    simp only [List.reverse_cons]
    exact RvsOk.snoc k (RvsOk.reverse t) fun l hl a ha z => d a z l (by simpa using hl) ha
def revR (rev : Bool) (dr : Den (List Rv)) : Den (List Rv) := fun ρ => (dr ρ).map fun r => (revIf rev r.1, r.2)
theorem revR_imp {rev : Bool} {dr : Den (List Rv)} {Q : List V → Hp → Prop} (h : tRA w K cl (revR rev dr) σ H Q) : tRA w K cl dr σ H fun zs H1 => Q (revIf rev zs) H1 := by
  obtain ⟨M, ρ, f, rvs, ρ', rs, hd, k⟩ := h
  obtain ⟨⟨x, ρ1⟩, h1, hd⟩ := Option.map_eq_some_iff.mp hd
  cases hd
  refine ⟨M, ρ, f, x, _, rs, h1, fun vs M1 H1 f1 fws rs1 ok st => ?_⟩
  cases rev with
  | true => exact k _ M1 H1 f1 fws.reverse rs1 ok.reverse st
  | false => exact k _ M1 H1 f1 fws rs1 ok st
end
section
variable {c : Bool} {cl : Nat → Addr} {X : Cx} {CX : CXT} {k k' n j : Nat} {f C : Addr} {fd : FuncData} {ps ks : List Str} {sp : Sp} {E : XK} {x : Str} {p pos kpos : Pos} {e : Expr} {es : List Expr} {kws : List Keyword} {t tk : TA} {g : List Value → List Value → List Value} {gV : List V → List V → List V} {den : List W → Option (W × List W)} {rev : Bool} {d : Den Rv} {dr : Den (List Rv)} {nm : Option Str}
theorem run_fnGK {pins : List (Addr × Obj)} {σ : L2.St} {H : Hp} {s : Shared} {Q : VK} {us ws : List Value} {vs zs : List V} (F : FnOkG c X.prog X.w X.K X.mg X.base CX k f fd ps sp) (hr : RoomG c k X.A) (hb : KBn X.K fd ps n ks g gV) (hx : Passes CX X E)
    (I : Inv X pins σ H s) (r : Vals vs us) (rz : Vals zs ws) (l1 : vs.length = n) (l2 : zs.length = ks.length) (h : sp (gV vs zs) H Q E) : wpAny (model X.prog X.w) X.A (call (.ref f) us (ks.zip ws)) (EP X pins σ Q) X.xe s := by
  have r2 := hb.rel r rz
  refine wpAny_call (codeAny_mono (F.run X.A X.stack s H ⟨us, ks.zip ws⟩ (g us ws) (gV vs zs) Q E hr I.env0 (hb.to s us ws I.kIn (r.length.symm.trans l1) (rz.length.symm.trans l2)) r2 h) fun r s' hq => ?_)
  cases r with
  | error e => exact hx pins σ H s e s' I hq
  | ok fl =>
    cases fl with
    | ret u => exact I.after hq
    | next => exact False.elim hq
    | brk => exact False.elim hq
    | cont => exact False.elim hq
theorem pe_callGK (F : FnOkG c X.prog X.w X.K X.mg X.base CX k f fd ps sp) (hr : RoomG c k X.A) (hg : Gl X x) (hm : X.mg x = some (.ref f)) (hk : PySem.W.keepIn X.K (.ref f) = true) (hb : KBn X.K fd ps 0 ks (fun us ws => us ++ revIf rev ws) (fun vs zs => vs ++ revIf rev zs)) (hx : Passes CX X E)
    (hkw : PK X kws tk) (hps : ps.length = ks.length) (hall : (backToKw pos (keywordEach kws X.env)).all (·.1.isSome) = true := by rfl) (hks : (backToKw pos (keywordEach kws X.env)).filterMap (·.1) = ks := by rfl) (hdb : (x == ("__debug__" : Str)) = false := by decide)
    (hpl : ((backTo pos (starEach [] X.env)).any (·.1) || (backToKw pos (keywordEach kws X.env)).any (·.1.isNone)) = false := by rfl) :
    PE X (.Call (.Name x p) [] kws pos) (fun σ H Q => tk σ H fun zs H1 => sp (revIf rev zs) H1 Q E) := by
  refine ⟨fun pins s σ H Q I h => ?_⟩
  refine wpAny_Call_Name_kw (ld_glob I hg hm ?_ hdb)
  refine PySem.W.callWith_KW0 (h₀ := X.base) I.ok.mod.kin hk hall ?_ hpl
  refine thn (hkw.run pos pins s σ H _ I h) fun ws s2 ⟨zs, H2, I2, rz, q2⟩ => ⟨I2.kIn, ?_⟩
  rw [hks]
  have hl : zs.length = ks.length := by
    have := F.len _ _ _ _ q2
    rw [← hps, ← this]
    unfold revIf
    split <;> simp
  exact run_fnGK (us := []) (vs := []) F hr hb hx I2 .nil rz rfl hl q2
theorem dkR_nil : PK X [] (tRA X.w X.K cl dRNil) := ⟨fun pos pins s σ H Q I h => pk_nil.run pos pins s σ H Q I (by
  obtain ⟨M, ρ, f, ds, ρ', rs, hd, k⟩ := h
  cases hd
  exact k [] M H f [] rs .nil Step.refl)⟩
theorem dkR_cons (ha : DE cl X e d) (hr : PK X kws (tRA X.w X.K cl dr)) : PK X (⟨nm, e, kpos⟩ :: kws) (tRA X.w X.K cl (dRCons d dr)) := ⟨fun pos pins s σ H Q I h => (pk_cons (nm := nm) (kpos := kpos) ha hr).run pos pins s σ H Q I (dRCons_imp h)⟩
end
/-- a def called by keywords, in the parameters' order or against it -/
def FunKw (c : Bool) (P : Program) (w : World) (K : PySem.W.Frag) (mg : Str → Option Value) (base : Heap) (cl : Nat → Addr) (k : Nat) (f : Addr) (den : List W → Option (W × List W)) (ks : List Str) (rev : Bool) : Prop :=
  ∃ fd ps, FnOkG c P w K mg base CX0 k f fd ps (spW w K cl den) ∧ KBn K fd ps 0 ks (fun us ws => us ++ revIf rev ws) (fun vs zs => vs ++ revIf rev zs) ∧ ps.length = ks.length ∧ PySem.W.keepIn K (.ref f) = true
/-- a class called by keywords -/
def MkKw (c : Bool) (P : Program) (w : World) (K : PySem.W.Frag) (mg : Str → Option Value) (base : Heap) (cl : Nat → Addr) (k : Nat) (C : Addr) (den : List W → Option (W × List W)) (ks : List Str) (rev : Bool) : Prop :=
  ∃ f fd ps, Mk K C f ∧ FnOkG c P w K mg base CX0 k f fd ps (spW w K cl den) ∧ KBn K fd ps 1 ks (fun us ws => us ++ revIf rev ws) (fun vs zs => vs ++ revIf rev zs) ∧ ps.length = ks.length + 1
theorem kb_fn {K : PySem.W.Frag} {x qual : Str} {params : Arguments} {body : List Stmt} {scope : Scope} {kws : List (Str × V)} {f : Addr} {fd : FuncData} {ps ks : List Str} {rev : Bool} (F : FunD K x qual params body scope [] kws f fd)
    (h : ∀ (kV doc pm : Value) (an : Option Addr) (cdv ct : Value) (ws : List Value), ws.length = ks.length → bindArgs (PySem.W.fnOf x qual params body scope .none kV doc pm an cdv ct) ⟨[], ks.zip ws⟩ = pure (ps.zip (revIf rev ws))) :
    KBn K fd ps 0 ks (fun us ws => us ++ revIf rev ws) (fun vs zs => vs ++ revIf rev zs) := by
  obtain ⟨oc, od, dV, kV, doc, pm, an, cdv, ct, osl, rfl, lk, hcd, hD, hK⟩ := F.ex
  rcases hD with ⟨_, rfl⟩ | ⟨e, _⟩
  · refine ⟨fun s us ws X l1 l2 => ?_, fun r1 r2 => ?_⟩
    · match us, l1 with
      | [], _ => exact .of_eq (h kV doc pm an cdv ct ws l2)
    · refine r1.append ?_
      unfold revIf
      split
      · exact r2.reverse
      · exact r2
  · exact absurd rfl e
section
variable {c : Bool} {cl : Nat → Addr} {X : Cx} {k k' j : Nat} {f C : Addr} {ks : List Str} {x : Str} {p pos : Pos} {kws : List Keyword} {den : List W → Option (W × List W)} {rev : Bool} {dr : Den (List Rv)}
theorem de_fK (F : FunKw c X.prog X.w X.K X.mg X.base cl k f den ks rev) (hr : RoomG c k' X.A) (hk : k ≤ k') (hg : Gl X x) (hm : X.mg x = some (.ref f)) (hkw : PK X kws (tRA X.w X.K cl dr))
    (hall : (backToKw pos (keywordEach kws X.env)).all (·.1.isSome) = true := by rfl) (hks : (backToKw pos (keywordEach kws X.env)).filterMap (·.1) = ks := by rfl) (hdb : (x == ("__debug__" : Str)) = false := by decide)
    (hpl : ((backTo pos (starEach [] X.env)).any (·.1) || (backToKw pos (keywordEach kws X.env)).any (·.1.isNone)) = false := by rfl) :
    DE cl X (.Call (.Name x p) [] kws pos) (dCall den (revR rev dr) []) := by
  obtain ⟨fd, ps, F, hb, hps, kp⟩ := F
  refine pe_imp (pe_callGK F (hr.mono hk) hg hm kp hb pass0 hkw hps hall hks hdb hpl) fun σ H Q h => ?_
  have h2 := revR_imp (dCall_imp (dvs := []) (E := E0) (fun _ _ => .nil) h)
  obtain ⟨M, ρ, f, rvs, ρ', rs, hd, k⟩ := h2
  refine ⟨M, ρ, f, rvs, ρ', rs, hd, fun vs M' H' f' fws a b c => ?_⟩
  have q : spW X.w X.K cl den (revIf rev vs ++ []) H' Q E0 := k vs M' H' f' fws a b c
  rw [List.append_nil] at q
  exact q
theorem de_mkK (I : MkKw c X.prog X.w X.K X.mg X.base cl k C den ks rev) (hC : cl j = C) (hr : RoomG c k' X.A) (hk : k + 1 ≤ k') (hg : Gl X x) (hm : X.mg x = some (.ref C)) (hkw : PK X kws (tRA X.w X.K cl dr))
    (hall : (backToKw pos (keywordEach kws X.env)).all (·.1.isSome) = true := by rfl) (hks : (backToKw pos (keywordEach kws X.env)).filterMap (·.1) = ks := by rfl) (hdb : (x == ("__debug__" : Str)) = false := by decide)
    (hpl : ((backTo pos (starEach [] X.env)).any (·.1) || (backToKw pos (keywordEach kws X.env)).any (·.1.isNone)) = false := by rfl) :
    DE cl X (.Call (.Name x p) [] kws pos) (dMk j den (revR rev dr)) := by
  obtain ⟨f, fd, ps, T, F, hb, hps⟩ := I
  refine pe_imp (pe_makeGK T F (hr.mono hk) hg hm hb pass0 hkw hps hall hks hdb hpl) fun σ H Q h => ?_
  have h2 := revR_imp (dMk_imp (E := E0) hC h)
  obtain ⟨M, ρ, f, rvs, ρ', rs, hd, k⟩ := h2
  refine ⟨M, ρ, f, rvs, ρ', rs, hd, fun vs M' H' f' fws a b c => ?_⟩
  have := (k vs M' H' f' fws a b c).2
  refine ⟨?_, this⟩
  unfold revIf
  split <;> simp
end
end Ws
set_option Elab.async false
set_option linter.all false
set_option maxRecDepth 100000
set_option maxHeartbeats 4000000
/-! Ws45: what the head says of own plain classes: properties, constants; a hook that looks at them, too. -/
namespace Ws
open PySem PySem.Spec PyProof.Rows L2
/-- a property's getter -/
def pgA (K : PySem.W.Frag) (x m : Str) : Addr := match PySem.W.recIn K (He.ma K (He.ga K x) m) "property" with
  | some (.ref g :: _) => g
  | _ => 0
structure PrD where
  cls : Str
  m : Str
  qual : Str
  params : Arguments
  body : List Stmt
  scope : Scope
def PrD.val (d : PrD) : He.FnW := some (d.m, d.qual, d.params, .stmts d.body, d.scope, mainGlobals, [], builtinsNs)
def PrD.fnW (K : PySem.W.Frag) (d : PrD) : He.FnW := match K.lookup (pgA K d.cls d.m) with
  | some ⟨_, _, .func fd, _⟩ => some (fd.name, fd.qualname, fd.params, fd.body, fd.scope, fd.globals, fd.closure, fd.builtins)
  | _ => none
def propB (K : PySem.W.Frag) (x m : Str) : Bool := (match PySem.W.findIn K (.ref (He.ga K x)) m with
  | some (some (.ref _)) => true
  | _ => false) && (decide (PySem.W.specialIn K (.ref (He.ma K (He.ga K x) m)) "__get__" = some (some (.builtin "property.__get__"))) && (decide (PySem.W.takesIn K (.ref (He.ma K (He.ga K x) m)) = some true) && (match PySem.W.recIn K (He.ma K (He.ga K x) m) "property" with
  | some (.ref _ :: _) => true
  | _ => false)))
theorem propB_ok {K : PySem.W.Frag} {x m : Str} (h : propB K x m = true) : PropOf K (He.ga K x) m (He.ma K (He.ga K x) m) (pgA K x m) := by
  unfold propB at h
  obtain ⟨h1, h⟩ := Bool.and_eq_true_iff.mp h
  obtain ⟨h2, h⟩ := Bool.and_eq_true_iff.mp h
  obtain ⟨h3, h4⟩ := Bool.and_eq_true_iff.mp h
  refine ⟨?_, of_decide_eq_true h2, of_decide_eq_true h3, ?_⟩
  · unfold He.ma
    split at h1
    · rename_i a e
      rw [e]
    · cases h1
  · unfold pgA
    split at h4
    · rename_i g r e
      exact ⟨r, by rw [e]⟩
    · cases h4
def PrD.ok (K : PySem.W.Frag) (d : PrD) : Bool := propB K d.cls d.m && (PySem.W.keepIn K (.ref (pgA K d.cls d.m)) && (match K.lookup (pgA K d.cls d.m) with
  | some ⟨_, _, .func fd, _⟩ => PySem.W.codeIn K fd.code d.qual && (He.dflB K fd.defaults [] && He.kwdB K fd.kwdefaults [])
  | _ => false))
theorem PrD.funD {K : PySem.W.Frag} {d : PrD} (e : d.fnW K = d.val) (c : d.ok K = true) : ∃ fd, FunD K d.m d.qual d.params d.body d.scope [] [] (pgA K d.cls d.m) fd := by
  obtain ⟨_, c⟩ := Bool.and_eq_true_iff.mp c
  obtain ⟨kp, c2⟩ := Bool.and_eq_true_iff.mp c
  unfold PrD.fnW at e
  cases q : K.lookup (pgA K d.cls d.m) with
  | none =>
    rw [q] at c2
    cases c2
  | some o =>
    obtain ⟨oc, od, dt, osl⟩ := o
    rw [q] at c2 e
    cases dt with
    | func fd =>
      obtain ⟨n1, n2, n3, n4, n5, n6, n7, n8, n9, n10, n11, n12, n13, n14, n15⟩ := fd
      have e2 : (some (n1, n2, n3, n4, n5, n6, n7, n15) : He.FnW) = some (d.m, d.qual, d.params, .stmts d.body, d.scope, mainGlobals, [], builtinsNs) := e
      simp only [Option.some.injEq, Prod.mk.injEq] at e2
      obtain ⟨h1, h2, h3, h4, h5, h6, h7, h8⟩ := e2
      subst h1 h2 h3 h4 h5 h6 h7 h8
      have c3 : (PySem.W.codeIn K n13 d.qual && (He.dflB K n8 [] && He.kwdB K n9 [])) = true := c2
      obtain ⟨k1, k2⟩ := Bool.and_eq_true_iff.mp c3
      obtain ⟨k3, k4⟩ := Bool.and_eq_true_iff.mp k2
      exact ⟨_, ⟨oc, od, n8, n9, n10, n11, n12, n13, n14, osl, rfl, q, k1, He.dflB_ok k3, He.kwdB_ok k4⟩, kp⟩
    | _ => cases c2
/-- C.f is the int i -/
def cvB (K : PySem.W.Frag) (x f : Str) (i : Int) : Bool := PySem.W.readsIn K (He.ga K x) (.type "type") && (decide (PySem.W.specialIn K (.ref (He.ga K x)) "__getattribute__" = some (some (.builtin "type.__getattribute__"))) && (match PySem.W.findCls K (.ref (He.ga K x)) (.type "type") f with
  | some (.val (.int j _)) => decide (j = i)
  | _ => false))
theorem cvB_ok {K : PySem.W.Frag} {x f : Str} {i : Int} (h : cvB K x f i = true) : ClX.CRead K (He.ga K x) (.type "type") ∧ ∃ u, ClX.CVal K (He.ga K x) (.type "type") f (.int i) u := by
  unfold cvB at h
  obtain ⟨h1, h⟩ := Bool.and_eq_true_iff.mp h
  obtain ⟨h2, h3⟩ := Bool.and_eq_true_iff.mp h
  refine ⟨⟨h1, of_decide_eq_true h2⟩, ?_⟩
  split at h3
  · rename_i j t e
    have := of_decide_eq_true h3
    subst this
    exact ⟨_, e, ⟨t, rfl⟩⟩
  · cases h3
abbrev AlZ : Type := (He.AlD × Bool) × (Bool × List He.FnW)
def obsZ (n : Nat) (fa : List He.Fa) (fn : List He.DefD) (ex : PySem.W.Frag → Bool) (pr : List PrD) (g : Addr → Option Obj) : AlZ := ((He.obsD fa fn (frY n g), ex (frY n g)), (pr.all fun d => d.ok (frY n g), pr.map fun d => d.fnW (frY n g)))
def valZ (fn : List He.DefD) (pr : List PrD) : AlZ := ((He.valD fn, true), (true, pr.map PrD.val))
def hookZ (n : Nat) (fa : List He.Fa) (fn : List He.DefD) (ex : PySem.W.Frag → Bool) (pr : List PrD) : PySem.W.Hook where
  α := AlZ
  obs := fun s => obsZ n fa fn ex pr s.heap.get?
  val := fun _ => valZ fn pr
  says := fun _ h => ∃ K : PySem.W.Frag, K.In h ∧ He.SaysD fa fn K ∧ ex K = true ∧ (pr.all fun d => d.ok K) = true ∧ pr.map (fun d => d.fnW K) = pr.map PrD.val
  of := fun _ s e => ⟨frY n s.heap.get?, He.frG_in, congrArg (fun z : AlZ => z.1.1) e, congrArg (fun z : AlZ => z.1.2) e, congrArg (fun z : AlZ => z.2.1) e, congrArg (fun z : AlZ => z.2.2) e⟩
  keeps := fun _ _ _ ⟨K, hK, c⟩ k => ⟨K, PySem.W.Frag.In.keeps hK k, c⟩
theorem obsZ_eq {n : Nat} {fa : List He.Fa} {fn : List He.DefD} {ex : PySem.W.Frag → Bool} {pr : List PrD} {g : Addr → Option Obj} {s : Shared} (h : ∀ a, g a = s.heap.get? a) : obsZ n fa fn ex pr g = (hookZ n fa fn ex pr).obs s := by
  have e : g = s.heap.get? := funext h
  rw [e] <;> rfl
theorem prs_get {K : PySem.W.Frag} {pr : List PrD} (c1 : (pr.all fun d => d.ok K) = true) (c2 : pr.map (fun d => d.fnW K) = pr.map PrD.val) (i : Nat) {d : PrD} (h : pr[i]? = some d := by rfl) : PropOf K (He.ga K d.cls) d.m (He.ma K (He.ga K d.cls) d.m) (pgA K d.cls d.m) ∧ ∃ fd, FunD K d.m d.qual d.params d.body d.scope [] [] (pgA K d.cls d.m) fd := by
  have o := List.all_eq_true.mp c1 d (List.mem_of_getElem? h)
  have e : (pr.map fun d => d.fnW K)[i]? = (pr.map PrD.val)[i]? := by rw [c2]
  rw [List.getElem?_map, List.getElem?_map, h] at e
  refine ⟨propB_ok (Bool.and_eq_true_iff.mp o).1, PrD.funD (Option.some.inj e) o⟩
end Ws
set_option Elab.async false
set_option linter.all false
set_option maxRecDepth 100000
set_option maxHeartbeats 0
/-! Ws46: small steps of what is denoted, for plain laws. -/
namespace Ws
open PySem PySem.Spec PyProof.Rows L2
/-! ### statements -/
theorem seq_next {s t : Den Out} {ρ ρ' : Ws.Env} (h : s ρ = some (.next, ρ')) : dSeq s t ρ = t ρ' := by
  unfold dSeq
  rw [h]
  rfl
theorem seq_ret {s t : Den Out} {ρ ρ' : Ws.Env} {r : Rv} (h : s ρ = some (.ret r, ρ')) : dSeq s t ρ = some (.ret r, ρ') := by
  unfold dSeq
  rw [h]
  rfl
theorem if_skip {t : Den Bool} {d : Den Out} {ρ ρ' : Ws.Env} (h : t ρ = some (false, ρ')) : dIfS t d dNext ρ = some (.next, ρ') := by
  unfold dIfS
  rw [h]
  rfl
theorem ifS_t {t : Den Bool} {d1 d2 : Den Out} {ρ ρ1 : Ws.Env} (h : t ρ = some (true, ρ1)) : dIfS t d1 d2 ρ = d1 ρ1 := by
  unfold dIfS
  rw [h]
  rfl
theorem ifS_f {t : Den Bool} {d1 d2 : Den Out} {ρ ρ1 : Ws.Env} (h : t ρ = some (false, ρ1)) : dIfS t d1 d2 ρ = d2 ρ1 := by
  unfold dIfS
  rw [h]
  rfl
theorem or_ff {a b : Den Bool} {ρ ρ1 ρ2 : Ws.Env} (ha : a ρ = some (false, ρ1)) (hb : b ρ1 = some (false, ρ2)) : dOr a b ρ = some (false, ρ2) := by
  unfold dOr
  rw [ha]
  exact hb
theorem or_t {a b : Den Bool} {ρ ρ1 : Ws.Env} (ha : a ρ = some (true, ρ1)) : dOr a b ρ = some (true, ρ1) := by
  unfold dOr
  rw [ha]
  rfl
theorem or_f {a b : Den Bool} {ρ ρ1 : Ws.Env} (ha : a ρ = some (false, ρ1)) : dOr a b ρ = b ρ1 := by
  unfold dOr
  rw [ha]
  rfl
theorem and_t {a b : Den Bool} {ρ ρ1 : Ws.Env} (ha : a ρ = some (true, ρ1)) : dAnd a b ρ = b ρ1 := by
  unfold dAnd
  rw [ha]
  rfl
theorem and_f {a b : Den Bool} {ρ ρ1 : Ws.Env} (ha : a ρ = some (false, ρ1)) : dAnd a b ρ = some (false, ρ1) := by
  unfold dAnd
  rw [ha]
  rfl
theorem not_b {a : Den Bool} {ρ ρ1 : Ws.Env} {b : Bool} (ha : a ρ = some (b, ρ1)) : dNot a ρ = some (!b, ρ1) := by
  unfold dNot
  rw [ha]
  rfl
theorem ifV_t {t : Den Bool} {a b : Den Rv} {ρ ρ1 : Ws.Env} (h : t ρ = some (true, ρ1)) : dIf t a b ρ = a ρ1 := by
  unfold dIf
  rw [h]
  rfl
theorem ifV_f {t : Den Bool} {a b : Den Rv} {ρ ρ1 : Ws.Env} (h : t ρ = some (false, ρ1)) : dIf t a b ρ = b ρ1 := by
  unfold dIf
  rw [h]
  rfl
/-! ### numbers -/
theorem mulI_some {i j : Int} (h : (-(2 ^ 64) < i ∧ i < 2 ^ 64) ∨ (-(2 ^ 64) < j ∧ j < 2 ^ 64)) : gMulI (.int i) (.int j) = some (.int (i * j)) := by
  show (if decide ((-(2 ^ 64) < i ∧ i < 2 ^ 64) ∨ (-(2 ^ 64) < j ∧ j < 2 ^ 64)) = true then some (D.int (i * j)) else none) = _
  rw [decide_eq_true h]
  rfl
theorem mul_int {a b : Den Rv} {ρ ρ1 ρ2 : Ws.Env} {i j : Int} (ha : a ρ = some (.val (.leaf (.int i)), ρ1)) (hb : b ρ1 = some (.val (.leaf (.int j)), ρ2)) (h : (-(2 ^ 64) < i ∧ i < 2 ^ 64) ∨ (-(2 ^ 64) < j ∧ j < 2 ^ 64)) :
    dMul a b ρ = some (.val (.leaf (.int (i * j))), ρ2) := by
  unfold dMul
  rw [ha]
  show (b ρ1).bind _ = _
  rw [hb]
  show (gMulI (.int i) (.int j)).map _ = _
  rw [mulI_some h]
  rfl
theorem add_int {a b : Den Rv} {ρ ρ1 ρ2 : Ws.Env} {i j : Int} (ha : a ρ = some (.val (.leaf (.int i)), ρ1)) (hb : b ρ1 = some (.val (.leaf (.int j)), ρ2)) : dAdd a b ρ = some (.val (.leaf (.int (i + j))), ρ2) := by
  unfold dAdd
  rw [ha]
  show (b ρ1).bind _ = _
  rw [hb]
  rfl
theorem bin_val {g : D → D → Option D} {a b : Den Rv} {ρ ρ1 ρ2 : Ws.Env} {x y : Rv} {dx dy r : D} (ha : a ρ = some (x, ρ1)) (hb : b ρ1 = some (y, ρ2)) (hx : viewR ρ2 x = some dx) (hy : viewR ρ2 y = some dy) (h : g dx dy = some r) (hs : (sv r).isSome = true) :
    dBin g a b ρ = some (.val (.leaf r), ρ2) := by
  unfold dBin
  rw [ha]
  show (b ρ1).bind _ = _
  rw [hb]
  show (viewR ρ2 x).bind _ = _
  rw [hx]
  show (viewR ρ2 y).bind _ = _
  rw [hy]
  show (g dx dy).bind _ = _
  rw [h]
  show (sv r).bind _ = _
  obtain ⟨v, e⟩ := Option.isSome_iff_exists.mp hs
  rw [e]
  rfl
theorem bin_leaf {g : D → D → Option D} {a b : Den Rv} {ρ ρ1 ρ2 : Ws.Env} {dx dy r : D} (ha : a ρ = some (.val (.leaf dx), ρ1)) (hb : b ρ1 = some (.val (.leaf dy), ρ2)) (h : g dx dy = some r) (hs : (sv r).isSome = true) :
    dBin g a b ρ = some (.val (.leaf r), ρ2) := bin_val ha hb rfl rfl h hs
theorem un_val {g : D → Option D} {a : Den Rv} {ρ ρ1 : Ws.Env} {x : Rv} {d r : D} (ha : a ρ = some (x, ρ1)) (hx : viewR ρ1 x = some d) (h : g d = some r) (hs : (sv r).isSome = true) : dUn g a ρ = some (.val (.leaf r), ρ1) := by
  unfold dUn
  rw [ha]
  show (viewR ρ1 x).bind _ = _
  rw [hx]
  show (g d).bind _ = _
  rw [h]
  show (sv r).bind _ = _
  obtain ⟨v, e⟩ := Option.isSome_iff_exists.mp hs
  rw [e]
  rfl
theorem un_leaf {g : D → Option D} {a : Den Rv} {ρ ρ1 : Ws.Env} {d r : D} (ha : a ρ = some (.val (.leaf d), ρ1)) (h : g d = some r) (hs : (sv r).isSome = true) : dUn g a ρ = some (.val (.leaf r), ρ1) := un_val ha rfl h hs
theorem mod_some {i j : Int} (h : 0 < j) : gMod (.int i) (.int j) = some (.int (i % j)) := by
  show (if decide (0 < j) = true then some (D.int (i % j)) else none) = _
  rw [decide_eq_true h]
  rfl
theorem div_some {i j : Int} (h : 0 < j ∧ j.natAbs.log2 < 9000) : gDiv (.int i) (.int j) = some (.int (i / j)) := by
  show (if decide (0 < j ∧ j.natAbs.log2 < 9000) = true then some (D.int (i / j)) else none) = _
  rw [decide_eq_true h]
  rfl
theorem asg_val {d : Den Rv} {g : DenG} {ρ ρ1 ρ2 : Ws.Env} {v : D} (h : d ρ = some (.val (.leaf v), ρ1)) (hg : g v ρ1 = some ρ2) : dAsg d g ρ = some (.next, ρ2) := by
  unfold dAsg dSh
  rw [h]
  show (g v ρ1).map _ = _
  rw [hg]
  rfl
theorem set_val {i : Nat} {d : Den Rv} {ρ ρ1 : Ws.Env} {x : W} (h : d ρ = some (.val x, ρ1)) (hi : i < ρ1.length) : dSet i d ρ = some (.next, ρ1.set i (some x)) := by
  unfold dSet
  rw [h]
  show (if i < ρ1.length then some (ρ1.set i (some x)) else none).map _ = _
  rw [if_pos hi]
  rfl
theorem drop_val {d : Den Rv} {ρ ρ1 : Ws.Env} {r : Rv} (h : d ρ = some (r, ρ1)) : dDrop d ρ = some (.next, ρ1) := by
  unfold dDrop
  rw [h]
  rfl
theorem ret_val {d : Den Rv} {ρ ρ1 : Ws.Env} {r : Rv} (h : d ρ = some (r, ρ1)) : dRet d ρ = some (.ret r, ρ1) := by
  unfold dRet
  rw [h]
  rfl
theorem test_val {d : Den Rv} {ρ ρ1 : Ws.Env} {b : Bool} (h : d ρ = some (.val (.leaf (.bool b)), ρ1)) : dTest d ρ = some (b, ρ1) := by
  unfold dTest
  rw [h]
  rfl
theorem sh_val {d : Den Rv} {ρ ρ1 : Ws.Env} {x : W} (h : d ρ = some (.val x, ρ1)) : dSh d ρ = some (x.toD, ρ1) := by
  unfold dSh
  rw [h]
  rfl
theorem andV_t {a b : Den Rv} {ρ ρ1 : Ws.Env} (h : a ρ = some (.val (.leaf (.bool true)), ρ1)) : dAndV a b ρ = b ρ1 := by
  unfold dAndV
  rw [test_val h]
  rfl
theorem andV_f {a b : Den Rv} {ρ ρ1 : Ws.Env} (h : a ρ = some (.val (.leaf (.bool false)), ρ1)) : dAndV a b ρ = some (.val (.leaf (.bool false)), ρ1) := by
  unfold dAndV
  rw [test_val h]
  rfl
theorem notV {a : Den Rv} {ρ ρ1 : Ws.Env} {b : Bool} (h : a ρ = some (.val (.leaf (.bool b)), ρ1)) : dNotV a ρ = some (.val (.leaf (.bool (!b))), ρ1) := by
  unfold dNotV
  rw [test_val h]
  rfl
/-! ### calls -/
theorem fn_ret {np n : Nat} {den : Den Out} {ws : List W} {ρ' : Ws.Env} {x : W} {ws' : List W} (hl : ws.length = np) (h : den (ws.map some ++ List.replicate (n - np) Option.none) = some (.ret (.val x), ρ')) (ha : allSome (ρ'.take np) = some ws') : dFn np n den ws = some (x, ws') := by
  unfold dFn
  rw [if_pos hl, h]
  show (allSome (ρ'.take np)).map _ = _
  rw [ha]
  rfl
theorem fn_next {np n : Nat} {den : Den Out} {ws : List W} {ρ' : Ws.Env} {ws' : List W} (hl : ws.length = np) (h : den (ws.map some ++ List.replicate (n - np) Option.none) = some (.next, ρ')) (ha : allSome (ρ'.take np) = some ws') : dFn np n den ws = some (.leaf .none, ws') := by
  unfold dFn
  rw [if_pos hl, h]
  show (allSome (ρ'.take np)).map _ = _
  rw [ha]
  rfl
theorem call_eq {den : List W → Option (W × List W)} {dr : Den (List Rv)} {ρ ρ1 ρ2 : Ws.Env} {rvs : List Rv} {ws ws' : List W} {r : W} (h1 : dr ρ = some (rvs, ρ1)) (h2 : (slotsOf (rvs ++ leafR [])).Nodup) (h3 : argW ρ1 (rvs ++ leafR []) = some ws) (h4 : den ws = some (r, ws'))
    (h5 : putBack (rvs ++ leafR []) ws' (clearAll (rvs ++ leafR []) ρ1) = ρ2) : dCall den dr [] ρ = some (.val r, ρ2) := by
  unfold dCall
  rw [h1]
  show (if (slotsOf (rvs ++ leafR [])).Nodup then (argW ρ1 (rvs ++ leafR [])).bind _ else none) = _
  rw [if_pos h2, h3]
  show (den ws).map _ = _
  rw [h4, ← h5]
  rfl
theorem dr_one {d : Den Rv} {r : Den (List Rv)} {ρ ρ1 ρ2 : Ws.Env} {x : Rv} {xs : List Rv} (h : d ρ = some (x, ρ1)) (h2 : r ρ1 = some (xs, ρ2)) : dRCons d r ρ = some (x :: xs, ρ2) := by
  unfold dRCons
  rw [h]
  show (r ρ1).map _ = _
  rw [h2]
  rfl
/-! ### loops -/
theorem for_ind {g : DenG} {body : Den Out} (P : Nat → Ws.Env → Prop) : ∀ (ds : List D) (k : Nat) (ρ : Ws.Env), P k ρ → (∀ i d ρ, ds[i]? = some d → P (k + i) ρ → ∃ ρ1 ρ2, g d ρ = some ρ1 ∧ (body ρ1 = some (.next, ρ2) ∨ body ρ1 = some (.cont, ρ2)) ∧ P (k + i + 1) ρ2) →
    ∃ ρ', forLoop g body ds ρ = some (.next, ρ') ∧ P (k + ds.length) ρ'
  | [], k, ρ, h, _ => ⟨ρ, rfl, h⟩
  | d :: ds, k, ρ, h, hs => by
    obtain ⟨ρ1, ρ2, h1, h2, h3⟩ := hs 0 d ρ rfl h
    obtain ⟨ρ', h4, h5⟩ := for_ind P ds (k + 1) ρ2 (by simpa using h3) fun i d' ρ3 hd hp => by
      have := hs (i + 1) d' ρ3 (by simpa using hd) (by rw [show k + (i + 1) = k + 1 + i by omega]; exact hp)
      rw [show k + 1 + i + 1 = k + (i + 1) + 1 by omega]
      exact this
    refine ⟨ρ', ?_, by rw [show k + (d :: ds).length = k + 1 + ds.length by simp; omega]; exact h5⟩
    unfold forLoop
    rw [h1]
    show (body ρ1).bind _ = _
    rcases h2 with h2 | h2 <;> · rw [h2]; exact h4
theorem for_val {di : Den (List D)} {g : DenG} {body : Den Out} {ρ ρ1 ρ2 : Ws.Env} {ds : List D} {o : Out} (h : di ρ = some (ds, ρ1)) (h2 : forLoop g body ds ρ1 = some (o, ρ2)) : dFor di g body ρ = some (o, ρ2) := by
  unfold dFor
  rw [h]
  exact h2
/-- a comprehension that leaves all as it was -/
theorem lc_map {g : DenG} {tt : Den Bool} {te : Den D} {vs : List Nat} {ρw : Ws.Env} (p : D → Bool) (h : D → D) : ∀ (ds acc : List D), (∀ d ∈ ds, ∃ ρ1, g d ρw = some ρ1 ∧ ∃ ρ2, tt ρ1 = some (p d, ρ2) ∧ (p d = true → ∃ ρ3, te ρ2 = some (h d, ρ3) ∧ wipeE ρ3 vs = ρw) ∧ (p d = false → wipeE ρ2 vs = ρw)) →
    acc.length + ds.length ≤ sizeLine → lcLoop g tt te vs ds acc ρw = some (acc ++ (ds.filter p).map h, ρw)
  | [], acc, _, _ => by simp [lcLoop]
  | d :: ds, acc, hs, hl => by
    obtain ⟨ρ1, h1, ρ2, h2, h3, h4⟩ := hs d List.mem_cons_self
    rw [List.length_cons] at hl
    have rest := lc_map (g := g) (tt := tt) (te := te) (vs := vs) (ρw := ρw) p h ds
    have hs' : ∀ d ∈ ds, ∃ ρ1, g d ρw = some ρ1 ∧ ∃ ρ2, tt ρ1 = some (p d, ρ2) ∧ (p d = true → ∃ ρ3, te ρ2 = some (h d, ρ3) ∧ wipeE ρ3 vs = ρw) ∧ (p d = false → wipeE ρ2 vs = ρw) := fun x hx => hs x (List.mem_cons_of_mem _ hx)
    unfold lcLoop
    rw [h1]
    show (tt ρ1).bind _ = _
    rw [h2]
    cases hp : p d with
    | true =>
      obtain ⟨ρ3, h5, h6⟩ := h3 hp
      show (te ρ2).bind _ = _
      rw [h5]
      show (if acc.length < sizeLine then lcLoop g tt te vs ds (acc ++ [h d]) (wipeE ρ3 vs) else none) = _
      rw [if_pos (by omega), h6, rest (acc ++ [h d]) hs' (by rw [List.length_append, List.length_singleton]; omega), List.filter_cons_of_pos (by rw [hp]), List.map_cons, List.append_assoc]
      rfl
    | false =>
      show lcLoop g tt te vs ds acc (wipeE ρ2 vs) = _
      rw [h4 hp, rest acc hs' (by omega), List.filter_cons_of_neg (by rw [hp]; decide)]
theorem range1_val {d : Den (List D)} {ρ ρ1 : Ws.Env} {i : Int} (h : d ρ = some ([.int i], ρ1)) (hi : small62 i = true) : dIRange1 d ρ = some (rangeD 0 i.toNat, ρ1) := by
  unfold dIRange1
  rw [h]
  show (if small62 i = true then some (rangeD 0 i.toNat, ρ1) else none) = _
  rw [if_pos hi]
theorem range2_val {d : Den (List D)} {ρ ρ1 : Ws.Env} {i j : Int} (h : d ρ = some ([.int i, .int j], ρ1)) (hi : small62 i = true) (hj : small62 j = true) : dIRange2 d ρ = some (rangeD i (j - i).toNat, ρ1) := by
  unfold dIRange2
  rw [h]
  show (if (small62 i && small62 j) = true then some (rangeD i (j - i).toNat, ρ1) else none) = _
  rw [hi, hj]
  rfl
theorem rangeD_get {lo : Int} {n i : Nat} {d : D} (h : (rangeD lo n)[i]? = some d) : d = .int (lo + i) ∧ i < n := by
  unfold rangeD at h
  rw [List.getElem?_map] at h
  obtain ⟨k, h1, h2⟩ := Option.map_eq_some_iff.mp h
  obtain ⟨h3, h4⟩ := List.getElem?_eq_some_iff.mp h1
  simp at h4 h3
  subst h4
  exact ⟨h2.symm, h3⟩
theorem rangeD_len {lo : Int} {n : Nat} : (rangeD lo n).length = n := by simp [rangeD]
theorem small_of {i : Int} (h : -1000 ≤ i ∧ i ≤ 1000) : small62 i = true := decide_eq_true (by omega)
theorem append_val {i : Nat} {d : Den Rv} {ρ ρ1 : Ws.Env} {x : W} {l : List D} {w0 : List W} (h0 : ownAt ρ i = some w0) (h : d ρ = some (.val x, ρ1)) (h1 : ownAt ρ1 i = some (leaves l)) (hl : l.length < sizeLine) : dAppend i d ρ = some (.val (.leaf .none), ρ1.set i (some (.lst (leaves (l ++ [x.toD]))))) := by
  unfold dAppend
  rw [h0]
  show (dSh d ρ).bind _ = _
  rw [sh_val h]
  show (ownAt ρ1 i).bind _ = _
  rw [h1]
  show (if (leaves l).length < sizeLine then _ else none) = _
  rw [if_pos (by simpa [leaves] using hl)]
  simp [leaves]
theorem lc_val {di : Den (List D)} {g : DenG} {tt : Den Bool} {te : Den D} {vs : List Nat} {ρ ρ1 ρ2 : Ws.Env} {ds l : List D} (h : di ρ = some (ds, ρ1)) (h2 : lcLoop g tt te vs ds [] (wipeE ρ1 vs) = some (l, ρ2)) : dLc di g tt te vs ρ = some (ownL l, restE ρ1 ρ2 vs) := by
  unfold dLc
  rw [h]
  show (lcLoop g tt te vs ds [] (wipeE ρ1 vs)).map _ = _
  rw [h2]
  rfl
end Ws
set_option Elab.async false
set_option linter.all false
set_option maxRecDepth 100000
set_option maxHeartbeats 0
/-! Ws47: what is denoted, worked out by `ev`. (Printed by gen_ev.py.) -/
namespace Ws
open PySem PySem.Spec PyProof.Rows L2
def Tag {α : Type} (_ : α) : Type := Unit
def tag {α : Type} (a : α) : Tag a := ()
def _root_.Option.ob {α β : Type} (a : Option α) (f : α → Option β) (t : Tag f := tag f) : Option β := a.bind f
def _root_.Option.om {α β : Type} (a : Option α) (f : α → β) (t : Tag f := tag f) : Option β := a.map f
theorem ob_some {α β : Type} (a : α) (f : α → Option β) (t : Tag f) : _root_.Option.ob (some a) f t = f a := rfl
theorem om_some {α β : Type} (a : α) (f : α → β) (t : Tag f) : _root_.Option.om (some a) f t = some (f a) := rfl
theorem ob_none {α β : Type} (f : α → Option β) (t : Tag f) : _root_.Option.ob (Option.none : Option α) f t = Option.none := rfl
theorem om_none {α β : Type} (f : α → β) (t : Tag f) : _root_.Option.om (Option.none : Option α) f t = Option.none := rfl
theorem b_some {α β : Type} (a : α) (f : α → Option β) : (some a).bind f = f a := rfl
theorem m_some {α β : Type} (a : α) (f : α → β) : (some a).map f = some (f a) := rfl
theorem ev_dSh (d : Den Rv) (ρ : Ws.Env) : dSh d ρ = (d ρ).ob fun r => shareR r.2 r.1 := rfl
theorem ev_dVal (d : Den D) (ρ : Ws.Env) : dVal d ρ = (d ρ).om fun r => (.val (.leaf r.1), r.2) := rfl
theorem ev_dVar (i : Nat) (ρ : Ws.Env) : dVar i ρ = (match ρ[i]? with
  | some (some (.leaf d)) => some (.val (.leaf d), ρ)
  | some (some _) => some (.slot i, ρ)
  | _ => none) := rfl
theorem ev_dC (d : D) (ρ : Ws.Env) : dC d ρ = some (.val (.leaf d), ρ) := rfl
theorem ev_dBin (g : D → D → Option D) (da db : Den Rv) (ρ : Ws.Env) : dBin g da db ρ = (da ρ).ob fun x => (db x.2).ob fun y => (viewR y.2 x.1).ob fun dx => (viewR y.2 y.1).ob fun dy => (g dx dy).ob fun r => (sv r).ob fun _ => some (.val (.leaf r), y.2) := rfl
theorem ev_dTest (d : Den Rv) (ρ : Ws.Env) : dTest d ρ = ((d ρ).ob fun r => match r.1 with
  | .val (.leaf (.bool b)) => some (b, r.2)
  | _ => Option.none) := rfl
theorem ev_dAnd (da db : Den Bool) (ρ : Ws.Env) : dAnd da db ρ = (da ρ).ob fun r => if r.1 = true then db r.2 else some (false, r.2) := rfl
theorem ev_dOr (da db : Den Bool) (ρ : Ws.Env) : dOr da db ρ = (da ρ).ob fun r => if r.1 = true then some (true, r.2) else db r.2 := rfl
theorem ev_dNot (d : Den Bool) (ρ : Ws.Env) : dNot d ρ = (d ρ).om fun r => (!r.1, r.2) := rfl
theorem ev_dOfT (d : Den Bool) (ρ : Ws.Env) : dOfT d ρ = (d ρ).om fun r => (.val (.leaf (.bool r.1)), r.2) := rfl
theorem ev_dOne (d : Den Rv) (ρ : Ws.Env) : dOne d ρ = ((d ρ).ob fun r => match r.1 with
  | .val (.leaf (.bool b)) => some (.val (.leaf (.bool b)), r.2)
  | _ => Option.none) := rfl
theorem ev_dAndV (da db : Den Rv) (ρ : Ws.Env) : dAndV da db ρ = (dTest da ρ).ob fun r => if r.1 = true then db r.2 else some (.val (.leaf (.bool false)), r.2) := rfl
theorem ev_dOrV (da db : Den Rv) (ρ : Ws.Env) : dOrV da db ρ = (dTest da ρ).ob fun r => if r.1 = true then some (.val (.leaf (.bool true)), r.2) else db r.2 := rfl
theorem ev_dNotV (d : Den Rv) (ρ : Ws.Env) : dNotV d ρ = (dTest d ρ).om fun r => (.val (.leaf (.bool (!r.1))), r.2) := rfl
theorem ev_dIf (t : Den Bool) (da db : Den Rv) (ρ : Ws.Env) : dIf t da db ρ = (t ρ).ob fun r => if r.1 = true then da r.2 else db r.2 := rfl
theorem ev_dChain (g g' : D → D → Option D) (da db dc : Den Rv) (ρ : Ws.Env) : dChain g g' da db dc ρ = ((da ρ).ob fun x => (db x.2).ob fun y => (viewR y.2 x.1).ob fun dx => (viewR y.2 y.1).ob fun dy => (g dx dy).ob fun r => match r with
  | .bool true => (dc y.2).ob fun z => (viewR z.2 y.1).ob fun dy => (viewR z.2 z.1).ob fun dz => (g' dy dz).ob fun r' => (sv r').ob fun _ => some (.val (.leaf r'), z.2)
  | .bool false => some (.val (.leaf (.bool false)), y.2)
  | _ => Option.none) := rfl
theorem ev_dNil (ρ : Ws.Env) : dNil ρ = some ([], ρ) := rfl
theorem ev_dCons (d : Den Rv) (r : Den (List D)) (ρ : Ws.Env) : dCons d r ρ = (dSh d ρ).ob fun x => (r x.2).om fun y => (x.1 :: y.1, y.2) := rfl
theorem ev_dLst (d : Den (List D)) (ρ : Ws.Env) : dLst d ρ = (d ρ).ob fun r => if r.1.length ≤ sizeLine then some (ownL r.1, r.2) else Option.none := rfl
theorem ev_dTup (d : Den (List D)) (ρ : Ws.Env) : dTup d ρ = (d ρ).ob fun r => if r.1.length ≤ sizeLine then some (.val (.leaf (.tup r.1)), r.2) else Option.none := rfl
theorem ev_dSeq (d1 d2 : Den Out) (ρ : Ws.Env) : dSeq d1 d2 ρ = ((d1 ρ).ob fun r => match r.1 with
  | .next => d2 r.2
  | o => some (o, r.2)) := rfl
theorem ev_dNext (ρ : Ws.Env) : dNext ρ = some (.next, ρ) := rfl
theorem ev_dBrk (ρ : Ws.Env) : dBrk ρ = some (.brk, ρ) := rfl
theorem ev_dCont (ρ : Ws.Env) : dCont ρ = some (.cont, ρ) := rfl
theorem ev_dRet (d : Den Rv) (ρ : Ws.Env) : dRet d ρ = (d ρ).om fun r => (.ret r.1, r.2) := rfl
theorem ev_dRetN (ρ : Ws.Env) : dRetN ρ = some (.ret (.val (.leaf .none)), ρ) := rfl
theorem ev_dDrop (d : Den Rv) (ρ : Ws.Env) : dDrop d ρ = (d ρ).om fun r => (.next, r.2) := rfl
theorem ev_dIfS (t : Den Bool) (d1 d2 : Den Out) (ρ : Ws.Env) : dIfS t d1 d2 ρ = (t ρ).ob fun r => if r.1 = true then d1 r.2 else d2 r.2 := rfl
theorem ev_dNever (ρ : Ws.Env) : dNever ρ = Option.none := rfl
theorem ev_dSet (i : Nat) (d : Den Rv) (ρ : Ws.Env) : dSet i d ρ = (d ρ).ob fun r => (putR i r).om fun ρ' => (.next, ρ') := rfl
theorem ev_dRCons (d : Den Rv) (r : Den (List Rv)) (ρ : Ws.Env) : dRCons d r ρ = (d ρ).ob fun x => (r x.2).om fun y => (x.1 :: y.1, y.2) := rfl
theorem ev_dRNil (ρ : Ws.Env) : dRNil ρ = some ([], ρ) := rfl
theorem ev_dCall (den : List W → Option (W × List W)) (dr : Den (List Rv)) (dds : List D) (ρ : Ws.Env) : dCall den dr dds ρ = (dr ρ).ob fun r => if (slotsOf (r.1 ++ leafR dds)).Nodup then (argW r.2 (r.1 ++ leafR dds)).ob fun ws => (den ws).om fun y => (.val y.1, putBack (r.1 ++ leafR dds) y.2 (clearAll (r.1 ++ leafR dds) r.2)) else Option.none := rfl
theorem ev_dRecv (c : Nat) (m : Str) (d : Den Rv) (ρ : Ws.Env) : dRecv c m d ρ = ((d ρ).ob fun r => (viewR r.2 r.1).ob fun y => match y with
  | .obj c' gs => if c' = c ∧ gs.lookup m = Option.none then some r else Option.none
  | _ => Option.none) := rfl
theorem ev_gNm (i : Nat) (d : D) (ρ : Ws.Env) : gNm i d ρ = if i < ρ.length then some (ρ.set i (some (.leaf d))) else Option.none := rfl
theorem ev_gsNil (ds : List D) (ρ : Ws.Env) : gsNil ds ρ = (match ds with
  | [] => some ρ
  | _ => Option.none) := rfl
theorem ev_gsCons (g : DenG) (r : List D → Env → Option Env) (ds : List D) (ρ : Ws.Env) : gsCons g r ds ρ = (match ds with
  | d :: ds => (g d ρ).ob fun ρ1 => r ds ρ1
  | [] => Option.none) := rfl
theorem ev_gTp (r : List D → Env → Option Env) (d : D) (ρ : Ws.Env) : gTp r d ρ = (match d with
  | .tup ds => r ds ρ
  | _ => Option.none) := rfl
theorem ev_dAsg (d : Den Rv) (g : DenG) (ρ : Ws.Env) : dAsg d g ρ = (dSh d ρ).ob fun r => (g r.1 r.2).om fun ρ' => (.next, ρ') := rfl
theorem ev_dISeq (d : Den Rv) (ρ : Ws.Env) : dISeq d ρ = ((dSh d ρ).ob fun r => match r.1 with
  | .lst ds => some (ds, r.2)
  | .tup ds => some (ds, r.2)
  | _ => Option.none) := rfl
theorem ev_dIRange1 (d : Den (List D)) (ρ : Ws.Env) : dIRange1 d ρ = ((d ρ).ob fun r => match r.1 with
  | [.int j] => if small62 j = true then some (rangeD 0 j.toNat, r.2) else Option.none
  | _ => Option.none) := rfl
theorem ev_dIRange2 (d : Den (List D)) (ρ : Ws.Env) : dIRange2 d ρ = ((d ρ).ob fun r => match r.1 with
  | [.int i, .int j] => if (small62 i && small62 j) = true then some (rangeD i (j - i).toNat, r.2) else Option.none
  | _ => Option.none) := rfl
theorem ev_dIRange3 (d : Den (List D)) (ρ : Ws.Env) : dIRange3 d ρ = ((d ρ).ob fun r => match r.1 with
  | [.int i, .int j, .int l] => if (small62 i && small62 j && decide (l = -1)) = true then some (rangeDC i (-1) (i - j).toNat, r.2) else Option.none
  | _ => Option.none) := rfl
theorem ev_dIEnum (d : Den (List D)) (ρ : Ws.Env) : dIEnum d ρ = ((d ρ).ob fun r => match r.1 with
  | [.lst ds] => some (enumD ds, r.2)
  | _ => Option.none) := rfl
theorem ev_dIZip (d : Den (List D)) (ρ : Ws.Env) : dIZip d ρ = ((d ρ).ob fun r => match r.1 with
  | [.lst ds, .lst es] => some (zipD ds es, r.2)
  | [.tup ds, .tup es] => some (zipD ds es, r.2)
  | _ => Option.none) := rfl
theorem ev_dFor (di : Den (List D)) (g : DenG) (body : Den Out) (ρ : Ws.Env) : dFor di g body ρ = (di ρ).ob fun r => forLoop g body r.1 r.2 := rfl
theorem ev_dLc (di : Den (List D)) (g : DenG) (tt : Den Bool) (te : Den D) (vs : List Nat) (ρ : Ws.Env) : dLc di g tt te vs ρ = (di ρ).ob fun r => (lcLoop g tt te vs r.1 [] (wipeE r.2 vs)).om fun q => (ownL q.1, restE r.2 q.2 vs) := rfl
theorem ev_dYes (ρ : Ws.Env) : dYes ρ = some (true, ρ) := rfl
theorem ev_dIx (da di : Den Rv) (ρ : Ws.Env) : dIx da di ρ = ((da ρ).ob fun x => (di x.2).ob fun y => (viewR y.2 y.1).ob fun dy => match dy with
  | .int i => match itemsR y.2 x.1 with
    | some q => (atI q.2 i).om fun d => (.val (.leaf d), y.2)
    | Option.none => (viewR y.2 x.1).ob fun dx => match dx with
      | .str s => (strAt s i).om fun d => (.val (.leaf d), y.2)
      | .scr ns => (atI ns i).om fun n => (.val (.leaf (.int n)), y.2)
      | _ => Option.none
  | _ => Option.none) := rfl
theorem ev_dNoPart (ρ : Ws.Env) : dNoPart ρ = some (Option.none, ρ) := rfl
theorem ev_dPart (d : Den Rv) (ρ : Ws.Env) : dPart d ρ = ((d ρ).ob fun r => (viewR r.2 r.1).ob fun x => match x with
  | .int i => some (some i, r.2)
  | _ => Option.none) := rfl
theorem ev_dSlice (d : Den Rv) (dl dh : DenO) (ρ : Ws.Env) : dSlice d dl dh ρ = ((d ρ).ob fun x => (dl x.2).ob fun l => (dh l.2).ob fun h => (itemsR h.2 x.1).ob fun q =>
  if q.1 = true then some (ownL (cutD q.2 l.1 h.1), h.2)
  else if isWhole q.2.length l.1 h.1 = true then Option.none else some (.val (.leaf (.tup (cutD q.2 l.1 h.1))), h.2)) := rfl
theorem ev_dRev (d : Den Rv) (ρ : Ws.Env) : dRev d ρ = (d ρ).ob fun x => (itemsR x.2 x.1).ob fun q => if q.1 = true then some (ownL q.2.reverse, x.2) else Option.none := rfl
theorem ev_dAdd (da db : Den Rv) (ρ : Ws.Env) : dAdd da db ρ = (da ρ).ob fun x => (db x.2).ob fun y => dAddK y.2 x.1 y.1 := rfl
theorem ev_dMul (da db : Den Rv) (ρ : Ws.Env) : dMul da db ρ = ((da ρ).ob fun x => (db x.2).ob fun y => (viewR y.2 y.1).ob fun dy => match dy with
  | .int j => match x.1 with
    | .val (.lst ws) => (flatW ws).ob fun xs => if xs.length * j.toNat ≤ sizeLine ∧ -(2 ^ 63) ≤ j ∧ j < 2 ^ 63 then some (ownL (repD xs j.toNat), y.2) else Option.none
    | r => (viewR y.2 r).ob fun dx => match dx with
      | .int i => (gMulI (.int i) (.int j)).om fun z => (.val (.leaf z), y.2)
      | _ => Option.none
  | _ => Option.none) := rfl
theorem ev_dUn (g : D → Option D) (d : Den Rv) (ρ : Ws.Env) : dUn g d ρ = (d ρ).ob fun x => (viewR x.2 x.1).ob fun dx => (g dx).ob fun r => (sv r).ob fun _ => some (.val (.leaf r), x.2) := rfl
theorem ev_dAppend (i : Nat) (d : Den Rv) (ρ : Ws.Env) : dAppend i d ρ = (ownAt ρ i).ob fun _ => (dSh d ρ).ob fun r => (ownAt r.2 i).ob fun ws => if ws.length < sizeLine then some (.val (.leaf .none), r.2.set i (some (.lst (ws ++ [.leaf r.1])))) else Option.none := rfl
theorem ev_dExtend (i : Nat) (d : Den Rv) (ρ : Ws.Env) : dExtend i d ρ = ((ownAt ρ i).ob fun _ => (dSh d ρ).ob fun r => (ownAt r.2 i).ob fun ws => (flatW ws).ob fun ds => match r.1 with
  | .lst es => if ds.length + es.length ≤ sizeLine then some (.val (.leaf .none), r.2.set i (some (.lst (leaves (ds ++ es))))) else Option.none
  | _ => Option.none) := rfl
theorem ev_dPopAt (i : Nat) (d : Den Rv) (ρ : Ws.Env) : dPopAt i d ρ = ((ownAt ρ i).ob fun _ => (dSh d ρ).ob fun r => (ownAt r.2 i).ob fun ws => (flatW ws).ob fun ds => match r.1 with
  | .int j => if -(2 ^ 63) ≤ j ∧ j < 2 ^ 63 then (seqIndex? j ds.length).ob fun q => (ds[q]?).om fun z => (.val (.leaf z), r.2.set i (some (.lst (leaves (ds.eraseIdx q))))) else Option.none
  | _ => Option.none) := rfl
theorem ev_dPop (i : Nat) (ρ : Ws.Env) : dPop i ρ = (ownAt ρ i).ob fun ws => (flatW ws).ob fun ds => (ds[ds.length - 1]?).om fun z => (.val (.leaf z), ρ.set i (some (.lst (leaves ds.dropLast)))) := rfl
theorem ev_gIx (i : Nat) (di : Den Rv) (d : D) (ρ : Ws.Env) : gIx i di d ρ = ((ownAt ρ i).ob fun _ => (dSh di ρ).ob fun r => (ownAt r.2 i).ob fun ws => (flatW ws).ob fun ds => match r.1 with
  | .int j => (ixN ds.length j).om fun q => r.2.set i (some (.lst (leaves (ds.set q d))))
  | _ => Option.none) := rfl
theorem ev_dList (d : Den Rv) (ρ : Ws.Env) : dList d ρ = (d ρ).ob fun x => (itemsR x.2 x.1).om fun q => (ownL q.2, x.2) := rfl
theorem ev_dTuple (d : Den Rv) (ρ : Ws.Env) : dTuple d ρ = (d ρ).ob fun x => (itemsR x.2 x.1).om fun q => (.val (.leaf (.tup q.2)), x.2) := rfl
theorem ev_dDivmod (da db : Den Rv) (ρ : Ws.Env) : dDivmod da db ρ = ((da ρ).ob fun x => (db x.2).ob fun y => (viewR y.2 x.1).ob fun dx => (viewR y.2 y.1).ob fun dy => match dx, dy with
  | .int i, .int j => if 0 < j ∧ j.natAbs.log2 < 9000 then some (.val (.leaf (.tup [.int (i / j), .int (i % j)])), y.2) else Option.none
  | _, _ => Option.none) := rfl
theorem ev_dXm (c : Nat) (names : List Str) (rev : Bool) (d : Den (List D)) (ρ : Ws.Env) : dXm c names rev d ρ = (d ρ).ob fun r => (mkF names (revIf rev r.1)).om fun gs => (.val (.leaf (.exc c gs)), r.2) := rfl
theorem ev_dXf (f : Str) (ok : Nat → Bool) (d : Den Rv) (ρ : Ws.Env) : dXf f ok d ρ = ((d ρ).ob fun r => match r.1 with
  | .val (.leaf (.exc c gs)) => if ok c = true then (gs.lookup f).om fun x => (.val (.leaf x), r.2) else Option.none
  | _ => Option.none) := rfl
theorem ev_dIsX (g : Nat → Option Bool) (d : Den Rv) (ρ : Ws.Env) : dIsX g d ρ = ((d ρ).ob fun r => (viewR r.2 r.1).ob fun y => match y with
  | .exc c _ => (g c).om fun b => (.val (.leaf (.bool b)), r.2)
  | _ => Option.none) := rfl
theorem ev_dPar (i j : Nat) (dr : Den (List Rv)) (ρ : Ws.Env) : dPar i j dr ρ = ((dr ρ).ob fun r => match r.1 with
  | [.val x, .val y] => if i < r.2.length ∧ j < r.2.length ∧ i ≠ j then some (.next, (r.2.set i (some x)).set j (some y)) else Option.none
  | _ => Option.none) := rfl
theorem ev_dDict0 (ρ : Ws.Env) : dDict0 ρ = some (.val (.dct []), ρ) := rfl
theorem ev_dDict1 (dk dv : Den Rv) (ρ : Ws.Env) : dDict1 dk dv ρ = ((dk ρ).ob fun x => (viewR x.2 x.1).ob fun y => match y with
  | .int i => (dSh dv x.2).om fun z => (.val (.dct [(.int i, z.1)]), z.2)
  | _ => Option.none) := rfl
theorem ev_dXr (c : Nat) (names : List Str) (d : Den (List D)) (ρ : Ws.Env) : dXr c names d ρ = (d ρ).ob fun r => (mkF names r.1).om fun gs => ((c, gs), r.2) := rfl
theorem ev_dXif (t : Den Bool) (d1 d2 : Den Exn) (ρ : Ws.Env) : dXif t d1 d2 ρ = (t ρ).ob fun r => if r.1 = true then d1 r.2 else d2 r.2 := rfl
theorem ev_dCallX (den : List D → Option Exn) (dr : Den (List Rv)) (ρ : Ws.Env) : dCallX den dr ρ = (dr ρ).ob fun r => (leafsR r.1).ob fun ds => (den ds).om fun x => (x, r.2) := rfl
theorem ev_dFld (f : Str) (ok : Nat → Bool) (d : Den Rv) (ρ : Ws.Env) : dFld f ok d ρ = (d ρ).ob fun r => (objR r.2 r.1).ob fun o => if ok o.1 = true then (o.2.lookup f).om fun x => (.val (.leaf x), r.2) else Option.none := rfl
theorem ev_dCon (f : Str) (con : Nat → Option D) (d : Den Rv) (ρ : Ws.Env) : dCon f con d ρ = (d ρ).ob fun r => (objR r.2 r.1).ob fun o => if o.2.lookup f = Option.none then (con o.1).ob fun x => (sv x).om fun _ => (.val (.leaf x), r.2) else Option.none := rfl
theorem ev_dFldSet (i : Nat) (f : Str) (ok : Nat → Bool) (d : Den Rv) (ρ : Ws.Env) : dFldSet i f ok d ρ = ((dSh d ρ).ob fun r => match slotW r.2 i with
  | some (.ins c gs) => if ok c = true ∧ gs.length < 1000 then some (.next, r.2.set i (some (.ins c (putG f r.1 gs)))) else Option.none
  | _ => Option.none) := rfl
theorem ev_dMk (c : Nat) (den : List W → Option (W × List W)) (dr : Den (List Rv)) (ρ : Ws.Env) : dMk c den dr ρ = ((dr ρ).ob fun r => if (slotsOf r.1).Nodup then (argW r.2 r.1).ob fun ws => (den (.ins c [] :: ws)).ob fun y => match y.1, y.2 with
  | .leaf .none, x :: ws' => some (.val (.leaf x.toD), putBack r.1 ws' (clearAll r.1 r.2))
  | _, _ => Option.none else Option.none) := rfl
theorem ev_dIxD (da di : Den Rv) (ρ : Ws.Env) : dIxD da di ρ = ((da ρ).ob fun x => (di x.2).ob fun y => (dctR y.2 x.1).ob fun kvs => (viewR y.2 y.1).ob fun dk => (toKey dk).ob fun k =>
  if k.depth ≤ 8 then (getDct kvs k).om fun dv => (.val (.leaf dv), y.2) else Option.none) := rfl
theorem ev_gIxD (i : Nat) (di : Den Rv) (d : D) (ρ : Ws.Env) : gIxD i di d ρ = ((slotW ρ i).ob fun _ => (dSh di ρ).ob fun r => match slotW r.2 i with
  | some (.dct kvs) => (toKey r.1).ob fun k => if k.depth ≤ 8 ∧ kvs.length < sizeLine then some (r.2.set i (some (.dct (putDct kvs r.1 d k)))) else Option.none
  | _ => Option.none) := rfl
theorem ev_dIKeys (d : Den Rv) (ρ : Ws.Env) : dIKeys d ρ = ((dSh d ρ).ob fun r => match r.1 with
  | .dct kvs => some (kvs.map (·.1), r.2)
  | _ => Option.none) := rfl
theorem ev_dIVals (d : Den Rv) (ρ : Ws.Env) : dIVals d ρ = ((dSh d ρ).ob fun r => match r.1 with
  | .dct kvs => some (kvs.map (·.2), r.2)
  | _ => Option.none) := rfl
theorem ev_dIItems (d : Den Rv) (ρ : Ws.Env) : dIItems d ρ = ((dSh d ρ).ob fun r => match r.1 with
  | .dct kvs => some (pairsD kvs, r.2)
  | _ => Option.none) := rfl
theorem ev_dDict (d : Den Rv) (ρ : Ws.Env) : dDict d ρ = (d ρ).ob fun x => (itemsR x.2 x.1).ob fun q => if q.1 = true then (asPairs q.2).ob fun ps => (putsD [] ps).om fun kvs => (.val (.dct kvs), x.2) else Option.none := rfl
theorem ev_dItL (d : Den Rv) (ρ : Ws.Env) : dItL d ρ = (d ρ).ob fun x => (dctR x.2 x.1).om fun kvs => (ownL (pairsD kvs), x.2) := rfl
theorem ev_dItT (d : Den Rv) (ρ : Ws.Env) : dItT d ρ = (d ρ).ob fun x => (dctR x.2 x.1).om fun kvs => (.val (.leaf (.tup (pairsD kvs))), x.2) := rfl
theorem ev_dSorted (d : Den Rv) (ρ : Ws.Env) : dSorted d ρ = (d ρ).ob fun x => (itemsR x.2 x.1).ob fun q => (asTups q.2).om fun nss => (ownL ((sortI nss).map mkTup), x.2) := rfl
theorem ev_dIZipN (d : Den (List D)) (ρ : Ws.Env) : dIZipN d ρ = ((d ρ).ob fun r => match r.1 with
  | [.tup xs, .tup ys] => some (zipD xs ys, r.2)
  | _ => Option.none) := rfl
theorem ev_revR (rev : Bool) (dr : Den (List Rv)) (ρ : Ws.Env) : revR rev dr ρ = (dr ρ).om fun r => (revIf rev r.1, r.2) := rfl
theorem ev_gSub (i j : Int) : gSub (.int i) (.int j) = some (.int (i - j)) := rfl
theorem ev_gLt (i j : Int) : gLt (.int i) (.int j) = some (.bool (decide (i < j))) := rfl
theorem ev_gLe (i j : Int) : gLe (.int i) (.int j) = some (.bool (decide (i ≤ j))) := rfl
theorem ev_gGt (i j : Int) : gGt (.int i) (.int j) = some (.bool (decide (j < i))) := rfl
theorem ev_gGe (i j : Int) : gGe (.int i) (.int j) = some (.bool (decide (j ≤ i))) := rfl
theorem ev_gMax2 (i j : Int) : gMax2 (.int i) (.int j) = some (.int (if j > i then j else i)) := rfl
theorem ev_gMin2 (i j : Int) : gMin2 (.int i) (.int j) = some (.int (if j < i then j else i)) := rfl
theorem ev_gMod (i j : Int) : gMod (.int i) (.int j) = if 0 < j then some (.int (i % j)) else Option.none := by
  by_cases h : 0 < j
  · rw [mod_some h, if_pos h]
  · rw [if_neg h]
    show (if decide (0 < j) = true then some (D.int (i % j)) else Option.none) = _
    rw [decide_eq_false h]
    rfl
theorem ev_gDiv (i j : Int) : gDiv (.int i) (.int j) = if 0 < j ∧ j.natAbs.log2 < 9000 then some (.int (i / j)) else Option.none := by
  by_cases h : 0 < j ∧ j.natAbs.log2 < 9000
  · rw [div_some h, if_pos h]
  · rw [if_neg h]
    show (if decide (0 < j ∧ j.natAbs.log2 < 9000) = true then some (D.int (i / j)) else Option.none) = _
    rw [decide_eq_false h]
    rfl
theorem ev_gMulI (i j : Int) : gMulI (.int i) (.int j) = if (-18446744073709551616 < i ∧ i < 18446744073709551616) ∨ (-18446744073709551616 < j ∧ j < 18446744073709551616) then some (.int (i * j)) else Option.none := by
  by_cases h : (-18446744073709551616 < i ∧ i < 18446744073709551616) ∨ (-18446744073709551616 < j ∧ j < 18446744073709551616)
  · rw [mulI_some h, if_pos h]
  · rw [if_neg h]
    show (if decide ((-(2 ^ 64) < i ∧ i < 2 ^ 64) ∨ (-(2 ^ 64) < j ∧ j < 2 ^ 64)) = true then some (D.int (i * j)) else Option.none) = _
    have h' : ¬ ((-(2 ^ 64 : Int) < i ∧ i < 2 ^ 64) ∨ (-(2 ^ 64 : Int) < j ∧ j < 2 ^ 64)) := h
    rw [decide_eq_false h']
    rfl
theorem ev_eqv (i j : Int) (n : Bool) : gEqv n (.int i) (.int j) = some (.bool (if n = true then !decide (i = j) else decide (i = j))) := by
  have e : PyData.eqv (.int i) (.int j) = decide (i = j) := by
    rw [Bool.eq_iff_iff]
    simp [PyData.eqv]
  show some (D.bool (if n = true then !PyData.eqv (.int i) (.int j) else PyData.eqv (.int i) (.int j))) = _
  rw [e]
theorem ev_sv_int (i : Int) : sv (.int i) = some (.int i) := rfl
theorem ev_sv_bool (i : Bool) : sv (.bool i) = some (.bl i) := rfl
theorem ev_sv_none : sv .none = some .non := rfl
theorem ev_sv_str (i : Str) : sv (.str i) = some (.str i) := rfl
theorem toDs_leaves : ∀ l : List D, W.toDs (leaves l) = l
  | [] => rfl
  | d :: l => congrArg (d :: ·) (toDs_leaves l)
theorem ev_toDs (l : List D) : W.toDs (leaves l) = l := toDs_leaves l
theorem ev_flat : ∀ l : List D, flatW (leaves l) = some l
  | [] => rfl
  | d :: l => by
    show (flatW (leaves l)).map _ = _
    rw [ev_flat l]
    rfl
theorem ev_leaf1 (d : D) : [W.leaf d] = leaves [d] := rfl
theorem ev_leafApp (l : List D) (d : D) : leaves l ++ [W.leaf d] = leaves (l ++ [d]) := by simp [leaves]
theorem ev_leafLen (l : List D) : (leaves l).length = l.length := by simp [leaves]
theorem ev_flatNil : flatW [] = some [] := rfl
theorem ev_flatCons (d : D) (r : List W) : flatW (.leaf d :: r) = (flatW r).map (d :: ·) := rfl
theorem e_viewV (ρ : Ws.Env) (x : W) : viewR ρ (.val x) = some x.toD := rfl
theorem e_viewS (ρ : Ws.Env) (i : Nat) : viewR ρ (.slot i) = (slotW ρ i).om W.toD := rfl
theorem e_shV (ρ : Ws.Env) (x : W) : shareR ρ (.val x) = some (x.toD, ρ) := rfl
theorem e_shS (ρ : Ws.Env) (i : Nat) : shareR ρ (.slot i) = (slotW ρ i).om fun x => (x.toD, ρ.set i (some (.leaf x.toD))) := rfl
theorem e_putV (ρ : Ws.Env) (x : W) (i : Nat) : putR i (.val x, ρ) = if i < ρ.length then some (ρ.set i (some x)) else Option.none := rfl
theorem e_putS (ρ : Ws.Env) (j : Nat) (i : Nat) : putR i (.slot j, ρ) = (shareR ρ (.slot j)).ob fun y => if i < y.2.length then some (y.2.set i (some (.leaf y.1))) else Option.none := rfl
theorem e_rvV (ρ : Ws.Env) (x : W) : rvW ρ (.val x) = some x := rfl
theorem e_rvS (ρ : Ws.Env) (i : Nat) : rvW ρ (.slot i) = slotW ρ i := rfl
theorem e_items (ρ : Ws.Env) (r : Rv) : itemsR ρ r = (rvW ρ r).ob itemsW := rfl
theorem e_itLst (ds : List D) : itemsW (.leaf (.lst ds)) = some (true, ds) := rfl
theorem e_itTup (ds : List D) : itemsW (.leaf (.tup ds)) = some (false, ds) := rfl
theorem e_itOwn (ws : List W) : itemsW (.lst ws) = (flatW ws).om fun ds => (true, ds) := rfl
theorem e_itI (i : Int) : itemsW (.leaf (.int i)) = Option.none := rfl
theorem e_itB (i : Bool) : itemsW (.leaf (.bool i)) = Option.none := rfl
theorem e_itN : itemsW (.leaf .none) = Option.none := rfl
theorem e_itStr (s : Str) : itemsW (.leaf (.str s)) = Option.none := rfl
theorem e_itScr (s : List Int) : itemsW (.leaf (.scr s)) = Option.none := rfl
theorem e_itDct (s : List (D × D)) : itemsW (.leaf (.dct s)) = Option.none := rfl
theorem e_own (ρ : Ws.Env) (i : Nat) : ownAt ρ i = match slotW ρ i with
  | some (.lst ws) => some ws
  | _ => Option.none := rfl
theorem e_dctV (ρ : Ws.Env) (kvs : List (D × D)) : dctR ρ (.val (.dct kvs)) = some kvs := rfl
theorem e_dctL (ρ : Ws.Env) (kvs : List (D × D)) : dctR ρ (.val (.leaf (.dct kvs))) = some kvs := rfl
theorem e_dctS (ρ : Ws.Env) (i : Nat) : dctR ρ (.slot i) = match slotW ρ i with
  | some (.dct kvs) => some kvs
  | some (.leaf (.dct kvs)) => some kvs
  | _ => Option.none := rfl
theorem e_objV (ρ : Ws.Env) (c : Nat) (gs : List (Str × D)) : objR ρ (.val (.leaf (.obj c gs))) = some (c, gs) := rfl
theorem e_objS (ρ : Ws.Env) (i : Nat) : objR ρ (.slot i) = match slotW ρ i with
    | some (.ins c gs) => some (c, gs)
    | _ => Option.none := rfl
theorem e_int1 (i : Int) : gInt1 (.int i) = some (.int i) := rfl
theorem e_int1b (b : Bool) : gInt1 (.bool b) = some (.int (if b then 1 else 0)) := rfl
theorem e_abs (i : Int) : gAbs (.int i) = some (.int (if i < 0 then -i else i)) := rfl
theorem e_neg (i : Int) : gNeg (.int i) = some (.int (-i)) := rfl
theorem e_lenL (ds : List D) : gLen (.lst ds) = some (.int ds.length) := rfl
theorem e_lenT (ds : List D) : gLen (.tup ds) = some (.int ds.length) := rfl
theorem e_lenS (ds : List Int) : gLen (.scr ds) = some (.int ds.length) := rfl
theorem e_all (ds : List D) : gAll (.lst ds) = (asBools ds).om fun bs => .bool (bs.all id) := rfl
theorem e_any (ds : List D) : gAny (.lst ds) = (asBools ds).om fun bs => .bool (bs.any id) := rfl
theorem e_sum (ds : List D) : gSum (.lst ds) = (asInts ds).om fun bs => .int bs.sum := rfl
theorem e_isB (a b : Bool) (n : Bool) : gIsB n (.bool a) (.bool b) = some (.bool (if n = true then !decide (a = b) else decide (a = b))) := rfl
theorem e_isN (d : D) (n : Bool) : gIsN n d .none = some (.bool (if n = true then !isNone d else isNone d)) := rfl
theorem e_argN (ρ : Ws.Env) : argW ρ [] = some [] := rfl
theorem e_argV (ρ : Ws.Env) (x : W) (r : List Rv) : argW ρ (.val x :: r) = (argW ρ r).om (x :: ·) := rfl
theorem e_argS (ρ : Ws.Env) (i : Nat) (r : List Rv) : argW ρ (.slot i :: r) = (slotW ρ i).ob fun x => (argW ρ r).om (x :: ·) := rfl
theorem e_slN : slotsOf [] = [] := rfl
theorem e_slV (x : W) (r : List Rv) : slotsOf (.val x :: r) = slotsOf r := rfl
theorem e_slS (i : Nat) (r : List Rv) : slotsOf (.slot i :: r) = i :: slotsOf r := rfl
theorem e_clN (ρ : Ws.Env) : clearAll [] ρ = ρ := rfl
theorem e_clV (x : W) (r : List Rv) (ρ : Ws.Env) : clearAll (.val x :: r) ρ = clearAll r ρ := rfl
theorem e_clS (i : Nat) (r : List Rv) (ρ : Ws.Env) : clearAll (.slot i :: r) ρ = clearAll r (ρ.set i Option.none) := rfl
theorem e_pbN (xs : List W) (ρ : Ws.Env) : putBack [] xs ρ = ρ := rfl
theorem e_pbV (x y : W) (r : List Rv) (xs : List W) (ρ : Ws.Env) : putBack (.val x :: r) (y :: xs) ρ = putBack r xs ρ := rfl
theorem e_pbS (i : Nat) (y : W) (r : List Rv) (xs : List W) (ρ : Ws.Env) : putBack (.slot i :: r) (y :: xs) ρ = putBack r xs (ρ.set i (some y)) := rfl
theorem e_lr0 : leafR [] = [] := rfl
theorem e_lr1 (d : D) (r : List D) : leafR (d :: r) = .val (.leaf d) :: leafR r := rfl
theorem e_wp0 (ρ : Ws.Env) : wipeE ρ [] = ρ := rfl
theorem e_wp1 (ρ : Ws.Env) (v : Nat) (vs : List Nat) : wipeE ρ (v :: vs) = (wipeE ρ vs).set v Option.none := rfl
theorem e_re0 (ρ0 ρ : Ws.Env) : restE ρ0 ρ [] = ρ := rfl
theorem e_re1 (ρ0 ρ : Ws.Env) (v : Nat) (vs : List Nat) : restE ρ0 ρ (v :: vs) = (restE ρ0 ρ vs).set v (match slotW ρ0 v with
    | some (.leaf d) => some (.leaf d)
    | _ => Option.none) := rfl
theorem e_slotS (i : Nat) (x : Option W) (ρ : Ws.Env) : slotW (x :: ρ) (i + 1) = slotW ρ i := rfl
theorem e_slot0 (x : Option W) (ρ : Ws.Env) : slotW (x :: ρ) 0 = x := rfl
theorem e_as0 {α : Type} : allSome ([] : List (Option α)) = some [] := rfl
theorem e_as1 {α : Type} (x : α) (r : List (Option α)) : allSome (some x :: r) = (allSome r).om (x :: ·) := rfl
theorem e_addK (ρ : Ws.Env) (i j : Int) : dAddK ρ (.val (.leaf (.int i))) (.val (.leaf (.int j))) = some (.val (.leaf (.int (i + j))), ρ) := rfl
theorem ev_dAddK (ρ : Ws.Env) (x y : Rv) : dAddK ρ x y = match itemsR ρ x, itemsR ρ y with
  | some (true, xs), some (true, ys) => if xs.length + ys.length ≤ sizeLine then some (ownL (xs ++ ys), ρ) else Option.none
  | some (false, xs), some (false, ys) => if xs.length + ys.length ≤ sizeLine then some (.val (.leaf (.tup (xs ++ ys))), ρ) else Option.none
  | _, _ => match viewR ρ x, viewR ρ y with
    | some (.int i), some (.int j) => some (.val (.leaf (.int (i + j))), ρ)
    | some (.str s), some (.str t) => if s.length + t.length ≤ sizeLine then some (.val (.leaf (.str (s ++ t))), ρ) else Option.none
    | _, _ => Option.none := rfl
theorem e_revT2 (a b : Rv) : revIf true [a, b] = [b, a] := rfl
theorem e_revT3 (a b c : Rv) : revIf true [a, b, c] = [c, b, a] := rfl
theorem e_revF (l : List Rv) : revIf false l = l := rfl
theorem e_tyI (i : Int) : tyD (.int i) = some "int" := rfl
theorem e_tyB (i : Bool) : tyD (.bool i) = some "bool" := rfl
theorem e_tyN : tyD .none = some "NoneType" := rfl
theorem e_tyS (i : Str) : tyD (.str i) = some "str" := rfl
theorem e_tyT (i : List D) : tyD (.tup i) = some "tuple" := rfl
theorem e_tyL (i : List D) : tyD (.lst i) = some "list" := rfl
theorem e_tyD (i : List (D × D)) : tyD (.dct i) = some "dict" := rfl
theorem e_toDleaf (d : D) : W.toD (.leaf d) = d := rfl
theorem e_toDlst (l : List W) : W.toD (.lst l) = .lst (W.toDs l) := rfl
theorem e_toDdct (l : List (D × D)) : W.toD (.dct l) = .dct l := rfl
theorem e_toDins (c : Nat) (l : List (Str × D)) : W.toD (.ins c l) = .obj c l := rfl
theorem e_toDs0 : W.toDs [] = [] := rfl
theorem e_toDs1 (x : W) (l : List W) : W.toDs (x :: l) = x.toD :: W.toDs l := rfl
theorem e_ownL (l : List D) : ownL l = .val (.lst (leaves l)) := rfl
theorem e_at0 (x : D) (r : List D) : atI (x :: r) 0 = some x := by
  unfold atI ixN
  rw [if_pos (by omega), if_pos (by rw [List.length_cons]; omega)]
  rfl
theorem e_at1 (x y : D) (r : List D) : atI (x :: y :: r) 1 = some y := by
  unfold atI ixN
  rw [if_pos (by omega), if_pos (by rw [List.length_cons, List.length_cons]; omega)]
  rfl
theorem e_at2 (x y z : D) (r : List D) : atI (x :: y :: z :: r) 2 = some z := by
  unfold atI ixN
  rw [if_pos (by omega), if_pos (by rw [List.length_cons, List.length_cons, List.length_cons]; omega)]
  rfl
theorem e_atM1 {α : Type} (xs : List α) (x : α) : atI (xs ++ [x]) (-1) = some x := by
  unfold atI ixN
  rw [if_neg (by omega), if_pos (by rw [List.length_append, List.length_singleton]; omega)]
  show (xs ++ [x])[(-1 + ((xs ++ [x]).length : Int)).toNat]? = _
  rw [show (-1 + ((xs ++ [x]).length : Int)).toNat = xs.length by rw [List.length_append, List.length_singleton]; omega]
  simp
theorem at_nat {α : Type} (xs : List α) (k : Nat) : atI xs (k : Int) = xs[k]? := by
  unfold atI ixN
  rw [if_pos (by omega)]
  by_cases h : (k : Int) < xs.length
  · rw [if_pos h]
    rfl
  · rw [if_neg h]
    show Option.none = _
    rw [List.getElem?_eq_none (by omega)]
theorem cut_lo (xs : List D) (k : Nat) : cutD xs (some (k : Int)) Option.none = xs.drop k := by
  unfold cutD
  rw [HT.sIx_nat, HT.sIx_none]
  by_cases h : k ≤ xs.length
  · rw [Nat.min_eq_left h, List.take_of_length_le (by rw [List.length_drop]; omega)]
  · rw [Nat.min_eq_right (by omega), List.drop_eq_nil_of_le (show xs.length ≤ k by omega)]
    simp
theorem cut_hi (xs : List D) (k : Nat) : cutD xs Option.none (some (k : Int)) = xs.take k := by
  unfold cutD
  rw [HT.sIx_nat, HT.sIx_none, Nat.sub_zero]
  rw [List.drop_zero, ← List.take_eq_take_min]
theorem e_cut1 (xs : List D) : cutD xs (some 1) Option.none = xs.drop 1 := cut_lo xs 1
theorem whole_lo (n k : Nat) : isWhole n (some (k : Int)) Option.none = decide (min k n = 0) := by
  unfold isWhole
  rw [HT.sIx_nat, HT.sIx_none]
  simp
theorem e_whole1 (n : Nat) : isWhole n (some 1) Option.none = decide (n = 0) := by
  rw [show (some (1 : Int)) = some ((1 : Nat) : Int) from rfl, whole_lo]
  congr 1
  rw [eq_iff_iff]
  omega
theorem e_lv0 : leaves [] = [] := rfl
theorem e_lv1 (d : D) (r : List D) : leaves (d :: r) = .leaf d :: leaves r := rfl
theorem e_isi_int_0 (i : Int) : gIsi ["int"] (.int i) = some (.bool true) := rfl
theorem e_isi_int_1 (b : Bool) : gIsi ["int"] (.bool b) = some (.bool true) := rfl
theorem e_isi_int_2  : gIsi ["int"] .none = some (.bool false) := rfl
theorem e_isi_int_3 (s : Str) : gIsi ["int"] (.str s) = some (.bool false) := rfl
theorem e_isi_int_4 (x : List D) : gIsi ["int"] (.tup x) = some (.bool false) := rfl
theorem e_isi_int_5 (x : List D) : gIsi ["int"] (.lst x) = some (.bool false) := rfl
theorem e_isi_int_6 (x : List (D × D)) : gIsi ["int"] (.dct x) = some (.bool false) := rfl
theorem e_isi_int_7 (x : List Int) : gIsi ["int"] (.scr x) = some (.bool false) := rfl
theorem e_isi_bool_0 (i : Int) : gIsi ["bool"] (.int i) = some (.bool false) := rfl
theorem e_isi_bool_1 (b : Bool) : gIsi ["bool"] (.bool b) = some (.bool true) := rfl
theorem e_isi_bool_2  : gIsi ["bool"] .none = some (.bool false) := rfl
theorem e_isi_bool_3 (s : Str) : gIsi ["bool"] (.str s) = some (.bool false) := rfl
theorem e_isi_bool_4 (x : List D) : gIsi ["bool"] (.tup x) = some (.bool false) := rfl
theorem e_isi_bool_5 (x : List D) : gIsi ["bool"] (.lst x) = some (.bool false) := rfl
theorem e_isi_bool_6 (x : List (D × D)) : gIsi ["bool"] (.dct x) = some (.bool false) := rfl
theorem e_isi_bool_7 (x : List Int) : gIsi ["bool"] (.scr x) = some (.bool false) := rfl
theorem e_isi_str_0 (i : Int) : gIsi ["str"] (.int i) = some (.bool false) := rfl
theorem e_isi_str_1 (b : Bool) : gIsi ["str"] (.bool b) = some (.bool false) := rfl
theorem e_isi_str_2  : gIsi ["str"] .none = some (.bool false) := rfl
theorem e_isi_str_3 (s : Str) : gIsi ["str"] (.str s) = some (.bool true) := rfl
theorem e_isi_str_4 (x : List D) : gIsi ["str"] (.tup x) = some (.bool false) := rfl
theorem e_isi_str_5 (x : List D) : gIsi ["str"] (.lst x) = some (.bool false) := rfl
theorem e_isi_str_6 (x : List (D × D)) : gIsi ["str"] (.dct x) = some (.bool false) := rfl
theorem e_isi_str_7 (x : List Int) : gIsi ["str"] (.scr x) = some (.bool false) := rfl
theorem e_isi_tuple_0 (i : Int) : gIsi ["tuple"] (.int i) = some (.bool false) := rfl
theorem e_isi_tuple_1 (b : Bool) : gIsi ["tuple"] (.bool b) = some (.bool false) := rfl
theorem e_isi_tuple_2  : gIsi ["tuple"] .none = some (.bool false) := rfl
theorem e_isi_tuple_3 (s : Str) : gIsi ["tuple"] (.str s) = some (.bool false) := rfl
theorem e_isi_tuple_4 (x : List D) : gIsi ["tuple"] (.tup x) = some (.bool true) := rfl
theorem e_isi_tuple_5 (x : List D) : gIsi ["tuple"] (.lst x) = some (.bool false) := rfl
theorem e_isi_tuple_6 (x : List (D × D)) : gIsi ["tuple"] (.dct x) = some (.bool false) := rfl
theorem e_isi_tuple_7 (x : List Int) : gIsi ["tuple"] (.scr x) = some (.bool false) := rfl
theorem e_isi_list_0 (i : Int) : gIsi ["list"] (.int i) = some (.bool false) := rfl
theorem e_isi_list_1 (b : Bool) : gIsi ["list"] (.bool b) = some (.bool false) := rfl
theorem e_isi_list_2  : gIsi ["list"] .none = some (.bool false) := rfl
theorem e_isi_list_3 (s : Str) : gIsi ["list"] (.str s) = some (.bool false) := rfl
theorem e_isi_list_4 (x : List D) : gIsi ["list"] (.tup x) = some (.bool false) := rfl
theorem e_isi_list_5 (x : List D) : gIsi ["list"] (.lst x) = some (.bool true) := rfl
theorem e_isi_list_6 (x : List (D × D)) : gIsi ["list"] (.dct x) = some (.bool false) := rfl
theorem e_isi_list_7 (x : List Int) : gIsi ["list"] (.scr x) = some (.bool true) := rfl
theorem e_isi_dict_0 (i : Int) : gIsi ["dict"] (.int i) = some (.bool false) := rfl
theorem e_isi_dict_1 (b : Bool) : gIsi ["dict"] (.bool b) = some (.bool false) := rfl
theorem e_isi_dict_2  : gIsi ["dict"] .none = some (.bool false) := rfl
theorem e_isi_dict_3 (s : Str) : gIsi ["dict"] (.str s) = some (.bool false) := rfl
theorem e_isi_dict_4 (x : List D) : gIsi ["dict"] (.tup x) = some (.bool false) := rfl
theorem e_isi_dict_5 (x : List D) : gIsi ["dict"] (.lst x) = some (.bool false) := rfl
theorem e_isi_dict_6 (x : List (D × D)) : gIsi ["dict"] (.dct x) = some (.bool true) := rfl
theorem e_isi_dict_7 (x : List Int) : gIsi ["dict"] (.scr x) = some (.bool false) := rfl
theorem e_isi_list_tuple_0 (i : Int) : gIsi ["list", "tuple"] (.int i) = some (.bool false) := rfl
theorem e_isi_list_tuple_1 (b : Bool) : gIsi ["list", "tuple"] (.bool b) = some (.bool false) := rfl
theorem e_isi_list_tuple_2  : gIsi ["list", "tuple"] .none = some (.bool false) := rfl
theorem e_isi_list_tuple_3 (s : Str) : gIsi ["list", "tuple"] (.str s) = some (.bool false) := rfl
theorem e_isi_list_tuple_4 (x : List D) : gIsi ["list", "tuple"] (.tup x) = some (.bool true) := rfl
theorem e_isi_list_tuple_5 (x : List D) : gIsi ["list", "tuple"] (.lst x) = some (.bool true) := rfl
theorem e_isi_list_tuple_6 (x : List (D × D)) : gIsi ["list", "tuple"] (.dct x) = some (.bool false) := rfl
theorem e_isi_list_tuple_7 (x : List Int) : gIsi ["list", "tuple"] (.scr x) = some (.bool true) := rfl
theorem fn_slot {np n : Nat} {den : Den Out} {ws : List W} {ρ' : Ws.Env} {x : W} {ws' : List W} {i : Nat} (hl : ws.length = np) (h : den (ws.map some ++ List.replicate (n - np) Option.none) = some (.ret (.slot i), ρ')) (hi : ¬ i < np) (hx : slotW ρ' i = some x) (ha : allSome (ρ'.take np) = some ws') : dFn np n den ws = some (x, ws') := by
  unfold dFn
  rw [if_pos hl, h]
  show (if i < np then _ else (slotW ρ' i).bind fun x => (allSome (ρ'.take np)).map fun ws => (x, ws)) = _
  rw [if_neg hi, hx]
  show (allSome (ρ'.take np)).map _ = _
  rw [ha]
  rfl
theorem e_lastGet {α : Type} (xs : List α) (x : α) : (xs ++ [x])[(xs ++ [x]).length - 1]? = some x := by simp
theorem e_dropLast {α : Type} (xs : List α) (x : α) : (xs ++ [x]).dropLast = xs := by simp
theorem ev_asBoolsMap {α : Type} (f : α → Bool) : ∀ l : List α, asBools (l.map fun x => .bool (f x)) = some (l.map f)
  | [] => rfl
  | x :: l => by
    show (asBools (l.map fun x => D.bool (f x))).map _ = _
    rw [ev_asBoolsMap f l]
    rfl
theorem ev_asIntsMap {α : Type} (f : α → Int) : ∀ l : List α, asInts (l.map fun x => .int (f x)) = some (l.map f)
  | [] => rfl
  | x :: l => by
    show (asInts (l.map fun x => D.int (f x))).map _ = _
    rw [ev_asIntsMap f l]
    rfl
theorem ev_dFn (np n : Nat) (b : Den Out) (ws : List W) : dFn np n b ws = if ws.length = np then (b (ws.map some ++ List.replicate (n - np) Option.none)).ob (dOut np) else Option.none := rfl
theorem ev_dOutV (np : Nat) (x : W) (ρ : Ws.Env) : dOut np (.ret (.val x), ρ) = (allSome (ρ.take np)).map fun ws => (x, ws) := rfl
theorem ev_dOutS (np i : Nat) (ρ : Ws.Env) : dOut np (.ret (.slot i), ρ) = if i < np then (shareR ρ (.slot i)).bind fun y => (allSome (y.2.take np)).map fun ws => (.leaf y.1, ws) else (slotW ρ i).bind fun x => (allSome (ρ.take np)).map fun ws => (x, ws) := rfl
theorem ev_dOutN (np : Nat) (ρ : Ws.Env) : dOut np (.next, ρ) = (allSome (ρ.take np)).map fun ws => (.leaf .none, ws) := rfl
/-! ### one turn of a loop -/
def lcStep (g : DenG) (tt : Den Bool) (te : Den D) (vs : List Nat) (d : D) (ρ : Ws.Env) : Option (Option D × Ws.Env) := (g d ρ).ob fun ρ1 => (tt ρ1).ob fun r => if r.1 = true then (te r.2).ob fun q => some (some q.1, wipeE q.2 vs) else some (Option.none, wipeE r.2 vs)
theorem lcLoop_cons (g : DenG) (tt : Den Bool) (te : Den D) (vs : List Nat) (d : D) (ds acc : List D) (ρ : Ws.Env) (hl : acc.length < sizeLine) : lcLoop g tt te vs (d :: ds) acc ρ = (lcStep g tt te vs d ρ).bind fun q => lcLoop g tt te vs ds (acc ++ q.1.toList) q.2 := by
  conv => lhs; unfold lcLoop
  unfold lcStep
  cases g d ρ with
  | none => rfl
  | some ρ1 =>
    show (tt ρ1).bind _ = Option.bind (Option.bind (tt ρ1) _) _
    cases tt ρ1 with
    | none => rfl
    | some r =>
      obtain ⟨b, ρ2⟩ := r
      cases b with
      | false => 
        show lcLoop g tt te vs ds acc (wipeE ρ2 vs) = lcLoop g tt te vs ds (acc ++ []) (wipeE ρ2 vs)
        rw [List.append_nil]
      | true =>
        show (te ρ2).bind _ = Option.bind (Option.bind (te ρ2) _) _
        cases te ρ2 with
        | none => rfl
        | some q =>
          show (if acc.length < sizeLine then _ else _) = _
          rw [if_pos hl]
          rfl
/-- a comprehension whose turns leave all as it was -/
theorem lc_pure {g : DenG} {tt : Den Bool} {te : Den D} {vs : List Nat} {ρ : Ws.Env} (h : D → Option D) : ∀ (ds acc : List D), (∀ d ∈ ds, lcStep g tt te vs d ρ = some (h d, ρ)) → acc.length + ds.length ≤ sizeLine → lcLoop g tt te vs ds acc ρ = some (acc ++ ds.filterMap h, ρ)
  | [], acc, _, _ => by simp [lcLoop]
  | d :: ds, acc, hs, hl => by
    rw [List.length_cons] at hl
    rw [lcLoop_cons _ _ _ _ _ _ _ _ (by omega), hs d List.mem_cons_self]
    show lcLoop g tt te vs ds (acc ++ (h d).toList) ρ = _
    rw [lc_pure h ds _ (fun x hx => hs x (List.mem_cons_of_mem _ hx)) (by
      rw [List.length_append]
      have : (h d).toList.length ≤ 1 := by cases h d <;> simp
      omega)]
    rw [List.append_assoc, List.filterMap_cons]
    cases h d <;> rfl
theorem lc_mapP {g : DenG} {tt : Den Bool} {te : Den D} {vs : List Nat} {ρ : Ws.Env} (h : D → D) (ds : List D) (hs : ∀ d ∈ ds, lcStep g tt te vs d ρ = some (some (h d), ρ)) (hl : ds.length ≤ sizeLine) : lcLoop g tt te vs ds [] ρ = some (ds.map h, ρ) := by
  rw [lc_pure (fun d => some (h d)) ds [] hs (by simpa using hl)]
  simp
/-- over a mapped list -/
theorem lc_pureM {α : Type} {g : DenG} {tt : Den Bool} {te : Den D} {vs : List Nat} {ρ : Ws.Env} (e : α → D) (h : α → Option D) : ∀ (l : List α) (acc : List D), (∀ a ∈ l, lcStep g tt te vs (e a) ρ = some (h a, ρ)) → acc.length + l.length ≤ sizeLine → lcLoop g tt te vs (l.map e) acc ρ = some (acc ++ l.filterMap h, ρ)
  | [], acc, _, _ => by simp [lcLoop]
  | d :: ds, acc, hs, hl => by
    rw [List.length_cons] at hl
    rw [List.map_cons, lcLoop_cons _ _ _ _ _ _ _ _ (by omega), hs d List.mem_cons_self]
    show lcLoop g tt te vs (ds.map e) (acc ++ (h d).toList) ρ = _
    rw [lc_pureM e h ds _ (fun x hx => hs x (List.mem_cons_of_mem _ hx)) (by
      rw [List.length_append]
      have : (h d).toList.length ≤ 1 := by cases h d <;> simp
      omega)]
    rw [List.append_assoc, List.filterMap_cons]
    cases h d <;> rfl
theorem lc_mapM {α : Type} {g : DenG} {tt : Den Bool} {te : Den D} {vs : List Nat} {ρ : Ws.Env} (e : α → D) (h : α → D) (l : List α) (hs : ∀ a ∈ l, lcStep g tt te vs (e a) ρ = some (some (h a), ρ)) (hl : l.length ≤ sizeLine) : lcLoop g tt te vs (l.map e) [] ρ = some (l.map h, ρ) := by
  rw [lc_pureM e (fun a => some (h a)) l [] hs (by simpa using hl)]
  simp
def forStep (g : DenG) (body : Den Out) (d : D) (ρ : Ws.Env) : Option (Out × Ws.Env) := (g d ρ).ob body
/-- an invariant of a for loop that runs to its end -/
theorem for_run {g : DenG} {body : Den Out} (P : Nat → Ws.Env → Prop) : ∀ (ds : List D) (k : Nat) (ρ : Ws.Env), P k ρ → (∀ i d ρ, ds[i]? = some d → P (k + i) ρ → ∃ ρ2, (forStep g body d ρ = some (.next, ρ2) ∨ forStep g body d ρ = some (.cont, ρ2)) ∧ P (k + i + 1) ρ2) →
    ∃ ρ', forLoop g body ds ρ = some (.next, ρ') ∧ P (k + ds.length) ρ'
  | [], k, ρ, h, _ => ⟨ρ, rfl, h⟩
  | d :: ds, k, ρ, h, hs => by
    obtain ⟨ρ2, h2, h3⟩ := hs 0 d ρ rfl h
    obtain ⟨ρ', h4, h5⟩ := for_run P ds (k + 1) ρ2 (by simpa using h3) fun i d' ρ3 hd hp => by
      have := hs (i + 1) d' ρ3 (by simpa using hd) (by rw [show k + (i + 1) = k + 1 + i by omega]; exact hp)
      rw [show k + 1 + i + 1 = k + (i + 1) + 1 by omega]
      exact this
    refine ⟨ρ', ?_, by rw [show k + (d :: ds).length = k + 1 + ds.length by simp; omega]; exact h5⟩
    unfold forLoop
    unfold forStep at h2
    cases hg : g d ρ with
    | none => rw [hg] at h2; rcases h2 with h2 | h2 <;> cases h2
    | some ρ1 =>
      rw [hg] at h2
      show (body ρ1).bind _ = _
      rcases h2 with h2 | h2 <;> · rw [show body ρ1 = _ from h2]; exact h4

end Ws
set_option Elab.async false
set_option linter.all false
set_option maxRecDepth 100000
set_option maxHeartbeats 0
/-! Ws48: plain data: equality of tuples of whole numbers, texts of data (their lengths), dicts. -/
namespace Ws
open PySem PySem.Spec PyProof.Rows L2
/-! ### tuples of whole numbers -/
abbrev pyI (ns : List Int) : PyData := .tuple (ns.map .int)
theorem toPys_int : ∀ ns : List Int, toPys (ns.map .int) = some (ns.map .int)
  | [] => rfl
  | n :: ns => by simp [toPys, toPy, toPys_int ns]
theorem toPy_tup (ns : List Int) : toPy (mkTup ns) = some (pyI ns) := by simp [mkTup, toPy, toPys_int]
theorem canLay_int : ∀ ns : List Int, PyData.canLayAll0 (ns.map .int) = true
  | [] => rfl
  | n :: ns => by simp [PyData.canLayAll0, PyData.canLay0, canLay_int ns]
theorem depth_int : ∀ ns : List Int, PyData.depthAll (ns.map .int) = 0
  | [] => rfl
  | n :: ns => by simp [PyData.depthAll, PyData.depth, depth_int ns]
theorem shaped_tup (ns : List Int) : SeqAt.shaped (pyI ns) = true := by
  simp [SeqAt.shaped, PyData.canLay0, canLay_int, PyData.depth, depth_int]
theorem eqvAll_int : ∀ ns ms : List Int, PyData.eqvAll (ns.map .int) (ms.map .int) = decide (ns = ms)
  | [], [] => rfl
  | [], _ :: _ => rfl
  | _ :: _, [] => rfl
  | n :: ns, m :: ms => by
    rw [Bool.eq_iff_iff]
    simp [PyData.eqvAll, PyData.eqv, eqvAll_int ns ms]
theorem eqv_tup (ns ms : List Int) : PyData.eqv (pyI ns) (pyI ms) = decide (ns = ms) := by
  simp only [pyI, PyData.eqv, eqvAll_int]
theorem eqv_tups (n : Bool) (ns ms : List Int) : gEqv n (mkTup ns) (mkTup ms) = some (.bool (if n = true then !decide (ns = ms) else decide (ns = ms))) := by
  show gEqv0 n (mkTup ns) (mkTup ms) = _
  unfold gEqv0
  rw [toPy_tup, toPy_tup]
  show (if SeqAt.shaped (pyI ns) = true ∧ SeqAt.shaped (pyI ms) = true then some (D.bool (if n = true then !PyData.eqv (pyI ns) (pyI ms) else PyData.eqv (pyI ns) (pyI ms))) else Option.none) = _
  rw [if_pos ⟨shaped_tup _, shaped_tup _⟩, eqv_tup]
theorem toPys_tup : ∀ l : List (List Int), toPys (l.map mkTup) = some (l.map pyI)
  | [] => rfl
  | n :: ns => by simp [toPys, toPy_tup, toPys_tup ns]
theorem shaped_tups (l : List (List Int)) : SeqAt.shaped (.list (l.map pyI)) = true := by
  have a : ∀ l : List (List Int), PyData.canLayAll0 (l.map pyI) = true ∧ PyData.depthAll (l.map pyI) ≤ 1 := by
    intro l
    induction l with
    | nil => exact ⟨rfl, by decide⟩
    | cons n ns ih => exact ⟨by simp [PyData.canLayAll0, PyData.canLay0, canLay_int, ih.1], by simp [PyData.depthAll, PyData.depth, depth_int, ih.2]⟩
  have q := a l
  have q2 := q.2
  have e : (PyData.list (l.map pyI)).depth = PyData.depthAll (l.map pyI) + 1 := by simp only [PyData.depth]
  have e2 : (PyData.list (l.map pyI)).canLay0 = true := by simpa only [PyData.canLay0] using q.1
  unfold SeqAt.shaped
  rw [e2, e, Bool.true_and]
  exact decide_eq_true (by omega)
theorem in_tups (neg : Bool) (ns : List Int) (l : List (List Int)) : gInL neg (mkTup ns) (.lst (l.map mkTup)) = some (.bool (if neg = true then !decide (ns ∈ l) else decide (ns ∈ l))) := by
  unfold gInL
  rw [toPy_tup]
  show (toPys (l.map mkTup)).bind _ = _
  rw [toPys_tup]
  show (if SeqAt.shaped (pyI ns) = true ∧ SeqAt.shaped (.list (l.map pyI)) = true then some (D.bool (if neg = true then !((l.map pyI).any fun z => PyData.eqv z (pyI ns)) else (l.map pyI).any fun z => PyData.eqv z (pyI ns))) else Option.none) = _
  have e : ((l.map pyI).any fun z => PyData.eqv z (pyI ns)) = decide (ns ∈ l) := by
    rw [Bool.eq_iff_iff]
    simp only [List.any_map, List.any_eq_true, Function.comp_apply, eqv_tup, decide_eq_true_eq]
    constructor
    · rintro ⟨x, h1, h2⟩
      exact h2 ▸ h1
    · intro h
      exact ⟨ns, h, rfl⟩
  rw [if_pos ⟨shaped_tup _, shaped_tups _⟩, e]
theorem toKeys_num : ∀ ns : List Int, toKeys (ns.map .int) = some (ns.map .num)
  | [] => rfl
  | n :: ns => by simp [toKeys, toKey, toKeys_num ns]
theorem toKey_tup (ns : List Int) : toKey (mkTup ns) = some (.tup (ns.map .num)) := by simp [mkTup, toKey, toKeys_num]
theorem ne_nil (n : Bool) (l : List (List Int)) : gEqv n (.lst (l.map mkTup)) (.lst []) = some (.bool (if n = true then !decide (l = []) else decide (l = []))) := by
  show gEqv0 n (.lst (l.map mkTup)) (.lst []) = _
  have h : toPy (.lst (l.map mkTup)) = some (.list (l.map pyI)) := by simp [toPy, toPys_tup]
  unfold gEqv0
  rw [h]
  show (if SeqAt.shaped (.list (l.map pyI)) = true ∧ SeqAt.shaped (.list []) = true then some (D.bool (if n = true then !PyData.eqv (.list (l.map pyI)) (.list []) else PyData.eqv (.list (l.map pyI)) (.list []))) else Option.none) = _
  rw [if_pos ⟨shaped_tups _, rfl⟩]
  cases l <;> rfl
theorem eqv_of {n : Bool} {l : List D} {y : D} {p q : PyData} (h1 : toPy (.tup l) = some p) (h2 : toPy y = some q) (h3 : SeqAt.shaped p = true) (h4 : SeqAt.shaped q = true) : gEqv n (.tup l) y = some (.bool (if n = true then !PyData.eqv p q else PyData.eqv p q)) := by
  show gEqv0 n (.tup l) y = _
  unfold gEqv0
  rw [h1, h2]
  show (if SeqAt.shaped p = true ∧ SeqAt.shaped q = true then _ else _) = _
  rw [if_pos ⟨h3, h4⟩]
theorem zipD_eq : ∀ ds es : List D, zipD ds es = (ds.zip es).map fun p => .tup [p.1, p.2] := by
  intro ds es
  unfold zipD
  refine List.ext_getElem (by simp) fun i h1 h2 => ?_
  have h3 : i < ds.length ∧ i < es.length := by
    have h4 := h2
    simp at h4
    omega
  simp [List.getD, h3.1, h3.2]
/-- a while loop whose measure falls -/
theorem while_ind {t : Den Bool} {body : Den Out} (I : Nat → Ws.Env → Prop) (Q : Ws.Env → Prop) (hs : ∀ m ρ, I m ρ → (t ρ = some (false, ρ) ∧ Q ρ) ∨ (t ρ = some (true, ρ) ∧ ∃ ρ', body ρ = some (.next, ρ') ∧ ∃ m', m' < m ∧ I m' ρ')) : ∀ (n m : Nat) (ρ : Ws.Env), m < n → I m ρ → ∃ ρ', whileLoop t body n ρ = some (.next, ρ') ∧ Q ρ'
  | 0, m, ρ, h, _ => absurd h (Nat.not_lt_zero _)
  | n + 1, m, ρ, h, hi => by
    rcases hs m ρ hi with ⟨e, q⟩ | ⟨e, ρ', e2, m', h2, i2⟩
    · refine ⟨ρ, ?_, q⟩
      unfold whileLoop
      rw [e]
      rfl
    · obtain ⟨ρ2, e3, q⟩ := while_ind I Q hs n m' ρ' (by omega) i2
      refine ⟨ρ2, ?_, q⟩
      unfold whileLoop
      rw [e]
      show (body ρ).bind _ = _
      rw [e2]
      exact e3
theorem fm_if {α β : Type} (b : α → Bool) (f : α → β) : ∀ l : List α, (l.filterMap fun x => if b x = true then some (f x) else none) = (l.filter b).map f
  | [] => rfl
  | x :: l => by
    rw [List.filterMap_cons, List.filter_cons, fm_if b f l]
    cases b x <;> rfl
/-! ### texts in a list of texts -/
theorem toPys_str : ∀ l : List Str, toPys (l.map .str) = some (l.map .str)
  | [] => rfl
  | n :: ns => by simp [toPys, toPy, toPys_str ns]
theorem in_strs (neg : Bool) (s : Str) (l : List Str) (hs : PyData.strOk s = true) (hl : ∀ x ∈ l, PyData.strOk x = true) : gInL neg (.str s) (.lst (l.map .str)) = some (.bool (if neg = true then !decide (s ∈ l) else decide (s ∈ l))) := by
  unfold gInL
  show (toPys (l.map .str)).bind _ = _
  rw [toPys_str]
  have a : ∀ l : List Str, (∀ x ∈ l, PyData.strOk x = true) → PyData.canLayAll0 (l.map .str) = true ∧ PyData.depthAll (l.map .str) ≤ 0 := by
    intro l
    induction l with
    | nil => exact fun _ => ⟨rfl, by decide⟩
    | cons n ns ih => exact fun h => ⟨by simp [PyData.canLayAll0, PyData.canLay0, h n, (ih fun x hx => h x (List.mem_cons_of_mem _ hx)).1], by simpa [PyData.depthAll, PyData.depth] using (ih fun x hx => h x (List.mem_cons_of_mem _ hx)).2⟩
  have h1 : SeqAt.shaped (.str s) = true := by
    simp [SeqAt.shaped, PyData.canLay0, hs, PyData.depth]
  have h2 : SeqAt.shaped (.list (l.map .str)) = true := by
    have q2 := (a l hl).2
    have e : (PyData.list (l.map PyData.str)).depth = PyData.depthAll (l.map .str) + 1 := by simp only [PyData.depth]
    have e2 : (PyData.list (l.map PyData.str)).canLay0 = true := by simpa only [PyData.canLay0] using (a l hl).1
    unfold SeqAt.shaped
    rw [e2, e, Bool.true_and]
    exact decide_eq_true (by omega)
  show (if SeqAt.shaped (.str s) = true ∧ SeqAt.shaped (.list (l.map .str)) = true then some (D.bool (if neg = true then !((l.map PyData.str).any fun z => PyData.eqv z (.str s)) else (l.map PyData.str).any fun z => PyData.eqv z (.str s))) else Option.none) = _
  have e : ((l.map PyData.str).any fun z => PyData.eqv z (.str s)) = decide (s ∈ l) := by
    rw [Bool.eq_iff_iff]
    simp only [List.any_map, List.any_eq_true, Function.comp_apply, PyData.eqv, beq_iff_eq, decide_eq_true_eq]
    constructor
    · rintro ⟨x, h1, h2⟩
      exact h2 ▸ h1
    · intro h
      exact ⟨s, h, rfl⟩
  rw [if_pos ⟨h1, h2⟩, e]
/-! ### all, sum -/
theorem all_map {α : Type} (f : α → Bool) (l : List α) : gAll (.lst (l.map fun x => .bool (f x))) = some (.bool (l.all f)) := by
  show (asBools _).map _ = _
  rw [ev_asBoolsMap]
  show some (D.bool ((l.map f).all id)) = _
  simp [List.all_map]
theorem asInts_fm {α : Type} (g : α → Option Int) : ∀ l : List α, asInts (l.filterMap fun x => (g x).map D.int) = some (l.filterMap g)
  | [] => rfl
  | x :: l => by
    rw [List.filterMap_cons, List.filterMap_cons]
    cases g x with
    | none => exact asInts_fm g l
    | some i =>
      show (asInts (l.filterMap _)).map _ = _
      rw [asInts_fm g l]
      rfl
theorem sum_fm {α : Type} (g : α → Option Int) (l : List α) : gSum (.lst (l.filterMap fun x => (g x).map D.int)) = some (.int (l.filterMap g).sum) := by
  show (asInts _).map _ = _
  rw [asInts_fm]
  rfl
/-! ### a loop that returns at the first that is not so -/
theorem for_all {α : Type} {g : DenG} {body : Den Out} (e : α → D) (f : α → Bool) (r : Rv) (I : Ws.Env → Prop) : ∀ (l : List α), (∀ a ∈ l, ∀ ρ, I ρ → ∃ ρ', I ρ' ∧ forStep g body (e a) ρ = some (if f a = true then .next else .ret r, ρ')) → ∀ ρ, I ρ → ∃ ρ', I ρ' ∧ forLoop g body (l.map e) ρ = some (if l.all f = true then .next else .ret r, ρ')
  | [], _, ρ, h => ⟨ρ, h, rfl⟩
  | a :: l, hs, ρ, h => by
    obtain ⟨ρ1, h1, e1⟩ := hs a List.mem_cons_self ρ h
    have ih := for_all e f r I l (fun x hx => hs x (List.mem_cons_of_mem _ hx))
    have u : forLoop g body ((a :: l).map e) ρ = (forStep g body (e a) ρ).bind fun q => match q.1 with
        | .next => forLoop g body (l.map e) q.2
        | .cont => forLoop g body (l.map e) q.2
        | .brk => some (.next, q.2)
        | .ret rv => some (.ret rv, q.2) := by
      rw [List.map_cons]
      conv => lhs; unfold forLoop
      unfold forStep
      cases g (e a) ρ <;> rfl
    rw [u, e1, List.all_cons]
    cases c : f a with
    | true =>
      obtain ⟨ρ2, h2, e2⟩ := ih ρ1 h1
      exact ⟨ρ2, h2, by rw [Bool.true_and]; exact e2⟩
    | false => exact ⟨ρ1, h1, rfl⟩
/-! ### texts of data -/
def Tame (k n : Nat) (d : D) : Prop := ∃ p, toR d = some p ∧ p.showable = true ∧ p.leavesShort 40 = true ∧ p.depth ≤ k ∧ p.bulk ≤ n
theorem tame_mono {k n k' n' : Nat} {d : D} (h : Tame k n d) (hk : k ≤ k') (hn : n ≤ n') : Tame k' n' d := by
  obtain ⟨p, a, b, c, d, e⟩ := h
  exact ⟨p, a, b, c, by omega, by omega⟩
def tameB (k n : Nat) (d : D) : Bool := match toR d with
  | some p => p.showable && (p.leavesShort 40 && (decide (p.depth ≤ k) && decide (p.bulk ≤ n)))
  | none => false
theorem tame_of {k n : Nat} {d : D} (h : tameB k n d = true) : Tame k n d := by
  unfold tameB at h
  split at h
  · rename_i p e
    simp only [Bool.and_eq_true, decide_eq_true_eq] at h
    exact ⟨p, e, h.1, h.2.1, h.2.2.1, h.2.2.2⟩
  · cases h
theorem tame_none : Tame 0 0 .none := ⟨_, rfl, rfl, rfl, Nat.le_refl _, Nat.le_refl _⟩
theorem tame_bool (b : Bool) : Tame 0 0 (.bool b) := ⟨_, rfl, rfl, rfl, Nat.le_refl _, Nat.le_refl _⟩
theorem tame_int {i : Int} (h : i.natAbs < 10 ^ 38) : Tame 0 0 (.int i) := by
  refine ⟨.int i, rfl, ?_, ?_, Nat.le_refl _, Nat.le_refl _⟩
  · have : i.natAbs < 2 ^ 1920 := Nat.lt_of_lt_of_le h (by decide +kernel)
    have h3 : i.natAbs.log2 < 1920 := by
      by_cases h0 : i.natAbs = 0
      · rw [h0]; decide
      · exact (Nat.log2_lt h0).mpr this
    exact decide_eq_true h3
  · have e := int_text_length_le10 (a := i) (k := 38) (by decide) h
    have e2 : (PyData.shown (.int i)).length = (toString i).length := PyProof.Rows.ofString_len _
    show decide _ = true
    exact decide_eq_true (by omega)
theorem tame_all {k n : Nat} : ∀ {l : List D}, (∀ x ∈ l, Tame k n x) → ∃ ps, toRs l = some ps ∧ PyData.showableAll ps = true ∧ PyData.leavesShortAll 40 ps = true ∧ PyData.depthAll ps ≤ k ∧ PyData.bulkAll ps ≤ l.length * (n + 1)
  | [], _ => ⟨[], rfl, rfl, rfl, by simp [PyData.depthAll], by simp [PyData.bulkAll]⟩
  | x :: l, h => by
    obtain ⟨p, h1, h2, h3, h4, h5⟩ := h x List.mem_cons_self
    obtain ⟨ps, q1, q2, q3, q4, q5⟩ := tame_all (l := l) fun y hy => h y (List.mem_cons_of_mem _ hy)
    refine ⟨p :: ps, by simp [toRs, h1, q1], by simp [PyData.showableAll, h2, q2], by simp [PyData.leavesShortAll, h3, q3], by simp only [PyData.depthAll]; omega, ?_⟩
    simp only [PyData.bulkAll, List.length_cons]
    have : (l.length + 1) * (n + 1) = l.length * (n + 1) + (n + 1) := Nat.succ_mul _ _
    omega
theorem tame_lst {k n : Nat} {l : List D} (h : ∀ x ∈ l, Tame k n x) : Tame (k + 1) (l.length * (n + 1)) (.lst l) := by
  obtain ⟨ps, q1, q2, q3, q4, q5⟩ := tame_all h
  exact ⟨.list ps, by simp [toR, q1], by simpa [PyData.showable] using q2, by simpa [PyData.leavesShort] using q3, by simp only [PyData.depth]; omega, by simpa [PyData.bulk] using q5⟩
theorem tame_tup {k n : Nat} {l : List D} (h : ∀ x ∈ l, Tame k n x) : Tame (k + 1) (l.length * (n + 1)) (.tup l) := by
  obtain ⟨ps, q1, q2, q3, q4, q5⟩ := tame_all h
  exact ⟨.tuple ps, by simp [toR, q1], by simpa [PyData.showable] using q2, by simpa [PyData.leavesShort] using q3, by simp only [PyData.depth]; omega, by simpa [PyData.bulk] using q5⟩
theorem tame_kvs {k n : Nat} : ∀ {l : List (D × D)}, (∀ x ∈ l, Tame k n x.1 ∧ Tame k n x.2) → ∃ ps, toRk l = some ps ∧ PyData.showableKv ps = true ∧ PyData.leavesShortKv 40 ps = true ∧ PyData.depthKv ps ≤ k ∧ PyData.bulkKv ps ≤ l.length * (2 * n + 2)
  | [], _ => ⟨[], rfl, rfl, rfl, by simp [PyData.depthKv], by simp [PyData.bulkKv]⟩
  | x :: l, h => by
    obtain ⟨⟨p, h1, h2, h3, h4, h5⟩, ⟨r, g1, g2, g3, g4, g5⟩⟩ := h x List.mem_cons_self
    obtain ⟨ps, q1, q2, q3, q4, q5⟩ := tame_kvs (l := l) fun y hy => h y (List.mem_cons_of_mem _ hy)
    refine ⟨(p, r) :: ps, by simp [toRk, h1, g1, q1], by simp [PyData.showableKv, h2, g2, q2], by simp [PyData.leavesShortKv, h3, g3, q3], by simp only [PyData.depthKv]; omega, ?_⟩
    simp only [PyData.bulkKv, List.length_cons]
    have : (l.length + 1) * (2 * n + 2) = l.length * (2 * n + 2) + (2 * n + 2) := Nat.succ_mul _ _
    omega
theorem tame_dct {k n : Nat} {l : List (D × D)} (h : ∀ x ∈ l, Tame k n x.1 ∧ Tame k n x.2) : Tame (k + 1) (l.length * (2 * n + 2)) (.dct l) := by
  obtain ⟨ps, q1, q2, q3, q4, q5⟩ := tame_kvs h
  exact ⟨.dict ps, by simp [toR, q1], by simpa [PyData.showable] using q2, by simpa [PyData.leavesShort] using q3, by simp only [PyData.depth]; omega, by simpa [PyData.bulk] using q5⟩
theorem repr_tame {k n : Nat} {d : D} (h : Tame k n d) (hk : k ≤ 60) (hn : n ≤ 300000) : ∃ s, gRepr d = some (.str s) := by
  obtain ⟨p, a, b, c, e, f⟩ := h
  refine ⟨p.shown, ?_⟩
  unfold gRepr
  rw [a]
  have l := PyData.shown_le_bulk 40 (by decide) p c
  show (if p.showable = true ∧ p.shown.length ≤ sizeLine ∧ p.depth ≤ 60 then some (D.str p.shown) else Option.none) = _
  rw [if_pos ⟨b, by rw [sizeLine_eq]; omega, by omega⟩]
/-! ### dicts -/
theorem putDct_mem {acc : List (D × D)} {dk dv : D} {k : NestedKey} {x : D × D} (h : x ∈ putDct acc dk dv k) : (x.1 = dk ∨ ∃ y ∈ acc, x.1 = y.1) ∧ (x.2 = dv ∨ ∃ y ∈ acc, x.2 = y.2) := by
  unfold putDct at h
  split at h
  · rename_i j hj
    rcases List.mem_or_eq_of_mem_set h with h | h
    · exact ⟨.inr ⟨x, h, rfl⟩, .inr ⟨x, h, rfl⟩⟩
    · rw [h]
      refine ⟨?_, .inl rfl⟩
      by_cases hl : j < acc.length
      · right
        exact ⟨acc[j], List.getElem_mem hl, by simp [List.getD, List.getElem?_eq_getElem hl]⟩
      · left
        simp [List.getD, List.getElem?_eq_none (Nat.le_of_not_lt hl)]
  · rcases List.mem_append.mp h with h | h
    · exact ⟨.inr ⟨x, h, rfl⟩, .inr ⟨x, h, rfl⟩⟩
    · have : x = (dk, dv) := by simpa using h
      rw [this]
      exact ⟨.inl rfl, .inl rfl⟩
/-- `dict` of pairs with keys that may be such -/
theorem putsD_ok : ∀ (ps acc : List (D × D)), (∀ x ∈ ps, ∃ k, toKey x.1 = some k ∧ k.depth ≤ 8) → acc.length + ps.length ≤ sizeLine → (keysD acc).Nodup →
    ∃ kvs, putsD acc ps = some kvs ∧ (keysD kvs).Nodup ∧ kvs.length ≤ acc.length + ps.length ∧ ∀ x ∈ kvs, (∃ y ∈ acc ++ ps, x.1 = y.1) ∧ ∃ y ∈ acc ++ ps, x.2 = y.2
  | [], acc, _, _, hn => ⟨acc, rfl, hn, by simp, fun x hx => ⟨⟨x, by simpa using hx, rfl⟩, ⟨x, by simpa using hx, rfl⟩⟩⟩
  | kv :: r, acc, h, hl, hn => by
    obtain ⟨k, hk, hd⟩ := h kv List.mem_cons_self
    rw [List.length_cons] at hl
    have l1 := putDct_len (acc := acc) (dk := kv.1) (dv := kv.2) (k := k)
    obtain ⟨kvs, q1, q2, q3, q4⟩ := putsD_ok r (putDct acc kv.1 kv.2 k) (fun x hx => h x (List.mem_cons_of_mem _ hx)) (by omega) (by rw [keysD_put hk]; exact nextK_nodup hn)
    refine ⟨kvs, ?_, q2, by rw [List.length_cons]; omega, fun x hx => ?_⟩
    · show (toKey kv.1).bind _ = _
      rw [hk]
      show (if k.depth ≤ 8 ∧ acc.length < sizeLine then _ else _) = _
      rw [if_pos ⟨hd, by omega⟩]
      exact q1
    · obtain ⟨⟨y, y1, y2⟩, ⟨z, z1, z2⟩⟩ := q4 x hx
      constructor
      · rcases List.mem_append.mp y1 with y1 | y1
        · rcases (putDct_mem y1).1 with e | ⟨u, u1, u2⟩
          · exact ⟨kv, by simp, y2.trans e⟩
          · exact ⟨u, by simp [u1], y2.trans u2⟩
        · exact ⟨y, by simp [y1], y2⟩
      · rcases List.mem_append.mp z1 with z1 | z1
        · rcases (putDct_mem z1).2 with e | ⟨u, u1, u2⟩
          · exact ⟨kv, by simp, z2.trans e⟩
          · exact ⟨u, by simp [u1], z2.trans u2⟩
        · exact ⟨z, by simp [z1], z2⟩
theorem keysD_map {α : Type} (f : α → D × D) (g : α → NestedKey) : ∀ l : List α, (∀ a ∈ l, toKey (f a).1 = some (g a)) → keysD (l.map f) = l.map g
  | [], _ => rfl
  | a :: l, h => by
    rw [List.map_cons, List.map_cons]
    show (match toKey (f a).1 with | some n => n :: keysD (l.map f) | Option.none => keysD (l.map f)) = _
    rw [h a List.mem_cons_self]
    show g a :: keysD (l.map f) = _
    rw [keysD_map f g l fun x hx => h x (List.mem_cons_of_mem _ hx)]
/-- the value at a key that is there -/
theorem getDct_at {α : Type} (f : α → D × D) (g : α → NestedKey) (l : List α) (h : ∀ a ∈ l, toKey (f a).1 = some (g a)) (hn : (l.map g).Nodup) {a : α} (ha : a ∈ l) : getDct (l.map f) (g a) = some (f a).2 := by
  obtain ⟨j, hj, ej⟩ := List.getElem_of_mem ha
  unfold getDct atD
  rw [keysD_map f g l h]
  rw [posK_some hn (j := j) (by rw [List.getElem?_map, List.getElem?_eq_getElem hj, ej]; rfl)]
  show ((l.map f)[j]?).map _ = _
  rw [List.getElem?_map, List.getElem?_eq_getElem hj, ej]
  rfl
/-- a dict of pairs with unlike keys is the pairs -/
theorem putsD_new : ∀ (ps acc : List (D × D)), (∀ x ∈ ps, ∃ k, toKey x.1 = some k ∧ k.depth ≤ 8) → acc.length + ps.length ≤ sizeLine → (keysD (acc ++ ps)).Nodup → putsD acc ps = some (acc ++ ps)
  | [], acc, _, _, _ => by simp [putsD]
  | kv :: r, acc, h, hl, hn => by
    obtain ⟨k, hk, hd⟩ := h kv List.mem_cons_self
    rw [List.length_cons] at hl
    have ka : ∀ l m : List (D × D), keysD (l ++ m) = keysD l ++ keysD m := by
      intro l m
      induction l with
      | nil => rfl
      | cons x l ih =>
        show (match toKey x.1 with | some n => n :: keysD (l ++ m) | Option.none => keysD (l ++ m)) = (match toKey x.1 with | some n => n :: keysD l | Option.none => keysD l) ++ keysD m
        rw [ih]
        cases toKey x.1 <;> rfl
    have k1 : keysD (kv :: r) = k :: keysD r := by
      show (match toKey kv.1 with | some n => n :: keysD r | Option.none => keysD r) = _
      rw [hk]
    have hno : ∀ j : Nat, (keysD acc)[j]? ≠ some k := by
      intro j hj
      rw [ka, k1] at hn
      have := (List.nodup_append.mp hn).2.2 k (List.mem_of_getElem? hj) k (by simp)
      exact this rfl
    have e : putDct acc kv.1 kv.2 k = acc ++ [kv] := by
      unfold putDct atD
      rw [posK_none hno]
    show (toKey kv.1).bind _ = _
    rw [hk]
    show (if k.depth ≤ 8 ∧ acc.length < sizeLine then putsD (putDct acc kv.1 kv.2 k) r else _) = _
    rw [if_pos ⟨hd, by omega⟩, e, putsD_new r (acc ++ [kv]) (fun x hx => h x (List.mem_cons_of_mem _ hx)) (by simp; omega) (by simpa using hn)]
    simp
theorem asPairs_map {α : Type} (f : α → D × D) : ∀ l : List α, asPairs (l.map fun a => .tup [(f a).1, (f a).2]) = some (l.map f)
  | [] => rfl
  | a :: l => by
    show (asPairs (l.map _)).map _ = _
    rw [asPairs_map f l]
    rfl
end Ws
set_option Elab.async false
set_option linter.all false
set_option maxRecDepth 100000
set_option maxHeartbeats 4000000
namespace K22
open PySem PySem.Spec PyProof.Rows L2 Ws
abbrev P0 : Program := PySem.Challenge.pw_wornsteps_k22_flows_judged
def top (i : Nat) : Stmt := P0.main.body.getD i (.Pass ⟨0, 0, 0, 0⟩)
def asgVal : Stmt → Expr
  | .Assign _ e _ => e
  | _ => .Constant .none 0 ⟨0, 0, 0, 0⟩
def eElt : Expr → Expr
  | .ListComp e _ _ _ => e
  | e => e
def relS0 (s o : Scope) : Scope := { s with names := s.names.map fun (n, k) => if (k == NameKind.free && o.kind == .function && o.names.lookup n == some .cell) then (n, NameKind.cell) else (n, k) }
def eScope : Expr → Scope
  | .ListComp _ _ s _ => s
  | _ => defScope (.Pass ⟨0, 0, 0, 0⟩)
def relS (e : Expr) (o : Scope) : Scope := relS0 (eScope e) o
def ns0 : List Str := [("_wall" : Str), ("StairError" : Str), ("InvalidSteps" : Str), ("InvalidJumps" : Str), ("InvalidJump" : Str), ("InvalidLengths" : Str), ("StateError" : Str), ("OtherSteps" : Str), ("LimitError" : Str), ("TooMany" : Str), ("is_integer" : Str), ("is_count" : Str), ("is_list" : Str), ("is_length" : Str), ("is_jump" : Str), ("want_steps" : Str), ("want_jumps" : Str), ("want_lengths" : Str), ("want_same_steps" : Str), ("Stair" : Str)]
def ns1 : List Str := [("is_way" : Str), ("is_run" : Str), ("is_flow" : Str), ("going_in" : Str), ("going_out" : Str), ("_law_pot" : Str), ("_law_draw" : Str), ("_law_pick" : Str), ("_law_jumps" : Str), ("_law_roads" : Str), ("_law_lot" : Str), ("_law_flow" : Str), ("_law_is_whole" : Str), ("_law_is_flow" : Str), ("_law_other" : Str), ("_law_bent" : Str), ("_law_more" : Str), ("_law_right" : Str), ("FEET" : Str), ("FOOT" : Str)]
def ns2 : List Str := [("LONGEST" : Str)]
def loose : List Str := ns0 ++ ns1 ++ ns2
def cnames : List Str := [("Stair" : Str)]
def clK (K : PySem.W.Frag) (i : Nat) : Addr := He.ga K (cnames.getD i "")
def okF_own_jumps (i : Nat) : Bool := Nat.beq i 0
def okF_own_next (i : Nat) : Bool := Nat.beq i 0
def okF_own_steps (i : Nat) : Bool := Nat.beq i 0
def conF_MOST_JUMPS (i : Nat) : Option D := if Nat.beq i 0 = true then some (.int 40) else Option.none
abbrev s__law_draw : Stmt := top 33
abbrev s__law_jumps : Stmt := top 35
abbrev s_is_integer : Stmt := top 15
abbrev s_want_steps : Stmt := top 20
abbrev s_is_list : Stmt := top 17
abbrev s_is_count : Stmt := top 16
abbrev s_is_jump : Stmt := top 19
abbrev s_want_jumps : Stmt := top 21
abbrev s_Stair___init__ : Stmt := clsFn (top 24) 2
abbrev s__law_roads : Stmt := top 36
abbrev s__law_flow : Stmt := top 38
abbrev s__law_pick : Stmt := top 34
abbrev s__law_lot : Stmt := top 37
abbrev s__law_other : Stmt := top 41
abbrev s__law_bent : Stmt := top 42
abbrev s__law_more : Stmt := top 43
abbrev s__law_is_whole : Stmt := top 39
abbrev s__law_is_flow : Stmt := top 40
abbrev s_Stair_has_jump : Stmt := clsFn (top 24) 11
abbrev s_going_in : Stmt := top 29
abbrev s_going_out : Stmt := top 30
abbrev s_Stair_steps : Stmt := clsFn (top 24) 4
abbrev s_is_flow : Stmt := top 28
abbrev s__law_right : Stmt := top 44
abbrev s__law_pot : Stmt := top 32
abbrev s_law : Stmt := top 45
def d__law_draw : He.DefD := ⟨(("_law_draw" : Str), none), ("_law_draw" : Str), ("_law_draw" : Str), defArgs s__law_draw, defBody s__law_draw, defScope s__law_draw, [], []⟩
def d__law_jumps : He.DefD := ⟨(("_law_jumps" : Str), none), ("_law_jumps" : Str), ("_law_jumps" : Str), defArgs s__law_jumps, defBody s__law_jumps, defScope s__law_jumps, [], []⟩
def d_is_integer : He.DefD := ⟨(("is_integer" : Str), none), ("is_integer" : Str), ("is_integer" : Str), defArgs s_is_integer, defBody s_is_integer, defScope s_is_integer, [], []⟩
def d_want_steps : He.DefD := ⟨(("want_steps" : Str), none), ("want_steps" : Str), ("want_steps" : Str), defArgs s_want_steps, defBody s_want_steps, defScope s_want_steps, [], []⟩
def d_is_list : He.DefD := ⟨(("is_list" : Str), none), ("is_list" : Str), ("is_list" : Str), defArgs s_is_list, defBody s_is_list, defScope s_is_list, [], []⟩
def d_is_count : He.DefD := ⟨(("is_count" : Str), none), ("is_count" : Str), ("is_count" : Str), defArgs s_is_count, defBody s_is_count, defScope s_is_count, [], []⟩
def d_is_jump : He.DefD := ⟨(("is_jump" : Str), none), ("is_jump" : Str), ("is_jump" : Str), defArgs s_is_jump, defBody s_is_jump, defScope s_is_jump, [], []⟩
def d_want_jumps : He.DefD := ⟨(("want_jumps" : Str), none), ("want_jumps" : Str), ("want_jumps" : Str), defArgs s_want_jumps, defBody s_want_jumps, defScope s_want_jumps, [], []⟩
def d_Stair___init__ : He.DefD := ⟨(("Stair" : Str), some ("__init__" : Str)), ("__init__" : Str), ("Stair.__init__" : Str), defArgs s_Stair___init__, defBody s_Stair___init__, defScope s_Stair___init__, [], []⟩
def d__law_roads : He.DefD := ⟨(("_law_roads" : Str), none), ("_law_roads" : Str), ("_law_roads" : Str), defArgs s__law_roads, defBody s__law_roads, defScope s__law_roads, [], []⟩
def d__law_flow : He.DefD := ⟨(("_law_flow" : Str), none), ("_law_flow" : Str), ("_law_flow" : Str), defArgs s__law_flow, defBody s__law_flow, defScope s__law_flow, [], []⟩
def d__law_pick : He.DefD := ⟨(("_law_pick" : Str), none), ("_law_pick" : Str), ("_law_pick" : Str), defArgs s__law_pick, defBody s__law_pick, defScope s__law_pick, [], []⟩
def d__law_lot : He.DefD := ⟨(("_law_lot" : Str), none), ("_law_lot" : Str), ("_law_lot" : Str), defArgs s__law_lot, defBody s__law_lot, defScope s__law_lot, [], []⟩
def d__law_other : He.DefD := ⟨(("_law_other" : Str), none), ("_law_other" : Str), ("_law_other" : Str), defArgs s__law_other, defBody s__law_other, defScope s__law_other, [], []⟩
def d__law_bent : He.DefD := ⟨(("_law_bent" : Str), none), ("_law_bent" : Str), ("_law_bent" : Str), defArgs s__law_bent, defBody s__law_bent, defScope s__law_bent, [], []⟩
def d__law_more : He.DefD := ⟨(("_law_more" : Str), none), ("_law_more" : Str), ("_law_more" : Str), defArgs s__law_more, defBody s__law_more, defScope s__law_more, [], []⟩
def d__law_is_whole : He.DefD := ⟨(("_law_is_whole" : Str), none), ("_law_is_whole" : Str), ("_law_is_whole" : Str), defArgs s__law_is_whole, defBody s__law_is_whole, defScope s__law_is_whole, [], []⟩
def d__law_is_flow : He.DefD := ⟨(("_law_is_flow" : Str), none), ("_law_is_flow" : Str), ("_law_is_flow" : Str), defArgs s__law_is_flow, defBody s__law_is_flow, defScope s__law_is_flow, [], []⟩
def d_Stair_has_jump : He.DefD := ⟨(("Stair" : Str), some ("has_jump" : Str)), ("has_jump" : Str), ("Stair.has_jump" : Str), defArgs s_Stair_has_jump, defBody s_Stair_has_jump, defScope s_Stair_has_jump, [], []⟩
def d_going_in : He.DefD := ⟨(("going_in" : Str), none), ("going_in" : Str), ("going_in" : Str), defArgs s_going_in, defBody s_going_in, defScope s_going_in, [], []⟩
def d_going_out : He.DefD := ⟨(("going_out" : Str), none), ("going_out" : Str), ("going_out" : Str), defArgs s_going_out, defBody s_going_out, defScope s_going_out, [], []⟩
def d_is_flow : He.DefD := ⟨(("is_flow" : Str), none), ("is_flow" : Str), ("is_flow" : Str), defArgs s_is_flow, defBody s_is_flow, defScope s_is_flow, [], []⟩
def d__law_right : He.DefD := ⟨(("_law_right" : Str), none), ("_law_right" : Str), ("_law_right" : Str), defArgs s__law_right, defBody s__law_right, defScope s__law_right, [], []⟩
def d__law_pot : He.DefD := ⟨(("_law_pot" : Str), none), ("_law_pot" : Str), ("_law_pot" : Str), defArgs s__law_pot, defBody s__law_pot, defScope s__law_pot, [], []⟩
def d_law : He.DefD := ⟨(("law" : Str), none), ("law" : Str), ("law" : Str), defArgs s_law, defBody s_law, defScope s_law, [], []⟩
def d_Stair_steps : PrD := ⟨("Stair" : Str), ("steps" : Str), ("Stair.steps" : Str), defArgs s_Stair_steps, defBody s_Stair_steps, defScope s_Stair_steps⟩
def fn0 : List He.DefD := [d__law_draw, d__law_jumps, d_is_integer, d_want_steps, d_is_list, d_is_count, d_is_jump, d_want_jumps, d_Stair___init__, d__law_roads, d__law_flow, d__law_pick, d__law_lot, d__law_other, d__law_bent, d__law_more, d__law_is_whole, d__law_is_flow, d_Stair_has_jump, d_going_in]
def fn1 : List He.DefD := [d_going_out, d_is_flow, d__law_right, d__law_pot, d_law]
def fn : List He.DefD := fn0 ++ fn1
def pr : List PrD := [d_Stair_steps]
def fa0 : List He.Fa := [.glo ("_law_draw" : Str), .glo ("_law_jumps" : Str), .glo ("is_integer" : Str), .glo ("want_steps" : Str), .glo ("is_list" : Str), .glo ("is_count" : Str), .glo ("is_jump" : Str), .glo ("want_jumps" : Str), .glo ("_law_roads" : Str), .glo ("_law_flow" : Str), .glo ("_law_pick" : Str), .glo ("_law_lot" : Str), .glo ("_law_other" : Str), .glo ("_law_bent" : Str), .glo ("_law_more" : Str), .glo ("_law_is_whole" : Str), .glo ("_law_is_flow" : Str), .glo ("going_in" : Str), .glo ("going_out" : Str), .glo ("is_flow" : Str)]
def fa1 : List He.Fa := [.glo ("_law_right" : Str), .glo ("_law_pot" : Str), .glo ("law" : Str), .glo ("Stair" : Str), .free ("abs" : Str), .free ("all" : Str), .free ("bool" : Str), .free ("dict" : Str), .free ("divmod" : Str), .free ("enumerate" : Str), .free ("int" : Str), .free ("isinstance" : Str), .free ("len" : Str), .free ("list" : Str), .free ("max" : Str), .free ("min" : Str), .free ("range" : Str), .free ("repr" : Str), .free ("sorted" : Str), .free ("sum" : Str)]
def fa2 : List He.Fa := [.free ("tuple" : Str), .free ("zip" : Str), .cls ("Stair" : Str), .mkr ("Stair" : Str), .noat ("Stair" : Str) ("own_jumps" : Str), .noat ("Stair" : Str) ("own_next" : Str), .noat ("Stair" : Str) ("own_steps" : Str), .meth ("Stair" : Str) ("has_jump" : Str)]
def fa : List He.Fa := fa0 ++ fa1 ++ fa2
def ex (K : PySem.W.Frag) : Bool := He.conB K ("Stair" : Str) ("MOST_JUMPS" : Str) (.int 40) && (cvB K ("Stair" : Str) ("MOST_STEPS" : Str) 10)
/-- what the head says -/
structure Kn (K : PySem.W.Frag) (mg : Str → Option Value) : Prop where
  x : ∃ h : Heap, K.In h ∧ h.Ns mainGlobals mg
  s : He.SaysD fa fn K
  e : ex K = true
  p1 : (pr.all fun d => d.ok K) = true
  p2 : pr.map (fun d => d.fnW K) = pr.map PrD.val
section
variable {K : PySem.W.Frag} {mg : Str → Option Value}
theorem Kn.glo__law_draw (kn : Kn K mg) : mg ("_law_draw" : Str) = some (.ref (He.ga K ("_law_draw" : Str))) := let ⟨_, X, G⟩ := kn.x; He.glo_ok X G (kn.s.fact 0 (f := .glo ("_law_draw" : Str)) rfl)
theorem Kn.glo__law_jumps (kn : Kn K mg) : mg ("_law_jumps" : Str) = some (.ref (He.ga K ("_law_jumps" : Str))) := let ⟨_, X, G⟩ := kn.x; He.glo_ok X G (kn.s.fact 1 (f := .glo ("_law_jumps" : Str)) rfl)
theorem Kn.glo_is_integer (kn : Kn K mg) : mg ("is_integer" : Str) = some (.ref (He.ga K ("is_integer" : Str))) := let ⟨_, X, G⟩ := kn.x; He.glo_ok X G (kn.s.fact 2 (f := .glo ("is_integer" : Str)) rfl)
theorem Kn.glo_want_steps (kn : Kn K mg) : mg ("want_steps" : Str) = some (.ref (He.ga K ("want_steps" : Str))) := let ⟨_, X, G⟩ := kn.x; He.glo_ok X G (kn.s.fact 3 (f := .glo ("want_steps" : Str)) rfl)
theorem Kn.glo_is_list (kn : Kn K mg) : mg ("is_list" : Str) = some (.ref (He.ga K ("is_list" : Str))) := let ⟨_, X, G⟩ := kn.x; He.glo_ok X G (kn.s.fact 4 (f := .glo ("is_list" : Str)) rfl)
theorem Kn.glo_is_count (kn : Kn K mg) : mg ("is_count" : Str) = some (.ref (He.ga K ("is_count" : Str))) := let ⟨_, X, G⟩ := kn.x; He.glo_ok X G (kn.s.fact 5 (f := .glo ("is_count" : Str)) rfl)
theorem Kn.glo_is_jump (kn : Kn K mg) : mg ("is_jump" : Str) = some (.ref (He.ga K ("is_jump" : Str))) := let ⟨_, X, G⟩ := kn.x; He.glo_ok X G (kn.s.fact 6 (f := .glo ("is_jump" : Str)) rfl)
theorem Kn.glo_want_jumps (kn : Kn K mg) : mg ("want_jumps" : Str) = some (.ref (He.ga K ("want_jumps" : Str))) := let ⟨_, X, G⟩ := kn.x; He.glo_ok X G (kn.s.fact 7 (f := .glo ("want_jumps" : Str)) rfl)
theorem Kn.glo__law_roads (kn : Kn K mg) : mg ("_law_roads" : Str) = some (.ref (He.ga K ("_law_roads" : Str))) := let ⟨_, X, G⟩ := kn.x; He.glo_ok X G (kn.s.fact 8 (f := .glo ("_law_roads" : Str)) rfl)
theorem Kn.glo__law_flow (kn : Kn K mg) : mg ("_law_flow" : Str) = some (.ref (He.ga K ("_law_flow" : Str))) := let ⟨_, X, G⟩ := kn.x; He.glo_ok X G (kn.s.fact 9 (f := .glo ("_law_flow" : Str)) rfl)
theorem Kn.glo__law_pick (kn : Kn K mg) : mg ("_law_pick" : Str) = some (.ref (He.ga K ("_law_pick" : Str))) := let ⟨_, X, G⟩ := kn.x; He.glo_ok X G (kn.s.fact 10 (f := .glo ("_law_pick" : Str)) rfl)
theorem Kn.glo__law_lot (kn : Kn K mg) : mg ("_law_lot" : Str) = some (.ref (He.ga K ("_law_lot" : Str))) := let ⟨_, X, G⟩ := kn.x; He.glo_ok X G (kn.s.fact 11 (f := .glo ("_law_lot" : Str)) rfl)
theorem Kn.glo__law_other (kn : Kn K mg) : mg ("_law_other" : Str) = some (.ref (He.ga K ("_law_other" : Str))) := let ⟨_, X, G⟩ := kn.x; He.glo_ok X G (kn.s.fact 12 (f := .glo ("_law_other" : Str)) rfl)
theorem Kn.glo__law_bent (kn : Kn K mg) : mg ("_law_bent" : Str) = some (.ref (He.ga K ("_law_bent" : Str))) := let ⟨_, X, G⟩ := kn.x; He.glo_ok X G (kn.s.fact 13 (f := .glo ("_law_bent" : Str)) rfl)
theorem Kn.glo__law_more (kn : Kn K mg) : mg ("_law_more" : Str) = some (.ref (He.ga K ("_law_more" : Str))) := let ⟨_, X, G⟩ := kn.x; He.glo_ok X G (kn.s.fact 14 (f := .glo ("_law_more" : Str)) rfl)
theorem Kn.glo__law_is_whole (kn : Kn K mg) : mg ("_law_is_whole" : Str) = some (.ref (He.ga K ("_law_is_whole" : Str))) := let ⟨_, X, G⟩ := kn.x; He.glo_ok X G (kn.s.fact 15 (f := .glo ("_law_is_whole" : Str)) rfl)
theorem Kn.glo__law_is_flow (kn : Kn K mg) : mg ("_law_is_flow" : Str) = some (.ref (He.ga K ("_law_is_flow" : Str))) := let ⟨_, X, G⟩ := kn.x; He.glo_ok X G (kn.s.fact 16 (f := .glo ("_law_is_flow" : Str)) rfl)
theorem Kn.glo_going_in (kn : Kn K mg) : mg ("going_in" : Str) = some (.ref (He.ga K ("going_in" : Str))) := let ⟨_, X, G⟩ := kn.x; He.glo_ok X G (kn.s.fact 17 (f := .glo ("going_in" : Str)) rfl)
theorem Kn.glo_going_out (kn : Kn K mg) : mg ("going_out" : Str) = some (.ref (He.ga K ("going_out" : Str))) := let ⟨_, X, G⟩ := kn.x; He.glo_ok X G (kn.s.fact 18 (f := .glo ("going_out" : Str)) rfl)
theorem Kn.glo_is_flow (kn : Kn K mg) : mg ("is_flow" : Str) = some (.ref (He.ga K ("is_flow" : Str))) := let ⟨_, X, G⟩ := kn.x; He.glo_ok X G (kn.s.fact 19 (f := .glo ("is_flow" : Str)) rfl)
theorem Kn.glo__law_right (kn : Kn K mg) : mg ("_law_right" : Str) = some (.ref (He.ga K ("_law_right" : Str))) := let ⟨_, X, G⟩ := kn.x; He.glo_ok X G (kn.s.fact 20 (f := .glo ("_law_right" : Str)) rfl)
theorem Kn.glo__law_pot (kn : Kn K mg) : mg ("_law_pot" : Str) = some (.ref (He.ga K ("_law_pot" : Str))) := let ⟨_, X, G⟩ := kn.x; He.glo_ok X G (kn.s.fact 21 (f := .glo ("_law_pot" : Str)) rfl)
theorem Kn.glo_law (kn : Kn K mg) : mg ("law" : Str) = some (.ref (He.ga K ("law" : Str))) := let ⟨_, X, G⟩ := kn.x; He.glo_ok X G (kn.s.fact 22 (f := .glo ("law" : Str)) rfl)
theorem Kn.glo_Stair (kn : Kn K mg) : mg ("Stair" : Str) = some (.ref (He.ga K ("Stair" : Str))) := let ⟨_, X, G⟩ := kn.x; He.glo_ok X G (kn.s.fact 23 (f := .glo ("Stair" : Str)) rfl)
theorem Kn.free_abs (kn : Kn K mg) : mg ("abs" : Str) = none := let ⟨_, X, G⟩ := kn.x; He.free_ok X G (kn.s.fact 24 (f := .free ("abs" : Str)) rfl)
theorem Kn.free_all (kn : Kn K mg) : mg ("all" : Str) = none := let ⟨_, X, G⟩ := kn.x; He.free_ok X G (kn.s.fact 25 (f := .free ("all" : Str)) rfl)
theorem Kn.free_bool (kn : Kn K mg) : mg ("bool" : Str) = none := let ⟨_, X, G⟩ := kn.x; He.free_ok X G (kn.s.fact 26 (f := .free ("bool" : Str)) rfl)
theorem Kn.free_dict (kn : Kn K mg) : mg ("dict" : Str) = none := let ⟨_, X, G⟩ := kn.x; He.free_ok X G (kn.s.fact 27 (f := .free ("dict" : Str)) rfl)
theorem Kn.free_divmod (kn : Kn K mg) : mg ("divmod" : Str) = none := let ⟨_, X, G⟩ := kn.x; He.free_ok X G (kn.s.fact 28 (f := .free ("divmod" : Str)) rfl)
theorem Kn.free_enumerate (kn : Kn K mg) : mg ("enumerate" : Str) = none := let ⟨_, X, G⟩ := kn.x; He.free_ok X G (kn.s.fact 29 (f := .free ("enumerate" : Str)) rfl)
theorem Kn.free_int (kn : Kn K mg) : mg ("int" : Str) = none := let ⟨_, X, G⟩ := kn.x; He.free_ok X G (kn.s.fact 30 (f := .free ("int" : Str)) rfl)
theorem Kn.free_isinstance (kn : Kn K mg) : mg ("isinstance" : Str) = none := let ⟨_, X, G⟩ := kn.x; He.free_ok X G (kn.s.fact 31 (f := .free ("isinstance" : Str)) rfl)
theorem Kn.free_len (kn : Kn K mg) : mg ("len" : Str) = none := let ⟨_, X, G⟩ := kn.x; He.free_ok X G (kn.s.fact 32 (f := .free ("len" : Str)) rfl)
theorem Kn.free_list (kn : Kn K mg) : mg ("list" : Str) = none := let ⟨_, X, G⟩ := kn.x; He.free_ok X G (kn.s.fact 33 (f := .free ("list" : Str)) rfl)
theorem Kn.free_max (kn : Kn K mg) : mg ("max" : Str) = none := let ⟨_, X, G⟩ := kn.x; He.free_ok X G (kn.s.fact 34 (f := .free ("max" : Str)) rfl)
theorem Kn.free_min (kn : Kn K mg) : mg ("min" : Str) = none := let ⟨_, X, G⟩ := kn.x; He.free_ok X G (kn.s.fact 35 (f := .free ("min" : Str)) rfl)
theorem Kn.free_range (kn : Kn K mg) : mg ("range" : Str) = none := let ⟨_, X, G⟩ := kn.x; He.free_ok X G (kn.s.fact 36 (f := .free ("range" : Str)) rfl)
theorem Kn.free_repr (kn : Kn K mg) : mg ("repr" : Str) = none := let ⟨_, X, G⟩ := kn.x; He.free_ok X G (kn.s.fact 37 (f := .free ("repr" : Str)) rfl)
theorem Kn.free_sorted (kn : Kn K mg) : mg ("sorted" : Str) = none := let ⟨_, X, G⟩ := kn.x; He.free_ok X G (kn.s.fact 38 (f := .free ("sorted" : Str)) rfl)
theorem Kn.free_sum (kn : Kn K mg) : mg ("sum" : Str) = none := let ⟨_, X, G⟩ := kn.x; He.free_ok X G (kn.s.fact 39 (f := .free ("sum" : Str)) rfl)
theorem Kn.free_tuple (kn : Kn K mg) : mg ("tuple" : Str) = none := let ⟨_, X, G⟩ := kn.x; He.free_ok X G (kn.s.fact 40 (f := .free ("tuple" : Str)) rfl)
theorem Kn.free_zip (kn : Kn K mg) : mg ("zip" : Str) = none := let ⟨_, X, G⟩ := kn.x; He.free_ok X G (kn.s.fact 41 (f := .free ("zip" : Str)) rfl)
theorem Kn.cls_Stair (kn : Kn K mg) : Cls K (He.ga K ("Stair" : Str)) := He.cls_ok (kn.s.fact 42 (f := .cls ("Stair" : Str)) rfl)
theorem Kn.mkr_Stair (kn : Kn K mg) : Mk K (He.ga K ("Stair" : Str)) (He.ma K (He.ga K ("Stair" : Str)) "__init__") := He.mkr_ok (kn.s.fact 43 (f := .mkr ("Stair" : Str)) rfl)
theorem Kn.fld_own_jumps (kn : Kn K mg) : ∀ c, okF_own_jumps c = true → Cls K (clK K c) ∧ NoAttr K (clK K c) ("own_jumps" : Str) := fun c h => by
  have e : c = 0 := Nat.eq_of_beq_eq_true h
  subst e
  exact ⟨kn.cls_Stair, He.noat_ok (kn.s.fact 44 (f := .noat ("Stair" : Str) ("own_jumps" : Str)) rfl)⟩
theorem Kn.fld_own_next (kn : Kn K mg) : ∀ c, okF_own_next c = true → Cls K (clK K c) ∧ NoAttr K (clK K c) ("own_next" : Str) := fun c h => by
  have e : c = 0 := Nat.eq_of_beq_eq_true h
  subst e
  exact ⟨kn.cls_Stair, He.noat_ok (kn.s.fact 45 (f := .noat ("Stair" : Str) ("own_next" : Str)) rfl)⟩
theorem Kn.fld_own_steps (kn : Kn K mg) : ∀ c, okF_own_steps c = true → Cls K (clK K c) ∧ NoAttr K (clK K c) ("own_steps" : Str) := fun c h => by
  have e : c = 0 := Nat.eq_of_beq_eq_true h
  subst e
  exact ⟨kn.cls_Stair, He.noat_ok (kn.s.fact 46 (f := .noat ("Stair" : Str) ("own_steps" : Str)) rfl)⟩
theorem Kn.meth_Stair_has_jump (kn : Kn K mg) : Meth K (He.ga K ("Stair" : Str)) ("has_jump" : Str) (He.ma K (He.ga K ("Stair" : Str)) ("has_jump" : Str)) := He.meth_ok (kn.s.fact 47 (f := .meth ("Stair" : Str) ("has_jump" : Str)) rfl)
theorem Kn.ex0 (kn : Kn K mg) : He.conB K ("Stair" : Str) ("MOST_JUMPS" : Str) (.int 40) = true := (Bool.and_eq_true_iff.mp kn.e).1
theorem Kn.con_MOST_JUMPS (kn : Kn K mg) : ∀ c d v, conF_MOST_JUMPS c = some d → sv d = some v → Cls K (clK K c) ∧ ∃ u, Con K (clK K c) ("MOST_JUMPS" : Str) v u := fun c d v h hs => by
  unfold conF_MOST_JUMPS at h
  split at h
  · rename_i z
    have e : c = 0 := Nat.eq_of_beq_eq_true z
    subst e
    cases h
    cases hs
    exact ⟨kn.cls_Stair, He.conB_ok (v := .int 40) kn.ex0⟩
  · cases h
theorem Kn.ex1 (kn : Kn K mg) : cvB K ("Stair" : Str) ("MOST_STEPS" : Str) 10 = true := (Bool.and_eq_true_iff.mp kn.e).2
theorem Kn.cc_Stair_MOST_STEPS (kn : Kn K mg) : ClX.CRead K (He.ga K ("Stair" : Str)) (.type "type") ∧ ∃ u, ClX.CVal K (He.ga K ("Stair" : Str)) (.type "type") ("MOST_STEPS" : Str) (.int 10) u := cvB_ok kn.ex1
end
end K22
set_option Elab.async false
set_option linter.all false
set_option maxRecDepth 100000
set_option maxHeartbeats 0
namespace K22
open PySem PySem.Spec PyProof.Rows L2 Ws
abbrev RR : PySem.W.OpenRow := PySem.W.OpenLaw.row PySem.Challenge.rw_wornsteps_k22_flows_judged
abbrev hk : PySem.W.Hook := hookZ 5 fa fn ex pr
def ob (s : PySem.W.SharedT) : AlZ := obsZ 5 fa fn ex pr (HandSHeadRun.getT s)
theorem ob_eq (s : PySem.W.SharedT) : ob s = hk.obs s.abs := obsZ_eq (HandSHeadRun.getT_eq s)
theorem run (w : World) : HandSHeadRun.RunEq RR (PySem.W.view RR.prog [45]) hk ob 12000 loose w := by
  intro os
  kernel_rfl
end K22
set_option Elab.async false
set_option linter.all false
set_option maxRecDepth 100000
set_option maxHeartbeats 4000000
namespace K22
open PySem PySem.Spec PyProof.Rows L2 Ws
theorem sc__law_draw : FnScope [("_law_pot_here" : Str), ("_law_tally" : Str), ("_law_digit" : Str)] [("_law_pot_here" : Str), ("_law_tally" : Str)] (defScope s__law_draw) := ⟨rfl, rfl, rfl, by decide +kernel, rfl, by decide +kernel, by decide +kernel⟩
def den__law_draw_2 : Den Out := (dRet (dBin gMod (dUn gInt1 (dBin gDiv (dBin gMod (dUn gInt1 (dMul (dIx (dVar 0) (dC (.int 1))) (dIx (dVar 0) (dC (.int 1))))) (dC (.int 2147483549))) (dC (.int 17)))) (dVar 1)))
def den__law_draw_1 : Den Out := (dSeq (dAsg (dBin gMod (dUn gInt1 (dAdd (dMul (dIx (dVar 0) (dC (.int 1))) (dC (.int 40123))) (dC (.int 11969)))) (dC (.int 2147483579))) (gIx 0 (dC (.int 1)))) den__law_draw_2)
def den__law_draw : Den Out := (dSeq (dIfS (dTest (dBin gGt (dIx (dVar 0) (dC (.int 0))) (dC (.int 0)))) (dSeq (dAsg (dDivmod (dIx (dVar 0) (dC (.int 0))) (dVar 1)) (gTp (gsCons (gIx 0 (dC (.int 0))) (gsCons (gNm 2) gsNil))))
  (dRet (dVar 2))) dNext) den__law_draw_1)
def f__law_draw : List W → Option (W × List W) := dFn 2 3 den__law_draw
theorem fo__law_draw {P : Program} {w : World} {K : PySem.W.Frag} {mg : Str → Option Value} {base : Heap} {fd : FuncData} (kn : Kn K mg) (F : FunD K ("_law_draw" : Str) ("_law_draw" : Str) (defArgs s__law_draw) (defBody s__law_draw) (defScope s__law_draw) [] [] (He.ga K ("_law_draw" : Str)) fd) : FnOkG true P w K mg base CX0 2 (He.ga K ("_law_draw" : Str)) fd [("_law_pot_here" : Str), ("_law_tally" : Str)] (spW w K (clK K) f__law_draw) := by
  refine okG (c := true) (k := 1) F sc__law_draw spW_len (fun cdv A outer s H vs Q E hr h => ⟨_, ?_, fn_end rfl h⟩)
  exact (dss_cons (ds_if (dt_cmp o_gt (de_ix (de_var (i := 0) rfl (.inl rfl)) de_int (fun _ _ => rfl)) de_int (nomark _)) (dss_cons (ds_asg (de_divmod rfl kn.free_divmod (de_ix (de_var (i := 0) rfl (.inl rfl)) de_int (fun _ _ => rfl)) (de_var (i := 1) rfl (.inl rfl))) (dg_tup rfl (dgs_cons (dg_ix (i := 0) rfl (.inl rfl) (by decide) (by decide) de_int) (dgs_cons (dg_name sc__law_draw.nd rfl (.inl rfl)) dgs_nil)) (gsl_cons (gsl_cons gsl_nil))) (by decide))
  (dss_one (ds_ret (de_var (i := 2) rfl (.inl rfl))))) dss_nil)
  (dss_cons (ds_asg (de_bin o_mod (de_ct c_int rfl kn.free_int PyProof.Rows.Boot.«int» (de_add (de_mul (de_ix (de_var (i := 0) rfl (.inl rfl)) de_int (fun _ _ => rfl)) de_int) de_int)) de_int) (dg_ix (i := 0) rfl (.inl rfl) (by decide) (by decide) de_int) (by decide))
  (dss_one (ds_ret (de_bin o_mod (de_ct c_int rfl kn.free_int PyProof.Rows.Boot.«int» (de_bin o_div (de_bin o_mod (de_ct c_int rfl kn.free_int PyProof.Rows.Boot.«int» (de_mul (de_ix (de_var (i := 0) rfl (.inl rfl)) de_int (fun _ _ => rfl)) (de_ix (de_var (i := 0) rfl (.inl rfl)) de_int (fun _ _ => rfl)))) de_int) de_int)) (de_var (i := 1) rfl (.inl rfl)))))))
theorem ok__law_draw {P : Program} {w : World} {K : PySem.W.Frag} {mg : Str → Option Value} {base : Heap} (kn : Kn K mg) : FunOk true P w K mg base (clK K) 2 (He.ga K ("_law_draw" : Str)) f__law_draw := by
  obtain ⟨fd, F⟩ := kn.s.def_ 0 (d := d__law_draw) rfl
  exact ⟨fd, [("_law_pot_here" : Str), ("_law_tally" : Str)], fo__law_draw kn F, F.bindsN (fun _ _ _ _ _ _ us hl => match us, hl with | [_, _], _ => rfl), F.kp⟩
theorem sc__law_jumps : FnScope [("_law_pot_here" : Str), ("_law_head" : Str), ("_law_sort" : Str), ("_law_found" : Str), ("_law_i" : Str), ("_law_j" : Str)] [("_law_pot_here" : Str), ("_law_head" : Str)] (defScope s__law_jumps) := ⟨rfl, rfl, rfl, by decide +kernel, rfl, by decide +kernel, by decide +kernel⟩
def den__law_jumps_2 : Den Out := (dRet (dVar 3))
def den__law_jumps_1 : Den Out := (dSeq (dFor (dIRange1 (dCons (dVar 1) dNil)) (gNm 4) (dFor (dIRange2 (dCons (dAdd (dVar 4) (dC (.int 1))) (dCons (dAdd (dVar 1) (dC (.int 1))) dNil))) (gNm 5) (dIfS (dOr (dAnd (dTest (dBin gLt (dVar 2) (dC (.int 3)))) (dTest (dBin gLe (dBin gSub (dVar 5) (dVar 4)) (dAdd (dVar 2) (dC (.int 1)))))) (dAnd (dTest (dBin (gEqv false) (dVar 2) (dC (.int 3)))) (dTest (dBin gGt (dCall f__law_draw (dRCons (dVar 0) (dRCons (dC (.int 3)) dRNil)) []) (dC (.int 0)))))) (dDrop (dAppend 3 (dTup (dCons (dVar 4) (dCons (dVar 5) dNil))))) dNext))) den__law_jumps_2)
def den__law_jumps : Den Out := (dSeq (dPar 2 3 (dRCons (dCall f__law_draw (dRCons (dVar 0) (dRCons (dC (.int 4)) dRNil)) []) (dRCons (dLst dNil) dRNil))) den__law_jumps_1)
def f__law_jumps : List W → Option (W × List W) := dFn 2 6 den__law_jumps
theorem fo__law_jumps {P : Program} {w : World} {K : PySem.W.Frag} {mg : Str → Option Value} {base : Heap} {fd : FuncData} (kn : Kn K mg) (F : FunD K ("_law_jumps" : Str) ("_law_jumps" : Str) (defArgs s__law_jumps) (defBody s__law_jumps) (defScope s__law_jumps) [] [] (He.ga K ("_law_jumps" : Str)) fd) : FnOkG true P w K mg base CX0 3 (He.ga K ("_law_jumps" : Str)) fd [("_law_pot_here" : Str), ("_law_head" : Str)] (spW w K (clK K) f__law_jumps) := by
  refine okG (c := true) (k := 2) F sc__law_jumps spW_len (fun cdv A outer s H vs Q E hr h => ⟨_, ?_, fn_end rfl h⟩)
  exact (dss_cons (ds_par (i := 2) (j := 3) rfl sc__law_jumps.nd rfl rfl (by decide) rfl rfl (by decide) (by decide) (dr_cons (de_f (ok__law_draw kn) hr (by decide) rfl kn.glo__law_draw (dr_cons (de_var (i := 0) rfl (.inl rfl)) (dr_cons de_int dr_nil))) (dr_cons (de_lst da_nil) dr_nil)))
  (dss_cons (ds_for (passes_of rfl) rfl (di_range1 rfl kn.free_range (da_cons (de_var (i := 1) rfl (.inl rfl)) da_nil)) (dg_name sc__law_jumps.nd rfl (.inl rfl)) (dss_one (ds_for (passes_of rfl) rfl (di_range2 rfl kn.free_range (da_cons (de_add (de_var (i := 4) rfl (.inl rfl)) de_int) (da_cons (de_add (de_var (i := 1) rfl (.inl rfl)) de_int) da_nil))) (dg_name sc__law_jumps.nd rfl (.inl rfl)) (dss_one (ds_if (dt_w (dw_or (dt_w (dw_and (dt_cmp o_lt (de_var (i := 2) rfl (.inl rfl)) de_int (nomark _)) (dw_and1 (dt_cmp o_le (de_bin o_sub (de_var (i := 5) rfl (.inl rfl)) (de_var (i := 4) rfl (.inl rfl))) (de_add (de_var (i := 2) rfl (.inl rfl)) de_int) (nomark _))))) (dw_or1 (dt_w (dw_and (dt_cmp (o_eq hr.u64) (de_var (i := 2) rfl (.inl rfl)) de_int (nomark _)) (dw_and1 (dt_cmp o_gt (de_f (ok__law_draw kn) hr (by decide) rfl kn.glo__law_draw (dr_cons (de_var (i := 0) rfl (.inl rfl)) (dr_cons de_int dr_nil))) de_int (nomark _)))))))) (dss_one (ds_expr (de_append (i := 3) rfl (.inl rfl) (by decide) (by decide) (de_tup (da_cons (de_var (i := 4) rfl (.inl rfl)) (da_cons (de_var (i := 5) rfl (.inl rfl)) da_nil)))))) dss_nil)) (by decide))) (by decide))
  (dss_one (ds_ret (de_var (i := 3) rfl (.inl rfl))))))
theorem ok__law_jumps {P : Program} {w : World} {K : PySem.W.Frag} {mg : Str → Option Value} {base : Heap} (kn : Kn K mg) : FunOk true P w K mg base (clK K) 3 (He.ga K ("_law_jumps" : Str)) f__law_jumps := by
  obtain ⟨fd, F⟩ := kn.s.def_ 1 (d := d__law_jumps) rfl
  exact ⟨fd, [("_law_pot_here" : Str), ("_law_head" : Str)], fo__law_jumps kn F, F.bindsN (fun _ _ _ _ _ _ us hl => match us, hl with | [_, _], _ => rfl), F.kp⟩
theorem sc_is_integer : FnScope [("value" : Str)] [("value" : Str)] (defScope s_is_integer) := ⟨rfl, rfl, rfl, by decide +kernel, rfl, by decide +kernel, by decide +kernel⟩
def den_is_integer : Den Out := (dRet (dAndV (dUn (gIsi ["int"]) (dVar 0)) (dNotV (dUn (gIsi ["bool"]) (dVar 0)))))
def f_is_integer : List W → Option (W × List W) := dFn 1 1 den_is_integer
theorem fo_is_integer {P : Program} {w : World} {K : PySem.W.Frag} {mg : Str → Option Value} {base : Heap} {fd : FuncData} (kn : Kn K mg) (F : FunD K ("is_integer" : Str) ("is_integer" : Str) (defArgs s_is_integer) (defBody s_is_integer) (defScope s_is_integer) [] [] (He.ga K ("is_integer" : Str)) fd) : FnOkG true P w K mg base CX0 2 (He.ga K ("is_integer" : Str)) fd [("value" : Str)] (spW w K (clK K) f_is_integer) := by
  refine okG (c := true) (k := 1) F sc_is_integer spW_len (fun cdv A outer s H vs Q E hr h => ⟨_, ?_, fn_end rfl h⟩)
  exact (dss_one (ds_ret (de_and (de_isi isi_int rfl kn.free_isinstance rfl kn.free_int PyProof.Rows.Boot.«int» (de_var (i := 0) rfl (.inl rfl))) (de_one (de_not (de_isi isi_bool rfl kn.free_isinstance rfl kn.free_bool PyProof.Rows.Boot.«bool» (de_var (i := 0) rfl (.inl rfl))))))))
theorem ok_is_integer {P : Program} {w : World} {K : PySem.W.Frag} {mg : Str → Option Value} {base : Heap} (kn : Kn K mg) : FunOk true P w K mg base (clK K) 2 (He.ga K ("is_integer" : Str)) f_is_integer := by
  obtain ⟨fd, F⟩ := kn.s.def_ 2 (d := d_is_integer) rfl
  exact ⟨fd, [("value" : Str)], fo_is_integer kn F, F.bindsN (fun _ _ _ _ _ _ us hl => match us, hl with | [_], _ => rfl), F.kp⟩
theorem sc_want_steps : FnScope [("steps" : Str)] [("steps" : Str)] (defScope s_want_steps) := ⟨rfl, rfl, rfl, by decide +kernel, rfl, by decide +kernel, by decide +kernel⟩
def den_want_steps : Den Out := (dIfS (dOr (dNot (dTest (dCall f_is_integer (dRCons (dVar 0) dRNil) []))) (dNot (dTest (dChain gLe gLe (dC (.int 1)) (dVar 0) (dC (.int 10)))))) dNever dNext)
def f_want_steps : List W → Option (W × List W) := dFn 1 1 den_want_steps
theorem fo_want_steps {P : Program} {w : World} {K : PySem.W.Frag} {mg : Str → Option Value} {base : Heap} {fd : FuncData} (kn : Kn K mg) (F : FunD K ("want_steps" : Str) ("want_steps" : Str) (defArgs s_want_steps) (defBody s_want_steps) (defScope s_want_steps) [] [] (He.ga K ("want_steps" : Str)) fd) : FnOkG true P w K mg base CX0 3 (He.ga K ("want_steps" : Str)) fd [("steps" : Str)] (spW w K (clK K) f_want_steps) := by
  refine okG (c := true) (k := 2) F sc_want_steps spW_len (fun cdv A outer s H vs Q E hr h => ⟨_, ?_, fn_end rfl h⟩)
  exact (dss_one (ds_if (dt_w (dw_or (dt_not (dt_val (de_f (ok_is_integer kn) hr (by decide) rfl kn.glo_is_integer (dr_cons (de_var (i := 0) rfl (.inl rfl)) dr_nil)))) (dw_or1 (dt_not (dt_chain o_le o_le de_int (de_var (i := 0) rfl (.inl rfl)) (de_ccon rfl kn.glo_Stair kn.cc_Stair_MOST_STEPS.1 kn.cc_Stair_MOST_STEPS.2.choose_spec rfl)))))) (dss_one ds_never) dss_nil))
theorem ok_want_steps {P : Program} {w : World} {K : PySem.W.Frag} {mg : Str → Option Value} {base : Heap} (kn : Kn K mg) : FunOk true P w K mg base (clK K) 3 (He.ga K ("want_steps" : Str)) f_want_steps := by
  obtain ⟨fd, F⟩ := kn.s.def_ 3 (d := d_want_steps) rfl
  exact ⟨fd, [("steps" : Str)], fo_want_steps kn F, F.bindsN (fun _ _ _ _ _ _ us hl => match us, hl with | [_], _ => rfl), F.kp⟩
theorem sc_is_list : FnScope [("value" : Str)] [("value" : Str)] (defScope s_is_list) := ⟨rfl, rfl, rfl, by decide +kernel, rfl, by decide +kernel, by decide +kernel⟩
def den_is_list : Den Out := (dRet (dUn (gIsi ["list", "tuple"]) (dVar 0)))
def f_is_list : List W → Option (W × List W) := dFn 1 1 den_is_list
theorem fo_is_list {P : Program} {w : World} {K : PySem.W.Frag} {mg : Str → Option Value} {base : Heap} {fd : FuncData} (kn : Kn K mg) (F : FunD K ("is_list" : Str) ("is_list" : Str) (defArgs s_is_list) (defBody s_is_list) (defScope s_is_list) [] [] (He.ga K ("is_list" : Str)) fd) : FnOkG true P w K mg base CX0 2 (He.ga K ("is_list" : Str)) fd [("value" : Str)] (spW w K (clK K) f_is_list) := by
  refine okG (c := true) (k := 1) F sc_is_list spW_len (fun cdv A outer s H vs Q E hr h => ⟨_, ?_, fn_end rfl h⟩)
  exact (dss_one (ds_ret (de_isi2 isi_list isi_tuple rfl kn.free_isinstance rfl kn.free_list PyProof.Rows.Boot.«list» rfl kn.free_tuple PyProof.Rows.Boot.«tuple» (de_var (i := 0) rfl (.inl rfl)))))
theorem ok_is_list {P : Program} {w : World} {K : PySem.W.Frag} {mg : Str → Option Value} {base : Heap} (kn : Kn K mg) : FunOk true P w K mg base (clK K) 2 (He.ga K ("is_list" : Str)) f_is_list := by
  obtain ⟨fd, F⟩ := kn.s.def_ 4 (d := d_is_list) rfl
  exact ⟨fd, [("value" : Str)], fo_is_list kn F, F.bindsN (fun _ _ _ _ _ _ us hl => match us, hl with | [_], _ => rfl), F.kp⟩
theorem sc_is_count : FnScope [("value" : Str)] [("value" : Str)] (defScope s_is_count) := ⟨rfl, rfl, rfl, by decide +kernel, rfl, by decide +kernel, by decide +kernel⟩
def den_is_count : Den Out := (dRet (dAndV (dCall f_is_integer (dRCons (dVar 0) dRNil) []) (dBin gGe (dVar 0) (dC (.int 0)))))
def f_is_count : List W → Option (W × List W) := dFn 1 1 den_is_count
theorem fo_is_count {P : Program} {w : World} {K : PySem.W.Frag} {mg : Str → Option Value} {base : Heap} {fd : FuncData} (kn : Kn K mg) (F : FunD K ("is_count" : Str) ("is_count" : Str) (defArgs s_is_count) (defBody s_is_count) (defScope s_is_count) [] [] (He.ga K ("is_count" : Str)) fd) : FnOkG true P w K mg base CX0 3 (He.ga K ("is_count" : Str)) fd [("value" : Str)] (spW w K (clK K) f_is_count) := by
  refine okG (c := true) (k := 2) F sc_is_count spW_len (fun cdv A outer s H vs Q E hr h => ⟨_, ?_, fn_end rfl h⟩)
  exact (dss_one (ds_ret (de_and (de_f (ok_is_integer kn) hr (by decide) rfl kn.glo_is_integer (dr_cons (de_var (i := 0) rfl (.inl rfl)) dr_nil)) (de_one (de_cmp o_ge (de_var (i := 0) rfl (.inl rfl)) de_int (nomark _))))))
theorem ok_is_count {P : Program} {w : World} {K : PySem.W.Frag} {mg : Str → Option Value} {base : Heap} (kn : Kn K mg) : FunOk true P w K mg base (clK K) 3 (He.ga K ("is_count" : Str)) f_is_count := by
  obtain ⟨fd, F⟩ := kn.s.def_ 5 (d := d_is_count) rfl
  exact ⟨fd, [("value" : Str)], fo_is_count kn F, F.bindsN (fun _ _ _ _ _ _ us hl => match us, hl with | [_], _ => rfl), F.kp⟩
theorem sc_is_jump : FnScope [("head" : Str), ("value" : Str), ("place" : Str)] [("head" : Str), ("value" : Str)] (defScope s_is_jump) := ⟨rfl, rfl, rfl, by decide +kernel, rfl, by decide +kernel, by decide +kernel⟩
def den_is_jump_1 : Den Out := (dRet (dAndV (dUn gAll (dLc (dISeq (dVar 1)) (gNm 2) dYes (dSh (dCall f_is_count (dRCons (dVar 2) dRNil) [])) [2])) (dChain gLt gLe (dIx (dVar 1) (dC (.int 0))) (dIx (dVar 1) (dC (.int 1))) (dVar 0))))
def den_is_jump : Den Out := (dSeq (dIfS (dOr (dNot (dTest (dUn (gIsi ["tuple"]) (dVar 1)))) (dTest (dBin (gEqv true) (dUn gLen (dVar 1)) (dC (.int 2))))) (dRet (dC (.bool false))) dNext) den_is_jump_1)
def f_is_jump : List W → Option (W × List W) := dFn 2 3 den_is_jump
theorem fo_is_jump {P : Program} {w : World} {K : PySem.W.Frag} {mg : Str → Option Value} {base : Heap} {fd : FuncData} (kn : Kn K mg) (F : FunD K ("is_jump" : Str) ("is_jump" : Str) (defArgs s_is_jump) (defBody s_is_jump) (defScope s_is_jump) [] [] (He.ga K ("is_jump" : Str)) fd) : FnOkG true P w K mg base CX0 4 (He.ga K ("is_jump" : Str)) fd [("head" : Str), ("value" : Str)] (spW w K (clK K) f_is_jump) := by
  refine okG (c := true) (k := 3) F sc_is_jump spW_len (fun cdv A outer s H vs Q E hr h => ⟨_, ?_, fn_end rfl h⟩)
  exact (dss_cons (ds_if (dt_w (dw_or (dt_not (dt_val (de_isi isi_tuple rfl kn.free_isinstance rfl kn.free_tuple PyProof.Rows.Boot.«tuple» (de_var (i := 1) rfl (.inl rfl))))) (dw_or1 (dt_cmp (o_ne hr.u64) (de_cb c_len rfl kn.free_len PyProof.Rows.Boot.«len» (de_var (i := 1) rfl (.inl rfl))) de_int (nomark _))))) (dss_one (ds_ret de_bl)) dss_nil)
  (dss_one (ds_ret (de_and (de_cb (c_all rfl) rfl kn.free_all PyProof.Rows.Boot.«all» (de_lc (own := [(("place" : Str), 2)]) rfl sc_is_jump.nd (di_seq (de_var (i := 1) rfl (.inl rfl))) (show BlkOk [("head" : Str), ("value" : Str), ("place" : Str)] (defScope s_is_jump) _ _ from ⟨rfl, by decide +kernel, by decide +kernel, by decide +kernel, by decide +kernel⟩) (by decide) (fun _ _ _ _ _ => (dg_name sc_is_jump.nd rfl (.inl rfl))) (fun _ _ _ _ _ => dts_nil) (fun _ _ _ _ _ => (de_f (ok_is_count kn) hr (by decide) rfl kn.glo_is_count (dr_cons (de_var (i := 2) rfl (.inl rfl)) dr_nil))))) (de_one (de_chain o_lt o_le (de_ix (de_var (i := 1) rfl (.inl rfl)) de_int (fun _ _ => rfl)) (de_ix (de_var (i := 1) rfl (.inl rfl)) de_int (fun _ _ => rfl)) (de_var (i := 0) rfl (.inl rfl))))))))
theorem ok_is_jump {P : Program} {w : World} {K : PySem.W.Frag} {mg : Str → Option Value} {base : Heap} (kn : Kn K mg) : FunOk true P w K mg base (clK K) 4 (He.ga K ("is_jump" : Str)) f_is_jump := by
  obtain ⟨fd, F⟩ := kn.s.def_ 6 (d := d_is_jump) rfl
  exact ⟨fd, [("head" : Str), ("value" : Str)], fo_is_jump kn F, F.bindsN (fun _ _ _ _ _ _ us hl => match us, hl with | [_, _], _ => rfl), F.kp⟩
theorem sc_want_jumps : FnScope [("head" : Str), ("jumps" : Str), ("position" : Str), ("jump" : Str)] [("head" : Str), ("jumps" : Str)] (defScope s_want_jumps) := ⟨rfl, rfl, rfl, by decide +kernel, rfl, by decide +kernel, by decide +kernel⟩
def den_want_jumps_1 : Den Out := (dFor (dIEnum (dCons (dVar 1) dNil)) (gTp (gsCons (gNm 2) (gsCons (gNm 3) gsNil))) (dIfS (dOr (dNot (dTest (dCall f_is_jump (dRCons (dVar 0) (dRCons (dVar 3) dRNil)) []))) (dTest (dBin (gInL false) (dVar 3) (dSlice (dVar 1) dNoPart (dPart (dVar 2)))))) dNever dNext))
def den_want_jumps : Den Out := (dSeq (dIfS (dNot (dTest (dCall f_is_list (dRCons (dVar 1) dRNil) []))) dNever dNext) den_want_jumps_1)
def f_want_jumps : List W → Option (W × List W) := dFn 2 4 den_want_jumps
theorem fo_want_jumps {P : Program} {w : World} {K : PySem.W.Frag} {mg : Str → Option Value} {base : Heap} {fd : FuncData} (kn : Kn K mg) (F : FunD K ("want_jumps" : Str) ("want_jumps" : Str) (defArgs s_want_jumps) (defBody s_want_jumps) (defScope s_want_jumps) [] [] (He.ga K ("want_jumps" : Str)) fd) : FnOkG true P w K mg base CX0 5 (He.ga K ("want_jumps" : Str)) fd [("head" : Str), ("jumps" : Str)] (spW w K (clK K) f_want_jumps) := by
  refine okG (c := true) (k := 4) F sc_want_jumps spW_len (fun cdv A outer s H vs Q E hr h => ⟨_, ?_, fn_end rfl h⟩)
  exact (dss_cons (ds_if (dt_not (dt_val (de_f (ok_is_list kn) hr (by decide) rfl kn.glo_is_list (dr_cons (de_var (i := 1) rfl (.inl rfl)) dr_nil)))) (dss_one ds_never) dss_nil)
  (dss_one (ds_for (passes_of rfl) rfl (di_enum rfl kn.free_enumerate (da_cons (de_var (i := 1) rfl (.inl rfl)) da_nil)) (dg_tup rfl (dgs_cons (dg_name sc_want_jumps.nd rfl (.inl rfl)) (dgs_cons (dg_name sc_want_jumps.nd rfl (.inl rfl)) dgs_nil)) (gsl_cons (gsl_cons gsl_nil))) (dss_one (ds_if (dt_w (dw_or (dt_not (dt_val (de_f (ok_is_jump kn) hr (by decide) rfl kn.glo_is_jump (dr_cons (de_var (i := 0) rfl (.inl rfl)) (dr_cons (de_var (i := 3) rfl (.inl rfl)) dr_nil))))) (dw_or1 (dt_cmp (o_in hr.u65) (de_var (i := 3) rfl (.inl rfl)) (de_slice (de_var (i := 1) rfl (.inl rfl)) do_none (do_some (de_var (i := 2) rfl (.inl rfl)))) rfl)))) (dss_one ds_never) dss_nil)) (by decide))))
theorem ok_want_jumps {P : Program} {w : World} {K : PySem.W.Frag} {mg : Str → Option Value} {base : Heap} (kn : Kn K mg) : FunOk true P w K mg base (clK K) 5 (He.ga K ("want_jumps" : Str)) f_want_jumps := by
  obtain ⟨fd, F⟩ := kn.s.def_ 7 (d := d_want_jumps) rfl
  exact ⟨fd, [("head" : Str), ("jumps" : Str)], fo_want_jumps kn F, F.bindsN (fun _ _ _ _ _ _ us hl => match us, hl with | [_, _], _ => rfl), F.kp⟩
theorem sc_Stair___init__ : FnScope [("self" : Str), ("steps" : Str), ("jumps" : Str), ("place" : Str), ("i" : Str), ("j" : Str)] [("self" : Str), ("steps" : Str), ("jumps" : Str)] (defScope s_Stair___init__) := ⟨rfl, rfl, rfl, by decide +kernel, rfl, by decide +kernel, by decide +kernel⟩
def den_Stair___init___5 : Den Out := (dFldSet 0 ("own_next" : Str) okF_own_next (dLc (dIRange1 (dCons (dAdd (dVar 1) (dC (.int 2))) dNil)) (gNm 3) dYes (dSh (dLc (dISeq (dFld ("own_jumps" : Str) okF_own_jumps (dVar 0))) (gTp (gsCons (gNm 4) (gsCons (gNm 5) gsNil))) (dTest (dBin (gEqv false) (dVar 4) (dVar 3))) (dSh (dVar 5)) [4, 5])) [3]))
def den_Stair___init___4 : Den Out := (dSeq (dFldSet 0 ("own_jumps" : Str) okF_own_jumps (dSorted (dVar 2))) den_Stair___init___5)
def den_Stair___init___3 : Den Out := (dSeq (dFldSet 0 ("own_steps" : Str) okF_own_steps (dVar 1)) den_Stair___init___4)
def den_Stair___init___2 : Den Out := (dSeq (dIfS (dTest (dBin gGt (dUn gLen (dVar 2)) (dCon ("MOST_JUMPS" : Str) conF_MOST_JUMPS (dVar 0)))) dNever dNext) den_Stair___init___3)
def den_Stair___init___1 : Den Out := (dSeq (dDrop (dCall f_want_jumps (dRCons (dAdd (dVar 1) (dC (.int 1))) (dRCons (dVar 2) dRNil)) [])) den_Stair___init___2)
def den_Stair___init__ : Den Out := (dSeq (dDrop (dCall f_want_steps (dRCons (dVar 1) dRNil) [])) den_Stair___init___1)
def f_Stair___init__ : List W → Option (W × List W) := dFn 3 6 den_Stair___init__
theorem fo_Stair___init__ {P : Program} {w : World} {K : PySem.W.Frag} {mg : Str → Option Value} {base : Heap} {fd : FuncData} (kn : Kn K mg) (F : FunD K ("__init__" : Str) ("Stair.__init__" : Str) (defArgs s_Stair___init__) (defBody s_Stair___init__) (defScope s_Stair___init__) [] [] (He.ma K (He.ga K ("Stair" : Str)) ("__init__" : Str)) fd) : FnOkG true P w K mg base CX0 6 (He.ma K (He.ga K ("Stair" : Str)) ("__init__" : Str)) fd [("self" : Str), ("steps" : Str), ("jumps" : Str)] (spW w K (clK K) f_Stair___init__) := by
  refine okG (c := true) (k := 5) F sc_Stair___init__ spW_len (fun cdv A outer s H vs Q E hr h => ⟨_, ?_, fn_end rfl h⟩)
  exact (dss_cons (ds_expr (de_f (ok_want_steps kn) hr (by decide) rfl kn.glo_want_steps (dr_cons (de_var (i := 1) rfl (.inl rfl)) dr_nil)))
  (dss_cons (ds_expr (de_f (ok_want_jumps kn) hr (by decide) rfl kn.glo_want_jumps (dr_cons (de_add (de_var (i := 1) rfl (.inl rfl)) de_int) (dr_cons (de_var (i := 2) rfl (.inl rfl)) dr_nil))))
  (dss_cons (ds_if (dt_cmp o_gt (de_cb c_len rfl kn.free_len PyProof.Rows.Boot.«len» (de_var (i := 2) rfl (.inl rfl))) (de_con (con := conF_MOST_JUMPS) kn.con_MOST_JUMPS (de_var (i := 0) rfl (.inr (.inl rfl)))) (nomark _)) (dss_one ds_never) dss_nil)
  (dss_cons (ds_fld (i := 0) (ok := okF_own_steps) kn.fld_own_steps rfl (.inr (.inl rfl)) (de_var (i := 1) rfl (.inl rfl)))
  (dss_cons (ds_fld (i := 0) (ok := okF_own_jumps) kn.fld_own_jumps rfl (.inr (.inl rfl)) (de_sorted rfl kn.free_sorted (de_var (i := 2) rfl (.inl rfl))))
  (dss_one (ds_fld (i := 0) (ok := okF_own_next) kn.fld_own_next rfl (.inr (.inl rfl)) (de_lc (own := [(("place" : Str), 3)]) rfl sc_Stair___init__.nd (di_range1 rfl kn.free_range (da_cons (de_add (de_var (i := 1) rfl (.inl rfl)) de_int) da_nil)) (show BlkOk [("self" : Str), ("steps" : Str), ("jumps" : Str), ("place" : Str), ("i" : Str), ("j" : Str)] (defScope s_Stair___init__) _ _ from ⟨rfl, by decide +kernel, by decide +kernel, by decide +kernel, by decide +kernel⟩) (by decide) (fun _ _ _ _ _ => (dg_name sc_Stair___init__.nd rfl (.inr rfl))) (fun _ _ _ _ _ => dts_nil) (fun _ _ _ _ _ => (de_lc (scope := (eScope (eElt (asgVal ((defBody s_Stair___init__).getD 5 (.Pass ⟨0, 0, 0, 0⟩)))))) (own := [(("i" : Str), 4), (("j" : Str), 5)]) rfl sc_Stair___init__.nd (di_seq (de_fld (ok := okF_own_jumps) kn.fld_own_jumps (de_var (i := 0) rfl (.inr (.inl rfl))))) (show BlkOk [("self" : Str), ("steps" : Str), ("jumps" : Str), ("place" : Str), ("i" : Str), ("j" : Str)] (relS (asgVal ((defBody s_Stair___init__).getD 5 (.Pass ⟨0, 0, 0, 0⟩))) (defScope s_Stair___init__)) (eScope (eElt (asgVal ((defBody s_Stair___init__).getD 5 (.Pass ⟨0, 0, 0, 0⟩))))) [(("i" : Str), 4), (("j" : Str), 5)] from ⟨rfl, by decide +kernel, by decide +kernel, by decide +kernel, by decide +kernel⟩) (by decide) (fun _ _ _ _ _ => (dg_tup rfl (dgs_cons (dg_name sc_Stair___init__.nd rfl (.inl rfl)) (dgs_cons (dg_name sc_Stair___init__.nd rfl (.inl rfl)) dgs_nil)) (gsl_cons (gsl_cons gsl_nil)))) (fun _ _ _ _ _ => (dts_one (dt_cmp (o_eq hr.u64) (de_var (i := 4) rfl (.inl rfl)) (de_var (i := 3) rfl (.inr (.inl rfl))) (nomark _)))) (fun _ _ _ _ _ => (de_var (i := 5) rfl (.inl rfl)))))))))))))
theorem ok_Stair___init__ {P : Program} {w : World} {K : PySem.W.Frag} {mg : Str → Option Value} {base : Heap} (kn : Kn K mg) : MkOk true P w K mg base (clK K) 6 (He.ga K ("Stair" : Str)) f_Stair___init__ := by
  obtain ⟨fd, F⟩ := kn.s.def_ 8 (d := d_Stair___init__) rfl
  exact ⟨_, fd, [("self" : Str), ("steps" : Str), ("jumps" : Str)], kn.mkr_Stair, fo_Stair___init__ kn F, F.bindsN (fun _ _ _ _ _ _ us hl => match us, hl with | [_, _, _], _ => rfl)⟩
theorem sc__law_roads : FnScope [("_law_head" : Str), ("_law_jumps_here" : Str), ("_law_found" : Str), ("_law_here" : Str), ("_law_road" : Str), ("_law_i" : Str), ("_law_j" : Str)] [("_law_head" : Str), ("_law_jumps_here" : Str)] (defScope s__law_roads) := ⟨rfl, rfl, rfl, by decide +kernel, rfl, by decide +kernel, by decide +kernel⟩
def den__law_roads_2 : Den Out := (dRet (dSorted (dVar 2)))
def den__law_roads_1 : Den Out := (dSeq (whileLoop (dTest (dBin (gEqv true) (dVar 3) (dLst dNil))) (dSeq (dSet 4 (dPop 3))
  (dIfS (dTest (dBin (gEqv false) (dIx (dVar 4) (dUn gNeg (dC (.int 1)))) (dVar 0))) (dDrop (dAppend 2 (dVar 4))) (dDrop (dExtend 3 (dLc (dISeq (dVar 1)) (gTp (gsCons (gNm 5) (gsCons (gNm 6) gsNil))) (dTest (dBin (gEqv false) (dVar 5) (dIx (dVar 4) (dUn gNeg (dC (.int 1)))))) (dSh (dAdd (dVar 4) (dTup (dCons (dVar 6) dNil)))) [5, 6]))))) 1000000) den__law_roads_2)
def den__law_roads : Den Out := (dSeq (dPar 2 3 (dRCons (dLst dNil) (dRCons (dLst (dCons (dTup (dCons (dC (.int 0)) dNil)) dNil)) dRNil))) den__law_roads_1)
def f__law_roads : List W → Option (W × List W) := dFn 2 7 den__law_roads
theorem fo__law_roads {P : Program} {w : World} {K : PySem.W.Frag} {mg : Str → Option Value} {base : Heap} {fd : FuncData} (kn : Kn K mg) (F : FunD K ("_law_roads" : Str) ("_law_roads" : Str) (defArgs s__law_roads) (defBody s__law_roads) (defScope s__law_roads) [] [] (He.ga K ("_law_roads" : Str)) fd) : FnOkG true P w K mg base CX0 2 (He.ga K ("_law_roads" : Str)) fd [("_law_head" : Str), ("_law_jumps_here" : Str)] (spW w K (clK K) f__law_roads) := by
  refine okG (c := true) (k := 1) F sc__law_roads spW_len (fun cdv A outer s H vs Q E hr h => ⟨_, ?_, fn_end rfl h⟩)
  exact (dss_cons (ds_par (i := 2) (j := 3) rfl sc__law_roads.nd rfl rfl (by decide) rfl rfl (by decide) (by decide) (dr_cons (de_lst da_nil) (dr_cons (de_lst (da_cons (de_tup (da_cons de_int da_nil)) da_nil)) dr_nil)))
  (dss_cons (ds_while 1000000 (passes_of rfl) (dt_cmp (o_ne hr.u64) (de_var (i := 3) rfl (.inl rfl)) (de_lst da_nil) (nomark _)) (dss_cons (ds_set (i := 4) sc__law_roads.nd rfl (.inr rfl) (by decide) (de_pop (i := 3) rfl (.inl rfl) (by decide) (by decide)))
  (dss_one (ds_if (dt_cmp (o_eq hr.u64) (de_ix (de_var (i := 4) rfl (.inr (.inl rfl))) (de_neg de_int) (fun _ _ => rfl)) (de_var (i := 0) rfl (.inl rfl)) (nomark _)) (dss_one (ds_expr (de_append (i := 2) rfl (.inl rfl) (by decide) (by decide) (de_var (i := 4) rfl (.inr (.inl rfl)))))) (dss_one (ds_expr (de_extend (i := 3) rfl (.inl rfl) (by decide) (by decide) (de_lc (own := [(("_law_i" : Str), 5), (("_law_j" : Str), 6)]) rfl sc__law_roads.nd (di_seq (de_var (i := 1) rfl (.inl rfl))) (show BlkOk [("_law_head" : Str), ("_law_jumps_here" : Str), ("_law_found" : Str), ("_law_here" : Str), ("_law_road" : Str), ("_law_i" : Str), ("_law_j" : Str)] (defScope s__law_roads) _ _ from ⟨rfl, by decide +kernel, by decide +kernel, by decide +kernel, by decide +kernel⟩) (by decide) (fun _ _ _ _ _ => (dg_tup rfl (dgs_cons (dg_name sc__law_roads.nd rfl (.inl rfl)) (dgs_cons (dg_name sc__law_roads.nd rfl (.inl rfl)) dgs_nil)) (gsl_cons (gsl_cons gsl_nil)))) (fun _ _ _ _ _ => (dts_one (dt_cmp (o_eq hr.u64) (de_var (i := 5) rfl (.inl rfl)) (de_ix (de_var (i := 4) rfl (.inr (.inl rfl))) (de_neg de_int) (fun _ _ => rfl)) (nomark _)))) (fun _ _ _ _ _ => (de_add (de_var (i := 4) rfl (.inr (.inl rfl))) (de_tup (da_cons (de_var (i := 6) rfl (.inl rfl)) da_nil))))))))))))
  (dss_one (ds_ret (de_sorted rfl kn.free_sorted (de_var (i := 2) rfl (.inl rfl)))))))
theorem ok__law_roads {P : Program} {w : World} {K : PySem.W.Frag} {mg : Str → Option Value} {base : Heap} (kn : Kn K mg) : FunOk true P w K mg base (clK K) 2 (He.ga K ("_law_roads" : Str)) f__law_roads := by
  obtain ⟨fd, F⟩ := kn.s.def_ 9 (d := d__law_roads) rfl
  exact ⟨fd, [("_law_head" : Str), ("_law_jumps_here" : Str)], fo__law_roads kn F, F.bindsN (fun _ _ _ _ _ _ us hl => match us, hl with | [_, _], _ => rfl), F.kp⟩
theorem sc__law_flow : FnScope [("_law_jumps_here" : Str), ("_law_lot_here" : Str), ("_law_found" : Str), ("_law_road" : Str), ("_law_jump" : Str)] [("_law_jumps_here" : Str), ("_law_lot_here" : Str)] (defScope s__law_flow) := ⟨rfl, rfl, rfl, by decide +kernel, rfl, by decide +kernel, by decide +kernel⟩
def den__law_flow_2 : Den Out := (dRet (dVar 2))
def den__law_flow_1 : Den Out := (dSeq (dFor (dIKeys (dVar 1)) (gNm 3) (dFor (dIZipN (dCons (dVar 3) (dCons (dSlice (dVar 3) (dPart (dC (.int 1))) dNoPart) dNil))) (gNm 4) (dAsg (dAdd (dIxD (dVar 2) (dVar 4)) (dIxD (dVar 1) (dVar 3))) (gIxD 2 (dVar 4))))) den__law_flow_2)
def den__law_flow : Den Out := (dSeq (dSet 2 (dDict (dLc (dISeq (dVar 0)) (gNm 4) dYes (dSh (dTup (dCons (dVar 4) (dCons (dC (.int 0)) dNil)))) [4]))) den__law_flow_1)
def f__law_flow : List W → Option (W × List W) := dFn 2 5 den__law_flow
theorem fo__law_flow {P : Program} {w : World} {K : PySem.W.Frag} {mg : Str → Option Value} {base : Heap} {fd : FuncData} (kn : Kn K mg) (F : FunD K ("_law_flow" : Str) ("_law_flow" : Str) (defArgs s__law_flow) (defBody s__law_flow) (defScope s__law_flow) [] [] (He.ga K ("_law_flow" : Str)) fd) : FnOkG true P w K mg base CX0 2 (He.ga K ("_law_flow" : Str)) fd [("_law_jumps_here" : Str), ("_law_lot_here" : Str)] (spW w K (clK K) f__law_flow) := by
  refine okG (c := true) (k := 1) F sc__law_flow spW_len (fun cdv A outer s H vs Q E hr h => ⟨_, ?_, fn_end rfl h⟩)
  exact (dss_cons (ds_set (i := 2) sc__law_flow.nd rfl (.inl rfl) (by decide) (de_dict hr rfl rfl kn.free_dict (de_lc (own := [(("_law_jump" : Str), 4)]) rfl sc__law_flow.nd (di_seq (de_var (i := 0) rfl (.inl rfl))) (show BlkOk [("_law_jumps_here" : Str), ("_law_lot_here" : Str), ("_law_found" : Str), ("_law_road" : Str), ("_law_jump" : Str)] (defScope s__law_flow) _ _ from ⟨rfl, by decide +kernel, by decide +kernel, by decide +kernel, by decide +kernel⟩) (by decide) (fun _ _ _ _ _ => (dg_name sc__law_flow.nd rfl (.inl rfl))) (fun _ _ _ _ _ => dts_nil) (fun _ _ _ _ _ => (de_tup (da_cons (de_var (i := 4) rfl (.inl rfl)) (da_cons de_int da_nil)))))))
  (dss_cons (ds_for (passes_of rfl) rfl (di_keys (de_var (i := 1) rfl (.inl rfl))) (dg_name sc__law_flow.nd rfl (.inl rfl)) (dss_one (ds_for (passes_of rfl) rfl (di_zipN rfl kn.free_zip (da_cons (de_var (i := 3) rfl (.inl rfl)) (da_cons (de_slice (de_var (i := 3) rfl (.inl rfl)) (do_some de_int) do_none) da_nil))) (dg_name sc__law_flow.nd rfl (.inl rfl)) (dss_one (ds_asg (de_add (de_ixD hr (de_var (i := 2) rfl (.inl rfl)) (de_var (i := 4) rfl (.inl rfl)) (fun _ _ => rfl)) (de_ixD hr (de_var (i := 1) rfl (.inl rfl)) (de_var (i := 3) rfl (.inl rfl)) (fun _ _ => rfl))) (dg_ixD hr (i := 2) rfl (.inl rfl) (by decide) (by decide) (de_var (i := 4) rfl (.inl rfl))) (by decide))) (by decide))) (by decide))
  (dss_one (ds_ret (de_var (i := 2) rfl (.inl rfl))))))
theorem ok__law_flow {P : Program} {w : World} {K : PySem.W.Frag} {mg : Str → Option Value} {base : Heap} (kn : Kn K mg) : FunOk true P w K mg base (clK K) 2 (He.ga K ("_law_flow" : Str)) f__law_flow := by
  obtain ⟨fd, F⟩ := kn.s.def_ 10 (d := d__law_flow) rfl
  exact ⟨fd, [("_law_jumps_here" : Str), ("_law_lot_here" : Str)], fo__law_flow kn F, F.bindsN (fun _ _ _ _ _ _ us hl => match us, hl with | [_, _], _ => rfl), F.kp⟩
theorem sc__law_pick : FnScope [("_law_pot_here" : Str), ("_law_some" : Str)] [("_law_pot_here" : Str), ("_law_some" : Str)] (defScope s__law_pick) := ⟨rfl, rfl, rfl, by decide +kernel, rfl, by decide +kernel, by decide +kernel⟩
def den__law_pick : Den Out := (dRet (dIx (dVar 1) (dCall f__law_draw (dRCons (dVar 0) (dRCons (dUn gLen (dVar 1)) dRNil)) [])))
def f__law_pick : List W → Option (W × List W) := dFn 2 2 den__law_pick
theorem fo__law_pick {P : Program} {w : World} {K : PySem.W.Frag} {mg : Str → Option Value} {base : Heap} {fd : FuncData} (kn : Kn K mg) (F : FunD K ("_law_pick" : Str) ("_law_pick" : Str) (defArgs s__law_pick) (defBody s__law_pick) (defScope s__law_pick) [] [] (He.ga K ("_law_pick" : Str)) fd) : FnOkG true P w K mg base CX0 3 (He.ga K ("_law_pick" : Str)) fd [("_law_pot_here" : Str), ("_law_some" : Str)] (spW w K (clK K) f__law_pick) := by
  refine okG (c := true) (k := 2) F sc__law_pick spW_len (fun cdv A outer s H vs Q E hr h => ⟨_, ?_, fn_end rfl h⟩)
  exact (dss_one (ds_ret (de_ix (de_var (i := 1) rfl (.inl rfl)) (de_f (ok__law_draw kn) hr (by decide) rfl kn.glo__law_draw (dr_cons (de_var (i := 0) rfl (.inl rfl)) (dr_cons (de_cb c_len rfl kn.free_len PyProof.Rows.Boot.«len» (de_var (i := 1) rfl (.inl rfl))) dr_nil))) (fun _ _ => rfl))))
theorem ok__law_pick {P : Program} {w : World} {K : PySem.W.Frag} {mg : Str → Option Value} {base : Heap} (kn : Kn K mg) : FunOk true P w K mg base (clK K) 3 (He.ga K ("_law_pick" : Str)) f__law_pick := by
  obtain ⟨fd, F⟩ := kn.s.def_ 11 (d := d__law_pick) rfl
  exact ⟨fd, [("_law_pot_here" : Str), ("_law_some" : Str)], fo__law_pick kn F, F.bindsN (fun _ _ _ _ _ _ us hl => match us, hl with | [_, _], _ => rfl), F.kp⟩
theorem sc__law_lot : FnScope [("_law_pot_here" : Str), ("_law_roads_here" : Str), ("_law_tally" : Str), ("_law_most" : Str), ("_law_found" : Str), ("_law_turn" : Str)] [("_law_pot_here" : Str), ("_law_roads_here" : Str), ("_law_tally" : Str), ("_law_most" : Str)] (defScope s__law_lot) := ⟨rfl, rfl, rfl, by decide +kernel, rfl, by decide +kernel, by decide +kernel⟩
def den__law_lot_2 : Den Out := (dRet (dVar 4))
def den__law_lot_1 : Den Out := (dSeq (dFor (dIRange1 (dCons (dIf (dTest (dBin (gEqv true) (dVar 1) (dLst dNil))) (dCall f__law_draw (dRCons (dVar 0) (dRCons (dAdd (dVar 2) (dC (.int 1))) dRNil)) []) (dC (.int 0))) dNil)) (gNm 5) (dAsg (dAdd (dC (.int 1)) (dCall f__law_draw (dRCons (dVar 0) (dRCons (dVar 3) dRNil)) [])) (gIxD 4 (dCall f__law_pick (dRCons (dVar 0) (dRCons (dVar 1) dRNil)) [])))) den__law_lot_2)
def den__law_lot : Den Out := (dSeq (dSet 4 dDict0) den__law_lot_1)
def f__law_lot : List W → Option (W × List W) := dFn 4 6 den__law_lot
theorem fo__law_lot {P : Program} {w : World} {K : PySem.W.Frag} {mg : Str → Option Value} {base : Heap} {fd : FuncData} (kn : Kn K mg) (F : FunD K ("_law_lot" : Str) ("_law_lot" : Str) (defArgs s__law_lot) (defBody s__law_lot) (defScope s__law_lot) [] [] (He.ga K ("_law_lot" : Str)) fd) : FnOkG true P w K mg base CX0 4 (He.ga K ("_law_lot" : Str)) fd [("_law_pot_here" : Str), ("_law_roads_here" : Str), ("_law_tally" : Str), ("_law_most" : Str)] (spW w K (clK K) f__law_lot) := by
  refine okG (c := true) (k := 3) F sc__law_lot spW_len (fun cdv A outer s H vs Q E hr h => ⟨_, ?_, fn_end rfl h⟩)
  exact (dss_cons (ds_set (i := 4) sc__law_lot.nd rfl (.inl rfl) (by decide) de_dict0)
  (dss_cons (ds_for (passes_of rfl) rfl (di_range1 rfl kn.free_range (da_cons (de_if (dt_cmp (o_ne hr.u64) (de_var (i := 1) rfl (.inl rfl)) (de_lst da_nil) (nomark _)) (de_f (ok__law_draw kn) hr (by decide) rfl kn.glo__law_draw (dr_cons (de_var (i := 0) rfl (.inl rfl)) (dr_cons (de_add (de_var (i := 2) rfl (.inl rfl)) de_int) dr_nil))) de_int) da_nil)) (dg_name sc__law_lot.nd rfl (.inl rfl)) (dss_one (ds_asg (de_add de_int (de_f (ok__law_draw kn) hr (by decide) rfl kn.glo__law_draw (dr_cons (de_var (i := 0) rfl (.inl rfl)) (dr_cons (de_var (i := 3) rfl (.inl rfl)) dr_nil)))) (dg_ixD hr (i := 4) rfl (.inl rfl) (by decide) (by decide) (de_f (ok__law_pick kn) hr (by decide) rfl kn.glo__law_pick (dr_cons (de_var (i := 0) rfl (.inl rfl)) (dr_cons (de_var (i := 1) rfl (.inl rfl)) dr_nil)))) (by decide))) (by decide))
  (dss_one (ds_ret (de_var (i := 4) rfl (.inl rfl))))))
theorem ok__law_lot {P : Program} {w : World} {K : PySem.W.Frag} {mg : Str → Option Value} {base : Heap} (kn : Kn K mg) : FunOk true P w K mg base (clK K) 4 (He.ga K ("_law_lot" : Str)) f__law_lot := by
  obtain ⟨fd, F⟩ := kn.s.def_ 12 (d := d__law_lot) rfl
  exact ⟨fd, [("_law_pot_here" : Str), ("_law_roads_here" : Str), ("_law_tally" : Str), ("_law_most" : Str)], fo__law_lot kn F, F.bindsN (fun _ _ _ _ _ _ us hl => match us, hl with | [_, _, _, _], _ => rfl), F.kp⟩
theorem sc__law_other : FnScope [("_law_load" : Str), ("_law_jump" : Str), ("_law_tally" : Str), ("_law_fore" : Str)] [("_law_load" : Str), ("_law_jump" : Str), ("_law_tally" : Str)] (defScope s__law_other) := ⟨rfl, rfl, rfl, by decide +kernel, rfl, by decide +kernel, by decide +kernel⟩
def den__law_other : Den Out := (dRet (dDict (dAdd (dLst (dCons (dTup (dCons (dVar 1) (dCons (dVar 2) dNil))) dNil)) (dLc (dIKeys (dVar 0)) (gNm 3) (dTest (dBin (gEqv true) (dVar 3) (dVar 1))) (dSh (dTup (dCons (dVar 3) (dCons (dIxD (dVar 0) (dVar 3)) dNil)))) [3]))))
def f__law_other : List W → Option (W × List W) := dFn 3 4 den__law_other
theorem fo__law_other {P : Program} {w : World} {K : PySem.W.Frag} {mg : Str → Option Value} {base : Heap} {fd : FuncData} (kn : Kn K mg) (F : FunD K ("_law_other" : Str) ("_law_other" : Str) (defArgs s__law_other) (defBody s__law_other) (defScope s__law_other) [] [] (He.ga K ("_law_other" : Str)) fd) : FnOkG true P w K mg base CX0 2 (He.ga K ("_law_other" : Str)) fd [("_law_load" : Str), ("_law_jump" : Str), ("_law_tally" : Str)] (spW w K (clK K) f__law_other) := by
  refine okG (c := true) (k := 1) F sc__law_other spW_len (fun cdv A outer s H vs Q E hr h => ⟨_, ?_, fn_end rfl h⟩)
  exact (dss_one (ds_ret (de_dict hr rfl rfl kn.free_dict (de_add (de_lst (da_cons (de_tup (da_cons (de_var (i := 1) rfl (.inr (.inl rfl))) (da_cons (de_var (i := 2) rfl (.inl rfl)) da_nil))) da_nil)) (de_lc (own := [(("_law_fore" : Str), 3)]) rfl sc__law_other.nd (di_keys (de_var (i := 0) rfl (.inr (.inl rfl)))) (show BlkOk [("_law_load" : Str), ("_law_jump" : Str), ("_law_tally" : Str), ("_law_fore" : Str)] (defScope s__law_other) _ _ from ⟨rfl, by decide +kernel, by decide +kernel, by decide +kernel, by decide +kernel⟩) (by decide) (fun _ _ _ _ _ => (dg_name sc__law_other.nd rfl (.inl rfl))) (fun _ _ _ _ _ => (dts_one (dt_cmp (o_ne hr.u64) (de_var (i := 3) rfl (.inl rfl)) (de_var (i := 1) rfl (.inr (.inl rfl))) (nomark _)))) (fun _ _ _ _ _ => (de_tup (da_cons (de_var (i := 3) rfl (.inl rfl)) (da_cons (de_ixD hr (de_var (i := 0) rfl (.inr (.inl rfl))) (de_var (i := 3) rfl (.inl rfl)) (fun _ _ => rfl)) da_nil)))))))))
theorem ok__law_other {P : Program} {w : World} {K : PySem.W.Frag} {mg : Str → Option Value} {base : Heap} (kn : Kn K mg) : FunOk true P w K mg base (clK K) 2 (He.ga K ("_law_other" : Str)) f__law_other := by
  obtain ⟨fd, F⟩ := kn.s.def_ 13 (d := d__law_other) rfl
  exact ⟨fd, [("_law_load" : Str), ("_law_jump" : Str), ("_law_tally" : Str)], fo__law_other kn F, F.bindsN (fun _ _ _ _ _ _ us hl => match us, hl with | [_, _, _], _ => rfl), F.kp⟩
theorem sc__law_bent : FnScope [("_law_pot_here" : Str), ("_law_head" : Str), ("_law_jumps_here" : Str), ("_law_load" : Str), ("_law_found" : Str), ("_law_odd" : Str), ("_law_jump" : Str), ("_law_mate" : Str), ("_law_bad" : Str), ("_law_fore" : Str)] [("_law_pot_here" : Str), ("_law_head" : Str), ("_law_jumps_here" : Str), ("_law_load" : Str)] (defScope s__law_bent) := ⟨rfl, rfl, rfl, by decide +kernel, rfl, by decide +kernel, by decide +kernel⟩
def den__law_bent_4 : Den Out := (dRet (dVar 4))
def den__law_bent_3 : Den Out := (dSeq (dIfS (dTest (dBin (gEqv true) (dVar 2) (dLst dNil))) (dSeq (dAsg (dTup (dCons (dCall f__law_pick (dRCons (dVar 0) (dRCons (dVar 2) dRNil)) []) (dCons (dCall f__law_pick (dRCons (dVar 0) (dRCons (dVar 2) dRNil)) []) dNil))) (gTp (gsCons (gNm 6) (gsCons (gNm 7) gsNil))))
  (dSeq (dFor (dISeq (dLst (dCons (dC (.bool true)) (dCons (dC (.bool false)) (dCons (dC .none) (dCons (dUn gNeg (dC (.int 1))) (dCons (dC (.str ("0" : Str))) (dCons (dTup (dCons (dC (.int 0)) dNil)) (dCons (dLst (dCons (dC (.int 1)) dNil)) (dCons (dAdd (dIxD (dVar 3) (dVar 6)) (dC (.int 1))) (dCons (dBin gMax2 (dC (.int 0)) (dBin gSub (dIxD (dVar 3) (dVar 6)) (dC (.int 1)))) (dCons (dIxD (dVar 3) (dVar 6)) dNil)))))))))))) (gNm 8) (dDrop (dAppend 4 (dCall f__law_other (dRCons (dVar 3) (dRCons (dVar 6) (dRCons (dVar 8) dRNil))) []))))
  (dSeq (dDrop (dAppend 4 (dCall f__law_other (dRCons (dCall f__law_other (dRCons (dVar 3) (dRCons (dVar 6) (dRCons (dAdd (dIxD (dVar 3) (dVar 6)) (dC (.int 1))) dRNil))) []) (dRCons (dVar 7) (dRCons (dAdd (dIxD (dVar 3) (dVar 7)) (dC (.int 1))) dRNil))) [])))
  (dSeq (dDrop (dAppend 4 (dCall f__law_other (dRCons (dCall f__law_other (dRCons (dVar 3) (dRCons (dVar 6) (dRCons (dIxD (dVar 3) (dVar 7)) dRNil))) []) (dRCons (dVar 7) (dRCons (dIxD (dVar 3) (dVar 6)) dRNil))) [])))
  (dDrop (dAppend 4 (dDict (dLc (dIKeys (dVar 3)) (gNm 9) (dTest (dBin (gEqv true) (dVar 9) (dVar 6))) (dSh (dTup (dCons (dVar 9) (dCons (dIxD (dVar 3) (dVar 9)) dNil)))) [9])))))))) dNext) den__law_bent_4)
def den__law_bent_2 : Den Out := (dSeq (dFor (dISeq (dLst (dCons (dC (.str ("feet" : Str))) (dCons (dC (.int 1)) (dCons (dTup (dCons (dC (.int 0)) (dCons (dAdd (dVar 1) (dC (.int 1))) dNil))) (dCons (dTup (dCons (dC (.int 1)) (dCons (dC (.int 0)) dNil))) (dCons (dC .none) (dCons (dTup dNil) (dCons (dTup (dCons (dC (.int 0)) dNil)) (dCons (dTup (dCons (dC (.int 0)) (dCons (dC (.int 0)) dNil))) (dCons (dTup (dCons (dC (.int 0)) (dCons (dC (.int 1)) (dCons (dC (.int 2)) dNil)))) (dCons (dTup (dCons (dC (.bool false)) (dCons (dC (.bool true)) dNil))) (dCons (dC (.str ("(0, 1)" : Str))) dNil))))))))))))) (gNm 5) (dDrop (dAppend 4 (dCall f__law_other (dRCons (dVar 3) (dRCons (dVar 5) (dRCons (dCall f__law_pick (dRCons (dVar 0) (dRCons (dLst (dCons (dC (.int 0)) (dCons (dC (.int 1)) dNil))) dRNil)) []) dRNil))) [])))) den__law_bent_3)
def den__law_bent_1 : Den Out := (dSeq (dSet 4 (dAdd (dVar 4) (dLst (dCons (dDict (dRev (dItL (dVar 3)))) (dCons (dC .none) (dCons (dC (.int 0)) (dCons (dC (.str ("" : Str))) (dCons (dLst dNil) (dCons (dC (.bool true)) (dCons (dItL (dVar 3)) (dCons (dItT (dVar 3)) dNil))))))))))) den__law_bent_2)
def den__law_bent : Den Out := (dSeq (dSet 4 (dLst (dCons (dVar 3) (dCons dDict0 (dCons (dDict (dLc (dIKeys (dVar 3)) (gNm 6) (dTest (dBin gGt (dIxD (dVar 3) (dVar 6)) (dC (.int 0)))) (dSh (dTup (dCons (dVar 6) (dCons (dIxD (dVar 3) (dVar 6)) dNil)))) [6])) dNil))))) den__law_bent_1)
def f__law_bent : List W → Option (W × List W) := dFn 4 10 den__law_bent
theorem fo__law_bent {P : Program} {w : World} {K : PySem.W.Frag} {mg : Str → Option Value} {base : Heap} {fd : FuncData} (kn : Kn K mg) (F : FunD K ("_law_bent" : Str) ("_law_bent" : Str) (defArgs s__law_bent) (defBody s__law_bent) (defScope s__law_bent) [] [] (He.ga K ("_law_bent" : Str)) fd) : FnOkG true P w K mg base CX0 4 (He.ga K ("_law_bent" : Str)) fd [("_law_pot_here" : Str), ("_law_head" : Str), ("_law_jumps_here" : Str), ("_law_load" : Str)] (spW w K (clK K) f__law_bent) := by
  refine okG (c := true) (k := 3) F sc__law_bent spW_len (fun cdv A outer s H vs Q E hr h => ⟨_, ?_, fn_end rfl h⟩)
  exact (dss_cons (ds_set (i := 4) sc__law_bent.nd rfl (.inl rfl) (by decide) (de_lst (da_cons (de_var (i := 3) rfl (.inr (.inl rfl))) (da_cons de_dict0 (da_cons (de_dict hr rfl rfl kn.free_dict (de_lc (own := [(("_law_jump" : Str), 6)]) rfl sc__law_bent.nd (di_keys (de_var (i := 3) rfl (.inr (.inl rfl)))) (show BlkOk [("_law_pot_here" : Str), ("_law_head" : Str), ("_law_jumps_here" : Str), ("_law_load" : Str), ("_law_found" : Str), ("_law_odd" : Str), ("_law_jump" : Str), ("_law_mate" : Str), ("_law_bad" : Str), ("_law_fore" : Str)] (defScope s__law_bent) _ _ from ⟨rfl, by decide +kernel, by decide +kernel, by decide +kernel, by decide +kernel⟩) (by decide) (fun _ _ _ _ _ => (dg_name sc__law_bent.nd rfl (.inl rfl))) (fun _ _ _ _ _ => (dts_one (dt_cmp o_gt (de_ixD hr (de_var (i := 3) rfl (.inr (.inl rfl))) (de_var (i := 6) rfl (.inl rfl)) (fun _ _ => rfl)) de_int (nomark _)))) (fun _ _ _ _ _ => (de_tup (da_cons (de_var (i := 6) rfl (.inl rfl)) (da_cons (de_ixD hr (de_var (i := 3) rfl (.inr (.inl rfl))) (de_var (i := 6) rfl (.inl rfl)) (fun _ _ => rfl)) da_nil)))))) da_nil)))))
  (dss_cons (ds_set (i := 4) sc__law_bent.nd rfl (.inl rfl) (by decide) (de_add (de_var (i := 4) rfl (.inl rfl)) (de_lst (da_cons (de_dict hr rfl rfl kn.free_dict (de_rev (de_itL rfl (de_var (i := 3) rfl (.inr (.inl rfl))) rfl kn.free_list))) (da_cons de_non (da_cons de_int (da_cons de_str (da_cons (de_lst da_nil) (da_cons de_bl (da_cons (de_itL rfl (de_var (i := 3) rfl (.inr (.inl rfl))) rfl kn.free_list) (da_cons (de_itT rfl (de_var (i := 3) rfl (.inr (.inl rfl))) rfl kn.free_tuple) da_nil)))))))))))
  (dss_cons (ds_for (passes_of rfl) rfl (di_seq (de_lst (da_cons de_str (da_cons de_int (da_cons (de_tup (da_cons de_int (da_cons (de_add (de_var (i := 1) rfl (.inl rfl)) de_int) da_nil))) (da_cons (de_tup (da_cons de_int (da_cons de_int da_nil))) (da_cons de_non (da_cons (de_tup da_nil) (da_cons (de_tup (da_cons de_int da_nil)) (da_cons (de_tup (da_cons de_int (da_cons de_int da_nil))) (da_cons (de_tup (da_cons de_int (da_cons de_int (da_cons de_int da_nil)))) (da_cons (de_tup (da_cons de_bl (da_cons de_bl da_nil))) (da_cons de_str da_nil))))))))))))) (dg_name sc__law_bent.nd rfl (.inl rfl)) (dss_one (ds_expr (de_append (i := 4) rfl (.inl rfl) (by decide) (by decide) (de_f (ok__law_other kn) hr (by decide) rfl kn.glo__law_other (dr_cons (de_var (i := 3) rfl (.inr (.inl rfl))) (dr_cons (de_var (i := 5) rfl (.inl rfl)) (dr_cons (de_f (ok__law_pick kn) hr (by decide) rfl kn.glo__law_pick (dr_cons (de_var (i := 0) rfl (.inl rfl)) (dr_cons (de_lst (da_cons de_int (da_cons de_int da_nil))) dr_nil))) dr_nil))))))) (by decide))
  (dss_cons (ds_if (dt_cmp (o_ne hr.u64) (de_var (i := 2) rfl (.inl rfl)) (de_lst da_nil) (nomark _)) (dss_cons (ds_asg (de_tup (da_cons (de_f (ok__law_pick kn) hr (by decide) rfl kn.glo__law_pick (dr_cons (de_var (i := 0) rfl (.inl rfl)) (dr_cons (de_var (i := 2) rfl (.inl rfl)) dr_nil))) (da_cons (de_f (ok__law_pick kn) hr (by decide) rfl kn.glo__law_pick (dr_cons (de_var (i := 0) rfl (.inl rfl)) (dr_cons (de_var (i := 2) rfl (.inl rfl)) dr_nil))) da_nil))) (dg_tup rfl (dgs_cons (dg_name sc__law_bent.nd rfl (.inr rfl)) (dgs_cons (dg_name sc__law_bent.nd rfl (.inl rfl)) dgs_nil)) (gsl_cons (gsl_cons gsl_nil))) (by decide))
  (dss_cons (ds_for (passes_of rfl) rfl (di_seq (de_lst (da_cons de_bl (da_cons de_bl (da_cons de_non (da_cons (de_neg de_int) (da_cons de_str (da_cons (de_tup (da_cons de_int da_nil)) (da_cons (de_lst (da_cons de_int da_nil)) (da_cons (de_add (de_ixD hr (de_var (i := 3) rfl (.inr (.inl rfl))) (de_var (i := 6) rfl (.inr (.inl rfl))) (fun _ _ => rfl)) de_int) (da_cons (de_cb2 (c_max2 rfl) rfl kn.free_max PyProof.Rows.Boot.«max» de_int (de_bin o_sub (de_ixD hr (de_var (i := 3) rfl (.inr (.inl rfl))) (de_var (i := 6) rfl (.inr (.inl rfl))) (fun _ _ => rfl)) de_int)) (da_cons (de_ixD hr (de_var (i := 3) rfl (.inr (.inl rfl))) (de_var (i := 6) rfl (.inr (.inl rfl))) (fun _ _ => rfl)) da_nil)))))))))))) (dg_name sc__law_bent.nd rfl (.inl rfl)) (dss_one (ds_expr (de_append (i := 4) rfl (.inl rfl) (by decide) (by decide) (de_f (ok__law_other kn) hr (by decide) rfl kn.glo__law_other (dr_cons (de_var (i := 3) rfl (.inr (.inl rfl))) (dr_cons (de_var (i := 6) rfl (.inr (.inl rfl))) (dr_cons (de_var (i := 8) rfl (.inl rfl)) dr_nil))))))) (by decide))
  (dss_cons (ds_expr (de_append (i := 4) rfl (.inl rfl) (by decide) (by decide) (de_f (ok__law_other kn) hr (by decide) rfl kn.glo__law_other (dr_cons (de_f (ok__law_other kn) hr (by decide) rfl kn.glo__law_other (dr_cons (de_var (i := 3) rfl (.inr (.inl rfl))) (dr_cons (de_var (i := 6) rfl (.inr (.inl rfl))) (dr_cons (de_add (de_ixD hr (de_var (i := 3) rfl (.inr (.inl rfl))) (de_var (i := 6) rfl (.inr (.inl rfl))) (fun _ _ => rfl)) de_int) dr_nil)))) (dr_cons (de_var (i := 7) rfl (.inl rfl)) (dr_cons (de_add (de_ixD hr (de_var (i := 3) rfl (.inr (.inl rfl))) (de_var (i := 7) rfl (.inl rfl)) (fun _ _ => rfl)) de_int) dr_nil))))))
  (dss_cons (ds_expr (de_append (i := 4) rfl (.inl rfl) (by decide) (by decide) (de_f (ok__law_other kn) hr (by decide) rfl kn.glo__law_other (dr_cons (de_f (ok__law_other kn) hr (by decide) rfl kn.glo__law_other (dr_cons (de_var (i := 3) rfl (.inr (.inl rfl))) (dr_cons (de_var (i := 6) rfl (.inr (.inl rfl))) (dr_cons (de_ixD hr (de_var (i := 3) rfl (.inr (.inl rfl))) (de_var (i := 7) rfl (.inl rfl)) (fun _ _ => rfl)) dr_nil)))) (dr_cons (de_var (i := 7) rfl (.inl rfl)) (dr_cons (de_ixD hr (de_var (i := 3) rfl (.inr (.inl rfl))) (de_var (i := 6) rfl (.inr (.inl rfl))) (fun _ _ => rfl)) dr_nil))))))
  (dss_one (ds_expr (de_append (i := 4) rfl (.inl rfl) (by decide) (by decide) (de_dict hr rfl rfl kn.free_dict (de_lc (own := [(("_law_fore" : Str), 9)]) rfl sc__law_bent.nd (di_keys (de_var (i := 3) rfl (.inr (.inl rfl)))) (show BlkOk [("_law_pot_here" : Str), ("_law_head" : Str), ("_law_jumps_here" : Str), ("_law_load" : Str), ("_law_found" : Str), ("_law_odd" : Str), ("_law_jump" : Str), ("_law_mate" : Str), ("_law_bad" : Str), ("_law_fore" : Str)] (defScope s__law_bent) _ _ from ⟨rfl, by decide +kernel, by decide +kernel, by decide +kernel, by decide +kernel⟩) (by decide) (fun _ _ _ _ _ => (dg_name sc__law_bent.nd rfl (.inl rfl))) (fun _ _ _ _ _ => (dts_one (dt_cmp (o_ne hr.u64) (de_var (i := 9) rfl (.inl rfl)) (de_var (i := 6) rfl (.inr (.inl rfl))) (nomark _)))) (fun _ _ _ _ _ => (de_tup (da_cons (de_var (i := 9) rfl (.inl rfl)) (da_cons (de_ixD hr (de_var (i := 3) rfl (.inr (.inl rfl))) (de_var (i := 9) rfl (.inl rfl)) (fun _ _ => rfl)) da_nil))))))))))))) dss_nil)
  (dss_one (ds_ret (de_var (i := 4) rfl (.inl rfl))))))))
theorem ok__law_bent {P : Program} {w : World} {K : PySem.W.Frag} {mg : Str → Option Value} {base : Heap} (kn : Kn K mg) : FunOk true P w K mg base (clK K) 4 (He.ga K ("_law_bent" : Str)) f__law_bent := by
  obtain ⟨fd, F⟩ := kn.s.def_ 14 (d := d__law_bent) rfl
  exact ⟨fd, [("_law_pot_here" : Str), ("_law_head" : Str), ("_law_jumps_here" : Str), ("_law_load" : Str)], fo__law_bent kn F, F.bindsN (fun _ _ _ _ _ _ us hl => match us, hl with | [_, _, _, _], _ => rfl), F.kp⟩
theorem sc__law_more : FnScope [("_law_pot_here" : Str), ("_law_roads_here" : Str), ("_law_load" : Str), ("_law_found" : Str), ("_law_road" : Str), ("_law_made" : Str), ("_law_jump" : Str)] [("_law_pot_here" : Str), ("_law_roads_here" : Str), ("_law_load" : Str)] (defScope s__law_more) := ⟨rfl, rfl, rfl, by decide +kernel, rfl, by decide +kernel, by decide +kernel⟩
def den__law_more_2 : Den Out := (dRet (dVar 3))
def den__law_more_1 : Den Out := (dSeq (dIfS (dTest (dBin (gEqv true) (dVar 1) (dLst dNil))) (dSeq (dSet 4 (dCall f__law_pick (dRCons (dVar 0) (dRCons (dVar 1) dRNil)) []))
  (dSeq (dSet 5 (dLc (dIZipN (dCons (dVar 4) (dCons (dSlice (dVar 4) (dPart (dC (.int 1))) dNoPart) dNil))) (gNm 6) dYes (dSh (dVar 6)) [6]))
  (dDrop (dAppend 3 (dDict (dLc (dIKeys (dVar 2)) (gNm 6) dYes (dSh (dTup (dCons (dVar 6) (dCons (dAdd (dIxD (dVar 2) (dVar 6)) (dUn gInt1 (dBin (gInL false) (dVar 6) (dVar 5)))) dNil)))) [6])))))) dNext) den__law_more_2)
def den__law_more : Den Out := (dSeq (dSet 3 (dLst (dCons (dDict (dLc (dIKeys (dVar 2)) (gNm 6) dYes (dSh (dTup (dCons (dVar 6) (dCons (dAdd (dIxD (dVar 2) (dVar 6)) (dC (.int 1))) dNil)))) [6])) (dCons (dDict (dLc (dIKeys (dVar 2)) (gNm 6) dYes (dSh (dTup (dCons (dVar 6) (dCons (dMul (dIxD (dVar 2) (dVar 6)) (dC (.int 3))) dNil)))) [6])) dNil)))) den__law_more_1)
def f__law_more : List W → Option (W × List W) := dFn 3 7 den__law_more
theorem fo__law_more {P : Program} {w : World} {K : PySem.W.Frag} {mg : Str → Option Value} {base : Heap} {fd : FuncData} (kn : Kn K mg) (F : FunD K ("_law_more" : Str) ("_law_more" : Str) (defArgs s__law_more) (defBody s__law_more) (defScope s__law_more) [] [] (He.ga K ("_law_more" : Str)) fd) : FnOkG true P w K mg base CX0 4 (He.ga K ("_law_more" : Str)) fd [("_law_pot_here" : Str), ("_law_roads_here" : Str), ("_law_load" : Str)] (spW w K (clK K) f__law_more) := by
  refine okG (c := true) (k := 3) F sc__law_more spW_len (fun cdv A outer s H vs Q E hr h => ⟨_, ?_, fn_end rfl h⟩)
  exact (dss_cons (ds_set (i := 3) sc__law_more.nd rfl (.inl rfl) (by decide) (de_lst (da_cons (de_dict hr rfl rfl kn.free_dict (de_lc (own := [(("_law_jump" : Str), 6)]) rfl sc__law_more.nd (di_keys (de_var (i := 2) rfl (.inr (.inl rfl)))) (show BlkOk [("_law_pot_here" : Str), ("_law_roads_here" : Str), ("_law_load" : Str), ("_law_found" : Str), ("_law_road" : Str), ("_law_made" : Str), ("_law_jump" : Str)] (defScope s__law_more) _ _ from ⟨rfl, by decide +kernel, by decide +kernel, by decide +kernel, by decide +kernel⟩) (by decide) (fun _ _ _ _ _ => (dg_name sc__law_more.nd rfl (.inl rfl))) (fun _ _ _ _ _ => dts_nil) (fun _ _ _ _ _ => (de_tup (da_cons (de_var (i := 6) rfl (.inl rfl)) (da_cons (de_add (de_ixD hr (de_var (i := 2) rfl (.inr (.inl rfl))) (de_var (i := 6) rfl (.inl rfl)) (fun _ _ => rfl)) de_int) da_nil)))))) (da_cons (de_dict hr rfl rfl kn.free_dict (de_lc (own := [(("_law_jump" : Str), 6)]) rfl sc__law_more.nd (di_keys (de_var (i := 2) rfl (.inr (.inl rfl)))) (show BlkOk [("_law_pot_here" : Str), ("_law_roads_here" : Str), ("_law_load" : Str), ("_law_found" : Str), ("_law_road" : Str), ("_law_made" : Str), ("_law_jump" : Str)] (defScope s__law_more) _ _ from ⟨rfl, by decide +kernel, by decide +kernel, by decide +kernel, by decide +kernel⟩) (by decide) (fun _ _ _ _ _ => (dg_name sc__law_more.nd rfl (.inl rfl))) (fun _ _ _ _ _ => dts_nil) (fun _ _ _ _ _ => (de_tup (da_cons (de_var (i := 6) rfl (.inl rfl)) (da_cons (de_mul (de_ixD hr (de_var (i := 2) rfl (.inr (.inl rfl))) (de_var (i := 6) rfl (.inl rfl)) (fun _ _ => rfl)) de_int) da_nil)))))) da_nil))))
  (dss_cons (ds_if (dt_cmp (o_ne hr.u64) (de_var (i := 1) rfl (.inl rfl)) (de_lst da_nil) (nomark _)) (dss_cons (ds_set (i := 4) sc__law_more.nd rfl (.inl rfl) (by decide) (de_f (ok__law_pick kn) hr (by decide) rfl kn.glo__law_pick (dr_cons (de_var (i := 0) rfl (.inl rfl)) (dr_cons (de_var (i := 1) rfl (.inl rfl)) dr_nil))))
  (dss_cons (ds_set (i := 5) sc__law_more.nd rfl (.inr rfl) (by decide) (de_lc (own := [(("_law_jump" : Str), 6)]) rfl sc__law_more.nd (di_zipN rfl kn.free_zip (da_cons (de_var (i := 4) rfl (.inl rfl)) (da_cons (de_slice (de_var (i := 4) rfl (.inl rfl)) (do_some de_int) do_none) da_nil))) (show BlkOk [("_law_pot_here" : Str), ("_law_roads_here" : Str), ("_law_load" : Str), ("_law_found" : Str), ("_law_road" : Str), ("_law_made" : Str), ("_law_jump" : Str)] (defScope s__law_more) _ _ from ⟨rfl, by decide +kernel, by decide +kernel, by decide +kernel, by decide +kernel⟩) (by decide) (fun _ _ _ _ _ => (dg_name sc__law_more.nd rfl (.inl rfl))) (fun _ _ _ _ _ => dts_nil) (fun _ _ _ _ _ => (de_var (i := 6) rfl (.inl rfl)))))
  (dss_one (ds_expr (de_append (i := 3) rfl (.inl rfl) (by decide) (by decide) (de_dict hr rfl rfl kn.free_dict (de_lc (own := [(("_law_jump" : Str), 6)]) rfl sc__law_more.nd (di_keys (de_var (i := 2) rfl (.inr (.inl rfl)))) (show BlkOk [("_law_pot_here" : Str), ("_law_roads_here" : Str), ("_law_load" : Str), ("_law_found" : Str), ("_law_road" : Str), ("_law_made" : Str), ("_law_jump" : Str)] (defScope s__law_more) _ _ from ⟨rfl, by decide +kernel, by decide +kernel, by decide +kernel, by decide +kernel⟩) (by decide) (fun _ _ _ _ _ => (dg_name sc__law_more.nd rfl (.inl rfl))) (fun _ _ _ _ _ => dts_nil) (fun _ _ _ _ _ => (de_tup (da_cons (de_var (i := 6) rfl (.inl rfl)) (da_cons (de_add (de_ixD hr (de_var (i := 2) rfl (.inr (.inl rfl))) (de_var (i := 6) rfl (.inl rfl)) (fun _ _ => rfl)) (de_ct c_int rfl kn.free_int PyProof.Rows.Boot.«int» (de_cmp (o_in hr.u65) (de_var (i := 6) rfl (.inl rfl)) (de_var (i := 5) rfl (.inr (.inl rfl))) rfl))) da_nil))))))))))) dss_nil)
  (dss_one (ds_ret (de_var (i := 3) rfl (.inl rfl))))))
theorem ok__law_more {P : Program} {w : World} {K : PySem.W.Frag} {mg : Str → Option Value} {base : Heap} (kn : Kn K mg) : FunOk true P w K mg base (clK K) 4 (He.ga K ("_law_more" : Str)) f__law_more := by
  obtain ⟨fd, F⟩ := kn.s.def_ 15 (d := d__law_more) rfl
  exact ⟨fd, [("_law_pot_here" : Str), ("_law_roads_here" : Str), ("_law_load" : Str)], fo__law_more kn F, F.bindsN (fun _ _ _ _ _ _ us hl => match us, hl with | [_, _, _], _ => rfl), F.kp⟩
theorem sc__law_is_whole : FnScope [("_law_item" : Str)] [("_law_item" : Str)] (defScope s__law_is_whole) := ⟨rfl, rfl, rfl, by decide +kernel, rfl, by decide +kernel, by decide +kernel⟩
def den__law_is_whole : Den Out := (dRet (dAndV (dUn (gIsi ["int"]) (dVar 0)) (dAndV (dNotV (dUn (gIsi ["bool"]) (dVar 0))) (dBin gGe (dVar 0) (dC (.int 0))))))
def f__law_is_whole : List W → Option (W × List W) := dFn 1 1 den__law_is_whole
theorem fo__law_is_whole {P : Program} {w : World} {K : PySem.W.Frag} {mg : Str → Option Value} {base : Heap} {fd : FuncData} (kn : Kn K mg) (F : FunD K ("_law_is_whole" : Str) ("_law_is_whole" : Str) (defArgs s__law_is_whole) (defBody s__law_is_whole) (defScope s__law_is_whole) [] [] (He.ga K ("_law_is_whole" : Str)) fd) : FnOkG true P w K mg base CX0 2 (He.ga K ("_law_is_whole" : Str)) fd [("_law_item" : Str)] (spW w K (clK K) f__law_is_whole) := by
  refine okG (c := true) (k := 1) F sc__law_is_whole spW_len (fun cdv A outer s H vs Q E hr h => ⟨_, ?_, fn_end rfl h⟩)
  exact (dss_one (ds_ret (de_and (de_isi isi_int rfl kn.free_isinstance rfl kn.free_int PyProof.Rows.Boot.«int» (de_var (i := 0) rfl (.inl rfl))) (de_and (de_not (de_isi isi_bool rfl kn.free_isinstance rfl kn.free_bool PyProof.Rows.Boot.«bool» (de_var (i := 0) rfl (.inl rfl)))) (de_one (de_cmp o_ge (de_var (i := 0) rfl (.inl rfl)) de_int (nomark _)))))))
theorem ok__law_is_whole {P : Program} {w : World} {K : PySem.W.Frag} {mg : Str → Option Value} {base : Heap} (kn : Kn K mg) : FunOk true P w K mg base (clK K) 2 (He.ga K ("_law_is_whole" : Str)) f__law_is_whole := by
  obtain ⟨fd, F⟩ := kn.s.def_ 16 (d := d__law_is_whole) rfl
  exact ⟨fd, [("_law_item" : Str)], fo__law_is_whole kn F, F.bindsN (fun _ _ _ _ _ _ us hl => match us, hl with | [_], _ => rfl), F.kp⟩
theorem sc__law_is_flow : FnScope [("_law_head" : Str), ("_law_jumps_here" : Str), ("_law_thing" : Str), ("_law_marks_now" : Str), ("_law_spot" : Str), ("_law_coming" : Str), ("_law_jump" : Str), ("_law_tally" : Str)] [("_law_head" : Str), ("_law_jumps_here" : Str), ("_law_thing" : Str)] (defScope s__law_is_flow) := ⟨rfl, rfl, rfl, by decide +kernel, rfl, by decide +kernel, by decide +kernel⟩
def den__law_is_flow_5 : Den Out := (dRet (dC (.bool true)))
def den__law_is_flow_4 : Den Out := (dSeq (dFor (dIRange2 (dCons (dC (.int 1)) (dCons (dVar 0) dNil))) (gNm 4) (dSeq (dSet 5 (dUn gSum (dLc (dIKeys (dVar 2)) (gNm 6) (dTest (dBin (gEqv false) (dIx (dVar 6) (dC (.int 1))) (dVar 4))) (dSh (dIxD (dVar 2) (dVar 6))) [6])))
  (dIfS (dTest (dBin (gEqv true) (dVar 5) (dUn gSum (dLc (dIKeys (dVar 2)) (gNm 6) (dTest (dBin (gEqv false) (dIx (dVar 6) (dC (.int 0))) (dVar 4))) (dSh (dIxD (dVar 2) (dVar 6))) [6])))) (dRet (dC (.bool false))) dNext))) den__law_is_flow_5)
def den__law_is_flow_3 : Den Out := (dSeq (dIfS (dNot (dTest (dUn gAll (dLc (dIVals (dVar 2)) (gNm 7) dYes (dSh (dCall f__law_is_whole (dRCons (dVar 7) dRNil) [])) [7])))) (dRet (dC (.bool false))) dNext) den__law_is_flow_4)
def den__law_is_flow_2 : Den Out := (dSeq (dIfS (dNot (dTest (dUn gAll (dLc (dIKeys (dVar 2)) (gNm 6) dYes (dSh (dBin (gInL false) (dUn gRepr (dVar 6)) (dVar 3))) [6])))) (dRet (dC (.bool false))) dNext) den__law_is_flow_3)
def den__law_is_flow_1 : Den Out := (dSeq (dSet 3 (dLc (dISeq (dVar 1)) (gNm 6) dYes (dSh (dUn gRepr (dVar 6))) [6])) den__law_is_flow_2)
def den__law_is_flow : Den Out := (dSeq (dIfS (dNot (dTest (dUn (gIsi ["dict"]) (dVar 2)))) (dRet (dC (.bool false))) dNext) den__law_is_flow_1)
def f__law_is_flow : List W → Option (W × List W) := dFn 3 8 den__law_is_flow
theorem fo__law_is_flow {P : Program} {w : World} {K : PySem.W.Frag} {mg : Str → Option Value} {base : Heap} {fd : FuncData} (kn : Kn K mg) (F : FunD K ("_law_is_flow" : Str) ("_law_is_flow" : Str) (defArgs s__law_is_flow) (defBody s__law_is_flow) (defScope s__law_is_flow) [] [] (He.ga K ("_law_is_flow" : Str)) fd) : FnOkG true P w K mg base CX0 3 (He.ga K ("_law_is_flow" : Str)) fd [("_law_head" : Str), ("_law_jumps_here" : Str), ("_law_thing" : Str)] (spW w K (clK K) f__law_is_flow) := by
  refine okG (c := true) (k := 2) F sc__law_is_flow spW_len (fun cdv A outer s H vs Q E hr h => ⟨_, ?_, fn_end rfl h⟩)
  exact (dss_cons (ds_if (dt_not (dt_val (de_isi isi_dict rfl kn.free_isinstance rfl kn.free_dict PyProof.Rows.Boot.«dict» (de_var (i := 2) rfl (.inr (.inl rfl)))))) (dss_one (ds_ret de_bl)) dss_nil)
  (dss_cons (ds_set (i := 3) sc__law_is_flow.nd rfl (.inr rfl) (by decide) (de_lc (own := [(("_law_jump" : Str), 6)]) rfl sc__law_is_flow.nd (di_seq (de_var (i := 1) rfl (.inl rfl))) (show BlkOk [("_law_head" : Str), ("_law_jumps_here" : Str), ("_law_thing" : Str), ("_law_marks_now" : Str), ("_law_spot" : Str), ("_law_coming" : Str), ("_law_jump" : Str), ("_law_tally" : Str)] (defScope s__law_is_flow) _ _ from ⟨rfl, by decide +kernel, by decide +kernel, by decide +kernel, by decide +kernel⟩) (by decide) (fun _ _ _ _ _ => (dg_name sc__law_is_flow.nd rfl (.inl rfl))) (fun _ _ _ _ _ => dts_nil) (fun _ _ _ _ _ => (de_repr hr rfl kn.free_repr (de_var (i := 6) rfl (.inl rfl))))))
  (dss_cons (ds_if (dt_not (dt_val (de_cb (c_all rfl) rfl kn.free_all PyProof.Rows.Boot.«all» (de_lc (own := [(("_law_jump" : Str), 6)]) rfl sc__law_is_flow.nd (di_keys (de_var (i := 2) rfl (.inr (.inl rfl)))) (show BlkOk [("_law_head" : Str), ("_law_jumps_here" : Str), ("_law_thing" : Str), ("_law_marks_now" : Str), ("_law_spot" : Str), ("_law_coming" : Str), ("_law_jump" : Str), ("_law_tally" : Str)] (defScope s__law_is_flow) _ _ from ⟨rfl, by decide +kernel, by decide +kernel, by decide +kernel, by decide +kernel⟩) (by decide) (fun _ _ _ _ _ => (dg_name sc__law_is_flow.nd rfl (.inl rfl))) (fun _ _ _ _ _ => dts_nil) (fun _ _ _ _ _ => (de_cmp (o_in hr.u65) (de_repr hr rfl kn.free_repr (de_var (i := 6) rfl (.inl rfl))) (de_var (i := 3) rfl (.inr (.inl rfl))) rfl)))))) (dss_one (ds_ret de_bl)) dss_nil)
  (dss_cons (ds_if (dt_not (dt_val (de_cb (c_all rfl) rfl kn.free_all PyProof.Rows.Boot.«all» (de_lc (own := [(("_law_tally" : Str), 7)]) rfl sc__law_is_flow.nd (di_vals (de_var (i := 2) rfl (.inr (.inl rfl)))) (show BlkOk [("_law_head" : Str), ("_law_jumps_here" : Str), ("_law_thing" : Str), ("_law_marks_now" : Str), ("_law_spot" : Str), ("_law_coming" : Str), ("_law_jump" : Str), ("_law_tally" : Str)] (defScope s__law_is_flow) _ _ from ⟨rfl, by decide +kernel, by decide +kernel, by decide +kernel, by decide +kernel⟩) (by decide) (fun _ _ _ _ _ => (dg_name sc__law_is_flow.nd rfl (.inl rfl))) (fun _ _ _ _ _ => dts_nil) (fun _ _ _ _ _ => (de_f (ok__law_is_whole kn) hr (by decide) rfl kn.glo__law_is_whole (dr_cons (de_var (i := 7) rfl (.inl rfl)) dr_nil))))))) (dss_one (ds_ret de_bl)) dss_nil)
  (dss_cons (ds_for (passes_of rfl) rfl (di_range2 rfl kn.free_range (da_cons de_int (da_cons (de_var (i := 0) rfl (.inl rfl)) da_nil))) (dg_name sc__law_is_flow.nd rfl (.inr rfl)) (dss_cons (ds_set (i := 5) sc__law_is_flow.nd rfl (.inl rfl) (by decide) (de_cb (c_sum rfl) rfl kn.free_sum PyProof.Rows.Boot.«sum» (de_lc (own := [(("_law_jump" : Str), 6)]) rfl sc__law_is_flow.nd (di_keys (de_var (i := 2) rfl (.inr (.inl rfl)))) (show BlkOk [("_law_head" : Str), ("_law_jumps_here" : Str), ("_law_thing" : Str), ("_law_marks_now" : Str), ("_law_spot" : Str), ("_law_coming" : Str), ("_law_jump" : Str), ("_law_tally" : Str)] (defScope s__law_is_flow) _ _ from ⟨rfl, by decide +kernel, by decide +kernel, by decide +kernel, by decide +kernel⟩) (by decide) (fun _ _ _ _ _ => (dg_name sc__law_is_flow.nd rfl (.inl rfl))) (fun _ _ _ _ _ => (dts_one (dt_cmp (o_eq hr.u64) (de_ix (de_var (i := 6) rfl (.inl rfl)) de_int (fun _ _ => rfl)) (de_var (i := 4) rfl (.inr (.inl rfl))) (nomark _)))) (fun _ _ _ _ _ => (de_ixD hr (de_var (i := 2) rfl (.inr (.inl rfl))) (de_var (i := 6) rfl (.inl rfl)) (fun _ _ => rfl))))))
  (dss_one (ds_if (dt_cmp (o_ne hr.u64) (de_var (i := 5) rfl (.inl rfl)) (de_cb (c_sum rfl) rfl kn.free_sum PyProof.Rows.Boot.«sum» (de_lc (own := [(("_law_jump" : Str), 6)]) rfl sc__law_is_flow.nd (di_keys (de_var (i := 2) rfl (.inr (.inl rfl)))) (show BlkOk [("_law_head" : Str), ("_law_jumps_here" : Str), ("_law_thing" : Str), ("_law_marks_now" : Str), ("_law_spot" : Str), ("_law_coming" : Str), ("_law_jump" : Str), ("_law_tally" : Str)] (defScope s__law_is_flow) _ _ from ⟨rfl, by decide +kernel, by decide +kernel, by decide +kernel, by decide +kernel⟩) (by decide) (fun _ _ _ _ _ => (dg_name sc__law_is_flow.nd rfl (.inl rfl))) (fun _ _ _ _ _ => (dts_one (dt_cmp (o_eq hr.u64) (de_ix (de_var (i := 6) rfl (.inl rfl)) de_int (fun _ _ => rfl)) (de_var (i := 4) rfl (.inr (.inl rfl))) (nomark _)))) (fun _ _ _ _ _ => (de_ixD hr (de_var (i := 2) rfl (.inr (.inl rfl))) (de_var (i := 6) rfl (.inl rfl)) (fun _ _ => rfl))))) (nomark _)) (dss_one (ds_ret de_bl)) dss_nil))) (by decide))
  (dss_one (ds_ret de_bl)))))))
theorem ok__law_is_flow {P : Program} {w : World} {K : PySem.W.Frag} {mg : Str → Option Value} {base : Heap} (kn : Kn K mg) : FunOk true P w K mg base (clK K) 3 (He.ga K ("_law_is_flow" : Str)) f__law_is_flow := by
  obtain ⟨fd, F⟩ := kn.s.def_ 17 (d := d__law_is_flow) rfl
  exact ⟨fd, [("_law_head" : Str), ("_law_jumps_here" : Str), ("_law_thing" : Str)], fo__law_is_flow kn F, F.bindsN (fun _ _ _ _ _ _ us hl => match us, hl with | [_, _, _], _ => rfl), F.kp⟩
theorem sc_Stair_has_jump : FnScope [("self" : Str), ("value" : Str)] [("self" : Str), ("value" : Str)] (defScope s_Stair_has_jump) := ⟨rfl, rfl, rfl, by decide +kernel, rfl, by decide +kernel, by decide +kernel⟩
def den_Stair_has_jump : Den Out := (dRet (dAndV (dCall f_is_jump (dRCons (dAdd (dFld ("own_steps" : Str) okF_own_steps (dVar 0)) (dC (.int 1))) (dRCons (dVar 1) dRNil)) []) (dBin (gInL false) (dVar 1) (dFld ("own_jumps" : Str) okF_own_jumps (dVar 0)))))
def f_Stair_has_jump : List W → Option (W × List W) := dFn 2 2 den_Stair_has_jump
theorem fo_Stair_has_jump {P : Program} {w : World} {K : PySem.W.Frag} {mg : Str → Option Value} {base : Heap} {fd : FuncData} (kn : Kn K mg) (F : FunD K ("has_jump" : Str) ("Stair.has_jump" : Str) (defArgs s_Stair_has_jump) (defBody s_Stair_has_jump) (defScope s_Stair_has_jump) [] [] (He.ma K (He.ga K ("Stair" : Str)) ("has_jump" : Str)) fd) : FnOkG true P w K mg base CX0 5 (He.ma K (He.ga K ("Stair" : Str)) ("has_jump" : Str)) fd [("self" : Str), ("value" : Str)] (spW w K (clK K) f_Stair_has_jump) := by
  refine okG (c := true) (k := 4) F sc_Stair_has_jump spW_len (fun cdv A outer s H vs Q E hr h => ⟨_, ?_, fn_end rfl h⟩)
  exact (dss_one (ds_ret (de_and (de_f (ok_is_jump kn) hr (by decide) rfl kn.glo_is_jump (dr_cons (de_add (de_fld (ok := okF_own_steps) kn.fld_own_steps (de_var (i := 0) rfl (.inl rfl))) de_int) (dr_cons (de_var (i := 1) rfl (.inl rfl)) dr_nil))) (de_one (de_cmp (o_in hr.u65) (de_var (i := 1) rfl (.inl rfl)) (de_fld (ok := okF_own_jumps) kn.fld_own_jumps (de_var (i := 0) rfl (.inl rfl))) rfl)))))
theorem ok_Stair_has_jump {P : Program} {w : World} {K : PySem.W.Frag} {mg : Str → Option Value} {base : Heap} (kn : Kn K mg) : MethOk true P w K mg base (clK K) 5 (He.ga K ("Stair" : Str)) ("has_jump" : Str) f_Stair_has_jump := by
  obtain ⟨fd, F⟩ := kn.s.def_ 18 (d := d_Stair_has_jump) rfl
  exact ⟨_, fd, [("self" : Str), ("value" : Str)], kn.cls_Stair, kn.meth_Stair_has_jump, fo_Stair_has_jump kn F, F.bindsN (fun _ _ _ _ _ _ us hl => match us, hl with | [_, _], _ => rfl)⟩
theorem sc_going_in : FnScope [("numbers" : Str), ("place" : Str), ("many" : Str), ("i" : Str), ("j" : Str)] [("numbers" : Str), ("place" : Str)] (defScope s_going_in) := ⟨rfl, rfl, rfl, by decide +kernel, rfl, by decide +kernel, by decide +kernel⟩
def den_going_in : Den Out := (dRet (dUn gSum (dLc (dIItems (dVar 0)) (gTp (gsCons (gTp (gsCons (gNm 3) (gsCons (gNm 4) gsNil))) (gsCons (gNm 2) gsNil))) (dTest (dBin (gEqv false) (dVar 4) (dVar 1))) (dSh (dVar 2)) [2, 3, 4])))
def f_going_in : List W → Option (W × List W) := dFn 2 5 den_going_in
theorem fo_going_in {P : Program} {w : World} {K : PySem.W.Frag} {mg : Str → Option Value} {base : Heap} {fd : FuncData} (kn : Kn K mg) (F : FunD K ("going_in" : Str) ("going_in" : Str) (defArgs s_going_in) (defBody s_going_in) (defScope s_going_in) [] [] (He.ga K ("going_in" : Str)) fd) : FnOkG true P w K mg base CX0 2 (He.ga K ("going_in" : Str)) fd [("numbers" : Str), ("place" : Str)] (spW w K (clK K) f_going_in) := by
  refine okG (c := true) (k := 1) F sc_going_in spW_len (fun cdv A outer s H vs Q E hr h => ⟨_, ?_, fn_end rfl h⟩)
  exact (dss_one (ds_ret (de_cb (c_sum rfl) rfl kn.free_sum PyProof.Rows.Boot.«sum» (de_lc (own := [(("many" : Str), 2), (("i" : Str), 3), (("j" : Str), 4)]) rfl sc_going_in.nd (di_items (de_var (i := 0) rfl (.inl rfl))) (show BlkOk [("numbers" : Str), ("place" : Str), ("many" : Str), ("i" : Str), ("j" : Str)] (defScope s_going_in) _ _ from ⟨rfl, by decide +kernel, by decide +kernel, by decide +kernel, by decide +kernel⟩) (by decide) (fun _ _ _ _ _ => (dg_tup rfl (dgs_cons (dg_tup rfl (dgs_cons (dg_name sc_going_in.nd rfl (.inl rfl)) (dgs_cons (dg_name sc_going_in.nd rfl (.inl rfl)) dgs_nil)) (gsl_cons (gsl_cons gsl_nil))) (dgs_cons (dg_name sc_going_in.nd rfl (.inl rfl)) dgs_nil)) (gsl_cons (gsl_cons gsl_nil)))) (fun _ _ _ _ _ => (dts_one (dt_cmp (o_eq hr.u64) (de_var (i := 4) rfl (.inl rfl)) (de_var (i := 1) rfl (.inr (.inl rfl))) (nomark _)))) (fun _ _ _ _ _ => (de_var (i := 2) rfl (.inl rfl)))))))
theorem ok_going_in {P : Program} {w : World} {K : PySem.W.Frag} {mg : Str → Option Value} {base : Heap} (kn : Kn K mg) : FunOk true P w K mg base (clK K) 2 (He.ga K ("going_in" : Str)) f_going_in := by
  obtain ⟨fd, F⟩ := kn.s.def_ 19 (d := d_going_in) rfl
  exact ⟨fd, [("numbers" : Str), ("place" : Str)], fo_going_in kn F, F.bindsN (fun _ _ _ _ _ _ us hl => match us, hl with | [_, _], _ => rfl), F.kp⟩
theorem sc_going_out : FnScope [("numbers" : Str), ("place" : Str), ("many" : Str), ("i" : Str), ("j" : Str)] [("numbers" : Str), ("place" : Str)] (defScope s_going_out) := ⟨rfl, rfl, rfl, by decide +kernel, rfl, by decide +kernel, by decide +kernel⟩
def den_going_out : Den Out := (dRet (dUn gSum (dLc (dIItems (dVar 0)) (gTp (gsCons (gTp (gsCons (gNm 3) (gsCons (gNm 4) gsNil))) (gsCons (gNm 2) gsNil))) (dTest (dBin (gEqv false) (dVar 3) (dVar 1))) (dSh (dVar 2)) [2, 3, 4])))
def f_going_out : List W → Option (W × List W) := dFn 2 5 den_going_out
theorem fo_going_out {P : Program} {w : World} {K : PySem.W.Frag} {mg : Str → Option Value} {base : Heap} {fd : FuncData} (kn : Kn K mg) (F : FunD K ("going_out" : Str) ("going_out" : Str) (defArgs s_going_out) (defBody s_going_out) (defScope s_going_out) [] [] (He.ga K ("going_out" : Str)) fd) : FnOkG true P w K mg base CX0 2 (He.ga K ("going_out" : Str)) fd [("numbers" : Str), ("place" : Str)] (spW w K (clK K) f_going_out) := by
  refine okG (c := true) (k := 1) F sc_going_out spW_len (fun cdv A outer s H vs Q E hr h => ⟨_, ?_, fn_end rfl h⟩)
  exact (dss_one (ds_ret (de_cb (c_sum rfl) rfl kn.free_sum PyProof.Rows.Boot.«sum» (de_lc (own := [(("many" : Str), 2), (("i" : Str), 3), (("j" : Str), 4)]) rfl sc_going_out.nd (di_items (de_var (i := 0) rfl (.inl rfl))) (show BlkOk [("numbers" : Str), ("place" : Str), ("many" : Str), ("i" : Str), ("j" : Str)] (defScope s_going_out) _ _ from ⟨rfl, by decide +kernel, by decide +kernel, by decide +kernel, by decide +kernel⟩) (by decide) (fun _ _ _ _ _ => (dg_tup rfl (dgs_cons (dg_tup rfl (dgs_cons (dg_name sc_going_out.nd rfl (.inl rfl)) (dgs_cons (dg_name sc_going_out.nd rfl (.inl rfl)) dgs_nil)) (gsl_cons (gsl_cons gsl_nil))) (dgs_cons (dg_name sc_going_out.nd rfl (.inl rfl)) dgs_nil)) (gsl_cons (gsl_cons gsl_nil)))) (fun _ _ _ _ _ => (dts_one (dt_cmp (o_eq hr.u64) (de_var (i := 3) rfl (.inl rfl)) (de_var (i := 1) rfl (.inr (.inl rfl))) (nomark _)))) (fun _ _ _ _ _ => (de_var (i := 2) rfl (.inl rfl)))))))
theorem ok_going_out {P : Program} {w : World} {K : PySem.W.Frag} {mg : Str → Option Value} {base : Heap} (kn : Kn K mg) : FunOk true P w K mg base (clK K) 2 (He.ga K ("going_out" : Str)) f_going_out := by
  obtain ⟨fd, F⟩ := kn.s.def_ 20 (d := d_going_out) rfl
  exact ⟨fd, [("numbers" : Str), ("place" : Str)], fo_going_out kn F, F.bindsN (fun _ _ _ _ _ _ us hl => match us, hl with | [_, _], _ => rfl), F.kp⟩
theorem sc_Stair_steps : FnScope [("self" : Str)] [("self" : Str)] (defScope s_Stair_steps) := ⟨rfl, rfl, rfl, by decide +kernel, rfl, by decide +kernel, by decide +kernel⟩
def den_Stair_steps : Den Out := (dRet (dFld ("own_steps" : Str) okF_own_steps (dVar 0)))
def f_Stair_steps : List W → Option (W × List W) := dFn 1 1 den_Stair_steps
theorem fo_Stair_steps {P : Program} {w : World} {K : PySem.W.Frag} {mg : Str → Option Value} {base : Heap} {fd : FuncData} (kn : Kn K mg) (F : FunD K ("steps" : Str) ("Stair.steps" : Str) (defArgs s_Stair_steps) (defBody s_Stair_steps) (defScope s_Stair_steps) [] [] (pgA K ("Stair" : Str) ("steps" : Str)) fd) : FnOkG true P w K mg base CX0 2 (pgA K ("Stair" : Str) ("steps" : Str)) fd [("self" : Str)] (spW w K (clK K) f_Stair_steps) := by
  refine okG (c := true) (k := 1) F sc_Stair_steps spW_len (fun cdv A outer s H vs Q E hr h => ⟨_, ?_, fn_end rfl h⟩)
  exact (dss_one (ds_ret (de_fld (ok := okF_own_steps) kn.fld_own_steps (de_var (i := 0) rfl (.inl rfl)))))
theorem ok_Stair_steps {P : Program} {w : World} {K : PySem.W.Frag} {mg : Str → Option Value} {base : Heap} (kn : Kn K mg) : PropOk true P w K mg base (clK K) 2 (He.ga K ("Stair" : Str)) ("steps" : Str) f_Stair_steps := by
  obtain ⟨hp, fd, F⟩ := prs_get kn.p1 kn.p2 0 (d := d_Stair_steps) rfl
  exact ⟨_, _, fd, [("self" : Str)], kn.cls_Stair, hp, fo_Stair_steps kn F, F.bindsN (fun _ _ _ _ _ _ us hl => match us, hl with | [_], _ => rfl)⟩
theorem sc_is_flow : FnScope [("stair" : Str), ("value" : Str), ("jump" : Str), ("many" : Str), ("step" : Str)] [("stair" : Str), ("value" : Str)] (defScope s_is_flow) := ⟨rfl, rfl, rfl, by decide +kernel, rfl, by decide +kernel, by decide +kernel⟩
def den_is_flow_2 : Den Out := (dRet (dUn gAll (dLc (dIRange2 (dCons (dC (.int 1)) (dCons (dAdd (dCall f_Stair_steps (dRCons (dRecv 0 ("steps" : Str) (dVar 0)) dRNil) []) (dC (.int 1))) dNil))) (gNm 4) dYes (dSh (dBin (gEqv false) (dCall f_going_in (dRCons (dVar 1) (dRCons (dVar 4) dRNil)) []) (dCall f_going_out (dRCons (dVar 1) (dRCons (dVar 4) dRNil)) []))) [4])))
def den_is_flow_1 : Den Out := (dSeq (dIfS (dNot (dTest (dUn gAll (dLc (dIItems (dVar 1)) (gTp (gsCons (gNm 2) (gsCons (gNm 3) gsNil))) dYes (dSh (dAndV (dCall f_Stair_has_jump (dRCons (dRecv 0 ("has_jump" : Str) (dVar 0)) (dRCons (dVar 2) dRNil)) []) (dCall f_is_count (dRCons (dVar 3) dRNil) []))) [2, 3])))) (dRet (dC (.bool false))) dNext) den_is_flow_2)
def den_is_flow : Den Out := (dSeq (dIfS (dNot (dTest (dUn (gIsi ["dict"]) (dVar 1)))) (dRet (dC (.bool false))) dNext) den_is_flow_1)
def f_is_flow : List W → Option (W × List W) := dFn 2 5 den_is_flow
theorem fo_is_flow {P : Program} {w : World} {K : PySem.W.Frag} {mg : Str → Option Value} {base : Heap} {fd : FuncData} (kn : Kn K mg) (F : FunD K ("is_flow" : Str) ("is_flow" : Str) (defArgs s_is_flow) (defBody s_is_flow) (defScope s_is_flow) [] [] (He.ga K ("is_flow" : Str)) fd) : FnOkG true P w K mg base CX0 6 (He.ga K ("is_flow" : Str)) fd [("stair" : Str), ("value" : Str)] (spW w K (clK K) f_is_flow) := by
  refine okG (c := true) (k := 5) F sc_is_flow spW_len (fun cdv A outer s H vs Q E hr h => ⟨_, ?_, fn_end rfl h⟩)
  exact (dss_cons (ds_if (dt_not (dt_val (de_isi isi_dict rfl kn.free_isinstance rfl kn.free_dict PyProof.Rows.Boot.«dict» (de_var (i := 1) rfl (.inr (.inl rfl)))))) (dss_one (ds_ret de_bl)) dss_nil)
  (dss_cons (ds_if (dt_not (dt_val (de_cb (c_all rfl) rfl kn.free_all PyProof.Rows.Boot.«all» (de_lc (own := [(("jump" : Str), 2), (("many" : Str), 3)]) rfl sc_is_flow.nd (di_items (de_var (i := 1) rfl (.inr (.inl rfl)))) (show BlkOk [("stair" : Str), ("value" : Str), ("jump" : Str), ("many" : Str), ("step" : Str)] (defScope s_is_flow) _ _ from ⟨rfl, by decide +kernel, by decide +kernel, by decide +kernel, by decide +kernel⟩) (by decide) (fun _ _ _ _ _ => (dg_tup rfl (dgs_cons (dg_name sc_is_flow.nd rfl (.inl rfl)) (dgs_cons (dg_name sc_is_flow.nd rfl (.inl rfl)) dgs_nil)) (gsl_cons (gsl_cons gsl_nil)))) (fun _ _ _ _ _ => dts_nil) (fun _ _ _ _ _ => (de_and (de_m (j := 0) (ok_Stair_has_jump kn) rfl hr (by decide) (de_var (i := 0) rfl (.inr (.inl rfl))) (dr_cons (de_var (i := 2) rfl (.inl rfl)) dr_nil)) (de_one (de_f (ok_is_count kn) hr (by decide) rfl kn.glo_is_count (dr_cons (de_var (i := 3) rfl (.inl rfl)) dr_nil))))))))) (dss_one (ds_ret de_bl)) dss_nil)
  (dss_one (ds_ret (de_cb (c_all rfl) rfl kn.free_all PyProof.Rows.Boot.«all» (de_lc (own := [(("step" : Str), 4)]) rfl sc_is_flow.nd (di_range2 rfl kn.free_range (da_cons de_int (da_cons (de_add (de_p (j := 0) (ok_Stair_steps kn) rfl hr (by decide) (de_var (i := 0) rfl (.inr (.inl rfl)))) de_int) da_nil))) (show BlkOk [("stair" : Str), ("value" : Str), ("jump" : Str), ("many" : Str), ("step" : Str)] (defScope s_is_flow) _ _ from ⟨rfl, by decide +kernel, by decide +kernel, by decide +kernel, by decide +kernel⟩) (by decide) (fun _ _ _ _ _ => (dg_name sc_is_flow.nd rfl (.inl rfl))) (fun _ _ _ _ _ => dts_nil) (fun _ _ _ _ _ => (de_cmp (o_eq hr.u64) (de_f (ok_going_in kn) hr (by decide) rfl kn.glo_going_in (dr_cons (de_var (i := 1) rfl (.inr (.inl rfl))) (dr_cons (de_var (i := 4) rfl (.inl rfl)) dr_nil))) (de_f (ok_going_out kn) hr (by decide) rfl kn.glo_going_out (dr_cons (de_var (i := 1) rfl (.inr (.inl rfl))) (dr_cons (de_var (i := 4) rfl (.inl rfl)) dr_nil))) (nomark _)))))))))
theorem ok_is_flow {P : Program} {w : World} {K : PySem.W.Frag} {mg : Str → Option Value} {base : Heap} (kn : Kn K mg) : FunOk true P w K mg base (clK K) 6 (He.ga K ("is_flow" : Str)) f_is_flow := by
  obtain ⟨fd, F⟩ := kn.s.def_ 21 (d := d_is_flow) rfl
  exact ⟨fd, [("stair" : Str), ("value" : Str)], fo_is_flow kn F, F.bindsN (fun _ _ _ _ _ _ us hl => match us, hl with | [_, _], _ => rfl), F.kp⟩
theorem kw_is_flow_r {P : Program} {w : World} {K : PySem.W.Frag} {mg : Str → Option Value} {base : Heap} (kn : Kn K mg) : FunKw true P w K mg base (clK K) 6 (He.ga K ("is_flow" : Str)) f_is_flow [("value" : Str), ("stair" : Str)] true := by
  obtain ⟨fd, F⟩ := kn.s.def_ 21 (d := d_is_flow) rfl
  exact ⟨fd, [("stair" : Str), ("value" : Str)], fo_is_flow kn F, kb_fn F (fun _ _ _ _ _ _ ws hl => match ws, hl with | [_, _], _ => rfl), rfl, F.kp⟩
theorem sc__law_right : FnScope [("_law_pot_here" : Str), ("_law_head" : Str), ("_law_jumps_here" : Str), ("_law_flight" : Str), ("_law_roads_here" : Str), ("_law_load" : Str), ("_law_some" : Str), ("_law_looks" : Str), ("_law_thing" : Str), ("_law_due" : Str)] [("_law_pot_here" : Str)] (defScope s__law_right) := ⟨rfl, rfl, rfl, by decide +kernel, rfl, by decide +kernel, by decide +kernel⟩
def den__law_right_7 : Den Out := (dRet (dAndV (dBin (gEqv false) (dUn gRepr (dVar 6)) (dVar 7)) (dAndV (dBin (gIsB false) (dCall f_is_flow (dRCons (dVar 3) (dRCons (dVar 5) dRNil)) []) (dC (.bool true))) (dBin (gIsB false) (dCall f_is_flow (dRCons (dVar 3) (dRCons dDict0 dRNil)) []) (dC (.bool true))))))
def den__law_right_6 : Den Out := (dSeq (dFor (dISeq (dAdd (dVar 6) (dSlice (dVar 6) dNoPart (dPart (dC (.int 3)))))) (gNm 8) (dSeq (dSet 9 (dCall f__law_is_flow (dRCons (dVar 1) (dRCons (dVar 2) (dRCons (dVar 8) dRNil))) []))
  (dIfS (dTest (dBin (gEqv true) (dUn gRepr (dLst (dCons (dCall f_is_flow (dRCons (dVar 3) (dRCons (dVar 8) dRNil)) []) (dCons (dCall f_is_flow (revR true (dRCons (dVar 8) (dRCons (dVar 3) dRNil))) []) dNil)))) (dUn gRepr (dLst (dCons (dVar 9) (dCons (dVar 9) dNil)))))) (dRet (dC (.bool false))) dNext))) den__law_right_7)
def den__law_right_5 : Den Out := (dSeq (dSet 7 (dUn gRepr (dVar 6))) den__law_right_6)
def den__law_right_4 : Den Out := (dSeq (dSet 6 (dAdd (dCall f__law_bent (dRCons (dVar 0) (dRCons (dVar 1) (dRCons (dVar 2) (dRCons (dVar 5) dRNil)))) []) (dCall f__law_more (dRCons (dVar 0) (dRCons (dVar 4) (dRCons (dVar 5) dRNil))) []))) den__law_right_5)
def den__law_right_3 : Den Out := (dSeq (dSet 5 (dCall f__law_flow (dRCons (dVar 2) (dRCons (dCall f__law_lot (dRCons (dVar 0) (dRCons (dVar 4) (dRCons (dC (.int 4)) (dRCons (dBin gPow (dC (.int 10)) (dC (.int 20))) dRNil)))) []) dRNil)) [])) den__law_right_4)
def den__law_right_2 : Den Out := (dSeq (dPar 3 4 (dRCons (dMk 0 f_Stair___init__ (dRCons (dBin gSub (dVar 1) (dC (.int 1))) (dRCons (dVar 2) dRNil))) (dRCons (dCall f__law_roads (dRCons (dVar 1) (dRCons (dVar 2) dRNil)) []) dRNil))) den__law_right_3)
def den__law_right_1 : Den Out := (dSeq (dSet 2 (dCall f__law_jumps (dRCons (dVar 0) (dRCons (dVar 1) dRNil)) [])) den__law_right_2)
def den__law_right : Den Out := (dSeq (dSet 1 (dAdd (dC (.int 2)) (dCall f__law_draw (dRCons (dVar 0) (dRCons (dC (.int 4)) dRNil)) []))) den__law_right_1)
def f__law_right : List W → Option (W × List W) := dFn 1 10 den__law_right
theorem fo__law_right {P : Program} {w : World} {K : PySem.W.Frag} {mg : Str → Option Value} {base : Heap} {fd : FuncData} (kn : Kn K mg) (F : FunD K ("_law_right" : Str) ("_law_right" : Str) (defArgs s__law_right) (defBody s__law_right) (defScope s__law_right) [] [] (He.ga K ("_law_right" : Str)) fd) : FnOkG true P w K mg base CX0 8 (He.ga K ("_law_right" : Str)) fd [("_law_pot_here" : Str)] (spW w K (clK K) f__law_right) := by
  refine okG (c := true) (k := 7) F sc__law_right spW_len (fun cdv A outer s H vs Q E hr h => ⟨_, ?_, fn_end rfl h⟩)
  exact (dss_cons (ds_set (i := 1) sc__law_right.nd rfl (.inl rfl) (by decide) (de_add de_int (de_f (ok__law_draw kn) hr (by decide) rfl kn.glo__law_draw (dr_cons (de_var (i := 0) rfl (.inl rfl)) (dr_cons de_int dr_nil)))))
  (dss_cons (ds_set (i := 2) sc__law_right.nd rfl (.inl rfl) (by decide) (de_f (ok__law_jumps kn) hr (by decide) rfl kn.glo__law_jumps (dr_cons (de_var (i := 0) rfl (.inl rfl)) (dr_cons (de_var (i := 1) rfl (.inl rfl)) dr_nil))))
  (dss_cons (ds_par (i := 3) (j := 4) rfl sc__law_right.nd rfl rfl (by decide) rfl rfl (by decide) (by decide) (dr_cons (de_mk (j := 0) (ok_Stair___init__ kn) rfl hr (by decide) rfl kn.glo_Stair (dr_cons (de_bin o_sub (de_var (i := 1) rfl (.inl rfl)) de_int) (dr_cons (de_var (i := 2) rfl (.inl rfl)) dr_nil))) (dr_cons (de_f (ok__law_roads kn) hr (by decide) rfl kn.glo__law_roads (dr_cons (de_var (i := 1) rfl (.inl rfl)) (dr_cons (de_var (i := 2) rfl (.inl rfl)) dr_nil))) dr_nil)))
  (dss_cons (ds_set (i := 5) sc__law_right.nd rfl (.inl rfl) (by decide) (de_f (ok__law_flow kn) hr (by decide) rfl kn.glo__law_flow (dr_cons (de_var (i := 2) rfl (.inl rfl)) (dr_cons (de_f (ok__law_lot kn) hr (by decide) rfl kn.glo__law_lot (dr_cons (de_var (i := 0) rfl (.inl rfl)) (dr_cons (de_var (i := 4) rfl (.inl rfl)) (dr_cons de_int (dr_cons (de_bin o_pow de_int de_int) dr_nil))))) dr_nil))))
  (dss_cons (ds_set (i := 6) sc__law_right.nd rfl (.inl rfl) (by decide) (de_add (de_f (ok__law_bent kn) hr (by decide) rfl kn.glo__law_bent (dr_cons (de_var (i := 0) rfl (.inl rfl)) (dr_cons (de_var (i := 1) rfl (.inl rfl)) (dr_cons (de_var (i := 2) rfl (.inl rfl)) (dr_cons (de_var (i := 5) rfl (.inl rfl)) dr_nil))))) (de_f (ok__law_more kn) hr (by decide) rfl kn.glo__law_more (dr_cons (de_var (i := 0) rfl (.inl rfl)) (dr_cons (de_var (i := 4) rfl (.inl rfl)) (dr_cons (de_var (i := 5) rfl (.inl rfl)) dr_nil))))))
  (dss_cons (ds_set (i := 7) sc__law_right.nd rfl (.inl rfl) (by decide) (de_repr hr rfl kn.free_repr (de_var (i := 6) rfl (.inl rfl))))
  (dss_cons (ds_for (passes_of rfl) rfl (di_seq (de_add (de_var (i := 6) rfl (.inl rfl)) (de_slice (de_var (i := 6) rfl (.inl rfl)) do_none (do_some de_int)))) (dg_name sc__law_right.nd rfl (.inl rfl)) (dss_cons (ds_set (i := 9) sc__law_right.nd rfl (.inl rfl) (by decide) (de_f (ok__law_is_flow kn) hr (by decide) rfl kn.glo__law_is_flow (dr_cons (de_var (i := 1) rfl (.inl rfl)) (dr_cons (de_var (i := 2) rfl (.inl rfl)) (dr_cons (de_var (i := 8) rfl (.inl rfl)) dr_nil)))))
  (dss_one (ds_if (dt_cmp (o_ne hr.u64) (de_repr hr rfl kn.free_repr (de_lst (da_cons (de_f (ok_is_flow kn) hr (by decide) rfl kn.glo_is_flow (dr_cons (de_var (i := 3) rfl (.inl rfl)) (dr_cons (de_var (i := 8) rfl (.inl rfl)) dr_nil))) (da_cons (de_fK (kw_is_flow_r kn) hr (by decide) rfl kn.glo_is_flow (dkR_cons (de_var (i := 8) rfl (.inl rfl)) (dkR_cons (de_var (i := 3) rfl (.inl rfl)) dkR_nil))) da_nil)))) (de_repr hr rfl kn.free_repr (de_lst (da_cons (de_var (i := 9) rfl (.inl rfl)) (da_cons (de_var (i := 9) rfl (.inl rfl)) da_nil)))) (nomark _)) (dss_one (ds_ret de_bl)) dss_nil))) (by decide))
  (dss_one (ds_ret (de_and (de_cmp (o_eq hr.u64) (de_repr hr rfl kn.free_repr (de_var (i := 6) rfl (.inl rfl))) (de_var (i := 7) rfl (.inl rfl)) (nomark _)) (de_and (de_cmp o_isB (de_f (ok_is_flow kn) hr (by decide) rfl kn.glo_is_flow (dr_cons (de_var (i := 3) rfl (.inl rfl)) (dr_cons (de_var (i := 5) rfl (.inl rfl)) dr_nil))) de_bl (nomark _)) (de_one (de_cmp o_isB (de_f (ok_is_flow kn) hr (by decide) rfl kn.glo_is_flow (dr_cons (de_var (i := 3) rfl (.inl rfl)) (dr_cons de_dict0 dr_nil))) de_bl (nomark _))))))))))))))
theorem ok__law_right {P : Program} {w : World} {K : PySem.W.Frag} {mg : Str → Option Value} {base : Heap} (kn : Kn K mg) : FunOk true P w K mg base (clK K) 8 (He.ga K ("_law_right" : Str)) f__law_right := by
  obtain ⟨fd, F⟩ := kn.s.def_ 22 (d := d__law_right) rfl
  exact ⟨fd, [("_law_pot_here" : Str)], fo__law_right kn F, F.bindsN (fun _ _ _ _ _ _ us hl => match us, hl with | [_], _ => rfl), F.kp⟩
theorem sc__law_pot : FnScope [("_law_script" : Str), ("_law_k" : Str), ("_law_cell" : Str)] [("_law_script" : Str), ("_law_k" : Str)] (defScope s__law_pot) := ⟨rfl, rfl, rfl, by decide +kernel, rfl, by decide +kernel, by decide +kernel⟩
def den__law_pot_2 : Den Out := (dRet (dLst (dCons (dBin gMax2 (dC (.int 0)) (dBin gSub (dVar 2) (dBin gPow (dC (.int 10)) (dC (.int 18))))) (dCons (dAdd (dBin gMod (dUn gInt1 (dAdd (dAdd (dMul (dBin gMod (dUn gInt1 (dVar 2)) (dC (.int 2147483549))) (dC (.int 40123))) (dMul (dC (.int 5987)) (dVar 1))) (dC (.int 119)))) (dC (.int 2147483579))) (dC (.int 1))) dNil))))
def den__law_pot_1 : Den Out := (dSeq (dIfS (dTest (dBin gLt (dVar 1) (dUn gLen (dVar 0)))) (dSet 2 (dUn gAbs (dIx (dVar 0) (dVar 1)))) dNext) den__law_pot_2)
def den__law_pot : Den Out := (dSeq (dSet 2 (dAdd (dMul (dC (.int 61)) (dVar 1)) (dC (.int 37)))) den__law_pot_1)
def f__law_pot : List W → Option (W × List W) := dFn 2 3 den__law_pot
theorem fo__law_pot {P : Program} {w : World} {K : PySem.W.Frag} {mg : Str → Option Value} {base : Heap} {fd : FuncData} (kn : Kn K mg) (F : FunD K ("_law_pot" : Str) ("_law_pot" : Str) (defArgs s__law_pot) (defBody s__law_pot) (defScope s__law_pot) [] [] (He.ga K ("_law_pot" : Str)) fd) : FnOkG true P w K mg base CX0 2 (He.ga K ("_law_pot" : Str)) fd [("_law_script" : Str), ("_law_k" : Str)] (spW w K (clK K) f__law_pot) := by
  refine okG (c := true) (k := 1) F sc__law_pot spW_len (fun cdv A outer s H vs Q E hr h => ⟨_, ?_, fn_end rfl h⟩)
  exact (dss_cons (ds_set (i := 2) sc__law_pot.nd rfl (.inl rfl) (by decide) (de_add (de_mul de_int (de_var (i := 1) rfl (.inl rfl))) de_int))
  (dss_cons (ds_if (dt_cmp o_lt (de_var (i := 1) rfl (.inl rfl)) (de_cb c_len rfl kn.free_len PyProof.Rows.Boot.«len» (de_var (i := 0) rfl (.inl rfl))) (nomark _)) (dss_one (ds_set (i := 2) sc__law_pot.nd rfl (.inl rfl) (by decide) (de_cb c_abs rfl kn.free_abs PyProof.Rows.Boot.«abs» (de_ix (de_var (i := 0) rfl (.inl rfl)) (de_var (i := 1) rfl (.inl rfl)) (fun _ _ => rfl))))) dss_nil)
  (dss_one (ds_ret (de_lst (da_cons (de_cb2 (c_max2 rfl) rfl kn.free_max PyProof.Rows.Boot.«max» de_int (de_bin o_sub (de_var (i := 2) rfl (.inl rfl)) (de_bin o_pow de_int de_int))) (da_cons (de_add (de_bin o_mod (de_ct c_int rfl kn.free_int PyProof.Rows.Boot.«int» (de_add (de_add (de_mul (de_bin o_mod (de_ct c_int rfl kn.free_int PyProof.Rows.Boot.«int» (de_var (i := 2) rfl (.inl rfl))) de_int) de_int) (de_mul de_int (de_var (i := 1) rfl (.inl rfl)))) de_int)) de_int) de_int) da_nil)))))))
theorem ok__law_pot {P : Program} {w : World} {K : PySem.W.Frag} {mg : Str → Option Value} {base : Heap} (kn : Kn K mg) : FunOk true P w K mg base (clK K) 2 (He.ga K ("_law_pot" : Str)) f__law_pot := by
  obtain ⟨fd, F⟩ := kn.s.def_ 23 (d := d__law_pot) rfl
  exact ⟨fd, [("_law_script" : Str), ("_law_k" : Str)], fo__law_pot kn F, F.bindsN (fun _ _ _ _ _ _ us hl => match us, hl with | [_, _], _ => rfl), F.kp⟩
theorem sc_law : FnScope [("_law_script" : Str), ("_law_k" : Str)] [("_law_script" : Str)] (defScope s_law) := ⟨rfl, rfl, rfl, by decide +kernel, rfl, by decide +kernel, by decide +kernel⟩
def den_law : Den Out := (dRet (dUn gAll (dLc (dIRange1 (dCons (dBin gMax2 (dC (.int 1)) (dBin gMin2 (dC (.int 3)) (dUn gLen (dVar 0)))) dNil)) (gNm 1) dYes (dSh (dCall f__law_right (dRCons (dCall f__law_pot (dRCons (dVar 0) (dRCons (dVar 1) dRNil)) []) dRNil) [])) [1])))
def f_law : List W → Option (W × List W) := dFn 1 2 den_law
theorem okL {P : Program} {w : World} {K : PySem.W.Frag} {mg : Str → Option Value} {base : Heap} {fd : FuncData} (kn : Kn K mg) (F : FunD K ("law" : Str) ("law" : Str) (defArgs s_law) (defBody s_law) (defScope s_law) [] [] (He.fAd K (("law" : Str), none)) fd) : FnOkG true P w K mg base CX0 9 (He.ga K ("law" : Str)) fd [("_law_script" : Str)] (spW w K (clK K) f_law) := by
  refine okG (c := true) (k := 8) F sc_law spW_len (fun cdv A outer s H vs Q E hr h => ⟨_, ?_, fn_end rfl h⟩)
  exact (dss_one (ds_ret (de_cb (c_all rfl) rfl kn.free_all PyProof.Rows.Boot.«all» (de_lc (own := [(("_law_k" : Str), 1)]) rfl sc_law.nd (di_range1 rfl kn.free_range (da_cons (de_cb2 (c_max2 rfl) rfl kn.free_max PyProof.Rows.Boot.«max» de_int (de_cb2 (c_min2 rfl) rfl kn.free_min PyProof.Rows.Boot.«min» de_int (de_cb c_len rfl kn.free_len PyProof.Rows.Boot.«len» (de_var (i := 0) rfl (.inr (.inl rfl)))))) da_nil)) (show BlkOk [("_law_script" : Str), ("_law_k" : Str)] (defScope s_law) _ _ from ⟨rfl, by decide +kernel, by decide +kernel, by decide +kernel, by decide +kernel⟩) (by decide) (fun _ _ _ _ _ => (dg_name sc_law.nd rfl (.inl rfl))) (fun _ _ _ _ _ => dts_nil) (fun _ _ _ _ _ => (de_f (ok__law_right kn) hr (by decide) rfl kn.glo__law_right (dr_cons (de_f (ok__law_pot kn) hr (by decide) rfl kn.glo__law_pot (dr_cons (de_var (i := 0) rfl (.inr (.inl rfl))) (dr_cons (de_var (i := 1) rfl (.inl rfl)) dr_nil))) dr_nil)))))))
end K22
set_option Elab.async false
set_option linter.all false
set_option maxRecDepth 100000
set_option maxHeartbeats 0
/-! The plain law of k22: draws, jumps. -/
namespace K22
open PySem PySem.Spec PyProof.Rows L2 Ws
abbrev P (x y : Int) : W := .lst [.leaf (.int x), .leaf (.int y)]
def PotOk (y : Int) : Prop := 0 ≤ y ∧ y ≤ 2147483579
theorem draw_ok (x y n : Int) (hy : PotOk y) (hn : 0 < n ∧ n.natAbs.log2 < 9000) : ∃ d x' y', f__law_draw [P x y, .leaf (.int n)] = some (.leaf (.int d), [P x' y', .leaf (.int n)]) ∧ 0 ≤ d ∧ d < n ∧ PotOk y' := by
  have c1 : dTest (dBin gGt (dIx (dVar 0) (dC (.int 0))) (dC (.int 0))) [some (P x y), some (.leaf (.int n)), none] = some (decide (0 < x), [some (P x y), some (.leaf (.int n)), none]) := by kernel_rfl
  by_cases hx : 0 < x
  · refine ⟨x % n, x / n, y, ?_, Int.emod_nonneg _ (by omega), Int.emod_lt_of_pos _ hn.1, hy⟩
    rw [decide_eq_true hx] at c1
    refine fn_ret (ρ' := [some (P (x / n) y), some (.leaf (.int n)), some (.leaf (.int (x % n)))]) rfl ?_ rfl
    refine (seq_ret (ρ' := [some (P (x / n) y), some (.leaf (.int n)), some (.leaf (.int (x % n)))]) (r := .val (.leaf (.int (x % n)))) ?_)
    refine (ifS_t c1).trans ?_
    refine (seq_next (ρ' := [some (P (x / n) y), some (.leaf (.int n)), some (.leaf (.int (x % n)))]) (asg_val (ρ1 := [some (P x y), some (.leaf (.int n)), none]) (v := .tup [.int (x / n), .int (x % n)]) ?_ ?_)).trans ?_
    · show (if 0 < n ∧ n.natAbs.log2 < 9000 then some (Rv.val (W.leaf (.tup [.int (x / n), .int (x % n)])), [some (P x y), some (W.leaf (.int n)), none]) else none) = _
      rw [if_pos hn]
    · kernel_rfl
    · kernel_rfl
  · rw [decide_eq_false hx] at c1
    obtain ⟨y1, ey1⟩ : ∃ y1, y1 = (y * 40123 + 11969) % 2147483579 := ⟨_, rfl⟩
    have b1 : 0 ≤ y1 ∧ y1 < 2147483579 := by rw [ey1]; exact ⟨Int.emod_nonneg _ (by decide), Int.emod_lt_of_pos _ (by decide)⟩
    refine ⟨(y1 * y1) % 2147483549 / 17 % n, x, y1, ?_, Int.emod_nonneg _ (by omega), Int.emod_lt_of_pos _ hn.1, ⟨b1.1, by omega⟩⟩
    refine fn_ret (ρ' := [some (P x y1), some (.leaf (.int n)), none]) rfl ?_ rfl
    refine (seq_next (ρ' := [some (P x y), some (.leaf (.int n)), none]) (if_skip c1)).trans ?_
    refine (seq_next (ρ' := [some (P x y1), some (.leaf (.int n)), none]) (asg_val (ρ1 := [some (P x y), some (.leaf (.int n)), none]) (v := .int y1) ?_ ?_)).trans ?_
    · refine (bin_leaf (dx := .int (y * 40123 + 11969)) (dy := .int 2147483579) (ρ1 := [some (P x y), some (.leaf (.int n)), none]) (un_leaf (d := .int (y * 40123 + 11969)) (add_int (i := y * 40123) (j := 11969) (ρ1 := [some (P x y), some (.leaf (.int n)), none]) (mul_int (i := y) (j := 40123) (ρ1 := [some (P x y), some (.leaf (.int n)), none]) ?_ ?_ (.inr ⟨by decide, by decide⟩)) ?_) ?_ rfl) ?_ ?_ rfl)
      · kernel_rfl
      · kernel_rfl
      · kernel_rfl
      · kernel_rfl
      · kernel_rfl
      · rw [ey1]
        exact mod_some (by decide)
    · kernel_rfl
    · refine ret_val (bin_leaf (dx := .int ((y1 * y1) % 2147483549 / 17)) (dy := .int n) (ρ1 := [some (P x y1), some (.leaf (.int n)), none]) (un_leaf (d := .int ((y1 * y1) % 2147483549 / 17)) (bin_leaf (dx := .int ((y1 * y1) % 2147483549)) (dy := .int 17) (ρ1 := [some (P x y1), some (.leaf (.int n)), none]) (bin_leaf (dx := .int (y1 * y1)) (dy := .int 2147483549) (ρ1 := [some (P x y1), some (.leaf (.int n)), none])
        (un_leaf (d := .int (y1 * y1)) (mul_int (i := y1) (j := y1) (ρ1 := [some (P x y1), some (.leaf (.int n)), none]) ?_ ?_ (.inl ⟨by omega, by omega⟩)) ?_ ?_) ?_ (mod_some (by decide)) rfl) ?_ (div_some (by decide)) rfl) ?_ ?_) ?_ (mod_some hn.1) rfl)
      · kernel_rfl
      · kernel_rfl
      · kernel_rfl
      · rfl
      · kernel_rfl
      · kernel_rfl
      · kernel_rfl
      · rfl
      · kernel_rfl
/-! ### jumps -/
def jD (p : Int × Int) : D := .tup [.int p.1, .int p.2]
abbrev JW (J : List (Int × Int)) : W := .lst (leaves (J.map jD))
def ltP (p q : Int × Int) : Prop := p.1 < q.1 ∨ (p.1 = q.1 ∧ p.2 < q.2)
/-- the jumps found so far: sorted, right, behind (i, j) -/
structure JOk (h i j : Int) (n : Nat) (J : List (Int × Int)) : Prop where
  srt : J.Pairwise ltP
  rt : ∀ p ∈ J, 0 ≤ p.1 ∧ p.1 < p.2 ∧ p.2 ≤ h
  lo : ∀ p ∈ J, p.1 < i ∨ (p.1 = i ∧ p.2 < j)
  len : J.length ≤ n
theorem JOk.snoc {h i j : Int} {n : Nat} {J : List (Int × Int)} (k : JOk h i j n J) (h0 : 0 ≤ i) (h1 : i < j) (h2 : j ≤ h) : JOk h i (j + 1) (n + 1) (J ++ [(i, j)]) := by
  refine ⟨List.pairwise_append.mpr ⟨k.srt, List.pairwise_singleton _ _, fun a ha b hb => ?_⟩, fun p hp => ?_, fun p hp => ?_, by simpa using k.len⟩
  · have e : b = (i, j) := by simpa using hb
    subst e
    exact k.lo a ha
  · rcases List.mem_append.mp hp with z | z
    · exact k.rt p z
    · have e : p = (i, j) := by simpa using z
      subst e
      exact ⟨h0, h1, h2⟩
  · rcases List.mem_append.mp hp with z | z
    · rcases k.lo p z with q | q
      · exact .inl q
      · exact .inr ⟨q.1, by omega⟩
    · have e : p = (i, j) := by simpa using z
      subst e
      exact .inr ⟨rfl, by show j < j + 1; omega⟩
theorem JOk.skip {h i j : Int} {n : Nat} {J : List (Int × Int)} (k : JOk h i j n J) : JOk h i (j + 1) (n + 1) J :=
  ⟨k.srt, k.rt, fun p hp => (k.lo p hp).elim .inl fun q => .inr ⟨q.1, by omega⟩, by have := k.len; omega⟩
theorem JOk.row {h i j : Int} {n : Nat} {J : List (Int × Int)} (k : JOk h i j n J) (m : Nat) (hm : n ≤ m) (j' : Int) : JOk h (i + 1) j' m J :=
  ⟨k.srt, k.rt, fun p hp => .inl ((k.lo p hp).elim (fun q => by omega) fun q => by omega), by have := k.len; omega⟩
abbrev jBody : Den Out := dIfS (dOr (dAnd (dTest (dBin gLt (dVar 2) (dC (.int 3)))) (dTest (dBin gLe (dBin gSub (dVar 5) (dVar 4)) (dAdd (dVar 2) (dC (.int 1)))))) (dAnd (dTest (dBin (gEqv false) (dVar 2) (dC (.int 3)))) (dTest (dBin gGt (dCall f__law_draw (dRCons (dVar 0) (dRCons (dC (.int 3)) dRNil)) []) (dC (.int 0)))))) (dDrop (dAppend 3 (dTup (dCons (dVar 4) (dCons (dVar 5) dNil))))) dNext
abbrev jEnv (x y h s : Int) (J : List (Int × Int)) (a b : Option W) : Ws.Env := [some (P x y), some (.leaf (.int h)), some (.leaf (.int s)), some (JW J), a, b]
theorem jput (x y h s i j : Int) (J : List (Int × Int)) (hl : J.length < sizeLine) : dDrop (dAppend 3 (dTup (dCons (dVar 4) (dCons (dVar 5) dNil)))) (jEnv x y h s J (some (.leaf (.int i))) (some (.leaf (.int j)))) = some (.next, jEnv x y h s (J ++ [(i, j)]) (some (.leaf (.int i))) (some (.leaf (.int j)))) := by
  refine drop_val (r := .val (.leaf .none)) ((append_val (w0 := leaves (J.map jD)) (l := J.map jD) (x := .leaf (jD (i, j))) (by kernel_rfl) (ρ1 := jEnv x y h s J (some (.leaf (.int i))) (some (.leaf (.int j)))) (by kernel_rfl) (by kernel_rfl) (by simpa using hl)).trans ?_)
  rw [show J.map jD ++ [(W.leaf (jD (i, j))).toD] = (J ++ [(i, j)]).map jD by simp [W.toD]]
  rfl
theorem jstep (x y h s i j : Int) (J : List (Int × Int)) (n : Nat) (hy : PotOk y) (hs : 0 ≤ s ∧ s < 4) (hi : 0 ≤ i) (hij : i < j) (hj : j ≤ h) (hJ : JOk h i j n J) (hn : n < 1000) :
    ∃ x' y' J', jBody (jEnv x y h s J (some (.leaf (.int i))) (some (.leaf (.int j)))) = some (.next, jEnv x' y' h s J' (some (.leaf (.int i))) (some (.leaf (.int j)))) ∧ PotOk y' ∧ JOk h i (j + 1) (n + 1) J' := by
  have hl : J.length < sizeLine := by rw [sizeLine_eq]; have := hJ.len; omega
  have t1 : dTest (dBin gLt (dVar 2) (dC (.int 3))) (jEnv x y h s J (some (.leaf (.int i))) (some (.leaf (.int j)))) = some (decide (s < 3), jEnv x y h s J (some (.leaf (.int i))) (some (.leaf (.int j)))) := by kernel_rfl
  have t2 : dTest (dBin gLe (dBin gSub (dVar 5) (dVar 4)) (dAdd (dVar 2) (dC (.int 1)))) (jEnv x y h s J (some (.leaf (.int i))) (some (.leaf (.int j)))) = some (decide (j - i ≤ s + 1), jEnv x y h s J (some (.leaf (.int i))) (some (.leaf (.int j)))) := by kernel_rfl
  by_cases c1 : s < 3
  · rw [decide_eq_true c1] at t1
    by_cases c2 : j - i ≤ s + 1
    · rw [decide_eq_true c2] at t2
      exact ⟨x, y, J ++ [(i, j)], (ifS_t (or_t ((and_t t1).trans t2))).trans (jput x y h s i j J hl), hy, hJ.snoc hi hij hj⟩
    · rw [decide_eq_false c2] at t2
      have t3 : dTest (dBin (gEqv false) (dVar 2) (dC (.int 3))) (jEnv x y h s J (some (.leaf (.int i))) (some (.leaf (.int j)))) = some (false, jEnv x y h s J (some (.leaf (.int i))) (some (.leaf (.int j)))) := by
        have : s = 0 ∨ s = 1 ∨ s = 2 := by omega
        rcases this with e | e | e <;> subst e <;> kernel_rfl
      exact ⟨x, y, J, if_skip (((or_f ((and_t t1).trans t2))).trans (and_f t3)), hy, hJ.skip⟩
  · rw [decide_eq_false c1] at t1
    have e : s = 3 := by omega
    subst e
    have t3 : dTest (dBin (gEqv false) (dVar 2) (dC (.int 3))) (jEnv x y h 3 J (some (.leaf (.int i))) (some (.leaf (.int j)))) = some (true, jEnv x y h 3 J (some (.leaf (.int i))) (some (.leaf (.int j)))) := by kernel_rfl
    obtain ⟨d, x', y', ed, d0, d3, hy'⟩ := draw_ok x y 3 hy (by decide)
    have cd : dCall f__law_draw (dRCons (dVar 0) (dRCons (dC (.int 3)) dRNil)) [] (jEnv x y h 3 J (some (.leaf (.int i))) (some (.leaf (.int j)))) = some (.val (.leaf (.int d)), jEnv x' y' h 3 J (some (.leaf (.int i))) (some (.leaf (.int j)))) :=
      call_eq (rvs := [.slot 0, .val (.leaf (.int 3))]) (ρ1 := jEnv x y h 3 J (some (.leaf (.int i))) (some (.leaf (.int j)))) (by kernel_rfl) (by decide) (by kernel_rfl) ed (by kernel_rfl)
    have t4 : dTest (dBin gGt (dCall f__law_draw (dRCons (dVar 0) (dRCons (dC (.int 3)) dRNil)) []) (dC (.int 0))) (jEnv x y h 3 J (some (.leaf (.int i))) (some (.leaf (.int j)))) = some (decide (0 < d), jEnv x' y' h 3 J (some (.leaf (.int i))) (some (.leaf (.int j)))) :=
      test_val (bin_leaf (dx := .int d) (dy := .int 0) cd (ρ2 := jEnv x' y' h 3 J (some (.leaf (.int i))) (some (.leaf (.int j)))) rfl rfl rfl)
    by_cases c3 : 0 < d
    · rw [decide_eq_true c3] at t4
      exact ⟨x', y', J ++ [(i, j)], (ifS_t ((or_f (and_f t1)).trans ((and_t t3).trans t4))).trans (jput x' y' h 3 i j J hl), hy', hJ.snoc hi hij hj⟩
    · rw [decide_eq_false c3] at t4
      exact ⟨x', y', J, if_skip ((or_f (and_f t1)).trans ((and_t t3).trans t4)), hy', hJ.skip⟩
abbrev jRow : Den Out := dFor (dIRange2 (dCons (dAdd (dVar 4) (dC (.int 1))) (dCons (dAdd (dVar 1) (dC (.int 1))) dNil))) (gNm 5) jBody
theorem jrow (x y h s i : Int) (J : List (Int × Int)) (n : Nat) (b : Option W) (hy : PotOk y) (hs : 0 ≤ s ∧ s < 4) (hi : 0 ≤ i) (hih : i < h) (hh : h ≤ 5) (hJ : JOk h i (i + 1) n J) (hn : n < 900) :
    ∃ x' y' J' b', jRow (jEnv x y h s J (some (.leaf (.int i))) b) = some (.next, jEnv x' y' h s J' (some (.leaf (.int i))) b') ∧ PotOk y' ∧ JOk h (i + 1) (i + 2) (n + 5) J' := by
  have hr : dIRange2 (dCons (dAdd (dVar 4) (dC (.int 1))) (dCons (dAdd (dVar 1) (dC (.int 1))) dNil)) (jEnv x y h s J (some (.leaf (.int i))) b) = some (rangeD (i + 1) ((h + 1) - (i + 1)).toNat, jEnv x y h s J (some (.leaf (.int i))) b) :=
    range2_val (by kernel_rfl) (small_of (by omega)) (small_of (by omega))
  obtain ⟨ρ', e1, x', y', J', b', e2, hy', hJ'⟩ := for_ind (g := gNm 5) (body := jBody) (fun k ρ => ∃ x' y' J' b', ρ = jEnv x' y' h s J' (some (.leaf (.int i))) b' ∧ PotOk y' ∧ JOk h i (i + 1 + k) (n + k) J') (rangeD (i + 1) ((h + 1) - (i + 1)).toNat) 0 (jEnv x y h s J (some (.leaf (.int i))) b) ⟨x, y, J, b, rfl, hy, by simpa using hJ⟩ (fun k d ρ hd ⟨x1, y1, J1, b1, e, hy1, hJ1⟩ => by
    obtain ⟨ed, hk⟩ := rangeD_get hd
    subst ed
    subst e
    obtain ⟨x2, y2, J2, q1, q2, q3⟩ := jstep x1 y1 h s i (i + 1 + k) J1 (n + k) hy1 hs hi (by omega) (by omega) (by simpa using hJ1) (by omega)
    refine ⟨_, _, rfl, .inl q1, x2, y2, J2, _, rfl, q2, ?_⟩
    have e1 : i + 1 + ((0 + k + 1 : Nat) : Int) = i + 1 + (k : Int) + 1 := by omega
    rw [e1, show n + (0 + k + 1) = n + k + 1 by omega]
    exact q3)
  refine ⟨x', y', J', b', ?_, hy', ?_⟩
  · rw [← e2]
    exact for_val hr e1
  · exact (hJ'.row (n + 5) (by rw [rangeD_len]; omega) (i + 2))
/-- what the law's drawn jumps are -/
theorem jumps_ok (x y h : Int) (hy : PotOk y) (hh : 2 ≤ h ∧ h ≤ 5) : ∃ J x' y', f__law_jumps [P x y, .leaf (.int h)] = some (JW J, [P x' y', .leaf (.int h)]) ∧ PotOk y' ∧ JOk h h (h + 1) 25 J := by
  obtain ⟨s, x0, y0, ed, s0, s4, hy0⟩ := draw_ok x y 4 hy (by decide)
  have cd : dCall f__law_draw (dRCons (dVar 0) (dRCons (dC (.int 4)) dRNil)) [] [some (P x y), some (.leaf (.int h)), none, none, none, none] = some (.val (.leaf (.int s)), [some (P x0 y0), some (.leaf (.int h)), none, none, none, none]) :=
    call_eq (rvs := [.slot 0, .val (.leaf (.int 4))]) (ρ1 := [some (P x y), some (.leaf (.int h)), none, none, none, none]) (by kernel_rfl) (by decide) (by kernel_rfl) ed (by kernel_rfl)
  have c0 : dPar 2 3 (dRCons (dCall f__law_draw (dRCons (dVar 0) (dRCons (dC (.int 4)) dRNil)) []) (dRCons (dLst dNil) dRNil)) [some (P x y), some (.leaf (.int h)), none, none, none, none] = some (.next, jEnv x0 y0 h s [] none none) := by
    unfold dPar
    rw [dr_one cd (show dRCons (dLst dNil) dRNil [some (P x0 y0), some (.leaf (.int h)), none, none, none, none] = some ([.val (.lst [])], [some (P x0 y0), some (.leaf (.int h)), none, none, none, none]) by kernel_rfl)]
    rfl
  obtain ⟨ρ', e1, x', y', J', a', b', e2, hy', hJ'⟩ := for_ind (g := gNm 4) (body := jRow) (fun k ρ => ∃ x' y' J' a' b', ρ = jEnv x' y' h s J' a' b' ∧ PotOk y' ∧ JOk h k (k + 1) (5 * k) J') (rangeD 0 h.toNat) 0 (jEnv x0 y0 h s [] none none) ⟨x0, y0, [], none, none, rfl, hy0, ⟨.nil, fun p hp => (nomatch hp), fun p hp => (nomatch hp), by simp⟩⟩ (fun k d ρ hd ⟨x1, y1, J1, a1, b1, e, hy1, hJ1⟩ => by
    obtain ⟨ed, hk⟩ := rangeD_get hd
    subst ed
    subst e
    have hk' : (k : Int) < h := by omega
    obtain ⟨x2, y2, J2, b2, q1, q2, q3⟩ := jrow x1 y1 h s (0 + k) J1 (5 * k) b1 hy1 ⟨s0, s4⟩ (by omega) (by omega) hh.2 (by simpa using hJ1) (by omega)
    refine ⟨_, _, rfl, .inl q1, x2, y2, J2, _, b2, rfl, q2, ?_⟩
    have e1 : ((0 + k + 1 : Nat) : Int) = 0 + (k : Int) + 1 := by omega
    rw [e1, show (0 : Int) + k + 1 + 1 = 0 + k + 2 by omega, show 5 * (0 + k + 1) = 5 * k + 5 by omega]
    exact q3)
  rw [rangeD_len] at hJ'
  have hl : ((0 + h.toNat : Nat) : Int) = h := by omega
  rw [hl] at hJ'
  refine ⟨J', x', y', fn_slot (i := 3) (ρ' := jEnv x' y' h s J' a' b') rfl ?_ (by decide) rfl rfl, hy', ⟨hJ'.srt, hJ'.rt, hJ'.lo, by have := hJ'.len; omega⟩⟩
  refine (seq_next (ρ' := jEnv x0 y0 h s [] none none) c0).trans ?_
  refine (seq_next (ρ' := jEnv x' y' h s J' a' b') ?_).trans ?_
  · rw [← e2]
    exact for_val (range1_val (by kernel_rfl) (small_of (by omega))) e1
  · kernel_rfl
end K22
set_option Elab.async false
set_option linter.all false
set_option maxRecDepth 100000
set_option maxHeartbeats 0
namespace K22
open PySem PySem.Spec PyProof.Rows L2 Ws
local macro_rules
  | `(tactic| wide_line) => `(tactic| simp -dsimp -implicitDefEqProofs only [ev_dSh, ev_dVal, ev_dVar, ev_dC, ev_dBin, ev_dTest, ev_dAnd, ev_dOr, ev_dNot, ev_dOfT, ev_dOne, ev_dAndV, ev_dOrV, ev_dNotV, ev_dIf, ev_dChain, ev_dNil, ev_dCons, ev_dLst, ev_dTup, ev_dSeq, ev_dNext, ev_dBrk, ev_dCont, ev_dRet, ev_dRetN, ev_dDrop, ev_dIfS, ev_dNever, ev_dSet, ev_dRCons, ev_dRNil, ev_dCall, ev_dRecv, ev_gNm, ev_gsNil, ev_gsCons, ev_gTp, ev_dAsg, ev_dISeq, ev_dIRange1, ev_dIRange2, ev_dIRange3, ev_dIEnum, ev_dIZip, ev_dFor, ev_dLc, ev_dYes, ev_dIx, ev_dNoPart, ev_dPart, ev_dSlice, ev_dRev, ev_dAdd, ev_dMul, ev_dUn, ev_dAppend, ev_dExtend, ev_dPopAt, ev_dPop, ev_gIx, ev_dList, ev_dTuple, ev_dDivmod, ev_dXm, ev_dXf, ev_dIsX, ev_dPar, ev_dDict0, ev_dDict1, ev_dXr, ev_dXif, ev_dCallX, ev_dFld, ev_dCon, ev_dFldSet, ev_dMk, ev_dIxD, ev_gIxD, ev_dIKeys, ev_dIVals, ev_dIItems, ev_dDict, ev_dItL, ev_dItT, ev_dSorted, ev_dIZipN, ev_revR, ob_some, om_some, ob_none, om_none, b_some, m_some, ev_gSub, ev_gLt, ev_gLe, ev_gGt, ev_gGe, ev_gMax2, ev_gMin2, ev_gMod, ev_gDiv, ev_gMulI, ev_eqv, ev_sv_int, ev_sv_bool, ev_sv_none, ev_sv_str, ev_toDs, ev_flat, ev_leafApp, ev_leafLen, ev_flatNil, ev_flatCons, ev_dFn, ev_dOutV, ev_dOutS, ev_dOutN, ↓reduceIte, if_true, if_false, decide_true, decide_false, List.getElem?_cons_succ, List.getElem?_cons_zero, List.getElem?_nil, List.set_cons_succ, List.set_cons_zero, List.length_cons, List.length_nil, List.map_cons, List.map_nil, List.append_nil, List.nil_append, List.cons_append, List.nodup_cons, List.nodup_nil, List.mem_cons, List.not_mem_nil, or_false, or_true, false_or, true_or, not_true_eq_false, not_false_eq_true, and_true, true_and, and_false, false_and, List.take_succ_cons, List.take_zero, List.take_nil, List.replicate_succ, List.replicate_zero, sizeLine_eq, asBools, asInts, List.any_cons, List.any_nil, lcStep, forStep, Bool.not_true, Bool.not_false, ite_true, ite_false, Bool.false_eq_true, eq_self, leafsR, ldB, isNone, e_viewV, e_viewS, e_shV, e_shS, e_putV, e_putS, e_rvV, e_rvS, e_items, e_itLst, e_itTup, e_itOwn, e_itI, e_itB, e_itN, e_itStr, e_itScr, e_itDct, e_own, e_dctV, e_dctL, e_dctS, e_objV, e_objS, e_int1, e_int1b, e_abs, e_neg, e_lenL, e_lenT, e_lenS, e_all, e_any, e_sum, e_isB, e_isN, e_argN, e_argV, e_argS, e_slN, e_slV, e_slS, e_clN, e_clV, e_clS, e_pbN, e_pbV, e_pbS, e_lr0, e_lr1, e_wp0, e_wp1, e_re0, e_re1, e_slotS, e_slot0, e_as0, e_as1, e_addK, e_toDleaf, e_toDlst, e_toDdct, e_toDins, e_toDs0, e_toDs1, e_ownL, e_at0, e_at1, e_at2, e_atM1, e_cut1, e_whole1, ixN, Int.cast_ofNat_Int, Int.reduceLE, Int.reduceLT, Int.reduceNeg, Int.reduceAdd, Int.reduceSub, Int.reduceMul, Int.reduceToNat, Int.reduceEq, Int.reducePow, Nat.reducePow, Nat.reduceAdd, Nat.reduceSub, Nat.reduceMul, Nat.reduceLeDiff, Nat.reduceEqDiff, reduceCtorEq, Int.reduceNegSucc, Nat.zero_add, e_lv0, e_lv1, Nat.reduceLT, e_isi_int_0, e_isi_int_1, e_isi_int_2, e_isi_int_3, e_isi_int_4, e_isi_int_5, e_isi_int_6, e_isi_int_7, e_isi_bool_0, e_isi_bool_1, e_isi_bool_2, e_isi_bool_3, e_isi_bool_4, e_isi_bool_5, e_isi_bool_6, e_isi_bool_7, e_isi_str_0, e_isi_str_1, e_isi_str_2, e_isi_str_3, e_isi_str_4, e_isi_str_5, e_isi_str_6, e_isi_str_7, e_isi_tuple_0, e_isi_tuple_1, e_isi_tuple_2, e_isi_tuple_3, e_isi_tuple_4, e_isi_tuple_5, e_isi_tuple_6, e_isi_tuple_7, e_isi_list_0, e_isi_list_1, e_isi_list_2, e_isi_list_3, e_isi_list_4, e_isi_list_5, e_isi_list_6, e_isi_list_7, e_isi_dict_0, e_isi_dict_1, e_isi_dict_2, e_isi_dict_3, e_isi_dict_4, e_isi_dict_5, e_isi_dict_6, e_isi_dict_7, e_isi_list_tuple_0, e_isi_list_tuple_1, e_isi_list_tuple_2, e_isi_list_tuple_3, e_isi_list_tuple_4, e_isi_list_tuple_5, e_isi_list_tuple_6, e_isi_list_tuple_7, ev_dAddK, e_revT2, e_revT3, e_revF, ↓e_lastGet, e_dropLast, ne_eq])
  | `(tactic| wide_line with [$ls,*]) => `(tactic| simp -dsimp -implicitDefEqProofs only [$[$ls:term],*, ev_dSh, ev_dVal, ev_dVar, ev_dC, ev_dBin, ev_dTest, ev_dAnd, ev_dOr, ev_dNot, ev_dOfT, ev_dOne, ev_dAndV, ev_dOrV, ev_dNotV, ev_dIf, ev_dChain, ev_dNil, ev_dCons, ev_dLst, ev_dTup, ev_dSeq, ev_dNext, ev_dBrk, ev_dCont, ev_dRet, ev_dRetN, ev_dDrop, ev_dIfS, ev_dNever, ev_dSet, ev_dRCons, ev_dRNil, ev_dCall, ev_dRecv, ev_gNm, ev_gsNil, ev_gsCons, ev_gTp, ev_dAsg, ev_dISeq, ev_dIRange1, ev_dIRange2, ev_dIRange3, ev_dIEnum, ev_dIZip, ev_dFor, ev_dLc, ev_dYes, ev_dIx, ev_dNoPart, ev_dPart, ev_dSlice, ev_dRev, ev_dAdd, ev_dMul, ev_dUn, ev_dAppend, ev_dExtend, ev_dPopAt, ev_dPop, ev_gIx, ev_dList, ev_dTuple, ev_dDivmod, ev_dXm, ev_dXf, ev_dIsX, ev_dPar, ev_dDict0, ev_dDict1, ev_dXr, ev_dXif, ev_dCallX, ev_dFld, ev_dCon, ev_dFldSet, ev_dMk, ev_dIxD, ev_gIxD, ev_dIKeys, ev_dIVals, ev_dIItems, ev_dDict, ev_dItL, ev_dItT, ev_dSorted, ev_dIZipN, ev_revR, ob_some, om_some, ob_none, om_none, b_some, m_some, ev_gSub, ev_gLt, ev_gLe, ev_gGt, ev_gGe, ev_gMax2, ev_gMin2, ev_gMod, ev_gDiv, ev_gMulI, ev_eqv, ev_sv_int, ev_sv_bool, ev_sv_none, ev_sv_str, ev_toDs, ev_flat, ev_leafApp, ev_leafLen, ev_flatNil, ev_flatCons, ev_dFn, ev_dOutV, ev_dOutS, ev_dOutN, ↓reduceIte, if_true, if_false, decide_true, decide_false, List.getElem?_cons_succ, List.getElem?_cons_zero, List.getElem?_nil, List.set_cons_succ, List.set_cons_zero, List.length_cons, List.length_nil, List.map_cons, List.map_nil, List.append_nil, List.nil_append, List.cons_append, List.nodup_cons, List.nodup_nil, List.mem_cons, List.not_mem_nil, or_false, or_true, false_or, true_or, not_true_eq_false, not_false_eq_true, and_true, true_and, and_false, false_and, List.take_succ_cons, List.take_zero, List.take_nil, List.replicate_succ, List.replicate_zero, sizeLine_eq, asBools, asInts, List.any_cons, List.any_nil, lcStep, forStep, Bool.not_true, Bool.not_false, ite_true, ite_false, Bool.false_eq_true, eq_self, leafsR, ldB, isNone, e_viewV, e_viewS, e_shV, e_shS, e_putV, e_putS, e_rvV, e_rvS, e_items, e_itLst, e_itTup, e_itOwn, e_itI, e_itB, e_itN, e_itStr, e_itScr, e_itDct, e_own, e_dctV, e_dctL, e_dctS, e_objV, e_objS, e_int1, e_int1b, e_abs, e_neg, e_lenL, e_lenT, e_lenS, e_all, e_any, e_sum, e_isB, e_isN, e_argN, e_argV, e_argS, e_slN, e_slV, e_slS, e_clN, e_clV, e_clS, e_pbN, e_pbV, e_pbS, e_lr0, e_lr1, e_wp0, e_wp1, e_re0, e_re1, e_slotS, e_slot0, e_as0, e_as1, e_addK, e_toDleaf, e_toDlst, e_toDdct, e_toDins, e_toDs0, e_toDs1, e_ownL, e_at0, e_at1, e_at2, e_atM1, e_cut1, e_whole1, ixN, Int.cast_ofNat_Int, Int.reduceLE, Int.reduceLT, Int.reduceNeg, Int.reduceAdd, Int.reduceSub, Int.reduceMul, Int.reduceToNat, Int.reduceEq, Int.reducePow, Nat.reducePow, Nat.reduceAdd, Nat.reduceSub, Nat.reduceMul, Nat.reduceLeDiff, Nat.reduceEqDiff, reduceCtorEq, Int.reduceNegSucc, Nat.zero_add, e_lv0, e_lv1, Nat.reduceLT, e_isi_int_0, e_isi_int_1, e_isi_int_2, e_isi_int_3, e_isi_int_4, e_isi_int_5, e_isi_int_6, e_isi_int_7, e_isi_bool_0, e_isi_bool_1, e_isi_bool_2, e_isi_bool_3, e_isi_bool_4, e_isi_bool_5, e_isi_bool_6, e_isi_bool_7, e_isi_str_0, e_isi_str_1, e_isi_str_2, e_isi_str_3, e_isi_str_4, e_isi_str_5, e_isi_str_6, e_isi_str_7, e_isi_tuple_0, e_isi_tuple_1, e_isi_tuple_2, e_isi_tuple_3, e_isi_tuple_4, e_isi_tuple_5, e_isi_tuple_6, e_isi_tuple_7, e_isi_list_0, e_isi_list_1, e_isi_list_2, e_isi_list_3, e_isi_list_4, e_isi_list_5, e_isi_list_6, e_isi_list_7, e_isi_dict_0, e_isi_dict_1, e_isi_dict_2, e_isi_dict_3, e_isi_dict_4, e_isi_dict_5, e_isi_dict_6, e_isi_dict_7, e_isi_list_tuple_0, e_isi_list_tuple_1, e_isi_list_tuple_2, e_isi_list_tuple_3, e_isi_list_tuple_4, e_isi_list_tuple_5, e_isi_list_tuple_6, e_isi_list_tuple_7, ev_dAddK, e_revT2, e_revT3, e_revF, ↓e_lastGet, e_dropLast, ne_eq])
/-! the program's small functions -/
def isInt : D → Bool
  | .int _ => true
  | _ => false
def isCnt : D → Bool
  | .int i => decide (0 ≤ i)
  | _ => false
def plainD (d : D) : Prop := (tyD d).isSome = true
theorem is_integer_eq (d : D) (h : plainD d) : f_is_integer [.leaf d] = some (.leaf (.bool (isInt d)), [.leaf d]) := by
  cases d with
  | obj _ _ => cases h
  | exc _ _ => cases h
  | _ => wide_line with [f_is_integer, den_is_integer, isInt]
theorem is_count_eq (d : D) (h : plainD d) : f_is_count [.leaf d] = some (.leaf (.bool (isCnt d)), [.leaf d]) := by
  have e := is_integer_eq d h
  cases d with
  | obj _ _ => cases h
  | exc _ _ => cases h
  | _ => wide_line with [f_is_count, den_is_count, e, isInt, isCnt]
theorem is_whole_eq (d : D) (h : plainD d) : f__law_is_whole [.leaf d] = some (.leaf (.bool (isCnt d)), [.leaf d]) := by
  cases d with
  | obj _ _ => cases h
  | exc _ _ => cases h
  | _ => wide_line with [f__law_is_whole, den__law_is_whole, isCnt]
def jmpD (h : Int) : D → Bool
  | .tup [.int i, .int j] => decide (0 ≤ i) && (decide (i < j) && decide (j ≤ h))
  | _ => false
theorem all_cnt (vs : List Nat) (ρ : Ws.Env) (ds : List D) (hp : ∀ d ∈ ds, plainD d) (g : DenG) (tt : Den Bool) (te : Den D) (hs : ∀ d ∈ ds, lcStep g tt te vs d ρ = some (some (.bool (isCnt d)), ρ)) (hl : ds.length ≤ 1000) : lcLoop g tt te vs ds [] ρ = some (ds.map fun d => .bool (isCnt d), ρ) :=
  lc_mapP _ ds hs (by rw [sizeLine_eq]; omega)
theorem is_jump_eq (h : Int) (d : D) (hd : plainD d) (hp : ∀ ds, d = .tup ds → ds.length ≤ 1000 ∧ ∀ x ∈ ds, plainD x) : f_is_jump [.leaf (.int h), .leaf d] = some (.leaf (.bool (jmpD h d)), [.leaf (.int h), .leaf d]) := by
  cases d with
  | obj _ _ => cases hd
  | exc _ _ => cases hd
  | tup ds =>
    obtain ⟨hl, hp⟩ := hp ds rfl
    match ds, hl, hp with
    | [a, b], hl, hp =>
      have l0 : lcLoop (gNm 2) dYes (dSh (dCall f_is_count (dRCons (dVar 2) dRNil) [])) [2] [a, b] [] [some (.leaf (.int h)), some (.leaf (.tup [a, b])), none] = some ([a, b].map fun d => .bool (isCnt d), [some (.leaf (.int h)), some (.leaf (.tup [a, b])), none]) := by
        refine all_cnt _ _ _ hp _ _ _ (fun d hd => ?_) hl
        wide_line with [is_count_eq d (hp d hd)]
      by_cases c : isCnt a = true ∧ isCnt b = true
      · obtain ⟨ca, cb⟩ := c
        cases a with
        | int i =>
          cases b with
          | int j =>
            have hi : 0 ≤ i := of_decide_eq_true ca
            have hj : 0 ≤ j := of_decide_eq_true cb
            have e : jmpD h (.tup [.int i, .int j]) = (decide (i < j) && decide (j ≤ h)) := by
              show (decide (0 ≤ i) && (decide (i < j) && decide (j ≤ h))) = _
              rw [decide_eq_true hi, Bool.true_and]
            rw [e]
            by_cases c1 : i < j
            · wide_line with [f_is_jump, den_is_jump, den_is_jump_1, l0, isCnt, hi, hj, List.all_cons, List.all_nil, id, Bool.and_true, c1, Bool.true_and]
            · wide_line with [f_is_jump, den_is_jump, den_is_jump_1, l0, isCnt, hi, hj, List.all_cons, List.all_nil, id, Bool.and_true, c1, Bool.false_and]
          | _ => cases cb
        | _ => cases ca
      · have e1 : [isCnt a, isCnt b].all id = false := by
          cases h1 : isCnt a <;> cases h2 : isCnt b <;> first | rfl | exact absurd ⟨h1, h2⟩ c
        have e2 : jmpD h (.tup [a, b]) = false := by
          cases a with
          | int i =>
            cases b with
            | int j =>
              show (decide (0 ≤ i) && (decide (i < j) && decide (j ≤ h))) = false
              by_cases c1 : 0 ≤ i
              · by_cases c2 : 0 ≤ j
                · exact absurd ⟨decide_eq_true c1, decide_eq_true c2⟩ c
                · rw [decide_eq_false (show ¬ i < j by omega)]; simp
              · rw [decide_eq_false c1]; rfl
            | _ => rfl
          | _ => rfl
        rw [e2]
        wide_line with [f_is_jump, den_is_jump, den_is_jump_1, l0, e1]
    | [], hl, hp => wide_line with [f_is_jump, den_is_jump, den_is_jump_1, jmpD]
    | [a], hl, hp => 
      wide_line with [f_is_jump, den_is_jump, den_is_jump_1, jmpD]
    | a :: b :: c :: r, hl, hp =>
      have hn : ¬ ((r.length + 1 + 1 + 1 : Nat) : Int) = 2 := by omega
      wide_line with [f_is_jump, den_is_jump, den_is_jump_1, jmpD, hn]
  | _ => wide_line with [f_is_jump, den_is_jump, den_is_jump_1, jmpD]
/-! ### making a stair -/
def pl (p : Int × Int) : List Int := [p.1, p.2]
theorem pl_inj {p q : Int × Int} (h : pl p = pl q) : p = q := by
  obtain ⟨a, b⟩ := p
  obtain ⟨c, d⟩ := q
  simp only [pl, List.cons.injEq, and_true] at h
  exact Prod.ext h.1 h.2
theorem jD_pl (J : List (Int × Int)) : J.map jD = (J.map pl).map mkTup := by rw [List.map_map]; rfl
theorem mem_pl {J : List (Int × Int)} {p : Int × Int} : pl p ∈ J.map pl ↔ p ∈ J := by
  constructor
  · intro h
    obtain ⟨q, h1, h2⟩ := List.mem_map.mp h
    exact pl_inj h2 ▸ h1
  · exact fun h => List.mem_map_of_mem h
theorem jin (p : Int × Int) (J : List (Int × Int)) : gInL false (jD p) (.lst (J.map jD)) = some (.bool (decide (p ∈ J))) := by
  rw [jD_pl]
  refine (in_tups false (pl p) (J.map pl)).trans ?_
  rw [if_neg (by decide)]
  congr 2
  rw [decide_eq_decide]
  exact mem_pl
theorem jne (n : Bool) (p q : Int × Int) : gEqv n (jD p) (jD q) = some (.bool (if n = true then !decide (p = q) else decide (p = q))) := by
  refine (eqv_tups n (pl p) (pl q)).trans ?_
  have : decide (pl p = pl q) = decide (p = q) := by
    rw [decide_eq_decide]
    exact ⟨pl_inj, fun h => h ▸ rfl⟩
  rw [this]
theorem plain_jD (p : Int × Int) : plainD (jD p) := rfl
theorem jump_jD (h : Int) (p : Int × Int) : f_is_jump [.leaf (.int h), .leaf (jD p)] = some (.leaf (.bool (decide (0 ≤ p.1) && (decide (p.1 < p.2) && decide (p.2 ≤ h)))), [.leaf (.int h), .leaf (jD p)]) := by
  refine is_jump_eq h (jD p) rfl fun ds e => ?_
  cases e
  refine ⟨(by decide : 2 ≤ 1000), fun x hx => ?_⟩
  rcases List.mem_cons.mp hx with e | hx
  · rw [e]; rfl
  · rcases List.mem_cons.mp hx with e | hx
    · rw [e]; rfl
    · cases hx
theorem want_steps_ok (n : Int) (h : 1 ≤ n ∧ n ≤ 10) : f_want_steps [.leaf (.int n)] = some (.leaf .none, [.leaf (.int n)]) := by
  wide_line with [f_want_steps, den_want_steps, is_integer_eq (.int n) rfl, isInt, h]
theorem is_list_own (J : List (Int × Int)) : f_is_list [JW J] = some (.leaf (.bool true), [JW J]) := by
  wide_line with [f_is_list, den_is_list]
theorem JOk.nodup {h i j : Int} {n : Nat} {J : List (Int × Int)} (k : JOk h i j n J) : J.Nodup := by
  refine k.srt.imp fun {a b} hab e => ?_
  subst e
  rcases hab with q | q <;> omega
theorem want_jumps_ok (h : Int) (J : List (Int × Int)) (hJ : JOk h h (h + 1) 25 J) : f_want_jumps [.leaf (.int h), JW J] = some (.leaf .none, [.leaf (.int h), .leaf (.lst (J.map jD))]) := by
  obtain ⟨ρ', e1, a, b, e2⟩ := for_run (g := gTp (gsCons (gNm 2) (gsCons (gNm 3) gsNil))) (body := dIfS (dOr (dNot (dTest (dCall f_is_jump (dRCons (dVar 0) (dRCons (dVar 3) dRNil)) []))) (dTest (dBin (gInL false) (dVar 3) (dSlice (dVar 1) dNoPart (dPart (dVar 2)))))) dNever dNext)
    (fun _ ρ => ∃ a b, ρ = [some (.leaf (.int h)), some (.leaf (.lst (J.map jD))), a, b]) (enumD (J.map jD)) 0 [some (.leaf (.int h)), some (.leaf (.lst (J.map jD))), none, none] ⟨none, none, rfl⟩ (fun i d ρ hd ⟨a, b, e⟩ => by
    subst e
    obtain ⟨hi, ed⟩ : ∃ hi : i < J.length, d = .tup [.int i, jD J[i]] := by
      unfold enumD at hd
      rw [List.getElem?_map] at hd
      obtain ⟨k, h1, h2⟩ := Option.map_eq_some_iff.mp hd
      obtain ⟨h3, h4⟩ := List.getElem?_eq_some_iff.mp h1
      simp at h4 h3
      subst h4
      refine ⟨h3, ?_⟩
      rw [← h2]
      simp [List.getD, h3]
    subst ed
    have hr := hJ.rt J[i] (List.getElem_mem hi)
    have e1 := jump_jD h J[i]
    rw [decide_eq_true hr.1, decide_eq_true hr.2.1, decide_eq_true hr.2.2] at e1
    have e2 : gInL false (jD J[i]) (.lst (cutD (J.map jD) none (some (i : Int)))) = some (.bool false) := by
      rw [cut_hi, ← List.map_take, jin]
      congr 2
      refine decide_eq_false fun hm => ?_
      obtain ⟨k, hk, ek⟩ := List.getElem_of_mem hm
      rw [List.getElem_take] at ek
      have hk' := hk
      rw [List.length_take] at hk'
      have := (List.getElem_inj hJ.nodup).mp ek
      omega
    refine ⟨[some (.leaf (.int h)), some (.leaf (.lst (J.map jD))), some (.leaf (.int i)), some (.leaf (jD J[i]))], .inl ?_, _, _, rfl⟩
    wide_line with [e1, e2, Bool.and_self])
  have e3 : forLoop (gTp (gsCons (gNm 2) (gsCons (gNm 3) gsNil))) (dIfS (dOr (dNot (dTest (dCall f_is_jump (dRCons (dVar 0) (dRCons (dVar 3) dRNil)) []))) (dTest (dBin (gInL false) (dVar 3) (dSlice (dVar 1) dNoPart (dPart (dVar 2)))))) dNever dNext) (enumD (J.map jD)) [some (.leaf (.int h)), some (.leaf (.lst (J.map jD))), none, none] = some (.next, [some (.leaf (.int h)), some (.leaf (.lst (J.map jD))), a, b]) := e1.trans (by rw [e2])
  wide_line with [f_want_jumps, den_want_jumps, den_want_jumps_1, is_list_own, e3]
/-! the jumps of a stair, sorted -/
theorem asTups_pl : ∀ J : List (Int × Int), asTups (J.map jD) = some (J.map pl)
  | [] => rfl
  | p :: J => by
    have e : asTups (jD p :: J.map jD) = (asTups (J.map jD)).map (pl p :: ·) := rfl
    rw [List.map_cons, e, asTups_pl J]
    rfl
theorem lex_pl {p q : Int × Int} : lexI (pl p) (pl q) = true ↔ ltP p q := by
  simp only [pl, lexI, ltP]
  split
  · rename_i e
    split
    · rename_i e2
      simp only [Bool.false_eq_true, false_iff]
      omega
    · simp only [decide_eq_true_eq]
      omega
  · simp only [decide_eq_true_eq]
    omega
theorem sort_pl {J : List (Int × Int)} (h : J.Pairwise ltP) : sortI (J.map pl) = J.map pl := by
  refine (sortI_uniq (l := J.map pl) (m := J.map pl) ?_ (List.Perm.refl _)).symm
  refine List.pairwise_map.mpr (h.imp fun {a b} hab => ?_)
  cases e : lexI (pl b) (pl a) with
  | false => rfl
  | true =>
    have := lex_pl.mp e
    unfold ltP at *
    omega
/-! the stair -/
def nextR (J : List (Int × Int)) (i : Nat) : D := .lst (J.filterMap fun p => if p.1 = (i : Int) then some (.int p.2) else none)
def stairD (h : Int) (J : List (Int × Int)) : D := .obj 0 [("own_steps", .int (h - 1)), ("own_jumps", .lst (J.map jD)), ("own_next", .lst ((List.range (h + 1).toNat).map (nextR J)))]
abbrev sE (h : Int) (J : List (Int × Int)) (fs : List (Str × D)) : Ws.Env := [some (.ins 0 fs), some (.leaf (.int (h - 1))), some (.leaf (.lst (J.map jD))), none, none, none]
theorem stair_ok (h : Int) (J : List (Int × Int)) (hh : 2 ≤ h ∧ h ≤ 5) (hJ : JOk h h (h + 1) 25 J) : f_Stair___init__ [.ins 0 [], .leaf (.int (h - 1)), JW J] = some (.leaf .none, [.ins 0 [("own_steps", .int (h - 1)), ("own_jumps", .lst (J.map jD)), ("own_next", .lst ((List.range (h + 1).toNat).map (nextR J)))], .leaf (.int (h - 1)), .leaf (.lst (J.map jD))]) := by
  have w1 := want_steps_ok (h - 1) ⟨by omega, by omega⟩
  have w2 := want_jumps_ok h J hJ
  have c1 : conF_MOST_JUMPS 0 = some (.int 40) := rfl
  have c2 : List.lookup ("MOST_JUMPS" : Str) ([] : List (Str × D)) = none := rfl
  have k1 : okF_own_steps 0 = true := rfl
  have k2 : okF_own_jumps 0 = true := rfl
  have k3 : okF_own_next 0 = true := rfl
  have p1 : ∀ v : D, putG ("own_steps" : Str) v [] = [(("own_steps" : Str), v)] := fun v => rfl
  have p2 : ∀ a v : D, putG ("own_jumps" : Str) v [(("own_steps" : Str), a)] = [(("own_steps" : Str), a), (("own_jumps" : Str), v)] := fun a v => by kernel_rfl
  have p3 : ∀ a b v : D, putG ("own_next" : Str) v [(("own_steps" : Str), a), (("own_jumps" : Str), b)] = [(("own_steps" : Str), a), (("own_jumps" : Str), b), (("own_next" : Str), v)] := fun a b v => by kernel_rfl
  have lk : ∀ a b : D, List.lookup ("own_jumps" : Str) [(("own_steps" : Str), a), ("own_jumps", b)] = some b := fun a b => by kernel_rfl
  have q := asTups_pl J
  have q2 := sort_pl hJ.srt
  have q3 := (jD_pl J).symm
  have hl := hJ.len
  have s1 : ¬ (40 : Int) < J.length := by omega
  have hn : h - 1 + 1 = h := by omega
  obtain ⟨fs, efs⟩ : ∃ fs : List (Str × D), fs = [(("own_steps" : Str), .int (h - 1)), (("own_jumps" : Str), .lst (J.map jD))] := ⟨_, rfl⟩
  have lk2 : List.lookup ("own_jumps" : Str) fs = some (.lst (J.map jD)) := by rw [efs]; exact lk _ _
  have inn : ∀ i : Nat, lcLoop (gTp (gsCons (gNm 4) (gsCons (gNm 5) gsNil))) (dTest (dBin (gEqv false) (dVar 4) (dVar 3))) (dSh (dVar 5)) [4, 5] (J.map jD) [] [some (.ins 0 fs), some (.leaf (.int (h - 1))), some (.leaf (.lst (J.map jD))), some (.leaf (.int (0 + (i : Int)))), none, none] = some ([] ++ J.filterMap (fun p => if p.1 = (i : Int) then some (.int p.2) else none), [some (.ins 0 fs), some (.leaf (.int (h - 1))), some (.leaf (.lst (J.map jD))), some (.leaf (.int (0 + (i : Int)))), none, none]) := by
    intro i
    refine lc_pureM jD _ J [] (fun p hp => ?_) (by rw [sizeLine_eq]; simp; omega)
    obtain ⟨a, b⟩ := p
    by_cases c : a = (i : Int)
    · wide_line with [jD, c, Int.zero_add]
    · wide_line with [jD, c, Int.zero_add]
  have out : lcLoop (gNm 3) dYes (dSh (dLc (dISeq (dFld ("own_jumps" : Str) okF_own_jumps (dVar 0))) (gTp (gsCons (gNm 4) (gsCons (gNm 5) gsNil))) (dTest (dBin (gEqv false) (dVar 4) (dVar 3))) (dSh (dVar 5)) [4, 5])) [3] (rangeD 0 (h + 1).toNat) [] (sE h J fs) = some ((List.range (h + 1).toNat).map (nextR J), sE h J fs) := by
    refine lc_mapM (fun i : Nat => .int (0 + (i : Int))) (nextR J) _ (fun i hi => ?_) (by rw [sizeLine_eq, List.length_range]; omega)
    wide_line with [inn i, k2, lk2, nextR]
  have h2 : h - 1 + 2 = h + 1 := by omega
  have out' := out
  rw [efs] at out'
  wide_line with [h2, f_Stair___init__, den_Stair___init__, den_Stair___init___1, den_Stair___init___2, den_Stair___init___3, den_Stair___init___4, den_Stair___init___5, w1, hn, w2, c1, c2, k1, k2, k3, p1, p2, p3, q, q2, q3, List.length_map, s1, sE, small_of (show -1000 ≤ h + 1 ∧ h + 1 ≤ 1000 by omega), out']
end K22
set_option Elab.async false
set_option linter.all false
set_option maxRecDepth 100000
set_option maxHeartbeats 0
namespace K22
open PySem PySem.Spec PyProof.Rows L2 Ws
local macro_rules
  | `(tactic| wide_line) => `(tactic| simp -dsimp -implicitDefEqProofs only [ev_dSh, ev_dVal, ev_dVar, ev_dC, ev_dBin, ev_dTest, ev_dAnd, ev_dOr, ev_dNot, ev_dOfT, ev_dOne, ev_dAndV, ev_dOrV, ev_dNotV, ev_dIf, ev_dChain, ev_dNil, ev_dCons, ev_dLst, ev_dTup, ev_dSeq, ev_dNext, ev_dBrk, ev_dCont, ev_dRet, ev_dRetN, ev_dDrop, ev_dIfS, ev_dNever, ev_dSet, ev_dRCons, ev_dRNil, ev_dCall, ev_dRecv, ev_gNm, ev_gsNil, ev_gsCons, ev_gTp, ev_dAsg, ev_dISeq, ev_dIRange1, ev_dIRange2, ev_dIRange3, ev_dIEnum, ev_dIZip, ev_dFor, ev_dLc, ev_dYes, ev_dIx, ev_dNoPart, ev_dPart, ev_dSlice, ev_dRev, ev_dAdd, ev_dMul, ev_dUn, ev_dAppend, ev_dExtend, ev_dPopAt, ev_dPop, ev_gIx, ev_dList, ev_dTuple, ev_dDivmod, ev_dXm, ev_dXf, ev_dIsX, ev_dPar, ev_dDict0, ev_dDict1, ev_dXr, ev_dXif, ev_dCallX, ev_dFld, ev_dCon, ev_dFldSet, ev_dMk, ev_dIxD, ev_gIxD, ev_dIKeys, ev_dIVals, ev_dIItems, ev_dDict, ev_dItL, ev_dItT, ev_dSorted, ev_dIZipN, ev_revR, ob_some, om_some, ob_none, om_none, b_some, m_some, ev_gSub, ev_gLt, ev_gLe, ev_gGt, ev_gGe, ev_gMax2, ev_gMin2, ev_gMod, ev_gDiv, ev_gMulI, ev_eqv, ev_sv_int, ev_sv_bool, ev_sv_none, ev_sv_str, ev_toDs, ev_flat, ev_leafApp, ev_leafLen, ev_flatNil, ev_flatCons, ev_dFn, ev_dOutV, ev_dOutS, ev_dOutN, ↓reduceIte, if_true, if_false, decide_true, decide_false, List.getElem?_cons_succ, List.getElem?_cons_zero, List.getElem?_nil, List.set_cons_succ, List.set_cons_zero, List.length_cons, List.length_nil, List.map_cons, List.map_nil, List.append_nil, List.nil_append, List.cons_append, List.nodup_cons, List.nodup_nil, List.mem_cons, List.not_mem_nil, or_false, or_true, false_or, true_or, not_true_eq_false, not_false_eq_true, and_true, true_and, and_false, false_and, List.take_succ_cons, List.take_zero, List.take_nil, List.replicate_succ, List.replicate_zero, sizeLine_eq, asBools, asInts, List.any_cons, List.any_nil, lcStep, forStep, Bool.not_true, Bool.not_false, ite_true, ite_false, Bool.false_eq_true, eq_self, leafsR, ldB, isNone, e_viewV, e_viewS, e_shV, e_shS, e_putV, e_putS, e_rvV, e_rvS, e_items, e_itLst, e_itTup, e_itOwn, e_itI, e_itB, e_itN, e_itStr, e_itScr, e_itDct, e_own, e_dctV, e_dctL, e_dctS, e_objV, e_objS, e_int1, e_int1b, e_abs, e_neg, e_lenL, e_lenT, e_lenS, e_all, e_any, e_sum, e_isB, e_isN, e_argN, e_argV, e_argS, e_slN, e_slV, e_slS, e_clN, e_clV, e_clS, e_pbN, e_pbV, e_pbS, e_lr0, e_lr1, e_wp0, e_wp1, e_re0, e_re1, e_slotS, e_slot0, e_as0, e_as1, e_addK, e_toDleaf, e_toDlst, e_toDdct, e_toDins, e_toDs0, e_toDs1, e_ownL, e_at0, e_at1, e_at2, e_atM1, e_cut1, e_whole1, ixN, Int.cast_ofNat_Int, Int.reduceLE, Int.reduceLT, Int.reduceNeg, Int.reduceAdd, Int.reduceSub, Int.reduceMul, Int.reduceToNat, Int.reduceEq, Int.reducePow, Nat.reducePow, Nat.reduceAdd, Nat.reduceSub, Nat.reduceMul, Nat.reduceLeDiff, Nat.reduceEqDiff, reduceCtorEq, Int.reduceNegSucc, Nat.zero_add, e_lv0, e_lv1, Nat.reduceLT, e_isi_int_0, e_isi_int_1, e_isi_int_2, e_isi_int_3, e_isi_int_4, e_isi_int_5, e_isi_int_6, e_isi_int_7, e_isi_bool_0, e_isi_bool_1, e_isi_bool_2, e_isi_bool_3, e_isi_bool_4, e_isi_bool_5, e_isi_bool_6, e_isi_bool_7, e_isi_str_0, e_isi_str_1, e_isi_str_2, e_isi_str_3, e_isi_str_4, e_isi_str_5, e_isi_str_6, e_isi_str_7, e_isi_tuple_0, e_isi_tuple_1, e_isi_tuple_2, e_isi_tuple_3, e_isi_tuple_4, e_isi_tuple_5, e_isi_tuple_6, e_isi_tuple_7, e_isi_list_0, e_isi_list_1, e_isi_list_2, e_isi_list_3, e_isi_list_4, e_isi_list_5, e_isi_list_6, e_isi_list_7, e_isi_dict_0, e_isi_dict_1, e_isi_dict_2, e_isi_dict_3, e_isi_dict_4, e_isi_dict_5, e_isi_dict_6, e_isi_dict_7, e_isi_list_tuple_0, e_isi_list_tuple_1, e_isi_list_tuple_2, e_isi_list_tuple_3, e_isi_list_tuple_4, e_isi_list_tuple_5, e_isi_list_tuple_6, e_isi_list_tuple_7, ev_dAddK, e_revT2, e_revT3, e_revF, ↓e_lastGet, e_dropLast, ne_eq])
  | `(tactic| wide_line with [$ls,*]) => `(tactic| simp -dsimp -implicitDefEqProofs only [$[$ls:term],*, ev_dSh, ev_dVal, ev_dVar, ev_dC, ev_dBin, ev_dTest, ev_dAnd, ev_dOr, ev_dNot, ev_dOfT, ev_dOne, ev_dAndV, ev_dOrV, ev_dNotV, ev_dIf, ev_dChain, ev_dNil, ev_dCons, ev_dLst, ev_dTup, ev_dSeq, ev_dNext, ev_dBrk, ev_dCont, ev_dRet, ev_dRetN, ev_dDrop, ev_dIfS, ev_dNever, ev_dSet, ev_dRCons, ev_dRNil, ev_dCall, ev_dRecv, ev_gNm, ev_gsNil, ev_gsCons, ev_gTp, ev_dAsg, ev_dISeq, ev_dIRange1, ev_dIRange2, ev_dIRange3, ev_dIEnum, ev_dIZip, ev_dFor, ev_dLc, ev_dYes, ev_dIx, ev_dNoPart, ev_dPart, ev_dSlice, ev_dRev, ev_dAdd, ev_dMul, ev_dUn, ev_dAppend, ev_dExtend, ev_dPopAt, ev_dPop, ev_gIx, ev_dList, ev_dTuple, ev_dDivmod, ev_dXm, ev_dXf, ev_dIsX, ev_dPar, ev_dDict0, ev_dDict1, ev_dXr, ev_dXif, ev_dCallX, ev_dFld, ev_dCon, ev_dFldSet, ev_dMk, ev_dIxD, ev_gIxD, ev_dIKeys, ev_dIVals, ev_dIItems, ev_dDict, ev_dItL, ev_dItT, ev_dSorted, ev_dIZipN, ev_revR, ob_some, om_some, ob_none, om_none, b_some, m_some, ev_gSub, ev_gLt, ev_gLe, ev_gGt, ev_gGe, ev_gMax2, ev_gMin2, ev_gMod, ev_gDiv, ev_gMulI, ev_eqv, ev_sv_int, ev_sv_bool, ev_sv_none, ev_sv_str, ev_toDs, ev_flat, ev_leafApp, ev_leafLen, ev_flatNil, ev_flatCons, ev_dFn, ev_dOutV, ev_dOutS, ev_dOutN, ↓reduceIte, if_true, if_false, decide_true, decide_false, List.getElem?_cons_succ, List.getElem?_cons_zero, List.getElem?_nil, List.set_cons_succ, List.set_cons_zero, List.length_cons, List.length_nil, List.map_cons, List.map_nil, List.append_nil, List.nil_append, List.cons_append, List.nodup_cons, List.nodup_nil, List.mem_cons, List.not_mem_nil, or_false, or_true, false_or, true_or, not_true_eq_false, not_false_eq_true, and_true, true_and, and_false, false_and, List.take_succ_cons, List.take_zero, List.take_nil, List.replicate_succ, List.replicate_zero, sizeLine_eq, asBools, asInts, List.any_cons, List.any_nil, lcStep, forStep, Bool.not_true, Bool.not_false, ite_true, ite_false, Bool.false_eq_true, eq_self, leafsR, ldB, isNone, e_viewV, e_viewS, e_shV, e_shS, e_putV, e_putS, e_rvV, e_rvS, e_items, e_itLst, e_itTup, e_itOwn, e_itI, e_itB, e_itN, e_itStr, e_itScr, e_itDct, e_own, e_dctV, e_dctL, e_dctS, e_objV, e_objS, e_int1, e_int1b, e_abs, e_neg, e_lenL, e_lenT, e_lenS, e_all, e_any, e_sum, e_isB, e_isN, e_argN, e_argV, e_argS, e_slN, e_slV, e_slS, e_clN, e_clV, e_clS, e_pbN, e_pbV, e_pbS, e_lr0, e_lr1, e_wp0, e_wp1, e_re0, e_re1, e_slotS, e_slot0, e_as0, e_as1, e_addK, e_toDleaf, e_toDlst, e_toDdct, e_toDins, e_toDs0, e_toDs1, e_ownL, e_at0, e_at1, e_at2, e_atM1, e_cut1, e_whole1, ixN, Int.cast_ofNat_Int, Int.reduceLE, Int.reduceLT, Int.reduceNeg, Int.reduceAdd, Int.reduceSub, Int.reduceMul, Int.reduceToNat, Int.reduceEq, Int.reducePow, Nat.reducePow, Nat.reduceAdd, Nat.reduceSub, Nat.reduceMul, Nat.reduceLeDiff, Nat.reduceEqDiff, reduceCtorEq, Int.reduceNegSucc, Nat.zero_add, e_lv0, e_lv1, Nat.reduceLT, e_isi_int_0, e_isi_int_1, e_isi_int_2, e_isi_int_3, e_isi_int_4, e_isi_int_5, e_isi_int_6, e_isi_int_7, e_isi_bool_0, e_isi_bool_1, e_isi_bool_2, e_isi_bool_3, e_isi_bool_4, e_isi_bool_5, e_isi_bool_6, e_isi_bool_7, e_isi_str_0, e_isi_str_1, e_isi_str_2, e_isi_str_3, e_isi_str_4, e_isi_str_5, e_isi_str_6, e_isi_str_7, e_isi_tuple_0, e_isi_tuple_1, e_isi_tuple_2, e_isi_tuple_3, e_isi_tuple_4, e_isi_tuple_5, e_isi_tuple_6, e_isi_tuple_7, e_isi_list_0, e_isi_list_1, e_isi_list_2, e_isi_list_3, e_isi_list_4, e_isi_list_5, e_isi_list_6, e_isi_list_7, e_isi_dict_0, e_isi_dict_1, e_isi_dict_2, e_isi_dict_3, e_isi_dict_4, e_isi_dict_5, e_isi_dict_6, e_isi_dict_7, e_isi_list_tuple_0, e_isi_list_tuple_1, e_isi_list_tuple_2, e_isi_list_tuple_3, e_isi_list_tuple_4, e_isi_list_tuple_5, e_isi_list_tuple_6, e_isi_list_tuple_7, ev_dAddK, e_revT2, e_revT3, e_revF, ↓e_lastGet, e_dropLast, ne_eq])
/-! ### is_flow, the program's -/
def inJ (J : List (Int × Int)) : D → Bool
  | .tup [.int i, .int j] => decide ((i, j) ∈ J)
  | _ => false
def keyP (d : D) : Prop := plainD d ∧ ∀ ds, d = .tup ds → ds.length ≤ 1000 ∧ ∀ x ∈ ds, plainD x
theorem stair_lk1 (h : Int) (J : List (Int × Int)) (v : D) : List.lookup ("own_steps" : Str) [(("own_steps" : Str), .int (h - 1)), (("own_jumps" : Str), .lst (J.map jD)), (("own_next" : Str), v)] = some (.int (h - 1)) := by kernel_rfl
theorem stair_lk2 (h : Int) (J : List (Int × Int)) (v : D) : List.lookup ("own_jumps" : Str) [(("own_steps" : Str), .int (h - 1)), (("own_jumps" : Str), .lst (J.map jD)), (("own_next" : Str), v)] = some (.lst (J.map jD)) := by kernel_rfl
theorem stair_no (m : Str) (h : Int) (J : List (Int × Int)) (v : D) (hm : List.lookup m [(("own_steps" : Str), D.none), (("own_jumps" : Str), D.none), (("own_next" : Str), D.none)] = none) : List.lookup m [(("own_steps" : Str), .int (h - 1)), (("own_jumps" : Str), .lst (J.map jD)), (("own_next" : Str), v)] = none := by
  revert hm
  simp only [List.lookup_cons, List.lookup_nil]
  cases (m == ("own_steps" : Str)) <;> cases (m == ("own_jumps" : Str)) <;> cases (m == ("own_next" : Str)) <;> simp
theorem stair_no1 (h : Int) (J : List (Int × Int)) (v : D) : List.lookup ("has_jump" : Str) [(("own_steps" : Str), .int (h - 1)), (("own_jumps" : Str), .lst (J.map jD)), (("own_next" : Str), v)] = none := stair_no _ h J v (by kernel_rfl)
theorem stair_no2 (h : Int) (J : List (Int × Int)) (v : D) : List.lookup ("steps" : Str) [(("own_steps" : Str), .int (h - 1)), (("own_jumps" : Str), .lst (J.map jD)), (("own_next" : Str), v)] = none := stair_no _ h J v (by kernel_rfl)
theorem okS : okF_own_steps 0 = true := rfl
theorem okJ : okF_own_jumps 0 = true := rfl
theorem jmp_inJ {h : Int} {J : List (Int × Int)} {n : Nat} (hJ : JOk h h (h + 1) n J) {d : D} (e : jmpD h d = false) : inJ J d = false := by
  unfold inJ
  split
  · rename_i i j
    have e' : (decide (0 ≤ i) && (decide (i < j) && decide (j ≤ h))) = false := e
    refine decide_eq_false fun hm => ?_
    have := hJ.rt _ hm
    simp only [Bool.and_eq_false_iff, decide_eq_false_iff_not] at e'
    omega
  · rfl
theorem has_jump_ok (h : Int) (J : List (Int × Int)) (hJ : JOk h h (h + 1) 25 J) (d : D) (hd : keyP d) : f_Stair_has_jump [.leaf (stairD h J), .leaf d] = some (.leaf (.bool (inJ J d)), [.leaf (stairD h J), .leaf d]) := by
  have e := is_jump_eq h d hd.1 hd.2
  have hn : h - 1 + 1 = h := by omega
  cases c : jmpD h d with
  | false =>
    rw [c] at e
    rw [jmp_inJ hJ c]
    wide_line with [f_Stair_has_jump, den_Stair_has_jump, stairD, stair_lk1, okS, hn, e]
  | true =>
    rw [c] at e
    unfold jmpD at c
    split at c
    · rename_i i j
      have e2 : gInL false (.tup [.int i, .int j]) (.lst (J.map jD)) = some (.bool (decide ((i, j) ∈ J))) := jin (i, j) J
      wide_line with [f_Stair_has_jump, den_Stair_has_jump, stairD, stair_lk1, stair_lk2, okS, okJ, hn, e, e2, inJ]
    · cases c
def kvD (q : (Int × Int) × Int) : D × D := (jD q.1, .int q.2)
def gIn (s : Int) (q : (Int × Int) × Int) : Option Int := if q.1.2 = s then some q.2 else none
def gOut (s : Int) (q : (Int × Int) × Int) : Option Int := if q.1.1 = s then some q.2 else none
def sIn (qs : List ((Int × Int) × Int)) (s : Int) : Int := (qs.filterMap (gIn s)).sum
def sOut (qs : List ((Int × Int) × Int)) (s : Int) : Int := (qs.filterMap (gOut s)).sum
def bal (h : Int) (qs : List ((Int × Int) × Int)) : Bool := (List.range (h - 1).toNat).all fun i => decide (sIn qs (1 + (i : Int)) = sOut qs (1 + (i : Int)))
theorem pairsD_kv (qs : List ((Int × Int) × Int)) : pairsD (qs.map kvD) = qs.map fun q => .tup [jD q.1, .int q.2] := by
  unfold pairsD
  rw [List.map_map]
  rfl
theorem going_in_ok (qs : List ((Int × Int) × Int)) (s : Int) (hl : qs.length ≤ 1000) : f_going_in [.leaf (.dct (qs.map kvD)), .leaf (.int s)] = some (.leaf (.int (sIn qs s)), [.leaf (.dct (qs.map kvD)), .leaf (.int s)]) := by
  have l : lcLoop (gTp (gsCons (gTp (gsCons (gNm 3) (gsCons (gNm 4) gsNil))) (gsCons (gNm 2) gsNil))) (dTest (dBin (gEqv false) (dVar 4) (dVar 1))) (dSh (dVar 2)) [2, 3, 4] (qs.map fun q => .tup [jD q.1, .int q.2]) [] [some (.leaf (.dct (qs.map kvD))), some (.leaf (.int s)), none, none, none] = some ([] ++ qs.filterMap (fun q => (gIn s q).map D.int), [some (.leaf (.dct (qs.map kvD))), some (.leaf (.int s)), none, none, none]) := by
    refine lc_pureM _ _ qs [] (fun q hq => ?_) (by rw [sizeLine_eq]; simp; omega)
    obtain ⟨⟨a, b⟩, v⟩ := q
    by_cases c : b = s
    · wide_line with [jD, c, gIn, Option.map_some]
    · wide_line with [jD, c, gIn, Option.map_none]
  wide_line with [f_going_in, den_going_in, pairsD_kv, l, asInts_fm, sIn]
theorem going_out_ok (qs : List ((Int × Int) × Int)) (s : Int) (hl : qs.length ≤ 1000) : f_going_out [.leaf (.dct (qs.map kvD)), .leaf (.int s)] = some (.leaf (.int (sOut qs s)), [.leaf (.dct (qs.map kvD)), .leaf (.int s)]) := by
  have l : lcLoop (gTp (gsCons (gTp (gsCons (gNm 3) (gsCons (gNm 4) gsNil))) (gsCons (gNm 2) gsNil))) (dTest (dBin (gEqv false) (dVar 3) (dVar 1))) (dSh (dVar 2)) [2, 3, 4] (qs.map fun q => .tup [jD q.1, .int q.2]) [] [some (.leaf (.dct (qs.map kvD))), some (.leaf (.int s)), none, none, none] = some ([] ++ qs.filterMap (fun q => (gOut s q).map D.int), [some (.leaf (.dct (qs.map kvD))), some (.leaf (.int s)), none, none, none]) := by
    refine lc_pureM _ _ qs [] (fun q hq => ?_) (by rw [sizeLine_eq]; simp; omega)
    obtain ⟨⟨a, b⟩, v⟩ := q
    by_cases c : a = s
    · wide_line with [jD, c, gOut, Option.map_some]
    · wide_line with [jD, c, gOut, Option.map_none]
  wide_line with [f_going_out, den_going_out, pairsD_kv, l, asInts_fm, sOut]
theorem steps_ok (h : Int) (J : List (Int × Int)) : f_Stair_steps [.leaf (stairD h J)] = some (.leaf (.int (h - 1)), [.leaf (stairD h J)]) := by
  wide_line with [f_Stair_steps, den_Stair_steps, stairD, stair_lk1, okS]
/-- a value that is no dict -/
theorem flow_no (h : Int) (J : List (Int × Int)) (d : D) (hd : plainD d) (hn : ∀ kvs, d ≠ .dct kvs) : f_is_flow [.leaf (stairD h J), .leaf d] = some (.leaf (.bool false), [.leaf (stairD h J), .leaf d]) := by
  cases d with
  | obj _ _ => cases hd
  | exc _ _ => cases hd
  | dct kvs => exact absurd rfl (hn kvs)
  | _ => wide_line with [f_is_flow, den_is_flow]
def okKv (J : List (Int × Int)) (kv : D × D) : Bool := inJ J kv.1 && isCnt kv.2
theorem flow_all (h : Int) (J : List (Int × Int)) (hJ : JOk h h (h + 1) 25 J) (kvs : List (D × D)) (hk : ∀ kv ∈ kvs, keyP kv.1 ∧ plainD kv.2) (hl : kvs.length ≤ 1000) :
    lcLoop (gTp (gsCons (gNm 2) (gsCons (gNm 3) gsNil))) dYes (dSh (dAndV (dCall f_Stair_has_jump (dRCons (dRecv 0 ("has_jump" : Str) (dVar 0)) (dRCons (dVar 2) dRNil)) []) (dCall f_is_count (dRCons (dVar 3) dRNil) []))) [2, 3] (pairsD kvs) [] [some (.leaf (stairD h J)), some (.leaf (.dct kvs)), none, none, none] = some (kvs.map (fun kv => .bool (okKv J kv)), [some (.leaf (stairD h J)), some (.leaf (.dct kvs)), none, none, none]) := by
  refine lc_mapM (fun kv : D × D => .tup [kv.1, kv.2]) (fun kv => .bool (okKv J kv)) kvs (fun kv hkv => ?_) (by rw [sizeLine_eq]; omega)
  obtain ⟨k, v⟩ := kv
  obtain ⟨h1, h2⟩ := hk _ hkv
  have e1 := has_jump_ok h J hJ k h1
  have e2 := is_count_eq v h2
  have e3 := stair_no1 h J (.lst ((List.range (h + 1).toNat).map (nextR J)))
  unfold okKv
  cases c : inJ J k with
  | false =>
    rw [c] at e1
    unfold stairD at *
    wide_line with [e1, e3, Bool.false_and]
  | true =>
    rw [c] at e1
    unfold stairD at *
    wide_line with [e1, e2, e3, Bool.true_and]
theorem flow_bad (h : Int) (J : List (Int × Int)) (hJ : JOk h h (h + 1) 25 J) (kvs : List (D × D)) (hk : ∀ kv ∈ kvs, keyP kv.1 ∧ plainD kv.2) (hl : kvs.length ≤ 1000) (hb : kvs.all (okKv J) = false) :
    f_is_flow [.leaf (stairD h J), .leaf (.dct kvs)] = some (.leaf (.bool false), [.leaf (stairD h J), .leaf (.dct kvs)]) := by
  have e := flow_all h J hJ kvs hk hl
  have e2 := all_map (okKv J) kvs
  rw [hb] at e2
  wide_line with [f_is_flow, den_is_flow, den_is_flow_1, e, e2]
theorem flow_good (h : Int) (J : List (Int × Int)) (hh : 2 ≤ h ∧ h ≤ 5) (hJ : JOk h h (h + 1) 25 J) (qs : List ((Int × Int) × Int)) (hq : ∀ q ∈ qs, q.1 ∈ J ∧ 0 ≤ q.2) (hl : qs.length ≤ 1000) :
    f_is_flow [.leaf (stairD h J), .leaf (.dct (qs.map kvD))] = some (.leaf (.bool (bal h qs)), [.leaf (stairD h J), .leaf (.dct (qs.map kvD))]) := by
  have hk : ∀ kv ∈ qs.map kvD, keyP kv.1 ∧ plainD kv.2 := by
    intro kv hkv
    obtain ⟨q, _, e⟩ := List.mem_map.mp hkv
    subst e
    refine ⟨⟨rfl, fun ds e => ?_⟩, rfl⟩
    cases e
    refine ⟨(by decide : 2 ≤ 1000), fun x hx => ?_⟩
    rcases List.mem_cons.mp hx with e | hx
    · rw [e]; rfl
    · rcases List.mem_cons.mp hx with e | hx
      · rw [e]; rfl
      · cases hx
  have e := flow_all h J hJ (qs.map kvD) hk (by rw [List.length_map]; exact hl)
  have e2 := all_map (okKv J) (qs.map kvD)
  have hb : (qs.map kvD).all (okKv J) = true := by
    rw [List.all_eq_true]
    intro kv hkv
    obtain ⟨q, hm, e⟩ := List.mem_map.mp hkv
    subst e
    obtain ⟨h1, h2⟩ := hq q hm
    show (decide ((q.1.1, q.1.2) ∈ J) && decide (0 ≤ q.2)) = true
    rw [decide_eq_true h2, decide_eq_true (show (q.1.1, q.1.2) ∈ J from h1)]
    rfl
  rw [hb] at e2
  have hn : h - 1 + 1 = h := by omega
  have e3 := stair_no2 h J (.lst ((List.range (h + 1).toNat).map (nextR J)))
  have e4 := steps_ok h J
  have e5 := all_map (fun i : Nat => decide (sIn qs (1 + (i : Int)) = sOut qs (1 + (i : Int)))) (List.range (h - 1).toNat)
  have l : lcLoop (gNm 4) dYes (dSh (dBin (gEqv false) (dCall f_going_in (dRCons (dVar 1) (dRCons (dVar 4) dRNil)) []) (dCall f_going_out (dRCons (dVar 1) (dRCons (dVar 4) dRNil)) []))) [4] (rangeD 1 (h - 1).toNat) [] [some (.leaf (stairD h J)), some (.leaf (.dct (qs.map kvD))), none, none, none] = some ((List.range (h - 1).toNat).map (fun i : Nat => .bool (decide (sIn qs (1 + (i : Int)) = sOut qs (1 + (i : Int))))), [some (.leaf (stairD h J)), some (.leaf (.dct (qs.map kvD))), none, none, none]) := by
    refine lc_mapM (fun i : Nat => .int (1 + (i : Int))) _ _ (fun i hi => ?_) (by rw [sizeLine_eq, List.length_range]; omega)
    wide_line with [going_in_ok qs (1 + (i : Int)) hl, going_out_ok qs (1 + (i : Int)) hl]
  unfold stairD at *
  wide_line with [f_is_flow, den_is_flow, den_is_flow_1, den_is_flow_2, e, e2, e3, e4, hn, small_of (show (-1000 : Int) ≤ 1 ∧ (1 : Int) ≤ 1000 by omega), small_of (show -1000 ≤ h ∧ h ≤ 1000 by omega), Bool.and_self, l, e5, bal]
end K22
set_option Elab.async false
set_option linter.all false
set_option maxRecDepth 100000
set_option maxHeartbeats 0
namespace K22
open PySem PySem.Spec PyProof.Rows L2 Ws
local macro_rules
  | `(tactic| wide_line) => `(tactic| simp -dsimp -implicitDefEqProofs only [ev_dSh, ev_dVal, ev_dVar, ev_dC, ev_dBin, ev_dTest, ev_dAnd, ev_dOr, ev_dNot, ev_dOfT, ev_dOne, ev_dAndV, ev_dOrV, ev_dNotV, ev_dIf, ev_dChain, ev_dNil, ev_dCons, ev_dLst, ev_dTup, ev_dSeq, ev_dNext, ev_dBrk, ev_dCont, ev_dRet, ev_dRetN, ev_dDrop, ev_dIfS, ev_dNever, ev_dSet, ev_dRCons, ev_dRNil, ev_dCall, ev_dRecv, ev_gNm, ev_gsNil, ev_gsCons, ev_gTp, ev_dAsg, ev_dISeq, ev_dIRange1, ev_dIRange2, ev_dIRange3, ev_dIEnum, ev_dIZip, ev_dFor, ev_dLc, ev_dYes, ev_dIx, ev_dNoPart, ev_dPart, ev_dSlice, ev_dRev, ev_dAdd, ev_dMul, ev_dUn, ev_dAppend, ev_dExtend, ev_dPopAt, ev_dPop, ev_gIx, ev_dList, ev_dTuple, ev_dDivmod, ev_dXm, ev_dXf, ev_dIsX, ev_dPar, ev_dDict0, ev_dDict1, ev_dXr, ev_dXif, ev_dCallX, ev_dFld, ev_dCon, ev_dFldSet, ev_dMk, ev_dIxD, ev_gIxD, ev_dIKeys, ev_dIVals, ev_dIItems, ev_dDict, ev_dItL, ev_dItT, ev_dSorted, ev_dIZipN, ev_revR, ob_some, om_some, ob_none, om_none, b_some, m_some, ev_gSub, ev_gLt, ev_gLe, ev_gGt, ev_gGe, ev_gMax2, ev_gMin2, ev_gMod, ev_gDiv, ev_gMulI, ev_eqv, ev_sv_int, ev_sv_bool, ev_sv_none, ev_sv_str, ev_toDs, ev_flat, ev_leafApp, ev_leafLen, ev_flatNil, ev_flatCons, ev_dFn, ev_dOutV, ev_dOutS, ev_dOutN, ↓reduceIte, if_true, if_false, decide_true, decide_false, List.getElem?_cons_succ, List.getElem?_cons_zero, List.getElem?_nil, List.set_cons_succ, List.set_cons_zero, List.length_cons, List.length_nil, List.map_cons, List.map_nil, List.append_nil, List.nil_append, List.cons_append, List.nodup_cons, List.nodup_nil, List.mem_cons, List.not_mem_nil, or_false, or_true, false_or, true_or, not_true_eq_false, not_false_eq_true, and_true, true_and, and_false, false_and, List.take_succ_cons, List.take_zero, List.take_nil, List.replicate_succ, List.replicate_zero, sizeLine_eq, asBools, asInts, List.any_cons, List.any_nil, lcStep, forStep, Bool.not_true, Bool.not_false, ite_true, ite_false, Bool.false_eq_true, eq_self, leafsR, ldB, isNone, e_viewV, e_viewS, e_shV, e_shS, e_putV, e_putS, e_rvV, e_rvS, e_items, e_itLst, e_itTup, e_itOwn, e_itI, e_itB, e_itN, e_itStr, e_itScr, e_itDct, e_own, e_dctV, e_dctL, e_dctS, e_objV, e_objS, e_int1, e_int1b, e_abs, e_neg, e_lenL, e_lenT, e_lenS, e_all, e_any, e_sum, e_isB, e_isN, e_argN, e_argV, e_argS, e_slN, e_slV, e_slS, e_clN, e_clV, e_clS, e_pbN, e_pbV, e_pbS, e_lr0, e_lr1, e_wp0, e_wp1, e_re0, e_re1, e_slotS, e_slot0, e_as0, e_as1, e_addK, e_toDleaf, e_toDlst, e_toDdct, e_toDins, e_toDs0, e_toDs1, e_ownL, e_at0, e_at1, e_at2, e_atM1, e_cut1, e_whole1, ixN, Int.cast_ofNat_Int, Int.reduceLE, Int.reduceLT, Int.reduceNeg, Int.reduceAdd, Int.reduceSub, Int.reduceMul, Int.reduceToNat, Int.reduceEq, Int.reducePow, Nat.reducePow, Nat.reduceAdd, Nat.reduceSub, Nat.reduceMul, Nat.reduceLeDiff, Nat.reduceEqDiff, reduceCtorEq, Int.reduceNegSucc, Nat.zero_add, e_lv0, e_lv1, Nat.reduceLT, e_isi_int_0, e_isi_int_1, e_isi_int_2, e_isi_int_3, e_isi_int_4, e_isi_int_5, e_isi_int_6, e_isi_int_7, e_isi_bool_0, e_isi_bool_1, e_isi_bool_2, e_isi_bool_3, e_isi_bool_4, e_isi_bool_5, e_isi_bool_6, e_isi_bool_7, e_isi_str_0, e_isi_str_1, e_isi_str_2, e_isi_str_3, e_isi_str_4, e_isi_str_5, e_isi_str_6, e_isi_str_7, e_isi_tuple_0, e_isi_tuple_1, e_isi_tuple_2, e_isi_tuple_3, e_isi_tuple_4, e_isi_tuple_5, e_isi_tuple_6, e_isi_tuple_7, e_isi_list_0, e_isi_list_1, e_isi_list_2, e_isi_list_3, e_isi_list_4, e_isi_list_5, e_isi_list_6, e_isi_list_7, e_isi_dict_0, e_isi_dict_1, e_isi_dict_2, e_isi_dict_3, e_isi_dict_4, e_isi_dict_5, e_isi_dict_6, e_isi_dict_7, e_isi_list_tuple_0, e_isi_list_tuple_1, e_isi_list_tuple_2, e_isi_list_tuple_3, e_isi_list_tuple_4, e_isi_list_tuple_5, e_isi_list_tuple_6, e_isi_list_tuple_7, ev_dAddK, e_revT2, e_revT3, e_revF, ↓e_lastGet, e_dropLast, ne_eq])
  | `(tactic| wide_line with [$ls,*]) => `(tactic| simp -dsimp -implicitDefEqProofs only [$[$ls:term],*, ev_dSh, ev_dVal, ev_dVar, ev_dC, ev_dBin, ev_dTest, ev_dAnd, ev_dOr, ev_dNot, ev_dOfT, ev_dOne, ev_dAndV, ev_dOrV, ev_dNotV, ev_dIf, ev_dChain, ev_dNil, ev_dCons, ev_dLst, ev_dTup, ev_dSeq, ev_dNext, ev_dBrk, ev_dCont, ev_dRet, ev_dRetN, ev_dDrop, ev_dIfS, ev_dNever, ev_dSet, ev_dRCons, ev_dRNil, ev_dCall, ev_dRecv, ev_gNm, ev_gsNil, ev_gsCons, ev_gTp, ev_dAsg, ev_dISeq, ev_dIRange1, ev_dIRange2, ev_dIRange3, ev_dIEnum, ev_dIZip, ev_dFor, ev_dLc, ev_dYes, ev_dIx, ev_dNoPart, ev_dPart, ev_dSlice, ev_dRev, ev_dAdd, ev_dMul, ev_dUn, ev_dAppend, ev_dExtend, ev_dPopAt, ev_dPop, ev_gIx, ev_dList, ev_dTuple, ev_dDivmod, ev_dXm, ev_dXf, ev_dIsX, ev_dPar, ev_dDict0, ev_dDict1, ev_dXr, ev_dXif, ev_dCallX, ev_dFld, ev_dCon, ev_dFldSet, ev_dMk, ev_dIxD, ev_gIxD, ev_dIKeys, ev_dIVals, ev_dIItems, ev_dDict, ev_dItL, ev_dItT, ev_dSorted, ev_dIZipN, ev_revR, ob_some, om_some, ob_none, om_none, b_some, m_some, ev_gSub, ev_gLt, ev_gLe, ev_gGt, ev_gGe, ev_gMax2, ev_gMin2, ev_gMod, ev_gDiv, ev_gMulI, ev_eqv, ev_sv_int, ev_sv_bool, ev_sv_none, ev_sv_str, ev_toDs, ev_flat, ev_leafApp, ev_leafLen, ev_flatNil, ev_flatCons, ev_dFn, ev_dOutV, ev_dOutS, ev_dOutN, ↓reduceIte, if_true, if_false, decide_true, decide_false, List.getElem?_cons_succ, List.getElem?_cons_zero, List.getElem?_nil, List.set_cons_succ, List.set_cons_zero, List.length_cons, List.length_nil, List.map_cons, List.map_nil, List.append_nil, List.nil_append, List.cons_append, List.nodup_cons, List.nodup_nil, List.mem_cons, List.not_mem_nil, or_false, or_true, false_or, true_or, not_true_eq_false, not_false_eq_true, and_true, true_and, and_false, false_and, List.take_succ_cons, List.take_zero, List.take_nil, List.replicate_succ, List.replicate_zero, sizeLine_eq, asBools, asInts, List.any_cons, List.any_nil, lcStep, forStep, Bool.not_true, Bool.not_false, ite_true, ite_false, Bool.false_eq_true, eq_self, leafsR, ldB, isNone, e_viewV, e_viewS, e_shV, e_shS, e_putV, e_putS, e_rvV, e_rvS, e_items, e_itLst, e_itTup, e_itOwn, e_itI, e_itB, e_itN, e_itStr, e_itScr, e_itDct, e_own, e_dctV, e_dctL, e_dctS, e_objV, e_objS, e_int1, e_int1b, e_abs, e_neg, e_lenL, e_lenT, e_lenS, e_all, e_any, e_sum, e_isB, e_isN, e_argN, e_argV, e_argS, e_slN, e_slV, e_slS, e_clN, e_clV, e_clS, e_pbN, e_pbV, e_pbS, e_lr0, e_lr1, e_wp0, e_wp1, e_re0, e_re1, e_slotS, e_slot0, e_as0, e_as1, e_addK, e_toDleaf, e_toDlst, e_toDdct, e_toDins, e_toDs0, e_toDs1, e_ownL, e_at0, e_at1, e_at2, e_atM1, e_cut1, e_whole1, ixN, Int.cast_ofNat_Int, Int.reduceLE, Int.reduceLT, Int.reduceNeg, Int.reduceAdd, Int.reduceSub, Int.reduceMul, Int.reduceToNat, Int.reduceEq, Int.reducePow, Nat.reducePow, Nat.reduceAdd, Nat.reduceSub, Nat.reduceMul, Nat.reduceLeDiff, Nat.reduceEqDiff, reduceCtorEq, Int.reduceNegSucc, Nat.zero_add, e_lv0, e_lv1, Nat.reduceLT, e_isi_int_0, e_isi_int_1, e_isi_int_2, e_isi_int_3, e_isi_int_4, e_isi_int_5, e_isi_int_6, e_isi_int_7, e_isi_bool_0, e_isi_bool_1, e_isi_bool_2, e_isi_bool_3, e_isi_bool_4, e_isi_bool_5, e_isi_bool_6, e_isi_bool_7, e_isi_str_0, e_isi_str_1, e_isi_str_2, e_isi_str_3, e_isi_str_4, e_isi_str_5, e_isi_str_6, e_isi_str_7, e_isi_tuple_0, e_isi_tuple_1, e_isi_tuple_2, e_isi_tuple_3, e_isi_tuple_4, e_isi_tuple_5, e_isi_tuple_6, e_isi_tuple_7, e_isi_list_0, e_isi_list_1, e_isi_list_2, e_isi_list_3, e_isi_list_4, e_isi_list_5, e_isi_list_6, e_isi_list_7, e_isi_dict_0, e_isi_dict_1, e_isi_dict_2, e_isi_dict_3, e_isi_dict_4, e_isi_dict_5, e_isi_dict_6, e_isi_dict_7, e_isi_list_tuple_0, e_isi_list_tuple_1, e_isi_list_tuple_2, e_isi_list_tuple_3, e_isi_list_tuple_4, e_isi_list_tuple_5, e_isi_list_tuple_6, e_isi_list_tuple_7, ev_dAddK, e_revT2, e_revT3, e_revF, ↓e_lastGet, e_dropLast, ne_eq])
/-! ### is_flow, the law's -/
def allP : List (Int × Int) := [(0, 1), (0, 2), (0, 3), (0, 4), (0, 5), (1, 2), (1, 3), (1, 4), (1, 5), (2, 3), (2, 4), (2, 5), (3, 4), (3, 5), (4, 5), (0, 6), (1, 0), (0, 0)]
def odd8 : List D := [.str "feet", .int 1, .none, .tup [], .tup [.int 0], .tup [.int 0, .int 1, .int 2], .tup [.bool false, .bool true], .str "(0, 1)"]
def rp (p : Int × Int) : Str := match gRepr (jD p) with
  | some (.str s) => s
  | _ => ""
def rpB (p : Int × Int) : Bool := match gRepr (jD p) with
  | some (.str s) => PyData.strOk s && decide (s = rp p)
  | _ => false
theorem rpB_all : allP.all rpB = true := by decide +kernel
theorem rp_inj_all : (allP.all fun p => allP.all fun q => decide (rp p = rp q) == decide (p = q)) = true := by decide +kernel
def oddB (k : D) : Bool := match gRepr k with
  | some (.str s) => PyData.strOk s && allP.all fun p => !decide (s = rp p)
  | _ => false
theorem odd_all : odd8.all oddB = true := by decide +kernel
theorem rp_ok {p : Int × Int} (h : p ∈ allP) : gRepr (jD p) = some (.str (rp p)) ∧ PyData.strOk (rp p) = true := by
  have := List.all_eq_true.mp rpB_all p h
  unfold rpB at this
  split at this
  · rename_i s e
    obtain ⟨h1, h2⟩ := Bool.and_eq_true_iff.mp this
    have h3 := of_decide_eq_true h2
    rw [← h3]
    exact ⟨e, h1⟩
  · cases this
theorem rp_inj {p q : Int × Int} (hp : p ∈ allP) (hq : q ∈ allP) (e : rp p = rp q) : p = q := by
  have := List.all_eq_true.mp (List.all_eq_true.mp rp_inj_all p hp) q hq
  rw [decide_eq_true e] at this
  simpa using this
theorem JOk.sub {h i j : Int} {n : Nat} {J : List (Int × Int)} (k : JOk h i j n J) (hh : h ≤ 5) : ∀ p ∈ J, p ∈ allP := by
  intro p hp
  obtain ⟨h1, h2, h3⟩ := k.rt p hp
  obtain ⟨a, b⟩ := p
  simp only at h1 h2 h3
  have ha : a = 0 ∨ a = 1 ∨ a = 2 ∨ a = 3 ∨ a = 4 := by omega
  have hb : b = 1 ∨ b = 2 ∨ b = 3 ∨ b = 4 ∨ b = 5 := by omega
  rcases ha with e | e | e | e | e <;> rcases hb with e' | e' | e' | e' | e' <;> subst e <;> subst e' <;> first | (exfalso; omega) | decide
/-- keys that occur -/
def KeyL (k : D) : Prop := (∃ p ∈ allP, k = jD p) ∨ k ∈ odd8
theorem key_repr {h : Int} {J : List (Int × Int)} (hJ : ∀ p ∈ J, p ∈ allP) {k : D} (hk : KeyL k) : ∃ s, gRepr k = some (.str s) ∧ PyData.strOk s = true ∧ decide (s ∈ J.map rp) = inJ J k := by
  rcases hk with ⟨p, hp, e⟩ | hk
  · subst e
    obtain ⟨h1, h2⟩ := rp_ok hp
    refine ⟨rp p, h1, h2, ?_⟩
    show _ = decide ((p.1, p.2) ∈ J)
    rw [decide_eq_decide]
    constructor
    · intro hm
      obtain ⟨q, hq, e⟩ := List.mem_map.mp hm
      exact rp_inj (hJ q hq) hp e ▸ hq
    · exact fun hm => List.mem_map_of_mem (f := rp) hm
  · have b := List.all_eq_true.mp odd_all k hk
    unfold oddB at b
    split at b
    · rename_i s e
      obtain ⟨h1, h2⟩ := Bool.and_eq_true_iff.mp b
      refine ⟨s, e, h1, ?_⟩
      have hno : s ∉ J.map rp := by
        intro hm
        obtain ⟨q, hq, e⟩ := List.mem_map.mp hm
        have := List.all_eq_true.mp h2 q (hJ q hq)
        rw [e] at this
        simp at this
      rw [decide_eq_false hno]
      simp only [odd8, List.mem_cons, List.not_mem_nil, or_false] at hk
      rcases hk with e | e | e | e | e | e | e | e <;> subst e <;> rfl
    · cases b
theorem keyP_L {k : D} (hk : KeyL k) : keyP k := by
  rcases hk with ⟨p, hp, e⟩ | hk
  · subst e
    refine ⟨rfl, fun ds e => ?_⟩
    cases e
    refine ⟨(by decide : 2 ≤ 1000), fun x hx => ?_⟩
    rcases List.mem_cons.mp hx with e | hx
    · rw [e]; rfl
    · rcases List.mem_cons.mp hx with e | hx
      · rw [e]; rfl
      · cases hx
  · simp only [odd8, List.mem_cons, List.not_mem_nil, or_false] at hk
    rcases hk with e | e | e | e | e | e | e | e <;> subst e <;> refine ⟨rfl, fun ds e => ?_⟩ <;> cases e <;> refine ⟨by decide, fun x hx => ?_⟩ <;> simp only [List.mem_cons, List.not_mem_nil, or_false] at hx
    · rw [hx]; rfl
    · rcases hx with e | e | e <;> subst e <;> rfl
    · rcases hx with e | e <;> subst e <;> rfl
abbrev lE (h : Int) (J : List (Int × Int)) (t : D) (a b c : Option W) : Ws.Env := [some (.leaf (.int h)), some (.leaf (.lst (J.map jD))), some (.leaf t), a, b, c, none, none]
theorem law_no (h : Int) (J : List (Int × Int)) (d : D) (hd : plainD d) (hn : ∀ kvs, d ≠ .dct kvs) : f__law_is_flow [.leaf (.int h), .leaf (.lst (J.map jD)), .leaf d] = some (.leaf (.bool false), [.leaf (.int h), .leaf (.lst (J.map jD)), .leaf d]) := by
  cases d with
  | obj _ _ => cases hd
  | exc _ _ => cases hd
  | dct kvs => exact absurd rfl (hn kvs)
  | _ => wide_line with [f__law_is_flow, den__law_is_flow]
theorem law_marks (h : Int) (J : List (Int × Int)) (t : D) (hs : ∀ p ∈ J, p ∈ allP) (hl : J.length ≤ 25) : lcLoop (gNm 6) dYes (dSh (dUn gRepr (dVar 6))) [6] (J.map jD) [] (lE h J t none none none) = some (J.map (fun p => .str (rp p)), lE h J t none none none) := by
  refine lc_mapM jD _ J (fun p hp => ?_) (by rw [sizeLine_eq]; omega)
  wide_line with [(rp_ok (hs p hp)).1, lE]
abbrev mk (J : List (Int × Int)) : Option W := some (.lst (leaves (J.map fun p => .str (rp p))))
theorem law_keys (h : Int) (J : List (Int × Int)) (kvs : List (D × D)) (hs : ∀ p ∈ J, p ∈ allP) (hk : ∀ kv ∈ kvs, KeyL kv.1) (hl : kvs.length ≤ 1000) : lcLoop (gNm 6) dYes (dSh (dBin (gInL false) (dUn gRepr (dVar 6)) (dVar 3))) [6] (kvs.map (·.1)) [] (lE h J (.dct kvs) (mk J) none none) = some (kvs.map (fun kv => .bool (inJ J kv.1)), lE h J (.dct kvs) (mk J) none none) := by
  refine lc_mapM (fun kv : D × D => kv.1) _ kvs (fun kv hkv => ?_) (by rw [sizeLine_eq]; omega)
  obtain ⟨s, h1, h2, h3⟩ := key_repr (h := h) hs (hk kv hkv)
  have e : gInL false (.str s) (.lst (J.map fun p => .str (rp p))) = some (.bool (inJ J kv.1)) := by
    have := in_strs false s (J.map rp) h2 (by
      intro x hx
      obtain ⟨q, hq, e⟩ := List.mem_map.mp hx
      exact e ▸ (rp_ok (hs q hq)).2)
    rw [List.map_map, h3] at this
    exact this
  wide_line with [h1, e, lE, mk]
theorem law_vals (h : Int) (J : List (Int × Int)) (kvs : List (D × D)) (hk : ∀ kv ∈ kvs, plainD kv.2) (hl : kvs.length ≤ 1000) : lcLoop (gNm 7) dYes (dSh (dCall f__law_is_whole (dRCons (dVar 7) dRNil) [])) [7] (kvs.map (·.2)) [] (lE h J (.dct kvs) (mk J) none none) = some (kvs.map (fun kv => .bool (isCnt kv.2)), lE h J (.dct kvs) (mk J) none none) := by
  refine lc_mapM (fun kv : D × D => kv.2) _ kvs (fun kv hkv => ?_) (by rw [sizeLine_eq]; omega)
  wide_line with [is_whole_eq kv.2 (hk kv hkv), lE, mk]
theorem law_bad (h : Int) (J : List (Int × Int)) (hs : ∀ p ∈ J, p ∈ allP) (hJl : J.length ≤ 25) (kvs : List (D × D)) (hk : ∀ kv ∈ kvs, KeyL kv.1 ∧ plainD kv.2) (hl : kvs.length ≤ 1000) (hb : kvs.all (okKv J) = false) :
    f__law_is_flow [.leaf (.int h), .leaf (.lst (J.map jD)), .leaf (.dct kvs)] = some (.leaf (.bool false), [.leaf (.int h), .leaf (.lst (J.map jD)), .leaf (.dct kvs)]) := by
  have e1 := law_marks h J (.dct kvs) hs hJl
  have e2 := law_keys h J kvs hs (fun kv q => (hk kv q).1) hl
  have e3 := law_vals h J kvs (fun kv q => (hk kv q).2) hl
  have e4 := all_map (fun kv => inJ J kv.1) kvs
  have e5 := all_map (fun kv => isCnt kv.2) kvs
  cases c : kvs.all (fun kv => inJ J kv.1) with
  | false =>
    rw [c] at e4
    wide_line with [f__law_is_flow, den__law_is_flow, den__law_is_flow_1, den__law_is_flow_2, e1, e2, e4]
  | true =>
    rw [c] at e4
    have c2 : kvs.all (fun kv => isCnt kv.2) = false := by
      cases c3 : kvs.all (fun kv => isCnt kv.2) with
      | false => rfl
      | true =>
        rw [List.all_eq_true] at c c3
        have : kvs.all (okKv J) = true := by
          rw [List.all_eq_true]
          intro kv q
          unfold okKv
          rw [c kv q, c3 kv q]
          rfl
        rw [hb] at this
        cases this
    rw [c2] at e5
    wide_line with [f__law_is_flow, den__law_is_flow, den__law_is_flow_1, den__law_is_flow_2, den__law_is_flow_3, e1, e2, e3, e4, e5]
def kN (p : Int × Int) : NestedKey := .tup [.num p.1, .num p.2]
theorem toKey_jD (p : Int × Int) : toKey (jD p) = some (kN p) := rfl
theorem kN_inj {p q : Int × Int} (h : kN p = kN q) : p = q := by
  unfold kN at h
  simp only [NestedKey.tup.injEq, List.cons.injEq, NestedKey.num.injEq, and_true] at h
  exact Prod.ext h.1 h.2
theorem kN_depth (p : Int × Int) : (kN p).depth ≤ 8 := by
  exact (by decide : 1 ≤ 8)
theorem get_kv {qs : List ((Int × Int) × Int)} (hn : (qs.map (·.1)).Nodup) {q : (Int × Int) × Int} (hq : q ∈ qs) : getDct (qs.map kvD) (kN q.1) = some (.int q.2) := by
  refine getDct_at kvD (fun q => kN q.1) qs (fun a ha => toKey_jD a.1) ?_ hq
  rw [show (qs.map fun q => kN q.1) = (qs.map (·.1)).map kN by rw [List.map_map]; rfl]
  exact List.Pairwise.map kN (fun a b hab e => hab (kN_inj e)) hn
theorem law_sumIn (h : Int) (J : List (Int × Int)) (qs : List ((Int × Int) × Int)) (hn : (qs.map (·.1)).Nodup) (hl : qs.length ≤ 1000) (s : Int) (c : Option W) :
    lcLoop (gNm 6) (dTest (dBin (gEqv false) (dIx (dVar 6) (dC (.int 1))) (dVar 4))) (dSh (dIxD (dVar 2) (dVar 6))) [6] (qs.map fun q => jD q.1) [] (lE h J (.dct (qs.map kvD)) (mk J) (some (.leaf (.int s))) c) = some ([] ++ qs.filterMap (fun q => (gIn s q).map D.int), lE h J (.dct (qs.map kvD)) (mk J) (some (.leaf (.int s))) c) := by
  refine lc_pureM _ _ qs [] (fun q hq => ?_) (by rw [sizeLine_eq]; simp; omega)
  obtain ⟨⟨a, b⟩, v⟩ := q
  have g : getDct (qs.map kvD) (kN (a, b)) = some (.int v) := get_kv hn hq
  have k : toKey (.tup [.int a, .int b]) = some (kN (a, b)) := rfl
  have d := kN_depth (a, b)
  by_cases cc : b = s
  · subst cc
    wide_line with [jD, gIn, Option.map_some, k, d, g, lE, mk]
  · wide_line with [jD, cc, gIn, Option.map_none, lE, mk]
theorem law_sumOut (h : Int) (J : List (Int × Int)) (qs : List ((Int × Int) × Int)) (hn : (qs.map (·.1)).Nodup) (hl : qs.length ≤ 1000) (s : Int) (c : Option W) :
    lcLoop (gNm 6) (dTest (dBin (gEqv false) (dIx (dVar 6) (dC (.int 0))) (dVar 4))) (dSh (dIxD (dVar 2) (dVar 6))) [6] (qs.map fun q => jD q.1) [] (lE h J (.dct (qs.map kvD)) (mk J) (some (.leaf (.int s))) c) = some ([] ++ qs.filterMap (fun q => (gOut s q).map D.int), lE h J (.dct (qs.map kvD)) (mk J) (some (.leaf (.int s))) c) := by
  refine lc_pureM _ _ qs [] (fun q hq => ?_) (by rw [sizeLine_eq]; simp; omega)
  obtain ⟨⟨a, b⟩, v⟩ := q
  have g : getDct (qs.map kvD) (kN (a, b)) = some (.int v) := get_kv hn hq
  have k : toKey (.tup [.int a, .int b]) = some (kN (a, b)) := rfl
  have d := kN_depth (a, b)
  by_cases cc : a = s
  · subst cc
    wide_line with [jD, gOut, Option.map_some, k, d, g, lE, mk]
  · wide_line with [jD, cc, gOut, Option.map_none, lE, mk]
theorem law_good (h : Int) (J : List (Int × Int)) (hh : 2 ≤ h ∧ h ≤ 5) (hs : ∀ p ∈ J, p ∈ allP) (hJl : J.length ≤ 25) (qs : List ((Int × Int) × Int)) (hn : (qs.map (·.1)).Nodup) (hq : ∀ q ∈ qs, q.1 ∈ J ∧ 0 ≤ q.2) (hl : qs.length ≤ 1000) :
    f__law_is_flow [.leaf (.int h), .leaf (.lst (J.map jD)), .leaf (.dct (qs.map kvD))] = some (.leaf (.bool (bal h qs)), [.leaf (.int h), .leaf (.lst (J.map jD)), .leaf (.dct (qs.map kvD))]) := by
  have hk : ∀ kv ∈ qs.map kvD, KeyL kv.1 ∧ plainD kv.2 := by
    intro kv hkv
    obtain ⟨q, hm, e⟩ := List.mem_map.mp hkv
    subst e
    exact ⟨.inl ⟨q.1, hs _ (hq q hm).1, rfl⟩, rfl⟩
  have e1 := law_marks h J (.dct (qs.map kvD)) hs hJl
  have e2 := law_keys h J (qs.map kvD) hs (fun kv q => (hk kv q).1) (by rw [List.length_map]; exact hl)
  have e3 := law_vals h J (qs.map kvD) (fun kv q => (hk kv q).2) (by rw [List.length_map]; exact hl)
  have e4 := all_map (fun kv => inJ J kv.1) (qs.map kvD)
  have e5 := all_map (fun kv => isCnt kv.2) (qs.map kvD)
  have c1 : (qs.map kvD).all (fun kv => inJ J kv.1) = true := by
    rw [List.all_eq_true]
    intro kv hkv
    obtain ⟨q, hm, e⟩ := List.mem_map.mp hkv
    subst e
    exact decide_eq_true (hq q hm).1
  have c2 : (qs.map kvD).all (fun kv => isCnt kv.2) = true := by
    rw [List.all_eq_true]
    intro kv hkv
    obtain ⟨q, hm, e⟩ := List.mem_map.mp hkv
    subst e
    exact decide_eq_true (hq q hm).2
  rw [c1] at e4
  rw [c2] at e5
  have ek : (qs.map kvD).map (·.1) = qs.map fun q => jD q.1 := by rw [List.map_map]; rfl
  obtain ⟨ρ', ⟨a, b, e7⟩, e6⟩ := for_all (g := gNm 4) (body := dSeq (dSet 5 (dUn gSum (dLc (dIKeys (dVar 2)) (gNm 6) (dTest (dBin (gEqv false) (dIx (dVar 6) (dC (.int 1))) (dVar 4))) (dSh (dIxD (dVar 2) (dVar 6))) [6])))
    (dIfS (dTest (dBin (gEqv true) (dVar 5) (dUn gSum (dLc (dIKeys (dVar 2)) (gNm 6) (dTest (dBin (gEqv false) (dIx (dVar 6) (dC (.int 0))) (dVar 4))) (dSh (dIxD (dVar 2) (dVar 6))) [6])))) (dRet (dC (.bool false))) dNext))
    (fun i : Nat => .int (1 + (i : Int))) (fun i : Nat => decide (sIn qs (1 + (i : Int)) = sOut qs (1 + (i : Int)))) (.val (.leaf (.bool false))) (fun ρ => ∃ a b, ρ = lE h J (.dct (qs.map kvD)) (mk J) a b) (List.range (h - 1).toNat) (fun i hi ρ ⟨a, b, e⟩ => by
      subst e
      refine ⟨_, ⟨some (.leaf (.int (1 + (i : Int)))), some (.leaf (.int (sIn qs (1 + (i : Int))))), rfl⟩, ?_⟩
      have q1 := law_sumIn h J qs hn hl (1 + (i : Int)) b
      have q2 := fun c => law_sumOut h J qs hn hl (1 + (i : Int)) c
      by_cases cc : sIn qs (1 + (i : Int)) = sOut qs (1 + (i : Int))
      · have cc' := cc
        unfold sIn sOut at cc'
        wide_line with [q1, q2, ek, asInts_fm, sIn, sOut, cc', lE, mk]
      · have cc' := cc
        unfold sIn sOut at cc'
        wide_line with [q1, q2, ek, asInts_fm, sIn, sOut, cc', lE, mk]) (lE h J (.dct (qs.map kvD)) (mk J) none none) ⟨none, none, rfl⟩
  have e6' : forLoop (gNm 4) (dSeq (dSet 5 (dUn gSum (dLc (dIKeys (dVar 2)) (gNm 6) (dTest (dBin (gEqv false) (dIx (dVar 6) (dC (.int 1))) (dVar 4))) (dSh (dIxD (dVar 2) (dVar 6))) [6])))
    (dIfS (dTest (dBin (gEqv true) (dVar 5) (dUn gSum (dLc (dIKeys (dVar 2)) (gNm 6) (dTest (dBin (gEqv false) (dIx (dVar 6) (dC (.int 0))) (dVar 4))) (dSh (dIxD (dVar 2) (dVar 6))) [6])))) (dRet (dC (.bool false))) dNext)) (rangeD 1 (h - 1).toNat) (lE h J (.dct (qs.map kvD)) (mk J) none none) = some (if bal h qs = true then .next else .ret (.val (.leaf (.bool false))), lE h J (.dct (qs.map kvD)) (mk J) a b) := e6.trans (by rw [e7]; rfl)
  cases cb : bal h qs with
  | true =>
    rw [cb] at e6'
    wide_line with [f__law_is_flow, den__law_is_flow, den__law_is_flow_1, den__law_is_flow_2, den__law_is_flow_3, den__law_is_flow_4, den__law_is_flow_5, e1, e2, e3, e4, e5, e6', small_of (show (-1000 : Int) ≤ 1 ∧ (1 : Int) ≤ 1000 by omega), small_of (show -1000 ≤ h ∧ h ≤ 1000 by omega), Bool.and_self]
  | false =>
    rw [cb] at e6'
    wide_line with [f__law_is_flow, den__law_is_flow, den__law_is_flow_1, den__law_is_flow_2, den__law_is_flow_3, den__law_is_flow_4, den__law_is_flow_5, e1, e2, e3, e4, e5, e6', small_of (show (-1000 : Int) ≤ 1 ∧ (1 : Int) ≤ 1000 by omega), small_of (show -1000 ≤ h ∧ h ≤ 1000 by omega), Bool.and_self]
end K22
set_option Elab.async false
set_option linter.all false
set_option maxRecDepth 100000
set_option maxHeartbeats 0
namespace K22
open PySem PySem.Spec PyProof.Rows L2 Ws
local macro_rules
  | `(tactic| wide_line) => `(tactic| simp -dsimp -implicitDefEqProofs only [ev_dSh, ev_dVal, ev_dVar, ev_dC, ev_dBin, ev_dTest, ev_dAnd, ev_dOr, ev_dNot, ev_dOfT, ev_dOne, ev_dAndV, ev_dOrV, ev_dNotV, ev_dIf, ev_dChain, ev_dNil, ev_dCons, ev_dLst, ev_dTup, ev_dSeq, ev_dNext, ev_dBrk, ev_dCont, ev_dRet, ev_dRetN, ev_dDrop, ev_dIfS, ev_dNever, ev_dSet, ev_dRCons, ev_dRNil, ev_dCall, ev_dRecv, ev_gNm, ev_gsNil, ev_gsCons, ev_gTp, ev_dAsg, ev_dISeq, ev_dIRange1, ev_dIRange2, ev_dIRange3, ev_dIEnum, ev_dIZip, ev_dFor, ev_dLc, ev_dYes, ev_dIx, ev_dNoPart, ev_dPart, ev_dSlice, ev_dRev, ev_dAdd, ev_dMul, ev_dUn, ev_dAppend, ev_dExtend, ev_dPopAt, ev_dPop, ev_gIx, ev_dList, ev_dTuple, ev_dDivmod, ev_dXm, ev_dXf, ev_dIsX, ev_dPar, ev_dDict0, ev_dDict1, ev_dXr, ev_dXif, ev_dCallX, ev_dFld, ev_dCon, ev_dFldSet, ev_dMk, ev_dIxD, ev_gIxD, ev_dIKeys, ev_dIVals, ev_dIItems, ev_dDict, ev_dItL, ev_dItT, ev_dSorted, ev_dIZipN, ev_revR, ob_some, om_some, ob_none, om_none, b_some, m_some, ev_gSub, ev_gLt, ev_gLe, ev_gGt, ev_gGe, ev_gMax2, ev_gMin2, ev_gMod, ev_gDiv, ev_gMulI, ev_eqv, ev_sv_int, ev_sv_bool, ev_sv_none, ev_sv_str, ev_toDs, ev_flat, ev_leafApp, ev_leafLen, ev_flatNil, ev_flatCons, ev_dFn, ev_dOutV, ev_dOutS, ev_dOutN, ↓reduceIte, if_true, if_false, decide_true, decide_false, List.getElem?_cons_succ, List.getElem?_cons_zero, List.getElem?_nil, List.set_cons_succ, List.set_cons_zero, List.length_cons, List.length_nil, List.map_cons, List.map_nil, List.append_nil, List.nil_append, List.cons_append, List.nodup_cons, List.nodup_nil, List.mem_cons, List.not_mem_nil, or_false, or_true, false_or, true_or, not_true_eq_false, not_false_eq_true, and_true, true_and, and_false, false_and, List.take_succ_cons, List.take_zero, List.take_nil, List.replicate_succ, List.replicate_zero, sizeLine_eq, asBools, asInts, List.any_cons, List.any_nil, lcStep, forStep, Bool.not_true, Bool.not_false, ite_true, ite_false, Bool.false_eq_true, eq_self, leafsR, ldB, isNone, e_viewV, e_viewS, e_shV, e_shS, e_putV, e_putS, e_rvV, e_rvS, e_items, e_itLst, e_itTup, e_itOwn, e_itI, e_itB, e_itN, e_itStr, e_itScr, e_itDct, e_own, e_dctV, e_dctL, e_dctS, e_objV, e_objS, e_int1, e_int1b, e_abs, e_neg, e_lenL, e_lenT, e_lenS, e_all, e_any, e_sum, e_isB, e_isN, e_argN, e_argV, e_argS, e_slN, e_slV, e_slS, e_clN, e_clV, e_clS, e_pbN, e_pbV, e_pbS, e_lr0, e_lr1, e_wp0, e_wp1, e_re0, e_re1, e_slotS, e_slot0, e_as0, e_as1, e_addK, e_toDleaf, e_toDlst, e_toDdct, e_toDins, e_toDs0, e_toDs1, e_ownL, e_at0, e_at1, e_at2, e_atM1, e_cut1, e_whole1, ixN, Int.cast_ofNat_Int, Int.reduceLE, Int.reduceLT, Int.reduceNeg, Int.reduceAdd, Int.reduceSub, Int.reduceMul, Int.reduceToNat, Int.reduceEq, Int.reducePow, Nat.reducePow, Nat.reduceAdd, Nat.reduceSub, Nat.reduceMul, Nat.reduceLeDiff, Nat.reduceEqDiff, reduceCtorEq, Int.reduceNegSucc, Nat.zero_add, e_lv0, e_lv1, Nat.reduceLT, e_isi_int_0, e_isi_int_1, e_isi_int_2, e_isi_int_3, e_isi_int_4, e_isi_int_5, e_isi_int_6, e_isi_int_7, e_isi_bool_0, e_isi_bool_1, e_isi_bool_2, e_isi_bool_3, e_isi_bool_4, e_isi_bool_5, e_isi_bool_6, e_isi_bool_7, e_isi_str_0, e_isi_str_1, e_isi_str_2, e_isi_str_3, e_isi_str_4, e_isi_str_5, e_isi_str_6, e_isi_str_7, e_isi_tuple_0, e_isi_tuple_1, e_isi_tuple_2, e_isi_tuple_3, e_isi_tuple_4, e_isi_tuple_5, e_isi_tuple_6, e_isi_tuple_7, e_isi_list_0, e_isi_list_1, e_isi_list_2, e_isi_list_3, e_isi_list_4, e_isi_list_5, e_isi_list_6, e_isi_list_7, e_isi_dict_0, e_isi_dict_1, e_isi_dict_2, e_isi_dict_3, e_isi_dict_4, e_isi_dict_5, e_isi_dict_6, e_isi_dict_7, e_isi_list_tuple_0, e_isi_list_tuple_1, e_isi_list_tuple_2, e_isi_list_tuple_3, e_isi_list_tuple_4, e_isi_list_tuple_5, e_isi_list_tuple_6, e_isi_list_tuple_7, ev_dAddK, e_revT2, e_revT3, e_revF, ↓e_lastGet, e_dropLast, ne_eq])
  | `(tactic| wide_line with [$ls,*]) => `(tactic| simp -dsimp -implicitDefEqProofs only [$[$ls:term],*, ev_dSh, ev_dVal, ev_dVar, ev_dC, ev_dBin, ev_dTest, ev_dAnd, ev_dOr, ev_dNot, ev_dOfT, ev_dOne, ev_dAndV, ev_dOrV, ev_dNotV, ev_dIf, ev_dChain, ev_dNil, ev_dCons, ev_dLst, ev_dTup, ev_dSeq, ev_dNext, ev_dBrk, ev_dCont, ev_dRet, ev_dRetN, ev_dDrop, ev_dIfS, ev_dNever, ev_dSet, ev_dRCons, ev_dRNil, ev_dCall, ev_dRecv, ev_gNm, ev_gsNil, ev_gsCons, ev_gTp, ev_dAsg, ev_dISeq, ev_dIRange1, ev_dIRange2, ev_dIRange3, ev_dIEnum, ev_dIZip, ev_dFor, ev_dLc, ev_dYes, ev_dIx, ev_dNoPart, ev_dPart, ev_dSlice, ev_dRev, ev_dAdd, ev_dMul, ev_dUn, ev_dAppend, ev_dExtend, ev_dPopAt, ev_dPop, ev_gIx, ev_dList, ev_dTuple, ev_dDivmod, ev_dXm, ev_dXf, ev_dIsX, ev_dPar, ev_dDict0, ev_dDict1, ev_dXr, ev_dXif, ev_dCallX, ev_dFld, ev_dCon, ev_dFldSet, ev_dMk, ev_dIxD, ev_gIxD, ev_dIKeys, ev_dIVals, ev_dIItems, ev_dDict, ev_dItL, ev_dItT, ev_dSorted, ev_dIZipN, ev_revR, ob_some, om_some, ob_none, om_none, b_some, m_some, ev_gSub, ev_gLt, ev_gLe, ev_gGt, ev_gGe, ev_gMax2, ev_gMin2, ev_gMod, ev_gDiv, ev_gMulI, ev_eqv, ev_sv_int, ev_sv_bool, ev_sv_none, ev_sv_str, ev_toDs, ev_flat, ev_leafApp, ev_leafLen, ev_flatNil, ev_flatCons, ev_dFn, ev_dOutV, ev_dOutS, ev_dOutN, ↓reduceIte, if_true, if_false, decide_true, decide_false, List.getElem?_cons_succ, List.getElem?_cons_zero, List.getElem?_nil, List.set_cons_succ, List.set_cons_zero, List.length_cons, List.length_nil, List.map_cons, List.map_nil, List.append_nil, List.nil_append, List.cons_append, List.nodup_cons, List.nodup_nil, List.mem_cons, List.not_mem_nil, or_false, or_true, false_or, true_or, not_true_eq_false, not_false_eq_true, and_true, true_and, and_false, false_and, List.take_succ_cons, List.take_zero, List.take_nil, List.replicate_succ, List.replicate_zero, sizeLine_eq, asBools, asInts, List.any_cons, List.any_nil, lcStep, forStep, Bool.not_true, Bool.not_false, ite_true, ite_false, Bool.false_eq_true, eq_self, leafsR, ldB, isNone, e_viewV, e_viewS, e_shV, e_shS, e_putV, e_putS, e_rvV, e_rvS, e_items, e_itLst, e_itTup, e_itOwn, e_itI, e_itB, e_itN, e_itStr, e_itScr, e_itDct, e_own, e_dctV, e_dctL, e_dctS, e_objV, e_objS, e_int1, e_int1b, e_abs, e_neg, e_lenL, e_lenT, e_lenS, e_all, e_any, e_sum, e_isB, e_isN, e_argN, e_argV, e_argS, e_slN, e_slV, e_slS, e_clN, e_clV, e_clS, e_pbN, e_pbV, e_pbS, e_lr0, e_lr1, e_wp0, e_wp1, e_re0, e_re1, e_slotS, e_slot0, e_as0, e_as1, e_addK, e_toDleaf, e_toDlst, e_toDdct, e_toDins, e_toDs0, e_toDs1, e_ownL, e_at0, e_at1, e_at2, e_atM1, e_cut1, e_whole1, ixN, Int.cast_ofNat_Int, Int.reduceLE, Int.reduceLT, Int.reduceNeg, Int.reduceAdd, Int.reduceSub, Int.reduceMul, Int.reduceToNat, Int.reduceEq, Int.reducePow, Nat.reducePow, Nat.reduceAdd, Nat.reduceSub, Nat.reduceMul, Nat.reduceLeDiff, Nat.reduceEqDiff, reduceCtorEq, Int.reduceNegSucc, Nat.zero_add, e_lv0, e_lv1, Nat.reduceLT, e_isi_int_0, e_isi_int_1, e_isi_int_2, e_isi_int_3, e_isi_int_4, e_isi_int_5, e_isi_int_6, e_isi_int_7, e_isi_bool_0, e_isi_bool_1, e_isi_bool_2, e_isi_bool_3, e_isi_bool_4, e_isi_bool_5, e_isi_bool_6, e_isi_bool_7, e_isi_str_0, e_isi_str_1, e_isi_str_2, e_isi_str_3, e_isi_str_4, e_isi_str_5, e_isi_str_6, e_isi_str_7, e_isi_tuple_0, e_isi_tuple_1, e_isi_tuple_2, e_isi_tuple_3, e_isi_tuple_4, e_isi_tuple_5, e_isi_tuple_6, e_isi_tuple_7, e_isi_list_0, e_isi_list_1, e_isi_list_2, e_isi_list_3, e_isi_list_4, e_isi_list_5, e_isi_list_6, e_isi_list_7, e_isi_dict_0, e_isi_dict_1, e_isi_dict_2, e_isi_dict_3, e_isi_dict_4, e_isi_dict_5, e_isi_dict_6, e_isi_dict_7, e_isi_list_tuple_0, e_isi_list_tuple_1, e_isi_list_tuple_2, e_isi_list_tuple_3, e_isi_list_tuple_4, e_isi_list_tuple_5, e_isi_list_tuple_6, e_isi_list_tuple_7, ev_dAddK, e_revT2, e_revT3, e_revF, ↓e_lastGet, e_dropLast, ne_eq])
/-! ### a drawn one of some -/
theorem pick_ok (x y : Int) (w : W) (ds : List D) (hw : w = .lst (leaves ds) ∨ w = .leaf (.lst ds)) (hy : PotOk y) (hl : 0 < ds.length ∧ ds.length ≤ 1000) :
    ∃ d x' y', f__law_pick [P x y, w] = some (.leaf d, [P x' y', w]) ∧ d ∈ ds ∧ PotOk y' := by
  have h9 : (ds.length : Int).natAbs.log2 < 9000 := by
    have h1 : (ds.length : Int).natAbs = ds.length := by simp
    rw [h1]
    have : ds.length < 2 ^ 9000 := Nat.lt_of_le_of_lt hl.2 (by decide +kernel)
    exact (Nat.log2_lt (by omega)).mpr this
  obtain ⟨k, x', y', e, k0, k1, hy'⟩ := draw_ok x y ds.length hy ⟨by omega, h9⟩
  obtain ⟨j, rfl⟩ := Int.eq_ofNat_of_zero_le k0
  have hj : j < ds.length := by omega
  have ea : atI ds (j : Int) = some ds[j] := by rw [at_nat, List.getElem?_eq_getElem hj]
  refine ⟨ds[j], x', y', ?_, List.getElem_mem hj, hy'⟩
  rcases hw with hw | hw
  · subst hw
    wide_line with [f__law_pick, den__law_pick, e, ea]
  · subst hw
    wide_line with [f__law_pick, den__law_pick, e, ea]
/-! ### roads -/
structure Way (J : List (Int × Int)) (e : Int) (r : List Int) : Prop where
  first : r[0]? = some 0
  last : r.getLast? = some e
  steps : ∀ (k : Nat) (a b : Int), r[k]? = some a → r[k + 1]? = some b → (a, b) ∈ J
  len : (r.length : Int) ≤ e + 1
theorem way_one (J : List (Int × Int)) : Way J 0 [0] := ⟨rfl, rfl, fun k a b h1 h2 => by simp at h2, by decide⟩
theorem Way.ne {J : List (Int × Int)} {e : Int} {r : List Int} (w : Way J e r) : r ≠ [] := by
  intro h
  have := w.first
  rw [h] at this
  cases this
theorem Way.snoc {J : List (Int × Int)} {e j : Int} {r : List Int} (w : Way J e r) (h : (e, j) ∈ J) (hj : e < j) : Way J j (r ++ [j]) := by
  have hn := w.ne
  refine ⟨?_, by simp, fun k a b h1 h2 => ?_, ?_⟩
  · rw [List.getElem?_append_left (by cases r with | nil => exact absurd rfl hn | cons _ _ => simp)]
    exact w.first
  · by_cases hk : k + 1 < r.length
    · rw [List.getElem?_append_left (by omega)] at h1
      rw [List.getElem?_append_left hk] at h2
      exact w.steps k a b h1 h2
    · by_cases hk2 : k + 1 = r.length
      · rw [List.getElem?_append_right (by omega), hk2, Nat.sub_self] at h2
        rw [List.getElem?_append_left (by omega)] at h1
        have l := w.last
        rw [List.getLast?_eq_getElem?, show r.length - 1 = k by omega, h1] at l
        cases l
        have : b = j := by simpa using h2.symm
        rw [this]
        exact h
      · rw [List.getElem?_eq_none (by simp; omega)] at h2
        cases h2
  · have := w.len
    simp
    omega
theorem Way.split {J : List (Int × Int)} {e : Int} {r : List Int} (w : Way J e r) : ∃ r0, r = r0 ++ [e] := by
  have l := w.last
  have hn := w.ne
  rw [List.getLast?_eq_getLast hn] at l
  refine ⟨r.dropLast, ?_⟩
  have e1 : r.getLast hn = e := by simpa using l
  rw [← e1]
  exact (List.dropLast_concat_getLast hn).symm
/-- how many roads may yet come of one that ends at e -/
def wt (h : Int) (e : Int) : Nat := 2 ^ (h - e).toNat
theorem wt_pos (h e : Int) : 0 < wt h e := Nat.pow_pos (by decide)
theorem wt_sum (h : Int) : ∀ (l : List Int) (e : Int), e ≤ h → l.Pairwise (· < ·) → (∀ j ∈ l, e < j ∧ j ≤ h) → (l.map (wt h)).sum + 1 ≤ wt h e
  | [], e, _, _, _ => by
    have := wt_pos h e
    simp
    omega
  | j :: l, e, he, hp, hl => by
    obtain ⟨h1, h2⟩ := List.pairwise_cons.mp hp
    obtain ⟨h3, h4⟩ := hl j List.mem_cons_self
    have ih := wt_sum h l j h4 h2 fun k hk => ⟨h1 k hk, (hl k (List.mem_cons_of_mem _ hk)).2⟩
    rw [List.map_cons, List.sum_cons]
    have e1 : wt h j * 2 ≤ wt h e := by
      unfold wt
      rw [← Nat.pow_succ]
      exact Nat.pow_le_pow_right (by decide) (by omega)
    omega
/-- the ends to which one goes on -/
def nx (J : List (Int × Int)) (e : Int) : List Int := (J.filter fun p => decide (p.1 = e)).map (·.2)
theorem nx_mem {J : List (Int × Int)} {e j : Int} : j ∈ nx J e ↔ (e, j) ∈ J := by
  unfold nx
  constructor
  · intro h
    obtain ⟨p, h1, h2⟩ := List.mem_map.mp h
    obtain ⟨h3, h4⟩ := List.mem_filter.mp h1
    have h5 := of_decide_eq_true h4
    obtain ⟨a, b⟩ := p
    simp only at h2 h5
    subst h2
    subst h5
    exact h3
  · intro h
    exact List.mem_map.mpr ⟨(e, j), List.mem_filter.mpr ⟨h, decide_eq_true rfl⟩, rfl⟩
theorem nx_srt {J : List (Int × Int)} (h : J.Pairwise ltP) (e : Int) : (nx J e).Pairwise (· < ·) := by
  unfold nx
  refine List.pairwise_map.mpr ?_
  refine (List.Pairwise.filter _ h).imp_of_mem ?_
  intro a b ha hb hab
  have h1 := of_decide_eq_true (List.mem_filter.mp ha).2
  have h2 := of_decide_eq_true (List.mem_filter.mp hb).2
  rcases hab with q | q <;> omega
structure RdS (h : Int) (J : List (Int × Int)) (m : Nat) (F R : List (List Int)) : Prop where
  found : ∀ r ∈ F, Way J h r
  here : ∀ r ∈ R, ∃ e, Way J e r ∧ e ≤ h
  left : (R.map fun r => wt h (r.getLast?.getD 0)).sum = m
  most : F.length + m ≤ 32
abbrev rE (h : Int) (J : List (Int × Int)) (F R : List (List Int)) (a b c : Option W) : Ws.Env := [some (.leaf (.int h)), some (.leaf (.lst (J.map jD))), some (.lst (leaves (F.map mkTup))), some (.lst (leaves (R.map mkTup))), a, b, c]
theorem pop_val {i : Nat} {ρ : Ws.Env} {ds : List D} {d : D} (h : ownAt ρ i = some (leaves (ds ++ [d]))) : dPop i ρ = some (.val (.leaf d), ρ.set i (some (.lst (leaves ds)))) := by
  unfold dPop
  rw [h]
  show (flatW (leaves (ds ++ [d]))).bind _ = _
  rw [ev_flat]
  show ((ds ++ [d])[(ds ++ [d]).length - 1]?).map _ = _
  have e : (ds ++ [d])[(ds ++ [d]).length - 1]? = some d := by simp
  rw [e]
  simp
theorem wt_le (h : Int) : ∀ R : List (List Int), R.length ≤ (R.map fun r => wt h (r.getLast?.getD 0)).sum
  | [] => by simp
  | r :: R => by
    have := wt_le h R
    have p := wt_pos h (r.getLast?.getD 0)
    rw [List.map_cons, List.sum_cons, List.length_cons]
    omega
abbrev rBody : Den Out := dSeq (dSet 4 (dPop 3))
  (dIfS (dTest (dBin (gEqv false) (dIx (dVar 4) (dUn gNeg (dC (.int 1)))) (dVar 0))) (dDrop (dAppend 2 (dVar 4))) (dDrop (dExtend 3 (dLc (dISeq (dVar 1)) (gTp (gsCons (gNm 5) (gsCons (gNm 6) gsNil))) (dTest (dBin (gEqv false) (dVar 5) (dIx (dVar 4) (dUn gNeg (dC (.int 1)))))) (dSh (dAdd (dVar 4) (dTup (dCons (dVar 6) dNil)))) [5, 6]))))
theorem mk_snoc (r0 : List Int) (e : Int) : mkTup (r0 ++ [e]) = .tup (r0.map .int ++ [.int e]) := by simp [mkTup]
theorem rd_step (h : Int) (J : List (Int × Int)) (hh : 2 ≤ h ∧ h ≤ 5) (hJ : JOk h h (h + 1) 25 J) (m : Nat) (F R : List (List Int)) (r : List Int) (a : Option W) (k : RdS h J m F (R ++ [r])) :
    ∃ F' R' a', rBody (rE h J F (R ++ [r]) a none none) = some (.next, rE h J F' R' a' none none) ∧ ∃ m', m' < m ∧ RdS h J m' F' R' := by
  obtain ⟨e, w, he⟩ := k.here r (by simp)
  obtain ⟨r0, er⟩ := w.split
  have hl := k.left
  rw [List.map_append, List.sum_append, List.map_singleton, List.sum_singleton, w.last, Option.getD_some] at hl
  have hp := wt_pos h e
  have p : dPop 3 (rE h J F (R ++ [r]) a none none) = some (.val (.leaf (mkTup r)), rE h J F R a none none) := by
    have := pop_val (i := 3) (ρ := rE h J F (R ++ [r]) a none none) (ds := R.map mkTup) (d := mkTup r) (by rw [rE, List.map_append]; rfl)
    rw [this]
    rfl
  have m1 := k.most
  have hf : F.length < 16777216 := by omega
  have lw := wt_le h R
  by_cases ce : e = h
  · refine ⟨F ++ [r], R, some (.leaf (mkTup r)), ?_, (R.map fun r => wt h (r.getLast?.getD 0)).sum, by omega, ?_⟩
    · have er2 : mkTup r = .tup (r0.map .int ++ [.int h]) := by rw [er, mk_snoc, ce]
      rw [er2] at p
      wide_line with [p, ce, hf, List.length_map, rE, List.map_append, er2]
    · refine ⟨fun q hq => ?_, fun q hq => k.here q (by simp [hq]), rfl, by simp; omega⟩
      rcases List.mem_append.mp hq with z | z
      · exact k.found q z
      · have : q = r := by simpa using z
        rw [this, ← ce]
        exact w
  · have er2 : mkTup r = .tup (r0.map .int ++ [.int e]) := by rw [er, mk_snoc]
    have hlen : r.length ≤ 10 := by have := w.len; omega
    have hl0 : r0.length ≤ 10 := by rw [er, List.length_append] at hlen; omega
    have lc : lcLoop (gTp (gsCons (gNm 5) (gsCons (gNm 6) gsNil))) (dTest (dBin (gEqv false) (dVar 5) (dIx (dVar 4) (dUn gNeg (dC (.int 1)))))) (dSh (dAdd (dVar 4) (dTup (dCons (dVar 6) dNil)))) [5, 6] (J.map jD) [] (rE h J F R (some (.leaf (.tup (r0.map .int ++ [.int e])))) none none) = some ([] ++ J.filterMap (fun p => if decide (p.1 = e) = true then some (mkTup (r ++ [p.2])) else none), rE h J F R (some (.leaf (.tup (r0.map .int ++ [.int e])))) none none) := by
      refine lc_pureM jD _ J [] (fun p hp => ?_) (by rw [sizeLine_eq]; have := hJ.len; simp; omega)
      obtain ⟨i, j⟩ := p
      have e3 : mkTup (r ++ [j]) = .tup (r0.map .int ++ [.int e] ++ [.int j]) := by rw [mk_snoc, er]; simp
      rw [e3]
      have hs : r0.length + 1 + 1 ≤ 16777216 := by omega
      by_cases ci : i = e
      · wide_line with [jD, ci, rE, List.length_append, List.length_map, hs]
      · wide_line with [jD, ci, rE]
    have ef : (J.filterMap (fun p => if decide (p.1 = e) = true then some (mkTup (r ++ [p.2])) else none)) = ((nx J e).map fun j => r ++ [j]).map mkTup := by
      rw [fm_if (fun p : Int × Int => decide (p.1 = e)) (fun p => mkTup (r ++ [p.2])) J]
      unfold nx
      rw [List.map_map, List.map_map]
      rfl
    have hnl : (nx J e).length ≤ 25 := by
      unfold nx
      rw [List.length_map]
      exact Nat.le_trans (List.length_filter_le _ _) hJ.len
    refine ⟨F, R ++ (nx J e).map fun j => r ++ [j], some (.leaf (mkTup r)), ?_, ((R ++ (nx J e).map fun j => r ++ [j]).map fun r => wt h (r.getLast?.getD 0)).sum, ?_, ?_⟩
    · rw [er2] at p
      have hs : R.length + (nx J e).length ≤ 16777216 := by omega
      wide_line with [p, ce, lc, ef, List.length_map, hs, rE, List.map_append, er2]
    all_goals
      have es : ((nx J e).map fun j => r ++ [j]).map (fun r => wt h (r.getLast?.getD 0)) = (nx J e).map (wt h) := by
        rw [List.map_map]
        refine List.map_congr_left fun j _ => ?_
        show wt h ((r ++ [j]).getLast?.getD 0) = wt h j
        simp
      have ws := wt_sum h (nx J e) e he (nx_srt hJ.srt e) fun j hj => by
        have := hJ.rt _ (nx_mem.mp hj)
        exact ⟨this.2.1, this.2.2⟩
      have et : ((R ++ (nx J e).map fun j => r ++ [j]).map fun r => wt h (r.getLast?.getD 0)).sum = (R.map fun r => wt h (r.getLast?.getD 0)).sum + ((nx J e).map (wt h)).sum := by
        rw [List.map_append, List.sum_append, es]
      rw [et]
    · omega
    · refine ⟨k.found, fun q hq => ?_, et, by omega⟩
      rcases List.mem_append.mp hq with z | z
      · exact k.here q (by simp [z])
      · obtain ⟨j, hj, ej⟩ := List.mem_map.mp z
        have hj' := nx_mem.mp hj
        have := hJ.rt _ hj'
        exact ⟨j, ej ▸ w.snoc hj' this.2.1, this.2.2⟩
theorem asTups_mk : ∀ F : List (List Int), (∀ r ∈ F, r ≠ []) → asTups (F.map mkTup) = some F
  | [], _ => rfl
  | r :: F, h => by
    have ei : ∀ ns : List Int, asInts (ns.map .int) = some ns := by
      intro ns
      induction ns with
      | nil => rfl
      | cons n ns ih =>
        show (asInts (ns.map .int)).map _ = _
        rw [ih]
        rfl
    have e : asTups (mkTup r :: F.map mkTup) = (asInts (r.map .int)).bind fun ns => if ns = [] then Option.none else (asTups (F.map mkTup)).map (ns :: ·) := rfl
    rw [List.map_cons, e, ei, asTups_mk F fun q hq => h q (List.mem_cons_of_mem _ hq)]
    show (if r = [] then _ else _) = _
    rw [if_neg (h r List.mem_cons_self)]
    rfl
theorem roads_ok (h : Int) (J : List (Int × Int)) (hh : 2 ≤ h ∧ h ≤ 5) (hJ : JOk h h (h + 1) 25 J) : ∃ R : List (List Int), f__law_roads [.leaf (.int h), .leaf (.lst (J.map jD))] = some (.lst (leaves (R.map mkTup)), [.leaf (.int h), .leaf (.lst (J.map jD))]) ∧ (∀ r ∈ R, Way J h r) ∧ R.length ≤ 32 := by
  have h0 : gEqv true (.lst []) (.lst []) = some (.bool false) := ne_nil true []
  obtain ⟨ρ', e1, F, a, e2, hF, hl⟩ := while_ind (t := dTest (dBin (gEqv true) (dVar 3) (dLst dNil))) (body := rBody) (fun m ρ => ∃ F R a, ρ = rE h J F R a none none ∧ RdS h J m F R) (fun ρ => ∃ F a, ρ = rE h J F [] a none none ∧ (∀ r ∈ F, Way J h r) ∧ F.length ≤ 32) (fun m ρ ⟨F, R, a, e, k⟩ => by
    subst e
    rcases List.eq_nil_or_concat R with er | ⟨R0, r, er⟩
    · subst er
      refine .inl ⟨?_, F, a, rfl, k.found, by have := k.most; omega⟩
      wide_line with [h0, rE]
    · try rw [List.concat_eq_append] at er
      subst er
      obtain ⟨F', R', a', e3, m', e4, e5⟩ := rd_step h J hh hJ m F R0 r a k
      refine .inr ⟨?_, _, e3, m', e4, F', R', a', rfl, e5⟩
      have := ne_nil true (R0 ++ [r])
      rw [decide_eq_false (show ¬ R0 ++ [r] = [] by simp)] at this
      wide_line with [this, rE]) 1000000 (wt h 0) (rE h J [] [[0]] none none none) (by
        have : wt h 0 ≤ 2 ^ 5 := Nat.pow_le_pow_right (by decide) (by omega)
        omega) ⟨[], [[0]], none, rfl, ⟨fun r hr => (nomatch hr), fun r hr => ⟨0, by
        have : r = [0] := by simpa using hr
        rw [this]
        exact way_one J, by omega⟩, rfl, by
        have : wt h 0 ≤ 2 ^ 5 := Nat.pow_le_pow_right (by decide) (by omega)
        simpa using this⟩⟩
  rw [e2] at e1
  have q := asTups_mk F fun r hr => (hF r hr).ne
  refine ⟨sortI F, ?_, fun r hr => hF r ((sortI_perm F).mem_iff.mp hr), by rw [(sortI_perm F).length_eq]; exact hl⟩
  have e1' : whileLoop (dTest (dBin (gEqv true) (dVar 3) (dLst dNil))) rBody 1000000 [some (.leaf (.int h)), some (.leaf (.lst (J.map jD))), some (.lst []), some (.lst [.leaf (.tup [.int 0])]), none, none, none] = some (.next, [some (.leaf (.int h)), some (.leaf (.lst (J.map jD))), some (.lst (leaves (F.map mkTup))), some (.lst []), a, none, none]) := e1
  wide_line with [f__law_roads, den__law_roads, den__law_roads_1, den__law_roads_2, e1', q]
end K22
set_option Elab.async false
set_option linter.all false
set_option maxRecDepth 100000
set_option maxHeartbeats 0
namespace K22
open PySem PySem.Spec PyProof.Rows L2 Ws
local macro_rules
  | `(tactic| wide_line) => `(tactic| simp -dsimp -implicitDefEqProofs only [ev_dSh, ev_dVal, ev_dVar, ev_dC, ev_dBin, ev_dTest, ev_dAnd, ev_dOr, ev_dNot, ev_dOfT, ev_dOne, ev_dAndV, ev_dOrV, ev_dNotV, ev_dIf, ev_dChain, ev_dNil, ev_dCons, ev_dLst, ev_dTup, ev_dSeq, ev_dNext, ev_dBrk, ev_dCont, ev_dRet, ev_dRetN, ev_dDrop, ev_dIfS, ev_dNever, ev_dSet, ev_dRCons, ev_dRNil, ev_dCall, ev_dRecv, ev_gNm, ev_gsNil, ev_gsCons, ev_gTp, ev_dAsg, ev_dISeq, ev_dIRange1, ev_dIRange2, ev_dIRange3, ev_dIEnum, ev_dIZip, ev_dFor, ev_dLc, ev_dYes, ev_dIx, ev_dNoPart, ev_dPart, ev_dSlice, ev_dRev, ev_dAdd, ev_dMul, ev_dUn, ev_dAppend, ev_dExtend, ev_dPopAt, ev_dPop, ev_gIx, ev_dList, ev_dTuple, ev_dDivmod, ev_dXm, ev_dXf, ev_dIsX, ev_dPar, ev_dDict0, ev_dDict1, ev_dXr, ev_dXif, ev_dCallX, ev_dFld, ev_dCon, ev_dFldSet, ev_dMk, ev_dIxD, ev_gIxD, ev_dIKeys, ev_dIVals, ev_dIItems, ev_dDict, ev_dItL, ev_dItT, ev_dSorted, ev_dIZipN, ev_revR, ob_some, om_some, ob_none, om_none, b_some, m_some, ev_gSub, ev_gLt, ev_gLe, ev_gGt, ev_gGe, ev_gMax2, ev_gMin2, ev_gMod, ev_gDiv, ev_gMulI, ev_eqv, ev_sv_int, ev_sv_bool, ev_sv_none, ev_sv_str, ev_toDs, ev_flat, ev_leafApp, ev_leafLen, ev_flatNil, ev_flatCons, ev_dFn, ev_dOutV, ev_dOutS, ev_dOutN, ↓reduceIte, if_true, if_false, decide_true, decide_false, List.getElem?_cons_succ, List.getElem?_cons_zero, List.getElem?_nil, List.set_cons_succ, List.set_cons_zero, List.length_cons, List.length_nil, List.map_cons, List.map_nil, List.append_nil, List.nil_append, List.cons_append, List.nodup_cons, List.nodup_nil, List.mem_cons, List.not_mem_nil, or_false, or_true, false_or, true_or, not_true_eq_false, not_false_eq_true, and_true, true_and, and_false, false_and, List.take_succ_cons, List.take_zero, List.take_nil, List.replicate_succ, List.replicate_zero, sizeLine_eq, asBools, asInts, List.any_cons, List.any_nil, lcStep, forStep, Bool.not_true, Bool.not_false, ite_true, ite_false, Bool.false_eq_true, eq_self, leafsR, ldB, isNone, e_viewV, e_viewS, e_shV, e_shS, e_putV, e_putS, e_rvV, e_rvS, e_items, e_itLst, e_itTup, e_itOwn, e_itI, e_itB, e_itN, e_itStr, e_itScr, e_itDct, e_own, e_dctV, e_dctL, e_dctS, e_objV, e_objS, e_int1, e_int1b, e_abs, e_neg, e_lenL, e_lenT, e_lenS, e_all, e_any, e_sum, e_isB, e_isN, e_argN, e_argV, e_argS, e_slN, e_slV, e_slS, e_clN, e_clV, e_clS, e_pbN, e_pbV, e_pbS, e_lr0, e_lr1, e_wp0, e_wp1, e_re0, e_re1, e_slotS, e_slot0, e_as0, e_as1, e_addK, e_toDleaf, e_toDlst, e_toDdct, e_toDins, e_toDs0, e_toDs1, e_ownL, e_at0, e_at1, e_at2, e_atM1, e_cut1, e_whole1, ixN, Int.cast_ofNat_Int, Int.reduceLE, Int.reduceLT, Int.reduceNeg, Int.reduceAdd, Int.reduceSub, Int.reduceMul, Int.reduceToNat, Int.reduceEq, Int.reducePow, Nat.reducePow, Nat.reduceAdd, Nat.reduceSub, Nat.reduceMul, Nat.reduceLeDiff, Nat.reduceEqDiff, reduceCtorEq, Int.reduceNegSucc, Nat.zero_add, e_lv0, e_lv1, Nat.reduceLT, e_isi_int_0, e_isi_int_1, e_isi_int_2, e_isi_int_3, e_isi_int_4, e_isi_int_5, e_isi_int_6, e_isi_int_7, e_isi_bool_0, e_isi_bool_1, e_isi_bool_2, e_isi_bool_3, e_isi_bool_4, e_isi_bool_5, e_isi_bool_6, e_isi_bool_7, e_isi_str_0, e_isi_str_1, e_isi_str_2, e_isi_str_3, e_isi_str_4, e_isi_str_5, e_isi_str_6, e_isi_str_7, e_isi_tuple_0, e_isi_tuple_1, e_isi_tuple_2, e_isi_tuple_3, e_isi_tuple_4, e_isi_tuple_5, e_isi_tuple_6, e_isi_tuple_7, e_isi_list_0, e_isi_list_1, e_isi_list_2, e_isi_list_3, e_isi_list_4, e_isi_list_5, e_isi_list_6, e_isi_list_7, e_isi_dict_0, e_isi_dict_1, e_isi_dict_2, e_isi_dict_3, e_isi_dict_4, e_isi_dict_5, e_isi_dict_6, e_isi_dict_7, e_isi_list_tuple_0, e_isi_list_tuple_1, e_isi_list_tuple_2, e_isi_list_tuple_3, e_isi_list_tuple_4, e_isi_list_tuple_5, e_isi_list_tuple_6, e_isi_list_tuple_7, ev_dAddK, e_revT2, e_revT3, e_revF, ↓e_lastGet, e_dropLast, ne_eq])
  | `(tactic| wide_line with [$ls,*]) => `(tactic| simp -dsimp -implicitDefEqProofs only [$[$ls:term],*, ev_dSh, ev_dVal, ev_dVar, ev_dC, ev_dBin, ev_dTest, ev_dAnd, ev_dOr, ev_dNot, ev_dOfT, ev_dOne, ev_dAndV, ev_dOrV, ev_dNotV, ev_dIf, ev_dChain, ev_dNil, ev_dCons, ev_dLst, ev_dTup, ev_dSeq, ev_dNext, ev_dBrk, ev_dCont, ev_dRet, ev_dRetN, ev_dDrop, ev_dIfS, ev_dNever, ev_dSet, ev_dRCons, ev_dRNil, ev_dCall, ev_dRecv, ev_gNm, ev_gsNil, ev_gsCons, ev_gTp, ev_dAsg, ev_dISeq, ev_dIRange1, ev_dIRange2, ev_dIRange3, ev_dIEnum, ev_dIZip, ev_dFor, ev_dLc, ev_dYes, ev_dIx, ev_dNoPart, ev_dPart, ev_dSlice, ev_dRev, ev_dAdd, ev_dMul, ev_dUn, ev_dAppend, ev_dExtend, ev_dPopAt, ev_dPop, ev_gIx, ev_dList, ev_dTuple, ev_dDivmod, ev_dXm, ev_dXf, ev_dIsX, ev_dPar, ev_dDict0, ev_dDict1, ev_dXr, ev_dXif, ev_dCallX, ev_dFld, ev_dCon, ev_dFldSet, ev_dMk, ev_dIxD, ev_gIxD, ev_dIKeys, ev_dIVals, ev_dIItems, ev_dDict, ev_dItL, ev_dItT, ev_dSorted, ev_dIZipN, ev_revR, ob_some, om_some, ob_none, om_none, b_some, m_some, ev_gSub, ev_gLt, ev_gLe, ev_gGt, ev_gGe, ev_gMax2, ev_gMin2, ev_gMod, ev_gDiv, ev_gMulI, ev_eqv, ev_sv_int, ev_sv_bool, ev_sv_none, ev_sv_str, ev_toDs, ev_flat, ev_leafApp, ev_leafLen, ev_flatNil, ev_flatCons, ev_dFn, ev_dOutV, ev_dOutS, ev_dOutN, ↓reduceIte, if_true, if_false, decide_true, decide_false, List.getElem?_cons_succ, List.getElem?_cons_zero, List.getElem?_nil, List.set_cons_succ, List.set_cons_zero, List.length_cons, List.length_nil, List.map_cons, List.map_nil, List.append_nil, List.nil_append, List.cons_append, List.nodup_cons, List.nodup_nil, List.mem_cons, List.not_mem_nil, or_false, or_true, false_or, true_or, not_true_eq_false, not_false_eq_true, and_true, true_and, and_false, false_and, List.take_succ_cons, List.take_zero, List.take_nil, List.replicate_succ, List.replicate_zero, sizeLine_eq, asBools, asInts, List.any_cons, List.any_nil, lcStep, forStep, Bool.not_true, Bool.not_false, ite_true, ite_false, Bool.false_eq_true, eq_self, leafsR, ldB, isNone, e_viewV, e_viewS, e_shV, e_shS, e_putV, e_putS, e_rvV, e_rvS, e_items, e_itLst, e_itTup, e_itOwn, e_itI, e_itB, e_itN, e_itStr, e_itScr, e_itDct, e_own, e_dctV, e_dctL, e_dctS, e_objV, e_objS, e_int1, e_int1b, e_abs, e_neg, e_lenL, e_lenT, e_lenS, e_all, e_any, e_sum, e_isB, e_isN, e_argN, e_argV, e_argS, e_slN, e_slV, e_slS, e_clN, e_clV, e_clS, e_pbN, e_pbV, e_pbS, e_lr0, e_lr1, e_wp0, e_wp1, e_re0, e_re1, e_slotS, e_slot0, e_as0, e_as1, e_addK, e_toDleaf, e_toDlst, e_toDdct, e_toDins, e_toDs0, e_toDs1, e_ownL, e_at0, e_at1, e_at2, e_atM1, e_cut1, e_whole1, ixN, Int.cast_ofNat_Int, Int.reduceLE, Int.reduceLT, Int.reduceNeg, Int.reduceAdd, Int.reduceSub, Int.reduceMul, Int.reduceToNat, Int.reduceEq, Int.reducePow, Nat.reducePow, Nat.reduceAdd, Nat.reduceSub, Nat.reduceMul, Nat.reduceLeDiff, Nat.reduceEqDiff, reduceCtorEq, Int.reduceNegSucc, Nat.zero_add, e_lv0, e_lv1, Nat.reduceLT, e_isi_int_0, e_isi_int_1, e_isi_int_2, e_isi_int_3, e_isi_int_4, e_isi_int_5, e_isi_int_6, e_isi_int_7, e_isi_bool_0, e_isi_bool_1, e_isi_bool_2, e_isi_bool_3, e_isi_bool_4, e_isi_bool_5, e_isi_bool_6, e_isi_bool_7, e_isi_str_0, e_isi_str_1, e_isi_str_2, e_isi_str_3, e_isi_str_4, e_isi_str_5, e_isi_str_6, e_isi_str_7, e_isi_tuple_0, e_isi_tuple_1, e_isi_tuple_2, e_isi_tuple_3, e_isi_tuple_4, e_isi_tuple_5, e_isi_tuple_6, e_isi_tuple_7, e_isi_list_0, e_isi_list_1, e_isi_list_2, e_isi_list_3, e_isi_list_4, e_isi_list_5, e_isi_list_6, e_isi_list_7, e_isi_dict_0, e_isi_dict_1, e_isi_dict_2, e_isi_dict_3, e_isi_dict_4, e_isi_dict_5, e_isi_dict_6, e_isi_dict_7, e_isi_list_tuple_0, e_isi_list_tuple_1, e_isi_list_tuple_2, e_isi_list_tuple_3, e_isi_list_tuple_4, e_isi_list_tuple_5, e_isi_list_tuple_6, e_isi_list_tuple_7, ev_dAddK, e_revT2, e_revT3, e_revF, ↓e_lastGet, e_dropLast, ne_eq])
/-! ### a lot -/
def lkv (q : List Int × Int) : D × D := (mkTup q.1, .int q.2)
structure LotOk (R : List (List Int)) (n : Nat) (kvs : List (D × D)) : Prop where
  nd : (keysD kvs).Nodup
  ent : ∀ x ∈ kvs, (∃ r ∈ R, x.1 = mkTup r) ∧ ∃ k : Int, x.2 = .int k ∧ 1 ≤ k ∧ k ≤ 10 ^ 20
  len : kvs.length ≤ n
theorem depth_num : ∀ ns : List Int, (NestedKey.tup (ns.map .num)).depth ≤ 8 := by
  intro ns
  have : ∀ ns : List Int, NestedKey.depthAll (ns.map .num) = 0 := by
    intro ns
    induction ns with
    | nil => rfl
    | cons n ns ih => simp [NestedKey.depthAll, NestedKey.depth, ih]
  simp [NestedKey.depth, this]
theorem LotOk.put {R : List (List Int)} {n : Nat} {kvs : List (D × D)} (l : LotOk R n kvs) {r : List Int} (hr : r ∈ R) {k : Int} (h : 1 ≤ k ∧ k ≤ 10 ^ 20) : LotOk R (n + 1) (putDct kvs (mkTup r) (.int k) (.tup (r.map .num))) := by
  refine ⟨by rw [keysD_put (toKey_tup r)]; exact nextK_nodup l.nd, fun x hx => ?_, by have := l.len; have := putDct_len (acc := kvs) (dk := mkTup r) (dv := .int k) (k := .tup (r.map .num)); omega⟩
  obtain ⟨h1, h2⟩ := putDct_mem hx
  constructor
  · rcases h1 with e | ⟨y, hy, e⟩
    · exact ⟨r, hr, e⟩
    · rw [e]
      exact (l.ent y hy).1
  · rcases h2 with e | ⟨y, hy, e⟩
    · exact ⟨k, e, h⟩
    · rw [e]
      exact (l.ent y hy).2
abbrev oE (x y : Int) (R : List (List Int)) (kvs : List (D × D)) (a : Option W) : Ws.Env := [some (P x y), some (.lst (leaves (R.map mkTup))), some (.leaf (.int 4)), some (.leaf (.int 100000000000000000000)), some (.dct kvs), a]
abbrev oBody : Den Out := dAsg (dAdd (dC (.int 1)) (dCall f__law_draw (dRCons (dVar 0) (dRCons (dVar 3) dRNil)) [])) (gIxD 4 (dCall f__law_pick (dRCons (dVar 0) (dRCons (dVar 1) dRNil)) []))
theorem lot_step (x y : Int) (R : List (List Int)) (hR : 0 < R.length ∧ R.length ≤ 32) (n : Nat) (hn : n ≤ 10) (kvs : List (D × D)) (hy : PotOk y) (k : LotOk R n kvs) (d : D) (a : Option W) :
    ∃ x' y' kvs', forStep (gNm 5) oBody d (oE x y R kvs a) = some (.next, oE x' y' R kvs' (some (.leaf d))) ∧ PotOk y' ∧ LotOk R (n + 1) kvs' := by
  obtain ⟨v, x1, y1, e1, v0, v1, hy1⟩ := draw_ok x y 100000000000000000000 hy ⟨by decide, by decide⟩
  obtain ⟨t, x2, y2, e2, ht, hy2⟩ := pick_ok x1 y1 (.lst (leaves (R.map mkTup))) (R.map mkTup) (.inl rfl) hy1 (by rw [List.length_map]; omega)
  obtain ⟨r, hr, er⟩ := List.mem_map.mp ht
  subst er
  refine ⟨x2, y2, putDct kvs (mkTup r) (.int (1 + v)) (.tup (r.map .num)), ?_, hy2, k.put hr ⟨by omega, by omega⟩⟩
  have hk := toKey_tup r
  have hd := depth_num r
  have hl : kvs.length < 16777216 := by have := k.len; omega
  unfold oE
  wide_line with [e1, e2, hk, hd, hl]
theorem lot_ok (x y : Int) (R : List (List Int)) (hR : R.length ≤ 32) (hy : PotOk y) :
    ∃ kvs x' y', f__law_lot [P x y, .lst (leaves (R.map mkTup)), .leaf (.int 4), .leaf (.int 100000000000000000000)] = some (.dct kvs, [P x' y', .lst (leaves (R.map mkTup)), .leaf (.int 4), .leaf (.int 100000000000000000000)]) ∧ PotOk y' ∧ LotOk R 4 kvs := by
  have hne := ne_nil true R
  by_cases hR0 : R = []
  · subst hR0
    have h0 : gEqv true (.lst []) (.lst []) = some (.bool false) := ne_nil true []
    have r0 : rangeD 0 0 = [] := rfl
    refine ⟨[], x, y, ?_, hy, ⟨List.nodup_nil, fun x hx => (nomatch hx), by decide⟩⟩
    wide_line with [f__law_lot, den__law_lot, den__law_lot_1, den__law_lot_2, h0, small_of (show (-1000 : Int) ≤ 0 ∧ (0 : Int) ≤ 1000 by omega), r0, forLoop]
  · rw [decide_eq_false hR0] at hne
    have hlen : 0 < R.length := by
      cases R with
      | nil => exact absurd rfl hR0
      | cons _ _ => simp
    obtain ⟨v, x1, y1, e1, v0, v1, hy1⟩ := draw_ok x y 5 hy ⟨by decide, by decide⟩
    obtain ⟨ρ', e2, x', y', kvs, a, e3, hy', k⟩ := for_run (g := gNm 5) (body := oBody) (fun k ρ => ∃ x' y' kvs a, ρ = oE x' y' R kvs a ∧ PotOk y' ∧ LotOk R k kvs) (rangeD 0 v.toNat) 0 (oE x1 y1 R [] none) ⟨x1, y1, [], none, rfl, hy1, ⟨List.nodup_nil, fun x hx => (nomatch hx), by decide⟩⟩ (fun i d ρ hd ⟨x', y', kvs, a, e, hy', k⟩ => by
      subst e
      obtain ⟨_, hi⟩ := rangeD_get hd
      obtain ⟨x2, y2, kvs2, e4, hy2, k2⟩ := lot_step x' y' R ⟨hlen, hR⟩ (0 + i) (by omega) kvs hy' k d a
      exact ⟨_, .inl e4, x2, y2, kvs2, _, rfl, hy2, k2⟩)
    rw [e3] at e2
    have q : LotOk R 4 kvs := ⟨k.nd, k.ent, by have := k.len; rw [rangeD_len] at this; omega⟩
    refine ⟨kvs, x', y', ?_, hy', q⟩
    unfold oE at e2
    wide_line with [f__law_lot, den__law_lot, den__law_lot_1, den__law_lot_2, hne, e1, e2, small_of (show -1000 ≤ v ∧ v ≤ 1000 by omega)]
/-- a lot, as ways and numbers -/
theorem lot_list {R : List (List Int)} {n : Nat} {kvs : List (D × D)} (k : LotOk R n kvs) : ∃ L : List (List Int × Int), kvs = L.map lkv ∧ (L.map fun q => NestedKey.tup (q.1.map .num)).Nodup ∧ (∀ q ∈ L, q.1 ∈ R ∧ 1 ≤ q.2 ∧ q.2 ≤ 10 ^ 20) ∧ L.length ≤ n := by
  have a : ∀ kvs : List (D × D), (∀ x ∈ kvs, (∃ r ∈ R, x.1 = mkTup r) ∧ ∃ k : Int, x.2 = .int k ∧ 1 ≤ k ∧ k ≤ 10 ^ 20) → ∃ L : List (List Int × Int), kvs = L.map lkv ∧ (∀ q ∈ L, q.1 ∈ R ∧ 1 ≤ q.2 ∧ q.2 ≤ 10 ^ 20) := by
    intro kvs
    induction kvs with
    | nil => exact fun _ => ⟨[], rfl, fun q hq => (nomatch hq)⟩
    | cons x kvs ih =>
      intro h
      obtain ⟨L, e, hL⟩ := ih fun y hy => h y (List.mem_cons_of_mem _ hy)
      obtain ⟨⟨r, hr, e1⟩, ⟨k, e2, h3⟩⟩ := h x List.mem_cons_self
      refine ⟨(r, k) :: L, ?_, fun q hq => ?_⟩
      · rw [List.map_cons, e]
        congr 1
        exact Prod.ext e1 e2
      · rcases List.mem_cons.mp hq with e | hq
        · rw [e]
          exact ⟨hr, h3⟩
        · exact hL q hq
  obtain ⟨L, e, hL⟩ := a kvs k.ent
  refine ⟨L, e, ?_, hL, by have := k.len; rw [e, List.length_map] at this; exact this⟩
  have := k.nd
  rw [e, keysD_map lkv (fun q => .tup (q.1.map .num)) L fun q _ => toKey_tup q.1] at this
  exact this
/-! ### a flow -/
abbrev Fw := Int × Int → Int
def fq (J : List (Int × Int)) (F : Fw) : List ((Int × Int) × Int) := J.map fun p => (p, F p)
def fset (F : Fw) (p : Int × Int) (v : Int) : Fw := fun q => if q = p then v else F q
theorem fq_kv (J : List (Int × Int)) (F : Fw) : (fq J F).map kvD = J.map fun p => kvD (p, F p) := by
  unfold fq
  rw [List.map_map]
  rfl
theorem fq_nd {J : List (Int × Int)} (h : J.Nodup) (F : Fw) : ((fq J F).map (·.1)).Nodup := by
  unfold fq
  rw [List.map_map, show ((fun x : (Int × Int) × Int => x.1) ∘ fun p => (p, F p)) = id from rfl, List.map_id]
  exact h
theorem fq_get {J : List (Int × Int)} (h : J.Nodup) (F : Fw) {p : Int × Int} (hp : p ∈ J) : getDct ((fq J F).map kvD) (kN p) = some (.int (F p)) :=
  get_kv (fq_nd h F) (List.mem_map.mpr ⟨p, hp, rfl⟩ : (p, F p) ∈ fq J F)
theorem fq_put {J : List (Int × Int)} (h : J.Nodup) (F : Fw) {p : Int × Int} (hp : p ∈ J) (v : Int) : putDct ((fq J F).map kvD) (jD p) (.int v) (kN p) = (fq J (fset F p v)).map kvD := by
  obtain ⟨j, hj, ej⟩ := List.getElem_of_mem hp
  have hk : keysD ((fq J F).map kvD) = J.map kN := by
    rw [fq_kv]
    exact keysD_map _ kN J fun q _ => toKey_jD q
  have hnd : (J.map kN).Nodup := List.Pairwise.map kN (fun a b hab e => hab (kN_inj e)) h
  have ha : atD ((fq J F).map kvD) (kN p) = some j := by
    unfold atD
    rw [hk]
    exact posK_some hnd (by rw [List.getElem?_map, List.getElem?_eq_getElem hj, ej]; rfl)
  unfold putDct
  rw [ha]
  show ((fq J F).map kvD).set j ((((fq J F).map kvD).getD j (jD p, .int v)).1, .int v) = _
  rw [fq_kv, fq_kv]
  refine List.ext_getElem (by simp) fun i h1 h2 => ?_
  have hi : i < J.length := by simpa using h2
  rw [List.getElem_set]
  by_cases c : j = i
  · subst c
    simp [List.getD, hj, ej, kvD, fset]
  · have hne : J[i] ≠ p := by
      rw [← ej]
      intro e
      exact c ((List.getElem_inj h).mp e).symm
    simp [c, fset, hne]
/-- what comes to s, less what goes from it -/
def net (J : List (Int × Int)) (F : Fw) (s : Int) : Int := sIn (fq J F) s - sOut (fq J F) s
theorem sIn_set (J : List (Int × Int)) (h : J.Nodup) (F : Fw) {p : Int × Int} (hp : p ∈ J) (v s : Int) : sIn (fq J (fset F p v)) s = sIn (fq J F) s + if p.2 = s then v - F p else 0 := by
  induction J with
  | nil => cases hp
  | cons a J ih =>
    obtain ⟨h1, h2⟩ := List.nodup_cons.mp h
    have hc : ∀ (G : Fw), sIn (fq (a :: J) G) s = (if a.2 = s then G a else 0) + sIn (fq J G) s := by
      intro G
      unfold sIn fq
      rw [List.map_cons, List.filterMap_cons]
      by_cases c : a.2 = s
      · simp [gIn, c]
      · simp [gIn, c]
    rw [hc, hc]
    by_cases e : a = p
    · subst e
      have hs : sIn (fq J (fset F a v)) s = sIn (fq J F) s := by
        unfold sIn fq
        congr 2
        refine List.map_congr_left fun q hq => ?_
        have : q ≠ a := fun e => h1 (e ▸ hq)
        simp [fset, this]
      rw [hs]
      by_cases c : a.2 = s
      · simp only [fset, c, if_true]
        omega
      · simp only [c, if_false]
        omega
    · have hp' : p ∈ J := by
        rcases List.mem_cons.mp hp with q | q
        · exact absurd q.symm e
        · exact q
      rw [ih h2 hp']
      simp only [fset, e, if_false]
      omega
theorem sOut_set (J : List (Int × Int)) (h : J.Nodup) (F : Fw) {p : Int × Int} (hp : p ∈ J) (v s : Int) : sOut (fq J (fset F p v)) s = sOut (fq J F) s + if p.1 = s then v - F p else 0 := by
  induction J with
  | nil => cases hp
  | cons a J ih =>
    obtain ⟨h1, h2⟩ := List.nodup_cons.mp h
    have hc : ∀ (G : Fw), sOut (fq (a :: J) G) s = (if a.1 = s then G a else 0) + sOut (fq J G) s := by
      intro G
      unfold sOut fq
      rw [List.map_cons, List.filterMap_cons]
      by_cases c : a.1 = s
      · simp [gOut, c]
      · simp [gOut, c]
    rw [hc, hc]
    by_cases e : a = p
    · subst e
      have hs : sOut (fq J (fset F a v)) s = sOut (fq J F) s := by
        unfold sOut fq
        congr 2
        refine List.map_congr_left fun q hq => ?_
        have : q ≠ a := fun e => h1 (e ▸ hq)
        simp [fset, this]
      rw [hs]
      by_cases c : a.1 = s
      · simp only [fset, c, if_true]
        omega
      · simp only [c, if_false]
        omega
    · have hp' : p ∈ J := by
        rcases List.mem_cons.mp hp with q | q
        · exact absurd q.symm e
        · exact q
      rw [ih h2 hp']
      simp only [fset, e, if_false]
      omega
structure FlOk (J : List (Int × Int)) (h : Int) (B : Nat) (F : Fw) : Prop where
  pos : ∀ p, 0 ≤ F p
  le : ∀ p, F p ≤ B * 10 ^ 20
  bal : ∀ s, 1 ≤ s → s < h → net J F s = 0
abbrev wE (J : List (Int × Int)) (L : List (List Int × Int)) (F : Fw) (a b : Option W) : Ws.Env := [some (.leaf (.lst (J.map jD))), some (.leaf (.dct (L.map lkv))), some (.dct ((fq J F).map kvD)), a, b]
abbrev wBody : Den Out := dAsg (dAdd (dIxD (dVar 2) (dVar 4)) (dIxD (dVar 1) (dVar 3))) (gIxD 2 (dVar 4))
theorem rpairs (r : List Int) : zipD (r.map .int) ((r.map .int).drop 1) = (r.zip (r.drop 1)).map jD := by
  rw [zipD_eq]
  refine List.ext_getElem (by simp) fun i h1 h2 => ?_
  simp [jD]
theorem road_flow (J : List (Int × Int)) (h : Int) (hJ : J.Nodup) (hJl : J.length ≤ 25) (hh : h ≤ 5) (L : List (List Int × Int)) (hLn : (L.map fun q => NestedKey.tup (q.1.map .num)).Nodup) (r : List Int) (n : Int) (hr : (r, n) ∈ L) (w : Way J h r) (hn : 1 ≤ n ∧ n ≤ 10 ^ 20) (F : Fw) (B : Nat) (k : FlOk J h B F) (b : Option W) :
    ∃ F' b', forLoop (gNm 4) wBody ((r.zip (r.drop 1)).map jD) (wE J L F (some (.leaf (mkTup r))) b) = some (.next, wE J L F' (some (.leaf (mkTup r))) b') ∧ FlOk J h (B + 5) F' := by
  have hl : r.length ≤ 6 := by have := w.len; omega
  have hg : getDct (L.map lkv) (.tup (r.map .num)) = some (.int n) := getDct_at lkv (fun q => .tup (q.1.map .num)) L (fun q _ => toKey_tup q.1) hLn hr
  obtain ⟨ρ', e1, F', b', e2, p1, p2, p3⟩ := for_run (g := gNm 4) (body := wBody) (fun k ρ => ∃ F' b', ρ = wE J L F' (some (.leaf (mkTup r))) b' ∧ (∀ p, 0 ≤ F' p) ∧ (∀ p, F' p ≤ ((B + k : Nat) : Int) * 10 ^ 20) ∧ ∀ s e, 1 ≤ s → s < h → r[k]? = some e → net J F' s = if e = s then n else 0) ((r.zip (r.drop 1)).map jD) 0 (wE J L F (some (.leaf (mkTup r))) b) ⟨F, b, rfl, k.pos, by simpa using k.le, fun s e h1 h2 h3 => by
      have : e = 0 := by have := w.first; rw [h3] at this; simpa using this
      rw [k.bal s h1 h2, if_neg (by omega)]⟩ (fun i d ρ hd ⟨F1, b1, e, q1, q2, q3⟩ => by
    subst e
    rw [List.getElem?_map] at hd
    obtain ⟨p, h1, h2⟩ := Option.map_eq_some_iff.mp hd
    subst h2
    obtain ⟨a, c⟩ := p
    have h3 := List.getElem?_zip_eq_some.mp h1
    rw [List.getElem?_drop] at h3
    have h4 : r[i + 1]? = some c := by rw [show i + 1 = 1 + i by omega]; exact h3.2
    have hp := w.steps i a c h3.1 h4
    have g2 := fq_get hJ F1 hp
    have g3 := fq_put hJ F1 hp (F1 (a, c) + n)
    have k1 := toKey_jD (a, c)
    have k2 := kN_depth (a, c)
    have k3 := toKey_tup r
    have k4 := depth_num r
    have hll : ((fq J F1).map kvD).length < 16777216 := by
      unfold fq
      simp
      omega
    refine ⟨_, .inl ?_, fset F1 (a, c) (F1 (a, c) + n), some (.leaf (jD (a, c))), rfl, ?_, ?_, ?_⟩
    · wide_line with [k1, k2, k3, k4, g2, g3, hg, hll, wE]
    · intro p
      unfold fset
      have := q1 p
      have := q1 (a, c)
      split <;> omega
    · intro p
      unfold fset
      have := q2 p
      have := q2 (a, c)
      split
      · rename_i e
        have : ((B + (0 + i + 1) : Nat) : Int) * 10 ^ 20 = ((B + (0 + i) : Nat) : Int) * 10 ^ 20 + 10 ^ 20 := by
          rw [show B + (0 + i + 1) = B + (0 + i) + 1 by omega, Int.natCast_add, Int.add_mul]
          simp
        omega
      · have : ((B + (0 + i + 1) : Nat) : Int) * 10 ^ 20 = ((B + (0 + i) : Nat) : Int) * 10 ^ 20 + 10 ^ 20 := by
          rw [show B + (0 + i + 1) = B + (0 + i) + 1 by omega, Int.natCast_add, Int.add_mul]
          simp
        omega
    · intro s e h5 h6 h7
      have h8 : e = c := by
        rw [show 0 + i + 1 = i + 1 by omega, h4] at h7
        simpa using h7.symm
      subst h8
      have q4 := q3 s a h5 h6 (by rw [Nat.zero_add]; exact h3.1)
      unfold net at *
      rw [sIn_set J hJ F1 hp, sOut_set J hJ F1 hp]
      simp only
      by_cases c1 : e = s <;> by_cases c2 : a = s <;> simp only [c1, c2, if_true, if_false] at q4 ⊢ <;> omega)
  have ez : ((r.zip (r.drop 1)).map jD).length = r.length - 1 := by simp
  rw [ez, Nat.zero_add] at p2 p3
  refine ⟨F', b', by rw [← e2]; exact e1, p1, fun p => ?_, fun s h1 h2 => ?_⟩
  · have := p2 p
    have e3 : ((B + (r.length - 1) : Nat) : Int) ≤ ((B + 5 : Nat) : Int) := by omega
    have := Int.mul_le_mul_of_nonneg_right e3 (show (0 : Int) ≤ 10 ^ 20 by decide)
    omega
  · have l := w.last
    rw [List.getLast?_eq_getElem?] at l
    rw [p3 s h h1 h2 l, if_neg (by omega)]
theorem flow_ok (J : List (Int × Int)) (h : Int) (hJ : J.Nodup) (hJl : J.length ≤ 25) (hh : h ≤ 5) (R : List (List Int)) (hR : ∀ r ∈ R, Way J h r) (kvs : List (D × D)) (k : LotOk R 4 kvs) :
    ∃ F ws, f__law_flow [.leaf (.lst (J.map jD)), .dct kvs] = some (.dct ((fq J F).map kvD), [.leaf (.lst (J.map jD)), ws]) ∧ FlOk J h 20 F := by
  obtain ⟨L, eL, hLn, hL, hLl⟩ := lot_list k
  subst eL
  have e0 : lcLoop (gNm 4) dYes (dSh (dTup (dCons (dVar 4) (dCons (dC (.int 0)) dNil)))) [4] (J.map jD) [] [some (.leaf (.lst (J.map jD))), some (.dct (L.map lkv)), none, none, none] = some (J.map (fun p => .tup [(kvD (p, 0)).1, (kvD (p, 0)).2]), [some (.leaf (.lst (J.map jD))), some (.dct (L.map lkv)), none, none, none]) := by
    refine lc_mapM jD _ J (fun p hp => ?_) (by rw [sizeLine_eq]; omega)
    wide_line with [kvD]
  have e1 : asPairs (J.map (fun p => .tup [(kvD (p, 0)).1, (kvD (p, 0)).2])) = some (J.map fun p => kvD (p, 0)) := asPairs_map (fun p => kvD (p, 0)) J
  have e2 : putsD [] (J.map fun p => kvD (p, 0)) = some ((fq J fun _ => 0).map kvD) := by
    rw [fq_kv]
    have := putsD_new (J.map fun p => kvD (p, 0)) [] (fun x hx => by
      obtain ⟨p, _, e⟩ := List.mem_map.mp hx
      subst e
      exact ⟨kN p, toKey_jD p, kN_depth p⟩) (by rw [sizeLine_eq]; simp; omega) (by
      rw [List.nil_append, keysD_map _ kN J fun q _ => toKey_jD q]
      exact List.Pairwise.map kN (fun a b hab e => hab (kN_inj e)) hJ)
    exact this
  have z : ∀ s, sIn (fq J fun _ => 0) s = 0 ∧ sOut (fq J fun _ => 0) s = 0 := by
    intro s
    unfold sIn sOut fq
    clear e0 e1 e2 hJ hJl hR k hLn hL hLl
    induction J with
    | nil => exact ⟨rfl, rfl⟩
    | cons a J ih =>
      rw [List.map_cons, List.filterMap_cons, List.filterMap_cons]
      obtain ⟨i1, i2⟩ := ih
      constructor
      · by_cases c : a.2 = s
        · simp only [gIn, c, if_true, List.sum_cons]; simpa [gIn] using i1
        · simp only [gIn, c, if_false]; simpa [gIn] using i1
      · by_cases c : a.1 = s
        · simp only [gOut, c, if_true, List.sum_cons]; simpa [gOut] using i2
        · simp only [gOut, c, if_false]; simpa [gOut] using i2
  obtain ⟨ρ', e3, F, a, b, e4, kF⟩ := for_run (g := gNm 3) (body := dFor (dIZipN (dCons (dVar 3) (dCons (dSlice (dVar 3) (dPart (dC (.int 1))) dNoPart) dNil))) (gNm 4) wBody) (fun k ρ => ∃ F a b, ρ = wE J L F a b ∧ FlOk J h (5 * k) F) ((L.map lkv).map (·.1)) 0 (wE J L (fun _ => 0) none none) ⟨fun _ => 0, none, none, rfl, ⟨fun _ => by decide, fun _ => by simp, fun s _ _ => by unfold net; rw [(z s).1, (z s).2]; rfl⟩⟩ (fun i d ρ hd ⟨F1, a, b, e, k1⟩ => by
    subst e
    rw [List.map_map, List.getElem?_map] at hd
    obtain ⟨q, h1, h2⟩ := Option.map_eq_some_iff.mp hd
    obtain ⟨r, n⟩ := q
    have hm := List.mem_of_getElem? h1
    have h3 := hL _ hm
    have w := hR r h3.1
    obtain ⟨F', b', e5, k5⟩ := road_flow J h hJ hJl hh L hLn r n hm w h3.2 F1 (5 * (0 + i)) k1 b
    have hd' : d = mkTup r := h2.symm
    subst hd'
    have hz := rpairs r
    have hw : ¬ r.length = 0 := by
      have := w.ne
      simp [this]
    refine ⟨_, .inl ?_, F', some (.leaf (mkTup r)), b', rfl, by rw [show 5 * (0 + i + 1) = 5 * (0 + i) + 5 by omega]; exact k5⟩
    have e6 : mkTup r = .tup (r.map .int) := rfl
    unfold wE at *
    rw [e6] at e5 ⊢
    wide_line with [hz, e5, hw, List.length_map]
    )
  have kF' : FlOk J h 20 F := by
    refine ⟨kF.pos, fun p => ?_, kF.bal⟩
    have h1 := kF.le p
    have h2 : ((5 * (0 + ((L.map lkv).map (·.1)).length) : Nat) : Int) ≤ ((20 : Nat) : Int) := by
      simp
      omega
    have := Int.mul_le_mul_of_nonneg_right h2 (show (0 : Int) ≤ 10 ^ 20 by decide)
    omega
  rw [e4] at e3
  refine ⟨F, .leaf (.dct (L.map lkv)), ?_, kF'⟩
  unfold wE at e3
  wide_line with [f__law_flow, den__law_flow, den__law_flow_1, den__law_flow_2, e0, e1, e2, e3]
end K22
set_option Elab.async false
set_option linter.all false
set_option maxRecDepth 100000
set_option maxHeartbeats 0
namespace K22
open PySem PySem.Spec PyProof.Rows L2 Ws
local macro_rules
  | `(tactic| wide_line) => `(tactic| simp -dsimp -implicitDefEqProofs only [ev_dSh, ev_dVal, ev_dVar, ev_dC, ev_dBin, ev_dTest, ev_dAnd, ev_dOr, ev_dNot, ev_dOfT, ev_dOne, ev_dAndV, ev_dOrV, ev_dNotV, ev_dIf, ev_dChain, ev_dNil, ev_dCons, ev_dLst, ev_dTup, ev_dSeq, ev_dNext, ev_dBrk, ev_dCont, ev_dRet, ev_dRetN, ev_dDrop, ev_dIfS, ev_dNever, ev_dSet, ev_dRCons, ev_dRNil, ev_dCall, ev_dRecv, ev_gNm, ev_gsNil, ev_gsCons, ev_gTp, ev_dAsg, ev_dISeq, ev_dIRange1, ev_dIRange2, ev_dIRange3, ev_dIEnum, ev_dIZip, ev_dFor, ev_dLc, ev_dYes, ev_dIx, ev_dNoPart, ev_dPart, ev_dSlice, ev_dRev, ev_dAdd, ev_dMul, ev_dUn, ev_dAppend, ev_dExtend, ev_dPopAt, ev_dPop, ev_gIx, ev_dList, ev_dTuple, ev_dDivmod, ev_dXm, ev_dXf, ev_dIsX, ev_dPar, ev_dDict0, ev_dDict1, ev_dXr, ev_dXif, ev_dCallX, ev_dFld, ev_dCon, ev_dFldSet, ev_dMk, ev_dIxD, ev_gIxD, ev_dIKeys, ev_dIVals, ev_dIItems, ev_dDict, ev_dItL, ev_dItT, ev_dSorted, ev_dIZipN, ev_revR, ob_some, om_some, ob_none, om_none, b_some, m_some, ev_gSub, ev_gLt, ev_gLe, ev_gGt, ev_gGe, ev_gMax2, ev_gMin2, ev_gMod, ev_gDiv, ev_gMulI, ev_eqv, ev_sv_int, ev_sv_bool, ev_sv_none, ev_sv_str, ev_toDs, ev_flat, ev_leafApp, ev_leafLen, ev_flatNil, ev_flatCons, ev_dFn, ev_dOutV, ev_dOutS, ev_dOutN, ↓reduceIte, if_true, if_false, decide_true, decide_false, List.getElem?_cons_succ, List.getElem?_cons_zero, List.getElem?_nil, List.set_cons_succ, List.set_cons_zero, List.length_cons, List.length_nil, List.map_cons, List.map_nil, List.append_nil, List.nil_append, List.cons_append, List.nodup_cons, List.nodup_nil, List.mem_cons, List.not_mem_nil, or_false, or_true, false_or, true_or, not_true_eq_false, not_false_eq_true, and_true, true_and, and_false, false_and, List.take_succ_cons, List.take_zero, List.take_nil, List.replicate_succ, List.replicate_zero, sizeLine_eq, asBools, asInts, List.any_cons, List.any_nil, lcStep, forStep, Bool.not_true, Bool.not_false, ite_true, ite_false, Bool.false_eq_true, eq_self, leafsR, ldB, isNone, e_viewV, e_viewS, e_shV, e_shS, e_putV, e_putS, e_rvV, e_rvS, e_items, e_itLst, e_itTup, e_itOwn, e_itI, e_itB, e_itN, e_itStr, e_itScr, e_itDct, e_own, e_dctV, e_dctL, e_dctS, e_objV, e_objS, e_int1, e_int1b, e_abs, e_neg, e_lenL, e_lenT, e_lenS, e_all, e_any, e_sum, e_isB, e_isN, e_argN, e_argV, e_argS, e_slN, e_slV, e_slS, e_clN, e_clV, e_clS, e_pbN, e_pbV, e_pbS, e_lr0, e_lr1, e_wp0, e_wp1, e_re0, e_re1, e_slotS, e_slot0, e_as0, e_as1, e_addK, e_toDleaf, e_toDlst, e_toDdct, e_toDins, e_toDs0, e_toDs1, e_ownL, e_at0, e_at1, e_at2, e_atM1, e_cut1, e_whole1, ixN, Int.cast_ofNat_Int, Int.reduceLE, Int.reduceLT, Int.reduceNeg, Int.reduceAdd, Int.reduceSub, Int.reduceMul, Int.reduceToNat, Int.reduceEq, Int.reducePow, Nat.reducePow, Nat.reduceAdd, Nat.reduceSub, Nat.reduceMul, Nat.reduceLeDiff, Nat.reduceEqDiff, reduceCtorEq, Int.reduceNegSucc, Nat.zero_add, e_lv0, e_lv1, Nat.reduceLT, e_isi_int_0, e_isi_int_1, e_isi_int_2, e_isi_int_3, e_isi_int_4, e_isi_int_5, e_isi_int_6, e_isi_int_7, e_isi_bool_0, e_isi_bool_1, e_isi_bool_2, e_isi_bool_3, e_isi_bool_4, e_isi_bool_5, e_isi_bool_6, e_isi_bool_7, e_isi_str_0, e_isi_str_1, e_isi_str_2, e_isi_str_3, e_isi_str_4, e_isi_str_5, e_isi_str_6, e_isi_str_7, e_isi_tuple_0, e_isi_tuple_1, e_isi_tuple_2, e_isi_tuple_3, e_isi_tuple_4, e_isi_tuple_5, e_isi_tuple_6, e_isi_tuple_7, e_isi_list_0, e_isi_list_1, e_isi_list_2, e_isi_list_3, e_isi_list_4, e_isi_list_5, e_isi_list_6, e_isi_list_7, e_isi_dict_0, e_isi_dict_1, e_isi_dict_2, e_isi_dict_3, e_isi_dict_4, e_isi_dict_5, e_isi_dict_6, e_isi_dict_7, e_isi_list_tuple_0, e_isi_list_tuple_1, e_isi_list_tuple_2, e_isi_list_tuple_3, e_isi_list_tuple_4, e_isi_list_tuple_5, e_isi_list_tuple_6, e_isi_list_tuple_7, ev_dAddK, e_revT2, e_revT3, e_revF, ↓e_lastGet, e_dropLast, ne_eq])
  | `(tactic| wide_line with [$ls,*]) => `(tactic| simp -dsimp -implicitDefEqProofs only [$[$ls:term],*, ev_dSh, ev_dVal, ev_dVar, ev_dC, ev_dBin, ev_dTest, ev_dAnd, ev_dOr, ev_dNot, ev_dOfT, ev_dOne, ev_dAndV, ev_dOrV, ev_dNotV, ev_dIf, ev_dChain, ev_dNil, ev_dCons, ev_dLst, ev_dTup, ev_dSeq, ev_dNext, ev_dBrk, ev_dCont, ev_dRet, ev_dRetN, ev_dDrop, ev_dIfS, ev_dNever, ev_dSet, ev_dRCons, ev_dRNil, ev_dCall, ev_dRecv, ev_gNm, ev_gsNil, ev_gsCons, ev_gTp, ev_dAsg, ev_dISeq, ev_dIRange1, ev_dIRange2, ev_dIRange3, ev_dIEnum, ev_dIZip, ev_dFor, ev_dLc, ev_dYes, ev_dIx, ev_dNoPart, ev_dPart, ev_dSlice, ev_dRev, ev_dAdd, ev_dMul, ev_dUn, ev_dAppend, ev_dExtend, ev_dPopAt, ev_dPop, ev_gIx, ev_dList, ev_dTuple, ev_dDivmod, ev_dXm, ev_dXf, ev_dIsX, ev_dPar, ev_dDict0, ev_dDict1, ev_dXr, ev_dXif, ev_dCallX, ev_dFld, ev_dCon, ev_dFldSet, ev_dMk, ev_dIxD, ev_gIxD, ev_dIKeys, ev_dIVals, ev_dIItems, ev_dDict, ev_dItL, ev_dItT, ev_dSorted, ev_dIZipN, ev_revR, ob_some, om_some, ob_none, om_none, b_some, m_some, ev_gSub, ev_gLt, ev_gLe, ev_gGt, ev_gGe, ev_gMax2, ev_gMin2, ev_gMod, ev_gDiv, ev_gMulI, ev_eqv, ev_sv_int, ev_sv_bool, ev_sv_none, ev_sv_str, ev_toDs, ev_flat, ev_leafApp, ev_leafLen, ev_flatNil, ev_flatCons, ev_dFn, ev_dOutV, ev_dOutS, ev_dOutN, ↓reduceIte, if_true, if_false, decide_true, decide_false, List.getElem?_cons_succ, List.getElem?_cons_zero, List.getElem?_nil, List.set_cons_succ, List.set_cons_zero, List.length_cons, List.length_nil, List.map_cons, List.map_nil, List.append_nil, List.nil_append, List.cons_append, List.nodup_cons, List.nodup_nil, List.mem_cons, List.not_mem_nil, or_false, or_true, false_or, true_or, not_true_eq_false, not_false_eq_true, and_true, true_and, and_false, false_and, List.take_succ_cons, List.take_zero, List.take_nil, List.replicate_succ, List.replicate_zero, sizeLine_eq, asBools, asInts, List.any_cons, List.any_nil, lcStep, forStep, Bool.not_true, Bool.not_false, ite_true, ite_false, Bool.false_eq_true, eq_self, leafsR, ldB, isNone, e_viewV, e_viewS, e_shV, e_shS, e_putV, e_putS, e_rvV, e_rvS, e_items, e_itLst, e_itTup, e_itOwn, e_itI, e_itB, e_itN, e_itStr, e_itScr, e_itDct, e_own, e_dctV, e_dctL, e_dctS, e_objV, e_objS, e_int1, e_int1b, e_abs, e_neg, e_lenL, e_lenT, e_lenS, e_all, e_any, e_sum, e_isB, e_isN, e_argN, e_argV, e_argS, e_slN, e_slV, e_slS, e_clN, e_clV, e_clS, e_pbN, e_pbV, e_pbS, e_lr0, e_lr1, e_wp0, e_wp1, e_re0, e_re1, e_slotS, e_slot0, e_as0, e_as1, e_addK, e_toDleaf, e_toDlst, e_toDdct, e_toDins, e_toDs0, e_toDs1, e_ownL, e_at0, e_at1, e_at2, e_atM1, e_cut1, e_whole1, ixN, Int.cast_ofNat_Int, Int.reduceLE, Int.reduceLT, Int.reduceNeg, Int.reduceAdd, Int.reduceSub, Int.reduceMul, Int.reduceToNat, Int.reduceEq, Int.reducePow, Nat.reducePow, Nat.reduceAdd, Nat.reduceSub, Nat.reduceMul, Nat.reduceLeDiff, Nat.reduceEqDiff, reduceCtorEq, Int.reduceNegSucc, Nat.zero_add, e_lv0, e_lv1, Nat.reduceLT, e_isi_int_0, e_isi_int_1, e_isi_int_2, e_isi_int_3, e_isi_int_4, e_isi_int_5, e_isi_int_6, e_isi_int_7, e_isi_bool_0, e_isi_bool_1, e_isi_bool_2, e_isi_bool_3, e_isi_bool_4, e_isi_bool_5, e_isi_bool_6, e_isi_bool_7, e_isi_str_0, e_isi_str_1, e_isi_str_2, e_isi_str_3, e_isi_str_4, e_isi_str_5, e_isi_str_6, e_isi_str_7, e_isi_tuple_0, e_isi_tuple_1, e_isi_tuple_2, e_isi_tuple_3, e_isi_tuple_4, e_isi_tuple_5, e_isi_tuple_6, e_isi_tuple_7, e_isi_list_0, e_isi_list_1, e_isi_list_2, e_isi_list_3, e_isi_list_4, e_isi_list_5, e_isi_list_6, e_isi_list_7, e_isi_dict_0, e_isi_dict_1, e_isi_dict_2, e_isi_dict_3, e_isi_dict_4, e_isi_dict_5, e_isi_dict_6, e_isi_dict_7, e_isi_list_tuple_0, e_isi_list_tuple_1, e_isi_list_tuple_2, e_isi_list_tuple_3, e_isi_list_tuple_4, e_isi_list_tuple_5, e_isi_list_tuple_6, e_isi_list_tuple_7, ev_dAddK, e_revT2, e_revT3, e_revF, ↓e_lastGet, e_dropLast, ne_eq])
/-! ### things -/
structure ThOk (h : Int) (J : List (Int × Int)) (d : D) : Prop where
  same : ∃ b : Bool, f_is_flow [.leaf (stairD h J), .leaf d] = some (.leaf (.bool b), [.leaf (stairD h J), .leaf d]) ∧ f__law_is_flow [.leaf (.int h), .leaf (.lst (J.map jD)), .leaf d] = some (.leaf (.bool b), [.leaf (.int h), .leaf (.lst (J.map jD)), .leaf d])
  tame : Tame 4 2000 d
theorem th_non {h : Int} {J : List (Int × Int)} {d : D} (hd : plainD d) (hn : ∀ kvs, d ≠ .dct kvs) (t : Tame 4 2000 d) : ThOk h J d := ⟨⟨false, flow_no h J d hd hn, law_no h J d hd hn⟩, t⟩
def ValL (v : D) : Prop := plainD v ∧ Tame 1 8 v
theorem tame_P : allP.all (fun p => tameB 1 8 (jD p)) = true := by decide +kernel
theorem tame_O : odd8.all (fun k => tameB 1 8 k) = true := by decide +kernel
theorem key_tame {k : D} (h : KeyL k) : Tame 1 8 k := by
  rcases h with ⟨p, hp, e⟩ | h
  · rw [e]
    exact tame_of (List.all_eq_true.mp tame_P p hp)
  · exact tame_of (List.all_eq_true.mp tame_O k h)
theorem key_nk {k : D} (h : KeyL k) : ∃ n, toKey k = some n ∧ n.depth ≤ 8 := by
  rcases h with ⟨p, hp, e⟩ | h
  · rw [e]
    exact ⟨_, toKey_jD p, kN_depth p⟩
  · simp only [odd8, List.mem_cons, List.not_mem_nil, or_false] at h
    rcases h with e | e | e | e | e | e | e | e <;> subst e <;> exact ⟨_, rfl, by decide⟩
structure DctOk (kvs : List (D × D)) : Prop where
  nd : (keysD kvs).Nodup
  ent : ∀ x ∈ kvs, KeyL x.1 ∧ ValL x.2
  len : kvs.length ≤ 30
theorem th_dct {h : Int} {J : List (Int × Int)} (hh : 2 ≤ h ∧ h ≤ 5) (hJ : JOk h h (h + 1) 25 J) {kvs : List (D × D)} (k : DctOk kvs) : ThOk h J (.dct kvs) := by
  have hs := hJ.sub hh.2
  refine ⟨?_, tame_mono (tame_dct (k := 1) (n := 8) fun x hx => ⟨key_tame (k.ent x hx).1, (k.ent x hx).2.2⟩) (by decide) (by have := k.len; omega)⟩
  cases c : kvs.all (okKv J) with
  | false => exact ⟨false, flow_bad h J hJ kvs (fun x hx => ⟨keyP_L (k.ent x hx).1, (k.ent x hx).2.1⟩) (by have := k.len; omega) c, law_bad h J hs hJ.len kvs (fun x hx => ⟨(k.ent x hx).1, (k.ent x hx).2.1⟩) (by have := k.len; omega) c⟩
  | true =>
    have a : ∀ kvs : List (D × D), kvs.all (okKv J) = true → ∃ qs : List ((Int × Int) × Int), kvs = qs.map kvD ∧ ∀ q ∈ qs, q.1 ∈ J ∧ 0 ≤ q.2 := by
      intro kvs
      induction kvs with
      | nil => exact fun _ => ⟨[], rfl, fun q hq => (nomatch hq)⟩
      | cons x kvs ih =>
        intro c
        rw [List.all_cons, Bool.and_eq_true] at c
        obtain ⟨qs, e, hq⟩ := ih c.2
        have c1 := Bool.and_eq_true_iff.mp c.1
        obtain ⟨k, v⟩ := x
        have k1 : inJ J k = true := c1.1
        have v1 : isCnt v = true := c1.2
        unfold inJ at k1
        split at k1
        · rename_i i j
          unfold isCnt at v1
          split at v1
          · rename_i n
            refine ⟨((i, j), n) :: qs, by rw [e]; rfl, fun q hq' => ?_⟩
            rcases List.mem_cons.mp hq' with e | hq'
            · rw [e]
              exact ⟨of_decide_eq_true k1, of_decide_eq_true v1⟩
            · exact hq q hq'
          · cases v1
        · cases k1
    obtain ⟨qs, e, hq⟩ := a kvs c
    subst e
    have hl : qs.length ≤ 1000 := by have := k.len; rw [List.length_map] at this; omega
    have hn : (qs.map (·.1)).Nodup := by
      have := k.nd
      rw [keysD_map kvD (fun q => kN q.1) qs fun q _ => toKey_jD q.1] at this
      rw [show (qs.map fun q => kN q.1) = (qs.map (·.1)).map kN by rw [List.map_map]; rfl] at this
      exact List.Pairwise.of_map kN (fun a b hab e => hab (e ▸ rfl)) this
    exact ⟨_, flow_good h J hh hJ qs hq hl, law_good h J hh hs hJ.len qs hn hq hl⟩
/-! ### dicts of jumps -/
structure QOk (J : List (Int × Int)) (qs : List ((Int × Int) × Int)) : Prop where
  nd : (qs.map (·.1)).Nodup
  ent : ∀ q ∈ qs, q.1 ∈ J ∧ q.2.natAbs < 10 ^ 38
  len : qs.length ≤ 26
theorem val_int {i : Int} (h : i.natAbs < 10 ^ 38) : ValL (.int i) := ⟨rfl, tame_mono (tame_int h) (by decide) (by decide)⟩
theorem QOk.keys {J : List (Int × Int)} {qs : List ((Int × Int) × Int)} (k : QOk J qs) : (keysD (qs.map kvD)).Nodup := by
  rw [keysD_map kvD (fun q => kN q.1) qs fun q _ => toKey_jD q.1]
  rw [show (qs.map fun q => kN q.1) = (qs.map (·.1)).map kN by rw [List.map_map]; rfl]
  exact List.Pairwise.map kN (fun a b hab e => hab (kN_inj e)) k.nd
theorem QOk.dct {J : List (Int × Int)} {qs : List ((Int × Int) × Int)} (k : QOk J qs) (hs : ∀ p ∈ J, p ∈ allP) : DctOk (qs.map kvD) := by
  refine ⟨k.keys, fun x hx => ?_, by have := k.len; rw [List.length_map]; omega⟩
  obtain ⟨q, hq, e⟩ := List.mem_map.mp hx
  subst e
  exact ⟨.inl ⟨q.1, hs _ (k.ent q hq).1, rfl⟩, val_int (k.ent q hq).2⟩
theorem QOk.puts {J : List (Int × Int)} {qs : List ((Int × Int) × Int)} (k : QOk J qs) : putsD [] (qs.map kvD) = some (qs.map kvD) := by
  have := putsD_new (qs.map kvD) [] (fun x hx => by
    obtain ⟨q, _, e⟩ := List.mem_map.mp hx
    subst e
    exact ⟨_, toKey_jD q.1, kN_depth q.1⟩) (by rw [sizeLine_eq]; have := k.len; simp; omega) k.keys
  exact this
theorem q_pairs (qs : List ((Int × Int) × Int)) : asPairs (qs.map fun q => .tup [jD q.1, .int q.2]) = some (qs.map kvD) := asPairs_map kvD qs
theorem QOk.filter {J : List (Int × Int)} {qs : List ((Int × Int) × Int)} (k : QOk J qs) (b : (Int × Int) × Int → Bool) : QOk J (qs.filter b) :=
  ⟨List.Sublist.nodup (List.Sublist.map _ List.filter_sublist) k.nd, fun q hq => k.ent q (List.mem_filter.mp hq).1, Nat.le_trans (List.length_filter_le _ _) k.len⟩
theorem QOk.get {J : List (Int × Int)} {qs : List ((Int × Int) × Int)} (k : QOk J qs) {q : (Int × Int) × Int} (hq : q ∈ qs) : getDct (qs.map kvD) (kN q.1) = some (.int q.2) := get_kv k.nd hq
/-! ### the same with one number otherwise -/
def neK (k : D) (p : Int × Int) : Bool := match gEqv true (jD p) k with
  | some (.bool b) => b
  | _ => false
theorem odd_py : odd8.all (fun k => match toPy k with | some q => SeqAt.shaped q | none => false) = true := by decide +kernel
theorem ne_key {k : D} (h : KeyL k) (p : Int × Int) : gEqv true (jD p) k = some (.bool (neK k p)) := by
  have : ∃ b, gEqv true (jD p) k = some (.bool b) := by
    rcases h with ⟨q, hq, e⟩ | h
    · rw [e]
      exact ⟨_, jne true p q⟩
    · have b := List.all_eq_true.mp odd_py k h
      try simp only at b
      split at b
      · rename_i q e
        exact ⟨_, eqv_of (toPy_tup (pl p)) e (shaped_tup _) b⟩
      · cases b
  obtain ⟨b, e⟩ := this
  unfold neK
  rw [e]
theorem other_ok {J : List (Int × Int)} {qs : List ((Int × Int) × Int)} (k : QOk J qs) (hs : ∀ p ∈ J, p ∈ allP) (w : W) (hw : w = .dct (qs.map kvD) ∨ w = .leaf (.dct (qs.map kvD))) (o v : D) (ho : KeyL o) :
    ∃ kvs, f__law_other [w, .leaf o, .leaf v] = some (.dct kvs, [.leaf (.dct (qs.map kvD)), .leaf o, .leaf v]) ∧ (keysD kvs).Nodup ∧ kvs.length ≤ qs.length + 1 ∧ ∀ x ∈ kvs, (x.1 = o ∨ ∃ q ∈ qs, x.1 = jD q.1) ∧ (x.2 = v ∨ ∃ q ∈ qs, x.2 = .int q.2) := by
  have l : lcLoop (gNm 3) (dTest (dBin (gEqv true) (dVar 3) (dVar 1))) (dSh (dTup (dCons (dVar 3) (dCons (dIxD (dVar 0) (dVar 3)) dNil)))) [3] (qs.map fun q => jD q.1) [] [some (.leaf (.dct (qs.map kvD))), some (.leaf o), some (.leaf v), none] = some ([] ++ qs.filterMap (fun q => if neK o q.1 = true then some (.tup [jD q.1, .int q.2]) else none), [some (.leaf (.dct (qs.map kvD))), some (.leaf o), some (.leaf v), none]) := by
    refine lc_pureM _ _ qs [] (fun q hq => ?_) (by rw [sizeLine_eq]; have := k.len; simp; omega)
    have e1 := ne_key ho q.1
    have e2 := toKey_jD q.1
    have e3 := kN_depth q.1
    have e4 := k.get hq
    have e5 : itemsW (.leaf (jD q.1)) = some (false, [.int q.1.1, .int q.1.2]) := rfl
    cases c : neK o q.1 with
    | true =>
      rw [c] at e1
      wide_line with [e1, e2, e3, e4]
    | false =>
      rw [c] at e1
      wide_line with [e1]
  have ek : (qs.map kvD).map (·.1) = qs.map fun q => jD q.1 := by rw [List.map_map]; rfl
  obtain ⟨ps, eps⟩ : ∃ ps : List (D × D), ps = (o, v) :: (qs.filter fun q => neK o q.1).map kvD := ⟨_, rfl⟩
  have e0 : .tup [o, v] :: (qs.filterMap fun q => if neK o q.1 = true then some (.tup [jD q.1, .int q.2]) else none) = ps.map fun x => D.tup [x.1, x.2] := by
    rw [fm_if (fun q : (Int × Int) × Int => neK o q.1) (fun q => D.tup [jD q.1, .int q.2]) qs, eps, List.map_cons, List.map_map]
    rfl
  have e1 : asPairs (.tup [o, v] :: (qs.filterMap fun q => if neK o q.1 = true then some (.tup [jD q.1, .int q.2]) else none)) = some ps := by
    rw [e0]
    have := asPairs_map (fun x : D × D => x) ps
    simpa using this
  have hpl : ps.length ≤ qs.length + 1 := by
    rw [eps, List.length_cons, List.length_map]
    have := List.length_filter_le (fun q : (Int × Int) × Int => neK o q.1) qs
    omega
  obtain ⟨kvs, q1, q2, q3, q4⟩ := putsD_ok ps [] (fun x hx => by
    rw [eps] at hx
    rcases List.mem_cons.mp hx with e | hx
    · rw [e]
      exact key_nk ho
    · obtain ⟨q, _, e⟩ := List.mem_map.mp hx
      subst e
      exact ⟨_, toKey_jD q.1, kN_depth q.1⟩) (by rw [sizeLine_eq]; have := k.len; simp; omega) List.nodup_nil
  have hfl : (qs.filterMap fun q => if neK o q.1 = true then some (D.tup [jD q.1, .int q.2]) else none).length ≤ 26 := Nat.le_trans (List.length_filterMap_le _ _) k.len
  refine ⟨kvs, ?_, q2, by simp at q3; omega, fun x hx => ?_⟩
  · have hs1 : 0 + 1 + (qs.filterMap fun q => if neK o q.1 = true then some (D.tup [jD q.1, .int q.2]) else none).length ≤ 16777216 := by omega
    have hs2 : 1 + (qs.filterMap fun q => if neK o q.1 = true then some (D.tup [jD q.1, .int q.2]) else none).length ≤ 16777216 := by omega
    rcases hw with hw | hw <;> subst hw
    · wide_line with [f__law_other, den__law_other, ek, l, e1, q1, hs1, hs2]
    · wide_line with [f__law_other, den__law_other, ek, l, e1, q1, hs1, hs2]
  · obtain ⟨⟨y, y1, y2⟩, ⟨z, z1, z2⟩⟩ := q4 x hx
    rw [List.nil_append, eps] at y1 z1
    constructor
    · rcases List.mem_cons.mp y1 with e | y1
      · exact .inl (by rw [y2, e])
      · obtain ⟨q, hq, e⟩ := List.mem_map.mp y1
        exact .inr ⟨q, (List.mem_filter.mp hq).1, by rw [y2, ← e]; rfl⟩
    · rcases List.mem_cons.mp z1 with e | z1
      · exact .inl (by rw [z2, e])
      · obtain ⟨q, hq, e⟩ := List.mem_map.mp z1
        exact .inr ⟨q, (List.mem_filter.mp hq).1, by rw [z2, ← e]; rfl⟩
/-- with any key and value: a thing -/
theorem other_th {h : Int} {J : List (Int × Int)} (hh : 2 ≤ h ∧ h ≤ 5) (hJ : JOk h h (h + 1) 25 J) {qs : List ((Int × Int) × Int)} (k : QOk J qs) (w : W) (hw : w = .dct (qs.map kvD) ∨ w = .leaf (.dct (qs.map kvD))) (o v : D) (ho : KeyL o) (hv : ValL v) :
    ∃ kvs, f__law_other [w, .leaf o, .leaf v] = some (.dct kvs, [.leaf (.dct (qs.map kvD)), .leaf o, .leaf v]) ∧ ThOk h J (.dct kvs) := by
  have hs := hJ.sub hh.2
  obtain ⟨kvs, e, e1, e2, e3⟩ := other_ok k hs w hw o v ho
  refine ⟨kvs, e, th_dct hh hJ ⟨e1, fun x hx => ?_, by have := k.len; omega⟩⟩
  obtain ⟨h1, h2⟩ := e3 x hx
  constructor
  · rcases h1 with e | ⟨q, hq, e⟩
    · rw [e]; exact ho
    · rw [e]; exact .inl ⟨q.1, hs _ (k.ent q hq).1, rfl⟩
  · rcases h2 with e | ⟨q, hq, e⟩
    · rw [e]; exact hv
    · rw [e]; exact val_int (k.ent q hq).2
/-- with a jump and a number: a dict of jumps again -/
theorem other_q {J : List (Int × Int)} {qs : List ((Int × Int) × Int)} (hs : ∀ p ∈ J, p ∈ allP) (k : QOk J qs) (hl : qs.length ≤ 25) (w : W) (hw : w = .dct (qs.map kvD) ∨ w = .leaf (.dct (qs.map kvD))) (p : Int × Int) (hp : p ∈ J) (i : Int) (hi : i.natAbs < 10 ^ 38) :
    ∃ qs' : List ((Int × Int) × Int), f__law_other [w, .leaf (jD p), .leaf (.int i)] = some (.dct (qs'.map kvD), [.leaf (.dct (qs.map kvD)), .leaf (jD p), .leaf (.int i)]) ∧ QOk J qs' := by
  obtain ⟨kvs, e, e1, e2, e3⟩ := other_ok k hs w hw (jD p) (.int i) (.inl ⟨p, hs _ hp, rfl⟩)
  have a : ∀ kvs : List (D × D), (∀ x ∈ kvs, (∃ p ∈ J, x.1 = jD p) ∧ ∃ i : Int, x.2 = .int i ∧ i.natAbs < 10 ^ 38) → ∃ qs : List ((Int × Int) × Int), kvs = qs.map kvD ∧ ∀ q ∈ qs, q.1 ∈ J ∧ q.2.natAbs < 10 ^ 38 := by
    intro kvs
    induction kvs with
    | nil => exact fun _ => ⟨[], rfl, fun q hq => (nomatch hq)⟩
    | cons x kvs ih =>
      intro c
      obtain ⟨qs, e, hq⟩ := ih fun y hy => c y (List.mem_cons_of_mem _ hy)
      obtain ⟨⟨p, hp, e1⟩, ⟨i, e2, hi⟩⟩ := c x List.mem_cons_self
      refine ⟨(p, i) :: qs, ?_, fun q hq' => ?_⟩
      · rw [List.map_cons, ← e]
        congr 1
        exact Prod.ext e1 e2
      · rcases List.mem_cons.mp hq' with e | hq'
        · rw [e]
          exact ⟨hp, hi⟩
        · exact hq q hq'
  obtain ⟨qs', e4, h4⟩ := a kvs fun x hx => by
    obtain ⟨h1, h2⟩ := e3 x hx
    constructor
    · rcases h1 with e | ⟨q, hq, e⟩
      · exact ⟨p, hp, e⟩
      · exact ⟨q.1, (k.ent q hq).1, e⟩
    · rcases h2 with e | ⟨q, hq, e⟩
      · exact ⟨i, e, hi⟩
      · exact ⟨q.2, e, (k.ent q hq).2⟩
  subst e4
  refine ⟨qs', e, ?_, h4, by rw [List.length_map] at e2; omega⟩
  rw [keysD_map kvD (fun q => kN q.1) qs' fun q _ => toKey_jD q.1] at e1
  rw [show (qs'.map fun q => kN q.1) = (qs'.map (·.1)).map kN by rw [List.map_map]; rfl] at e1
  exact List.Pairwise.of_map kN (fun a b hab e => hab (e ▸ rfl)) e1
end K22
set_option Elab.async false
set_option linter.all false
set_option maxRecDepth 100000
set_option maxHeartbeats 0
namespace K22
open PySem PySem.Spec PyProof.Rows L2 Ws
local macro_rules
  | `(tactic| wide_line) => `(tactic| simp -dsimp -implicitDefEqProofs only [ev_dSh, ev_dVal, ev_dVar, ev_dC, ev_dBin, ev_dTest, ev_dAnd, ev_dOr, ev_dNot, ev_dOfT, ev_dOne, ev_dAndV, ev_dOrV, ev_dNotV, ev_dIf, ev_dChain, ev_dNil, ev_dCons, ev_dLst, ev_dTup, ev_dSeq, ev_dNext, ev_dBrk, ev_dCont, ev_dRet, ev_dRetN, ev_dDrop, ev_dIfS, ev_dNever, ev_dSet, ev_dRCons, ev_dRNil, ev_dCall, ev_dRecv, ev_gNm, ev_gsNil, ev_gsCons, ev_gTp, ev_dAsg, ev_dISeq, ev_dIRange1, ev_dIRange2, ev_dIRange3, ev_dIEnum, ev_dIZip, ev_dFor, ev_dLc, ev_dYes, ev_dIx, ev_dNoPart, ev_dPart, ev_dSlice, ev_dRev, ev_dAdd, ev_dMul, ev_dUn, ev_dAppend, ev_dExtend, ev_dPopAt, ev_dPop, ev_gIx, ev_dList, ev_dTuple, ev_dDivmod, ev_dXm, ev_dXf, ev_dIsX, ev_dPar, ev_dDict0, ev_dDict1, ev_dXr, ev_dXif, ev_dCallX, ev_dFld, ev_dCon, ev_dFldSet, ev_dMk, ev_dIxD, ev_gIxD, ev_dIKeys, ev_dIVals, ev_dIItems, ev_dDict, ev_dItL, ev_dItT, ev_dSorted, ev_dIZipN, ev_revR, ob_some, om_some, ob_none, om_none, b_some, m_some, ev_gSub, ev_gLt, ev_gLe, ev_gGt, ev_gGe, ev_gMax2, ev_gMin2, ev_gMod, ev_gDiv, ev_gMulI, ev_eqv, ev_sv_int, ev_sv_bool, ev_sv_none, ev_sv_str, ev_toDs, ev_flat, ev_leafApp, ev_leafLen, ev_flatNil, ev_flatCons, ev_dFn, ev_dOutV, ev_dOutS, ev_dOutN, ↓reduceIte, if_true, if_false, decide_true, decide_false, List.getElem?_cons_succ, List.getElem?_cons_zero, List.getElem?_nil, List.set_cons_succ, List.set_cons_zero, List.length_cons, List.length_nil, List.map_cons, List.map_nil, List.append_nil, List.nil_append, List.cons_append, List.nodup_cons, List.nodup_nil, List.mem_cons, List.not_mem_nil, or_false, or_true, false_or, true_or, not_true_eq_false, not_false_eq_true, and_true, true_and, and_false, false_and, List.take_succ_cons, List.take_zero, List.take_nil, List.replicate_succ, List.replicate_zero, sizeLine_eq, asBools, asInts, List.any_cons, List.any_nil, lcStep, forStep, Bool.not_true, Bool.not_false, ite_true, ite_false, Bool.false_eq_true, eq_self, leafsR, ldB, isNone, e_viewV, e_viewS, e_shV, e_shS, e_putV, e_putS, e_rvV, e_rvS, e_items, e_itLst, e_itTup, e_itOwn, e_itI, e_itB, e_itN, e_itStr, e_itScr, e_itDct, e_own, e_dctV, e_dctL, e_dctS, e_objV, e_objS, e_int1, e_int1b, e_abs, e_neg, e_lenL, e_lenT, e_lenS, e_all, e_any, e_sum, e_isB, e_isN, e_argN, e_argV, e_argS, e_slN, e_slV, e_slS, e_clN, e_clV, e_clS, e_pbN, e_pbV, e_pbS, e_lr0, e_lr1, e_wp0, e_wp1, e_re0, e_re1, e_slotS, e_slot0, e_as0, e_as1, e_addK, e_toDleaf, e_toDlst, e_toDdct, e_toDins, e_toDs0, e_toDs1, e_ownL, e_at0, e_at1, e_at2, e_atM1, e_cut1, e_whole1, ixN, Int.cast_ofNat_Int, Int.reduceLE, Int.reduceLT, Int.reduceNeg, Int.reduceAdd, Int.reduceSub, Int.reduceMul, Int.reduceToNat, Int.reduceEq, Int.reducePow, Nat.reducePow, Nat.reduceAdd, Nat.reduceSub, Nat.reduceMul, Nat.reduceLeDiff, Nat.reduceEqDiff, reduceCtorEq, Int.reduceNegSucc, Nat.zero_add, e_lv0, e_lv1, Nat.reduceLT, e_isi_int_0, e_isi_int_1, e_isi_int_2, e_isi_int_3, e_isi_int_4, e_isi_int_5, e_isi_int_6, e_isi_int_7, e_isi_bool_0, e_isi_bool_1, e_isi_bool_2, e_isi_bool_3, e_isi_bool_4, e_isi_bool_5, e_isi_bool_6, e_isi_bool_7, e_isi_str_0, e_isi_str_1, e_isi_str_2, e_isi_str_3, e_isi_str_4, e_isi_str_5, e_isi_str_6, e_isi_str_7, e_isi_tuple_0, e_isi_tuple_1, e_isi_tuple_2, e_isi_tuple_3, e_isi_tuple_4, e_isi_tuple_5, e_isi_tuple_6, e_isi_tuple_7, e_isi_list_0, e_isi_list_1, e_isi_list_2, e_isi_list_3, e_isi_list_4, e_isi_list_5, e_isi_list_6, e_isi_list_7, e_isi_dict_0, e_isi_dict_1, e_isi_dict_2, e_isi_dict_3, e_isi_dict_4, e_isi_dict_5, e_isi_dict_6, e_isi_dict_7, e_isi_list_tuple_0, e_isi_list_tuple_1, e_isi_list_tuple_2, e_isi_list_tuple_3, e_isi_list_tuple_4, e_isi_list_tuple_5, e_isi_list_tuple_6, e_isi_list_tuple_7, ev_dAddK, e_revT2, e_revT3, e_revF, ↓e_lastGet, e_dropLast, ne_eq])
  | `(tactic| wide_line with [$ls,*]) => `(tactic| simp -dsimp -implicitDefEqProofs only [$[$ls:term],*, ev_dSh, ev_dVal, ev_dVar, ev_dC, ev_dBin, ev_dTest, ev_dAnd, ev_dOr, ev_dNot, ev_dOfT, ev_dOne, ev_dAndV, ev_dOrV, ev_dNotV, ev_dIf, ev_dChain, ev_dNil, ev_dCons, ev_dLst, ev_dTup, ev_dSeq, ev_dNext, ev_dBrk, ev_dCont, ev_dRet, ev_dRetN, ev_dDrop, ev_dIfS, ev_dNever, ev_dSet, ev_dRCons, ev_dRNil, ev_dCall, ev_dRecv, ev_gNm, ev_gsNil, ev_gsCons, ev_gTp, ev_dAsg, ev_dISeq, ev_dIRange1, ev_dIRange2, ev_dIRange3, ev_dIEnum, ev_dIZip, ev_dFor, ev_dLc, ev_dYes, ev_dIx, ev_dNoPart, ev_dPart, ev_dSlice, ev_dRev, ev_dAdd, ev_dMul, ev_dUn, ev_dAppend, ev_dExtend, ev_dPopAt, ev_dPop, ev_gIx, ev_dList, ev_dTuple, ev_dDivmod, ev_dXm, ev_dXf, ev_dIsX, ev_dPar, ev_dDict0, ev_dDict1, ev_dXr, ev_dXif, ev_dCallX, ev_dFld, ev_dCon, ev_dFldSet, ev_dMk, ev_dIxD, ev_gIxD, ev_dIKeys, ev_dIVals, ev_dIItems, ev_dDict, ev_dItL, ev_dItT, ev_dSorted, ev_dIZipN, ev_revR, ob_some, om_some, ob_none, om_none, b_some, m_some, ev_gSub, ev_gLt, ev_gLe, ev_gGt, ev_gGe, ev_gMax2, ev_gMin2, ev_gMod, ev_gDiv, ev_gMulI, ev_eqv, ev_sv_int, ev_sv_bool, ev_sv_none, ev_sv_str, ev_toDs, ev_flat, ev_leafApp, ev_leafLen, ev_flatNil, ev_flatCons, ev_dFn, ev_dOutV, ev_dOutS, ev_dOutN, ↓reduceIte, if_true, if_false, decide_true, decide_false, List.getElem?_cons_succ, List.getElem?_cons_zero, List.getElem?_nil, List.set_cons_succ, List.set_cons_zero, List.length_cons, List.length_nil, List.map_cons, List.map_nil, List.append_nil, List.nil_append, List.cons_append, List.nodup_cons, List.nodup_nil, List.mem_cons, List.not_mem_nil, or_false, or_true, false_or, true_or, not_true_eq_false, not_false_eq_true, and_true, true_and, and_false, false_and, List.take_succ_cons, List.take_zero, List.take_nil, List.replicate_succ, List.replicate_zero, sizeLine_eq, asBools, asInts, List.any_cons, List.any_nil, lcStep, forStep, Bool.not_true, Bool.not_false, ite_true, ite_false, Bool.false_eq_true, eq_self, leafsR, ldB, isNone, e_viewV, e_viewS, e_shV, e_shS, e_putV, e_putS, e_rvV, e_rvS, e_items, e_itLst, e_itTup, e_itOwn, e_itI, e_itB, e_itN, e_itStr, e_itScr, e_itDct, e_own, e_dctV, e_dctL, e_dctS, e_objV, e_objS, e_int1, e_int1b, e_abs, e_neg, e_lenL, e_lenT, e_lenS, e_all, e_any, e_sum, e_isB, e_isN, e_argN, e_argV, e_argS, e_slN, e_slV, e_slS, e_clN, e_clV, e_clS, e_pbN, e_pbV, e_pbS, e_lr0, e_lr1, e_wp0, e_wp1, e_re0, e_re1, e_slotS, e_slot0, e_as0, e_as1, e_addK, e_toDleaf, e_toDlst, e_toDdct, e_toDins, e_toDs0, e_toDs1, e_ownL, e_at0, e_at1, e_at2, e_atM1, e_cut1, e_whole1, ixN, Int.cast_ofNat_Int, Int.reduceLE, Int.reduceLT, Int.reduceNeg, Int.reduceAdd, Int.reduceSub, Int.reduceMul, Int.reduceToNat, Int.reduceEq, Int.reducePow, Nat.reducePow, Nat.reduceAdd, Nat.reduceSub, Nat.reduceMul, Nat.reduceLeDiff, Nat.reduceEqDiff, reduceCtorEq, Int.reduceNegSucc, Nat.zero_add, e_lv0, e_lv1, Nat.reduceLT, e_isi_int_0, e_isi_int_1, e_isi_int_2, e_isi_int_3, e_isi_int_4, e_isi_int_5, e_isi_int_6, e_isi_int_7, e_isi_bool_0, e_isi_bool_1, e_isi_bool_2, e_isi_bool_3, e_isi_bool_4, e_isi_bool_5, e_isi_bool_6, e_isi_bool_7, e_isi_str_0, e_isi_str_1, e_isi_str_2, e_isi_str_3, e_isi_str_4, e_isi_str_5, e_isi_str_6, e_isi_str_7, e_isi_tuple_0, e_isi_tuple_1, e_isi_tuple_2, e_isi_tuple_3, e_isi_tuple_4, e_isi_tuple_5, e_isi_tuple_6, e_isi_tuple_7, e_isi_list_0, e_isi_list_1, e_isi_list_2, e_isi_list_3, e_isi_list_4, e_isi_list_5, e_isi_list_6, e_isi_list_7, e_isi_dict_0, e_isi_dict_1, e_isi_dict_2, e_isi_dict_3, e_isi_dict_4, e_isi_dict_5, e_isi_dict_6, e_isi_dict_7, e_isi_list_tuple_0, e_isi_list_tuple_1, e_isi_list_tuple_2, e_isi_list_tuple_3, e_isi_list_tuple_4, e_isi_list_tuple_5, e_isi_list_tuple_6, e_isi_list_tuple_7, ev_dAddK, e_revT2, e_revT3, e_revF, ↓e_lastGet, e_dropLast, ne_eq])
/-! ### bent -/
theorem th_val {h : Int} {J : List (Int × Int)} {d : D} (hd : plainD d) (hn : ∀ kvs, d ≠ .dct kvs) (b : tameB 4 2000 d = true) : ThOk h J d := th_non hd hn (tame_of b)
abbrev bE (x y h : Int) (J : List (Int × Int)) (ld : List (D × D)) (T : List D) (a b c d e : Option W) : Ws.Env := [some (P x y), some (.leaf (.int h)), some (.leaf (.lst (J.map jD))), some (.leaf (.dct ld)), some (.lst (leaves T)), a, b, c, d, e]
def oddL (h : Int) : List D := [.str "feet", .int 1, .tup [.int 0, .int (h + 1)], .tup [.int 1, .int 0], .none, .tup [], .tup [.int 0], .tup [.int 0, .int 0], .tup [.int 0, .int 1, .int 2], .tup [.bool false, .bool true], .str "(0, 1)"]
theorem oddL_key {h : Int} (hh : 2 ≤ h ∧ h ≤ 5) : ∀ k ∈ oddL h, KeyL k := by
  intro k hk
  have o : ∀ k, k ∈ odd8 → KeyL k := fun k h => .inr h
  have q : ∀ p, p ∈ allP → KeyL (jD p) := fun p h => .inl ⟨p, h, rfl⟩
  have h6 : (0, h + 1) ∈ allP := by
    have : h = 2 ∨ h = 3 ∨ h = 4 ∨ h = 5 := by omega
    rcases this with e | e | e | e <;> subst e <;> decide
  simp only [oddL, List.mem_cons, List.not_mem_nil, or_false] at hk
  rcases hk with e | e | e | e | e | e | e | e | e | e | e <;> subst e
  · exact o _ (by simp [odd8])
  · exact o _ (by simp [odd8])
  · exact q (0, h + 1) h6
  · exact q (1, 0) (by decide)
  · exact o _ (by simp [odd8])
  · exact o _ (by simp [odd8])
  · exact o _ (by simp [odd8])
  · exact q (0, 0) (by decide)
  · exact o _ (by simp [odd8])
  · exact o _ (by simp [odd8])
  · exact o _ (by simp [odd8])
abbrev oddBody : Den Out := dDrop (dAppend 4 (dCall f__law_other (dRCons (dVar 3) (dRCons (dVar 5) (dRCons (dCall f__law_pick (dRCons (dVar 0) (dRCons (dLst (dCons (dC (.int 0)) (dCons (dC (.int 1)) dNil))) dRNil)) []) dRNil))) []))
theorem odd_loop {h : Int} {J : List (Int × Int)} (hh : 2 ≤ h ∧ h ≤ 5) (hJ : JOk h h (h + 1) 25 J) {qs : List ((Int × Int) × Int)} (k : QOk J qs) (x y : Int) (hy : PotOk y) (T : List D) (hT : ∀ t ∈ T, ThOk h J t) (hl : T.length ≤ 100) :
    ∃ x' y' T' a', forLoop (gNm 5) oddBody (oddL h) (bE x y h J (qs.map kvD) T none none none none none) = some (.next, bE x' y' h J (qs.map kvD) T' a' none none none none) ∧ PotOk y' ∧ (∀ t ∈ T', ThOk h J t) ∧ T'.length = T.length + 11 := by
  obtain ⟨ρ', e1, x', y', T', a', e2, hy', hT', hl'⟩ := for_run (g := gNm 5) (body := oddBody) (fun i ρ => ∃ x' y' T' a', ρ = bE x' y' h J (qs.map kvD) T' a' none none none none ∧ PotOk y' ∧ (∀ t ∈ T', ThOk h J t) ∧ T'.length = T.length + i) (oddL h) 0 (bE x y h J (qs.map kvD) T none none none none none) ⟨x, y, T, none, rfl, hy, hT, rfl⟩ (fun i d ρ hd ⟨x1, y1, T1, a1, e, hy1, hT1, hl1⟩ => by
    subst e
    have hi : i < 11 := (List.getElem?_eq_some_iff.mp hd).1
    have ho := oddL_key hh d (List.mem_of_getElem? hd)
    obtain ⟨v, x2, y2, e3, hv, hy2⟩ := pick_ok x1 y1 (.lst (leaves [.int 0, .int 1])) [.int 0, .int 1] (.inl rfl) hy1 (by decide)
    have hv' : ValL v := by
      rcases List.mem_cons.mp hv with e | hv
      · rw [e]; exact val_int (by decide)
      · rcases List.mem_cons.mp hv with e | hv
        · rw [e]; exact val_int (by decide)
        · cases hv
    obtain ⟨kvs, e4, t⟩ := other_th hh hJ k (.leaf (.dct (qs.map kvD))) (.inr rfl) d v ho hv'
    have e3' : f__law_pick [P x1 y1, .lst [.leaf (.int 0), .leaf (.int 1)]] = some (.leaf v, [P x2 y2, .lst [.leaf (.int 0), .leaf (.int 1)]]) := e3
    have hl2 : T1.length < 16777216 := by omega
    refine ⟨_, .inl ?_, x2, y2, T1 ++ [.dct kvs], some (.leaf d), rfl, hy2, fun t' ht' => ?_, by simp; omega⟩
    · wide_line with [e3', e4, hl2, bE]
    · rcases List.mem_append.mp ht' with z | z
      · exact hT1 t' z
      · have : t' = .dct kvs := by simpa using z
        rw [this]
        exact t)
  exact ⟨x', y', T', a', by rw [← e2]; exact e1, hy', hT', by rw [hl', Nat.zero_add]; rfl⟩
def badL (n : Int) : List D := [.bool true, .bool false, .none, .int (-1), .str "0", .tup [.int 0], .lst [.int 1], .int (n + 1), .int (if n - 1 > 0 then n - 1 else 0), .int n]
theorem badL_val {n : Int} (hn : n.natAbs < 10 ^ 37) : ∀ v ∈ badL n, ValL v := by
  intro v hv
  have h38 : (10 : Nat) ^ 38 = 10 ^ 37 * 10 := by decide
  simp only [badL, List.mem_cons, List.not_mem_nil, or_false] at hv
  rcases hv with e | e | e | e | e | e | e | e | e | e <;> subst e
  · exact ⟨rfl, tame_of (by decide +kernel)⟩
  · exact ⟨rfl, tame_of (by decide +kernel)⟩
  · exact ⟨rfl, tame_of (by decide +kernel)⟩
  · exact ⟨rfl, tame_of (by decide +kernel)⟩
  · exact ⟨rfl, tame_of (by decide +kernel)⟩
  · exact ⟨rfl, tame_of (by decide +kernel)⟩
  · exact ⟨rfl, tame_of (by decide +kernel)⟩
  · exact val_int (by omega)
  · exact val_int (by split <;> omega)
  · exact val_int (by omega)
abbrev badBody : Den Out := dDrop (dAppend 4 (dCall f__law_other (dRCons (dVar 3) (dRCons (dVar 6) (dRCons (dVar 8) dRNil))) []))
theorem bad_loop {h : Int} {J : List (Int × Int)} (hh : 2 ≤ h ∧ h ≤ 5) (hJ : JOk h h (h + 1) 25 J) {qs : List ((Int × Int) × Int)} (k : QOk J qs) (x y : Int) (p q : Int × Int) (hp : p ∈ J) (n : Int) (hn : n.natAbs < 10 ^ 37) (T : List D) (hT : ∀ t ∈ T, ThOk h J t) (hl : T.length ≤ 100) (a : Option W) :
    ∃ T' b', forLoop (gNm 8) badBody (badL n) (bE x y h J (qs.map kvD) T a (some (.leaf (jD p))) (some (.leaf (jD q))) none none) = some (.next, bE x y h J (qs.map kvD) T' a (some (.leaf (jD p))) (some (.leaf (jD q))) b' none) ∧ (∀ t ∈ T', ThOk h J t) ∧ T'.length = T.length + 10 := by
  obtain ⟨ρ', e1, T', b', e2, hT', hl'⟩ := for_run (g := gNm 8) (body := badBody) (fun i ρ => ∃ T' b', ρ = bE x y h J (qs.map kvD) T' a (some (.leaf (jD p))) (some (.leaf (jD q))) b' none ∧ (∀ t ∈ T', ThOk h J t) ∧ T'.length = T.length + i) (badL n) 0 (bE x y h J (qs.map kvD) T a (some (.leaf (jD p))) (some (.leaf (jD q))) none none) ⟨T, none, rfl, hT, rfl⟩ (fun i d ρ hd ⟨T1, b1, e, hT1, hl1⟩ => by
    subst e
    have hi : i < 10 := (List.getElem?_eq_some_iff.mp hd).1
    have hv := badL_val hn d (List.mem_of_getElem? hd)
    obtain ⟨kvs, e4, t⟩ := other_th hh hJ k (.leaf (.dct (qs.map kvD))) (.inr rfl) (jD p) d (.inl ⟨p, hJ.sub hh.2 _ hp, rfl⟩) hv
    have hl2 : T1.length < 16777216 := by omega
    refine ⟨_, .inl ?_, T1 ++ [.dct kvs], some (.leaf d), rfl, fun t' ht' => ?_, by simp; omega⟩
    · wide_line with [e4, hl2, bE]
    · rcases List.mem_append.mp ht' with z | z
      · exact hT1 t' z
      · have : t' = .dct kvs := by simpa using z
        rw [this]
        exact t)
  exact ⟨T', b', by rw [← e2]; exact e1, hT', by rw [hl', Nat.zero_add]; rfl⟩
theorem th_q {h : Int} {J : List (Int × Int)} (hh : 2 ≤ h ∧ h ≤ 5) (hJ : JOk h h (h + 1) 25 J) {qs : List ((Int × Int) × Int)} (k : QOk J qs) : ThOk h J (.dct (qs.map kvD)) := th_dct hh hJ (k.dct (hJ.sub hh.2))
theorem pairs_tame {J : List (Int × Int)} {qs : List ((Int × Int) × Int)} (k : QOk J qs) (hs : ∀ p ∈ J, p ∈ allP) : ∀ x ∈ pairsD (qs.map kvD), Tame 2 18 x := by
  intro x hx
  rw [pairsD_kv] at hx
  obtain ⟨q, hq, e⟩ := List.mem_map.mp hx
  subst e
  refine tame_tup (k := 1) (n := 8) fun z hz => ?_
  rcases List.mem_cons.mp hz with e | hz
  · rw [e]
    exact key_tame (.inl ⟨q.1, hs _ (k.ent q hq).1, rfl⟩)
  · rcases List.mem_cons.mp hz with e | hz
    · rw [e]
      exact (val_int (k.ent q hq).2).2
    · cases hz
theorem bent_ok {h : Int} {J : List (Int × Int)} (hh : 2 ≤ h ∧ h ≤ 5) (hJ : JOk h h (h + 1) 25 J) (F : Fw) (hF : FlOk J h 20 F) (x y : Int) (hy : PotOk y) :
    ∃ T x' y', f__law_bent [P x y, .leaf (.int h), .leaf (.lst (J.map jD)), .dct ((fq J F).map kvD)] = some (.lst (leaves T), [P x' y', .leaf (.int h), .leaf (.lst (J.map jD)), .leaf (.dct ((fq J F).map kvD))]) ∧ PotOk y' ∧ (∀ t ∈ T, ThOk h J t) ∧ T.length ≤ 60 := by
  have hs := hJ.sub hh.2
  have hb : ∀ p, (F p).natAbs < 10 ^ 37 := by
    intro p
    have h1 := hF.pos p
    have h2 := hF.le p
    have e : ((20 : Nat) : Int) * 10 ^ 20 < 10 ^ 37 := by decide
    omega
  obtain ⟨qs, eq⟩ : ∃ qs, qs = fq J F := ⟨_, rfl⟩
  have k : QOk J qs := by
    rw [eq]
    refine ⟨fq_nd hJ.nodup F, fun q hq => ?_, by unfold fq; rw [List.length_map]; have := hJ.len; omega⟩
    obtain ⟨p, hp, e⟩ := List.mem_map.mp hq
    subst e
    have := hb p
    exact ⟨hp, Nat.lt_trans this (by decide)⟩
  have hql : qs.length ≤ 25 := by rw [eq]; unfold fq; rw [List.length_map]; exact hJ.len
  rw [← eq]
  -- the ones above 0
  have l0 : lcLoop (gNm 6) (dTest (dBin gGt (dIxD (dVar 3) (dVar 6)) (dC (.int 0)))) (dSh (dTup (dCons (dVar 6) (dCons (dIxD (dVar 3) (dVar 6)) dNil)))) [6] (qs.map fun q => jD q.1) [] [some (P x y), some (.leaf (.int h)), some (.leaf (.lst (J.map jD))), some (.leaf (.dct (qs.map kvD))), none, none, none, none, none, none] = some ([] ++ qs.filterMap (fun q => if decide (0 < q.2) = true then some (.tup [jD q.1, .int q.2]) else none), [some (P x y), some (.leaf (.int h)), some (.leaf (.lst (J.map jD))), some (.leaf (.dct (qs.map kvD))), none, none, none, none, none, none]) := by
    refine lc_pureM _ _ qs [] (fun q hq => ?_) (by rw [sizeLine_eq]; simp; omega)
    have e2 := toKey_jD q.1
    have e3 := kN_depth q.1
    have e4 := k.get hq
    by_cases c : 0 < q.2
    · wide_line with [e2, e3, e4, c]
    · wide_line with [e2, e3, e4, c]
  have ek : (qs.map kvD).map (·.1) = qs.map fun q => jD q.1 := by rw [List.map_map]; rfl
  have l1 : asPairs (qs.filterMap (fun q => if decide (0 < q.2) = true then some (.tup [jD q.1, .int q.2]) else none)) = some ((qs.filter fun q => decide (0 < q.2)).map kvD) := by
    rw [fm_if (fun q : (Int × Int) × Int => decide (0 < q.2)) (fun q => D.tup [jD q.1, .int q.2]) qs]
    exact q_pairs _
  have k1 := k.filter fun q => decide (0 < q.2)
  have l2 := k1.puts
  have l3 : (qs.filterMap (fun q => if decide (0 < q.2) = true then some (D.tup [jD q.1, .int q.2]) else none)).length ≤ 16777216 := by
    have := List.length_filterMap_le (fun q : (Int × Int) × Int => if decide (0 < q.2) = true then some (D.tup [jD q.1, .int q.2]) else none) qs
    omega
  -- turned about
  have r1 : asPairs (pairsD (qs.map kvD)).reverse = some (qs.reverse.map kvD) := by
    rw [pairsD_kv, ← List.map_reverse]
    exact q_pairs _
  have kr : QOk J qs.reverse := ⟨by rw [List.map_reverse]; exact List.pairwise_reverse.mpr (k.nd.imp fun h e => h e.symm), fun q hq => k.ent q (List.mem_reverse.mp hq), by rw [List.length_reverse]; exact k.len⟩
  have r2 := kr.puts
  obtain ⟨T0, eT0⟩ : ∃ T0 : List D, T0 = [.dct (qs.map kvD), .dct [], .dct ((qs.filter fun q => decide (0 < q.2)).map kvD), .dct (qs.reverse.map kvD), .none, .int 0, .str "", .lst [], .bool true, .lst (pairsD (qs.map kvD)), .tup (pairsD (qs.map kvD))] := ⟨_, rfl⟩
  have hp0 : (pairsD (qs.map kvD)).length ≤ 25 := by unfold pairsD; simpa using hql
  have hT0 : ∀ t ∈ T0, ThOk h J t := by
    intro t ht
    rw [eT0] at ht
    simp only [List.mem_cons, List.not_mem_nil, or_false] at ht
    rcases ht with e | e | e | e | e | e | e | e | e | e | e <;> subst e
    · exact th_q hh hJ k
    · exact th_dct hh hJ ⟨List.nodup_nil, fun x hx => (nomatch hx), by decide⟩
    · exact th_q hh hJ k1
    · exact th_q hh hJ kr
    · exact th_val rfl (fun _ e => nomatch e) (by decide +kernel)
    · exact th_val rfl (fun _ e => nomatch e) (by decide +kernel)
    · exact th_val rfl (fun _ e => nomatch e) (by decide +kernel)
    · exact th_val rfl (fun _ e => nomatch e) (by decide +kernel)
    · exact th_val rfl (fun _ e => nomatch e) (by decide +kernel)
    · exact th_non rfl (fun _ e => nomatch e) (tame_mono (tame_lst (pairs_tame k hs)) (by decide) (by omega))
    · exact th_non rfl (fun _ e => nomatch e) (tame_mono (tame_tup (pairs_tame k hs)) (by decide) (by omega))
  obtain ⟨x1, y1, T1, a1, e1, hy1, hT1, hl1⟩ := odd_loop hh hJ k x y hy T0 hT0 (by rw [eT0]; exact (by decide : 11 ≤ 100))
  have hl1' : T1.length = 22 := by rw [hl1, eT0]; rfl
  have e1' := e1
  rw [eT0] at e1'
  unfold oddL bE at e1'
  simp only [e_lv0, e_lv1] at e1'
  have front : den__law_bent [some (P x y), some (.leaf (.int h)), some (.leaf (.lst (J.map jD))), some (.dct (qs.map kvD)), none, none, none, none, none, none] = den__law_bent_3 (bE x1 y1 h J (qs.map kvD) T1 a1 none none none none) := by
    wide_line with [den__law_bent, den__law_bent_1, den__law_bent_2, ek, l0, l1, l2, l3, r1, r2, e1', List.length_reverse, bE]
  have hne := ne_nil true (J.map pl)
  rw [← jD_pl] at hne
  by_cases hJ0 : J = []
  · have hne' : gEqv true (.lst (J.map jD)) (.lst []) = some (.bool false) := by
      rw [hne, hJ0]
      rfl
    refine ⟨T1, x1, y1, ?_, hy1, hT1, by omega⟩
    wide_line with [f__law_bent, front, den__law_bent_3, den__law_bent_4, hne', bE]
  · have hne' : gEqv true (.lst (J.map jD)) (.lst []) = some (.bool true) := by
      rw [hne, if_pos rfl, decide_eq_false (by simpa using hJ0)]
      rfl
    have hJl : 0 < (J.map jD).length ∧ (J.map jD).length ≤ 1000 := by
      have := hJ.len
      rw [List.length_map]
      cases J with
      | nil => exact absurd rfl hJ0
      | cons _ _ => simp at this ⊢; omega
    obtain ⟨d1, x2, y2, g1, hd1, hy2⟩ := pick_ok x1 y1 (.leaf (.lst (J.map jD))) (J.map jD) (.inr rfl) hy1 hJl
    obtain ⟨d2, x3, y3, g2, hd2, hy3⟩ := pick_ok x2 y2 (.leaf (.lst (J.map jD))) (J.map jD) (.inr rfl) hy2 hJl
    obtain ⟨p, hp, ep⟩ := List.mem_map.mp hd1
    obtain ⟨m, hm, em⟩ := List.mem_map.mp hd2
    subst ep
    subst em
    obtain ⟨T2, b2, e2, hT2, hl2⟩ := bad_loop hh hJ k x3 y3 p m hp (F p) (hb p) T1 hT1 (by omega) a1
    have gp : getDct (qs.map kvD) (kN p) = some (.int (F p)) := by rw [eq]; exact fq_get hJ.nodup F hp
    have gm : getDct (qs.map kvD) (kN m) = some (.int (F m)) := by rw [eq]; exact fq_get hJ.nodup F hm
    have kp1 := toKey_jD p
    have km1 := toKey_jD m
    have kp2 := kN_depth p
    have km2 := kN_depth m
    have h38 : ∀ p, (F p).natAbs < 10 ^ 38 ∧ (F p + 1).natAbs < 10 ^ 38 := by
      intro p
      have := hb p
      have e : (10 : Nat) ^ 38 = 10 ^ 37 * 10 := by decide
      omega
    obtain ⟨qa, ea, ka⟩ := other_q hs k hql (.leaf (.dct (qs.map kvD))) (.inr rfl) p hp (F p + 1) (h38 p).2
    obtain ⟨va, ea2, ta⟩ := other_th hh hJ ka (.dct (qa.map kvD)) (.inl rfl) (jD m) (.int (F m + 1)) (.inl ⟨m, hs _ hm, rfl⟩) (val_int (h38 m).2)
    obtain ⟨qb, eb, kb⟩ := other_q hs k hql (.leaf (.dct (qs.map kvD))) (.inr rfl) p hp (F m) (h38 m).1
    obtain ⟨vb, eb2, tb⟩ := other_th hh hJ kb (.dct (qb.map kvD)) (.inl rfl) (jD m) (.int (F p)) (.inl ⟨m, hs _ hm, rfl⟩) (val_int (h38 p).1)
    have l4 : ∀ (T : List D) (a b c : Option W), lcLoop (gNm 9) (dTest (dBin (gEqv true) (dVar 9) (dVar 6))) (dSh (dTup (dCons (dVar 9) (dCons (dIxD (dVar 3) (dVar 9)) dNil)))) [9] (qs.map fun q => jD q.1) [] (bE x3 y3 h J (qs.map kvD) T a (some (.leaf (jD p))) b c none) = some ([] ++ qs.filterMap (fun q => if neK (jD p) q.1 = true then some (.tup [jD q.1, .int q.2]) else none), bE x3 y3 h J (qs.map kvD) T a (some (.leaf (jD p))) b c none) := by
      intro T a b c
      refine lc_pureM _ _ qs [] (fun q hq => ?_) (by rw [sizeLine_eq]; simp; omega)
      have e1 := ne_key (.inl ⟨p, hs _ hp, rfl⟩) q.1
      have e2 := toKey_jD q.1
      have e3 := kN_depth q.1
      have e4 := k.get hq
      cases c : neK (jD p) q.1 with
      | true =>
        rw [c] at e1
        wide_line with [e1, e2, e3, e4, bE]
      | false =>
        rw [c] at e1
        wide_line with [e1, bE]
    have l5 : asPairs (qs.filterMap (fun q => if neK (jD p) q.1 = true then some (.tup [jD q.1, .int q.2]) else none)) = some ((qs.filter fun q => neK (jD p) q.1).map kvD) := by
      rw [fm_if (fun q : (Int × Int) × Int => neK (jD p) q.1) (fun q => D.tup [jD q.1, .int q.2]) qs]
      exact q_pairs _
    have k5 := k.filter fun q => neK (jD p) q.1
    have l6 := k5.puts
    refine ⟨T2 ++ [.dct va] ++ [.dct vb] ++ [.dct ((qs.filter fun q => neK (jD p) q.1).map kvD)], x3, y3, ?_, hy3, fun t ht => ?_, by simp; omega⟩
    · have e2' := e2
      unfold badL bE at e2'
      have z1 : T2.length < 16777216 := by omega
      have z2 : T2.length + 1 < 16777216 := by omega
      have z3 : T2.length + 1 + 1 < 16777216 := by omega
      wide_line with [f__law_bent, front, den__law_bent_3, den__law_bent_4, hne', bE, g1, g2, gp, gm, kp1, kp2, km1, km2, e2', ea, ea2, eb, eb2, ek, l4, l5, l6, z1, z2, z3, List.length_append]
    · rcases List.mem_append.mp ht with ht | ht
      · rcases List.mem_append.mp ht with ht | ht
        · rcases List.mem_append.mp ht with ht | ht
          · exact hT2 t ht
          · have : t = .dct va := by simpa using ht
            rw [this]; exact ta
        · have : t = .dct vb := by simpa using ht
          rw [this]; exact tb
      · have : t = .dct ((qs.filter fun q => neK (jD p) q.1).map kvD) := by simpa using ht
        rw [this]; exact th_q hh hJ k5
end K22
set_option Elab.async false
set_option linter.all false
set_option maxRecDepth 100000
set_option maxHeartbeats 0
namespace K22
open PySem PySem.Spec PyProof.Rows L2 Ws
local macro_rules
  | `(tactic| wide_line) => `(tactic| simp -dsimp -implicitDefEqProofs only [ev_dSh, ev_dVal, ev_dVar, ev_dC, ev_dBin, ev_dTest, ev_dAnd, ev_dOr, ev_dNot, ev_dOfT, ev_dOne, ev_dAndV, ev_dOrV, ev_dNotV, ev_dIf, ev_dChain, ev_dNil, ev_dCons, ev_dLst, ev_dTup, ev_dSeq, ev_dNext, ev_dBrk, ev_dCont, ev_dRet, ev_dRetN, ev_dDrop, ev_dIfS, ev_dNever, ev_dSet, ev_dRCons, ev_dRNil, ev_dCall, ev_dRecv, ev_gNm, ev_gsNil, ev_gsCons, ev_gTp, ev_dAsg, ev_dISeq, ev_dIRange1, ev_dIRange2, ev_dIRange3, ev_dIEnum, ev_dIZip, ev_dFor, ev_dLc, ev_dYes, ev_dIx, ev_dNoPart, ev_dPart, ev_dSlice, ev_dRev, ev_dAdd, ev_dMul, ev_dUn, ev_dAppend, ev_dExtend, ev_dPopAt, ev_dPop, ev_gIx, ev_dList, ev_dTuple, ev_dDivmod, ev_dXm, ev_dXf, ev_dIsX, ev_dPar, ev_dDict0, ev_dDict1, ev_dXr, ev_dXif, ev_dCallX, ev_dFld, ev_dCon, ev_dFldSet, ev_dMk, ev_dIxD, ev_gIxD, ev_dIKeys, ev_dIVals, ev_dIItems, ev_dDict, ev_dItL, ev_dItT, ev_dSorted, ev_dIZipN, ev_revR, ob_some, om_some, ob_none, om_none, b_some, m_some, ev_gSub, ev_gLt, ev_gLe, ev_gGt, ev_gGe, ev_gMax2, ev_gMin2, ev_gMod, ev_gDiv, ev_gMulI, ev_eqv, ev_sv_int, ev_sv_bool, ev_sv_none, ev_sv_str, ev_toDs, ev_flat, ev_leafApp, ev_leafLen, ev_flatNil, ev_flatCons, ev_dFn, ev_dOutV, ev_dOutS, ev_dOutN, ↓reduceIte, if_true, if_false, decide_true, decide_false, List.getElem?_cons_succ, List.getElem?_cons_zero, List.getElem?_nil, List.set_cons_succ, List.set_cons_zero, List.length_cons, List.length_nil, List.map_cons, List.map_nil, List.append_nil, List.nil_append, List.cons_append, List.nodup_cons, List.nodup_nil, List.mem_cons, List.not_mem_nil, or_false, or_true, false_or, true_or, not_true_eq_false, not_false_eq_true, and_true, true_and, and_false, false_and, List.take_succ_cons, List.take_zero, List.take_nil, List.replicate_succ, List.replicate_zero, sizeLine_eq, asBools, asInts, List.any_cons, List.any_nil, lcStep, forStep, Bool.not_true, Bool.not_false, ite_true, ite_false, Bool.false_eq_true, eq_self, leafsR, ldB, isNone, e_viewV, e_viewS, e_shV, e_shS, e_putV, e_putS, e_rvV, e_rvS, e_items, e_itLst, e_itTup, e_itOwn, e_itI, e_itB, e_itN, e_itStr, e_itScr, e_itDct, e_own, e_dctV, e_dctL, e_dctS, e_objV, e_objS, e_int1, e_int1b, e_abs, e_neg, e_lenL, e_lenT, e_lenS, e_all, e_any, e_sum, e_isB, e_isN, e_argN, e_argV, e_argS, e_slN, e_slV, e_slS, e_clN, e_clV, e_clS, e_pbN, e_pbV, e_pbS, e_lr0, e_lr1, e_wp0, e_wp1, e_re0, e_re1, e_slotS, e_slot0, e_as0, e_as1, e_addK, e_toDleaf, e_toDlst, e_toDdct, e_toDins, e_toDs0, e_toDs1, e_ownL, e_at0, e_at1, e_at2, e_atM1, e_cut1, e_whole1, ixN, Int.cast_ofNat_Int, Int.reduceLE, Int.reduceLT, Int.reduceNeg, Int.reduceAdd, Int.reduceSub, Int.reduceMul, Int.reduceToNat, Int.reduceEq, Int.reducePow, Nat.reducePow, Nat.reduceAdd, Nat.reduceSub, Nat.reduceMul, Nat.reduceLeDiff, Nat.reduceEqDiff, reduceCtorEq, Int.reduceNegSucc, Nat.zero_add, e_lv0, e_lv1, Nat.reduceLT, e_isi_int_0, e_isi_int_1, e_isi_int_2, e_isi_int_3, e_isi_int_4, e_isi_int_5, e_isi_int_6, e_isi_int_7, e_isi_bool_0, e_isi_bool_1, e_isi_bool_2, e_isi_bool_3, e_isi_bool_4, e_isi_bool_5, e_isi_bool_6, e_isi_bool_7, e_isi_str_0, e_isi_str_1, e_isi_str_2, e_isi_str_3, e_isi_str_4, e_isi_str_5, e_isi_str_6, e_isi_str_7, e_isi_tuple_0, e_isi_tuple_1, e_isi_tuple_2, e_isi_tuple_3, e_isi_tuple_4, e_isi_tuple_5, e_isi_tuple_6, e_isi_tuple_7, e_isi_list_0, e_isi_list_1, e_isi_list_2, e_isi_list_3, e_isi_list_4, e_isi_list_5, e_isi_list_6, e_isi_list_7, e_isi_dict_0, e_isi_dict_1, e_isi_dict_2, e_isi_dict_3, e_isi_dict_4, e_isi_dict_5, e_isi_dict_6, e_isi_dict_7, e_isi_list_tuple_0, e_isi_list_tuple_1, e_isi_list_tuple_2, e_isi_list_tuple_3, e_isi_list_tuple_4, e_isi_list_tuple_5, e_isi_list_tuple_6, e_isi_list_tuple_7, ev_dAddK, e_revT2, e_revT3, e_revF, ↓e_lastGet, e_dropLast, ne_eq])
  | `(tactic| wide_line with [$ls,*]) => `(tactic| simp -dsimp -implicitDefEqProofs only [$[$ls:term],*, ev_dSh, ev_dVal, ev_dVar, ev_dC, ev_dBin, ev_dTest, ev_dAnd, ev_dOr, ev_dNot, ev_dOfT, ev_dOne, ev_dAndV, ev_dOrV, ev_dNotV, ev_dIf, ev_dChain, ev_dNil, ev_dCons, ev_dLst, ev_dTup, ev_dSeq, ev_dNext, ev_dBrk, ev_dCont, ev_dRet, ev_dRetN, ev_dDrop, ev_dIfS, ev_dNever, ev_dSet, ev_dRCons, ev_dRNil, ev_dCall, ev_dRecv, ev_gNm, ev_gsNil, ev_gsCons, ev_gTp, ev_dAsg, ev_dISeq, ev_dIRange1, ev_dIRange2, ev_dIRange3, ev_dIEnum, ev_dIZip, ev_dFor, ev_dLc, ev_dYes, ev_dIx, ev_dNoPart, ev_dPart, ev_dSlice, ev_dRev, ev_dAdd, ev_dMul, ev_dUn, ev_dAppend, ev_dExtend, ev_dPopAt, ev_dPop, ev_gIx, ev_dList, ev_dTuple, ev_dDivmod, ev_dXm, ev_dXf, ev_dIsX, ev_dPar, ev_dDict0, ev_dDict1, ev_dXr, ev_dXif, ev_dCallX, ev_dFld, ev_dCon, ev_dFldSet, ev_dMk, ev_dIxD, ev_gIxD, ev_dIKeys, ev_dIVals, ev_dIItems, ev_dDict, ev_dItL, ev_dItT, ev_dSorted, ev_dIZipN, ev_revR, ob_some, om_some, ob_none, om_none, b_some, m_some, ev_gSub, ev_gLt, ev_gLe, ev_gGt, ev_gGe, ev_gMax2, ev_gMin2, ev_gMod, ev_gDiv, ev_gMulI, ev_eqv, ev_sv_int, ev_sv_bool, ev_sv_none, ev_sv_str, ev_toDs, ev_flat, ev_leafApp, ev_leafLen, ev_flatNil, ev_flatCons, ev_dFn, ev_dOutV, ev_dOutS, ev_dOutN, ↓reduceIte, if_true, if_false, decide_true, decide_false, List.getElem?_cons_succ, List.getElem?_cons_zero, List.getElem?_nil, List.set_cons_succ, List.set_cons_zero, List.length_cons, List.length_nil, List.map_cons, List.map_nil, List.append_nil, List.nil_append, List.cons_append, List.nodup_cons, List.nodup_nil, List.mem_cons, List.not_mem_nil, or_false, or_true, false_or, true_or, not_true_eq_false, not_false_eq_true, and_true, true_and, and_false, false_and, List.take_succ_cons, List.take_zero, List.take_nil, List.replicate_succ, List.replicate_zero, sizeLine_eq, asBools, asInts, List.any_cons, List.any_nil, lcStep, forStep, Bool.not_true, Bool.not_false, ite_true, ite_false, Bool.false_eq_true, eq_self, leafsR, ldB, isNone, e_viewV, e_viewS, e_shV, e_shS, e_putV, e_putS, e_rvV, e_rvS, e_items, e_itLst, e_itTup, e_itOwn, e_itI, e_itB, e_itN, e_itStr, e_itScr, e_itDct, e_own, e_dctV, e_dctL, e_dctS, e_objV, e_objS, e_int1, e_int1b, e_abs, e_neg, e_lenL, e_lenT, e_lenS, e_all, e_any, e_sum, e_isB, e_isN, e_argN, e_argV, e_argS, e_slN, e_slV, e_slS, e_clN, e_clV, e_clS, e_pbN, e_pbV, e_pbS, e_lr0, e_lr1, e_wp0, e_wp1, e_re0, e_re1, e_slotS, e_slot0, e_as0, e_as1, e_addK, e_toDleaf, e_toDlst, e_toDdct, e_toDins, e_toDs0, e_toDs1, e_ownL, e_at0, e_at1, e_at2, e_atM1, e_cut1, e_whole1, ixN, Int.cast_ofNat_Int, Int.reduceLE, Int.reduceLT, Int.reduceNeg, Int.reduceAdd, Int.reduceSub, Int.reduceMul, Int.reduceToNat, Int.reduceEq, Int.reducePow, Nat.reducePow, Nat.reduceAdd, Nat.reduceSub, Nat.reduceMul, Nat.reduceLeDiff, Nat.reduceEqDiff, reduceCtorEq, Int.reduceNegSucc, Nat.zero_add, e_lv0, e_lv1, Nat.reduceLT, e_isi_int_0, e_isi_int_1, e_isi_int_2, e_isi_int_3, e_isi_int_4, e_isi_int_5, e_isi_int_6, e_isi_int_7, e_isi_bool_0, e_isi_bool_1, e_isi_bool_2, e_isi_bool_3, e_isi_bool_4, e_isi_bool_5, e_isi_bool_6, e_isi_bool_7, e_isi_str_0, e_isi_str_1, e_isi_str_2, e_isi_str_3, e_isi_str_4, e_isi_str_5, e_isi_str_6, e_isi_str_7, e_isi_tuple_0, e_isi_tuple_1, e_isi_tuple_2, e_isi_tuple_3, e_isi_tuple_4, e_isi_tuple_5, e_isi_tuple_6, e_isi_tuple_7, e_isi_list_0, e_isi_list_1, e_isi_list_2, e_isi_list_3, e_isi_list_4, e_isi_list_5, e_isi_list_6, e_isi_list_7, e_isi_dict_0, e_isi_dict_1, e_isi_dict_2, e_isi_dict_3, e_isi_dict_4, e_isi_dict_5, e_isi_dict_6, e_isi_dict_7, e_isi_list_tuple_0, e_isi_list_tuple_1, e_isi_list_tuple_2, e_isi_list_tuple_3, e_isi_list_tuple_4, e_isi_list_tuple_5, e_isi_list_tuple_6, e_isi_list_tuple_7, ev_dAddK, e_revT2, e_revT3, e_revF, ↓e_lastGet, e_dropLast, ne_eq])
/-! ### more -/
theorem more_ok {h : Int} {J : List (Int × Int)} (hh : 2 ≤ h ∧ h ≤ 5) (hJ : JOk h h (h + 1) 25 J) (R : List (List Int)) (hR : ∀ r ∈ R, Way J h r) (hRl : R.length ≤ 32) (F : Fw) (hF : FlOk J h 20 F) (x y : Int) (hy : PotOk y) :
    ∃ T x' y', f__law_more [P x y, .lst (leaves (R.map mkTup)), .leaf (.dct ((fq J F).map kvD))] = some (.lst (leaves T), [P x' y', .lst (leaves (R.map mkTup)), .leaf (.dct ((fq J F).map kvD))]) ∧ PotOk y' ∧ (∀ t ∈ T, ThOk h J t) ∧ T.length ≤ 3 := by
  have hs := hJ.sub hh.2
  have hb : ∀ p, (F p).natAbs < 10 ^ 37 := by
    intro p
    have h1 := hF.pos p
    have h2 := hF.le p
    have e : ((20 : Nat) : Int) * 10 ^ 20 < 10 ^ 37 := by decide
    omega
  obtain ⟨qs, eq⟩ : ∃ qs, qs = fq J F := ⟨_, rfl⟩
  have hq7 : ∀ q ∈ qs, q.1 ∈ J ∧ q.2.natAbs < 10 ^ 37 := by
    rw [eq]
    intro q hq
    obtain ⟨p, hp, e⟩ := List.mem_map.mp hq
    subst e
    exact ⟨hp, hb p⟩
  have h38 : (10 : Nat) ^ 38 = 10 ^ 37 * 10 := by decide
  have hql : qs.length ≤ 25 := by rw [eq]; unfold fq; rw [List.length_map]; exact hJ.len
  have knd : (qs.map (·.1)).Nodup := by rw [eq]; exact fq_nd hJ.nodup F
  have k : QOk J qs := ⟨knd, fun q hq => ⟨(hq7 q hq).1, by have := (hq7 q hq).2; omega⟩, by omega⟩
  rw [← eq]
  have ek : (qs.map kvD).map (·.1) = qs.map fun q => jD q.1 := by rw [List.map_map]; rfl
  have kg : ∀ g : (Int × Int) × Int → Int, (∀ q ∈ qs, (g q).natAbs < 10 ^ 38) → QOk J (qs.map fun q => (q.1, g q)) := by
    intro g hg
    refine ⟨by rw [List.map_map]; exact knd, fun q hq => ?_, by rw [List.length_map]; omega⟩
    obtain ⟨z, hz, e⟩ := List.mem_map.mp hq
    subst e
    exact ⟨(hq7 z hz).1, hg z hz⟩
  have pg : ∀ g : (Int × Int) × Int → Int, asPairs (qs.map fun q => .tup [jD q.1, .int (g q)]) = some ((qs.map fun q => (q.1, g q)).map kvD) := by
    intro g
    have := q_pairs (qs.map fun q => (q.1, g q))
    rw [List.map_map] at this
    exact this
  have k1 := kg (fun q => q.2 + 1) fun q hq => by have := (hq7 q hq).2; omega
  have k3 := kg (fun q => q.2 * 3) fun q hq => by have := (hq7 q hq).2; omega
  have p1 := pg fun q => q.2 + 1
  have p3 := pg fun q => q.2 * 3
  have u1 := k1.puts
  have u3 := k3.puts
  have l1 : lcLoop (gNm 6) dYes (dSh (dTup (dCons (dVar 6) (dCons (dAdd (dIxD (dVar 2) (dVar 6)) (dC (.int 1))) dNil)))) [6] (qs.map fun q => jD q.1) [] [some (P x y), some (.lst (leaves (R.map mkTup))), some (.leaf (.dct (qs.map kvD))), none, none, none, none] = some (qs.map (fun q => .tup [jD q.1, .int (q.2 + 1)]), [some (P x y), some (.lst (leaves (R.map mkTup))), some (.leaf (.dct (qs.map kvD))), none, none, none, none]) := by
    refine lc_mapM _ _ qs (fun q hq => ?_) (by rw [sizeLine_eq]; omega)
    wide_line with [toKey_jD q.1, kN_depth q.1, k.get hq]
  have l3 : lcLoop (gNm 6) dYes (dSh (dTup (dCons (dVar 6) (dCons (dMul (dIxD (dVar 2) (dVar 6)) (dC (.int 3))) dNil)))) [6] (qs.map fun q => jD q.1) [] [some (P x y), some (.lst (leaves (R.map mkTup))), some (.leaf (.dct (qs.map kvD))), none, none, none, none] = some (qs.map (fun q => .tup [jD q.1, .int (q.2 * 3)]), [some (P x y), some (.lst (leaves (R.map mkTup))), some (.leaf (.dct (qs.map kvD))), none, none, none, none]) := by
    refine lc_mapM _ _ qs (fun q hq => ?_) (by rw [sizeLine_eq]; omega)
    wide_line with [toKey_jD q.1, kN_depth q.1, k.get hq]
  have hne := ne_nil true R
  have t1 := th_q hh hJ k1
  have t3 := th_q hh hJ k3
  by_cases hR0 : R = []
  · have hne' : gEqv true (.lst (R.map mkTup)) (.lst []) = some (.bool false) := by
      rw [hne, hR0]
      rfl
    refine ⟨[.dct ((qs.map fun q => (q.1, q.2 + 1)).map kvD), .dct ((qs.map fun q => (q.1, q.2 * 3)).map kvD)], x, y, ?_, hy, fun t ht => ?_, (by decide : 2 ≤ 3)⟩
    · wide_line with [f__law_more, den__law_more, den__law_more_1, den__law_more_2, ek, l1, l3, p1, p3, u1, u3, hne']
    · simp only [List.mem_cons, List.not_mem_nil, or_false] at ht
      rcases ht with e | e <;> subst e
      · exact t1
      · exact t3
  · have hne' : gEqv true (.lst (R.map mkTup)) (.lst []) = some (.bool true) := by
      rw [hne, if_pos rfl, decide_eq_false hR0]
      rfl
    have hl : 0 < (R.map mkTup).length ∧ (R.map mkTup).length ≤ 1000 := by
      rw [List.length_map]
      cases R with
      | nil => exact absurd rfl hR0
      | cons _ _ => simp at hRl ⊢; omega
    obtain ⟨d, x1, y1, g1, hd, hy1⟩ := pick_ok x y (.lst (leaves (R.map mkTup))) (R.map mkTup) (.inl rfl) hy hl
    obtain ⟨r, hr, er⟩ := List.mem_map.mp hd
    subst er
    have w := hR r hr
    have hrl : ¬ r.length = 0 := by
      have := w.ne
      simp [this]
    have hrl2 : (r.zip (r.drop 1)).length ≤ 10 := by
      have := w.len
      rw [List.length_zip]
      omega
    have er2 : mkTup r = .tup (r.map .int) := rfl
    have hz := rpairs r
    obtain ⟨Z, eZ⟩ : ∃ Z, Z = r.zip (r.drop 1) := ⟨_, rfl⟩
    rw [← eZ] at hz hrl2
    have lz : ∀ a : List D, lcLoop (gNm 6) dYes (dSh (dVar 6)) [6] (Z.map jD) [] [some (P x1 y1), some (.lst (leaves (R.map mkTup))), some (.leaf (.dct (qs.map kvD))), some (.lst (leaves a)), some (.leaf (.tup (r.map .int))), none, none] = some (Z.map jD, [some (P x1 y1), some (.lst (leaves (R.map mkTup))), some (.leaf (.dct (qs.map kvD))), some (.lst (leaves a)), some (.leaf (.tup (r.map .int))), none, none]) := by
      intro a
      refine lc_mapM jD jD Z (fun q hq => ?_) (by rw [sizeLine_eq]; omega)
      wide_line
    have k5 := kg (fun q => q.2 + if decide (q.1 ∈ Z) = true then 1 else 0) fun q hq => by
      have := (hq7 q hq).2
      show (q.2 + if decide (q.1 ∈ Z) = true then 1 else 0).natAbs < 10 ^ 38
      split <;> omega
    have p5 := pg fun q => q.2 + if decide (q.1 ∈ Z) = true then 1 else 0
    have u5 := k5.puts
    have l5 : ∀ a : List D, lcLoop (gNm 6) dYes (dSh (dTup (dCons (dVar 6) (dCons (dAdd (dIxD (dVar 2) (dVar 6)) (dUn gInt1 (dBin (gInL false) (dVar 6) (dVar 5)))) dNil)))) [6] (qs.map fun q => jD q.1) [] [some (P x1 y1), some (.lst (leaves (R.map mkTup))), some (.leaf (.dct (qs.map kvD))), some (.lst (leaves a)), some (.leaf (.tup (r.map .int))), some (.lst (leaves (Z.map jD))), none] = some (qs.map (fun q => .tup [jD q.1, .int (q.2 + if decide (q.1 ∈ Z) = true then 1 else 0)]), [some (P x1 y1), some (.lst (leaves (R.map mkTup))), some (.leaf (.dct (qs.map kvD))), some (.lst (leaves a)), some (.leaf (.tup (r.map .int))), some (.lst (leaves (Z.map jD))), none]) := by
      intro a
      refine lc_mapM _ _ qs (fun q hq => ?_) (by rw [sizeLine_eq]; omega)
      have jn := jin q.1 Z
      wide_line with [toKey_jD q.1, kN_depth q.1, k.get hq, jn]
    have t5 := th_q hh hJ k5
    refine ⟨[.dct ((qs.map fun q => (q.1, q.2 + 1)).map kvD), .dct ((qs.map fun q => (q.1, q.2 * 3)).map kvD), .dct ((qs.map fun q => (q.1, q.2 + if decide (q.1 ∈ Z) = true then 1 else 0)).map kvD)], x1, y1, ?_, hy1, fun t ht => ?_, (by decide : 3 ≤ 3)⟩
    · have lz' := lz [.dct ((qs.map fun q => (q.1, q.2 + 1)).map kvD), .dct ((qs.map fun q => (q.1, q.2 * 3)).map kvD)]
      have l5' := l5 [.dct ((qs.map fun q => (q.1, q.2 + 1)).map kvD), .dct ((qs.map fun q => (q.1, q.2 * 3)).map kvD)]
      simp only [e_lv0, e_lv1] at lz' l5'
      rw [er2] at g1
      wide_line with [f__law_more, den__law_more, den__law_more_1, den__law_more_2, ek, l1, l3, p1, p3, u1, u3, hne', g1, hz, hrl, List.length_map, lz', l5', p5, u5]
    · simp only [List.mem_cons, List.not_mem_nil, or_false] at ht
      rcases ht with e | e | e <;> subst e
      · exact t1
      · exact t3
      · exact t5
/-! ### the law -/
theorem repr_bb (b : Bool) : ∃ s, gRepr (.lst [.bool b, .bool b]) = some (.str s) := by
  cases b
  · exact repr_tame (k := 8) (n := 100) (tame_of (by decide +kernel)) (by decide) (by decide)
  · exact repr_tame (k := 8) (n := 100) (tame_of (by decide +kernel)) (by decide) (by decide)
theorem eqv_ss (n : Bool) (s : Str) : gEqv n (.str s) (.str s) = some (.bool (if n = true then false else true)) := by
  show some (D.bool (if n = true then !decide (s = s) else decide (s = s))) = _
  rw [decide_eq_true rfl]
  rfl
theorem flow_nil (h : Int) (J : List (Int × Int)) (hh : 2 ≤ h ∧ h ≤ 5) (hJ : JOk h h (h + 1) 25 J) : f_is_flow [.leaf (stairD h J), .dct []] = some (.leaf (.bool true), [.leaf (stairD h J), .leaf (.dct [])]) := by
  have e := flow_good h J hh hJ [] (fun q hq => (nomatch hq)) (by decide)
  have hb : bal h [] = true := by
    unfold bal
    rw [List.all_eq_true]
    intro i hi
    rfl
  rw [hb] at e
  have hn : h - 1 + 1 = h := by omega
  have e1 := flow_all h J hJ [] (fun q hq => (nomatch hq)) (by decide)
  have e2 : gAll (.lst (([] : List (D × D)).map fun kv => .bool (okKv J kv))) = some (.bool true) := rfl
  have e3 := stair_no2 h J (.lst ((List.range (h + 1).toNat).map (nextR J)))
  have e4 := steps_ok h J
  have g1 := fun i => going_in_ok [] i (by decide)
  have g2 := fun i => going_out_ok [] i (by decide)
  have e5 := all_map (fun i : Nat => decide (sIn [] (1 + (i : Int)) = sOut [] (1 + (i : Int)))) (List.range (h - 1).toNat)
  have l : lcLoop (gNm 4) dYes (dSh (dBin (gEqv false) (dCall f_going_in (dRCons (dVar 1) (dRCons (dVar 4) dRNil)) []) (dCall f_going_out (dRCons (dVar 1) (dRCons (dVar 4) dRNil)) []))) [4] (rangeD 1 (h - 1).toNat) [] [some (.leaf (stairD h J)), some (.leaf (.dct [])), none, none, none] = some ((List.range (h - 1).toNat).map (fun i : Nat => .bool (decide (sIn [] (1 + (i : Int)) = sOut [] (1 + (i : Int))))), [some (.leaf (stairD h J)), some (.leaf (.dct [])), none, none, none]) := by
    refine lc_mapM (fun i : Nat => .int (1 + (i : Int))) _ _ (fun i hi => ?_) (by rw [sizeLine_eq, List.length_range]; omega)
    have g1' := g1 (1 + (i : Int))
    have g2' := g2 (1 + (i : Int))
    simp only [List.map_nil] at g1' g2'
    wide_line with [g1', g2']
  have hb' : ((List.range (h - 1).toNat).all fun i : Nat => decide (sIn [] (1 + (i : Int)) = sOut [] (1 + (i : Int)))) = true := hb
  have e1' : lcLoop (gTp (gsCons (gNm 2) (gsCons (gNm 3) gsNil))) dYes (dSh (dAndV (dCall f_Stair_has_jump (dRCons (dRecv 0 ("has_jump" : Str) (dVar 0)) (dRCons (dVar 2) dRNil)) []) (dCall f_is_count (dRCons (dVar 3) dRNil) []))) [2, 3] (pairsD []) [] [some (.leaf (stairD h J)), some (.leaf (.dct [])), none, none, none] = some ([], [some (.leaf (stairD h J)), some (.leaf (.dct [])), none, none, none]) := e1
  unfold stairD at *
  wide_line with [f_is_flow, den_is_flow, den_is_flow_1, den_is_flow_2, e1', e3, e4, hn, small_of (show (-1000 : Int) ≤ 1 ∧ (1 : Int) ≤ 1000 by omega), small_of (show -1000 ≤ h ∧ h ≤ 1000 by omega), Bool.and_self, l, ev_asBoolsMap, List.all_nil, List.all_map]
  have hb2 : ((List.range (h - 1).toNat).all (id ∘ fun i : Nat => decide (sIn [] (1 + (i : Int)) = sOut [] (1 + (i : Int))))) = true := hb
  rw [hb2]
theorem bal_ok (h : Int) (J : List (Int × Int)) (F : Fw) (hF : FlOk J h 20 F) : bal h (fq J F) = true := by
  unfold bal
  rw [List.all_eq_true]
  intro i hi
  have hi' : i < (h - 1).toNat := by simpa using hi
  have := hF.bal (1 + (i : Int)) (by omega) (by omega)
  unfold net at this
  exact decide_eq_true (by omega)
abbrev gE (x y h : Int) (J : List (Int × Int)) (R : List (List Int)) (ld : List (D × D)) (T : List D) (s : Str) (a b : Option W) : Ws.Env := [some (P x y), some (.leaf (.int h)), some (.leaf (.lst (J.map jD))), some (.leaf (stairD h J)), some (.lst (leaves (R.map mkTup))), some (.leaf (.dct ld)), some (.lst (leaves T)), some (.leaf (.str s)), a, b]
abbrev gBody : Den Out := dSeq (dSet 9 (dCall f__law_is_flow (dRCons (dVar 1) (dRCons (dVar 2) (dRCons (dVar 8) dRNil))) []))
  (dIfS (dTest (dBin (gEqv true) (dUn gRepr (dLst (dCons (dCall f_is_flow (dRCons (dVar 3) (dRCons (dVar 8) dRNil)) []) (dCons (dCall f_is_flow (revR true (dRCons (dVar 8) (dRCons (dVar 3) dRNil))) []) dNil)))) (dUn gRepr (dLst (dCons (dVar 9) (dCons (dVar 9) dNil)))))) (dRet (dC (.bool false))) dNext)
theorem right_loop (x y h : Int) (J : List (Int × Int)) (R : List (List Int)) (ld : List (D × D)) (T : List D) (s : Str) (ts : List D) (ht : ∀ t ∈ ts, ThOk h J t) : ∃ a b, forLoop (gNm 8) gBody ts (gE x y h J R ld T s none none) = some (.next, gE x y h J R ld T s a b) := by
  obtain ⟨ρ', e1, a, b, e2⟩ := for_run (g := gNm 8) (body := gBody) (fun _ ρ => ∃ a b, ρ = gE x y h J R ld T s a b) ts 0 (gE x y h J R ld T s none none) ⟨none, none, rfl⟩ (fun i d ρ hd ⟨a, b, e⟩ => by
    subst e
    obtain ⟨bb, e1, e2⟩ := (ht d (List.mem_of_getElem? hd)).same
    obtain ⟨z, hz⟩ := repr_bb bb
    have hq := eqv_ss true z
    obtain ⟨st, est⟩ : ∃ st, st = stairD h J := ⟨_, rfl⟩
    unfold gE
    rw [← est] at e1 ⊢
    have e3 : st = .obj 0 [("own_steps", .int (h - 1)), ("own_jumps", .lst (J.map jD)), ("own_next", .lst ((List.range (h + 1).toNat).map (nextR J)))] := est
    refine ⟨_, .inl ?_, some (.leaf d), some (.leaf (.bool bb)), rfl⟩
    wide_line with [e1, e2, hz, hq])
  exact ⟨a, b, by rw [← e2]; exact e1⟩
theorem right_ok (x y : Int) (hy : PotOk y) : ∃ x' y', f__law_right [P x y] = some (.leaf (.bool true), [P x' y']) := by
  obtain ⟨d, x1, y1, g1, d0, d4, hy1⟩ := draw_ok x y 4 hy (by decide)
  obtain ⟨h, eh⟩ : ∃ h, h = 2 + d := ⟨_, rfl⟩
  have hh : 2 ≤ h ∧ h ≤ 5 := by omega
  obtain ⟨J, x2, y2, g2, hy2, hJ⟩ := jumps_ok x1 y1 h hy1 hh
  have g3 := stair_ok h J hh hJ
  obtain ⟨R, g4, hR, hRl⟩ := roads_ok h J hh hJ
  obtain ⟨kvs, x3, y3, g5, hy3, hL⟩ := lot_ok x2 y2 R hRl hy2
  obtain ⟨F, ws, g6, hF⟩ := flow_ok J h hJ.nodup hJ.len hh.2 R hR kvs hL
  obtain ⟨T1, x4, y4, g7, hy4, hT1, hl1⟩ := bent_ok hh hJ F hF x3 y3 hy3
  obtain ⟨T2, x5, y5, g8, hy5, hT2, hl2⟩ := more_ok hh hJ R hR hRl F hF x4 y4 hy4
  have hT : ∀ t ∈ T1 ++ T2, ThOk h J t := fun t ht => (List.mem_append.mp ht).elim (hT1 t) (hT2 t)
  obtain ⟨s, hs⟩ := repr_tame (tame_lst (k := 4) (n := 2000) fun t ht => (hT t ht).tame) (by decide) (by simp; omega)
  have hTT : ∀ t ∈ (T1 ++ T2) ++ (T1 ++ T2).take 3, ThOk h J t := fun t ht => (List.mem_append.mp ht).elim (hT t) fun z => hT t (List.mem_of_mem_take z)
  obtain ⟨a, b, g9⟩ := right_loop x5 y5 h J R ((fq J F).map kvD) (T1 ++ T2) s _ hTT
  have k10 : bal h (fq J F) = true := bal_ok h J F hF
  have g10 := flow_good h J hh hJ (fq J F) (fun q hq => by
    obtain ⟨p, hp, e⟩ := List.mem_map.mp hq
    subst e
    exact ⟨hp, hF.pos p⟩) (by unfold fq; rw [List.length_map]; have := hJ.len; omega)
  rw [k10] at g10
  have g11 := flow_nil h J hh hJ
  have gp : gPow (.int 10) (.int 20) = some (.int 100000000000000000000) := by kernel_rfl
  have hc : cutD (T1 ++ T2) none (some 3) = (T1 ++ T2).take 3 := cut_hi _ 3
  have hq := eqv_ss false s
  have sf : (D.obj 0 [("own_steps", .int (h - 1)), ("own_jumps", .lst (J.map jD)), ("own_next", .lst ((List.range (h + 1).toNat).map (nextR J)))]) = stairD h J := rfl
  have z1 : T1.length + T2.length ≤ 16777216 := by omega
  have z2 : (T1 ++ T2).length + ((T1 ++ T2).take 3).length ≤ 16777216 := by
    have := List.length_take_le 3 (T1 ++ T2)
    rw [List.length_append] at *
    omega
  unfold gE at g9
  have eh' := eh.symm
  refine ⟨x5, y5, ?_⟩
  · wide_line with [f__law_right, den__law_right, den__law_right_1, den__law_right_2, den__law_right_3, den__law_right_4, den__law_right_5, den__law_right_6, den__law_right_7, g1, eh', g2, g3, sf, g4, gp, g5, g6, g7, g8, hs, hc, g9, g10, g11, hq, z1, z2]
theorem pot_ok (ns : List Int) (k : Nat) (hk : k ≤ 10) : ∃ x y, f__law_pot [.leaf (.scr ns), .leaf (.int (k : Int))] = some (P x y, [.leaf (.scr ns), .leaf (.int (k : Int))]) ∧ PotOk y := by
  have gp : gPow (.int 10) (.int 18) = some (.int 1000000000000000000) := by kernel_rfl
  have pk : ∀ z : Int, PotOk (z % 2147483579 + 1) := by
    intro z
    unfold PotOk
    omega
  have fin : ∀ c : Int, ∃ x y, (some (W.lst [.leaf (.int (if c - 1000000000000000000 > 0 then c - 1000000000000000000 else 0)), .leaf (.int ((c % 2147483549 * 40123 + 5987 * (k : Int) + 119) % 2147483579 + 1))], [W.leaf (.scr ns), W.leaf (.int (k : Int))]) : Option (W × List W)) = some (P x y, [.leaf (.scr ns), .leaf (.int (k : Int))]) ∧ PotOk y := fun c => ⟨_, _, rfl, pk _⟩
  by_cases c : k < ns.length
  · have ea : atI ns (k : Int) = some ns[k] := by rw [at_nat, List.getElem?_eq_getElem c]
    have c' : (k : Int) < ns.length := by omega
    obtain ⟨x, y, e, hy⟩ := fin (if ns[k] < 0 then -ns[k] else ns[k])
    refine ⟨x, y, ?_, hy⟩
    rw [← e]
    wide_line with [f__law_pot, den__law_pot, den__law_pot_1, den__law_pot_2, gp, ea, c']
  · have c' : ¬ (k : Int) < ns.length := by omega
    obtain ⟨x, y, e, hy⟩ := fin (61 * (k : Int) + 37)
    refine ⟨x, y, ?_, hy⟩
    rw [← e]
    wide_line with [f__law_pot, den__law_pot, den__law_pot_1, den__law_pot_2, gp, c']
theorem law_ok (ns : List Int) : ∃ w, f_law [.leaf (.scr ns)] = some (.leaf (.bool true), w) := by
  have l : ∀ n : Nat, n ≤ 3 → lcLoop (gNm 1) dYes (dSh (dCall f__law_right (dRCons (dCall f__law_pot (dRCons (dVar 0) (dRCons (dVar 1) dRNil)) []) dRNil) [])) [1] (rangeD 0 n) [] [some (.leaf (.scr ns)), none] = some ((List.range n).map (fun _ => .bool true), [some (.leaf (.scr ns)), none]) := by
    intro n hn
    refine lc_mapM (fun i : Nat => .int (0 + (i : Int))) _ _ (fun i hi => ?_) (by rw [sizeLine_eq, List.length_range]; omega)
    have hi' : i < n := by simpa using hi
    obtain ⟨x, y, e1, hy⟩ := pot_ok ns i (by omega)
    obtain ⟨x', y', e2⟩ := right_ok x y hy
    wide_line with [e1, e2, Int.zero_add]
  have a : ∀ n : Nat, ((List.range n).map fun _ => true).all id = true := by
    intro n
    rw [List.all_eq_true]
    intro b hb
    obtain ⟨_, _, e⟩ := List.mem_map.mp hb
    rw [← e]
    rfl
  refine ⟨[.leaf (.scr ns)], ?_⟩
  by_cases c1 : (ns.length : Int) < 3
  · by_cases c2 : (1 : Int) < ns.length
    · have hn : ((ns.length : Int)).toNat = ns.length := by omega
      wide_line with [f_law, den_law, c1, c2, gt_iff_lt, small_of (show -1000 ≤ (ns.length : Int) ∧ (ns.length : Int) ≤ 1000 by omega), hn, l ns.length (by omega), ev_asBoolsMap, a]
    · wide_line with [f_law, den_law, c1, c2, gt_iff_lt, small_of (show (-1000 : Int) ≤ 1 ∧ (1 : Int) ≤ 1000 by omega), l 1 (by omega), ev_asBoolsMap, a]
  · wide_line with [f_law, den_law, c1, gt_iff_lt, small_of (show (-1000 : Int) ≤ 3 ∧ (3 : Int) ≤ 1000 by omega), l 3 (by omega), ev_asBoolsMap, a]
end K22
set_option Elab.async false
set_option linter.all false
set_option maxRecDepth 100000
set_option maxHeartbeats 0
namespace K22
open PySem PySem.Spec PyProof.Rows L2 Ws
theorem facts {P : Program} {w : World} {K : PySem.W.Frag} {h : Heap} {mg : Str → Option Value} {f : Addr} (X : K.In h) (G : h.Ns mainGlobals mg) (hfa : mg ("law" : Str) = some (.ref f)) (c : He.SaysD fa fn K ∧ ex K = true ∧ (pr.all fun d => d.ok K) = true ∧ pr.map (fun d => d.fnW K) = pr.map PrD.val) :
    ∃ fd : FuncData, (∀ (s : Shared) (v : Value), BindsTo s fd ⟨[v], []⟩ [("_law_script", v)]) ∧ ∀ base : Heap, K.In base → base.Ns mainGlobals mg → FnOkG true P w K mg base CX0 9 f fd ["_law_script"] (spW w K (clK K) f_law) := by
  have kn : Kn K mg := ⟨⟨h, X, G⟩, c.1, c.2.1, c.2.2.1, c.2.2.2⟩
  obtain ⟨fd, F⟩ := kn.s.def_ 24 (d := d_law) rfl
  have e := hfa.symm.trans kn.glo_law
  cases e
  have b := FunD.bindsA (ps := ["_law_script"]) F fun _ _ _ _ _ _ us hl => match us, hl with | [_], _ => rfl
  exact ⟨fd, fun s v => b s [v] rfl, fun base _ _ => okL kn F⟩
end K22
open PySem PySem.W PySem.Calls PyProof.Rows
theorem PySem.Challenge.cw_wornsteps_k22_flows_judged_holds : PySem.Challenge.rw_wornsteps_k22_flows_judged.Holds := by
  w_on; o_law
  refine HandSHeadRun.head_any (r := OpenLaw.row PySem.Challenge.rw_wornsteps_k22_flows_judged) (q := view (OpenLaw.row PySem.Challenge.rw_wornsteps_k22_flows_judged).prog [45]) (H := K22.hk) (ob := K22.ob) (M := 12000) (loose := K22.loose) (d := HandSHeadRun.topDef (OpenLaw.row PySem.Challenge.rw_wornsteps_k22_flows_judged).prog 45) (kwd := []) K22.ob_eq
    (by kernel_rfl) (fun s => by kernel_rfl) K22.run (by kernel_rfl) (by kernel_rfl) (by kernel_rfl) (by rfl) (by first | assumption | decide +kernel) (by decide +kernel) ⟨rfl, rfl, rfl, rfl, rfl, by decide +kernel⟩ ?hw ?hc
  case hw => w_witness2
  case hc =>
    refine Ws.walk_ofG (l := PySem.Challenge.rw_wornsteps_k22_flows_judged) (n := 63) (k := 9) (x := "_law_script") (CX := L2.CX0) rfl (by decide) (by kernel_rfl) ⟨fun _ => rfl, by decide, by decide, rfl⟩ ?F (fun _ _ _ _ z => z)
    intro w mg fa h Y G hmg0
    obtain ⟨K, KX, c⟩ := Y
    have hmg : mg ("law" : PySem.Str) = some (.ref fa) := by
      have e : (HandSHeadRun.topDef (OpenLaw.row PySem.Challenge.rw_wornsteps_k22_flows_judged).prog 45).name = ("law" : PySem.Str) := by kernel_rfl
      rw [← e]
      exact hmg0
    obtain ⟨fd, hb, hF⟩ := K22.facts (P := (PySem.Challenge.rw_wornsteps_k22_flows_judged).prog) (w := w) KX G hmg c
    refine ⟨K, fd, Ws.spW w K (K22.clK K) K22.f_law, KX, hb, fun H a ns hl hO hS => ?_, hF⟩
    obtain ⟨ws', e⟩ := K22.law_ok ns
    exact Ws.law_end hO hS e
