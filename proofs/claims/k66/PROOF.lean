import PyProof.Rows.All
import Wide.All
import OpenK.AllK
import Wide.FinOn
import HandS.TupSets
import KE.KDictKeyed
import HandS.Strs
import HandS.SetBool
import KE.KDictDisplayH
import HandS.ForMost
import HandS.ForExc
import HandS.Flow
import HandS.IsInst
import HandS.Property
import HandS.Lambda
import HandS.ExcCtx
import HandS.WordsExc
import HandS.ExcInit
import KE.KDflt
import PyProof.StrBlock2
import HandS.FStr
import HandS.TryOnly
import KE.GoesNew
import KE.GoesEnum
import KE.GoesMore
import HandS.Zip
import HandS.Nested
import KE.KExcSuper
import HandS.NestedK
import HandS.HotCalls
import HandS.ExcField
import KE.KTryMore
import PyProof.CollectStr
import HandS.Text
import HandS.OwnEq
import OpenK.KOps
import OpenK.KMeth
import PyProof.InstNe
import HandS.MakeKw
import HandS.HeadHook1
import HandS.HeadHook2
import HandS.HeadWalk
import KE.KNestM
import HandS.Replace
import PyProof.ListStr
import HandS.Dict
import HandS.Star
import HandS.TupMul
import HandS.Style
import PyProof.NeKinds
import HandS.TupAny
import HandS.StrMore
import HandS.Iter
import HandS.WordsDict
import PyProof.Rows.SumAny
import HandS.ClsMeth
import HandS.ExcIs
import HandS.Head2
import PyProof.StrLawsIn
import KE.KStateDown
import Lean
import HandS.Head0
import HandS.Head1
import PySem.Challenge.RW_lotbarter_k66_errors_made_by_hand
set_option Elab.async false
set_option linter.all false
set_option maxRecDepth 100000
set_option maxHeartbeats 2000000
namespace L3
open PySem PySem.Spec PyProof.Rows L2
/-! ### keys of nested tuples of whole numbers: what a set asks of them -/
abbrev NK := PySem.NestedKey
mutual
/-- whole numbers and tuples alone -/
def NK.numB : NK → Bool
  | .num _ => true
  | .tup ks => NK.numsB ks
  | _ => false
def NK.numsB : List NK → Bool
  | [] => true
  | k :: r => NK.numB k && NK.numsB r
end
/-- the tuple at b is the key k -/
structure KeyAt (h : Heap) (k : NK) (b : Addr) : Prop where
  is : NestedIs h k (.ref b)
  deep : k.depth ≤ 8
  num : k.numB = true
theorem KeyAt.moved {h h' : Heap} {k : NK} {b : Addr} (x : KeyAt h k b) (st : ∀ c o vs n, h.get? c = some o → o.data = .seq vs n → h'.get? c = some o) : KeyAt h' k b := ⟨NestedIs.at st k _ x.is, x.deep, x.num⟩
theorem KeyAt.keep {h h' : Heap} {k : NK} {b : Addr} (x : KeyAt h k b) (st : ∀ c o, h.get? c = some o → h'.get? c = some o) : KeyAt h' k b := x.moved fun c o _ _ e _ => st c o e
section
variable {P : Program} {w : World}
end
section
variable {P : Program} {w : World} {A : Around} {E : Value → Shared → Prop} {s : Shared}
end
end L3

set_option Elab.async false
set_option linter.all false
set_option maxRecDepth 100000
set_option maxHeartbeats 2000000
namespace L3
open PySem PySem.Spec PyProof.Rows L2
/-! ### a set of keys: asked and added to -/
abbrev KL := List (Addr × NK)
abbrev kHash (w : World) (k : NK) : Int := k.hash w
def kRow (w : World) (p : Addr × NK) : Int × Value := (kHash w p.2, .ref p.1)
section
variable {P : Program} {w : World} {A : Around} {E : Value → Shared → Prop} {s : Shared} {D : Addr} {L : KL} {rows : Array (Int × Value)} {ep : Nat} {tb : SetTable}
end
end L3

set_option Elab.async false
set_option linter.all false
set_option maxRecDepth 100000
set_option maxHeartbeats 2000000
namespace L3
open PySem PySem.Spec PyProof.Rows L2
/-! ### a set of keys: one put in, the table laid anew -/
section
variable {P : Program} {w : World} {A : Around} {E : Value → Shared → Prop} {s : Shared} {D : Addr} {L : KL} {rows : Array (Int × Value)} {ep : Nat} {tb : SetTable}
end
end L3

set_option Elab.async false
set_option linter.all false
set_option maxRecDepth 100000
set_option maxHeartbeats 2000000
namespace L3
open PySem PySem.Spec PyProof.Rows L2
/-! ### a set of keys as a tracked thing: made, added to -/
structure SetK0 (w : World) (h : Heap) (D : Addr) (L : KL) : Prop where
  ex : ∃ rows ep tb, (∃ od, h.get? D = some od ∧ od.ExactSet ∧ od.data = .set rows ep tb) ∧ rows.toList = L.map (kRow w) ∧ TabOk tb (L.map fun p => kHash w p.2) ∧ (L.map (·.2)).Nodup ∧ tb.plain = true ∧
    (w.params.followText "set-order" = true ∨ tb.led = true) ∧ L.length * 5 < tb.mask * 3 ∧ L.length < 64
def SetKO (w : World) (D : Addr) (L : KL) : HO := .ext fun h => SetK0 w h D L
section
variable {X : Cx} {pins : List (Addr × Obj)} {σ : L2.St} {H : Hp} {s : Shared} {D x : Addr} {L : KL} {k : NK}
end
/-! ### sorted by the pairs' order -/
mutual
def numOf : NK → Option Int
  | .num i => some i
  | _ => none
def numsOf_ : List NK → Option (List Int)
  | [] => some []
  | k :: r => match numOf k, numsOf_ r with
    | some i, some is => some (i :: is)
    | _, _ => none
end
/-- (n, (m, ..)) -/
def pairOf : NK → Option (Int × List Int)
  | .tup [.num n, .tup ks] => (numsOf_ ks).map (n, ·)
  | _ => none
end L3

set_option Elab.async false
set_option linter.all false
set_option maxRecDepth 100000
set_option maxHeartbeats 2000000
namespace L3
open PySem PySem.Spec PyProof.Rows L2
/-! ### a set of pairs (n, (m, ..)), sorted -/
def mkP (n : Int) (ms : List Int) : NK := .tup [.num n, .tup (ms.map .num)]
theorem pairOf_mk (n : Int) (ms : List Int) : pairOf (mkP n ms) = some (n, ms) := by
  have e : ∀ ms : List Int, numsOf_ (ms.map .num) = some ms := by
    intro ms
    induction ms with
    | nil => rfl
    | cons m ms ih =>
      show (match numOf (.num m), numsOf_ (ms.map .num) with | some i, some is => some (i :: is) | _, _ => none) = _
      rw [ih]
      rfl
  show (numsOf_ (ms.map .num)).map (n, ·) = _
  rw [e]
  rfl
structure PairAt (h : Heap) (n : Int) (ms : List Int) (b : Addr) : Prop where
  ex : ∃ (xs : Array Value) (t : Addr) (tk : Tok) (ys : Array Value), IsTup h b xs ∧ xs.toList = [Value.int n tk, Value.ref t] ∧ IsTup h t ys ∧ IntsAre ys.toList ms
theorem tup_keep {h h' : Heap} {b : Addr} {xs : Array Value} (x : IsTup h b xs) (k : ∀ c o, h.get? c = some o → o.cls = .type "tuple" → h'.get? c = some o) : IsTup h' b xs := by
  obtain ⟨o, ho, hc, n, hd⟩ := x
  exact ⟨o, k _ _ ho hc, hc, n, hd⟩
theorem PairAt.keep {h h' : Heap} {n : Int} {ms : List Int} {b : Addr} (x : PairAt h n ms b) (k : ∀ c o, h.get? c = some o → o.cls = .type "tuple" → h'.get? c = some o) : PairAt h' n ms b := by
  obtain ⟨xs, t, tk, ys, a, e, c, d⟩ := x.ex
  exact ⟨xs, t, tk, ys, tup_keep a k, e, tup_keep c k, d⟩
theorem nested_ints {h : Heap} : ∀ {vs : List Value} {ms : List Int}, IntsAre vs ms → NestedAll h (ms.map .num) vs
  | _, _, .nil => .nil
  | _, _, .cons n t r => .cons (.int _ _) (nested_ints r)
theorem depth_nums : ∀ ms : List Int, NestedKey.depthAll (ms.map .num) ≤ 1
  | [] => by simp [NestedKey.depthAll]
  | m :: ms => by
    have := depth_nums ms
    simp only [List.map_cons, NestedKey.depthAll, NestedKey.depth]
    omega
theorem numsB_nums : ∀ ms : List Int, NK.numsB (ms.map .num) = true
  | [] => rfl
  | m :: ms => by
    show (true && NK.numsB (ms.map .num)) = true
    rw [numsB_nums ms]
    rfl
theorem PairAt.key {h : Heap} {n : Int} {ms : List Int} {b : Addr} (x : PairAt h n ms b) : KeyAt h (mkP n ms) b := by
  obtain ⟨xs, t, tk, ys, ⟨o, ho, hc, c, hd⟩, e, ⟨o2, ho2, hc2, c2, hd2⟩, hi⟩ := x.ex
  refine ⟨.tup ho hc hd ?_, ?_, ?_⟩
  · rw [e]
    exact .cons (.int _ _) (.cons (.tup ho2 hc2 hd2 (nested_ints hi)) .nil)
  · have := depth_nums ms
    simp only [mkP, NestedKey.depth, NestedKey.depthAll]
    omega
  · show (true && (NK.numB (.tup (ms.map .num)) && true)) = true
    rw [show NK.numB (.tup (ms.map .num)) = NK.numsB (ms.map .num) from rfl, numsB_nums]
    rfl
theorem PairAt.inj {h : Heap} {n n' : Int} {ms ms' : List Int} {b : Addr} (x : PairAt h n ms b) (y : PairAt h n' ms' b) : n = n' ∧ ms = ms' := by
  have e := NestedIs.inj _ _ _ x.key.is y.key.is
  have e2 := pairOf_mk n ms
  rw [e, pairOf_mk] at e2
  cases e2
  exact ⟨rfl, rfl⟩
section
variable {P : Program} {w : World} {A : Around} {E : Value → Shared → Prop} {s : Shared}
end
end L3

set_option Elab.async false
set_option linter.all false
set_option maxRecDepth 100000
set_option maxHeartbeats 2000000
namespace L3
open PySem PySem.Spec PyProof.Rows L2
/-! ### dicts whose keys are nested tuples, as tracked things -/
/-- the entries: key, where its tuple stands, value -/
abbrev NE := List (NK × Addr × V)
structure KeyB (h : Heap) (k : NK) (b : Addr) : Prop where
  is : NestedIs h k (.ref b)
  deep : k.depth ≤ 8
def PairE (e : NK × Addr × V) (x : NK × Addr × Value) : Prop := e.1 = x.1 ∧ e.2.1 = x.2.1 ∧ RelV e.2.2 x.2.2
structure DnkAt (w : World) (h : Heap) (D : Addr) (es : NE) : Prop where
  ex : ∃ (od : Obj) (rows : Array DictEntry) (ep : Nat) (xs : List (NK × Addr × Value)), h.get? D = some od ∧ od.ExactDict ∧ od.data = .dict rows ep ∧ rows.toList = xs.map (fun x => ⟨x.1.hash w, .ref x.2.1, x.2.2⟩) ∧ (xs.map (·.1)).Nodup ∧ Paired PairE es xs
  few : es.length ≤ sizeLine
  big : (D == sysModules) = false
def DnkO (w : World) (D : Addr) (es : NE) : HO := .ext fun h => DnkAt w h D es
theorem PairE.keys : ∀ {es : NE} {xs : List (NK × Addr × Value)}, Paired PairE es xs → xs.map (·.1) = es.map (·.1) ∧ ∀ x ∈ xs, ∃ e ∈ es, e.1 = x.1 ∧ e.2.1 = x.2.1
  | _, _, .nil => ⟨rfl, fun x hx => by cases hx⟩
  | _, _, .cons h t => by
    obtain ⟨h1, h2⟩ := PairE.keys t
    refine ⟨by rw [List.map_cons, List.map_cons, h1, h.1], fun x hx => ?_⟩
    rcases List.mem_cons.mp hx with rfl | hx
    · exact ⟨_, List.mem_cons_self, h.1, h.2.1⟩
    · obtain ⟨e, he, r⟩ := h2 x hx
      exact ⟨e, List.mem_cons_of_mem _ he, r⟩
def nkAt (es : NE) (k : NK) : Option (Addr × V) := (es.find? fun e => decide (e.1 = k)).map (·.2)
theorem PairE.at_ : ∀ {es : NE} {xs : List (NK × Addr × Value)}, Paired PairE es xs → ∀ k : NK, match nkAt es k, atKey xs k with
    | some (a, v), some (b, u) => a = b ∧ RelV v u
    | none, none => True
    | _, _ => False
  | _, _, .nil, k => trivial
  | _, _, .cons (a := e) (b := x) h t, k => by
    have ih := PairE.at_ t k
    unfold nkAt atKey at ih ⊢
    by_cases q : e.1 = k
    · have q2 : x.1 = k := h.1 ▸ q
      rw [List.find?_cons_of_pos (by simp [q]), List.find?_cons_of_pos (by simp [q2])]
      exact h.2
    · have q2 : ¬ x.1 = k := h.1 ▸ q
      rw [List.find?_cons_of_neg (by simp [q]), List.find?_cons_of_neg (by simp [q2])]
      exact ih
section
variable {X : Cx} {pins : List (Addr × Obj)} {σ : L2.St} {H : Hp} {s : Shared} {D x : Addr} {es : NE} {k : NK} {E : Value → Shared → Prop}
theorem DnkAt.of {P : Program} {w : World} {h : Heap} {D : Addr} {es : NE} (R : DnkAt w h D es) (keys : ∀ e ∈ es, KeyB h e.1 e.2.1) : ∃ xs, h.DictOfH (nestedKind P w) D xs ∧ Paired PairE es xs := by
  obtain ⟨od, rows, ep, xs, ho, hx, hd, hr, nd, pe⟩ := R.ex
  refine ⟨xs, ⟨od, rows, ep, ho, hx, hd, hr, fun y hy => ?_, nd⟩, pe⟩
  obtain ⟨e, he, e1, e2⟩ := (PairE.keys pe).2 y hy
  rw [← e1, ← e2]
  exact ⟨(keys e he).is, (keys e he).deep⟩
theorem DnkAt.made {P : Program} {w : World} {h : Heap} {D : Addr} {es : NE} {xs : List (NK × Addr × Value)} (m : h.DictOfH (nestedKind P w) D xs) (pe : Paired PairE es xs) (few : es.length ≤ sizeLine) (big : (D == sysModules) = false) : DnkAt w h D es := by
  obtain ⟨od, rows, ep, ho, hx, hd, hr, _, nd⟩ := m
  exact ⟨⟨od, rows, ep, xs, ho, hx, hd, hr, nd, pe⟩, few, big⟩
end
end L3

set_option Elab.async false
set_option linter.all false
set_option maxRecDepth 100000
set_option maxHeartbeats 2000000
namespace L3
open PySem PySem.Spec PyProof.Rows L2 LamX

/-! ### data -/
/-- frozen data: its objects are not changed any more -/
inductive D where
  | non | bl (b : Bool) | int (i : Int) | str (x : Str)
  | tup (xs : List D) | lst (xs : List D) | obj (k : Nat) (fs : List (Str × D))
  | cls (k : Nat) | fz (xs : List D) | ty (n : String) | fn (i : Nat) | adr (a : Addr)
  | dic (ks : List L2.Key) (xs : List D)
  | exc (k : Nat) (fs : List (Str × D)) | dnk (ks xs : List D)
/-- what a name or an expression holds: data, or the n-th changing object -/
inductive A where
  | v (d : D) | m (n : Nat)
/-- the further kinds of changing objects: a set of whole numbers, a set of pairs, a dict with nested keys -/
inductive XKd where
  | si | sk | dn
/-- a changing object -/
inductive MO where
  | lst (xs : List D) | ins (k : Nat) (fs : List (Str × D)) | tab (P : Addr) (q : Str)
  | dic (kvs : List (L2.Key × D)) | lok (kvs : List (L2.Key × D))
  | x (kd : XKd) (ks xs : List D)
abbrev Store := List MO
/-- an exception of the program's own class k with its attributes -/
structure Er where
  k : Nat
  fs : List (Str × D)
inductive R (α : Type) where
  | ok (a : α) (S : Store) | err (e : Er) (S : Store) | stk
namespace R
def bind {α β : Type} : R α → (α → Store → R β) → R β
  | .ok a S, f => f a S
  | .err e S, _ => .err e S
  | .stk, _ => .stk
def ofO {α : Type} (o : Option α) (S : Store) : R α := match o with
  | some a => .ok a S
  | none => .stk
end R

/-- all that stood still stands, the changing objects of before are the first ones -/
structure Ext (μ : List Addr) (H : Hp) (μ' : List Addr) (H' : Hp) : Prop where
  pre : ∃ t, μ' = μ ++ t
  keep : ∀ a o, H a = some o → a ∉ μ → H' a = some o
  new : ∀ a ∈ μ', a ∉ μ → H a = none
theorem ext_dK {φ : Heap → Prop} {k : List (L2.Key × V)} {p : Prop} (z : HO.ext φ = .dK k) : p := by cases z
theorem ext_frz {φ : Heap → Prop} {o : Obj} {u : HO} {p : Prop} (z : HO.ext φ = .frz o u) : p := by cases z
/-- a dict that stands still is locked, or its lock is taken away -/
structure Sw (μ : List Addr) (H H' : Hp) : Prop where
  oth : ∀ a o, H a = some o → (∀ k, o ≠ .dK k) → (∀ ob k, o ≠ .frz ob (.dK k)) → H' a = some o
  dic : ∀ a k, Rd H a (.dK k) → Rd H' a (.dK k)
  inn : ∀ a ∈ μ, H' a = H a
/-- a lambda: its words, its cells, its defaults -/
structure LF where
  params : Arguments
  body : Expr
  scope : Scope
  qual : Str
  cl : List (Str × Addr)
  dv : List Int
/-- the classes of the program by number; its lambdas; what is known besides, as long as all stands -/
structure Tb where
  K : PySem.W.Frag
  cA : Nat → Addr
  lam : Nat → LF
  I : List Addr → Hp → Prop
  mono : ∀ {μ H μ' H'}, Ext μ H μ' H' → I μ H → I μ' H'
  sw : ∀ {μ H H'}, Sw μ H H' → I μ H → I μ H'
  nn : Bool
  w : World
/-! a key of a dict with nested keys -/
mutual
def keyN : D → Option NK
  | .int i => some (.num i)
  | .bl b => some (.num (if b = true then 1 else 0))
  | .str x => some (.text x)
  | .non => some .none
  | .tup ds => (keyNL ds).map .tup
  | _ => none
def keyNL : List D → Option (List NK)
  | [] => some []
  | d :: r => match keyN d, keyNL r with
    | some k, some ks => some (k :: ks)
    | _, _ => none
end
def intD : D → Option Int
  | .int i => some i
  | _ => none
def intsDD : List D → Option (List Int)
  | [] => some []
  | d :: r => match intD d, intsDD r with
    | some i, some is => some (i :: is)
    | _, _ => none
/-- (n, (m, ..)) -/
def pairD : D → Option (Int × List Int)
  | .tup [.int n, .tup ds] => (intsDD ds).map (n, ·)
  | _ => none
def XR (T : Tb) (a : Addr) (ks : List D) (ws us : List V) (o : HO) : XKd → Prop
  | .si => ∃ (ns : List Int) (Sf : Int → Bool), ks = ns.map D.int ∧ o = SetO T.w a Sf ns.length ∧ ns.Nodup ∧ ∀ k, Sf k = true ↔ k ∈ ns
  | .sk => ∃ (L : KL) (ps : List (Addr × Int × List Int)), o = SetKO T.w a L ∧ L.Perm (ps.map fun p => (p.1, mkP p.2.1 p.2.2)) ∧ ws = ps.map (fun p => V.ref p.1) ∧ ks.map pairD = ps.map fun p => some p.2
  | .dn => ∃ es : NE, o = DnkO T.w a es ∧ ws = es.map (fun e => V.ref e.2.1) ∧ us = es.map (fun e => e.2.2) ∧ ks.map keyN = es.map (fun e => some e.1) ∧ ∀ e ∈ es, e.1.depth ≤ 8
abbrev LF.fd (L : LF) (dV doc pm : Value) (c' : Addr) (ctv : Value) : FuncData := PySem.W.kdv_fn "<lambda>" L.qual L.params (.expr L.body) L.scope L.cl dV doc pm (.ref c') ctv
/-- the function object of a lambda -/
def LmO (f : Addr) (L : LF) (c' : Addr) (dV : Value) : HO := .ext fun h => ∃ (od : Option Addr) (sl : Array (Option Value)) (doc pm ctv : Value), h.get? f = some (⟨.type "function", od, .func (L.fd dV doc pm c' ctv), sl⟩ : Obj)
def DvOk (μ : List Addr) (H : Hp) (ds : List Int) (dV : Value) : Prop := (ds = [] ∧ dV = .none) ∨ ∃ dt, dV = .ref dt ∧ dt ∉ μ ∧ H dt = some (.tup (ds.map .int))
section
variable (T : Tb) (μ : List Addr) (H : Hp)
/-- a list that stands still -/
def HoldL (a : Addr) (vs : List V) : Prop := a ∉ μ ∧ H a = some (.lst vs)
/-- a dict that stands still -/
def HoldD (a : Addr) (kvs : List (L2.Key × V)) : Prop := a ∉ μ ∧ Rd H a (.dK kvs)
def HoldZ (a : Addr) (vs : List V) : Prop := (a ∉ μ ∧ Rd H a (.lst vs)) ∨
  ∃ (o : Obj) (its : Array Value) (n : Nat), T.K.lookup a = some o ∧ o.cls = .type "list" ∧ o.dict = none ∧ o.data = .seq its n ∧ its.size ≤ sizeLine ∧ Vals vs its.toList
def HoldT (a : Addr) (vs : List V) : Prop := (a ∉ μ ∧ Rd H a (.tup vs)) ∨
  ∃ (o : Obj) (its : Array Value) (n : Nat), T.K.lookup a = some o ∧ o.cls = .type "tuple" ∧ o.data = .seq its n ∧ its.size ≤ sizeLine ∧ Vals vs its.toList
/-- an exception of the program's own class k as a value: its dict at dx -/
def HoldX (k : Nat) (a dx : Addr) (vfs : List (Str × V)) : Prop := a ∉ μ ∧ H a = some (exo a (T.cA k) (some dx)) ∧ dx ∉ μ ∧ H dx = some (exd dx vfs)
/-- a dict with nested keys that stands still -/
def HoldN (a : Addr) (o : HO) (ks : List D) (ws us : List V) : Prop := a ∉ μ ∧ H a = some o ∧ XR T a ks ws us o .dn
mutual
def Rep : D → V → Prop
  | .non, v => v = .non
  | .bl b, v => v = .bl b
  | .int i, v => v = .int i
  | .str x, v => v = .str x
  | .tup ds, v => ∃ a vs, v = .ref a ∧ HoldT T μ H a vs ∧ RepL ds vs
  | .lst ds, v => ∃ a vs, v = .ref a ∧ HoldL μ H a vs ∧ RepL ds vs
  | .obj k fs, v => ∃ a dx vfs, v = .ref a ∧ a ∉ μ ∧ H a = some (.ins (T.cA k) dx vfs) ∧ RepF fs vfs
  | .cls k, v => v = .ref (T.cA k)
  | .fz ds, v => ∃ a vs, v = .ref a ∧ HoldZ T μ H a vs ∧ RepL ds vs
  | .ty n, v => v = .ty n
  | .adr a, v => v = .ref a
  | .dic ks ds, v => ∃ a vs, v = .ref a ∧ HoldD μ H a (ks.zip vs) ∧ RepL ds vs
  | .exc k fs, v => ∃ a dx vfs, v = .ref a ∧ HoldX T μ H k a dx vfs ∧ RepF fs vfs
  | .dnk ks xs, v => ∃ a o ws us, v = .ref a ∧ HoldN T μ H a o ks ws us ∧ RepL ks ws ∧ RepL xs us
  | .fn i, v => ∃ f c' dV, v = .ref f ∧ f ∉ μ ∧ H f = some (LmO f (T.lam i) c' dV) ∧ c' ∉ μ ∧ H c' = some (CodeO c' (T.lam i).qual) ∧ DvOk μ H (T.lam i).dv dV
def RepL : List D → List V → Prop
  | [], vs => vs = []
  | d :: ds, vs => ∃ v ws, vs = v :: ws ∧ Rep d v ∧ RepL ds ws
def RepF : List (Str × D) → List (Str × V) → Prop
  | [], vs => vs = []
  | (f, d) :: ds, vs => ∃ v ws, vs = (f, v) :: ws ∧ Rep d v ∧ RepF ds ws
end
def RepA : A → V → Prop
  | .v d, v => Rep T μ H d v
  | .m n, v => ∃ a, μ[n]? = some a ∧ v = .ref a
def RepAs : List A → List V → Prop
  | [], vs => vs = []
  | d :: ds, vs => ∃ v ws, vs = v :: ws ∧ RepA T μ H d v ∧ RepAs ds ws
def MoOk (a : Addr) : MO → Prop
  | .lst ds => ∃ vs, H a = some (.lst vs) ∧ RepL T μ H ds vs
  | .ins k fs => ∃ dx vfs, H a = some (.ins (T.cA k) dx vfs) ∧ RepF T μ H fs vfs
  | .dic kvs => ∃ vs, H a = some (.dK ((kvs.map Prod.fst).zip vs)) ∧ RepL T μ H (kvs.map Prod.snd) vs
  | .lok kvs => ∃ od vs, H a = some (.frz od (.dK ((kvs.map Prod.fst).zip vs))) ∧ RepL T μ H (kvs.map Prod.snd) vs
  | .x kd ks xs => ∃ o ws us, H a = some o ∧ XR T a ks ws us o kd ∧ RepL T μ H ks ws ∧ RepL T μ H xs us
  | .tab P q => ∃ ps : Array Value, a = P ∧ H a = some (.tbl ps) ∧ TriplesOk ps.toList ∧ ∀ (pos : Pos) (cv : Value), codeAmong pos ps.toList = some cv → ∃ c, cv = .ref c ∧ c ∉ μ ∧ H c = some (CodeO c q)
/-- the store's objects stand at the addresses μ -/
structure StOk (S : Store) : Prop where
  len : μ.length = S.length
  nd : μ.Nodup
  at_ : ∀ (i : Nat) a o, μ[i]? = some a → S[i]? = some o → MoOk T μ H a o
  tr : ∀ a ∈ μ, ∃ o, H a = some o
  inv : T.I μ H
end
abbrev Env := List (Option A)
structure RepE (T : Tb) (μ : List Addr) (H : Hp) (ρ : Env) (σ : L2.St) : Prop where
  len : ρ.length = σ.length
  at_ : ∀ (i : Nat) x, ρ[i]? = some (some x) → ∃ v, σ[i]? = some (some v) ∧ RepA T μ H x v

section
variable {T : Tb} {μ μ' μ1 : List Addr} {H H' H1 : Hp} {S S' : Store}
theorem Ext.trans (e : Ext μ H μ1 H1) (f : Ext μ1 H1 μ' H') : Ext μ H μ' H' := by
  obtain ⟨t1, e1⟩ := e.pre
  obtain ⟨t2, e2⟩ := f.pre
  have nn : ∀ a o, H a = some o → a ∉ μ → a ∉ μ1 := fun a o h n m => by
    have := e.new a m n
    rw [h] at this; cases this
  refine ⟨⟨t1 ++ t2, by rw [e2, e1, List.append_assoc]⟩, fun a o h n => f.keep a o (e.keep a o h n) (nn a o h n), fun a h n => ?_⟩
  by_cases m : a ∈ μ1
  · exact e.new a m n
  · cases q : H a with
    | none => rfl
    | some o =>
      have z := f.new a h m
      rw [e.keep a o q n] at z; cases z
theorem Ext.notin (e : Ext μ H μ' H') {a : Addr} {o : HO} (h : H a = some o) (n : a ∉ μ) : a ∉ μ' := fun m => by
  have := e.new a m n
  rw [h] at this; cases this
theorem Ext.getμ (e : Ext μ H μ' H') {i : Nat} {a : Addr} (h : μ[i]? = some a) : μ'[i]? = some a := by
  obtain ⟨t, e1⟩ := e.pre
  rw [e1, List.getElem?_append_left (by exact (List.getElem?_eq_some_iff.mp h).1)]
  exact h
theorem HoldL.mono {a : Addr} {vs : List V} (e : Ext μ H μ' H') (h : HoldL μ H a vs) : HoldL μ' H' a vs := ⟨e.notin h.2 h.1, e.keep _ _ h.2 h.1⟩
theorem HoldD.mono {a : Addr} {kvs : List (L2.Key × V)} (e : Ext μ H μ' H') (h : HoldD μ H a kvs) : HoldD μ' H' a kvs := by
  obtain ⟨n, h | ⟨o, h⟩⟩ := h
  · exact ⟨e.notin h n, .inl (e.keep _ _ h n)⟩
  · exact ⟨e.notin h n, .inr ⟨o, e.keep _ _ h n⟩⟩
theorem HoldZ.mono {a : Addr} {vs : List V} (e : Ext μ H μ' H') (h : HoldZ T μ H a vs) : HoldZ T μ' H' a vs := by
  rcases h with ⟨n, h | ⟨o, h⟩⟩ | h
  · exact .inl ⟨e.notin h n, .inl (e.keep _ _ h n)⟩
  · exact .inl ⟨e.notin h n, .inr ⟨o, e.keep _ _ h n⟩⟩
  · exact .inr h
theorem HoldT.mono {a : Addr} {vs : List V} (e : Ext μ H μ' H') (h : HoldT T μ H a vs) : HoldT T μ' H' a vs := by
  rcases h with ⟨n, h | ⟨o, h⟩⟩ | h
  · exact .inl ⟨e.notin h n, .inl (e.keep _ _ h n)⟩
  · exact .inl ⟨e.notin h n, .inr ⟨o, e.keep _ _ h n⟩⟩
  · exact .inr h
mutual
theorem Rep.mono (e : Ext μ H μ' H') : ∀ {d : D} {v : V}, Rep T μ H d v → Rep T μ' H' d v
  | .fn i, _, h => by
    simp only [Rep] at h ⊢
    obtain ⟨f, c', dV, e1, n, h1, n2, h2, h3⟩ := h
    refine ⟨f, c', dV, e1, e.notin h1 n, e.keep _ _ h1 n, e.notin h2 n2, e.keep _ _ h2 n2, ?_⟩
    rcases h3 with h3 | ⟨dt, e3, n3, h3⟩
    · exact .inl h3
    · exact .inr ⟨dt, e3, e.notin h3 n3, e.keep _ _ h3 n3⟩
  | .non, _, h => by simpa only [Rep] using h
  | .bl _, _, h => by simpa only [Rep] using h
  | .int _, _, h => by simpa only [Rep] using h
  | .str _, _, h => by simpa only [Rep] using h
  | .cls _, _, h => by simpa only [Rep] using h
  | .ty _, _, h => by simpa only [Rep] using h
  | .adr _, _, h => by simpa only [Rep] using h
  | .tup ds, v, h => by
    simp only [Rep] at h ⊢
    obtain ⟨a, vs, e1, h1, h2⟩ := h
    exact ⟨a, vs, e1, h1.mono e, RepL.mono e h2⟩
  | .lst ds, v, h => by
    simp only [Rep] at h ⊢
    obtain ⟨a, vs, e1, h1, h2⟩ := h
    exact ⟨a, vs, e1, h1.mono e, RepL.mono e h2⟩
  | .dic ks ds, v, h => by
    simp only [Rep] at h ⊢
    obtain ⟨a, vs, e1, h1, h2⟩ := h
    exact ⟨a, vs, e1, h1.mono e, RepL.mono e h2⟩
  | .fz ds, v, h => by
    simp only [Rep] at h ⊢
    obtain ⟨a, vs, e1, h1, h2⟩ := h
    exact ⟨a, vs, e1, h1.mono e, RepL.mono e h2⟩
  | .obj k fs, v, h => by
    simp only [Rep] at h ⊢
    obtain ⟨a, dx, vfs, e1, n, h1, h2⟩ := h
    exact ⟨a, dx, vfs, e1, e.notin h1 n, e.keep _ _ h1 n, RepF.mono e h2⟩
  | .exc k fs, v, h => by
    simp only [Rep] at h ⊢
    obtain ⟨a, dx, vfs, e1, ⟨n, h1, n2, h3⟩, h2⟩ := h
    exact ⟨a, dx, vfs, e1, ⟨e.notin h1 n, e.keep _ _ h1 n, e.notin h3 n2, e.keep _ _ h3 n2⟩, RepF.mono e h2⟩
  | .dnk ks xs, v, h => by
    simp only [Rep] at h ⊢
    obtain ⟨a, o, ws, us, e1, ⟨n, h1, h2⟩, h3, h4⟩ := h
    exact ⟨a, o, ws, us, e1, ⟨e.notin h1 n, e.keep _ _ h1 n, h2⟩, RepL.mono e h3, RepL.mono e h4⟩
theorem RepL.mono (e : Ext μ H μ' H') : ∀ {ds : List D} {vs : List V}, RepL T μ H ds vs → RepL T μ' H' ds vs
  | [], _, h => by simpa only [RepL] using h
  | d :: ds, vs, h => by
    simp only [RepL] at h ⊢
    obtain ⟨v, ws, e1, h1, h2⟩ := h
    exact ⟨v, ws, e1, Rep.mono e h1, RepL.mono e h2⟩
theorem RepF.mono (e : Ext μ H μ' H') : ∀ {ds : List (Str × D)} {vs : List (Str × V)}, RepF T μ H ds vs → RepF T μ' H' ds vs
  | [], _, h => by simpa only [RepF] using h
  | (f, d) :: ds, vs, h => by
    simp only [RepF] at h ⊢
    obtain ⟨v, ws, e1, h1, h2⟩ := h
    exact ⟨v, ws, e1, Rep.mono e h1, RepF.mono e h2⟩
end
theorem RepA.mono (e : Ext μ H μ' H') {x : A} {v : V} (h : RepA T μ H x v) : RepA T μ' H' x v := by
  cases x with
  | v d => exact Rep.mono e h
  | m n =>
    obtain ⟨a, h1, h2⟩ := h
    exact ⟨a, e.getμ h1, h2⟩
theorem RepAs.mono (e : Ext μ H μ' H') : ∀ {ds : List A} {vs : List V}, RepAs T μ H ds vs → RepAs T μ' H' ds vs
  | [], _, h => h
  | d :: ds, vs, ⟨v, ws, e1, h1, h2⟩ => ⟨v, ws, e1, RepA.mono e h1, RepAs.mono e h2⟩
theorem RepE.mono (e : Ext μ H μ' H') {ρ : Env} {σ : L2.St} (h : RepE T μ H ρ σ) : RepE T μ' H' ρ σ :=
  ⟨h.len, fun i x q => let ⟨v, e1, r⟩ := h.at_ i x q; ⟨v, e1, r.mono e⟩⟩
mutual
theorem Rep.sw (e : Sw μ H H') : ∀ {d : D} {v : V}, Rep T μ H d v → Rep T μ H' d v
  | .non, _, h => by simpa only [Rep] using h
  | .bl _, _, h => by simpa only [Rep] using h
  | .int _, _, h => by simpa only [Rep] using h
  | .str _, _, h => by simpa only [Rep] using h
  | .cls _, _, h => by simpa only [Rep] using h
  | .ty _, _, h => by simpa only [Rep] using h
  | .adr _, _, h => by simpa only [Rep] using h
  | .fn i, _, h => by
    simp only [Rep] at h ⊢
    obtain ⟨f, c', dV, e1, n, h1, n2, h2, h3⟩ := h
    refine ⟨f, c', dV, e1, n, e.oth _ _ h1 (fun k z => by unfold LmO at z; cases z) (fun o k z => by unfold LmO at z; cases z), n2, e.oth _ _ h2 (fun k z => by unfold CodeO at z; cases z) (fun o k z => by unfold CodeO at z; cases z), ?_⟩
    rcases h3 with h3 | ⟨dt, e3, n3, h3⟩
    · exact .inl h3
    · exact .inr ⟨dt, e3, n3, e.oth _ _ h3 (fun k z => by cases z) (fun o k z => by cases z)⟩
  | .tup ds, v, h => by
    simp only [Rep] at h ⊢
    obtain ⟨a, vs, e1, h1, h2⟩ := h
    refine ⟨a, vs, e1, ?_, RepL.sw e h2⟩
    rcases h1 with ⟨n, h | ⟨o, h⟩⟩ | h
    · exact .inl ⟨n, .inl (e.oth _ _ h (fun k z => by cases z) (fun o k z => by cases z))⟩
    · exact .inl ⟨n, .inr ⟨o, e.oth _ _ h (fun k z => by cases z) (fun o k z => by cases z)⟩⟩
    · exact .inr h
  | .lst ds, v, h => by
    simp only [Rep] at h ⊢
    obtain ⟨a, vs, e1, h1, h2⟩ := h
    exact ⟨a, vs, e1, ⟨h1.1, e.oth _ _ h1.2 (fun k z => by cases z) (fun o k z => by cases z)⟩, RepL.sw e h2⟩
  | .dic ks ds, v, h => by
    simp only [Rep] at h ⊢
    obtain ⟨a, vs, e1, h1, h2⟩ := h
    exact ⟨a, vs, e1, ⟨h1.1, e.dic _ _ h1.2⟩, RepL.sw e h2⟩
  | .fz ds, v, h => by
    simp only [Rep] at h ⊢
    obtain ⟨a, vs, e1, h1, h2⟩ := h
    refine ⟨a, vs, e1, ?_, RepL.sw e h2⟩
    rcases h1 with ⟨n, h | ⟨o, h⟩⟩ | h
    · exact .inl ⟨n, .inl (e.oth _ _ h (fun k z => by cases z) (fun o k z => by cases z))⟩
    · exact .inl ⟨n, .inr ⟨o, e.oth _ _ h (fun k z => by cases z) (fun o k z => by cases z)⟩⟩
    · exact .inr h
  | .obj k fs, v, h => by
    simp only [Rep] at h ⊢
    obtain ⟨a, dx, vfs, e1, n, h1, h2⟩ := h
    exact ⟨a, dx, vfs, e1, n, e.oth _ _ h1 (fun k z => by cases z) (fun o k z => by cases z), RepF.sw e h2⟩
  | .exc k fs, v, h => by
    simp only [Rep] at h ⊢
    obtain ⟨a, dx, vfs, e1, ⟨n, h1, n2, h3⟩, h2⟩ := h
    exact ⟨a, dx, vfs, e1, ⟨n, e.oth _ _ h1 (fun k z => ext_dK z) (fun o k z => ext_frz z), n2, e.oth _ _ h3 (fun k z => ext_dK z) (fun o k z => ext_frz z)⟩, RepF.sw e h2⟩
  | .dnk ks xs, v, h => by
    simp only [Rep] at h ⊢
    obtain ⟨a, o, ws, us, e1, ⟨n, h1, h2⟩, h3, h4⟩ := h
    obtain ⟨es, eo, h5⟩ := id h2
    subst eo
    exact ⟨a, _, ws, us, e1, ⟨n, e.oth _ _ h1 (fun k z => ext_dK z) (fun o k z => ext_frz z), h2⟩, RepL.sw e h3, RepL.sw e h4⟩
theorem RepL.sw (e : Sw μ H H') : ∀ {ds : List D} {vs : List V}, RepL T μ H ds vs → RepL T μ H' ds vs
  | [], _, h => by simpa only [RepL] using h
  | d :: ds, vs, h => by
    simp only [RepL] at h ⊢
    obtain ⟨v, ws, e1, h1, h2⟩ := h
    exact ⟨v, ws, e1, Rep.sw e h1, RepL.sw e h2⟩
theorem RepF.sw (e : Sw μ H H') : ∀ {ds : List (Str × D)} {vs : List (Str × V)}, RepF T μ H ds vs → RepF T μ H' ds vs
  | [], _, h => by simpa only [RepF] using h
  | (f, d) :: ds, vs, h => by
    simp only [RepF] at h ⊢
    obtain ⟨v, ws, e1, h1, h2⟩ := h
    exact ⟨v, ws, e1, Rep.sw e h1, RepF.sw e h2⟩
end
theorem RepA.sw (e : Sw μ H H') {x : A} {v : V} (h : RepA T μ H x v) : RepA T μ H' x v := by
  cases x with
  | v d => exact Rep.sw e h
  | m n => exact h
theorem RepE.sw (e : Sw μ H H') {ρ : Env} {σ : L2.St} (h : RepE T μ H ρ σ) : RepE T μ H' ρ σ :=
  ⟨h.len, fun i x q => let ⟨v, e1, r⟩ := h.at_ i x q; ⟨v, e1, r.sw e⟩⟩
theorem MoOk.sw {a : Addr} {o : MO} (e : Sw μ H H') (ha : a ∈ μ) (nb : ∀ b o, H b = some o → b ∉ μ → (∀ k, o ≠ .dK k) → (∀ ob k, o ≠ .frz ob (.dK k)) → H' b = some o) (q : MoOk T μ H a o) : MoOk T μ H' a o := by
  have k : H' a = H a := e.inn a ha
  cases o with
  | lst ds =>
    obtain ⟨vs, q1, q2⟩ := q
    exact ⟨vs, by rw [k]; exact q1, q2.sw e⟩
  | dic kvs =>
    obtain ⟨vs, q1, q2⟩ := q
    exact ⟨vs, by rw [k]; exact q1, q2.sw e⟩
  | lok kvs =>
    obtain ⟨od, vs, q1, q2⟩ := q
    exact ⟨od, vs, by rw [k]; exact q1, q2.sw e⟩
  | x kd ks xs =>
    obtain ⟨u, ws, us, q1, q2, q3, q4⟩ := q
    exact ⟨u, ws, us, by rw [k]; exact q1, q2, q3.sw e, q4.sw e⟩
  | ins c fs =>
    obtain ⟨dx, vfs, q1, q2⟩ := q
    exact ⟨dx, vfs, by rw [k]; exact q1, q2.sw e⟩
  | tab P nm =>
    obtain ⟨ps, q0, q1, q2, q3⟩ := q
    refine ⟨ps, q0, by rw [k]; exact q1, q2, fun pos cv hc => ?_⟩
    obtain ⟨c, z1, z2, z3⟩ := q3 pos cv hc
    exact ⟨c, z1, z2, nb _ _ z3 z2 (fun k z => by unfold CodeO at z; cases z) (fun o k z => by unfold CodeO at z; cases z)⟩
theorem StOk.sw (e : Sw μ H H') (k : StOk T μ H S) : StOk T μ H' S :=
  ⟨k.len, k.nd, fun i a o h1 h2 => (k.at_ i a o h1 h2).sw e (List.mem_of_getElem? h1) (fun b o h _ => e.oth b o h), fun a ha => let ⟨o, q⟩ := k.tr a ha; ⟨o, by rw [e.inn a ha]; exact q⟩, T.sw e k.inv⟩
theorem RepL.length : ∀ {ds : List D} {vs : List V}, RepL T μ H ds vs → vs.length = ds.length
  | [], _, h => by simp only [RepL] at h; subst h; rfl
  | d :: ds, vs, h => by
    simp only [RepL] at h
    obtain ⟨v, ws, e1, _, h2⟩ := h
    subst e1
    simp [RepL.length h2]
theorem RepAs.length : ∀ {ds : List A} {vs : List V}, RepAs T μ H ds vs → vs.length = ds.length
  | [], _, h => by simp only [RepAs] at h; subst h; rfl
  | d :: ds, vs, ⟨v, ws, e1, _, h2⟩ => by
    subst e1
    simp [RepAs.length h2]
theorem RepL.get : ∀ {ds : List D} {vs : List V} {i : Nat} {d : D}, RepL T μ H ds vs → ds[i]? = some d → ∃ v, vs[i]? = some v ∧ Rep T μ H d v
  | [], _, _, _, _, e => by simp at e
  | d :: ds, vs, i, x, h, e => by
    simp only [RepL] at h
    obtain ⟨v, ws, e1, h1, h2⟩ := h
    subst e1
    cases i with
    | zero => simp at e; subst e; exact ⟨v, rfl, h1⟩
    | succ i => simp at e; simpa using RepL.get h2 e
theorem RepL.one {d : D} {v : V} (h : Rep T μ H d v) : RepL T μ H [d] [v] := by
  simp only [RepL]
  exact ⟨v, [], rfl, h, rfl⟩
theorem RepE.set {ρ : Env} {σ : L2.St} {i : Nat} {x : A} {v : V} (h : RepE T μ H ρ σ) (r : RepA T μ H x v) : RepE T μ H (ρ.set i (some x)) (σ.set i (some v)) := by
  refine ⟨by simp [h.len], fun j y e => ?_⟩
  by_cases hj : i = j
  · subst hj
    have hl : i < ρ.length := by
      have := (List.getElem?_eq_some_iff.mp e).1
      simpa using this
    rw [List.getElem?_set_self hl] at e
    cases e
    exact ⟨v, by rw [List.getElem?_set_self (by rw [← h.len]; exact hl)], r⟩
  · rw [List.getElem?_set_ne hj] at e
    obtain ⟨w, e1, r1⟩ := h.at_ j y e
    exact ⟨w, by rw [List.getElem?_set_ne hj]; exact e1, r1⟩
end

/-! ### what is wanted behind a computation -/
/-- the exception e lies at the class cls with the attributes at d -/
def RepEr (T : Tb) (μ : List Addr) (H : Hp) (e : Er) (cls : Value) (d : Option Addr) : Prop :=
  cls = .ref (T.cA e.k) ∧ ∃ dd vfs, d = some dd ∧ dd ∉ μ ∧ H dd = some (.xd vfs) ∧ RepF T μ H e.fs vfs
section
variable {α β : Type} (T : Tb) (Rp : List Addr → Hp → α → β → Prop)
def Aft (μ : List Addr) (H : Hp) (Q : β → Hp → Prop) (W : XK) : R α → Prop
  | .ok a S' => ∀ μ' H' v, Ext μ H μ' H' → StOk T μ' H' S' → Rp μ' H' a v → Q v H'
  | .err e S' => ∀ μ' H' cls d, Ext μ H μ' H' → StOk T μ' H' S' → RepEr T μ' H' e cls d → W cls d H'
  | .stk => False
end
section
variable {α β γ δ : Type} {T : Tb} {Rp : List Addr → Hp → α → β → Prop} {Rq : List Addr → Hp → γ → δ → Prop} {μ μ' : List Addr} {H H' : Hp} {Q : β → Hp → Prop} {Q' : δ → Hp → Prop} {W : XK}
theorem Aft.later (e : Ext μ H μ' H') : ∀ {c : R α}, Aft T Rp μ H Q W c → Aft T Rp μ' H' Q W c
  | .ok _ _, h => fun μ2 H2 v e2 => h μ2 H2 v (e.trans e2)
  | .err _ _, h => fun μ2 H2 c d e2 => h μ2 H2 c d (e.trans e2)
  | .stk, h => h
theorem Aft.split {c : R α} {k : α → Store → R γ} (h : Aft T Rq μ H Q' W (c.bind k)) :
    Aft T Rp μ H (fun v H1 => ∃ μ1 S1 a, Ext μ H μ1 H1 ∧ StOk T μ1 H1 S1 ∧ Rp μ1 H1 a v ∧ Aft T Rq μ1 H1 Q' W (k a S1)) W c := by
  cases c with
  | ok a S => exact fun μ1 H1 v e ok r => ⟨μ1, S, a, e, ok, r, Aft.later e h⟩
  | err e S => exact h
  | stk => exact h
end

/-- how exceptions fly: known to have no context (true), or not (false) -/
def CXB (b : Bool) (P : Program) (w : World) : CXT := match b with
  | true => L2N.CX P w
  | false => L2.CX P w
def TkB (b : Bool) (X : Cx) (W : WX) : Prop := match b with
  | true => L2N.Takes X W
  | false => Takes X W
theorem passesB {b : Bool} {X : Cx} {W : XK} (t : TkB b X (fun c d _ H => W c d H)) : Passes (CXB b X.prog X.w) X W := by
  cases b with
  | true => exact L2N.passes_call t fun _ _ _ _ h => h
  | false => exact passes_call t fun _ _ _ _ h => h
structure Lv (X : Cx) (T : Tb) (W : XK) : Prop where
  k : X.K = T.K
  tk : TkB T.nn X (fun c d _ H => W c d H)
section
variable {X : Cx} {T : Tb} {W : XK} {e a b c : Expr} {es : List Expr} {ma mb mc : EM} {pos : Pos}
/-! operators -/
/-- an operator by values; g : what it gives, where it is known -/
abbrev OpG := A → A → Store → Option A
/-- data alone -/
def asD : List A → Option (List D)
  | [] => some []
  | .v d :: r => (asD r).map (d :: ·)
  | .m _ :: _ => none
theorem RepAs.data {μ : List Addr} {H : Hp} : ∀ {xs : List A} {vs : List V} {ds : List D}, RepAs T μ H xs vs → asD xs = some ds → RepL T μ H ds vs
  | [], vs, ds, h, e => by
    have e' : ds = [] := by simpa [asD] using e.symm
    subst e'
    have h' : vs = [] := h
    simp only [RepL]
    exact h'
  | .v d :: r, vs, ds, ⟨v, ws, e1, h1, h2⟩, e => by
    cases q : asD r with
    | none => simp [asD, q] at e
    | some es =>
      simp [asD, q] at e
      subst e e1
      simp only [RepL]
      exact ⟨v, ws, rfl, h1, RepAs.data h2 q⟩
  | .m _ :: _, _, _, _, e => by simp [asD] at e
end
end L3

set_option Elab.async false
set_option linter.all false
set_option maxRecDepth 100000
set_option maxHeartbeats 2000000
namespace L3
open PySem PySem.Spec PyProof.Rows L2
section
variable {X : Cx} {T : Tb} {W : XK} {μ : List Addr} {H : Hp} {S : Store}
end
section
variable {X : Cx} {T : Tb} {W : XK} {e a b c : Expr} {es rest : List Expr} {ma mb mc : EM} {pos : Pos}
variable {m n : TM}
end
end L3

set_option Elab.async false
set_option linter.all false
set_option maxRecDepth 100000
set_option maxHeartbeats 2000000
namespace L3
open PySem PySem.Spec PyProof.Rows L2
section
variable {X : Cx} {T : Tb} {W : XK} {e a b c : Expr} {es rest : List Expr} {ma mb mc : EM} {r : AM} {pos p : Pos} {x : Str} {bid : String}
theorem SlR.or {r r' : V → Option Int → Option Int → Hp → VK → Prop} (h : SlR X r) (h' : SlR X r') : SlR X (fun x lo hi H Q => r x lo hi H Q ∨ r' x lo hi H Q) := by
  intro pins s σ H x v vl vu lo hi sl Q I rx hs pl pu q
  rcases q with q | q
  · exact h pins s σ H x v vl vu lo hi sl Q I rx hs pl pu q
  · exact h' pins s σ H x v vl vu lo hi sl Q I rx hs pl pu q
end
end L3

set_option Elab.async false
set_option linter.all false
set_option maxRecDepth 100000
set_option maxHeartbeats 2000000
namespace L3
open PySem PySem.Spec PyProof.Rows L2
/-! ### statements -/
inductive SR where
  | nx (ρ : Env) (S : Store) | rt (a : A) (S : Store) | bk (ρ : Env) (S : Store) | ct (ρ : Env) (S : Store) | er (e : Er) (S : Store) | stk
def AftS (T : Tb) (μ : List Addr) (H : Hp) (D : Ends) (W : XK) : SR → Prop
  | .nx ρ' S' => ∀ μ' H' σ', Ext μ H μ' H' → StOk T μ' H' S' → RepE T μ' H' ρ' σ' → D.nx σ' H'
  | .rt a S' => ∀ μ' H' v, Ext μ H μ' H' → StOk T μ' H' S' → RepA T μ' H' a v → D.rt v H'
  | .bk ρ' S' => ∀ μ' H' σ', Ext μ H μ' H' → StOk T μ' H' S' → RepE T μ' H' ρ' σ' → D.bk σ' H'
  | .ct ρ' S' => ∀ μ' H' σ', Ext μ H μ' H' → StOk T μ' H' S' → RepE T μ' H' ρ' σ' → D.ct σ' H'
  | .er e S' => ∀ μ' H' cls d, Ext μ H μ' H' → StOk T μ' H' S' → RepEr T μ' H' e cls d → W cls d H'
  | .stk => False
theorem AftS.later {T : Tb} {μ μ1 : List Addr} {H H1 : Hp} {D : Ends} {W : XK} (e : Ext μ H μ1 H1) : ∀ {c : SR}, AftS T μ H D W c → AftS T μ1 H1 D W c
  | .nx _ _, h => fun μ2 H2 v e2 => h μ2 H2 v (e.trans e2)
  | .rt _ _, h => fun μ2 H2 v e2 => h μ2 H2 v (e.trans e2)
  | .bk _ _, h => fun μ2 H2 v e2 => h μ2 H2 v (e.trans e2)
  | .ct _ _, h => fun μ2 H2 v e2 => h μ2 H2 v (e.trans e2)
  | .er _ _, h => fun μ2 H2 c d e2 => h μ2 H2 c d (e.trans e2)
  | .stk, h => h
/-- an expression, then what is done with it -/
def SR.of (r : R A) (k : A → Store → SR) : SR := match r with
  | .ok a S => k a S
  | .err e S => .er e S
  | .stk => .stk
section
variable {X : Cx} {T : Tb} {W : XK} {e a b c : Expr} {es : List Expr} {st : Stmt} {sts : List Stmt} {ma mb mc : EM} {r : AM} {m n : SM} {t : TM} {pos p : Pos}
/-! targets -/
inductive Tg where
  | nm (i : Nat) | tp (ts : List Tg)
mutual
def Tg.sl : Tg → List Nat
  | .nm i => [i]
  | .tp ts => Tg.sls ts
def Tg.sls : List Tg → List Nat
  | [] => []
  | t :: ts => Tg.sl t ++ Tg.sls ts
end
/-- the slots without sl are as they were -/
def OffE (sl : List Nat) (σ σ' : L2.St) : Prop := σ'.length = σ.length ∧ ∀ j, j ∉ sl → σ'[j]? = σ[j]?
theorem RepL.set {μ : List Addr} {H : Hp} : ∀ {ds : List D} {vs : List V} {d : D} {v : V} (j : Nat), RepL T μ H ds vs → Rep T μ H d v → RepL T μ H (ds.set j d) (vs.set j v)
  | [], vs, d, v, j, h, r => by
    simp only [RepL] at h
    subst h
    simp only [List.set_nil, RepL]
  | x :: ds, vs, d, v, j, h, r => by
    simp only [RepL] at h
    obtain ⟨w, ws, rfl, h1, h2⟩ := h
    cases j with
    | zero => simp only [List.set_cons_zero, RepL]; exact ⟨v, ws, rfl, r, h2⟩
    | succ j => simp only [List.set_cons_succ, RepL]; exact ⟨w, _, rfl, h1, RepL.set j h2 r⟩
end
section
variable {X : Cx} {T : Tb} {W : XK} {a b c : Expr} {body : List Stmt} {m : SM} {t : TM} {pos : Pos}
end
end L3

set_option Elab.async false
set_option linter.all false
set_option maxRecDepth 100000
set_option maxHeartbeats 2000000
namespace L3
open PySem PySem.Spec PyProof.Rows L2
end L3

set_option Elab.async false
set_option linter.all false
set_option maxRecDepth 100000
set_option maxHeartbeats 2000000
namespace L3
open PySem PySem.Spec PyProof.Rows L2
section
variable {X : Cx} {T : Tb} {W : XK} {a b c e elt : Expr} {es : List Expr} {ma : EM} {r : AM} {pos p tpos : Pos} {elts : List Expr} {kk : Nat}
theorem PI.or {tg iter : Expr} {t t' : TI} (h : PI X tg iter t) (h' : PI X tg iter t') : PI X tg iter (fun σ H R => t σ H R ∨ t' σ H R) := ⟨fun pins s σ H R I q => by
  rcases q with q | q
  · exact h.run pins s σ H R I q
  · exact h'.run pins s σ H R I q⟩
end
section
variable {X : Cx} {T : Tb} {W : XK} {a b c e elt : Expr} {es : List Expr} {ma m : EM} {t : TM} {r : AM} {pos p tpos : Pos} {elts : List Expr} {kk : Nat}
theorem OffE.sub {sl vs : List Nat} {σ σ' : L2.St} (h : OffE sl σ σ') (k : ∀ j ∈ sl, j ∈ vs) : OffE vs σ σ' := ⟨h.1, fun j hj => h.2 j fun z => hj (k j z)⟩
end
end L3

set_option Elab.async false
set_option linter.all false
set_option maxRecDepth 100000
set_option maxHeartbeats 2000000
namespace L3
open PySem PySem.Spec PyProof.Rows L2
section
variable {X : Cx} {T : Tb} {W : XK} {elt tg iter : Expr} {ifs : List Expr} {scope : Scope} {own : List (Str × Nat)} {mi : IM} {g : Tg} {t : TM} {m : EM} {pos spos py : Pos}
end
end L3

set_option Elab.async false
set_option linter.all false
set_option maxRecDepth 100000
set_option maxHeartbeats 2000000
namespace L3
open PySem PySem.Spec PyProof.Rows L2
/-! ### defs and calls -/
abbrev FM := List A → Store → R A
/-- a def's promise by its function -/
def spD (T : Tb) (fM : FM) : Sp := fun vs H Q E => ∃ μ S xs, RepAs T μ H xs vs ∧ StOk T μ H S ∧ Aft T (fun μ H => RepA T μ H) μ H Q E (fM xs S)
section
variable {P : Program} {w : World} {T : Tb} {mg : Str → Option Value} {base : Heap}
abbrev FD (P : Program) (w : World) (T : Tb) (mg : Str → Option Value) (base : Heap) (k : Nat) (f : Addr) (fd : FuncData) (ps : List Str) (fM : FM) : Prop := FnOk P w T.K mg base (CXB T.nn P w) k f fd ps (spD T fM)
end
section
variable {X : Cx} {T : Tb} {W : XK} {e a b c : Expr} {es : List Expr} {ma mv : EM} {r : AM} {pos p apos tpos : Pos} {x m : Str} {k j : Nat} {f : Addr} {fd : FuncData} {ps : List Str} {fM : FM} {dvs : List V} {ds : List Value} {dd : List A}
theorem Lv.pass (L : Lv X T W) : Passes (CXB T.nn X.prog X.w) X W := passesB L.tk
end
end L3

set_option Elab.async false
set_option linter.all false
set_option maxRecDepth 100000
set_option maxHeartbeats 2000000
namespace L3
open PySem PySem.Spec PyProof.Rows L2 NdefX
section
variable {X : Cx} {C cc c a f : Addr} {qual : Str} {p0 p1 p2 pos spos : Pos}
end
/-! the fields -/
/-- a field's value: the i-th parameter, or a text -/
abbrev IniV := Nat ⊕ Str
def valV (ys : List V) : IniV → V
  | .inl i => ys.getD i .non
  | .inr z => .str z
def iniL (fl : List (Str × IniV)) (ys : List V) : List (Str × V) := (fl.map fun p => (p.1, valV ys p.2)).reverse
section
variable {X : Cx} {C : Addr} {ps : List Str}
end
/-! the __init__ as a def -/
def spI (C : Addr) (n : Nat) (fl : List (Str × IniV)) : Sp := fun vs H Q _ => ∃ (a : Addr) (ys : List V), vs = .ref a :: ys ∧ ys.length = n ∧ H a = some (exo a C none) ∧ ∀ dx, H dx = none → dx ≠ a → Q .non (upd (upd H dx (exd dx (iniL fl ys))) a (exo a C (some dx)))
section
variable {P : Program} {w : World} {K : PySem.W.Frag} {mg : Str → Option Value} {base : Heap} {N ps : List Str} {name qual : Str} {params : Arguments} {rest : List Stmt} {scope : Scope} {dV kV doc pm ct oc : Value} {an od : Option Addr} {osl : Array (Option Value)} {C cc c f : Addr} {p0 p1 p2 pos spos : Pos} {fl : List (Str × IniV)} {k : Nat}
end
end L3

set_option Elab.async false
set_option linter.all false
set_option maxRecDepth 100000
set_option maxHeartbeats 2000000
namespace L3
open PySem PySem.Spec PyProof.Rows L2 NdefX
section
variable {X : Cx} {T : Tb} {W : XK} {r : AM} {x : Str} {e : Expr} {es : List Expr} {p pos rpos : Pos} {k n j : Nat} {fl : List (Str × IniV)} {fI : Addr} {fd : FuncData} {ps : List Str}
end
end L3

set_option Elab.async false
set_option linter.all false
set_option maxRecDepth 100000
set_option maxHeartbeats 2000000
namespace L3
open PySem PySem.Spec PyProof.Rows L2 NdefX LamX
section
variable {X : Cx} {T : Tb} {W : XK} {pins : List (Addr × Obj)} {σ : L2.St} {H : Hp} {s : Shared} {μ : List Addr} {S : Store}
end
end L3

set_option Elab.async false
set_option linter.all false
set_option maxRecDepth 100000
set_option maxHeartbeats 2000000
namespace L3
open PySem PySem.Spec PyProof.Rows L2 NdefX LamX
/-! ### lambdas: called -/
def Tb.wI (T : Tb) (J : List Addr → Hp → Prop) (hJ : ∀ {μ H μ' H'}, Ext μ H μ' H' → J μ H → J μ' H') (hS : ∀ {μ H H'}, Sw μ H H' → J μ H → J μ H') : Tb := { T with I := J, mono := hJ, sw := hS }
section
variable {T : Tb} {J : List Addr → Hp → Prop} {hJ : ∀ {μ H μ' H'}, Ext μ H μ' H' → J μ H → J μ' H'} {hS : ∀ {μ H H'}, Sw μ H H' → J μ H → J μ H'} {μ : List Addr} {H : Hp} {S : Store} {σ : L2.St} {ρ : Env}
end
/-- the lambda i run: m -/
def LamRun (P : Program) (w : World) (K : PySem.W.Frag) (mg : Str → Option Value) (base : Heap) (T : Tb) (k i : Nat) (m : Store → R A) : Prop :=
  ∀ (A : Around) (outer : List PySem.Env) (s : Shared) (H : Hp) (μ : List Addr) (S : Store) (Q : VK) (E : XK) (f : Addr), Room k A → Env0 P w K mg base A outer s H → StOk T μ H S → RepA T μ H (.v (.fn i)) (.ref f) → Aft T (fun μ H => RepA T μ H) μ H Q E (m S) →
    codeAny (model P w) A (.call (.ref f) ⟨[], []⟩) (CR (CXB T.nn P w) outer P w H s Q E) s
theorem LamRun.mono {P : Program} {w : World} {K : PySem.W.Frag} {mg : Str → Option Value} {base : Heap} {T : Tb} {j k i : Nat} {m : Store → R A} (h : LamRun P w K mg base T j i m) (hj : j ≤ k) : LamRun P w K mg base T k i m := fun A outer s H μ S Q E f hr => h A outer s H μ S Q E f (hr.mono hj)
section
variable {X : Cx} {T : Tb} {base' : Heap} {σ : L2.St} {ρ : Env} {i k : Nat} {params : Arguments} {body : Expr} {scope : Scope} {q : Str} {dv : List Int} {N ps fr : List Str} {js : List Nat} {m : EM}
end
section
variable {X : Cx} {T : Tb} {W : XK} {k j slot : Nat} {lm : Nat → Store → R A} {x : Str} {p pos : Pos}
end
section
variable {X : Cx} {pins : List (Addr × Obj)} {σ : L2.St} {H : Hp} {s : Shared}
end
section
variable {X : Cx} {T : Tb} {W : XK} {e : Expr} {es : List Expr} {r : AM} {x : Str} {p pos : Pos} {k : Nat} {f : Addr} {fd : FuncData} {ps : List Str} {fM : Env → FM}
end
end L3

set_option Elab.async false
set_option linter.all false
set_option maxRecDepth 100000
set_option maxHeartbeats 2000000
namespace L3
open PySem PySem.Spec PyProof.Rows L2 NdefX LamX
open L2H (RoomH PinOk cxH inv_startH roomH_of)
/-! ### a handled exception: its fields -/
/-- the dict of the exception e at d -/
def ErD (T : Tb) (e : Er) (d : Option Addr) : List Addr → Hp → Prop := fun μ H => ∃ dd vfs, d = some dd ∧ dd ∉ μ ∧ H dd = some (.xd vfs) ∧ RepF T μ H e.fs vfs
theorem ErD.mono {T : Tb} {e : Er} {d : Option Addr} : ∀ {μ H μ' H'}, Ext μ H μ' H' → ErD T e d μ H → ErD T e d μ' H' := fun x ⟨dd, vfs, h1, h2, h3, h4⟩ => ⟨dd, vfs, h1, x.notin h3 h2, x.keep _ _ h3 h2, h4.mono x⟩
def exI (T : Tb) (e : Er) (d : Option Addr) : List Addr → Hp → Prop := fun μ H => T.I μ H ∧ ErD T e d μ H
theorem exI_mono {T : Tb} {e : Er} {d : Option Addr} : ∀ {μ H μ' H'}, Ext μ H μ' H' → exI T e d μ H → exI T e d μ' H' := fun x h => ⟨T.mono x h.1, h.2.mono x⟩
theorem exI_sw {T : Tb} {e : Er} {d : Option Addr} : ∀ {μ H H'}, Sw μ H H' → exI T e d μ H → exI T e d μ H' := fun x ⟨h, dd, vfs, h1, h2, h3, h4⟩ => ⟨T.sw x h, dd, vfs, h1, h2, x.oth _ _ h3 (fun k z => by cases z) (fun o k z => by cases z), h4.sw x⟩
abbrev Tb.ex (T : Tb) (e : Er) (d : Option Addr) : Tb := T.wI (exI T e d) exI_mono exI_sw
section
variable {X : Cx} {T : Tb} {W : XK} {a : Addr} {oe : Obj} {er : Er} {d : Option Addr} {slot : Nat} {f x : Str} {p pos : Pos}
end
section
variable {C : Nat → Prop} {P : Program} {w : World} {K : PySem.W.Frag} {mg : Str → Option Value} {base : Heap} {T : Tb} {k : Nat} {f : Addr} {fd : FuncData} {x qual x0 : Str} {st : Stmt} {N : List Str} {m : Addr → Er → SM}
end
section
variable {C : Nat → Prop} {X : Cx} {T : Tb} {W : XK} {a : Addr} {oe : Obj} {er : Er} {d : Option Addr} {slot k : Nat} {fx x x0 : Str} {p q pos : Pos} {f : Addr} {fd : FuncData} {g : Addr → Er → Store → R A}
end
end L3

set_option Elab.async false
set_option linter.all false
set_option maxRecDepth 100000
set_option maxHeartbeats 2000000
namespace L3
open PySem PySem.Spec PyProof.Rows L2 NdefX LamX
open L2H (RoomH PinOk cxH inv_startH roomH_of)
section
variable {X : Cx} {x1 x2 x3 n : Str} {c1 c2 c3 : Value} {i kt : Nat} {body suite : List Stmt} {st0 : Stmt} {p1 p2 p3 np pos hpos : Pos} {tb : WX → TS} {ts : Addr → Value → Option Addr → TS} {Wout : WX}
end
section
variable {X : Cx} {T : Tb} {W : XK} {x1 x2 x3 n : Str} {c1 c2 c3 : Value} {i kt : Nat} {body suite : List Stmt} {st0 : Stmt} {p1 p2 p3 np pos hpos : Pos} {m : SM} {ms : Addr → Er → SM} {sh : Er → Store → SR} {catch_ : Nat → Option Bool}
end
end L3

set_option Elab.async false
set_option linter.all false
set_option maxRecDepth 100000
set_option maxHeartbeats 2000000
namespace L3
open PySem PySem.Spec PyProof.Rows L2 NdefX LamX
open L2H (RoomH PinOk cxH inv_startH roomH_of)
section
variable {prog : Program} {w : World} {A : Around} {E : Value → Shared → Prop} {s : Shared}
end
section
variable {X : Cx} {T : Tb} {W : XK} {o e : Expr} {mo ma : EM} {apos pos : Pos}
end
section
variable {X : Cx} {T : Tb} {W : XK} {e v1 v2 : Expr} {es rest : List Expr} {ma : EM} {ms : List EM} {pos : Pos}
end
end L3

set_option Elab.async false
set_option linter.all false
set_option maxRecDepth 100000
set_option maxHeartbeats 2000000
namespace L3
open PySem PySem.Spec PyProof.Rows L2 NdefX LamX
open L2H (RoomH PinOk cxH inv_startH roomH_of)
/-! ### operators and built-ins that may run the text's own methods -/
abbrev OpM := A → A → Store → R A
section
variable {X : Cx} {T : Tb} {W : XK} {a b : Expr} {ma mb : EM} {pos : Pos}
end
def OpM.of (g : OpG) : OpM := fun a b S => .ofO (g a b S) S
section
variable {X : Cx} {T : Tb} {W : XK} {e : Expr} {es : List Expr} {r : AM} {x : Str} {p pos : Pos} {bid : String}
end
section
variable {T : Tb} {μ : List Addr} {H : Hp}
end
section
variable {X : Cx} {T : Tb} {W : XK}
end
section
variable {X : Cx} {T : Tb} {W : XK} {pins : List (Addr × Obj)} {σ : L2.St} {H : Hp} {s : Shared} {J : Nat} {A' : Around} {fM : FM} {mt : Nat → Option FM}
section
variable {μ : List Addr} {Q : VK} {r : R A}
end
end
/-! in, not in, ==, != -/
section
variable {X : Cx} {T : Tb} {W : XK} {J : Nat} {mt : Nat → Option FM}
end
end L3

set_option Elab.async false
set_option linter.all false
set_option maxRecDepth 100000
set_option maxHeartbeats 2000000
namespace L3
open PySem PySem.Spec PyProof.Rows L2 NdefX LamX
open L2H (RoomH PinOk cxH inv_startH roomH_of)
/-! ### ==, != by an own __eq__ -/
def eqNames : List String := ["NoneType", "bool", "int", "str", "tuple", "list"]
section
variable {X : Cx} {T : Tb} {W : XK} {pins : List (Addr × Obj)} {σ : L2.St} {H : Hp} {s : Shared} {μ : List Addr} {S : Store}
variable {J : Nat} {mt : Nat → Option FM}
end
/-! x != y, the class without an own __ne__ -/
section
variable {prog : Program} {w : World} {A : Around} {E : Value → Shared → Prop} {s : Shared} {K : PySem.W.Frag} {x C f : Addr} {ox : Obj} {od : Option Obj} {u tb : Value}
end
section
variable {X : Cx} {T : Tb} {W : XK} {J : Nat} {mt : Nat → Option FM}
end
end L3

set_option Elab.async false
set_option linter.all false
set_option maxRecDepth 100000
set_option maxHeartbeats 2000000
namespace L3
open PySem PySem.Spec PyProof.Rows L2 NdefX LamX
open L2H (RoomH PinOk cxH inv_startH roomH_of)
section
variable {X : Cx} {T : Tb} {W : XK} {e : Expr} {es : List Expr} {kws : List Keyword} {m : EM} {r rk : AM} {nm : Option Str} {kpos pos : Pos}
/-- positions of a list -/
def perm {α : Type} (ix : List Nat) (l : List α) : List α := ix.filterMap fun i => l[i]?
/-- how a call with n values and the keywords ks binds -/
def KB (fd : FuncData) (ps : List Str) (n : Nat) (ks : List Str) (ix : List Nat) : Prop := ∀ us ws : List Value, us.length = n → ws.length = ks.length → bindArgs fd ⟨us, ks.zip ws⟩ = pure (ps.zip (perm ix (us ++ ws)))
variable {x m : Str} {p apos : Pos} {f : Addr} {fd : FuncData} {ps ks : List Str} {fM : FM} {j n : Nat} {ix : List Nat}
/-- a static method of the class at C, reached through the class's name -/
structure StatM (K : PySem.W.Frag) (C : Addr) (m : Str) (f : Addr) : Prop where
  ga : PySem.W.specialIn K (.ref C) "__getattribute__" = some (some (.builtin "type.__getattribute__"))
  ex : ∃ mc p rest, PySem.W.typeIn K (.ref C) = some mc ∧ PySem.W.readsIn K C mc = true ∧ PySem.W.findCls K (.ref C) mc m = some (.get (.builtin "staticmethod.__get__") (.ref p) .none (.ref C)) ∧ PySem.W.recIn K p "staticmethod" = some (.ref f :: rest)
  kp : PySem.W.keepIn K (.ref f) = true
end
/-! isinstance(x, C), C an own class -/
/-- what is asked of the class for isinstance -/
structure IsiC (T : Tb) (k : Nat) : Prop where
  bt : ∀ n ∈ eqNames, PySem.W.kitOne T.K (.type n) (.ref (T.cA k)) = some false
  cl : Cls T.K (T.cA k)
  ha : PySem.W.findIn T.K (.ref (T.cA k)) "__class__" = some (some (.builtin "object.__class__"))
  hn : PySem.W.specialIn T.K (.builtin "object.__class__") "__get__" = some (some (.builtin "getset_descriptor.__get__"))
  tk : PySem.W.takesIn T.K (.builtin "object.__class__") = some true
  hm : PySem.W.mroIn T.K (T.cA k) (.type "object") = some true
/-- cs: the classes that are asked for, none under another one -/
structure IsiT (T : Tb) (cs : List Nat) : Prop where
  one : ∀ k ∈ cs, IsiC T k
  two : ∀ k' ∈ cs, ∀ k ∈ cs, PySem.W.kitOne T.K (.ref (T.cA k')) (.ref (T.cA k)) = some (k' == k)
end L3

set_option Elab.async false
set_option linter.all false
set_option maxRecDepth 100000
set_option maxHeartbeats 2000000
namespace L3
open PySem PySem.Spec PyProof.Rows L2 NdefX LamX
open L2H (RoomH PinOk cxH inv_startH roomH_of)
section
variable {X : Cx} {T : Tb} {W : XK} {a b : Expr} {ma mb : EM} {pos : Pos}
end
/-- what the text says of an own error -/
structure ExT (P : Program) (K : PySem.W.Frag) (mg : Str → Option Value) (C : Addr) (ps : List Str) (fl : List (Str × IniV)) : Prop where
  o : OexC K C
  ex : ∃ fI fd, PySem.W.findIn K (.ref C) "__init__" = some (some (.ref fI)) ∧ PySem.W.typeIn K (.ref fI) = some (.type "function") ∧ Binds K fd ps [] ∧ ∀ (w : World) (base : Heap) (b : Bool), FnOk P w K mg base (CXB b P w) 1 fI fd ps (spI C (ps.length - 1) fl)
section
variable {X : Cx} {T : Tb} {W : XK} {r : AM} {x : Str} {e : Expr} {es : List Expr} {p pos rpos : Pos} {k : Nat} {fl : List (Str × IniV)} {ps : List Str}
end
end L3
namespace L3
open PySem PySem.Spec PyProof.Rows L2 NdefX LamX
theorem FD.none {P : Program} {w : World} {T : Tb} {mg : Str → Option Value} {base : Heap} {k : Nat} {f : Addr} {fd : FuncData} {ps : List Str} : FD P w T mg base k f fd ps (fun _ _ => .stk) :=
  ⟨fun vs H Q E ⟨_, _, _, _, _, h⟩ => h.elim, fun A outer s H args us vs Q E hr e0 hb r ⟨_, _, _, _, _, h⟩ => h.elim⟩
end L3

set_option Elab.async false
set_option linter.all false
set_option maxRecDepth 100000
set_option maxHeartbeats 2000000
namespace L3
open PySem PySem.Spec PyProof.Rows L2 NdefX LamX
open L2H (RoomH PinOk cxH inv_startH roomH_of)
end L3

set_option Elab.async false
set_option linter.all false
set_option maxRecDepth 100000
set_option maxHeartbeats 2000000
namespace L3
open PySem PySem.Spec PyProof.Rows L2 NdefX LamX
/-! ### what the head must show, by names -/
structure DefA where
  at_ : PySem.W.Frag → Addr
  name : Str
  qual : Str
  st : Stmt
  clo : List Str := []
abbrev FnO : Type := Option (Str × Str × Arguments × FuncBody × Scope × Addr × List Str × Addr)
def fnO (K : PySem.W.Frag) (a : Addr) : FnO := match K.lookup a with
  | some ⟨_, _, .func fd, _⟩ => some (fd.name, fd.qualname, fd.params, fd.body, fd.scope, fd.globals, fd.closure.map (·.1), fd.builtins)
  | _ => none
def DefA.val (d : DefA) : FnO := some (d.name, d.qual, defArgs d.st, .stmts (defBody d.st), defScope d.st, mainGlobals, d.clo, builtinsNs)
def noneB : Value → Bool
  | .none => true
  | _ => false
theorem noneB_ok {v : Value} (h : noneB v = true) : v = .none := by
  cases v <;> first | rfl | cases h
def DefA.ok (K : PySem.W.Frag) (d : DefA) : Bool := PySem.W.keepIn K (.ref (d.at_ K)) && (match K.lookup (d.at_ K) with
  | some ⟨_, _, .func fd, _⟩ => PySem.W.codeIn K fd.code d.qual && noneB fd.defaults
  | _ => false)
theorem and2 {a b : Bool} (h : (a && b) = true) : a = true ∧ b = true := Bool.and_eq_true_iff.mp h
theorem DefA.get {K : PySem.W.Frag} {d : DefA} (e : fnO K (d.at_ K) = d.val) (c : d.ok K = true) : PySem.W.keepIn K (.ref (d.at_ K)) = true ∧ ∃ oc od osl clo kV doc pm an cdv ct, clo.map (·.1) = d.clo ∧ PySem.W.codeIn K cdv d.qual = true ∧
    K.lookup (d.at_ K) = some ⟨oc, od, .func (PySem.W.fnX d.name d.qual (defArgs d.st) (defBody d.st) (defScope d.st) clo .none kV doc pm an cdv ct), osl⟩ := by
  obtain ⟨kp, c2⟩ := and2 c
  refine ⟨kp, ?_⟩
  unfold fnO at e
  cases q : K.lookup (d.at_ K) with
  | none => rw [q] at c2; cases c2
  | some o =>
    obtain ⟨oc, od, dt, osl⟩ := o
    rw [q] at c2 e
    cases dt with
    | func fd =>
      obtain ⟨n1, n2, n3, n4, n5, n6, n7, n8, n9, n10, n11, n12, n13, n14, n15⟩ := fd
      have e2 : (some (n1, n2, n3, n4, n5, n6, n7.map (·.1), n15) : FnO) = some (d.name, d.qual, defArgs d.st, .stmts (defBody d.st), defScope d.st, mainGlobals, d.clo, builtinsNs) := e
      simp only [Option.some.injEq, Prod.mk.injEq] at e2
      obtain ⟨h1, h2, h3, h4, h5, h6, h7, h8⟩ := e2
      subst h1 h2 h3 h4 h5 h6 h8
      obtain ⟨k1, k2⟩ := and2 (show (PySem.W.codeIn K n13 d.qual && noneB n8) = true from c2)
      have e8 : n8 = .none := noneB_ok k2
      subst e8
      exact ⟨oc, od, osl, n7, n9, n10, n11, n12, n13, n14, h7, k1, rfl⟩
    | _ => cases c2
/-! the law's own code object and its table -/
def lawCode (K : PySem.W.Frag) : Value := match K.lookup (He.ga K "law") with
  | some ⟨_, _, .func fd, _⟩ => fd.code
  | _ => .none
structure SaysU (ok : PySem.W.Frag → Bool) (fn : List DefA) (K : PySem.W.Frag) (c P : Addr) (h : Heap) : Prop where
  kin : K.In h
  no : K.lookup P = none
  tab : h.get? P = some { cls := .none, data := .fields #[] }
  hd : PySem.W.CodeHd h c P
  code : lawCode K = .ref c
  ok : ok K = true
  fok : ∀ d ∈ fn, d.ok K = true
  fn : fn.map (fun d => fnO K (d.at_ K)) = fn.map DefA.val
section
variable {ok : PySem.W.Frag → Bool} {fn : List DefA} {K : PySem.W.Frag} {c P : Addr} {h : Heap}
end
end L3

set_option Elab.async false
set_option linter.all false
set_option maxRecDepth 100000
set_option maxHeartbeats 2000000
namespace L3
open PySem PySem.Spec PyProof.Rows L2 NdefX LamX
section
variable {K : PySem.W.Frag}
end
end L3

set_option Elab.async false
set_option linter.all false
set_option maxRecDepth 100000
set_option maxHeartbeats 2000000
namespace L3
open PySem PySem.Spec PyProof.Rows L2 NdefX LamX
/-! ### the text's lambdas by paths -/
abbrev e0 : Expr := .Name "" ⟨0, 0, 0, 0⟩
theorem LamRun.none {P : Program} {w : World} {K : PySem.W.Frag} {mg : Str → Option Value} {base : Heap} {T : Tb} {k i : Nat} : LamRun P w K mg base T k i (fun _ => .stk) := fun _ _ _ _ _ _ _ _ _ _ _ _ _ h => h.elim
end L3

set_option Elab.async false
set_option linter.all false
set_option maxRecDepth 100000
set_option maxHeartbeats 2000000
namespace L3
open PySem PySem.Spec PyProof.Rows L2 LamX
/-! ### what was made on the way is forgotten -/
section
variable {T : Tb} {μ t : List Addr} {H : Hp} {S : Store} {ρ : Env} {σ : L2.St}
end
section
variable {T : Tb} {μ t : List Addr} {H : Hp} {S S' : Store} {ρ : Env} {σ : L2.St}
end
section
variable {X : Cx} {T : Tb} {W : XK} {st : Stmt} {sts : List Stmt} {m : SM}
end
end L3

set_option Elab.async false
set_option linter.all false
set_option maxRecDepth 100000
set_option maxHeartbeats 2000000
namespace L3
open PySem PySem.Spec PyProof.Rows L2 LamX
section
variable {X : Cx} {T : Tb} {W : XK} {elt tg iter : Expr} {ifs : List Expr} {scope : Scope} {own : List (Str × Nat)} {mi : IM} {g : Tg} {t : TM} {m : EM} {pos spos py : Pos}
end
section
variable {X : Cx} {T : Tb} {W : XK} {elt tg iter : Expr} {ifs : List Expr} {scope : Scope} {own : List (Str × Nat)} {mi : IM} {g : Tg} {t : TM} {m : EM} {pos spos py : Pos}
end
section
variable {X : Cx} {T : Tb} {W : XK} {o e : Expr} {es : List Expr} {mo : EM} {r : AM} {name : Str} {apos cpos : Pos} {ty id : String} {g : MetG}
end
section
variable {X : Cx} {T : Tb}
end
section
variable {X : Cx} {T : Tb} {W : XK} {o : Expr} {es : List Expr} {kws : List Keyword} {mo : EM} {r rk : AM} {m : Str} {apos pos : Pos} {k j n : Nat} {f : Addr} {fd : FuncData} {ps ks : List Str} {fM : FM} {ix : List Nat}
end
/-! ### list(text) -/
section
variable {X : Cx} {T : Tb}
end
end L3

set_option Elab.async false
set_option linter.all false
set_option maxRecDepth 100000
set_option maxHeartbeats 2000000
namespace L3
open PySem PySem.Spec PyProof.Rows L2 LamX
/-! ### dicts that are constants of a module -/
inductive CV where
  | int (i : Int) | str (x : Str)
def CV.d : CV → D
  | .int i => .int i
  | .str x => .str x
def CV.v : CV → V
  | .int i => .int i
  | .str x => .str x
def entO (e : DictEntry) : Option (Int × Str × CV) := match e.key, e.val with
  | .str k _, .str v _ => some (e.hash, k, .str v)
  | .str k _, .int v _ => some (e.hash, k, .int v)
  | _, _ => none
/-- what is seen of the dict at a -/
def dkO (K : PySem.W.Frag) (a : Addr) : Option (List (Option (Int × Str × CV))) := match K.lookup a with
  | some ⟨.type t, none, .dict es _, sl⟩ => if (t == "dict" && (sl.size == 0)) = true then some (es.toList.map entO) else none
  | _ => none
def dkV (w : World) (kvs : List (Str × CV)) : Option (List (Option (Int × Str × CV))) := some (kvs.map fun p => some (hashStr w p.1, p.1, p.2))
/-- the dict at a holds these pairs as long as K stands -/
structure KDict (P : Program) (w : World) (K : PySem.W.Frag) (a : Addr) (kvs : List (Str × CV)) : Prop where
  ns : (a == sysModules) = false
  ex : ∃ vs : List (Key × Value), KV (kvs.map fun p => ((.inr p.1 : Key), p.2.v)) vs ∧ ∀ h : Heap, K.In h → h.DictOf (mixKind P w) a vs
theorem entO_ok {e : DictEntry} {h : Int} {k : Str} {c : CV} (q : entO e = some (h, k, c)) : e.hash = h ∧ (∃ t, e.key = .str k t) ∧ RelV c.v e.val := by
  unfold entO at q
  split at q
  · rename_i k1 t1 v1 t2 e1 e2
    cases q
    exact ⟨rfl, ⟨t1, e1⟩, by rw [e2]; exact ⟨t2, rfl⟩⟩
  · rename_i k1 t1 v1 t2 e1 e2
    cases q
    exact ⟨rfl, ⟨t1, e1⟩, by rw [e2]; exact ⟨t2, rfl⟩⟩
  · cases q
theorem kdict_of {P : Program} {w : World} {K : PySem.W.Frag} {a : Addr} {kvs : List (Str × CV)} (e : dkO K a = dkV w kvs) (nd : (kvs.map (·.1)).Nodup) (ns : (a == sysModules) = false) : KDict P w K a kvs := by
  unfold dkO dkV at e
  split at e
  · rename_i t es ep sl lk
    split at e
    · rename_i ht
      simp only [Bool.and_eq_true, beq_iff_eq] at ht
      obtain ⟨rfl, hsl⟩ := ht
      have e1 := Option.some.inj e
      have key : ∀ (es : List DictEntry) (kvs : List (Str × CV)), es.map entO = kvs.map (fun p => some (hashStr w p.1, p.1, p.2)) →
          ∃ vs : List (Key × Value), KV (kvs.map fun p => ((.inr p.1 : Key), p.2.v)) vs ∧ (∀ e ∈ es, ∃ k, (mixKind P w).is k e.key = true ∧ e.hash = (mixKind P w).hash k) ∧ Pairs (mixKind P w) es vs ∧ vs.map (·.1) = kvs.map fun p => (.inr p.1 : Key) := by
        intro es
        induction es with
        | nil =>
          intro kvs e
          cases kvs with
          | nil => exact ⟨[], .nil, fun e he => by simp at he, .nil, rfl⟩
          | cons _ _ => cases e
        | cons x es ih =>
          intro kvs e
          cases kvs with
          | nil => cases e
          | cons p kvs =>
            simp only [List.map_cons, List.cons.injEq] at e
            obtain ⟨q1, q2⟩ := e
            obtain ⟨h1, ⟨t, h2⟩, h3⟩ := entO_ok q1
            obtain ⟨vs, g1, g2, g3, g4⟩ := ih kvs q2
            have hk : (mixKind P w).is (.inr p.1) x.key = true := kV_is (k := .inr p.1) (by rw [h2]; exact ⟨t, rfl⟩)
            refine ⟨(.inr p.1, x.val) :: vs, .cons ⟨rfl, h3⟩ g1, fun e he => ?_, .cons hk rfl g3, by rw [List.map_cons, List.map_cons, g4]⟩
            rcases List.mem_cons.mp he with rfl | he
            · exact ⟨_, hk, h1⟩
            · exact g2 e he
      obtain ⟨vs, g1, g2, g3, g4⟩ := key _ _ e1
      refine ⟨ns, vs, g1, fun h KX => ⟨_, es, ep, KX _ _ lk, ⟨rfl, rfl, Array.eq_empty_of_size_eq_zero hsl⟩, rfl, fun e he => g2 e (by simpa using he), g3, ?_⟩⟩
      rw [g4]
      have : (kvs.map fun p => (.inr p.1 : Key)) = (kvs.map (·.1)).map Sum.inr := by rw [List.map_map]; rfl
      rw [this]
      exact List.Pairwise.map _ (fun a b h c => h (Sum.inr.inj c)) nd
    · cases e
  · cases e
section
variable {X : Cx} {T : Tb} {W : XK} {a b : Expr} {ma mb : EM} {pos : Pos} {n : Nat} {kvs : List (Str × CV)}
end
end L3

set_option Elab.async false
set_option linter.all false
set_option maxRecDepth 100000
set_option maxHeartbeats 2000000
namespace L3
open PySem PySem.Spec PyProof.Rows L2 LamX
/-! ### lists: compared with the empty one, turned about -/
section
variable {T : Tb} {μ : List Addr} {H : Hp} {S : Store}
end
section
variable {X : Cx} {T : Tb} {W : XK} {a b c e : Expr} {es : List Expr} {ma mb mc : EM} {r : AM} {pos p : Pos}
end
section
variable {X : Cx} {T : Tb} {W : XK} {b c : Expr} {mb mc : EM} {pos apos cpos : Pos} {ks : List (Option Expr)} {vs : List Expr} {kvs : List (Str × CV)}
end
end L3

set_option Elab.async false
set_option linter.all false
set_option maxRecDepth 100000
set_option maxHeartbeats 2000000
namespace L3
open PySem PySem.Spec PyProof.Rows L2 NdefX LamX
/-! ### the hook with the constant dicts -/
abbrev DkN : Type := Str × List (Str × CV)
structure SaysW (ok : PySem.W.Frag → Bool) (fn : List DefA) (dc : List DkN) (w : World) (K : PySem.W.Frag) (c P : Addr) (h : Heap) : Prop where
  u : SaysU ok fn K c P h
  dk : (dc.map fun d => dkO K (He.ga K d.1)) = dc.map fun d => dkV w d.2
theorem SaysW.kd {ok : PySem.W.Frag → Bool} {fn : List DefA} {dc : List DkN} {w : World} {K : PySem.W.Frag} {c P : Addr} {h : Heap} {Pr : Program} (z : SaysW ok fn dc w K c P h) (i : Nat) {d : DkN} (hd : dc[i]? = some d) (nd : (d.2.map (·.1)).Nodup) (ns : (He.ga K d.1 == sysModules) = false) : KDict Pr w K (He.ga K d.1) d.2 := by
  have e2 : (dc.map fun d => dkO K (He.ga K d.1))[i]? = (dc.map fun d => dkV w d.2)[i]? := by rw [z.dk]
  rw [List.getElem?_map, List.getElem?_map, hd] at e2
  exact kdict_of (Option.some.inj e2) nd ns
end L3

set_option Elab.async false
set_option linter.all false
set_option maxRecDepth 100000
set_option maxHeartbeats 2000000
namespace L3
open PySem PySem.Spec PyProof.Rows L2 LamX
/-! ### slices, also of whole tuples -/
section
variable {X : Cx} {T : Tb} {W : XK} {a : Expr} {ma : EM} {pos : Pos}
end
end L3

set_option Elab.async false
set_option linter.all false
set_option maxRecDepth 100000
set_option maxHeartbeats 2000000
namespace L3
open PySem PySem.Spec PyProof.Rows L2 LamX
/-! ### objects that go on changing -/
section
variable {X : Cx} {T : Tb} {W : XK} {a b : Expr} {mo mv : EM} {pos tpos : Pos} {f : Str}
end
section
variable {X : Cx} {T : Tb} {W : XK} {r : AM} {fM : FM} {x : Str} {e : Expr} {es : List Expr} {p pos : Pos} {k j : Nat} {fd : FuncData} {ps : List Str}
end
end L3

set_option Elab.async false
set_option linter.all false
set_option maxRecDepth 100000
set_option maxHeartbeats 2000000
namespace L3
open PySem PySem.Spec PyProof.Rows L2 LamX
section
variable {T : Tb} {μ : List Addr} {H : Hp}
end
section
variable {X : Cx} {T : Tb} {W : XK} {a b c : Expr} {ma mb mc : EM} {pos pos' apos : Pos}
end
end L3

set_option Elab.async false
set_option linter.all false
set_option maxRecDepth 100000
set_option maxHeartbeats 2000000
namespace L3
open PySem PySem.Spec PyProof.Rows L2 LamX
section
variable {X : Cx} {T : Tb} {W : XK} {body : List Stmt} {m : SM} {g : Tg} {tg iter : Expr} {pos : Pos}
end
end L3

set_option Elab.async false
set_option linter.all false
set_option maxRecDepth 100000
set_option maxHeartbeats 2000000
namespace L3
open PySem PySem.Spec PyProof.Rows L2 LamX
section
variable {X : Cx} {T : Tb}
end
section
variable {X : Cx} {T : Tb} {W : XK} {elt : Expr} {ifs : List Expr} {scope : Scope} {own : List (Str × Nat)} {g : Tg} {t : TM} {m : EM} {pos : Pos}
end
end L3

set_option Elab.async false
set_option linter.all false
set_option maxRecDepth 100000
set_option maxHeartbeats 2000000
namespace L3
open PySem PySem.Spec PyProof.Rows L2 NdefX LamX
def fnCode (K : PySem.W.Frag) (nm : Str) : Value := match K.lookup (He.ga K nm) with
  | some ⟨_, _, .func fd, _⟩ => fd.code
  | _ => .none
structure SaysT (nms : List Str) (ok : PySem.W.Frag → Bool) (fn : List DefA) (dc : List DkN) (w : World) (K : PySem.W.Frag) (l : List (Addr × Addr)) (h : Heap) : Prop where
  kin : K.In h
  len : l.length = nms.length
  no : ∀ p ∈ l, K.lookup p.2 = none
  tab : ∀ p ∈ l, h.get? p.2 = some { cls := .none, data := .fields #[] }
  hd : ∀ p ∈ l, PySem.W.CodeHd h p.1 p.2
  code : ∀ p ∈ nms.zip l, fnCode K p.1 = .ref p.2.1
  nd : (l.map Prod.snd).Nodup
  ok : ok K = true
  fok : ∀ d ∈ fn, d.ok K = true
  fn : fn.map (fun d => fnO K (d.at_ K)) = fn.map DefA.val
  dk : (dc.map fun d => dkO K (He.ga K d.1)) = dc.map fun d => dkV w d.2
section
variable {nms : List Str} {ok : PySem.W.Frag → Bool} {fn : List DefA} {dc : List DkN} {w : World} {K : PySem.W.Frag} {l : List (Addr × Addr)} {h : Heap} {Pr : Program}
theorem SaysT.kd (z : SaysT nms ok fn dc w K l h) (i : Nat) {d : DkN} (hd : dc[i]? = some d) (nd : (d.2.map (·.1)).Nodup) (ns : (He.ga K d.1 == sysModules) = false) : KDict Pr w K (He.ga K d.1) d.2 := by
  have e2 : (dc.map fun d => dkO K (He.ga K d.1))[i]? = (dc.map fun d => dkV w d.2)[i]? := by rw [z.dk]
  rw [List.getElem?_map, List.getElem?_map, hd] at e2
  exact kdict_of (Option.some.inj e2) nd ns
end
end L3

set_option Elab.async false
set_option linter.all false
set_option maxRecDepth 100000
set_option maxHeartbeats 2000000
namespace L3
open PySem PySem.Spec PyProof.Rows L2 NdefX LamX ClX
section
variable {X : Cx} {T : Tb} {W : XK} {a : Expr} {ma : EM} {pos p : Pos} {x : Str}
end
end L3

set_option Elab.async false
set_option linter.all false
set_option maxRecDepth 100000
set_option maxHeartbeats 2000000
namespace PySem
namespace HandSPX
open Builtin Builtin.ObjectAttr
/-! ### an own exception class called with keywords -/
section
variable {M : Model} {A : Around} {E : Value → Shared → Prop} {h : Heap} {g : Array GenState} {d : Drawn} {t : Nat} {os : OsState}
variable {nm q : Str} {C N : Addr} {bs bm bmB : List Value} {hdct : Bool} {sn : List Str} {sub : List Value} {ab : Bool} {col : Option Bool} {dd : Option Addr} {k0 k1 k2 k3 k5 : Option Value} {B newId initId : String} {kw : List (Str × Value)}
end
section
variable {prog : Program} {w : World} {A : Around} {E : Value → Shared → Prop} {R : Result → Shared → Prop} {h : Heap} {g : Array GenState} {d : Drawn} {t : Nat} {os : OsState}
variable {nm q : Str} {C N : Addr} {bs bm bmB : List Value} {hdct : Bool} {sn : List Str} {sub : List Value} {ab : Bool} {col : Option Bool} {dd : Option Addr} {k0 k1 k2 k3 k5 : Option Value} {B newId initId : String} {kw : List (Str × Value)}
end
/-! ### own classes over any built-in exception: own classes, then the base's row -/
def refsT (tl : List Value) : List Value → Bool
  | .ref _ :: r => refsT tl r
  | l => l == tl
/-- a built-in base of own exceptions -/
structure BaseF (B newId initId : String) (tl : List Value) : Prop where
  F : ExcBaseFacts B newId initId tl
  K : PySem.W.KxsFacts B initId
  pass : ∀ self : Value, refuseLoop self "__setattr__" tl = pure ()
  ob : tl.contains (.type "object") = true
  ne : tl.isEmpty = false
section
variable {prog : Program} {w : World} {A : Around} {E : Value → Shared → Prop} {R : Result → Shared → Prop} {hp : Heap} {g : Array GenState} {d : Drawn} {t : Nat} {os : OsState} {tl : List Value}
end
end HandSPX
end PySem

set_option Elab.async false
set_option linter.all false
set_option maxRecDepth 100000
set_option maxHeartbeats 2000000
namespace L3
open PySem PySem.Spec PyProof.Rows L2 NdefX
/-! ### own exceptions over any built-in base -/
structure OexG (K : PySem.W.Frag) (C : Addr) (nI : String) (tl : List Value) : Prop where
  cls : ∃ nm q N bs bm sn sub ab col dd k0 k1 k2 k3 k5, K.lookup C = some (excClassObj nm q C N bs bm true sn sub ab col dd k0 k1 k2 k3 k5 nI) ∧ PySem.HandSPX.refsT tl bm = true
  sa : PySem.W.findIn K (.ref C) "__setattr__" = some (some (.builtin "object.__setattr__"))
  exC : PySem.W.subIn K (.ref C) (.type "BaseException") = some true
  tyC : PySem.W.typeIn K (.ref C) = some (.type "type")
  kC : PySem.W.keepIn K (.ref C) = true
section
variable {X : Cx} {pins : List (Addr × Obj)} {σ : L2.St} {H : Hp} {s : Shared} {a C dx : Addr} {f : Str} {y : V} {u : Value} {fs : List (Str × V)} {Q : Unit → Shared → Prop} {E : Value → Shared → Prop} {A : Around} {B nI iI : String} {tl : List Value}
end
section
variable {X : Cx} {o e : Expr} {to te : TE} {f : Str} {p' pos : Pos} {B nI iI : String} {tl : List Value}
end
section
variable {B nI iI : String} {tl : List Value} {X : Cx} {C cc c a f : Addr} {qual : Str} {p0 p1 p2 pos spos : Pos}
end
section
variable {B nI iI : String} {tl : List Value} {X : Cx} {C : Addr} {ps : List Str}
end
/-! the __init__ as a def -/
section
variable {B nI iI : String} {tl : List Value} {P : Program} {w : World} {K : PySem.W.Frag} {mg : Str → Option Value} {base : Heap} {N ps : List Str} {name qual : Str} {params : Arguments} {rest : List Stmt} {scope : Scope} {dV kV doc pm ct oc : Value} {an od : Option Addr} {osl : Array (Option Value)} {C cc c f : Addr} {p0 p1 p2 pos spos : Pos} {fl : List (Str × IniV)} {k : Nat}
end
end L3

set_option Elab.async false
set_option linter.all false
set_option maxRecDepth 100000
set_option maxHeartbeats 2000000
namespace PySem.W
open PySem PySem.Spec PySem.Calls PyProof.Rows
section
variable {prog : Program} {w : World} {A : Around} {E : Value → Shared → Prop} {s : Shared} {K : Frag} {x D : Addr} {ox : Obj} {od : Option Obj}
end
end PySem.W
namespace L3
open PySem PySem.Spec PyProof.Rows L2 NdefX LamX
/-! ### own errors as values -/
section
variable {T : Tb} {μ : List Addr} {H : Hp} {k : Nat} {a dx : Addr} {vfs : List (Str × V)}
end
/-- what the text says of an own error class that is made as a value -/
structure ExG (P : Program) (K : PySem.W.Frag) (mg : Str → Option Value) (C : Addr) (B nI iI : String) (tl : List Value) (ps : List Str) (fl : List (Str × IniV)) (kbl : List (Nat × List Str × List Nat)) : Prop where
  bf : PySem.HandSPX.BaseF B nI iI tl
  o : OexG K C nI tl
  ex : ∃ fI fd, PySem.W.findIn K (.ref C) "__init__" = some (some (.ref fI)) ∧ PySem.W.typeIn K (.ref fI) = some (.type "function") ∧ (∀ q ∈ kbl, KB fd ps q.1 q.2.1 q.2.2) ∧ ∀ (w : World) (base : Heap) (b : Bool), FnOk P w K mg base (CXB b P w) 1 fI fd ps (spI C (ps.length - 1) fl)
section
variable {X : Cx} {T : Tb} {W : XK} {r rk : AM} {x : Str} {es : List Expr} {kws : List Keyword} {p pos : Pos} {k n i np : Nat} {ix : List Nat} {fl : List (Str × IniV)} {ps ks : List Str} {B nI iI : String} {tl : List Value} {kbl : List (Nat × List Str × List Nat)}
/-! isinstance -/
def IsX (T : Tb) (it : Nat → Nat → Option Bool) : Prop := ∀ k c b, it k c = some b → ExcC T.K (T.cA k) ∧ PySem.W.kitOne T.K (.ref (T.cA k)) (.ref (T.cA c)) = some b
end
end L3

set_option Elab.async false
set_option linter.all false
set_option maxRecDepth 100000
set_option maxHeartbeats 2000000
namespace L3
open PySem PySem.Spec PyProof.Rows L2 NdefX LamX
/-! ### checks of the head's facts: own errors over any base -/
section
variable {K : PySem.W.Frag}
/-- the answers: a list of (k, c, b) -/
def isxT (l : List (Nat × Nat × Bool)) : Nat → Nat → Option Bool := fun k c => (l.find? fun p => p.1 == k && p.2.1 == c).map fun p => p.2.2
end
end L3

set_option Elab.async false
set_option linter.all false
set_option maxRecDepth 100000
set_option maxHeartbeats 2000000
namespace L3
open PySem PySem.Spec PyProof.Rows L2
end L3

set_option Elab.async false
set_option linter.all false
set_option maxRecDepth 100000
set_option maxHeartbeats 2000000
namespace L3
open PySem PySem.Spec PyProof.Rows L2 LamX
/-! ### to reckon with the plain functions -/
section
variable {ρ : Env} {S S1 S2 : Store} {x y : A} {i : Nat} {d : D} {ma mb mc : EM} {t u : TM} {m n : SM} {r : AM}
end

/-! statements -/
section
variable {ρ ρ1 : Env} {S S1 S2 : Store} {x y : A} {i j : Nat} {d : D} {ma mb mc mo mv mi : EM} {t u : TM} {m n : SM} {r : AM} {e : Er}
end

/-! operators by kinds -/
section
variable {ρ : Env} {S S1 : Store} {i j : Int} {a b l : List Nat} {d e : D} {x y : A} {ma mb : EM} {r : AM} {xs ys ds : List D} {k : Bool} {n q : Nat}
end

section
variable {N B C N' B' C' : Env → Store → Prop} {T T' : A → Store → Prop} {E E' : Er → Store → Prop} {ρ ρ1 : Env} {S S1 : Store} {m n : SM} {g : Tg} {t : TM} {ma : EM} {mi : IM} {ds : List D} {i : Nat} {x : A}
end
/-! comprehensions -/
section
variable {own : List Nat} {mi : IM} {g : Tg} {t : TM} {m : EM} {ρ : Env} {S S1 : Store} {ds : List D}
end
section
variable {α : Type} {own : List Nat} {mi : IM} {g : Tg} {t : TM} {m : EM} {ρ : Env} {S S1 : Store}
end
section
variable {k : Bool} {i : Int} {z : Str} {xs : List D} {S : Store} {ρ : Env} {ma : EM} {ns : List String} {x : A}
end
section
variable {ρ : Env} {S S1 : Store} {i j : Int} {a b l : List Nat} {d e : D} {x y : A} {ma mb mc : EM} {r : AM} {xs ys ds : List D} {k : Bool} {n q : Nat}
end
/-! calls of classes, fields -/
section
variable {ρ : Env} {S S1 : Store} {x y : A} {ma mo : EM} {r rk : AM} {k a b n : Nat} {fM : FM} {fs : List (Str × D)} {ix : List Nat} {e : Er} {d : D} {mt : Nat → Option FM} {z : Str}
end
end L3

set_option Elab.async false
set_option linter.all false
set_option maxRecDepth 100000
set_option maxHeartbeats 2000000
namespace L3
open PySem PySem.Spec PyProof.Rows L2 LamX
section
variable {S : Store} {mt : Nat → Option FM} {z : Str} {xs : List D} {d : D} {neg : Bool → Bool} {g : OpG} {a b : List Nat} {i j : Int} {x y : A}
end
end L3

set_option Elab.async false
set_option linter.all false
set_option maxRecDepth 100000
set_option maxHeartbeats 2000000
namespace L3
open PySem PySem.Spec PyProof.Rows L2 LamX
section
variable {ρ : Env} {S S1 S2 : Store} {x y : A} {ma mo : EM} {r rk : AM} {k a b n : Nat} {fM : FM} {fs : List (Str × D)} {ix : List Nat} {d : D} {xs ds : List D} {l : List Nat} {c : Nat} {ty : String} {g : MetG} {z : Str} {e : Er}
end
end L3

set_option Elab.async false
set_option linter.all false
set_option maxRecDepth 100000
set_option maxHeartbeats 2000000
namespace L3
open PySem PySem.Spec PySem.W HandSHeadRun
/-! ### the head's run with fewer unfoldings: the same loop, one case analysis a step -/
section
noncomputable section
variable (den : Code → Sem PySem.Fin) (p : Program) (w : World) (n0 : Nat) (ann : Option Value) (life : Life)
end
end
end L3
set_option Elab.async false
set_option linter.all false
set_option maxRecDepth 100000
set_option maxHeartbeats 2000000
namespace L3
open PySem PySem.Spec PySem.W HandSHeadRun
/-! ### it is goF -/
section
variable {den : Code → Sem PySem.Fin} {p : Program} {w : World} {n0 : Nat} {ann : Option Value} {life : Life}
end
end L3
set_option Elab.async false
set_option linter.all false
set_option maxRecDepth 100000
set_option maxHeartbeats 4000000
namespace L3
open PySem PySem.Spec PyProof.Rows L2 NdefX LamX
open L2H (RoomH PinOk cxH inv_startH roomH_of)
/-! ### the text by places -/
def top (i : Nat) : Stmt := PySem.Challenge.pw_lotbarter_k66_errors_made_by_hand.main.body.getD i (.Pass ⟨0, 0, 0, 0⟩)
abbrev s_law_field : Stmt := top 46
abbrev s_law_try : Stmt := top 47
abbrev s_law_like : Stmt := top 45
abbrev s_Alphabet_contains : Stmt := inClass (top 40) 11
abbrev s_Alphabet_color : Stmt := inClass (top 40) 5
abbrev s_are_digits : Stmt := top 39
abbrev s_is_small : Stmt := top 4
abbrev s_are_letters : Stmt := top 38
abbrev s_Alphabet_init : Stmt := inClass (top 40) 0
abbrev s_Alphabet_plain : Stmt := inClass (top 40) 1
abbrev s_law_pick : Stmt := top 43
abbrev s_law_of : Stmt := top 44
abbrev s_law_made_right : Stmt := top 49
abbrev s_law_given : Stmt := top 48
abbrev s_law_hand : Stmt := top 42
def isxl : List (Nat × Nat × Bool) := [(10, 20, true), (11, 20, true), (12, 20, true), (13, 20, true), (14, 20, true), (15, 20, true), (16, 20, true), (17, 20, true), (18, 20, true), (19, 20, true), (23, 20, true), (24, 20, true), (25, 20, true), (26, 20, true), (27, 20, true), (28, 20, true), (29, 20, true), (30, 20, true), (31, 20, true), (32, 20, true), (33, 20, true), (34, 20, true), (35, 20, true), (36, 20, true), (37, 20, true), (38, 20, true), (39, 20, false), (39, 21, true), (22, 20, false)]
def catchE : Nat → Option Bool := fun k => if k = 10 then some true else if k = 11 then some true else none
structure G (P : Program) (w : World) (K : PySem.W.Frag) (cA : Nat → Addr) (mg : Str → Option Value) where
  a_law_field : Addr
  d_law_field : FuncData
  F_law_field : Fun K "_law_field" "_law_field" s_law_field a_law_field d_law_field
  b_law_field : Binds K d_law_field ["_law_e"] []
  g_law_field : mg "_law_field" = some (.ref a_law_field)
  k_law_field : PySem.W.keepIn K (.ref a_law_field) = true
  a_law_try : Addr
  d_law_try : FuncData
  F_law_try : Fun K "_law_try" "_law_try" s_law_try a_law_try d_law_try
  b_law_try : Binds K d_law_try ["_law_ask"] []
  g_law_try : mg "_law_try" = some (.ref a_law_try)
  k_law_try : PySem.W.keepIn K (.ref a_law_try) = true
  a_law_like : Addr
  d_law_like : FuncData
  F_law_like : Fun K "_law_like" "_law_like" s_law_like a_law_like d_law_like
  b_law_like : Binds K d_law_like ["_law_found", "_law_due"] []
  g_law_like : mg "_law_like" = some (.ref a_law_like)
  k_law_like : PySem.W.keepIn K (.ref a_law_like) = true
  a_Alphabet_contains : Addr
  d_Alphabet_contains : FuncData
  F_Alphabet_contains : Fun K "__contains__" "Alphabet.__contains__" s_Alphabet_contains a_Alphabet_contains d_Alphabet_contains
  b_Alphabet_contains : Binds K d_Alphabet_contains ["self", "value"] []
  k_Alphabet_contains : PySem.W.keepIn K (.ref a_Alphabet_contains) = true
  a_Alphabet_color : Addr
  d_Alphabet_color : FuncData
  F_Alphabet_color : Fun K "color" "Alphabet.color" s_Alphabet_color a_Alphabet_color d_Alphabet_color
  b_Alphabet_color : Binds K d_Alphabet_color ["self", "letter"] []
  k_Alphabet_color : PySem.W.keepIn K (.ref a_Alphabet_color) = true
  a_are_digits : Addr
  d_are_digits : FuncData
  F_are_digits : Fun K "are_digits" "are_digits" s_are_digits a_are_digits d_are_digits
  b_are_digits : Binds K d_are_digits ["value", "many"] []
  g_are_digits : mg "are_digits" = some (.ref a_are_digits)
  k_are_digits : PySem.W.keepIn K (.ref a_are_digits) = true
  a_is_small : Addr
  d_is_small : FuncData
  F_is_small : Fun K "is_small" "is_small" s_is_small a_is_small d_is_small
  b_is_small : Binds K d_is_small ["value"] []
  g_is_small : mg "is_small" = some (.ref a_is_small)
  k_is_small : PySem.W.keepIn K (.ref a_is_small) = true
  a_are_letters : Addr
  d_are_letters : FuncData
  F_are_letters : Fun K "are_letters" "are_letters" s_are_letters a_are_letters d_are_letters
  b_are_letters : Binds K d_are_letters ["value"] []
  g_are_letters : mg "are_letters" = some (.ref a_are_letters)
  k_are_letters : PySem.W.keepIn K (.ref a_are_letters) = true
  a_Alphabet_init : Addr
  d_Alphabet_init : FuncData
  F_Alphabet_init : Fun K "__init__" "Alphabet.__init__" s_Alphabet_init a_Alphabet_init d_Alphabet_init
  b_Alphabet_init : Binds K d_Alphabet_init ["self", "letters", "colors"] []
  k_Alphabet_init : PySem.W.keepIn K (.ref a_Alphabet_init) = true
  a_Alphabet_plain : Addr
  d_Alphabet_plain : FuncData
  F_Alphabet_plain : Fun K "plain" "Alphabet.plain" s_Alphabet_plain a_Alphabet_plain d_Alphabet_plain
  b_Alphabet_plain : Binds K d_Alphabet_plain ["letters"] []
  k_Alphabet_plain : PySem.W.keepIn K (.ref a_Alphabet_plain) = true
  a_law_pick : Addr
  d_law_pick : FuncData
  F_law_pick : Fun K "_law_pick" "_law_pick" s_law_pick a_law_pick d_law_pick
  b_law_pick : Binds K d_law_pick ["_law_hand_here", "_law_sides"] []
  g_law_pick : mg "_law_pick" = some (.ref a_law_pick)
  k_law_pick : PySem.W.keepIn K (.ref a_law_pick) = true
  a_law_of : Addr
  d_law_of : FuncData
  F_law_of : Fun K "_law_of" "_law_of" s_law_of a_law_of d_law_of
  b_law_of : Binds K d_law_of ["_law_hand_here", "_law_things"] []
  g_law_of : mg "_law_of" = some (.ref a_law_of)
  k_law_of : PySem.W.keepIn K (.ref a_law_of) = true
  a_law_made_right : Addr
  d_law_made_right : FuncData
  F_law_made_right : Fun K "_law_made_right" "_law_made_right" s_law_made_right a_law_made_right d_law_made_right
  b_law_made_right : Binds K d_law_made_right ["_law_error", "_law_code", "_law_due"] []
  g_law_made_right : mg "_law_made_right" = some (.ref a_law_made_right)
  k_law_made_right : PySem.W.keepIn K (.ref a_law_made_right) = true
  a_law_given : Addr
  d_law_given : FuncData
  F_law_given : Fun K "_law_given" "_law_given" s_law_given a_law_given d_law_given
  b_law_given : Binds K d_law_given ["_law_one"] []
  g_law_given : mg "_law_given" = some (.ref a_law_given)
  k_law_given : PySem.W.keepIn K (.ref a_law_given) = true
  a_law_hand : Addr
  d_law_hand : FuncData
  F_law_hand : Fun K "_law_hand" "_law_hand" s_law_hand a_law_hand d_law_hand
  b_law_hand : Binds K d_law_hand ["_law_script"] []
  g_law_hand : mg "_law_hand" = some (.ref a_law_hand)
  k_law_hand : PySem.W.keepIn K (.ref a_law_hand) = true
  z_all : mg "all" = none
  z_bool : mg "bool" = none
  z_int : mg "int" = none
  z_isinstance : mg "isinstance" = none
  z_len : mg "len" = none
  z_list : mg "list" = none
  z_range : mg "range" = none
  z_str : mg "str" = none
  z_tuple : mg "tuple" = none
  z_zip : mg "zip" = none
  cu_MOST_LETTERS : Value
  cm_MOST_LETTERS : mg "MOST_LETTERS" = some cu_MOST_LETTERS
  cr_MOST_LETTERS : L2.RelV (.int 8) cu_MOST_LETTERS
  cu_SMALL : Value
  cm_SMALL : mg "SMALL" = some cu_SMALL
  cr_SMALL : L2.RelV (.str "abcdefghijklmnopqrstuvwxyz") cu_SMALL
  g_Alphabet : mg "Alphabet" = some (.ref (cA 0))
  g_AlphabetsDiffer : mg "AlphabetsDiffer" = some (.ref (cA 27))
  g_DuplicateName : mg "DuplicateName" = some (.ref (cA 34))
  g_Full : mg "Full" = some (.ref (cA 35))
  g_InUse : mg "InUse" = some (.ref (cA 36))
  g_InvalidAlphabet : mg "InvalidAlphabet" = some (.ref (cA 10))
  g_InvalidAutomaton : mg "InvalidAutomaton" = some (.ref (cA 18))
  g_InvalidBag : mg "InvalidBag" = some (.ref (cA 23))
  g_InvalidBook : mg "InvalidBook" = some (.ref (cA 25))
  g_InvalidColor : mg "InvalidColor" = some (.ref (cA 12))
  g_InvalidCommand : mg "InvalidCommand" = some (.ref (cA 37))
  g_InvalidCount : mg "InvalidCount" = some (.ref (cA 15))
  g_InvalidEntry : mg "InvalidEntry" = some (.ref (cA 19))
  g_InvalidFar : mg "InvalidFar" = some (.ref (cA 26))
  g_InvalidLetter : mg "InvalidLetter" = some (.ref (cA 11))
  g_InvalidName : mg "InvalidName" = some (.ref (cA 32))
  g_InvalidPage : mg "InvalidPage" = some (.ref (cA 38))
  g_InvalidPair : mg "InvalidPair" = some (.ref (cA 24))
  g_InvalidPattern : mg "InvalidPattern" = some (.ref (cA 16))
  g_InvalidRow : mg "InvalidRow" = some (.ref (cA 14))
  g_InvalidText : mg "InvalidText" = some (.ref (cA 17))
  g_InvalidWord : mg "InvalidWord" = some (.ref (cA 13))
  g_LotError : mg "LotError" = some (.ref (cA 20))
  g_LotsDiffer : mg "LotsDiffer" = some (.ref (cA 28))
  g_Missing : mg "Missing" = some (.ref (cA 21))
  g_NotEven : mg "NotEven" = some (.ref (cA 29))
  g_NotThere : mg "NotThere" = some (.ref (cA 30))
  g_NothingLeft : mg "NothingLeft" = some (.ref (cA 22))
  g_TooMany : mg "TooMany" = some (.ref (cA 31))
  g_UnknownName : mg "UnknownName" = some (.ref (cA 39))
  g_WrongKind : mg "WrongKind" = some (.ref (cA 33))
  cl_Alphabet : Cls K (cA 0)
  mk_Alphabet : Mk K (cA 0) a_Alphabet_init
  x_InvalidAlphabet : ExT P K mg (cA 10) ["self", "given"] [("given", .inl 0), ("code", .inr "InvalidAlphabet")]
  x_InvalidLetter : ExT P K mg (cA 11) ["self", "given"] [("given", .inl 0), ("code", .inr "InvalidLetter")]
  v_AlphabetsDiffer : ExG P K mg (cA 27) "ValueError" "ValueError.__new__" "ValueError.__init__" [.type "ValueError", .type "Exception", .type "BaseException", .type "object"] ["self"] [("code", .inr "AlphabetsDiffer")] [(1, [], [0])]
  v_DuplicateName : ExG P K mg (cA 34) "ValueError" "ValueError.__new__" "ValueError.__init__" [.type "ValueError", .type "Exception", .type "BaseException", .type "object"] ["self", "name"] [("name", .inl 0), ("code", .inr "DuplicateName")] [(1, ["name"], [0, 1]), (2, [], [0, 1])]
  v_Full : ExG P K mg (cA 35) "ValueError" "ValueError.__new__" "ValueError.__init__" [.type "ValueError", .type "Exception", .type "BaseException", .type "object"] ["self", "most"] [("most", .inl 0), ("code", .inr "Full")] [(1, ["most"], [0, 1]), (2, [], [0, 1])]
  v_InUse : ExG P K mg (cA 36) "ValueError" "ValueError.__new__" "ValueError.__init__" [.type "ValueError", .type "Exception", .type "BaseException", .type "object"] ["self", "user"] [("user", .inl 0), ("code", .inr "InUse")] [(1, ["user"], [0, 1]), (2, [], [0, 1])]
  v_InvalidAlphabet : ExG P K mg (cA 10) "ValueError" "ValueError.__new__" "ValueError.__init__" [.type "ValueError", .type "Exception", .type "BaseException", .type "object"] ["self", "given"] [("given", .inl 0), ("code", .inr "InvalidAlphabet")] [(1, ["given"], [0, 1]), (2, [], [0, 1])]
  v_InvalidAutomaton : ExG P K mg (cA 18) "ValueError" "ValueError.__new__" "ValueError.__init__" [.type "ValueError", .type "Exception", .type "BaseException", .type "object"] ["self"] [("code", .inr "InvalidAutomaton")] [(1, [], [0])]
  v_InvalidBag : ExG P K mg (cA 23) "ValueError" "ValueError.__new__" "ValueError.__init__" [.type "ValueError", .type "Exception", .type "BaseException", .type "object"] ["self", "given"] [("given", .inl 0), ("code", .inr "InvalidBag")] [(1, ["given"], [0, 1]), (2, [], [0, 1])]
  v_InvalidBook : ExG P K mg (cA 25) "ValueError" "ValueError.__new__" "ValueError.__init__" [.type "ValueError", .type "Exception", .type "BaseException", .type "object"] ["self"] [("code", .inr "InvalidBook")] [(1, [], [0])]
  v_InvalidColor : ExG P K mg (cA 12) "ValueError" "ValueError.__new__" "ValueError.__init__" [.type "ValueError", .type "Exception", .type "BaseException", .type "object"] ["self", "given"] [("given", .inl 0), ("code", .inr "InvalidColor")] [(1, ["given"], [0, 1]), (2, [], [0, 1])]
  v_InvalidCommand : ExG P K mg (cA 37) "ValueError" "ValueError.__new__" "ValueError.__init__" [.type "ValueError", .type "Exception", .type "BaseException", .type "object"] ["self", "word"] [("word", .inl 0), ("code", .inr "InvalidCommand")] [(1, ["word"], [0, 1]), (2, [], [0, 1])]
  v_InvalidCount : ExG P K mg (cA 15) "ValueError" "ValueError.__new__" "ValueError.__init__" [.type "ValueError", .type "Exception", .type "BaseException", .type "object"] ["self", "given"] [("given", .inl 0), ("code", .inr "InvalidCount")] [(1, ["given"], [0, 1]), (2, [], [0, 1])]
  v_InvalidEntry : ExG P K mg (cA 19) "ValueError" "ValueError.__new__" "ValueError.__init__" [.type "ValueError", .type "Exception", .type "BaseException", .type "object"] ["self", "at"] [("at", .inl 0), ("code", .inr "InvalidEntry")] [(1, ["at"], [0, 1]), (2, [], [0, 1])]
  v_InvalidFar : ExG P K mg (cA 26) "ValueError" "ValueError.__new__" "ValueError.__init__" [.type "ValueError", .type "Exception", .type "BaseException", .type "object"] ["self", "given"] [("given", .inl 0), ("code", .inr "InvalidFar")] [(1, ["given"], [0, 1]), (2, [], [0, 1])]
  v_InvalidLetter : ExG P K mg (cA 11) "ValueError" "ValueError.__new__" "ValueError.__init__" [.type "ValueError", .type "Exception", .type "BaseException", .type "object"] ["self", "given"] [("given", .inl 0), ("code", .inr "InvalidLetter")] [(2, [], [0, 1]), (1, ["given"], [0, 1])]
  v_InvalidName : ExG P K mg (cA 32) "ValueError" "ValueError.__new__" "ValueError.__init__" [.type "ValueError", .type "Exception", .type "BaseException", .type "object"] ["self", "name"] [("name", .inl 0), ("code", .inr "InvalidName")] [(1, ["name"], [0, 1]), (2, [], [0, 1])]
  v_InvalidPage : ExG P K mg (cA 38) "ValueError" "ValueError.__new__" "ValueError.__init__" [.type "ValueError", .type "Exception", .type "BaseException", .type "object"] ["self", "line"] [("line", .inl 0), ("code", .inr "InvalidPage")] [(1, ["line"], [0, 1]), (2, [], [0, 1])]
  v_InvalidPair : ExG P K mg (cA 24) "ValueError" "ValueError.__new__" "ValueError.__init__" [.type "ValueError", .type "Exception", .type "BaseException", .type "object"] ["self"] [("code", .inr "InvalidPair")] [(1, [], [0])]
  v_InvalidPattern : ExG P K mg (cA 16) "ValueError" "ValueError.__new__" "ValueError.__init__" [.type "ValueError", .type "Exception", .type "BaseException", .type "object"] ["self", "path"] [("path", .inl 0), ("code", .inr "InvalidPattern")] [(1, ["path"], [0, 1]), (2, [], [0, 1])]
  v_InvalidRow : ExG P K mg (cA 14) "ValueError" "ValueError.__new__" "ValueError.__init__" [.type "ValueError", .type "Exception", .type "BaseException", .type "object"] ["self", "given"] [("given", .inl 0), ("code", .inr "InvalidRow")] [(1, ["given"], [0, 1]), (2, [], [0, 1])]
  v_InvalidText : ExG P K mg (cA 17) "ValueError" "ValueError.__new__" "ValueError.__init__" [.type "ValueError", .type "Exception", .type "BaseException", .type "object"] ["self"] [("code", .inr "InvalidText")] [(1, [], [0])]
  v_InvalidWord : ExG P K mg (cA 13) "ValueError" "ValueError.__new__" "ValueError.__init__" [.type "ValueError", .type "Exception", .type "BaseException", .type "object"] ["self", "given"] [("given", .inl 0), ("code", .inr "InvalidWord")] [(1, ["given"], [0, 1]), (2, [], [0, 1])]
  v_LotsDiffer : ExG P K mg (cA 28) "ValueError" "ValueError.__new__" "ValueError.__init__" [.type "ValueError", .type "Exception", .type "BaseException", .type "object"] ["self", "at"] [("at", .inl 0), ("code", .inr "LotsDiffer")] [(1, ["at"], [0, 1]), (2, [], [0, 1])]
  v_NotEven : ExG P K mg (cA 29) "ValueError" "ValueError.__new__" "ValueError.__init__" [.type "ValueError", .type "Exception", .type "BaseException", .type "object"] ["self", "row"] [("row", .inl 0), ("code", .inr "NotEven")] [(1, ["row"], [0, 1]), (2, [], [0, 1])]
  v_NotThere : ExG P K mg (cA 30) "ValueError" "ValueError.__new__" "ValueError.__init__" [.type "ValueError", .type "Exception", .type "BaseException", .type "object"] ["self", "given"] [("given", .inl 0), ("code", .inr "NotThere")] [(1, ["given"], [0, 1]), (2, [], [0, 1])]
  v_NothingLeft : ExG P K mg (cA 22) "IndexError" "IndexError.__new__" "IndexError.__init__" [.type "IndexError", .type "LookupError", .type "Exception", .type "BaseException", .type "object"] ["self"] [("code", .inr "NothingLeft")] [(1, [], [0])]
  v_TooMany : ExG P K mg (cA 31) "ValueError" "ValueError.__new__" "ValueError.__init__" [.type "ValueError", .type "Exception", .type "BaseException", .type "object"] ["self", "subject", "most"] [("subject", .inl 0), ("most", .inl 1), ("code", .inr "TooMany")] [(1, ["most", "subject"], [0, 2, 1]), (3, [], [0, 1, 2])]
  v_UnknownName : ExG P K mg (cA 39) "LookupError" "LookupError.__new__" "LookupError.__init__" [.type "LookupError", .type "Exception", .type "BaseException", .type "object"] ["self", "name"] [("name", .inl 0), ("code", .inr "UnknownName")] [(1, ["name"], [0, 1]), (2, [], [0, 1])]
  v_WrongKind : ExG P K mg (cA 33) "ValueError" "ValueError.__new__" "ValueError.__init__" [.type "ValueError", .type "Exception", .type "BaseException", .type "object"] ["self", "name"] [("name", .inl 0), ("code", .inr "WrongKind")] [(1, ["name"], [0, 1]), (2, [], [0, 1])]
  xcf_at : ∀ k ∈ ([19, 28] : List Nat), XfC K (cA k) ∧ PySem.W.findIn K (.ref (cA k)) "at" = some none
  xcf_code : ∀ k ∈ ([10, 11, 12, 13, 14, 15, 16, 17, 18, 19, 22, 23, 24, 25, 26, 27, 28, 29, 30, 31, 32, 33, 34, 35, 36, 37, 38, 39] : List Nat), XfC K (cA k) ∧ PySem.W.findIn K (.ref (cA k)) "code" = some none
  xcf_given : ∀ k ∈ ([10, 11, 12, 13, 14, 15, 23, 26, 30] : List Nat), XfC K (cA k) ∧ PySem.W.findIn K (.ref (cA k)) "given" = some none
  xcf_line : ∀ k ∈ ([38] : List Nat), XfC K (cA k) ∧ PySem.W.findIn K (.ref (cA k)) "line" = some none
  xcf_most : ∀ k ∈ ([31, 35] : List Nat), XfC K (cA k) ∧ PySem.W.findIn K (.ref (cA k)) "most" = some none
  xcf_name : ∀ k ∈ ([32, 33, 34, 39] : List Nat), XfC K (cA k) ∧ PySem.W.findIn K (.ref (cA k)) "name" = some none
  xcf_path : ∀ k ∈ ([16] : List Nat), XfC K (cA k) ∧ PySem.W.findIn K (.ref (cA k)) "path" = some none
  xcf_row : ∀ k ∈ ([29] : List Nat), XfC K (cA k) ∧ PySem.W.findIn K (.ref (cA k)) "row" = some none
  xcf_subject : ∀ k ∈ ([31] : List Nat), XfC K (cA k) ∧ PySem.W.findIn K (.ref (cA k)) "subject" = some none
  xcf_user : ∀ k ∈ ([36] : List Nat), XfC K (cA k) ∧ PySem.W.findIn K (.ref (cA k)) "user" = some none
  xcf_word : ∀ k ∈ ([37] : List Nat), XfC K (cA k) ∧ PySem.W.findIn K (.ref (cA k)) "word" = some none
  isx1 : ∀ T : Tb, T.K = K → T.cA = cA → IsX T (isxT isxl)
  m_Alphabet_contains : Meth K (cA 0) "__contains__" a_Alphabet_contains
  m_Alphabet_color : Meth K (cA 0) "color" a_Alphabet_color
  st_Alphabet_plain : StatM K (cA 0) "plain" a_Alphabet_plain
  fl_0_own_digits : ∀ k ∈ [0], Cls K (cA k) ∧ NoAttr K (cA k) "own_digits"
  fl_0_own_letters : ∀ k ∈ [0], Cls K (cA k) ∧ NoAttr K (cA k) "own_letters"
  kb_Alphabet_plain_1 : KB d_Alphabet_plain ["letters"] 1 [] [0]
  hcatch : ∀ k b, catchE k = some b → PySem.W.exmAny K (.ref (cA k)) [.ref (cA 20), .ref (cA 21), .ref (cA 22)] = some b
  xfc : ∀ {k}, catchE k = some true → XfC K (cA k)
  xno : ∀ {k}, catchE k = some true → ∀ f, f ∈ ["at", "code", "given", "line", "most", "name", "path", "row", "subject", "user", "word"] → PySem.W.findIn K (.ref (cA k)) f = some none
  isi1 : ∀ T : Tb, T.K = K → T.cA = cA → IsiT T [0]
end L3

set_option Elab.async false
set_option linter.all false
set_option maxRecDepth 100000
set_option maxHeartbeats 2000000
namespace L3
open PySem PySem.Spec PyProof.Rows L2
/-- a key isn't the set that changes -/
theorem KeyAt.but {h h' : Heap} {k : NK} {b D : Addr} {od : Obj} {rows : Array (Int × Value)} {ep : Nat} {tb : SetTable} (x : KeyAt h k b) (hD : h.get? D = some od) (hdt : od.data = .set rows ep tb) (sb : Heap.SameBut D h h') : KeyAt h' k b :=
  x.moved fun c o vs n e q => (sb.2 c fun z => by
    subst z
    rw [hD] at e
    cases e
    rw [hdt] at q
    cases q).trans e
section
variable {P : Program} {w : World}
/-- the small questions, n levels down -/
def ClsAt (P : Program) (w : World) (n : Nat) (s : Shared) (v : Value) : Prop := ∀ (A : Around) (E : Value → Shared → Prop) (Q : Bool → Shared → Prop), Q false s → wpAny (model P w) A (ofAClassStatement n v) Q E s
def ValAt (P : Program) (w : World) (n : Nat) (s : Shared) (v : Value) : Prop := ∀ (A : Around) (E : Value → Shared → Prop) (Q : Bool → Shared → Prop), Q true s → wpAny (model P w) A (hashByValue n v) Q E s
theorem clsAt_flat {n : Nat} {s : Shared} {v : Value} (h : carriedByValue v = true) : ClsAt P w n s v := fun A E Q q => by
  have e : ofAClassStatement n v = pure false := by cases v <;> first | (cases n <;> rfl) | cases h
  rw [e]
  exact wpAny_pure q
theorem clsAt_tup {n : Nat} {s : Shared} {b : Addr} {o : Obj} {vs : Array Value} {m : Nat} (ho : s.heap.get? b = some o) (hc : o.cls = .type "tuple") (hd : o.data = .seq vs m) (hin : ∀ v ∈ vs.toList, ClsAt P w n s v) : ClsAt P w (n + 1) s (.ref b) := fun A E Q q => by
  unfold ofAClassStatement
  refine wpAny_bind (wpAny_typeOf (⟨o, ho, hc⟩ : s.TypeIs (.ref b) "tuple") ?_)
  dsimp only
  have tt : (("tuple" : String) == "tuple") = true := by decide
  simp only [tt, if_true, Bool.not_true, Bool.false_eq_true, if_false]
  try refine wpAny_bind (wpAny_pure ?_)
  try simp only [Bool.not_true, Bool.false_eq_true, if_false]
  show wpAny _ _ (seqItems? (.ref b) >>= _) _ _ s
  refine wpAny_bind (wpAny_seqItems ho hd ?_)
  dsimp only
  refine wpAny_bind ?_
  show wpAny _ _ (forIn vs _ _) _ _ s
  rw [← Array.forIn_toList]
  refine wpAny_forIn_list _ (fun left r s1 => r.1 = none ∧ s1 = s ∧ ∀ v ∈ left, ClsAt P w n s v) _ ?_ ?_ _ _ ⟨rfl, rfl, hin⟩
  · rintro v left r s1 ⟨_, rfl, al⟩
    refine wpAny_bind (al v List.mem_cons_self _ _ _ ?_)
    simp only [Bool.false_eq_true, if_false]
    exact wpAny_pure ⟨rfl, rfl, fun u z => al u (List.mem_cons_of_mem _ z)⟩
  · rintro ⟨r1, _⟩ s1 ⟨e1, rfl, _⟩
    simp only at e1
    subst e1
    exact wpAny_pure q
theorem valAt_tup {n : Nat} {s : Shared} {b : Addr} {o : Obj} {vs : Array Value} {m : Nat} (ho : s.heap.get? b = some o) (hc : o.cls = .type "tuple") (hd : o.data = .seq vs m) (hin : ∀ v ∈ vs.toList, ValAt P w n s v) : ValAt P w (n + 1) s (.ref b) := fun A E Q q => by
  unfold hashByValue
  refine wpAny_bind (wpAny_specialOf (⟨o, ho, hc⟩ : s.TypeIs (.ref b) "tuple") F.slot_tuple_hash.lookup ?_)
  show wpAny _ _ (seqItems? (.ref b) >>= _) _ _ s
  refine wpAny_bind (wpAny_seqItems ho hd ?_)
  refine wpAny_bind ?_
  show wpAny _ _ (forIn vs _ _) _ _ s
  rw [← Array.forIn_toList]
  refine wpAny_forIn_list _ (fun left r s1 => r.1 = none ∧ s1 = s ∧ ∀ v ∈ left, ValAt P w n s v) _ ?_ ?_ _ _ ⟨rfl, rfl, hin⟩
  · rintro v left r s1 ⟨_, rfl, al⟩
    refine wpAny_bind (al v List.mem_cons_self _ _ _ ?_)
    simp only [Bool.not_true, Bool.false_eq_true, if_false]
    exact wpAny_pure ⟨rfl, rfl, fun u z => al u (List.mem_cons_of_mem _ z)⟩
  · rintro ⟨r1, _⟩ s1 ⟨e1, rfl, _⟩
    simp only at e1
    subst e1
    exact wpAny_pure q
mutual
theorem cls_key : ∀ (k : NK) (v : Value) (n : Nat) (s : Shared), NestedIs s.heap k v → k.depth ≤ n → ClsAt P w n s v
  | .none, _, n, s, x, _ => by cases x; exact clsAt_flat rfl
  | .num i, _, n, s, x, _ => by cases x <;> exact clsAt_flat rfl
  | .text y, _, n, s, x, _ => by cases x; exact clsAt_flat rfl
  | .tup ks, _, n, s, x, hn => by
    cases x with
    | tup x1 x2 x3 x4 =>
      simp only [NestedKey.depth] at hn
      cases n with
      | zero => omega
      | succ n => exact clsAt_tup x1 x2 x3 (cls_keys ks _ n s x4 (by omega))
theorem cls_keys : ∀ (ks : List NK) (vs : List Value) (n : Nat) (s : Shared), NestedAll s.heap ks vs → NestedKey.depthAll ks ≤ n → ∀ v ∈ vs, ClsAt P w n s v
  | [], _, n, s, x, _, v, hv => by cases x; cases hv
  | k :: ks, _, n, s, x, hn, v, hv => by
    cases x with
    | cons x1 x2 =>
      simp only [NestedKey.depthAll] at hn
      rcases List.mem_cons.mp hv with e | hv
      · rw [e]; exact cls_key k _ n s x1 (by omega)
      · exact cls_keys ks _ n s x2 (by omega) v hv
end
mutual
theorem val_key : ∀ (k : NK) (v : Value) (n : Nat) (s : Shared), NestedIs s.heap k v → k.depth ≤ n → k.numB = true → ValAt P w n s v
  | .none, _, n, s, x, _, h => by cases h
  | .num i, _, n, s, x, _, _ => by
    cases x <;> intro A E Q q
    · rw [show hashByValue n (.bool _) = pure true by cases n <;> rfl]
      exact wpAny_pure q
    · rw [show hashByValue n (.int _ _) = pure true by cases n <;> rfl]
      exact wpAny_pure q
  | .text y, _, n, s, x, _, h => by cases h
  | .tup ks, _, n, s, x, hn, h => by
    cases x with
    | tup x1 x2 x3 x4 =>
      simp only [NestedKey.depth] at hn
      cases n with
      | zero => omega
      | succ n => exact valAt_tup x1 x2 x3 (val_keys ks _ n s x4 (by omega) (by simpa only [NK.numB] using h))
theorem val_keys : ∀ (ks : List NK) (vs : List Value) (n : Nat) (s : Shared), NestedAll s.heap ks vs → NestedKey.depthAll ks ≤ n → NK.numsB ks = true → ∀ v ∈ vs, ValAt P w n s v
  | [], _, n, s, x, _, _, v, hv => by cases x; cases hv
  | k :: ks, _, n, s, x, hn, h, v, hv => by
    cases x with
    | cons x1 x2 =>
      simp only [NestedKey.depthAll] at hn
      simp only [NK.numsB, Bool.and_eq_true] at h
      rcases List.mem_cons.mp hv with e | hv
      · rw [e]; exact val_key k _ n s x1 (by omega) h.1
      · exact val_keys ks _ n s x2 (by omega) h.2 v hv
end
end
section
variable {P : Program} {w : World} {A : Around} {E : Value → Shared → Prop} {s : Shared}
end
end L3

set_option Elab.async false
set_option linter.all false
set_option maxRecDepth 100000
set_option maxHeartbeats 2000000
namespace L3
open PySem PySem.Spec PyProof.Rows L2
structure SetK (w : World) (h : Heap) (D : Addr) (L : KL) (rows : Array (Int × Value)) (ep : Nat) (tb : SetTable) : Prop where
  ob : ∃ od, h.get? D = some od ∧ od.ExactSet ∧ od.data = .set rows ep tb
  rows_ : rows.toList = L.map (kRow w)
  tab : TabOk tb (L.map fun p => kHash w p.2)
  nd : (L.map (·.2)).Nodup
  keys : ∀ p ∈ L, KeyAt h p.2 p.1
  plain : tb.plain = true
  led : w.params.followText "set-order" = true ∨ tb.led = true
  room : L.length * 5 < tb.mask * 3
  few : L.length < 64
section
variable {P : Program} {w : World} {A : Around} {E : Value → Shared → Prop} {s : Shared} {D : Addr} {L : KL} {rows : Array (Int × Value)} {ep : Nat} {tb : SetTable}
abbrev probeAt (tb : SetTable) (hh : Int) (c : Nat) : SetTable.Probe := nth tb.mask (runAt tb.mask (SetTable.bits hh % (tb.mask + 1)) (SetTable.bits hh)) c
end
end L3

set_option Elab.async false
set_option linter.all false
set_option maxRecDepth 100000
set_option maxHeartbeats 2000000
namespace L3
open PySem PySem.Spec PyProof.Rows L2
/-! ### a set of keys: one put in, the table laid anew -/
section
variable {P : Program} {w : World} {A : Around} {E : Value → Shared → Prop} {s : Shared} {D : Addr} {L : KL} {rows : Array (Int × Value)} {ep : Nat} {tb : SetTable}
end
end L3

set_option Elab.async false
set_option linter.all false
set_option maxRecDepth 100000
set_option maxHeartbeats 2000000
namespace L3
open PySem PySem.Spec PyProof.Rows L2
theorem SetK.bare {w : World} {h : Heap} {D : Addr} {L : KL} {rows : Array (Int × Value)} {ep : Nat} {tb : SetTable} (R : SetK w h D L rows ep tb) : SetK0 w h D L := ⟨rows, ep, tb, R.ob, R.rows_, R.tab, R.nd, R.plain, R.led, R.room, R.few⟩
abbrev freshSet (w : World) : Obj := { cls := .type "set", dict := none, data := .set #[] 0 (.fresh 0 0 (!w.params.followText "set-order")) }
section
variable {X : Cx} {pins : List (Addr × Obj)} {σ : L2.St} {H : Hp} {s : Shared} {D x : Addr} {L : KL} {k : NK}
end
/-- d whole numbers from -1 on below B - 1 behind n -/
def FitK (d : Nat) (B : Int) (k : NK) : Prop := ∃ n ms, pairOf k = some (n, ms) ∧ ms.length = d ∧ TS.Bd B ((n :: ms).map (· + 1))
def rankP (B : Int) (p : Int × List Int) : Int := TS.code B ((p.1 :: p.2).map (· + 1))
def rankK (B : Int) (k : NK) : Int := match pairOf k with
  | some p => rankP B p
  | none => 0
end L3

set_option Elab.async false
set_option linter.all false
set_option maxRecDepth 100000
set_option maxHeartbeats 2000000
namespace L3
open PySem PySem.Spec PyProof.Rows L2
section
variable {P : Program} {w : World} {A : Around} {E : Value → Shared → Prop} {s : Shared}
end
end L3

set_option Elab.async false
set_option linter.all false
set_option maxRecDepth 100000
set_option maxHeartbeats 2000000
namespace L3
open PySem PySem.Spec PyProof.Rows L2
def nkPut (es : NE) (k : NK) (x : Addr) (v : V) : NE := if (nkAt es k).isSome then es.map fun e => if e.1 = k then (e.1, e.2.1, v) else e else es ++ [(k, x, v)]
theorem PairE.map_put {k : NK} {v : V} {u : Value} (r : RelV v u) : ∀ {es : NE} {xs : List (NK × Addr × Value)}, Paired PairE es xs → Paired PairE (es.map fun e => if e.1 = k then (e.1, e.2.1, v) else e) (xs.map (putAt k u))
  | _, _, .nil => .nil
  | _, _, .cons (a := e) (b := x) h t => by
    rw [List.map_cons, List.map_cons]
    refine .cons ?_ (PairE.map_put r t)
    unfold putAt
    by_cases q : e.1 = k
    · have q2 : x.1 = k := h.1 ▸ q
      rw [if_pos q, if_pos q2]
      exact ⟨h.1, h.2.1, r⟩
    · have q2 : ¬ x.1 = k := h.1 ▸ q
      rw [if_neg q, if_neg q2]
      exact h
theorem paired_app {α β : Type} {F : α → β → Prop} : ∀ {as : List α} {bs : List β} {a : α} {b : β}, Paired F as bs → F a b → Paired F (as ++ [a]) (bs ++ [b])
  | _, _, _, _, .nil, h => .cons h .nil
  | _, _, _, _, .cons r t, h => .cons r (paired_app t h)
theorem PairE.put {k : NK} {x : Addr} {v : V} {u : Value} {es : NE} {xs : List (NK × Addr × Value)} (r : RelV v u) (h : Paired PairE es xs) : Paired PairE (nkPut es k x v) (storedH xs k x u) := by
  have z := PairE.at_ h k
  unfold nkPut storedH
  cases q : nkAt es k with
  | none =>
    cases q2 : atKey xs k with
    | none => exact paired_app h ⟨rfl, rfl, r⟩
    | some p => rw [q, q2] at z; exact z.elim
  | some p =>
    cases q2 : atKey xs k with
    | none => rw [q, q2] at z; exact z.elim
    | some p2 => exact PairE.map_put r h
section
variable {X : Cx} {pins : List (Addr × Obj)} {σ : L2.St} {H : Hp} {s : Shared} {D x : Addr} {es : NE} {k : NK} {E : Value → Shared → Prop}
end
end L3

set_option Elab.async false
set_option linter.all false
set_option maxRecDepth 100000
set_option maxHeartbeats 2000000
namespace L3
open PySem PySem.Spec PyProof.Rows L2 LamX

namespace R
@[simp] theorem bind_ok {α β : Type} {a : α} {S : Store} {f : α → Store → R β} : (R.ok a S).bind f = f a S := rfl
@[simp] theorem bind_err {α β : Type} {e : Er} {S : Store} {f : α → Store → R β} : (R.err e S : R α).bind f = .err e S := rfl
@[simp] theorem bind_stk {α β : Type} {f : α → Store → R β} : (R.stk : R α).bind f = .stk := rfl
@[simp] theorem ofO_some {α : Type} {a : α} {S : Store} : ofO (some a) S = .ok a S := rfl
@[simp] theorem ofO_none {α : Type} {S : Store} : ofO (none : Option α) S = .stk := rfl
end R

section
variable (T : Tb) (μ : List Addr) (H : Hp)
end
section
variable {T : Tb} {μ μ' μ1 : List Addr} {H H' H1 : Hp} {S S' : Store}
theorem Ext.refl : Ext μ H μ H := ⟨⟨[], by simp⟩, fun _ _ h _ => h, fun _ h n => absurd h n⟩
/-- the heap grew -/
theorem Ext.grow (h : Same H H') : Ext μ H μ H' := ⟨⟨[], by simp⟩, fun a o e _ => h a o e, fun _ h n => absurd h n⟩
theorem HoldL.sq {K : PySem.W.Frag} {a : Addr} {vs : List V} (h : HoldL μ H a vs) : SqL K H a vs := .inl (.inl h.2)
theorem HoldZ.sq {a : Addr} {vs : List V} (h : HoldZ T μ H a vs) : SqL T.K H a vs := by
  rcases h with ⟨_, h⟩ | h
  · exact .inl h
  · exact .inr h
theorem HoldT.sq {a : Addr} {vs : List V} (h : HoldT T μ H a vs) : SqT T.K H a vs := by
  rcases h with ⟨_, h⟩ | h
  · exact .inl h
  · exact .inr h
theorem MoOk.mv {a : Addr} {o : MO} (e : Ext μ H μ' H') (k : ∀ u, H a = some u → H' a = some u) (q : MoOk T μ H a o) : MoOk T μ' H' a o := by
  cases o with
  | lst ds =>
    obtain ⟨vs, q1, q2⟩ := q
    exact ⟨vs, k _ q1, q2.mono e⟩
  | dic kvs =>
    obtain ⟨vs, q1, q2⟩ := q
    exact ⟨vs, k _ q1, q2.mono e⟩
  | lok kvs =>
    obtain ⟨od, vs, q1, q2⟩ := q
    exact ⟨od, vs, k _ q1, q2.mono e⟩
  | x kd ks xs =>
    obtain ⟨u, ws, us, q1, q2, q3, q4⟩ := q
    exact ⟨u, ws, us, k _ q1, q2, q3.mono e, q4.mono e⟩
  | ins c fs =>
    obtain ⟨dx, vfs, q1, q2⟩ := q
    exact ⟨dx, vfs, k _ q1, q2.mono e⟩
  | tab P nm =>
    obtain ⟨ps, q0, q1, q2, q3⟩ := q
    refine ⟨ps, q0, k _ q1, q2, fun pos cv hc => ?_⟩
    obtain ⟨c, z1, z2, z3⟩ := q3 pos cv hc
    exact ⟨c, z1, e.notin z3 z2, e.keep _ _ z3 z2⟩
theorem StOk.grow (k : StOk T μ H S) (h : Same H H') : StOk T μ H' S := by
  have e : Ext μ H μ H' := Ext.grow h
  exact ⟨k.len, k.nd, fun i a o h1 h2 => (k.at_ i a o h1 h2).mv e fun u => h _ u, fun a ha => let ⟨o, q⟩ := k.tr a ha; ⟨o, h a o q⟩, T.mono e k.inv⟩
theorem StOk.free (k : StOk T μ H S) {p : Addr} (h : H p = none) : p ∉ μ := fun m => by
  obtain ⟨o, e⟩ := k.tr p m
  rw [h] at e; cases e
theorem same_upd {p : Addr} {o : HO} (h : H p = none) : Same H (upd H p o) := fun b u e => by
  rw [upd_ne (ne_of_none e h)]; exact e
theorem RepL.app : ∀ {ds es : List D} {vs ws : List V}, RepL T μ H ds vs → RepL T μ H es ws → RepL T μ H (ds ++ es) (vs ++ ws)
  | [], _, _, _, h, g => by simp only [RepL] at h; subst h; exact g
  | d :: ds, es, vs, ws, h, g => by
    simp only [RepL, List.cons_append] at h ⊢
    obtain ⟨v, us, e1, h1, h2⟩ := h
    subst e1
    exact ⟨v, us ++ ws, rfl, h1, RepL.app h2 g⟩
end

section
variable {α β : Type} (T : Tb) (Rp : List Addr → Hp → α → β → Prop)
end
section
variable {α β γ δ : Type} {T : Tb} {Rp : List Addr → Hp → α → β → Prop} {Rq : List Addr → Hp → γ → δ → Prop} {μ μ' : List Addr} {H H' : Hp} {Q : β → Hp → Prop} {Q' : δ → Hp → Prop} {W : XK}
theorem Aft.imp {P : β → Hp → Prop} {c : R α} (h : Aft T Rp μ H Q W c) (k : ∀ v H', Q v H' → P v H') : Aft T Rp μ H P W c := by
  cases c with
  | ok a S => exact fun μ1 H1 v e ok r => k _ _ (h μ1 H1 v e ok r)
  | err e S => exact h
  | stk => exact h
end

/-! ### expressions -/
abbrev EM := Env → Store → R A
abbrev TM := Env → Store → R Bool
abbrev AM := Env → Store → R (List A)
def rd (T : Tb) (W : XK) (m : EM) : TE := fun σ H Q => ∃ μ ρ S, RepE T μ H ρ σ ∧ StOk T μ H S ∧ Aft T (fun μ H => RepA T μ H) μ H Q W (m ρ S)
def rdT (T : Tb) (W : XK) (m : TM) : TT := fun σ H Q => ∃ μ ρ S, RepE T μ H ρ σ ∧ StOk T μ H S ∧ Aft T (fun _ _ a b => a = b) μ H Q W (m ρ S)
def rdA (T : Tb) (W : XK) (m : AM) : TA := fun σ H Q => ∃ μ ρ S, RepE T μ H ρ σ ∧ StOk T μ H S ∧ Aft T (fun μ H => RepAs T μ H) μ H Q W (m ρ S)
theorem TkB.imp {b : Bool} {X : Cx} {W W' : WX} (t : TkB b X W) (h : ∀ c d σ H, W' c d σ H → W c d σ H) : TkB b X W' := by
  cases b with
  | true => exact L2N.Takes.imp t h
  | false => exact Takes.imp t h
theorem TkB.impI {b : Bool} {X : Cx} {W W' : WX} (t : TkB b X W) (h : ∀ c d σ H, σ.length = X.N.length → W' c d σ H → W c d σ H) : TkB b X W' := by
  cases b with
  | true => exact fun u s' ⟨a, B, sI, pins, σ, H, cls, d, e, I, nb, up, sky, na, os, ag, w⟩ => t u s' ⟨a, B, sI, pins, σ, H, cls, d, e, I, nb, up, sky, na, os, ag, h _ _ _ _ I.len w⟩
  | false => exact fun u s' ⟨a, B, sI, pins, σ, H, cls, d, e, I, nb, up, sky, na, os, ag, w⟩ => t u s' ⟨a, B, sI, pins, σ, H, cls, d, e, I, nb, up, sky, na, os, ag, h _ _ _ _ I.len w⟩
theorem tkB_F {b : Bool} {X : Cx} : TkB b X (fun _ _ _ _ => False) := by
  cases b with
  | true => exact fun u s' ⟨_, _, _, _, _, _, _, _, _, _, _, _, _, _, _, _, w⟩ => w.elim
  | false => exact fun u s' ⟨_, _, _, _, _, _, _, _, _, _, _, _, _, _, _, _, w⟩ => w.elim
theorem tkB_of {b : Bool} {X : Cx} {E : XK} (hs : X.stack = X.env :: X.outer) (hf : X.env.frame = some X.env.locals) (hex : X.ex = []) {E₁ : Value → Shared → Prop}
    (hx : X.xe = fun e s' => wpAny (model X.prog X.w) X.A (leaving X.env e) (fun _ s'' => CXB b X.prog X.w X.outer X.H_0 X.s_0 E e s'') E₁ s') : TkB b X (fun cls d _ H => E cls d H) := by
  cases b with
  | true => exact L2N.takes_of hs hf hex hx
  | false => exact takes_of hs hf hex hx
theorem passLB {b : Bool} {X : Cx} : Passes (CXB b X.prog X.w) X E0 := by
  cases b with
  | true => exact fun _ _ _ _ _ _ _ ⟨_, _, _, _, _, _, _, _, _, _, _, _, z⟩ => z.elim
  | false => exact passL
abbrev ME (X : Cx) (T : Tb) (W : XK) (e : Expr) (m : EM) : Prop := PE X e (rd T W m)
abbrev MT (X : Cx) (T : Tb) (W : XK) (e : Expr) (m : TM) : Prop := PT X e (rdT T W m)
abbrev MW (X : Cx) (T : Tb) (W : XK) (e : Expr) (m : TM) : Prop := PW X e (rdT T W m)
abbrev MA (X : Cx) (T : Tb) (W : XK) (e : List Expr) (m : AM) : Prop := PA X e (rdA T W m)
theorem pe_imp {X : Cx} {e : Expr} {t t' : TE} (h : PE X e t) (k : ∀ σ H Q, t' σ H Q → t σ H Q) : PE X e t' := ⟨fun pins s σ H Q I q => h.run pins s σ H Q I (k σ H Q q)⟩
theorem pt_imp {X : Cx} {e : Expr} {t t' : TT} (h : PT X e t) (k : ∀ σ H Q, t' σ H Q → t σ H Q) : PT X e t' := ⟨fun pins s σ H Q I q => h.run pins s σ H Q I (k σ H Q q)⟩
theorem pw_imp {X : Cx} {e : Expr} {t t' : TT} (h : PW X e t) (k : ∀ σ H Q, t' σ H Q → t σ H Q) : PW X e t' := ⟨fun wh pins s σ H Q I q => h.run wh pins s σ H Q I (k σ H Q q)⟩
theorem pa_imp {X : Cx} {e : List Expr} {t t' : TA} (h : PA X e t) (k : ∀ σ H Q, t' σ H Q → t σ H Q) : PA X e t' := ⟨fun pos pins s σ H Q I q => h.run pos pins s σ H Q I (k σ H Q q)⟩

section
variable {X : Cx} {T : Tb} {W : XK} {e a b c : Expr} {es : List Expr} {ma mb mc : EM} {pos : Pos}
/-- from one part to what comes behind it -/
theorem rd_step {σ : L2.St} {H : Hp} {μ : List Addr} {ρ : Env} {S : Store} {γ δ : Type} {Rq : List Addr → Hp → γ → δ → Prop} {Q : V → Hp → Prop} {Q' : δ → Hp → Prop} {k : A → Store → R γ} (he : RepE T μ H ρ σ) (hs : StOk T μ H S) (h : Aft T Rq μ H Q' W ((ma ρ S).bind k))
    (q : ∀ v H1 μ1 S1 x, Ext μ H μ1 H1 → RepE T μ1 H1 ρ σ → StOk T μ1 H1 S1 → RepA T μ1 H1 x v → Aft T Rq μ1 H1 Q' W (k x S1) → Q v H1) : rd T W ma σ H Q :=
  ⟨μ, ρ, S, he, hs, (Aft.split (Rp := fun μ H => RepA T μ H) h).imp fun v H1 ⟨μ1, S1, x, ex, hs1, r, h1⟩ => q v H1 μ1 S1 x ex (he.mono ex) hs1 r h1⟩
theorem rdT_step {m : TM} {σ : L2.St} {H : Hp} {μ : List Addr} {ρ : Env} {S : Store} {γ δ : Type} {Rq : List Addr → Hp → γ → δ → Prop} {Q : Bool → Hp → Prop} {Q' : δ → Hp → Prop} {k : Bool → Store → R γ} (he : RepE T μ H ρ σ) (hs : StOk T μ H S) (h : Aft T Rq μ H Q' W ((m ρ S).bind k))
    (q : ∀ b H1 μ1 S1, Ext μ H μ1 H1 → RepE T μ1 H1 ρ σ → StOk T μ1 H1 S1 → Aft T Rq μ1 H1 Q' W (k b S1) → Q b H1) : rdT T W m σ H Q :=
  ⟨μ, ρ, S, he, hs, (Aft.split (Rp := fun _ _ a b => a = b) h).imp fun v H1 ⟨μ1, S1, x, ex, hs1, r, h1⟩ => q v H1 μ1 S1 ex (he.mono ex) hs1 (r ▸ h1)⟩
theorem rdA_step {m : AM} {σ : L2.St} {H : Hp} {μ : List Addr} {ρ : Env} {S : Store} {γ δ : Type} {Rq : List Addr → Hp → γ → δ → Prop} {Q : List V → Hp → Prop} {Q' : δ → Hp → Prop} {k : List A → Store → R γ} (he : RepE T μ H ρ σ) (hs : StOk T μ H S) (h : Aft T Rq μ H Q' W ((m ρ S).bind k))
    (q : ∀ vs H1 μ1 S1 xs, Ext μ H μ1 H1 → RepE T μ1 H1 ρ σ → StOk T μ1 H1 S1 → RepAs T μ1 H1 xs vs → Aft T Rq μ1 H1 Q' W (k xs S1) → Q vs H1) : rdA T W m σ H Q :=
  ⟨μ, ρ, S, he, hs, (Aft.split (Rp := fun μ H => RepAs T μ H) h).imp fun v H1 ⟨μ1, S1, x, ex, hs1, r, h1⟩ => q v H1 μ1 S1 x ex (he.mono ex) hs1 r h1⟩

/-! names, constants -/
def eC (d : D) : EM := fun _ S => .ok (.v d) S
def eV (i : Nat) : EM := fun ρ S => match ρ[i]? with
  | some (some x) => .ok x S
  | _ => .stk
theorem me_c {d : D} {v : V} (r : ∀ μ H, Rep T μ H d v) (h : PE X e (tC v)) : ME X T W e (eC d) := pe_imp h fun σ H Q ⟨μ, ρ, S, he, hs, h⟩ => h μ H v Ext.refl hs (r μ H)
theorem me_int {i : Int} {j : Nat} : ME X T W (.Constant (.int i) j pos) (eC (.int i)) := me_c (v := .int i) (fun _ _ => by simp only [Rep]) pe_int
theorem me_str {x : Str} {j : Nat} : ME X T W (.Constant (.str x) j pos) (eC (.str x)) := me_c (v := .str x) (fun _ _ => by simp only [Rep]) pe_str
theorem me_bl {k : Bool} {j : Nat} : ME X T W (.Constant (.bool k) j pos) (eC (.bl k)) := me_c (v := .bl k) (fun _ _ => by simp only [Rep]) pe_bl
theorem me_ty {x : Str} {n : String} (hg : Gl X x) (hm : X.mg x = none) (hv : bootBuiltins x = some (.type n)) (hn : x ≠ "__name__" := by decide) (hd : (x == ("__debug__" : Str)) = false := by decide) : ME X T W (.Name x pos) (eC (.ty n)) := me_c (v := .ty n) (fun _ _ => by simp only [Rep]) (pe_bltn hg hm hv rfl hn hd)
theorem me_non {j : Nat} : ME X T W (.Constant .none j pos) (eC .non) := me_c (v := .non) (fun _ _ => by simp only [Rep]) pe_non
theorem me_v (i : Nat) {x : Str} (hN : X.N[i]? = some x := by rfl) (hv : Vis X.env.scope x := by first | exact Or.inl rfl | exact Or.inr (Or.inl rfl) | exact Or.inr (Or.inr rfl)) (hd : (x == ("__debug__" : Str)) = false := by decide)
    (hcd : (x == ("__classdict__" : Str)) = false := by decide) : ME X T W (.Name x pos) (eV i) := pe_imp (pe_var hN hv hd hcd) fun σ H Q ⟨μ, ρ, S, he, hs, h⟩ => by
  unfold eV at h
  cases q : ρ[i]? with
  | none => rw [q] at h; exact h.elim
  | some o =>
    cases o with
    | none => rw [q] at h; exact h.elim
    | some x =>
      rw [q] at h
      obtain ⟨v, e1, r⟩ := he.at_ i x q
      exact ⟨v, e1, h μ H v Ext.refl hs r⟩
/-- a constant of the module -/
theorem me_g {d : D} {x : Str} {v : V} {u : Value} (r : ∀ μ H, Rep T μ H d v) (hg : Gl X x) (hm : X.mg x = some u) (rv : RelV v u) (hd : (x == ("__debug__" : Str)) = false := by decide) : ME X T W (.Name x pos) (eC d) := me_c r (pe_glob hg hm rv hd)

def OpD (X : Cx) (T : Tb) (f : Value → Value → Sem Value) (g : OpG) : Prop :=
  OpR X f (fun x y H Q => ∃ μ S a b z, StOk T μ H S ∧ RepA T μ H a x ∧ RepA T μ H b y ∧ g a b S = some z ∧ ∀ μ' H' v, Ext μ H μ' H' → StOk T μ' H' S → RepA T μ' H' z v → Q v H')
def eOp (g : OpG) (ma mb : EM) : EM := fun ρ S => (ma ρ S).bind fun x S1 => (mb ρ S1).bind fun y S2 => .ofO (g x y S2) S2
theorem ofO_aft {o : Option A} {S : Store} {μ : List Addr} {H : Hp} {Q : VK} (h : Aft T (fun μ H => RepA T μ H) μ H Q W (.ofO o S)) : ∃ z, o = some z ∧ ∀ μ' H' v, Ext μ H μ' H' → StOk T μ' H' S → RepA T μ' H' z v → Q v H' := by
  cases o with
  | none => exact h.elim
  | some z => exact ⟨z, rfl, h⟩
theorem eOp_rd {g : OpG} {r : R2} (hr : ∀ x y H Q, (∃ μ S a b z, StOk T μ H S ∧ RepA T μ H a x ∧ RepA T μ H b y ∧ g a b S = some z ∧ ∀ μ' H' v, Ext μ H μ' H' → StOk T μ' H' S → RepA T μ' H' z v → Q v H') → r x y H Q) :
    ∀ σ H Q, rd T W (eOp g ma mb) σ H Q → tOp r (rd T W ma) (rd T W mb) σ H Q := fun σ H Q ⟨μ, ρ, S, he, hs, h⟩ => by
  refine rd_step he hs h fun x H1 μ1 S1 a ex he1 hs1 ra h1 => ?_
  refine rd_step he1 hs1 h1 fun y H2 μ2 S2 b ex2 he2 hs2 rb h2 => ?_
  obtain ⟨z, e, q⟩ := ofO_aft h2
  exact hr _ _ _ _ ⟨μ2, S2, a, b, z, hs2, ra.mono ex2, rb, e, q⟩
theorem me_op {op : Operator} {g : OpG} (ho : OpD X T (binaryOp op) g) (ha : ME X T W a ma) (hb : ME X T W b mb) : ME X T W (.BinOp a op b pos) (eOp g ma mb) :=
  pe_imp (pe_op ho ha hb) (eOp_rd fun _ _ _ _ h => h)
theorem me_cmp {op : CmpOp} {g : OpG} (ho : OpD X T (compareOp op) g) (ha : ME X T W a ma) (hb : ME X T W b mb) (hm : behindInMarks op b = false := by first | exact nomark _ | rfl | with_unfolding_all rfl) : ME X T W (.Compare a [op] [b] pos) (eOp g ma mb) :=
  pe_imp (pe_cmpR ho ha hb hm) (eOp_rd fun _ _ _ _ h => h)
/-- a op b op' c -/
def eChain (g g' : OpG) (ma mb mc : EM) : EM := fun ρ S => (ma ρ S).bind fun x S1 => (mb ρ S1).bind fun y S2 => match g x y S2 with
  | some (.v (.bl true)) => (mc ρ S2).bind fun z S3 => .ofO (g' y z S3) S3
  | some (.v (.bl false)) => .ok (.v (.bl false)) S2
  | _ => .stk
theorem me_chain {op op' : CmpOp} {g g' : OpG} (ho : OpD X T (compareOp op) g) (ho' : OpD X T (compareOp op') g') (ha : ME X T W a ma) (hb : ME X T W b mb) (hc : ME X T W c mc) (hm : lastMarks [op, op'] [b, c] = false := by with_unfolding_all rfl) :
    ME X T W (.Compare a [op, op'] [b, c] pos) (eChain g g' ma mb mc) := pe_imp (pe_chain ho ho' ha hb hc hm) fun σ H Q ⟨μ, ρ, S, he, hs, h⟩ => by
  refine rd_step he hs h fun x H1 μ1 S1 p ex he1 hs1 ra h1 => ?_
  refine rd_step he1 hs1 h1 fun y H2 μ2 S2 q ex2 he2 hs2 rb h2 => ?_
  cases e : g p q S2 with
  | none => rw [e] at h2; exact h2.elim
  | some z =>
    rw [e] at h2
    cases z with
    | m n => exact h2.elim
    | v d =>
      cases d with
      | bl k =>
        refine ⟨μ2, S2, p, q, _, hs2, ra.mono ex2, rb, e, fun μ3 H3 v ex3 hs3 r3 => ⟨k, by simpa only [RepA, Rep] using r3, ?_⟩⟩
        cases k with
        | false =>
          refine iteF (h2 μ3 H3 _ ex3 hs3 (by simp only [RepA, Rep]))
        | true =>
          refine iteT ?_
          refine rd_step (he2.mono ex3) hs3 (Aft.later ex3 h2) fun z H4 μ4 S4 z' ex4 he4 hs4 rz h4 => ?_
          obtain ⟨w, e4, q4⟩ := ofO_aft h4
          exact ⟨μ4, S4, q, z', w, hs4, (rb.mono ex3).mono ex4, rz, e4, q4⟩
      | non => exact h2.elim
      | int _ => exact h2.elim
      | str _ => exact h2.elim
      | tup _ => exact h2.elim
      | lst _ => exact h2.elim
      | obj _ _ => exact h2.elim
      | cls _ => exact h2.elim
      | fz _ => exact h2.elim
      | ty _ => exact h2.elim
      | fn _ => exact h2.elim
      | adr _ => exact h2.elim
      | dic _ _ => exact h2.elim
      | exc _ _ => exact h2.elim
      | dnk _ _ => exact h2.elim
/-- a unary operator -/
def UnD (X : Cx) (T : Tb) (f : Value → Sem Value) (g : A → Store → Option A) : Prop :=
  UnR X f (fun x H Q => ∃ μ S a z, StOk T μ H S ∧ RepA T μ H a x ∧ g a S = some z ∧ ∀ μ' H' v, Ext μ H μ' H' → StOk T μ' H' S → RepA T μ' H' z v → Q v H')
def eUn (g : A → Store → Option A) (ma : EM) : EM := fun ρ S => (ma ρ S).bind fun x S1 => .ofO (g x S1) S1
/-! argument lists, displays, calls -/
def aNil : AM := fun _ S => .ok [] S
def aCons (m : EM) (r : AM) : AM := fun ρ S => (m ρ S).bind fun x S1 => (r ρ S1).bind fun xs S2 => .ok (x :: xs) S2
theorem ma_nil : MA X T W [] aNil := pa_imp pa_nil fun σ H Q ⟨μ, ρ, S, he, hs, h⟩ => h μ H [] Ext.refl hs rfl
theorem ma_cons {m : EM} {r : AM} (ha : ME X T W e m) (hr : MA X T W es r) (hs : starEach (e :: es) X.env = (false, eval e X.env) :: starEach es X.env := by rfl) : MA X T W (e :: es) (aCons m r) := pa_imp (pa_cons ha hr hs) fun σ H Q ⟨μ, ρ, S, he, hs, h⟩ => by
  refine rd_step he hs h fun x H1 μ1 S1 p ex he1 hs1 ra h1 => ?_
  refine rdA_step he1 hs1 h1 fun xs H2 μ2 S2 ps ex2 he2 hs2 rs h2 => ?_
  exact h2 μ2 H2 _ Ext.refl hs2 ⟨x, xs, rfl, ra.mono ex2, rs⟩
def eTup (r : AM) : EM := fun ρ S => (r ρ S).bind fun xs S1 => match asD xs with
  | some ds => if ds.length ≤ 1000 then .ok (.v (.tup ds)) S1 else .stk
  | none => .stk
def eLst (r : AM) : EM := fun ρ S => (r ρ S).bind fun xs S1 => match asD xs with
  | some ds => if ds.length ≤ 1000 then .ok (.v (.lst ds)) S1 else .stk
  | none => .stk
/-- a display that will be changed -/
def eMut (r : AM) : EM := fun ρ S => (r ρ S).bind fun xs S1 => match asD xs with
  | some ds => if ds.length ≤ 1000 then .ok (.m S1.length) (S1 ++ [.lst ds]) else .stk
  | none => .stk
theorem le_line {n : Nat} (h : n ≤ 1000) : n ≤ sizeLine := Nat.le_trans h (by decide)
theorem newTup {μ : List Addr} {H : Hp} {S : Store} {ds : List D} {vs : List V} {p : Addr} (hs : StOk T μ H S) (r : RepL T μ H ds vs) (hp : H p = none) :
    Ext μ H μ (upd H p (.tup vs)) ∧ StOk T μ (upd H p (.tup vs)) S ∧ Rep T μ (upd H p (.tup vs)) (.tup ds) (.ref p) := by
  have sm : Same H (upd H p (.tup vs)) := same_upd hp
  refine ⟨Ext.grow sm, hs.grow sm, ?_⟩
  simp only [Rep]
  exact ⟨p, vs, rfl, .inl ⟨hs.free hp, .inl upd_same⟩, r.mono (Ext.grow sm)⟩
theorem newLst {μ : List Addr} {H : Hp} {S : Store} {ds : List D} {vs : List V} {p : Addr} (hs : StOk T μ H S) (r : RepL T μ H ds vs) (hp : H p = none) :
    Ext μ H μ (upd H p (.lst vs)) ∧ StOk T μ (upd H p (.lst vs)) S ∧ Rep T μ (upd H p (.lst vs)) (.lst ds) (.ref p) := by
  have sm : Same H (upd H p (.lst vs)) := same_upd hp
  refine ⟨Ext.grow sm, hs.grow sm, ?_⟩
  simp only [Rep]
  exact ⟨p, vs, rfl, ⟨hs.free hp, upd_same⟩, r.mono (Ext.grow sm)⟩
theorem newMut {μ : List Addr} {H : Hp} {S : Store} {ds : List D} {vs : List V} {p : Addr} (hs : StOk T μ H S) (r : RepL T μ H ds vs) (hp : H p = none) :
    Ext μ H (μ ++ [p]) (upd H p (.lst vs)) ∧ StOk T (μ ++ [p]) (upd H p (.lst vs)) (S ++ [.lst ds]) ∧ RepA T (μ ++ [p]) (upd H p (.lst vs)) (.m S.length) (.ref p) := by
  have sm : Same H (upd H p (.lst vs)) := same_upd hp
  have np := hs.free hp
  have ex : Ext μ H (μ ++ [p]) (upd H p (.lst vs)) := ⟨⟨[p], rfl⟩, fun a o h _ => sm a o h, fun a h n => by
    rcases List.mem_append.mp h with h | h
    · exact absurd h n
    · rw [List.mem_singleton.mp h]; exact hp⟩
  have gl : (μ ++ [p])[S.length]? = some p := by rw [← hs.len, List.getElem?_append_right (Nat.le_refl _)]; simp
  refine ⟨ex, ⟨by simp [hs.len], ?_, fun i a o h1 h2 => ?_, fun a ha => ?_, T.mono ex hs.inv⟩, ⟨p, gl, rfl⟩⟩
  · rw [List.nodup_append]
    exact ⟨hs.nd, by simp, fun a ha b hb => by rw [List.mem_singleton.mp hb]; rintro rfl; exact np ha⟩
  · by_cases hi : i < S.length
    · rw [List.getElem?_append_left (by rw [hs.len]; exact hi)] at h1
      rw [List.getElem?_append_left hi] at h2
      exact (hs.at_ i a o h1 h2).mv ex fun u => sm _ u
    · rw [List.getElem?_append_right (by omega)] at h2
      have e1 : i - S.length = 0 := by
        have := (List.getElem?_eq_some_iff.mp h2).1
        simpa using this
      have e2 : i = S.length := by omega
      subst e2
      rw [gl] at h1
      simp at h2
      cases h1
      subst h2
      exact ⟨vs, upd_same, r.mono ex⟩
  · rcases List.mem_append.mp ha with h | h
    · obtain ⟨o, q⟩ := hs.tr a h
      exact ⟨o, sm _ _ q⟩
    · rw [List.mem_singleton.mp h]; exact ⟨_, upd_same⟩
theorem me_tup {r : AM} {x1 : Nat} (h : MA X T W es r) : ME X T W (.Tuple es x1 pos) (eTup r) := pe_imp (pe_tup h) fun σ H Q ⟨μ, ρ, S, he, hs, h⟩ => by
  refine rdA_step he hs h fun vs H1 μ1 S1 xs ex he1 hs1 rs h1 => ?_
  cases e : asD xs with
  | none => rw [e] at h1; exact h1.elim
  | some ds =>
    have rl := rs.data e
    have q : (if ds.length ≤ 1000 then (.ok (.v (.tup ds)) S1 : R A) else .stk) = (match asD xs with
      | some ds => if ds.length ≤ 1000 then .ok (.v (.tup ds)) S1 else .stk
      | none => .stk) := by rw [e]
    rw [← q] at h1
    by_cases hl : ds.length ≤ 1000
    · rw [if_pos hl] at h1
      refine ⟨by rw [rl.length]; exact le_line hl, fun p hp => ?_⟩
      obtain ⟨x1, x2, x3⟩ := newTup hs1 rl hp
      exact h1 μ1 _ _ x1 x2 x3
    · rw [if_neg hl] at h1; exact h1.elim
theorem me_lst {r : AM} (h : MA X T W es r) : ME X T W (.List es pos) (eLst r) := pe_imp (pe_lst h) fun σ H Q ⟨μ, ρ, S, he, hs, h⟩ => by
  refine rdA_step he hs h fun vs H1 μ1 S1 xs ex he1 hs1 rs h1 => ?_
  cases e : asD xs with
  | none => rw [e] at h1; exact h1.elim
  | some ds =>
    have rl := rs.data e
    have q : (if ds.length ≤ 1000 then (.ok (.v (.lst ds)) S1 : R A) else .stk) = (match asD xs with
      | some ds => if ds.length ≤ 1000 then .ok (.v (.lst ds)) S1 else .stk
      | none => .stk) := by rw [e]
    rw [← q] at h1
    by_cases hl : ds.length ≤ 1000
    · rw [if_pos hl] at h1
      refine ⟨by rw [rl.length]; exact le_line hl, fun p hp => ?_⟩
      obtain ⟨x1, x2, x3⟩ := newLst hs1 rl hp
      exact h1 μ1 _ _ x1 x2 x3
    · rw [if_neg hl] at h1; exact h1.elim
theorem me_mut {r : AM} (h : MA X T W es r) : ME X T W (.List es pos) (eMut r) := pe_imp (pe_lst h) fun σ H Q ⟨μ, ρ, S, he, hs, h⟩ => by
  refine rdA_step he hs h fun vs H1 μ1 S1 xs ex he1 hs1 rs h1 => ?_
  cases e : asD xs with
  | none => rw [e] at h1; exact h1.elim
  | some ds =>
    have rl := rs.data e
    have q : (if ds.length ≤ 1000 then (.ok (.m S1.length) (S1 ++ [.lst ds]) : R A) else .stk) = (match asD xs with
      | some ds => if ds.length ≤ 1000 then .ok (.m S1.length) (S1 ++ [.lst ds]) else .stk
      | none => .stk) := by rw [e]
    rw [← q] at h1
    by_cases hl : ds.length ≤ 1000
    · rw [if_pos hl] at h1
      refine ⟨by rw [rl.length]; exact le_line hl, fun p hp => ?_⟩
      obtain ⟨x1, x2, x3⟩ := newMut hs1 rl hp
      exact h1 _ _ _ x1 x2 x3
    · rw [if_neg hl] at h1; exact h1.elim
end
end L3

set_option Elab.async false
set_option linter.all false
set_option maxRecDepth 100000
set_option maxHeartbeats 2000000
namespace L3
open PySem PySem.Spec PyProof.Rows L2
section
variable {X : Cx} {T : Tb} {W : XK} {μ : List Addr} {H : Hp} {S : Store}
theorem ra_int {i : Int} : RepA T μ H (.v (.int i)) (.int i) := by simp only [RepA, Rep]
theorem ra_str {i : Str} : RepA T μ H (.v (.str i)) (.str i) := by simp only [RepA, Rep]
theorem ra_bl {i : Bool} : RepA T μ H (.v (.bl i)) (.bl i) := by simp only [RepA, Rep]
theorem ra_non : RepA T μ H (.v .non) .non := by simp only [RepA, Rep]
theorem of_int {i : Int} {v : V} (h : RepA T μ H (.v (.int i)) v) : v = .int i := by simpa only [RepA, Rep] using h
theorem of_str {i : Str} {v : V} (h : RepA T μ H (.v (.str i)) v) : v = .str i := by simpa only [RepA, Rep] using h
theorem of_bl {i : Bool} {v : V} (h : RepA T μ H (.v (.bl i)) v) : v = .bl i := by simpa only [RepA, Rep] using h
theorem of_non {v : V} (h : RepA T μ H (.v .non) v) : v = .non := by simpa only [RepA, Rep] using h

def strMax : Nat := 1000000
theorem strMax_line {n : Nat} (h : n ≤ strMax) : n ≤ sizeLine := Nat.le_trans h (by unfold strMax; decide)
theorem strMax_16 {n : Nat} (h : n ≤ strMax) : n ≤ 16777216 := Nat.le_trans h (by unfold strMax; decide)
def gAdd : OpG
  | .v (.int i), .v (.int j), _ => some (.v (.int (i + j)))
  | .v (.str x), .v (.str y), _ => if x.length + y.length ≤ strMax then some (.v (.str (x ++ y))) else none
  | .v (.lst xs), .v (.lst ys), _ => if xs.length + ys.length ≤ strMax then some (.v (.lst (xs ++ ys))) else none
  | .v (.tup (x :: xs)), .v (.tup (y :: ys)), _ => if (x :: xs).length + (y :: ys).length ≤ strMax then some (.v (.tup ((x :: xs) ++ (y :: ys)))) else none
  | _, _, _ => none
theorem op_gAdd (hK : X.K = T.K) : OpD X T (binaryOp .Add) gAdd := by
  rintro pins s σ H x y v u Q I rx ry ⟨μ, S, a, b, z, hs, ra, rb, hg, k⟩
  unfold gAdd at hg
  split at hg
  · cases hg
    exact op_add pins s σ H x y v u Q I rx ry ⟨_, _, of_int ra, of_int rb, k μ H _ Ext.refl hs ra_int⟩
  · split at hg
    · rename_i hl
      cases hg
      exact op_add_str pins s σ H x y v u Q I rx ry ⟨_, _, of_str ra, of_str rb, strMax_line hl, k μ H _ Ext.refl hs ra_str⟩
    · cases hg
  · split at hg
    · rename_i hl
      cases hg
      simp only [RepA, Rep] at ra rb
      obtain ⟨p, vs, e1, h1, r1⟩ := ra
      obtain ⟨q, ws, e2, h2, r2⟩ := rb
      refine op_cat pins s σ H x y v u Q I rx ry ⟨p, q, vs, ws, e1, e2, h1.2, h2.2, ?_, fun l hp => ?_⟩
      · rw [r1.length, r2.length]; exact strMax_line hl
      · obtain ⟨x1, x2, x3⟩ := newLst hs (r1.app r2) hp
        exact k _ _ _ x1 x2 x3
    · cases hg
  · split at hg
    · rename_i hl
      cases hg
      have ra' := ra
      have rb' := rb
      simp only [RepA, Rep] at ra rb
      obtain ⟨p, vs, e1, h1, r1⟩ := ra
      obtain ⟨q, ws, e2, h2, r2⟩ := rb
      have l1 := r1.length
      have l2 := r2.length
      refine op_catT pins s σ H x y v u Q I rx ry ⟨p, q, vs, ws, e1, e2, hK ▸ h1.sq, hK ▸ h2.sq, ?_, ?_, fun e => ?_, fun _ l hp => ?_⟩
      · rintro rfl; simp at l1
      · rw [l1, l2]; exact strMax_line hl
      · rw [e] at l2; simp at l2
      · obtain ⟨x1, x2, x3⟩ := newTup hs (r1.app r2) hp
        exact k _ _ _ x1 x2 x3
    · cases hg
  · cases hg
def gSub : OpG
  | .v (.int i), .v (.int j), _ => some (.v (.int (i - j)))
  | _, _, _ => none
theorem flatten_rep : ∀ (n : Nat) {ds : List D} {vs : List V}, RepL T μ H ds vs → RepL T μ H (List.replicate n ds).flatten (List.replicate n vs).flatten
  | 0, _, _, _ => by simp only [List.replicate_zero, List.flatten_nil, RepL]
  | n + 1, ds, vs, h => by
    rw [List.replicate_succ, List.replicate_succ, List.flatten_cons, List.flatten_cons]
    exact h.app (flatten_rep n h)
theorem mulOk_of {x : Str} {n : Int} (h : n ≤ 1000000) (hl : -1000000 ≤ n) (h2 : x.length * n.toNat ≤ strMax) : MulOk x n := by
  refine ⟨?_, fun hn hx => ?_, fun hn hx => ?_⟩
  · rw [Bool.or_eq_false_iff]
    exact ⟨decide_eq_false (by omega), decide_eq_false (by omega)⟩
  · have hn1 : (1 : Int) ≤ n := by omega
    have hx' : x.length ≤ 1000000 := by
      have e1 : x.length * 1 ≤ x.length * n.toNat := Nat.mul_le_mul_left _ (by omega)
      unfold strMax at h2; omega
    have : (9223372036854 : Int) ≤ (2 ^ 63 - 1) / n := by
      rw [Int.le_ediv_iff_mul_le (by omega)]
      omega
    omega
  · have e := strMax_16 h2
    show decide (x.length * n.toNat > sizeLine) = false
    exact decide_eq_false (Nat.not_lt.mpr (strMax_line h2))
/-- a * b -/
def gMul : OpG
  | .v (.int i), .v (.int j), _ => if (-(2 ^ 64) < i ∧ i < 2 ^ 64) ∨ (-(2 ^ 64) < j ∧ j < 2 ^ 64) then some (.v (.int (i * j))) else none
  | .v (.str x), .v (.int n), _ => if n ≤ 1000000 ∧ -1000000 ≤ n ∧ x.length * n.toNat ≤ strMax then some (.v (.str (Txt.mul x n))) else none
  | .v (.lst xs), .v (.int n), _ => if n ≤ 1000000 ∧ -1000000 ≤ n ∧ xs.length * n.toNat ≤ strMax then some (.v (.lst (List.replicate n.toNat xs).flatten)) else none
  | _, _, _ => none
theorem op_gMul : OpD X T (binaryOp .Mult) gMul := by
  rintro pins s σ H x y v u Q I rx ry ⟨μ, S, a, b, z, hs, ra, rb, hg, k⟩
  unfold gMul at hg
  split at hg
  · split at hg
    · rename_i hc
      cases hg
      exact op_mul pins s σ H x y v u Q I rx ry ⟨_, _, of_int ra, of_int rb, hc, k μ H _ Ext.refl hs ra_int⟩
    · cases hg
  · split at hg
    · rename_i hc
      cases hg
      obtain rfl := of_str ra
      obtain rfl := of_int rb
      obtain ⟨t, rfl⟩ := rx
      obtain ⟨t', rfl⟩ := ry
      exact SB.mul (mulOk_of hc.1 hc.2.1 hc.2.2) fun t2 kk => ⟨.str _, H, I.tok _, ⟨_, rfl⟩, k μ H _ Ext.refl hs ra_str⟩
    · cases hg
  · split at hg
    · rename_i hc
      cases hg
      obtain rfl := of_int rb
      simp only [RepA, Rep] at ra
      obtain ⟨p, vs, e1, h1, r1⟩ := ra
      refine op_rep pins s σ H x _ v u Q I rx ry ⟨p, _, vs, e1, rfl, h1.2, by omega, by omega, ?_, fun l hp => ?_⟩
      · rw [r1.length]; exact strMax_line hc.2.2
      · obtain ⟨x1, x2, x3⟩ := newLst hs (flatten_rep _ r1) hp
        exact k _ _ _ x1 x2 x3
    · cases hg
  · cases hg
def gMod : OpG
  | .v (.int i), .v (.int j), _ => if 0 < j then some (.v (.int (i % j))) else none
  | _, _, _ => none
theorem op_gMod : OpD X T (binaryOp .Mod) gMod := by
  rintro pins s σ H x y v u Q I rx ry ⟨μ, S, a, b, z, hs, ra, rb, hg, k⟩
  unfold gMod at hg
  split at hg
  · split at hg
    · rename_i hc
      cases hg
      exact op_mod pins s σ H x y v u Q I rx ry ⟨_, _, of_int ra, of_int rb, hc, k μ H _ Ext.refl hs ra_int⟩
    · cases hg
  · cases hg
def gFdiv : OpG
  | .v (.int i), .v (.int j), _ => if 0 < j ∧ j < 1073741824 then some (.v (.int (i / j))) else none
  | _, _, _ => none
theorem op_gFdiv : OpD X T (binaryOp .FloorDiv) gFdiv := by
  rintro pins s σ H x y v u Q I rx ry ⟨μ, S, a, b, z, hs, ra, rb, hg, k⟩
  unfold gFdiv at hg
  split at hg
  · split at hg
    · rename_i hc
      cases hg
      exact op_fdiv pins s σ H x y v u Q I rx ry ⟨_, _, of_int ra, of_int rb, hc, k μ H _ Ext.refl hs ra_int⟩
    · cases hg
  · cases hg
def gPow : OpG
  | .v (.int i), .v (.int j), _ => if 0 ≤ j ∧ j ≤ 1000 ∧ -18446744073709551616 < i ∧ i < 18446744073709551616 then some (.v (.int (i ^ j.toNat))) else none
  | _, _, _ => none
theorem op_gPow : OpD X T (binaryOp .Pow) gPow := by
  rintro pins s σ H x y v u Q I rx ry ⟨μ, S, a, b, z, hs, ra, rb, hg, k⟩
  unfold gPow at hg
  split at hg
  · split at hg
    · rename_i hc
      cases hg
      exact op_pow pins s σ H x y v u Q I rx ry ⟨_, _, of_int ra, of_int rb, ⟨hc.1, by omega, by omega⟩, k μ H _ Ext.refl hs ra_int⟩
    · cases hg
  · cases hg

/-! comparisons -/
def blA (b : Bool) : A := .v (.bl b)
theorem rep_blA {b : Bool} : RepA T μ H (blA b) (.bl b) := ra_bl
def gLt : OpG
  | .v (.int i), .v (.int j), _ => some (blA (decide (i < j)))
  | .v (.str x), .v (.str y), _ => some (blA (decide (x.cps.toList < y.cps.toList)))
  | _, _, _ => none
theorem op_gLt : OpD X T (compareOp .Lt) gLt := by
  rintro pins s σ H x y v u Q I rx ry ⟨μ, S, a, b, z, hs, ra, rb, hg, k⟩
  unfold gLt at hg
  split at hg
  · cases hg
    exact op_lt pins s σ H x y v u Q I rx ry ⟨_, _, of_int ra, of_int rb, k μ H _ Ext.refl hs rep_blA⟩
  · cases hg
    exact op_lt_str pins s σ H x y v u Q I rx ry ⟨_, _, of_str ra, of_str rb, k μ H _ Ext.refl hs rep_blA⟩
  · cases hg
def gLe : OpG
  | .v (.int i), .v (.int j), _ => some (blA (decide (i ≤ j)))
  | _, _, _ => none
theorem op_gLe : OpD X T (compareOp .LtE) gLe := by
  rintro pins s σ H x y v u Q I rx ry ⟨μ, S, a, b, z, hs, ra, rb, hg, k⟩
  unfold gLe at hg
  split at hg
  · cases hg
    exact op_le pins s σ H x y v u Q I rx ry ⟨_, _, of_int ra, of_int rb, k μ H _ Ext.refl hs rep_blA⟩
  · cases hg
def gGt : OpG
  | .v (.int i), .v (.int j), _ => some (blA (decide (j < i)))
  | _, _, _ => none
theorem op_gGt : OpD X T (compareOp .Gt) gGt := by
  rintro pins s σ H x y v u Q I rx ry ⟨μ, S, a, b, z, hs, ra, rb, hg, k⟩
  unfold gGt at hg
  split at hg
  · cases hg
    exact op_gt pins s σ H x y v u Q I rx ry ⟨_, _, of_int ra, of_int rb, k μ H _ Ext.refl hs rep_blA⟩
  · cases hg
def gGe : OpG
  | .v (.int i), .v (.int j), _ => some (blA (decide (j ≤ i)))
  | _, _, _ => none
theorem op_gGe : OpD X T (compareOp .GtE) gGe := by
  rintro pins s σ H x y v u Q I rx ry ⟨μ, S, a, b, z, hs, ra, rb, hg, k⟩
  unfold gGe at hg
  split at hg
  · cases hg
    exact op_ge pins s σ H x y v u Q I rx ry ⟨_, _, of_int ra, of_int rb, k μ H _ Ext.refl hs rep_blA⟩
  · cases hg
/-- == of scalars -/
def eqS : D → D → Option Bool
  | .non, .non => some true
  | .non, .int _ => some false
  | .int _, .non => some false
  | .non, .bl _ => some false
  | .bl _, .non => some false
  | .non, .str _ => some false
  | .str _, .non => some false
  | .int i, .int j => some (decide (i = j))
  | .bl i, .bl j => some (decide (i = j))
  | .str i, .str j => some (decide (i = j))
  | .int _, .str _ => some false
  | .str _, .int _ => some false
  | .bl _, .str _ => some false
  | .str _, .bl _ => some false
  | _, _ => none
def gEq : OpG
  | .v x, .v y, _ => (eqS x y).map blA
  | _, _, _ => none
def gNe : OpG
  | .v x, .v y, _ => (eqS x y).map fun b => blA (!b)
  | _, _, _ => none
theorem eqS_sound {x y : D} {v w : V} {k : Bool} (h : eqS x y = some k) (rx : Rep T μ H x v) (ry : Rep T μ H y w) : scal v w = true ∧ decide (v = w) = k := by
  unfold eqS at h
  split at h <;> first
    | (cases h; done)
    | (simp only [Rep] at rx ry; subst rx ry; cases h; exact ⟨rfl, by simp⟩)
theorem op_gEq : OpD X T (compareOp .Eq) gEq := by
  rintro pins s σ H x y v u Q I rx ry ⟨μ, S, a, b, z, hs, ra, rb, hg, k⟩
  unfold gEq at hg
  split at hg
  · rename_i d e
    cases q : eqS d e with
    | none => rw [q] at hg; cases hg
    | some c =>
      rw [q] at hg
      cases hg
      obtain ⟨h1, h2⟩ := eqS_sound q ra rb
      refine op_eq pins s σ H x y v u Q I rx ry ⟨h1, ?_⟩
      rw [h2]
      exact k μ H _ Ext.refl hs rep_blA
  · cases hg
theorem op_gNe : OpD X T (compareOp .NotEq) gNe := by
  rintro pins s σ H x y v u Q I rx ry ⟨μ, S, a, b, z, hs, ra, rb, hg, k⟩
  unfold gNe at hg
  split at hg
  · rename_i d e
    cases q : eqS d e with
    | none => rw [q] at hg; cases hg
    | some c =>
      rw [q] at hg
      cases hg
      obtain ⟨h1, h2⟩ := eqS_sound q ra rb
      refine op_ne pins s σ H x y v u Q I rx ry ⟨h1, ?_⟩
      rw [h2]
      exact k μ H _ Ext.refl hs rep_blA
  · cases hg
def isNon : A → Bool
  | .v .non => true
  | _ => false
theorem isNon_sound {a : A} {v : V} (r : RepA T μ H a v) : decide (v = .non) = isNon a := by
  cases a with
  | m n => obtain ⟨p, _, rfl⟩ := r; rfl
  | v d =>
    cases d <;> simp only [RepA, Rep] at r
    · subst r; rfl
    · subst r; rfl
    · subst r; rfl
    · subst r; rfl
    · obtain ⟨_, _, rfl, _⟩ := r; rfl
    · obtain ⟨_, _, rfl, _⟩ := r; rfl
    · obtain ⟨_, _, _, rfl, _⟩ := r; rfl
    · subst r; rfl
    · obtain ⟨_, _, rfl, _⟩ := r; rfl
    · subst r; rfl
    · obtain ⟨_, _, _, rfl, _⟩ := r; rfl
    · subst r; rfl
    · obtain ⟨_, _, rfl, _⟩ := r; rfl
    · obtain ⟨_, _, _, rfl, _⟩ := r; rfl
    · obtain ⟨_, _, _, _, rfl, _⟩ := r; rfl
def gIs : OpG
  | a, .v .non, _ => some (blA (isNon a))
  | _, _, _ => none
def gIsNot : OpG
  | a, .v .non, _ => some (blA (!isNon a))
  | _, _, _ => none
theorem op_gIs : OpD X T (compareOp .Is) gIs := by
  rintro pins s σ H x y v u Q I rx ry ⟨μ, S, a, b, z, hs, ra, rb, hg, k⟩
  unfold gIs at hg
  split at hg
  · cases hg
    refine op_isN pins s σ H x y v u Q I rx ry ⟨of_non rb, ?_⟩
    rw [isNon_sound ra]
    exact k μ H _ Ext.refl hs rep_blA
  · cases hg
/-- x in y : a sign in a text; a flat value among flat ones -/
def flatD : D → Bool
  | .non => true
  | .bl _ => true
  | .int _ => true
  | .str _ => true
  | _ => false
def eqF : D → D → Bool
  | .non, .non => true
  | .bl a, .bl b => a == b
  | .bl a, .int b => (if a then 1 else 0) == b
  | .int a, .bl b => a == (if b then 1 else 0)
  | .int a, .int b => a == b
  | .str a, .str b => a == b
  | _, _ => false
def inF (x : D) (xs : List D) : Bool := xs.any fun y => eqF y x
/-- what may be read as a sequence of data -/
def seqOf : A → Store → Option (List D)
  | .v (.lst ds), _ => some ds
  | .v (.tup ds), _ => some ds
  | .v (.fz ds), _ => some ds
  | .m n, S => match S[n]? with
    | some (.lst ds) => some ds
    | _ => none
  | _, _ => none
theorem seqOf_sound {a : A} {v : V} {ds : List D} (hs : StOk T μ H S) (r : RepA T μ H a v) (e : seqOf a S = some ds) : ∃ p vs, v = .ref p ∧ (SqL T.K H p vs ∨ SqT T.K H p vs) ∧ RepL T μ H ds vs := by
  unfold seqOf at e
  split at e
  · cases e
    simp only [RepA, Rep] at r
    obtain ⟨p, vs, e1, h, rl⟩ := r
    exact ⟨p, vs, e1, .inl h.sq, rl⟩
  · cases e
    simp only [RepA, Rep] at r
    obtain ⟨p, vs, e1, h, rl⟩ := r
    exact ⟨p, vs, e1, .inr h.sq, rl⟩
  · cases e
    simp only [RepA, Rep] at r
    obtain ⟨p, vs, e1, h, rl⟩ := r
    exact ⟨p, vs, e1, .inl h.sq, rl⟩
  · split at e
    · rename_i q
      cases e
      obtain ⟨p, h1, h2⟩ := r
      obtain ⟨vs, h3, h4⟩ := hs.at_ _ _ _ h1 q
      exact ⟨p, vs, h2, .inl (SqL.of h3), h4⟩
    · cases e
  · cases e
theorem flat_sound {d : D} {v : V} (r : Rep T μ H d v) (h : flatD d = true) : flatV v = true := by
  cases d <;> simp only [flatD] at h <;> first | (cases h; done) | (simp only [Rep] at r; subst r; rfl)
theorem flats_sound : ∀ {ds : List D} {vs : List V}, RepL T μ H ds vs → ds.all flatD = true → vs.all flatV = true
  | [], vs, r, _ => by simp only [RepL] at r; subst r; rfl
  | d :: ds, vs, r, h => by
    simp only [RepL] at r
    obtain ⟨v, ws, rfl, r1, r2⟩ := r
    rw [List.all_cons, Bool.and_eq_true] at h ⊢
    exact ⟨flat_sound r1 h.1, flats_sound r2 h.2⟩
theorem eqF_sound {d e : D} {v w : V} (r : Rep T μ H d v) (q : Rep T μ H e w) (h1 : flatD d = true) (h2 : flatD e = true) : eqV v w = eqF d e := by
  cases d <;> simp only [flatD] at h1 <;> first
    | (cases h1; done)
    | (cases e <;> simp only [flatD] at h2 <;> first
        | (cases h2; done)
        | (simp only [Rep] at r q; subst r q; rfl))
theorem inF_sound {x : D} {v : V} (rx : Rep T μ H x v) (hx : flatD x = true) : ∀ {ds : List D} {vs : List V}, RepL T μ H ds vs → ds.all flatD = true → inV v vs = inF x ds
  | [], vs, r, _ => by simp only [RepL] at r; subst r; rfl
  | d :: ds, vs, r, h => by
    simp only [RepL] at r
    obtain ⟨w, ws, rfl, r1, r2⟩ := r
    rw [List.all_cons, Bool.and_eq_true] at h
    have ih := inF_sound rx hx r2 h.2
    unfold inV inF at ih ⊢
    rw [List.any_cons, List.any_cons, ih, eqF_sound r1 rx h.1 hx]
def isSign (x : Str) : Option Nat := match x.cps.toList with
  | [c] => some c
  | _ => none
theorem isSign_eq {x : Str} {c : Nat} (h : isSign x = some c) : x = ⟨#[c]⟩ := by
  unfold isSign at h
  split at h
  · rename_i q
    cases h
    cases x with
    | mk a =>
      congr
      exact Array.ext' q
  · cases h
def inG (neg : Bool) : OpG
  | .v (.str x), .v (.str y), _ => match isSign x with
    | some c => some (blA (if neg then !decide (c ∈ y.cps.toList) else decide (c ∈ y.cps.toList)))
    | none => none
  | .v x, b, S => match seqOf b S with
    | some ds => if flatD x = true ∧ ds.all flatD = true then some (blA (if neg then !inF x ds else inF x ds)) else none
    | none => none
  | _, _, _ => none
abbrev gIn : OpG := inG false
abbrev gNotIn : OpG := inG true
theorem op_inG (hK : X.K = T.K) {op : CmpOp} {neg : Bool} (h1 : OpR X (compareOp op) (fun x y H Q => ∃ (c : Nat) (z : Str), x = .str ⟨#[c]⟩ ∧ y = .str z ∧ Q (.bl (if neg then !decide (c ∈ z.cps.toList) else decide (c ∈ z.cps.toList))) H)) (h2 : OpR X (compareOp op) (rIn X.K neg)) :
    OpD X T (compareOp op) (inG neg) := by
  rintro pins s σ H x y v u Q I rx ry ⟨μ, S, a, b, z, hs, ra, rb, hg, k⟩
  unfold inG at hg
  split at hg
  · split at hg
    · rename_i c q
      cases hg
      obtain rfl := of_str ra
      obtain rfl := of_str rb
      rw [isSign_eq q] at rx
      exact h1 pins s σ H _ _ v u Q I rx ry ⟨_, _, rfl, rfl, k μ H _ Ext.refl hs rep_blA⟩
    · cases hg
  · split at hg
    · rename_i ds q
      split at hg
      · rename_i hf
        cases hg
        obtain ⟨p, vs, e1, hq, rl⟩ := seqOf_sound hs rb q
        refine h2 pins s σ H x y v u Q I rx ry ⟨p, vs, e1, hK ▸ hq, flat_sound ra hf.1, flats_sound rl hf.2, ?_⟩
        rw [inF_sound ra hf.1 rl hf.2]
        exact k μ H _ Ext.refl hs rep_blA
      · cases hg
    · cases hg
  · cases hg
theorem op_gIn (hK : X.K = T.K) : OpD X T (compareOp .In) gIn := op_inG hK (fun pins s σ H x y v u Q I rx ry ⟨c, z, e1, e2, q⟩ => op_in_sign pins s σ H x y v u Q I rx ry ⟨c, z, e1, e2, q⟩) op_in_seq
theorem op_gNotIn (hK : X.K = T.K) : OpD X T (compareOp .NotIn) gNotIn := op_inG hK (fun pins s σ H x y v u Q I rx ry ⟨c, z, e1, e2, q⟩ => op_notIn_sign pins s σ H x y v u Q I rx ry ⟨c, z, e1, e2, q⟩) op_notIn_seq
def gNeg : A → Store → Option A
  | .v (.int i), _ => some (.v (.int (-i)))
  | _, _ => none
/-! truth -/
def truD : A → Store → Option Bool
  | .v .non, _ => some false
  | .v (.bl b), _ => some b
  | .v (.int i), _ => some (i != 0)
  | .v (.str y), _ => if y.length ≤ strMax then some (!decide (y.length = 0)) else none
  | .v (.tup xs), _ => some (!xs.isEmpty)
  | .v (.lst xs), _ => some (!xs.isEmpty)
  | .v (.fz xs), _ => some (!xs.isEmpty)
  | .m n, S => match S[n]? with
    | some (.lst ds) => some (!ds.isEmpty)
    | _ => none
  | _, _ => none
theorem isEmpty_rep {ds : List D} {vs : List V} (r : RepL T μ H ds vs) : vs.isEmpty = ds.isEmpty := by
  have := r.length
  cases ds <;> cases vs <;> simp_all
theorem truD_sound {a : A} {v : V} {k : Bool} (hs : StOk T μ H S) (r : RepA T μ H a v) (e : truD a S = some k) : TruV T.K v H k := by
  unfold truD at e
  split at e
  · cases e; rw [of_non r]; rfl
  · cases e; rw [of_bl r]; rfl
  · cases e; rw [of_int r]; rfl
  · split at e
    · rename_i hl
      cases e
      rw [of_str r]
      refine ⟨strMax_line hl, ?_⟩
      rw [Bool.eq_iff_iff]
      simp
    · cases e
  · cases e
    simp only [RepA, Rep] at r
    obtain ⟨p, vs, rfl, h, rl⟩ := r
    exact .inr (.inl ⟨vs, h.sq, by rw [isEmpty_rep rl]⟩)
  · cases e
    simp only [RepA, Rep] at r
    obtain ⟨p, vs, rfl, h, rl⟩ := r
    exact .inl ⟨vs, h.sq, by rw [isEmpty_rep rl]⟩
  · cases e
    simp only [RepA, Rep] at r
    obtain ⟨p, vs, rfl, h, rl⟩ := r
    exact .inl ⟨vs, h.sq, by rw [isEmpty_rep rl]⟩
  · split at e
    · rename_i q
      cases e
      obtain ⟨p, h1, rfl⟩ := r
      obtain ⟨vs, h3, h4⟩ := hs.at_ _ _ _ h1 q
      exact .inl ⟨vs, SqL.of h3, by rw [isEmpty_rep h4]⟩
    · cases e
  · cases e
end
section
variable {X : Cx} {T : Tb} {W : XK} {e a b c : Expr} {es rest : List Expr} {ma mb mc : EM} {pos : Pos}
/-- x and .., x or .., not x -/
def eAnd (ma mb : EM) : EM := fun ρ S => (ma ρ S).bind fun x S1 => match truD x S1 with
  | some true => mb ρ S1
  | some false => .ok x S1
  | none => .stk
def eOr (ma mb : EM) : EM := fun ρ S => (ma ρ S).bind fun x S1 => match truD x S1 with
  | some true => .ok x S1
  | some false => mb ρ S1
  | none => .stk
def eNot (ma : EM) : EM := fun ρ S => (ma ρ S).bind fun x S1 => match truD x S1 with
  | some k => .ok (blA (!k)) S1
  | none => .stk
theorem me_one {op : BoolOp} (h : ME X T W a ma) : ME X T W (.BoolOp op [a] pos) ma := pe_one h
theorem me_and (hL : Lv X T W) (ha : ME X T W a ma) (hb : ME X T W (.BoolOp .And (b :: rest) pos) mb) : ME X T W (.BoolOp .And (a :: b :: rest) pos) (eAnd ma mb) := pe_imp (pe_andT ha hb) fun σ H Q ⟨μ, ρ, S, he, hs, h⟩ => by
  refine rd_step he hs h fun x H1 μ1 S1 p ex he1 hs1 ra h1 => ?_
  cases q : truD p S1 with
  | none => rw [q] at h1; exact h1.elim
  | some k =>
    rw [q] at h1
    refine ⟨k, hL.k ▸ truD_sound hs1 ra q, ?_⟩
    cases k with
    | true => exact iteT ⟨μ1, ρ, S1, he1, hs1, h1⟩
    | false => exact iteF (h1 μ1 H1 x Ext.refl hs1 ra)
/-! tests -/
def tE (m : EM) : TM := fun ρ S => (m ρ S).bind fun x S1 => .ofO (truD x S1) S1
theorem mt_e (hL : Lv X T W) (ha : ME X T W a ma) (he : ∀ whole, isTrue a X.env whole = (do let v ← whole; standAt a.pos; holding [v] (truthy v)) := by intro _; rfl) : MT X T W a (tE ma) := pt_imp (pt_truth ha he) fun σ H Q ⟨μ, ρ, S, he, hs, h⟩ => by
  refine rd_step he hs h fun x H1 μ1 S1 p ex he1 hs1 ra h1 => ?_
  cases q : truD p S1 with
  | none => rw [q] at h1; exact h1.elim
  | some k =>
    rw [q] at h1
    exact ⟨k, hL.k ▸ truD_sound hs1 ra q, h1 μ1 H1 _ Ext.refl hs1 rfl⟩
/-- a comparison as a test: True or False -/
theorem mt_cmp {op : CmpOp} {g : OpG} (hL : Lv X T W) (ho : OpD X T (compareOp op) g) (hg : ∀ x y S z, g x y S = some z → ∃ k, z = blA k) (ha : ME X T W a ma) (hb : ME X T W b mb) (hm : behindInMarks op b = false := by first | exact nomark _ | rfl | with_unfolding_all rfl) :
    MT X T W (.Compare a [op] [b] pos) (tE (eOp g ma mb)) := pt_imp (pt_cmpR ho ha hb hm) fun σ H Q ⟨μ, ρ, S, he, hs, h⟩ => by
  unfold tE eOp at h
  cases q1 : ma ρ S with
  | stk => rw [q1] at h; exact h.elim
  | err e1 S1 => 
    rw [q1] at h
    exact ⟨μ, ρ, S, he, hs, by rw [q1]; exact h⟩
  | ok x S1 =>
    rw [q1] at h
    refine ⟨μ, ρ, S, he, hs, by
      rw [q1]
      intro μ1 H1 v ex hs1 ra
      have h1 := Aft.later ex h
      refine ⟨μ1, ρ, S1, he.mono ex, hs1, ?_⟩
      cases q2 : mb ρ S1 with
      | stk => simp only [R.bind_ok, q2] at h1; exact h1.elim
      | err e1 S2 =>
        simp only [R.bind_ok, q2] at h1
        exact h1
      | ok y S2 =>
        simp only [R.bind_ok, q2] at h1
        intro μ2 H2 w ex2 hs2 rb
        have h2 := Aft.later ex2 h1
        cases q3 : g x y S2 with
        | none => simp only [R.bind_ok, q3] at h2; exact h2.elim
        | some z =>
          obtain ⟨k, rfl⟩ := hg _ _ _ _ q3
          refine ⟨μ2, S2, x, y, _, hs2, ra.mono ex2, rb, q3, fun μ3 H3 u ex3 hs3 r3 => ⟨k, of_bl r3, ?_⟩⟩
          simp only [R.bind_ok, q3] at h2
          exact h2 μ3 H3 k ex3 hs3 rfl⟩
theorem gLt_bl : ∀ x y S z, gLt x y S = some z → ∃ k, z = blA k := fun x y S z e => by unfold gLt at e; split at e <;> first | (cases e; exact ⟨_, rfl⟩) | cases e
theorem gGt_bl : ∀ x y S z, gGt x y S = some z → ∃ k, z = blA k := fun x y S z e => by unfold gGt at e; split at e <;> first | (cases e; exact ⟨_, rfl⟩) | cases e
theorem gGe_bl : ∀ x y S z, gGe x y S = some z → ∃ k, z = blA k := fun x y S z e => by unfold gGe at e; split at e <;> first | (cases e; exact ⟨_, rfl⟩) | cases e
theorem gIs_bl : ∀ x y S z, gIs x y S = some z → ∃ k, z = blA k := fun x y S z e => by unfold gIs at e; split at e <;> first | (cases e; exact ⟨_, rfl⟩) | cases e
theorem gEq_bl : ∀ x y S z, gEq x y S = some z → ∃ k, z = blA k := fun x y S z e => by
  unfold gEq at e
  split at e
  · rename_i p q
    cases h : eqS p q with
    | none => rw [h] at e; cases e
    | some k => rw [h] at e; cases e; exact ⟨_, rfl⟩
  · cases e
theorem gNe_bl : ∀ x y S z, gNe x y S = some z → ∃ k, z = blA k := fun x y S z e => by
  unfold gNe at e
  split at e
  · rename_i p q
    cases h : eqS p q with
    | none => rw [h] at e; cases e
    | some k => rw [h] at e; cases e; exact ⟨_, rfl⟩
  · cases e
theorem inG_bl {neg : Bool} : ∀ x y S z, inG neg x y S = some z → ∃ k, z = blA k := fun x y S z e => by
  unfold inG at e
  split at e
  · split at e
    · cases e; exact ⟨_, rfl⟩
    · cases e
  · split at e
    · split at e
      · cases e; exact ⟨_, rfl⟩
      · cases e
    · cases e
  · cases e
def tAndM (m n : TM) : TM := fun ρ S => (m ρ S).bind fun k S1 => if k = true then n ρ S1 else .ok false S1
def tOrM (m n : TM) : TM := fun ρ S => (m ρ S).bind fun k S1 => if k = true then .ok true S1 else n ρ S1
def tNotM (m : TM) : TM := fun ρ S => (m ρ S).bind fun k S1 => .ok (!k) S1
variable {m n : TM}
theorem mw_and1 (h : MT X T W a m) : MW X T W (.BoolOp .And [a] pos) m := pw_and1 h
theorem mw_or1 (h : MT X T W a m) : MW X T W (.BoolOp .Or [a] pos) m := pw_or1 h
theorem mw_and (h : MT X T W a m) (h' : MW X T W (.BoolOp .And (b :: rest) pos) n) : MW X T W (.BoolOp .And (a :: b :: rest) pos) (tAndM m n) := pw_imp (pw_and h h') fun σ H Q ⟨μ, ρ, S, he, hs, h⟩ => by
  refine rdT_step he hs h fun k H1 μ1 S1 ex he1 hs1 h1 => ?_
  cases k with
  | true => exact iteT ⟨μ1, ρ, S1, he1, hs1, h1⟩
  | false => exact iteF (h1 μ1 H1 _ Ext.refl hs1 rfl)
theorem mw_or (h : MT X T W a m) (h' : MW X T W (.BoolOp .Or (b :: rest) pos) n) : MW X T W (.BoolOp .Or (a :: b :: rest) pos) (tOrM m n) := pw_imp (pw_or h h') fun σ H Q ⟨μ, ρ, S, he, hs, h⟩ => by
  refine rdT_step he hs h fun k H1 μ1 S1 ex he1 hs1 h1 => ?_
  cases k with
  | true => exact iteT (h1 μ1 H1 _ Ext.refl hs1 rfl)
  | false => exact iteF ⟨μ1, ρ, S1, he1, hs1, h1⟩
theorem mt_w (h : MW X T W a m) : MT X T W a m := PW.pt h
theorem mt_not (h : MT X T W a m) : MT X T W (.UnaryOp .Not a pos) (tNotM m) := pt_imp (pt_not h) fun σ H Q ⟨μ, ρ, S, he, hs, h⟩ => by
  refine rdT_step he hs h fun k H1 μ1 S1 ex he1 hs1 h1 => ?_
  exact h1 μ1 H1 _ Ext.refl hs1 rfl
def eIf (m : TM) (ma mb : EM) : EM := fun ρ S => (m ρ S).bind fun k S1 => if k = true then ma ρ S1 else mb ρ S1
theorem me_if (hc : MT X T W c m) (ha : ME X T W a ma) (hb : ME X T W b mb) : ME X T W (.IfExp c a b pos) (eIf m ma mb) := pe_imp (pe_ifExp hc ha hb) fun σ H Q ⟨μ, ρ, S, he, hs, h⟩ => by
  refine rdT_step he hs h fun k H1 μ1 S1 ex he1 hs1 h1 => ?_
  cases k with
  | true => exact iteT ⟨μ1, ρ, S1, he1, hs1, h1⟩
  | false => exact iteF ⟨μ1, ρ, S1, he1, hs1, h1⟩
end
end L3

set_option Elab.async false
set_option linter.all false
set_option maxRecDepth 100000
set_option maxHeartbeats 2000000
namespace L3
open PySem PySem.Spec PyProof.Rows L2
/-! ### calls of built-ins -/
abbrev CallG := List A → Store → Option A
def CallD (X : Cx) (T : Tb) (f : Value) (g : CallG) : Prop :=
  CallR X f (fun vs H Q => ∃ μ S xs z, StOk T μ H S ∧ RepAs T μ H xs vs ∧ g xs S = some z ∧ ∀ μ' H' v, Ext μ H μ' H' → StOk T μ' H' S → RepA T μ' H' z v → Q v H')
def eCallB (g : CallG) (r : AM) : EM := fun ρ S => (r ρ S).bind fun xs S1 => .ofO (g xs S1) S1
section
variable {X : Cx} {T : Tb} {W : XK} {e a b c : Expr} {es rest : List Expr} {ma mb mc : EM} {r : AM} {pos p : Pos} {x : Str} {bid : String}
theorem eCallB_rd {g : CallG} {rr : List V → Hp → VK → Prop} (hr : ∀ vs H Q, (∃ μ S xs z, StOk T μ H S ∧ RepAs T μ H xs vs ∧ g xs S = some z ∧ ∀ μ' H' v, Ext μ H μ' H' → StOk T μ' H' S → RepA T μ' H' z v → Q v H') → rr vs H Q) :
    ∀ σ H Q, rd T W (eCallB g r) σ H Q → tCB rr (rdA T W r) σ H Q := fun σ H Q ⟨μ, ρ, S, he, hs, h⟩ => by
  refine rdA_step he hs h fun vs H1 μ1 S1 xs ex he1 hs1 rs h1 => ?_
  obtain ⟨z, e, q⟩ := ofO_aft h1
  exact hr _ _ _ ⟨μ1, S1, xs, z, hs1, rs, e, q⟩
theorem me_callB {g : CallG} (hc : CallD X T (.builtin bid) g) (hg : Gl X x) (hm : X.mg x = none) (hv : bootBuiltins x = some (.builtin bid)) (ha : MA X T W (e :: es) r) (hn : x ≠ "__name__" := by decide) (hdb : (x == ("__debug__" : Str)) = false := by decide)
    (he : starEach (e :: es) X.env = (false, eval e X.env) :: starEach es X.env := by rfl) (hpl : (backTo pos (starEach es X.env)).any (·.1) = false := by rfl) : ME X T W (.Call (.Name x p) (e :: es) [] pos) (eCallB g r) :=
  pe_imp (pe_callB hc hg hm hv ha hn hdb he hpl) (eCallB_rd fun _ _ _ h => h)
theorem me_callTy {g : CallG} (hc : CallD X T (.type bid) g) (hg : Gl X x) (hm : X.mg x = none) (hv : bootBuiltins x = some (.type bid)) (ha : MA X T W (e :: es) r) (hn : x ≠ "__name__" := by decide) (hdb : (x == ("__debug__" : Str)) = false := by decide)
    (he : starEach (e :: es) X.env = (false, eval e X.env) :: starEach es X.env := by rfl) (hpl : (backTo pos (starEach es X.env)).any (·.1) = false := by rfl) : ME X T W (.Call (.Name x p) (e :: es) [] pos) (eCallB g r) :=
  pe_imp (pe_callTy hc hg hm hv ha hn hdb he hpl) (eCallB_rd fun _ _ _ h => h)
theorem reps1 {μ : List Addr} {H : Hp} {y : A} {vs : List V} (h : RepAs T μ H [y] vs) : ∃ v, vs = [v] ∧ RepA T μ H y v := by
  obtain ⟨v, ws, e, h1, h2⟩ := h
  have h2' : ws = [] := h2
  subst h2'
  exact ⟨v, e, h1⟩
theorem reps2 {μ : List Addr} {H : Hp} {y z : A} {vs : List V} (h : RepAs T μ H [y, z] vs) : ∃ v w, vs = [v, w] ∧ RepA T μ H y v ∧ RepA T μ H z w := by
  obtain ⟨v, ws, e, h1, h2⟩ := h
  obtain ⟨w, rfl, h3⟩ := reps1 h2
  exact ⟨v, w, e, h1, h3⟩
/-- len -/
def gLen : CallG
  | [.v (.str y)], _ => if y.length ≤ strMax then some (.v (.int y.length)) else none
  | [y], S => (seqOf y S).map fun ds => .v (.int ds.length)
  | _, _ => none
theorem call_gLen (hK : X.K = T.K) : CallD X T (.builtin "len") gLen := by
  rintro pins s σ H vs us Q I rr ⟨μ, S, xs, z, hs, rs, hg, k⟩
  unfold gLen at hg
  split at hg
  · split at hg
    · rename_i hl
      cases hg
      obtain ⟨v, rfl, r1⟩ := reps1 rs
      exact call_len pins s σ H _ us Q I rr ⟨_, _, rfl, by rw [of_str r1]; exact ⟨strMax_line hl, rfl⟩, k μ H _ Ext.refl hs ra_int⟩
    · cases hg
  · obtain ⟨v, rfl, r1⟩ := reps1 rs
    cases q : seqOf ‹A› S with
    | none => rw [q] at hg; cases hg
    | some ds =>
      rw [q] at hg
      cases hg
      obtain ⟨pp, ws, rfl, hq, rl⟩ := seqOf_sound hs r1 q
      refine call_len pins s σ H _ us Q I rr ⟨_, ds.length, rfl, ?_, k μ H _ Ext.refl hs ra_int⟩
      rw [hK, ← rl.length]
      rcases hq with hq | hq
      · exact .inl ⟨_, hq, rfl⟩
      · exact .inr ⟨_, hq, rfl⟩
  · cases hg
/-- all, any of a list of truth values -/
def asBl : List D → Option (List Bool)
  | [] => some []
  | .bl b :: r => (asBl r).map (b :: ·)
  | _ :: _ => none
theorem asBl_sound {μ : List Addr} {H : Hp} : ∀ {ds : List D} {bs : List Bool} {vs : List V}, asBl ds = some bs → RepL T μ H ds vs → vs = bs.map V.bl
  | [], bs, vs, e, r => by
    simp only [asBl, Option.some.injEq] at e
    subst e
    simp only [RepL] at r
    rw [r]; rfl
  | d :: ds, bs, vs, e, r => by
    cases d with
    | bl b =>
      simp only [RepL, Rep] at r
      obtain ⟨v, ws, rfl, rfl, r2⟩ := r
      cases q : asBl ds with
      | none => simp [asBl, q] at e
      | some cs =>
        simp only [asBl, q, Option.map_some, Option.some.injEq] at e
        subst e
        rw [asBl_sound q r2]; rfl
    | non => simp [asBl] at e
    | int _ => simp [asBl] at e
    | str _ => simp [asBl] at e
    | tup _ => simp [asBl] at e
    | lst _ => simp [asBl] at e
    | obj _ _ => simp [asBl] at e
    | cls _ => simp [asBl] at e
    | fz _ => simp [asBl] at e
    | ty _ => simp [asBl] at e
    | fn _ => simp [asBl] at e
    | adr _ => simp [asBl] at e
    | dic _ _ => simp [asBl] at e
    | exc _ _ => simp [asBl] at e
    | dnk _ _ => simp [asBl] at e
def gAll : CallG
  | [.v (.lst ds)], _ => (asBl ds).map fun bs => blA (bs.all id)
  | _, _ => none
def gAny : CallG
  | [.v (.lst ds)], _ => (asBl ds).map fun bs => blA (bs.any id)
  | _, _ => none
theorem call_gAll (hK : X.K = T.K) (hc : X.calm = true) : CallD X T (.builtin "all") gAll := by
  rintro pins s σ H vs us Q I rr ⟨μ, S, xs, z, hs, rs, hg, k⟩
  unfold gAll at hg
  split at hg
  · rename_i ds
    obtain ⟨v, rfl, r1⟩ := reps1 rs
    cases q : asBl ds with
    | none => rw [q] at hg; cases hg
    | some bs =>
      rw [q] at hg
      cases hg
      simp only [RepA, Rep] at r1
      obtain ⟨pp, ws, rfl, h, rl⟩ := r1
      exact cr_all hc pins s σ H _ us Q I rr ⟨pp, bs, rfl, by rw [← asBl_sound q rl]; exact h.sq, k μ H _ Ext.refl hs rep_blA⟩
  · cases hg
/-- int(x), str(x) -/
def gInt : CallG
  | [.v (.int i)], _ => some (.v (.int i))
  | [.v (.bl k)], _ => some (.v (.int (if k then 1 else 0)))
  | [.v (.str y)], _ => if y.length ≤ 640 then (PySem.intText? y).map fun n => .v (.int n) else none
  | _, _ => none
theorem call_gInt : CallD X T (.type "int") gInt := by
  rintro pins s σ H vs us Q I rr ⟨μ, S, xs, z, hs, rs, hg, k⟩
  unfold gInt at hg
  split at hg
  · cases hg
    obtain ⟨v, rfl, r1⟩ := reps1 rs
    exact call_int1 pins s σ H _ us Q I rr (.inl ⟨_, by rw [of_int r1], k μ H _ Ext.refl hs ra_int⟩)
  · cases hg
    obtain ⟨v, rfl, r1⟩ := reps1 rs
    exact call_int1 pins s σ H _ us Q I rr (.inr ⟨_, by rw [of_bl r1], k μ H _ Ext.refl hs ra_int⟩)
  · rename_i y
    obtain ⟨v, rfl, r1⟩ := reps1 rs
    split at hg
    · rename_i hl
      cases q : PySem.intText? y with
      | none => rw [q] at hg; cases hg
      | some n =>
        rw [q] at hg
        cases hg
        exact call_int_str pins s σ H _ us Q I rr ⟨_, _, by rw [of_str r1], q, hl, k μ H _ Ext.refl hs ra_int⟩
    · cases hg
  · cases hg
def gStr : CallG
  | [.v (.int i)], _ => if i.natAbs.log2 < 1920 then some (.v (.str (toString i))) else none
  | _, _ => none
/-- list(xs): a new one that stands still -/
def gListF : CallG
  | [y], S => (seqOf y S).map fun ds => .v (.lst ds)
  | _, _ => none
theorem call_gListF (hK : X.K = T.K) : CallD X T (.type "list") gListF := by
  rintro pins s σ H vs us Q I rr ⟨μ, S, xs, z, hs, rs, hg, k⟩
  unfold gListF at hg
  split at hg
  · obtain ⟨v, rfl, r1⟩ := reps1 rs
    cases q : seqOf ‹A› S with
    | none => rw [q] at hg; cases hg
    | some ds =>
      rw [q] at hg
      cases hg
      obtain ⟨pp, ws, rfl, hq, rl⟩ := seqOf_sound hs r1 q
      refine call_list_of pins s σ H _ us Q I rr ⟨pp, ws, rfl, hK ▸ hq, fun l hl => ?_⟩
      obtain ⟨x1, x2, x3⟩ := newLst hs rl hl
      exact k _ _ _ x1 x2 x3
  · cases hg
/-! isinstance -/
def tyN : D → Option String
  | .non => some "NoneType"
  | .bl _ => some "bool"
  | .int _ => some "int"
  | .str _ => some "str"
  | .tup _ => some "tuple"
  | .lst _ => some "list"
  | .fz _ => some "list"
  | _ => none
theorem tyN_sound {μ : List Addr} {H : Hp} {d : D} {v : V} {n : String} (r : Rep T μ H d v) (e : tyN d = some n) : TyX T.K H v (.type n) := by
  cases d <;> simp only [tyN, Option.some.injEq, reduceCtorEq] at e <;> simp only [Rep] at r
  · subst e r; exact .base .non
  · subst e r; exact .base (.bl _)
  · subst e r; exact .base (.int _)
  · subst e r; exact .base (.str _)
  · obtain ⟨p, vs, rfl, h, _⟩ := r
    subst e
    rcases h with ⟨_, h | ⟨o, h⟩⟩ | ⟨o, its, nn, h1, h2, _⟩
    · exact .base (.tup h)
    · exact .fTuple h
    · exact .kTuple h1 h2
  · obtain ⟨p, vs, rfl, h, _⟩ := r
    subst e
    exact .base (.lst h.2)
  · obtain ⟨p, vs, rfl, h, _⟩ := r
    subst e
    rcases h with ⟨_, h | ⟨o, h⟩⟩ | ⟨o, its, nn, h1, h2, _⟩
    · exact .base (.lst h)
    · exact .base (.frz h)
    · exact .kList h1 h2
/-- a mutable list is a list -/
def tyA (a : A) (S : Store) : Option String := match a with
  | .v d => tyN d
  | .m n => match S[n]? with
    | some (.lst _) => some "list"
    | _ => none
theorem tyA_sound {μ : List Addr} {H : Hp} {S : Store} {a : A} {v : V} {n : String} (hs : StOk T μ H S) (r : RepA T μ H a v) (e : tyA a S = some n) : TyX T.K H v (.type n) := by
  cases a with
  | v d => exact tyN_sound r e
  | m i =>
    unfold tyA at e
    simp only at e
    split at e
    · rename_i q
      cases e
      obtain ⟨p, h1, rfl⟩ := r
      obtain ⟨vs, h3, h4⟩ := hs.at_ _ _ _ h1 q
      exact .base (.lst h3)
    · cases e
/-- isinstance(x, T), T built-in: the answer by the type's name -/
def isB : String → String → Option Bool
  | "NoneType", n => if n ∈ ["int", "bool", "str", "list", "tuple"] then some false else none
  | "bool", n => if n ∈ ["bool", "int"] then some true else if n ∈ ["str", "list", "tuple"] then some false else none
  | "int", n => if n = "int" then some true else if n ∈ ["bool", "str", "list", "tuple"] then some false else none
  | "str", n => if n = "str" then some true else if n ∈ ["bool", "int", "list", "tuple"] then some false else none
  | "tuple", n => if n = "tuple" then some true else if n ∈ ["bool", "int", "list", "str"] then some false else none
  | "list", n => if n = "list" then some true else if n ∈ ["bool", "int", "tuple", "str"] then some false else none
  | _, _ => none
theorem isB_sound {K : PySem.W.Frag} {a n : String} {k : Bool} (h : isB a n = some k) : PySem.W.kitOne K (.type a) (.type n) = some k := by
  have key : ∀ a ∈ ["NoneType", "bool", "int", "str", "tuple", "list"], ∀ n ∈ ["int", "bool", "str", "list", "tuple"], kitB a n = isB a n := by decide +kernel
  refine kit_ty ?_
  have ha : a ∈ ["NoneType", "bool", "int", "str", "tuple", "list"] := by
    unfold isB at h
    split at h <;> first | (cases h; done) | decide
  have hn : n ∈ ["int", "bool", "str", "list", "tuple"] := by
    unfold isB at h
    split at h <;> first
      | (cases h; done)
      | (split at h
         · rename_i q; simp only [List.mem_cons, List.not_mem_nil, or_false] at q ⊢; first | (rcases q with q | q | q | q | q <;> simp [q]) | (rcases q with q | q <;> simp [q]) | simp [q]
         · first
           | (cases h; done)
           | (split at h
              · rename_i q; simp only [List.mem_cons, List.not_mem_nil, or_false] at q ⊢; first | (rcases q with q | q | q | q <;> simp [q]) | (rcases q with q | q | q <;> simp [q])
              · cases h))
  rw [key a ha n hn]; exact h
def gIsi : CallG
  | [x, .v (.ty n)], S => ((tyA x S).bind fun t => isB t n).map blA
  | _, _ => none
theorem call_gIsi (hK : X.K = T.K) : CallD X T (.builtin "isinstance") gIsi := by
  rintro pins s σ H vs us Q I rr ⟨μ, S, xs, z, hs, rs, hg, k⟩
  unfold gIsi at hg
  split at hg
  · rename_i x n
    obtain ⟨v, w, rfl, r1, r2⟩ := reps2 rs
    cases q : tyA x S with
    | none => rw [q] at hg; cases hg
    | some t =>
      rw [q] at hg
      simp only [Option.bind_some] at hg
      cases q2 : isB t n with
      | none => rw [q2] at hg; cases hg
      | some b =>
        rw [q2] at hg
        cases hg
        have e2 : w = .ty n := by simpa only [RepA, Rep] using r2
        subst e2
        exact call_isi pins s σ H _ us Q I rr ⟨v, .ty n, _, _, b, rfl, .ty n, hK ▸ tyA_sound hs r1 q, isB_sound q2, k μ H _ Ext.refl hs rep_blA⟩
  · cases hg
/-- isinstance(x, (T1, T2)) -/
def isAny (t : String) : List String → Option Bool
  | [] => some false
  | n :: ns => (isB t n).bind fun k => (isAny t ns).map fun l => k || l
def eIsiT (ns : List String) (ma : EM) : EM := fun ρ S => (ma ρ S).bind fun x S1 => .ofO (((tyA x S1).bind fun t => isAny t ns).map blA) S1
theorem isAny_sound {K : PySem.W.Frag} {t : String} : ∀ {ns : List String} {k : Bool}, isAny t ns = some k → PySem.W.kitAny K (.type t) (ns.map Value.type) = some k
  | [], k, h => by
    simp only [isAny, Option.some.injEq] at h
    subst h
    rfl
  | n :: ns, k, h => by
    unfold isAny at h
    cases q : isB t n with
    | none => rw [q] at h; cases h
    | some b =>
      rw [q] at h
      simp only [Option.bind_some] at h
      cases q2 : isAny t ns with
      | none => rw [q2] at h; cases h
      | some l =>
        rw [q2] at h
        simp only [Option.map_some, Option.some.injEq] at h
        subst h
        refine kitAny_cons (isB_sound q) (fun e => ?_) (fun e => by rw [e]; rfl)
        rw [e, Bool.false_or]
        exact isAny_sound q2
/-- a tuple of built-in types, written -/
def TysOk (X : Cx) : List Expr → List String → Prop
  | [], ns => ns = []
  | e :: es, ns => ∃ n ms, ns = n :: ms ∧ PE X e (tC (.ty n)) ∧ starEach (e :: es) X.env = (false, eval e X.env) :: starEach es X.env ∧ TysOk X es ms
def tTys (ns : List String) : TA := fun σ H Q => Q (ns.map V.ty) H
theorem pa_tys : ∀ {es : List Expr} {ns : List String}, TysOk X es ns → PA X es (tTys ns)
  | [], ns, h => by
    have e : ns = [] := h
    subst e
    exact pa_nil
  | e :: es, ns, h => by
    obtain ⟨n, ms, rfl, h1, h2, h3⟩ := h
    exact pa_imp (pa_cons h1 (pa_tys h3) h2) fun σ H Q h => h
theorem clsV_all : ∀ ns : List String, Paired ClsV (ns.map V.ty) (ns.map Value.type)
  | [] => .nil
  | n :: ns => .cons (.ty n) (clsV_all ns)
theorem me_isiT {ns : List String} {x1 : Nat} {tp : Pos} (hK : X.K = T.K) (hg : Gl X "isinstance") (hm : X.mg "isinstance" = none) (ha : ME X T W a ma) (ht : TysOk X es ns) (hns : ns.length ≤ 10)
    (he : starEach [a, .Tuple es x1 tp] X.env = (false, eval a X.env) :: starEach [.Tuple es x1 tp] X.env := by rfl) (he2 : starEach [.Tuple es x1 tp] X.env = (false, eval (.Tuple es x1 tp) X.env) :: starEach [] X.env := by rfl) (hpl : (backTo pos (starEach [.Tuple es x1 tp] X.env)).any (·.1) = false := by rfl) :
    ME X T W (.Call (.Name "isinstance" p) [a, .Tuple es x1 tp] [] pos) (eIsiT ns ma) :=
  pe_imp (pe_callB call_isiT hg hm (by decide +kernel) (pa_cons ha (pa_cons (pe_tup (pa_tys ht)) pa_nil he2) he) (by decide) (by decide) he hpl) fun σ H Q ⟨μ, ρ, S, he, hs, h⟩ => by
    refine rd_step he hs h fun v H1 μ1 S1 y ex he1 hs1 ra h1 => ?_
    obtain ⟨z, e, q⟩ := ofO_aft h1
    refine ⟨by rw [List.length_map]; exact le_line (by omega), fun p' hp => ?_⟩
    cases q1 : tyA y S1 with
    | none => rw [q1] at e; cases e
    | some t =>
      rw [q1] at e
      simp only [Option.bind_some] at e
      cases q2 : isAny t ns with
      | none => rw [q2] at e; cases e
      | some b =>
        rw [q2] at e
        cases e
        have sm : Same H1 (upd H1 p' (.tup (ns.map V.ty))) := same_upd hp
        have ex2 : Ext μ1 H1 μ1 (upd H1 p' (.tup (ns.map V.ty))) := Ext.grow sm
        exact ⟨v, p', _, _, _, b, rfl, upd_same, clsV_all ns, hK ▸ tyA_sound (hs1.grow sm) (ra.mono ex2) q1, isAny_sound q2, q _ _ _ ex2 (hs1.grow sm) rep_blA⟩

/-! ### items, slices -/
def gIx : OpG
  | .v (.str y), .v (.int i), _ => if y.length ≤ strMax then (atI y.cps.toList i).map fun c => .v (.str ⟨#[c]⟩) else none
  | x, .v (.int i), S => (seqOf x S).bind fun ds => (atI ds i).map A.v
  | _, _, _ => none
theorem atI_rep {μ : List Addr} {H : Hp} {ds : List D} {vs : List V} {i : Int} {d : D} (r : RepL T μ H ds vs) (h : atI ds i = some d) : ∃ v, atI vs i = some v ∧ Rep T μ H d v := by
  unfold atI at h ⊢
  rw [r.length]
  cases q : ixN ds.length i with
  | none => rw [q] at h; cases h
  | some j =>
    rw [q] at h
    exact r.get h
theorem me_ix (hK : X.K = T.K) (ha : ME X T W a ma) (hb : ME X T W b mb) (hs : PlainIx b := by exact fun _ _ => rfl) : ME X T W (.Subscript a b pos) (eOp gIx ma mb) :=
  pe_imp (pe_ix (IxR.or ix_str (IxR.or ix_list ix_tup)) ha hb hs) (eOp_rd fun x y H Q ⟨μ, S, p, q, z, hs, ra, rb, hg, k⟩ => by
    unfold gIx at hg
    split at hg
    · rename_i yy i
      split at hg
      · rename_i hl
        cases e : atI yy.cps.toList i with
        | none => rw [e] at hg; cases hg
        | some c =>
          rw [e] at hg
          cases hg
          exact .inl ⟨yy, i, c, of_str ra, of_int rb, strMax_line hl, e, k μ H _ Ext.refl hs ra_str⟩
      · cases hg
    · rename_i i hne
      cases e : seqOf p S with
      | none => rw [e] at hg; cases hg
      | some ds =>
        rw [e] at hg
        simp only [Option.bind_some] at hg
        cases e2 : atI ds i with
        | none => rw [e2] at hg; cases hg
        | some d =>
          rw [e2] at hg
          cases hg
          obtain ⟨pp, ws, h1, hq, rl⟩ := seqOf_sound hs ra e
          obtain ⟨w, h2, rw'⟩ := atI_rep rl e2
          have kk := k μ H w Ext.refl hs rw'
          rcases hq with hq | hq
          · exact .inr (.inl ⟨pp, ws, i, w, h1, of_int rb, hK ▸ hq, h2, kk⟩)
          · exact .inr (.inr ⟨pp, ws, i, w, h1, of_int rb, hK ▸ hq, h2, kk⟩)
    · cases hg)
/-- a bound of a slice -/
abbrev OM := Env → Store → R (Option Int)
def oNone : OM := fun _ S => .ok none S
def oSome (m : EM) : OM := fun ρ S => (m ρ S).bind fun x S1 => match x with
  | .v (.int i) => .ok (some i) S1
  | _ => .stk
abbrev rdO (T : Tb) (W : XK) (m : OM) : TO := fun σ H Q => ∃ μ ρ S, RepE T μ H ρ σ ∧ StOk T μ H S ∧ Aft T (fun _ _ a b => a = b) μ H Q W (m ρ S)
abbrev MOo (X : Cx) (T : Tb) (W : XK) (e : Option Expr) (m : OM) : Prop := PO X e (rdO T W m)
theorem po_imp {eo : Option Expr} {t t' : TO} (h : PO X eo t) (k : ∀ σ H Q, t' σ H Q → t σ H Q) : PO X eo t' := ⟨fun pins s σ H Q I q => h.run pins s σ H Q I (k σ H Q q)⟩
theorem mo_none : MOo X T W none oNone := po_imp po_none fun σ H Q ⟨μ, ρ, S, he, hs, h⟩ => h μ H none Ext.refl hs rfl
theorem mo_some (ha : ME X T W a ma) : MOo X T W (some a) (oSome ma) := po_imp (po_some ha) fun σ H Q ⟨μ, ρ, S, he, hs, h⟩ => by
  refine rd_step he hs h fun v H1 μ1 S1 y ex he1 hs1 ra h1 => ?_
  split at h1
  · exact ⟨_, of_int ra, h1 μ1 H1 _ Ext.refl hs1 rfl⟩
  · exact h1.elim
theorem rdO_step {m : OM} {σ : L2.St} {H : Hp} {μ : List Addr} {ρ : Env} {S : Store} {γ δ : Type} {Rq : List Addr → Hp → γ → δ → Prop} {Q : Option Int → Hp → Prop} {Q' : δ → Hp → Prop} {k : Option Int → Store → R γ} (he : RepE T μ H ρ σ) (hs : StOk T μ H S) (h : Aft T Rq μ H Q' W ((m ρ S).bind k))
    (q : ∀ b H1 μ1 S1, Ext μ H μ1 H1 → RepE T μ1 H1 ρ σ → StOk T μ1 H1 S1 → Aft T Rq μ1 H1 Q' W (k b S1) → Q b H1) : rdO T W m σ H Q :=
  ⟨μ, ρ, S, he, hs, (Aft.split (Rp := fun _ _ a b => a = b) h).imp fun v H1 ⟨μ1, S1, x, ex, hs1, r, h1⟩ => q v H1 μ1 S1 ex (he.mono ex) hs1 (r ▸ h1)⟩
/-- xs[lo:hi]: a new list; a new text; a new tuple that is not the whole one -/
def cutD (xs : List D) (lo hi : Option Int) : List D := (xs.drop (HT.sIx xs.length 0 lo)).take (HT.sIx xs.length xs.length hi - HT.sIx xs.length 0 lo)
def gSl (x : A) (lo hi : Option Int) (S : Store) : Option A := match x with
  | .v (.str y) => if y.length ≤ strMax then some (.v (.str (cutS y lo hi))) else none
  | .v (.lst ds) => some (.v (.lst (cutD ds lo hi)))
  | .v (.fz ds) => some (.v (.lst (cutD ds lo hi)))
  | .v (.tup ds) => if (cutD ds lo hi).length < ds.length then some (.v (.tup (cutD ds lo hi))) else none
  | .m n => match S[n]? with
    | some (.lst ds) => some (.v (.lst (cutD ds lo hi)))
    | _ => none
  | _ => none
def eSl (ma : EM) (lo hi : OM) : EM := fun ρ S => (ma ρ S).bind fun x S1 => (lo ρ S1).bind fun l S2 => (hi ρ S2).bind fun h S3 => .ofO (gSl x l h S3) S3
theorem cut_rep {μ : List Addr} {H : Hp} {ds : List D} {vs : List V} (r : RepL T μ H ds vs) (lo hi : Option Int) : RepL T μ H (cutD ds lo hi) (cutV vs lo hi) := by
  unfold cutD cutV
  rw [r.length]
  have hd : ∀ (n : Nat) {ds : List D} {vs : List V}, RepL T μ H ds vs → RepL T μ H (ds.drop n) (vs.drop n) := by
    intro n
    induction n with
    | zero => intro ds vs r; exact r
    | succ n ih =>
      intro ds vs r
      cases ds with
      | nil => simp only [RepL] at r; subst r; simp only [List.drop_nil, RepL]
      | cons d ds =>
        simp only [RepL] at r
        obtain ⟨v, ws, rfl, _, r2⟩ := r
        exact ih r2
  have ht : ∀ (n : Nat) {ds : List D} {vs : List V}, RepL T μ H ds vs → RepL T μ H (ds.take n) (vs.take n) := by
    intro n
    induction n with
    | zero => intro ds vs r; simp only [List.take_zero, RepL]
    | succ n ih =>
      intro ds vs r
      cases ds with
      | nil => simp only [RepL] at r; subst r; simp only [List.take_nil, RepL]
      | cons d ds =>
        simp only [RepL] at r
        obtain ⟨v, ws, rfl, r1, r2⟩ := r
        simp only [List.take_succ_cons, RepL]
        exact ⟨v, _, rfl, r1, ih r2⟩
  exact ht _ (hd _ r)
theorem me_slice {lo hi : Option Expr} {p2 : Pos} {ml mh : OM} (hK : X.K = T.K) (ha : ME X T W a ma) (hl : MOo X T W lo ml) (hh : MOo X T W hi mh) : ME X T W (.Subscript a (.Slice lo hi none p2) pos) (eSl ma ml mh) :=
  pe_imp (pe_slice (SlR.or sl_str (SlR.or sl_list sl_tup)) ha hl hh) fun σ H Q ⟨μ, ρ, S, he, hs, h⟩ => by
    refine rd_step he hs h fun v H1 μ1 S1 y ex he1 hs1 ra h1 => ?_
    refine rdO_step he1 hs1 h1 fun l H2 μ2 S2 ex2 he2 hs2 h2 => ?_
    refine rdO_step he2 hs2 h2 fun u H3 μ3 S3 ex3 he3 hs3 h3 => ?_
    obtain ⟨z, e, q⟩ := ofO_aft h3
    have ra3 := (ra.mono ex2).mono ex3
    unfold gSl at e
    split at e
    · split at e
      · rename_i hl
        cases e
        exact .inl ⟨_, of_str ra3, strMax_line hl, q μ3 H3 _ Ext.refl hs3 ra_str⟩
      · cases e
    · cases e
      simp only [RepA, Rep] at ra3
      obtain ⟨pp, ws, e1, h, rl⟩ := ra3
      refine .inr (.inl ⟨pp, ws, e1, h.sq, fun l' hp => ?_⟩)
      obtain ⟨x1, x2, x3⟩ := newLst hs3 (cut_rep rl _ _) hp
      exact q _ _ _ x1 x2 x3
    · cases e
      simp only [RepA, Rep] at ra3
      obtain ⟨pp, ws, e1, h, rl⟩ := ra3
      refine .inr (.inl ⟨pp, ws, e1, hK ▸ h.sq, fun l' hp => ?_⟩)
      obtain ⟨x1, x2, x3⟩ := newLst hs3 (cut_rep rl _ _) hp
      exact q _ _ _ x1 x2 x3
    · split at e
      · rename_i hlt
        cases e
        simp only [RepA, Rep] at ra3
        obtain ⟨pp, ws, e1, h, rl⟩ := ra3
        have cr := cut_rep rl l u
        refine .inr (.inr ⟨pp, ws, e1, hK ▸ h.sq, ?_, fun l' hp => ?_⟩)
        · rintro ⟨z1, z2⟩
          rw [rl.length] at z1 z2
          unfold cutD at hlt
          rw [z1, z2] at hlt
          simp at hlt
        · obtain ⟨x1, x2, x3⟩ := newTup hs3 cr hp
          exact q _ _ _ x1 x2 x3
      · cases e
    · split at e
      · rename_i qq
        cases e
        obtain ⟨pp, h1', rfl⟩ := ra3
        obtain ⟨ws, h3', h4⟩ := hs3.at_ _ _ _ h1' qq
        refine .inr (.inl ⟨pp, ws, rfl, SqL.of h3', fun l' hp => ?_⟩)
        obtain ⟨x1, x2, x3⟩ := newLst hs3 (cut_rep h4 _ _) hp
        exact q _ _ _ x1 x2 x3
      · cases e
    · cases e
end
end L3

set_option Elab.async false
set_option linter.all false
set_option maxRecDepth 100000
set_option maxHeartbeats 2000000
namespace L3
open PySem PySem.Spec PyProof.Rows L2
abbrev SM := Env → Store → SR
def rdS (T : Tb) (W : XK) (m : SM) : TS := fun D σ H => ∃ μ ρ S, RepE T μ H ρ σ ∧ StOk T μ H S ∧ AftS T μ H D W (m ρ S)
abbrev MS (X : Cx) (T : Tb) (W : XK) (st : Stmt) (m : SM) : Prop := PS X st (rdS T W m)
abbrev MB (X : Cx) (T : Tb) (W : XK) (st : List Stmt) (m : SM) : Prop := PSs X st (rdS T W m)
theorem ps_imp {X : Cx} {st : Stmt} {t t' : TS} (h : PS X st t) (k : ∀ D σ H, t' D σ H → t D σ H) : PS X st t' := ⟨fun pins s σ H D I q => h.run pins s σ H D I (k D σ H q)⟩
theorem pss_imp {X : Cx} {st : List Stmt} {t t' : TS} (h : PSs X st t) (k : ∀ D σ H, t' D σ H → t D σ H) : PSs X st t' := ⟨fun pins s σ H D I q => h.run pins s σ H D I (k D σ H q)⟩
@[simp] theorem SR.of_ok {a : A} {S : Store} {k : A → Store → SR} : SR.of (.ok a S) k = k a S := rfl
@[simp] theorem SR.of_err {e : Er} {S : Store} {k : A → Store → SR} : SR.of (.err e S) k = .er e S := rfl
@[simp] theorem SR.of_stk {k : A → Store → SR} : SR.of .stk k = .stk := rfl
def SR.ofT (r : R Bool) (k : Bool → Store → SR) : SR := match r with
  | .ok a S => k a S
  | .err e S => .er e S
  | .stk => .stk
@[simp] theorem SR.ofT_ok {a : Bool} {S : Store} {k : Bool → Store → SR} : SR.ofT (.ok a S) k = k a S := rfl
@[simp] theorem SR.ofT_err {e : Er} {S : Store} {k : Bool → Store → SR} : SR.ofT (.err e S) k = .er e S := rfl
@[simp] theorem SR.ofT_stk {k : Bool → Store → SR} : SR.ofT .stk k = .stk := rfl
section
variable {X : Cx} {T : Tb} {W : XK} {e a b c : Expr} {es : List Expr} {st : Stmt} {sts : List Stmt} {ma mb mc : EM} {r : AM} {m n : SM} {t : TM} {pos p : Pos}
theorem rdS_e {σ : L2.St} {H : Hp} {μ : List Addr} {ρ : Env} {S : Store} {D : Ends} {Q : V → Hp → Prop} {k : A → Store → SR} (he : RepE T μ H ρ σ) (hs : StOk T μ H S) (h : AftS T μ H D W (SR.of (ma ρ S) k))
    (q : ∀ v H1 μ1 S1 x, Ext μ H μ1 H1 → RepE T μ1 H1 ρ σ → StOk T μ1 H1 S1 → RepA T μ1 H1 x v → AftS T μ1 H1 D W (k x S1) → Q v H1) : rd T W ma σ H Q := by
  refine ⟨μ, ρ, S, he, hs, ?_⟩
  cases e : ma ρ S with
  | ok x S1 =>
    rw [e] at h
    exact fun μ1 H1 v ex hs1 r => q v H1 μ1 S1 x ex (he.mono ex) hs1 r (AftS.later ex h)
  | err e S1 => rw [e] at h; exact h
  | stk => rw [e] at h; exact h
theorem rdS_t {σ : L2.St} {H : Hp} {μ : List Addr} {ρ : Env} {S : Store} {D : Ends} {Q : Bool → Hp → Prop} {k : Bool → Store → SR} (he : RepE T μ H ρ σ) (hs : StOk T μ H S) (h : AftS T μ H D W (SR.ofT (t ρ S) k))
    (q : ∀ b H1 μ1 S1, Ext μ H μ1 H1 → RepE T μ1 H1 ρ σ → StOk T μ1 H1 S1 → AftS T μ1 H1 D W (k b S1) → Q b H1) : rdT T W t σ H Q := by
  refine ⟨μ, ρ, S, he, hs, ?_⟩
  cases e : t ρ S with
  | ok x S1 =>
    rw [e] at h
    exact fun μ1 H1 v ex hs1 r => r ▸ q x H1 μ1 S1 ex (he.mono ex) hs1 (AftS.later ex h)
  | err e S1 => rw [e] at h; exact h
  | stk => rw [e] at h; exact h
def sNil : SM := fun ρ S => .nx ρ S
def sSeq (m n : SM) : SM := fun ρ S => match m ρ S with
  | .nx ρ' S' => n ρ' S'
  | .rt a S' => .rt a S'
  | .bk ρ' S' => .bk ρ' S'
  | .ct ρ' S' => .ct ρ' S'
  | .er e S' => .er e S'
  | .stk => .stk
theorem mb_nil : MB X T W [] sNil := pss_imp pss_nil fun D σ H ⟨μ, ρ, S, he, hs, h⟩ => h μ H σ Ext.refl hs he
theorem mb_cons (h1 : MS X T W st m) (h2 : MB X T W sts n) : MB X T W (st :: sts) (sSeq m n) := pss_imp (pss_cons h1 h2) fun D σ H ⟨μ, ρ, S, he, hs, h⟩ => by
  refine ⟨μ, ρ, S, he, hs, ?_⟩
  unfold sSeq at h
  cases q : m ρ S with
  | nx ρ' S' =>
    rw [q] at h
    exact fun μ' H' σ' ex hs' he' => ⟨μ', ρ', S', he', hs', AftS.later ex h⟩
  | rt a S' => rw [q] at h; exact h
  | bk ρ' S' => rw [q] at h; exact h
  | ct ρ' S' => rw [q] at h; exact h
  | er e S' => rw [q] at h; exact h
  | stk => rw [q] at h; exact h
theorem mb_one (h1 : MS X T W st m) : MB X T W [st] m := pss_one h1
def sPass : SM := fun ρ S => .nx ρ S
def sBk : SM := fun ρ S => .bk ρ S
def sCt : SM := fun ρ S => .ct ρ S
def sExpr (ma : EM) : SM := fun ρ S => SR.of (ma ρ S) fun _ S1 => .nx ρ S1
def sRet (ma : EM) : SM := fun ρ S => SR.of (ma ρ S) fun x S1 => .rt x S1
theorem ms_ret (ha : ME X T W a ma) : MS X T W (.Return (some a) pos) (sRet ma) := ps_imp (ps_ret ha) fun D σ H ⟨μ, ρ, S, he, hs, h⟩ =>
  rdS_e he hs h fun v H1 μ1 S1 x ex he1 hs1 r h1 => h1 μ1 H1 v Ext.refl hs1 r
def sRetN : SM := fun _ S => .rt (.v .non) S
def sIf (t : TM) (m n : SM) : SM := fun ρ S => SR.ofT (t ρ S) fun b S1 => if b = true then m ρ S1 else n ρ S1
theorem ms_if {bs cs : List Stmt} (hc : MT X T W c t) (ha : MB X T W bs m) (hb : MB X T W cs n) : MS X T W (.If c bs cs pos) (sIf t m n) := ps_imp (ps_if hc ha hb) fun D σ H ⟨μ, ρ, S, he, hs, h⟩ =>
  rdS_t he hs h fun b H1 μ1 S1 ex he1 hs1 h1 => by
    cases b with
    | true => exact iteT ⟨μ1, ρ, S1, he1, hs1, h1⟩
    | false => exact iteF ⟨μ1, ρ, S1, he1, hs1, h1⟩
def sSet (i : Nat) (ma : EM) : SM := fun ρ S => SR.of (ma ρ S) fun x S1 => .nx (ρ.set i (some x)) S1
theorem ms_set (i : Nat) {x : Str} {pos' : Pos} (hN : X.N.Nodup) (ha : ME X T W a ma) (hi : X.N[i]? = some x := by rfl) (hx : Loc X.env.scope x := by first | exact Or.inl rfl | exact Or.inr rfl) (hs : swapsWith a (some (.Name x pos')) pos.line X.env = pure false := by rfl)
    (hf : X.fn x = true ∨ X.env.scope.names.lookup x = some .local := by first | exact .inl rfl | exact .inr rfl | assumption) : MS X T W (.Assign [.Name x pos'] a pos) (sSet i ma) := ps_imp (ps_set hN hi hx ha hs hf) fun D σ H ⟨μ, ρ, S, he, hs, h⟩ =>
  rdS_e he hs h fun v H1 μ1 S1 x ex he1 hs1 r h1 => h1 μ1 H1 _ Ext.refl hs1 (he1.set r)
mutual
def Tg.put : Tg → A → Env → Option Env
  | .nm i, x, ρ => some (ρ.set i (some x))
  | .tp ts, .v (.tup ds), ρ => Tg.puts ts ds ρ
  | .tp ts, .v (.lst ds), ρ => Tg.puts ts ds ρ
  | .tp _, _, _ => none
def Tg.puts : List Tg → List D → Env → Option Env
  | [], [], ρ => some ρ
  | t :: ts, d :: ds, ρ => match Tg.put t (.v d) ρ with
    | some ρ1 => Tg.puts ts ds ρ1
    | none => none
  | _, _, _ => none
end
def rdG (T : Tb) (t : Tg) : TG := fun v σ H Q => ∃ μ ρ S x ρ', RepE T μ H ρ σ ∧ StOk T μ H S ∧ RepA T μ H x v ∧ t.put x ρ = some ρ' ∧ ∀ μ' H' σ', Ext μ H μ' H' → StOk T μ' H' S → RepE T μ' H' ρ' σ' → OffE t.sl σ σ' → Q σ' H'
def rdGs (T : Tb) (ts : List Tg) : TGs := fun vs σ H Q => ∃ μ ρ S ds ρ', RepE T μ H ρ σ ∧ StOk T μ H S ∧ RepL T μ H ds vs ∧ Tg.puts ts ds ρ = some ρ' ∧ ∀ μ' H' σ', Ext μ H μ' H' → StOk T μ' H' S → RepE T μ' H' ρ' σ' → OffE (Tg.sls ts) σ σ' → Q σ' H'
abbrev MG (X : Cx) (T : Tb) (tg : Expr) (t : Tg) : Prop := PG X tg (rdG T t)
abbrev MGs (X : Cx) (T : Tb) (tg : List Expr) (t : List Tg) : Prop := PGs X tg (rdGs T t)
theorem pg_imp {tg : Expr} {t t' : TG} (h : PG X tg t) (k : ∀ v σ H Q, t' v σ H Q → t v σ H Q) : PG X tg t' := ⟨fun pins s σ H v u Q I r q => h.run pins s σ H v u Q I r (k v σ H Q q)⟩
theorem pgs_imp {tg : List Expr} {t t' : TGs} (h : PGs X tg t) (k : ∀ v σ H Q, t' v σ H Q → t v σ H Q) : PGs X tg t' := ⟨fun pins s σ H v u Q I r q => h.run pins s σ H v u Q I r (k v σ H Q q)⟩
theorem mg_nm (i : Nat) {x : Str} (hN : X.N.Nodup) (hi : X.N[i]? = some x := by rfl) (hx : Loc X.env.scope x := by first | exact Or.inl rfl | exact Or.inr rfl) (hf : X.fn x = true ∨ X.env.scope.names.lookup x = some .local := by first | exact .inl rfl | exact .inr rfl | assumption) : MG X T (.Name x pos) (.nm i) :=
  pg_imp (pg_name hN hi hx hf) fun v σ H Q ⟨μ, ρ, S, x, ρ', he, hs, r, e, q⟩ => by
    simp only [Tg.put, Option.some.injEq] at e
    subst e
    exact q μ H _ Ext.refl hs (he.set r) ⟨by simp, fun j hj => List.getElem?_set_ne (by rintro rfl; exact hj (by simp [Tg.sl]))⟩
theorem mgs_nil : MGs X T [] [] := pgs_imp pgs_nil fun vs σ H Q ⟨μ, ρ, S, ds, ρ', he, hs, r, e, q⟩ => by
  cases ds with
  | nil =>
    simp only [Tg.puts, Option.some.injEq] at e
    subst e
    simp only [RepL] at r
    exact ⟨r, q μ H σ Ext.refl hs he ⟨rfl, fun _ _ => rfl⟩⟩
  | cons d ds => simp [Tg.puts] at e
theorem mgs_cons {ts : List Expr} {g : Tg} {gs : List Tg} (h1 : MG X T a g) (h2 : MGs X T ts gs) (hs : (assignEach (a :: ts) X.env).map (·.2) = assign a X.env :: (assignEach ts X.env).map (·.2) := by rfl) : MGs X T (a :: ts) (g :: gs) :=
  pgs_imp (pgs_cons h1 h2 hs) fun vs σ H Q ⟨μ, ρ, S, ds, ρ', he, hs, r, e, q⟩ => by
    cases ds with
    | nil => simp [Tg.puts] at e
    | cons d ds =>
      simp only [RepL] at r
      obtain ⟨v, ws, rfl, r1, r2⟩ := r
      cases e1 : g.put (.v d) ρ with
      | none => simp [Tg.puts, e1] at e
      | some ρ1 =>
        simp only [Tg.puts, e1] at e
        refine ⟨v, ws, rfl, μ, ρ, S, .v d, ρ1, he, hs, r1, e1, fun μ1 H1 σ1 ex hs1 he1 o1 => ?_⟩
        refine ⟨μ1, ρ1, S, ds, ρ', he1, hs1, r2.mono ex, e, fun μ2 H2 σ2 ex2 hs2 he2 o2 => ?_⟩
        exact q μ2 H2 σ2 (ex.trans ex2) hs2 he2 ⟨o2.1.trans o1.1, fun j hj => (o2.2 j fun z => hj (by simp [Tg.sls, z])).trans (o1.2 j fun z => hj (by simp [Tg.sls, z]))⟩
theorem puts_len : ∀ {ts : List Tg} {ds : List D} {ρ ρ' : Env}, Tg.puts ts ds ρ = some ρ' → ds.length = ts.length
  | [], [], _, _, _ => rfl
  | [], _ :: _, _, _, h => by simp [Tg.puts] at h
  | _ :: _, [], _, _, h => by simp [Tg.puts] at h
  | t :: ts, d :: ds, ρ, ρ', h => by
    cases e1 : t.put (.v d) ρ with
    | none => simp [Tg.puts, e1] at h
    | some ρ1 =>
      simp only [Tg.puts, e1] at h
      simp [puts_len h]
theorem pg_or {tg : Expr} {t t' : TG} (h : PG X tg t) (h' : PG X tg t') : PG X tg (fun v σ H Q => t v σ H Q ∨ t' v σ H Q) := ⟨fun pins s σ H v u Q I r q => by
  rcases q with q | q
  · exact h.run pins s σ H v u Q I r q
  · exact h'.run pins s σ H v u Q I r q⟩
theorem mg_tp {k : Nat} {gs : List Tg} (hK : X.K = T.K) (hc : X.calm = true) (h : MGs X T es gs) (hn : (assignEach es X.env).length = gs.length := by rfl) (hst : (assignEach es X.env).findIdx? (·.1) = none := by rfl) : MG X T (.Tuple es k pos) (.tp gs) :=
  pg_imp (pg_or (pg_tup hc h hn hst) (pg_lst hc h hn hst)) fun v σ H Q ⟨μ, ρ, S, x, ρ', he, hs, r, e, q⟩ => by
    cases x with
    | m n => simp [Tg.put] at e
    | v d =>
      cases d with
      | tup ds =>
        simp only [Tg.put] at e
        simp only [RepA, Rep] at r
        obtain ⟨p', vs, rfl, hh, rl⟩ := r
        exact .inl ⟨p', vs, rfl, hK ▸ hh.sq, by rw [rl.length]; exact puts_len e, μ, ρ, S, ds, ρ', he, hs, rl, e, q⟩
      | lst ds =>
        simp only [Tg.put] at e
        simp only [RepA, Rep] at r
        obtain ⟨p', vs, rfl, hh, rl⟩ := r
        exact .inr ⟨p', vs, rfl, hK ▸ hh.sq, by rw [rl.length]; exact puts_len e, μ, ρ, S, ds, ρ', he, hs, rl, e, q⟩
      | _ => simp [Tg.put] at e
def sAsg (g : Tg) (ma : EM) : SM := fun ρ S => SR.of (ma ρ S) fun x S1 => match g.put x ρ with
  | some ρ' => .nx ρ' S1
  | none => .stk
theorem ms_asg {tg : Expr} {g : Tg} (ha : ME X T W a ma) (hg : MG X T tg g) (hs : swapsWithSole [tg] a pos.line X.env = pure false := by rfl) (hw : swappedStores [tg] a X.env = pure none := by rfl)
    (h1 : (assignEach [tg] X.env).map (·.2) = [assign tg X.env] := by rfl) : MS X T W (.Assign [tg] a pos) (sAsg g ma) := ps_imp (ps_asg ha hg hs hw h1) fun D σ H ⟨μ, ρ, S, he, hs, h⟩ =>
  rdS_e he hs h fun v H1 μ1 S1 x ex he1 hs1 r h1 => by
    cases q : g.put x ρ with
    | none => rw [q] at h1; exact h1.elim
    | some ρ' =>
      rw [q] at h1
      exact ⟨μ1, ρ, S1, x, ρ', he1, hs1, r, q, fun μ' H' σ' ex' hs' he' _ => h1 μ' H' σ' ex' hs' he'⟩
/-- a, b = e1, e2 -/
def sPar (i j : Nat) (r : AM) : SM := fun ρ S => match r ρ S with
  | .ok [x, y] S1 => .nx ((ρ.set i (some x)).set j (some y)) S1
  | .err e S1 => .er e S1
  | _ => .stk
theorem ms_par (i j : Nat) {x y : Str} {px py pt : Pos} {kt k2 : Nat} {pt2 : Pos} (hc : X.calm = true) (hN : X.N.Nodup) (ha : MA X T W [a, b] r)
    (hi : X.N[i]? = some x := by rfl) (hj : X.N[j]? = some y := by rfl) (hij : i ≠ j := by decide) (hx : X.env.scope.names.lookup x = some .local := by rfl) (hy : X.env.scope.names.lookup y = some .local := by rfl)
    (hw : swappedStores [.Tuple [.Name x px, .Name y py] kt pt] (.Tuple [a, b] k2 pt2) X.env = pure (some [x, y]) := by rfl) (hs : swapsWithSole [.Tuple [.Name x px, .Name y py] kt pt] (.Tuple [a, b] k2 pt2) pos.line X.env = pure false := by rfl) :
    MS X T W (.Assign [.Tuple [.Name x px, .Name y py] kt pt] (.Tuple [a, b] k2 pt2) pos) (sPar i j r) := ps_imp (ps_par hc hN hi hj hij hx hy ha hw hs) fun D σ H ⟨μ, ρ, S, he, hs, h⟩ => by
  unfold sPar at h
  refine ⟨μ, ρ, S, he, hs, ?_⟩
  cases q : r ρ S with
  | stk => rw [q] at h; exact h.elim
  | err e S1 => rw [q] at h; exact h
  | ok xs S1 =>
    rw [q] at h
    match xs, h with
    | [], h => exact h.elim
    | [_], h => exact h.elim
    | _ :: _ :: _ :: _, h => exact h.elim
    | [x1, y1], h =>
      intro μ1 H1 vs ex hs1 rs
      obtain ⟨v, w, rfl, r1, r2⟩ := reps2 rs
      exact ⟨v, w, rfl, h μ1 H1 _ ex hs1 (((he.mono ex).set r1).set r2)⟩
/-- o[i] = e on a changing list -/
def sIx (mo mi mv : EM) : SM := fun ρ S => SR.of (mv ρ S) fun x S1 => SR.of (mo ρ S1) fun o S2 => SR.of (mi ρ S2) fun i S3 => match x, o, i with
  | .v d, .m n, .v (.int k) => match S3[n]? with
    | some (.lst ds) => match ixN ds.length k with
      | some j => .nx ρ (S3.set n (.lst (ds.set j d)))
      | none => .stk
    | _ => .stk
  | _, _, _ => .stk
theorem nodup_at {α : Type} {l : List α} (h : l.Nodup) {i j : Nat} {x : α} (a : l[i]? = some x) (b : l[j]? = some x) : i = j := nd_ix h a b
theorem StOk.put {μ : List Addr} {H : Hp} {S : Store} {n : Nat} {p : Addr} {ds : List D} {vs : List V} (k : StOk T μ H S) (hp : μ[n]? = some p) (hn : n < S.length) (r : RepL T μ H ds vs) :
    Ext μ H μ (upd H p (.lst vs)) ∧ StOk T μ (upd H p (.lst vs)) (S.set n (.lst ds)) := by
  have mem : p ∈ μ := List.mem_of_getElem? hp
  have ex : Ext μ H μ (upd H p (.lst vs)) := ⟨⟨[], by simp⟩, fun a o h na => by rw [upd_ne (by rintro rfl; exact na mem)]; exact h, fun a h na => absurd h na⟩
  refine ⟨ex, ⟨by rw [List.length_set]; exact k.len, k.nd, fun i a o h1 h2 => ?_, fun a ha => ?_, T.mono ex k.inv⟩⟩
  · by_cases hi : n = i
    · subst hi
      rw [hp] at h1
      cases h1
      rw [List.getElem?_set_self hn] at h2
      cases h2
      exact ⟨vs, upd_same, r.mono ex⟩
    · rw [List.getElem?_set_ne hi] at h2
      have ne : a ≠ p := by rintro rfl; exact hi (nodup_at k.nd hp h1)
      exact (k.at_ i a o h1 h2).mv ex fun u z => by rw [upd_ne ne]; exact z
  · by_cases hap : a = p
    · subst hap; exact ⟨_, upd_same⟩
    · obtain ⟨o, q⟩ := k.tr a ha
      exact ⟨o, by rw [upd_ne hap]; exact q⟩
theorem ms_ix {o i : Expr} {mo mi mv : EM} {tpos : Pos} (ho : ME X T W o mo) (hi : ME X T W i mi) (ha : ME X T W a mv)
    (hst : ∀ v, assign (.Subscript o i tpos) X.env v = (do
      let ov ← holding [v] (eval o X.env)
      let iv ← holding [v, ov] (eval i X.env)
      standAt tpos
      holding [v, ov, iv] (setItem ov iv v)
      release [v, ov, iv] []) := by intro _; rfl)
    (hs : swapsWithSole [.Subscript o i tpos] a pos.line X.env = pure false := by rfl) (hw : swappedStores [.Subscript o i tpos] a X.env = pure none := by rfl)
    (h1 : (assignEach [.Subscript o i tpos] X.env).map (·.2) = [assign (.Subscript o i tpos) X.env] := by rfl) : MS X T W (.Assign [.Subscript o i tpos] a pos) (sIx mo mi mv) :=
  ps_imp (ps_asg ha (pg_sub ho hi set_list hst) hs hw h1) fun D σ H ⟨μ, ρ, S, he, hs, h⟩ => by
    refine rdS_e he hs h fun v H1 μ1 S1 x ex he1 hs1 rx h1 => ?_
    refine rdS_e he1 hs1 h1 fun ov H2 μ2 S2 y ex2 he2 hs2 ro h2 => ?_
    refine rdS_e he2 hs2 h2 fun iv H3 μ3 S3 z ex3 he3 hs3 ri h3 => ?_
    have ro3 := ro.mono ex3
    have rx3 := (rx.mono ex2).mono ex3
    cases x with
    | m _ => exact h3.elim
    | v d =>
      cases y with
      | v _ => exact h3.elim
      | m n =>
        cases z with
        | m _ => exact h3.elim
        | v dz =>
          cases dz with
          | int k =>
            simp only at h3
            split at h3
            · rename_i ds q
              split at h3
              · rename_i j q2
                obtain ⟨pp, g1, rfl⟩ := ro3
                obtain ⟨vs, g2, g3⟩ := hs3.at_ _ _ _ g1 q
                refine ⟨pp, vs, k, j, rfl, of_int ri, g2, by rw [g3.length]; exact q2, ?_⟩
                have hn : n < S3.length := (List.getElem?_eq_some_iff.mp q).1
                obtain ⟨e1, e2⟩ := hs3.put g1 hn (RepL.set j g3 rx3)
                exact h3 μ3 _ σ e1 e2 (he3.mono e1)
              · exact h3.elim
            · exact h3.elim
          | _ => exact h3.elim
/-! ### what is walked -/
structure Yl (T : Tb) (J : It) (ds : List D) (μ : List Addr) (H : Hp) : Prop where
  step : ∀ μ' H', Ext μ H μ' H' → (∀ a ∈ μ', ∃ o, H' a = some o) → ∀ (i : Nat) d, ds[i]? = some d → J.go i H' ∧ ∀ x H2, J.yld i H' x H2 → Same H' H2 ∧ Rep T μ' H2 d x
  fin : ∀ μ' H', Ext μ H μ' H' → J.stop ds.length H'
abbrev IM := Env → Store → R (List D)
def rdI (T : Tb) (W : XK) (m : IM) : TI := fun σ H Q => ∃ μ ρ S, RepE T μ H ρ σ ∧ StOk T μ H S ∧ Aft T (fun μ H ds J => Yl T J ds μ H) μ H Q W (m ρ S)
abbrev MI (X : Cx) (T : Tb) (W : XK) (tg iter : Expr) (m : IM) : Prop := PI X tg iter (rdI T W m)
theorem pi_imp {tg iter : Expr} {t t' : TI} (h : PI X tg iter t) (k : ∀ σ H Q, t' σ H Q → t σ H Q) : PI X tg iter t' := ⟨fun pins s σ H Q I q => h.run pins s σ H Q I (k σ H Q q)⟩
/-- over a list, a tuple that stands still -/
def iSeq (ma : EM) : IM := fun ρ S => (ma ρ S).bind fun x S1 => match x with
  | .v (.lst ds) => .ok ds S1
  | .v (.fz ds) => .ok ds S1
  | _ => .stk
def iTupM (ma : EM) : IM := fun ρ S => (ma ρ S).bind fun x S1 => match x with
  | .v (.tup ds) => .ok ds S1
  | _ => .stk
theorem yl_list {K : PySem.W.Frag} {p : Addr} {vs : List V} {ds : List D} {μ : List Addr} {H : Hp} (hq : ∀ μ' H', Ext μ H μ' H' → SqL K H' p vs) (rl : RepL T μ H ds vs) : Yl T (Itl K p) ds μ H := by
  refine ⟨fun μ' H' ex _ i d hd => ?_, fun μ' H' ex => ⟨vs, hq _ _ ex, by rw [rl.length]; exact Nat.le_refl _⟩⟩
  obtain ⟨v, e1, r1⟩ := rl.get hd
  refine ⟨⟨vs, v, hq _ _ ex, e1⟩, fun x H2 ⟨e2, k⟩ => ?_⟩
  subst e2
  have z := k vs (hq _ _ ex)
  rw [e1] at z
  cases z
  exact ⟨Same.refl _, r1.mono ex⟩
theorem mi_seq {tg : Expr} (hK : X.K = T.K) (ha : ME X T W a ma) : MI X T W tg a (iSeq ma) := pi_imp (pi_list ha) fun σ H Q ⟨μ, ρ, S, he, hs, h⟩ => by
  refine rd_step he hs h fun v H1 μ1 S1 x ex he1 hs1 r h1 => ?_
  split at h1
  · simp only [RepA, Rep] at r
    obtain ⟨pp, vs, rfl, hh, rl⟩ := r
    exact ⟨pp, rfl, ⟨vs, hh.sq⟩, h1 μ1 H1 _ Ext.refl hs1 (yl_list (fun μ' H' ex' => (hh.mono ex').sq) rl)⟩
  · simp only [RepA, Rep] at r
    obtain ⟨pp, vs, rfl, hh, rl⟩ := r
    exact ⟨pp, rfl, ⟨vs, hK ▸ hh.sq⟩, h1 μ1 H1 _ Ext.refl hs1 (yl_list (fun μ' H' ex' => hK ▸ (hh.mono ex').sq) rl)⟩
  · exact h1.elim
/-- range(n), range(a, b) -/
def rngD (lo : Int) (n : Nat) : List D := (List.range n).map fun (i : Nat) => D.int (lo + (i : Int))
theorem yl_rng {lo : Int} {n : Nat} {μ : List Addr} {H : Hp} : Yl T (Itr lo n) (rngD lo n) μ H := by
  refine ⟨fun μ' H' ex _ i d hd => ?_, fun μ' H' ex => by simp [rngD, Itr]⟩
  unfold rngD at hd
  rw [List.getElem?_map] at hd
  by_cases hi : i < n
  · rw [List.getElem?_range hi] at hd
    cases hd
    refine ⟨hi, fun x H2 ⟨e1, e2⟩ => ?_⟩
    subst e1 e2
    exact ⟨Same.refl _, by simp only [Rep]⟩
  · rw [List.getElem?_eq_none (by simpa using hi)] at hd
    cases hd
def iRng1M (r : AM) : IM := fun ρ S => (r ρ S).bind fun xs S1 => match xs with
  | [.v (.int j)] => if j < 4611686018427387904 ∧ -4611686018427387904 ≤ j then .ok (rngD 0 j.toNat) S1 else .stk
  | _ => .stk
def iRng2M (r : AM) : IM := fun ρ S => (r ρ S).bind fun xs S1 => match xs with
  | [.v (.int i), .v (.int j)] => if j < 4611686018427387904 ∧ -4611686018427387904 ≤ j ∧ i < 4611686018427387904 ∧ -4611686018427387904 ≤ i then .ok (rngD i (j - i).toNat) S1 else .stk
  | _ => .stk
theorem mi_rng1 {tg : Expr} (hg : Gl X "range") (hm : X.mg "range" = none) (ha : MA X T W [a] r) (hs : starEach [a] X.env = [(false, eval a X.env)] := by rfl) : MI X T W tg (.Call (.Name "range" p) [a] [] pos) (iRng1M r) :=
  pi_imp (pi_range1 hg hm ha hs) fun σ H Q ⟨μ, ρ, S, he, hs, h⟩ => by
    refine rdA_step he hs h fun vs H1 μ1 S1 xs ex he1 hs1 rs h1 => ?_
    split at h1
    · split at h1
      · rename_i hb
        obtain ⟨v, rfl, r1⟩ := reps1 rs
        exact ⟨_, by rw [of_int r1], by omega, by omega, h1 μ1 H1 _ Ext.refl hs1 yl_rng⟩
      · exact h1.elim
    · exact h1.elim
/-- a text, sign by sign -/
def signsD (z : Str) : List D := z.cps.toList.map fun c => .str ⟨#[c]⟩
def iStr (ma : EM) : IM := fun ρ S => (ma ρ S).bind fun x S1 => match x with
  | .v (.str z) => .ok (signsD z) S1
  | _ => .stk
end
/-! ### for, while -/
def forL (g : Tg) (m : SM) : List D → SM
  | [], ρ, S => .nx ρ S
  | d :: ds, ρ, S => match g.put (.v d) ρ with
    | none => .stk
    | some ρ1 => match m ρ1 S with
      | .nx ρ2 S2 => forL g m ds ρ2 S2
      | .ct ρ2 S2 => forL g m ds ρ2 S2
      | .bk ρ2 S2 => .nx ρ2 S2
      | .rt a S2 => .rt a S2
      | .er e S2 => .er e S2
      | .stk => .stk
def SR.ofI (r : R (List D)) (k : List D → Store → SR) : SR := match r with
  | .ok a S => k a S
  | .err e S => .er e S
  | .stk => .stk
def sFor (mi : IM) (g : Tg) (m : SM) : SM := fun ρ S => SR.ofI (mi ρ S) fun ds S1 => forL g m ds ρ S1
def whileL (t : TM) (m : SM) : Nat → SM
  | 0, _, _ => .stk
  | n + 1, ρ, S => SR.ofT (t ρ S) fun b S1 => if b = true then match m ρ S1 with
      | .nx ρ2 S2 => whileL t m n ρ2 S2
      | .ct ρ2 S2 => whileL t m n ρ2 S2
      | .bk ρ2 S2 => .nx ρ2 S2
      | .rt a S2 => .rt a S2
      | .er e S2 => .er e S2
      | .stk => .stk
    else .nx ρ S1
section
variable {X : Cx} {T : Tb} {W : XK} {a b c : Expr} {body : List Stmt} {m : SM} {t : TM} {pos : Pos}
theorem ms_for {tg iter : Expr} {mi : IM} {g : Tg} (hp : PassesOwn (model X.prog X.w) X.A X.env X.xe) (hc : X.calm = true) (hi : MI X T W tg iter mi) (hg : MG X T tg g) (hb : MB X T W body m)
    (hs : ∀ x, foldedSetIterable iter X.env x = pure x := by intro _; rfl) : MS X T W (.For tg iter body [] pos) (sFor mi g m) := ps_imp (ps_for hp hc hi hg hb hs) fun D σ H ⟨μ, ρ, S, he, hs, h⟩ => by
  refine ⟨μ, ρ, S, he, hs, ?_⟩
  unfold sFor at h
  cases q : mi ρ S with
  | stk => rw [q] at h; exact h
  | err e S1 => rw [q] at h; exact h
  | ok ds S1 =>
    rw [q] at h
    intro μ1 H1 J ex1 hs1 yl
    have h1 : AftS T μ1 H1 D W (forL g m ds ρ S1) := AftS.later ex1 h
    refine ⟨fun i k σ H => k = ds.length - i ∧ i ≤ ds.length ∧ ∃ μ' ρ' S', Ext μ1 H1 μ' H ∧ StOk T μ' H S' ∧ RepE T μ' H ρ' σ ∧ AftS T μ' H D W (forL g m (ds.drop i) ρ' S'), ⟨ds.length, by simp, Nat.zero_le _, μ1, ρ, S1, Ext.refl, hs1, he.mono ex1, h1⟩, ?_⟩
    rintro i k σ2 H2 ⟨rfl, hi, μ2, ρ2, S2, ex2, hs2, he2, h2⟩
    by_cases hlt : i < ds.length
    · have ed : ds[i]? = some ds[i] := by simp [hlt]
      rw [List.drop_eq_getElem_cons hlt] at h2
      obtain ⟨go, st⟩ := yl.step μ2 H2 ex2 hs2.tr i _ ed
      refine .inr ⟨go, fun σ' H' => ∃ μ' ρ' S', Ext μ1 H1 μ' H' ∧ StOk T μ' H' S' ∧ RepE T μ' H' ρ' σ' ∧ AftS T μ' H' D W (forL g m (ds.drop (i + 1)) ρ' S'), fun σ' H' q => ⟨ds.length - (i + 1), by omega, rfl, hlt, q⟩, fun x H3 y => ?_⟩
      obtain ⟨sm, rx⟩ := st x H3 y
      have ex3 : Ext μ2 H2 μ2 H3 := Ext.grow sm
      unfold forL at h2
      cases q1 : g.put (.v ds[i]) ρ2 with
      | none => rw [q1] at h2; exact h2.elim
      | some ρ3 =>
        rw [q1] at h2
        refine ⟨μ2, ρ2, S2, .v ds[i], ρ3, he2.mono ex3, hs2.grow sm, rx, q1, fun μ4 H4 σ4 ex4 hs4 he4 _ => ⟨μ4, ρ3, S2, he4, hs4, ?_⟩⟩
        have h4 := AftS.later (ex3.trans ex4) h2
        simp only at h4
        have exx := (ex2.trans ex3).trans ex4
        cases q2 : m ρ3 S2 with
        | nx ρ5 S5 => rw [q2] at h4; exact fun μ' H' σ' e1 e2 e3 => ⟨μ', ρ5, S5, exx.trans e1, e2, e3, AftS.later e1 h4⟩
        | ct ρ5 S5 => rw [q2] at h4; exact fun μ' H' σ' e1 e2 e3 => ⟨μ', ρ5, S5, exx.trans e1, e2, e3, AftS.later e1 h4⟩
        | bk ρ5 S5 => rw [q2] at h4; exact h4
        | rt _ _ => rw [q2] at h4; exact h4
        | er _ _ => rw [q2] at h4; exact h4
        | stk => rw [q2] at h4; exact h4
    · have e : i = ds.length := by omega
      subst e
      rw [List.drop_length] at h2
      exact .inl ⟨yl.fin μ2 H2 ex2, h2 μ2 H2 σ2 Ext.refl hs2 he2⟩
end
end L3

set_option Elab.async false
set_option linter.all false
set_option maxRecDepth 100000
set_option maxHeartbeats 2000000
namespace L3
open PySem PySem.Spec PyProof.Rows L2
/-! ### zip of two texts -/
def ItzS (x y : Str) : It :=
  ⟨fun i _ => i < x.cps.size ∧ i < y.cps.size,
    fun i H v H' => ∃ p c d, v = .ref p ∧ H p = none ∧ x.cps[i]? = some c ∧ y.cps[i]? = some d ∧ H' = upd H p (.tup [.str ⟨#[c]⟩, .str ⟨#[d]⟩]),
    fun i _ => min x.cps.size y.cps.size = i⟩
/-- where the zip of two texts stands -/
def zipAtS (x y : Str) (t u : Tok) (z TI TO i1 i2 : Addr) (i : Nat) (h : Heap) : Prop :=
  IsZip h z TI TO .none ∧ IsTupOf2 h TI (.ref i1) (.ref i2) ∧ (∃ a1 a2, IsTupOf2 h TO a1 a2) ∧ h.IsStrIter i1 (strIterType x) x t i ∧ h.IsStrIter i2 (strIterType y) y u i
theorem turn_zipS {P : Program} {w : World} {K : PySem.W.Frag} {elts : List Expr} {kk : Nat} {tpos : Pos} {x y : Str} {t u : Tok} {z TI TO i1 i2 : Addr} (D : ZipSep2 z TI TO i1 i2 [i1] [i2]) :
    Turn P w K (.Tuple elts kk tpos) (ItzS x y) (z :: TI :: TO :: ([i1] ++ [i2])) z (zipAtS x y t u z TI TO i1 i2) where
  mem := by simp
  obj := fun i h st c hc => by
    obtain ⟨hz, hTI, ⟨a1, a2, hTO⟩, ⟨o1, e1, _, d1⟩, ⟨o2, e2, _, d2⟩⟩ := st
    have e' : c = z ∨ c = TI ∨ c = TO ∨ c = i1 ∨ c = i2 := by simpa using hc
    rcases e' with q | q | q | q | q
    · rw [q]; exact ⟨_, hz, fun v r => by cases r⟩
    · rw [q]; exact ⟨_, hTI, fun v r => by cases r⟩
    · rw [q]; exact ⟨_, hTO, fun v r => by cases r⟩
    · rw [q]; exact ⟨o1, e1, fun v r => by rw [d1] at r; cases r⟩
    · rw [q]; exact ⟨o2, e2, fun v r => by rw [d2] at r; cases r⟩
  keep := fun i h h' st k => by
    obtain ⟨hz, hTI, ⟨a1, a2, hTO⟩, ⟨o1, e1, c1, d1⟩, ⟨o2, e2, c2, d2⟩⟩ := st
    exact ⟨k z (by simp) _ hz, k TI (by simp) _ hTI, ⟨a1, a2, k TO (by simp) _ hTO⟩, ⟨o1, k i1 (by simp) o1 e1, c1, d1⟩, ⟨o2, k i2 (by simp) o2 e2, c2, d2⟩⟩
  item := by
    intro X hP hw hK hc i pins s σ H E I hf st hg
    subst hP hw hK
    have G := GoesN.zip2 (prog := X.prog) (w := X.w) (A := X.A) (elts := elts) (x1 := kk) (pos := tpos) D (Draws.text (A := X.A.in1) (I.ok.hd hc) i1 x t) (Draws.text (A := X.A.in1) (I.ok.hd hc) i2 y u)
    have hlt : ∀ c ∈ (z :: TI :: TO :: ([i1] ++ [i2])), c < s.heap.objs.size := fun c hcm => by
      obtain ⟨hz, hTI, ⟨a1, a2, hTO⟩, ⟨o1, e1, _⟩, ⟨o2, e2, _⟩⟩ := st
      have e' : c = z ∨ c = TI ∨ c = TO ∨ c = i1 ∨ c = i2 := by simpa using hcm
      rcases e' with q | q | q | q | q
      · rw [q]; exact Heap.lt_size hz
      · rw [q]; exact Heap.lt_size hTI
      · rw [q]; exact Heap.lt_size hTO
      · rw [q]; exact Heap.lt_size e1
      · rw [q]; exact Heap.lt_size e2
    refine G.goes i s _ E (Nat.lt_min.mpr hg) st fun v h' tk hY st' keep htk => ?_
    obtain ⟨p, vx, vy, rfl, hnew, ⟨c, tc, hx, rfl⟩, ⟨d, td, hy, rfl⟩, op, hop, hcp, nn, hdp⟩ := hY
    have hpn : H p = none := I.hok.fresh hnew
    have new : ObjOk X.prog X.w (upd H p (.tup [.str ⟨#[c]⟩, .str ⟨#[d]⟩])) h' p (.tup [.str ⟨#[c]⟩, .str ⟨#[d]⟩]) :=
      ⟨by show 2 ≤ sizeLine; decide, [_, _], .cons ⟨tc, rfl⟩ (.cons ⟨td, rfl⟩ .nil), ⟨op, hop, hcp, nn, hdp⟩⟩
    have I1 : Inv X pins σ (upd H p (.tup [.str ⟨#[c]⟩, .str ⟨#[d]⟩])) { s with heap := h', toks := tk } :=
      I.turnedNew (ch := z :: TI :: TO :: ([i1] ++ [i2])) (fun b o hb q => keep b o (fun m => hb (by
        have e' : b = z ∨ b = TO ∨ b = i1 ∨ b = i2 := by simpa using m
        rcases e' with q | q | q | q <;> simp [q])) q) hf hnew new
    refine ⟨.ref p, _, I1, rfl, ⟨p, c, d, rfl, hpn, hx, hy, rfl⟩, st', fun b hb => ?_⟩
    rw [upd_ne (Nat.ne_of_lt (Nat.lt_of_lt_of_le (hlt b hb) hnew))]
    exact (hf b hb).1
  done := by
    intro X hP hw hK hc i pins s σ H E I hf st hg
    subst hP hw hK
    have G := GoesN.zip2 (prog := X.prog) (w := X.w) (A := X.A) (elts := elts) (x1 := kk) (pos := tpos) D (Draws.text (A := X.A.in1) (I.ok.hd hc) i1 x t) (Draws.text (A := X.A.in1) (I.ok.hd hc) i2 y u)
    have hg' : min x.cps.size y.cps.size = i := hg
    refine G.stops s _ E (by rw [hg']; exact st) fun h' tk keep htk => ?_
    exact I.turnedL (ch := z :: TI :: TO :: ([i1] ++ [i2])) (fun b o hb q => keep b o (fun m => hb (by
        have e' : b = z ∨ b = TO ∨ b = i1 ∨ b = i2 := by simpa using m
        rcases e' with q | q | q | q <;> simp [q])) q) hf
  self := fun A i s Q E st h => wpAny_pyIter_zip st.1 h
def iZipS (ta : TA) : TI := fun σ H R => ta σ H fun vs H1 => ∃ x y, vs = [.str x, .str y] ∧ R (ItzS x y) H1
theorem pi_zipS {X : Cx} {e e2 : Expr} {ta : TA} {p pos tpos : Pos} {elts : List Expr} {kk : Nat} (hg : Gl X "zip") (hm : X.mg "zip" = none) (ha : PA X [e, e2] ta)
    (hs : starEach [e, e2] X.env = (false, eval e X.env) :: starEach [e2] X.env := by rfl) (hpl : (backTo pos (starEach [e2] X.env)).any (·.1) = false := by rfl) :
    PI X (.Tuple elts kk tpos) (.Call (.Name "zip" p) [e, e2] [] pos) (iZipS ta) := by
  refine ⟨fun pins s σ H R I h => ?_⟩
  refine Call_ (ld_blt I hg hm PyProof.Rows.boot_zip (PyProof.Rows.callWith_type1 (thn (ha.run pos pins s σ H _ I h) fun us s1 ⟨vs, H1, I1, r1, q1⟩ => ?_) hs hpl))
  obtain ⟨x, y, ex, q⟩ := q1
  subst ex
  obtain ⟨u1, u2, rfl, ⟨t, rfl⟩, ⟨u, rfl⟩⟩ := vals2 r1
  refine zip_begins2 (begins_text x t) (begins_text y u) trivial trivial fun h' hz hTI hTO h1 h2 hsz hk => wpAny_pyIter_zip hz ?_
  have I2 : Inv X pins σ H1 { s1 with heap := h' } := I1.kept (t' := s1.toks) hk
  refine ⟨s1.heap.objs.size + 4, _, _, _, H1, rfl, I2, turn_zipS (t := t) (u := u) (zip_sep2 (N := s1.heap.objs.size) (fp1 := []) (fp2 := []) (by simp) (by simp)), ⟨hz, hTI, ⟨_, _, hTO⟩, ⟨_, h1, rfl, rfl⟩, ⟨_, h2, rfl, rfl⟩⟩, fun c hcm => ?_, q⟩
  have e' : c = s1.heap.objs.size + 4 ∨ c = s1.heap.objs.size + 2 ∨ c = s1.heap.objs.size + 3 ∨ c = s1.heap.objs.size ∨ c = s1.heap.objs.size + 1 := by simpa using hcm
  have hle : s1.heap.objs.size ≤ c := by
    rcases e' with z | z | z | z | z
    · rw [z]; exact Nat.le_add_right _ _
    · rw [z]; exact Nat.le_add_right _ _
    · rw [z]; exact Nat.le_add_right _ _
    · rw [z]; exact Nat.le_refl _
    · rw [z]; exact Nat.le_add_right _ _
  exact I1.fpOk hle (I1.hok.fresh hle)
end L3

set_option Elab.async false
set_option linter.all false
set_option maxRecDepth 100000
set_option maxHeartbeats 2000000
namespace L3
open PySem PySem.Spec PyProof.Rows L2
section
variable {X : Cx} {T : Tb} {W : XK} {a b c e elt : Expr} {es : List Expr} {ma : EM} {r : AM} {pos p tpos : Pos} {elts : List Expr} {kk : Nat}
theorem mi_str {tg : Expr} (ha : ME X T W a ma) : MI X T W tg a (iStr ma) := pi_imp (pi_str ha) fun σ H Q ⟨μ, ρ, S, he, hs, h⟩ => by
  refine rd_step he hs h fun v H1 μ1 S1 x ex he1 hs1 r h1 => ?_
  split at h1
  · rename_i z
    refine ⟨z, of_str r, h1 μ1 H1 _ Ext.refl hs1 ⟨fun μ' H' ex _ i d hd => ?_, fun μ' H' ex => by simp [signsD, Its]⟩⟩
    unfold signsD at hd
    rw [List.getElem?_map] at hd
    cases q : z.cps.toList[i]? with
    | none => rw [q] at hd; cases hd
    | some cc =>
      rw [q] at hd
      cases hd
      have q' : z.cps[i]? = some cc := by simpa using q
      refine ⟨(Array.getElem?_eq_some_iff.mp q').1, fun x H2 ⟨e1, c2, e2, e3⟩ => ?_⟩
      subst e1 e3
      rw [q'] at e2
      cases e2
      exact ⟨Same.refl _, by simp only [Rep]⟩
  · exact h1.elim
/-- zip -/
def zipD (xs ys : List D) : List D := (xs.zip ys).map fun p => .tup [p.1, p.2]
def zipOf : List A → Option (List D)
  | [.v (.str x), .v (.str y)] => some (zipD (signsD x) (signsD y))
  | [.v (.lst x), .v (.lst y)] => some (zipD x y)
  | [.v (.tup x), .v (.tup y)] => some (zipD x y)
  | _ => none
def iZipM (r : AM) : IM := fun ρ S => (r ρ S).bind fun xs S1 => match zipOf xs with
  | some ds => .ok ds S1
  | none => .stk
theorem zipD_at {xs ys : List D} {i : Nat} {d : D} (h : (zipD xs ys)[i]? = some d) : ∃ x y, xs[i]? = some x ∧ ys[i]? = some y ∧ d = .tup [x, y] := by
  unfold zipD at h
  rw [List.getElem?_map] at h
  cases q : (xs.zip ys)[i]? with
  | none => rw [q] at h; cases h
  | some p =>
    rw [q] at h
    cases h
    rw [List.getElem?_zip_eq_some] at q
    exact ⟨_, _, q.1, q.2, rfl⟩
theorem rep_pair {μ : List Addr} {H : Hp} {S : Store} {x y : D} {v w : V} {p : Addr} (nm : p ∉ μ) (hp : H p = none) (rx : Rep T μ H x v) (ry : Rep T μ H y w) : Same H (upd H p (.tup [v, w])) ∧ Rep T μ (upd H p (.tup [v, w])) (.tup [x, y]) (.ref p) := by
  have sm : Same H (upd H p (.tup [v, w])) := same_upd hp
  refine ⟨sm, ?_⟩
  simp only [Rep, RepL]
  exact ⟨p, _, rfl, .inl ⟨nm, .inl upd_same⟩, v, [w], rfl, rx.mono (Ext.grow sm), w, [], rfl, ry.mono (Ext.grow sm), rfl⟩
theorem mi_zip {X : Cx} {W : XK} (hK : X.K = T.K) (hg : Gl X "zip") (hm : X.mg "zip" = none) (ha : MA X T W [a, b] r)
    (hs : starEach [a, b] X.env = (false, eval a X.env) :: starEach [b] X.env := by rfl) (hpl : (backTo pos (starEach [b] X.env)).any (·.1) = false := by rfl) :
    MI X T W (.Tuple elts kk tpos) (.Call (.Name "zip" p) [a, b] [] pos) (iZipM r) := pi_imp (PI.or (pi_zipS hg hm ha hs hpl) (RZ.pi_zipA hg hm ha hs hpl)) fun σ H Q ⟨μ, ρ, S, he, hst, h⟩ => by
  unfold iZipM at h
  cases q : r ρ S with
  | stk => rw [q] at h; exact h.elim
  | err e1 S1 => rw [q] at h; exact .inl ⟨μ, ρ, S, he, hst, by rw [q]; exact h⟩
  | ok xs S1 =>
    rw [q] at h
    simp only [R.bind_ok] at h
    cases q2 : zipOf xs with
    | none => rw [q2] at h; exact h.elim
    | some ds =>
      rw [q2] at h
      unfold zipOf at q2
      split at q2
      · cases q2
        refine .inl ⟨μ, ρ, S, he, hst, ?_⟩
        rw [q]
        intro μ1 H1 vs ex hs1 rs
        obtain ⟨v, w, rfl, r1, r2⟩ := reps2 rs
        rw [of_str r1, of_str r2]
        refine ⟨_, _, rfl, h μ1 H1 _ ex hs1 ⟨fun μ' H' ex' tr i d hd => ?_, fun μ' H' ex' => by simp [zipD, signsD, ItzS]⟩⟩
        obtain ⟨x, y, hx, hy, rfl⟩ := zipD_at hd
        unfold signsD at hx hy
        rw [List.getElem?_map] at hx hy
        rename_i sx sy
        cases g1 : sx.cps.toList[i]? with
        | none => rw [g1] at hx; cases hx
        | some c1 =>
          cases g2 : sy.cps.toList[i]? with
          | none => rw [g2] at hy; cases hy
          | some c2 =>
            rw [g1] at hx
            rw [g2] at hy
            cases hx
            cases hy
            have g1' : sx.cps[i]? = some c1 := by simpa using g1
            have g2' : sy.cps[i]? = some c2 := by simpa using g2
            refine ⟨⟨(Array.getElem?_eq_some_iff.mp g1').1, (Array.getElem?_eq_some_iff.mp g2').1⟩, fun x H2 ⟨pp, c, d, e1, e2, e3, e4, e5⟩ => ?_⟩
            rw [g1'] at e3
            rw [g2'] at e4
            cases e3
            cases e4
            subst e1 e5
            exact rep_pair (S := S) (fun m => by obtain ⟨o, z⟩ := tr _ m; rw [e2] at z; cases z) e2 (by simp only [Rep]) (by simp only [Rep])
      · cases q2
        refine .inr ⟨μ, ρ, S, he, hst, ?_⟩
        rw [q]
        intro μ1 H1 vs ex hs1 rs
        obtain ⟨v, w, rfl, r1, r2⟩ := reps2 rs
        simp only [RepA, Rep] at r1 r2
        obtain ⟨p1, vs1, rfl, g1, l1⟩ := r1
        obtain ⟨p2, vs2, rfl, g2, l2⟩ := r2
        refine ⟨p1, p2, vs1, vs2, rfl, .inl ⟨g1.sq, g2.sq, h μ1 H1 _ ex hs1 ⟨fun μ' H' ex' tr i d hd => ?_, fun μ' H' ex' => ⟨vs1, vs2, (g1.mono ex').sq, (g2.mono ex').sq, by rw [l1.length, l2.length]; simp [zipD]; omega⟩⟩⟩⟩
        obtain ⟨x, y, hx, hy, rfl⟩ := zipD_at hd
        obtain ⟨v1, f1, rx⟩ := l1.get hx
        obtain ⟨v2, f2, ry⟩ := l2.get hy
        refine ⟨⟨vs1, vs2, v1, v2, (g1.mono ex').sq, (g2.mono ex').sq, f1, f2⟩, fun x H2 ⟨pp, c, d, e1, e2, e3, e4, e5⟩ => ?_⟩
        have z1 := e4 vs1 (g1.mono ex').sq
        have z2 := e5 vs2 (g2.mono ex').sq
        rw [f1] at z1
        rw [f2] at z2
        cases z1
        cases z2
        subst e1 e3
        exact rep_pair (S := S) (fun m => by obtain ⟨o, z⟩ := tr _ m; rw [e2] at z; cases z) e2 (rx.mono ex') (ry.mono ex')
      · cases q2
        refine .inr ⟨μ, ρ, S, he, hst, ?_⟩
        rw [q]
        intro μ1 H1 vs ex hs1 rs
        obtain ⟨v, w, rfl, r1, r2⟩ := reps2 rs
        simp only [RepA, Rep] at r1 r2
        obtain ⟨p1, vs1, rfl, g1, l1⟩ := r1
        obtain ⟨p2, vs2, rfl, g2, l2⟩ := r2
        refine ⟨p1, p2, vs1, vs2, rfl, .inr ⟨hK ▸ g1.sq, hK ▸ g2.sq, h μ1 H1 _ ex hs1 ⟨fun μ' H' ex' tr i d hd => ?_, fun μ' H' ex' => ⟨vs1, vs2, hK ▸ (g1.mono ex').sq, hK ▸ (g2.mono ex').sq, by rw [l1.length, l2.length]; simp [zipD]; omega⟩⟩⟩⟩
        obtain ⟨x, y, hx, hy, rfl⟩ := zipD_at hd
        obtain ⟨v1, f1, rx⟩ := l1.get hx
        obtain ⟨v2, f2, ry⟩ := l2.get hy
        refine ⟨⟨vs1, vs2, v1, v2, hK ▸ (g1.mono ex').sq, hK ▸ (g2.mono ex').sq, f1, f2⟩, fun x H2 ⟨pp, c, d, e1, e2, e3, e4, e5⟩ => ?_⟩
        have z1 := e4 vs1 (hK ▸ (g1.mono ex').sq)
        have z2 := e5 vs2 (hK ▸ (g2.mono ex').sq)
        rw [f1] at z1
        rw [f2] at z2
        cases z1
        cases z2
        subst e1 e3
        exact rep_pair (S := S) (fun m => by obtain ⟨o, z⟩ := tr _ m; rw [e2] at z; cases z) e2 (rx.mono ex') (ry.mono ex')
      · cases q2
end
/-! ### list comprehensions -/
def wipeE (ρ : Env) : List Nat → Env
  | [] => ρ
  | v :: vs => (wipeE ρ vs).set v none
/-- the turns; the new list stands at n in the store -/
def lcL (g : Tg) (t : TM) (m : EM) (ρ : Env) (n : Nat) : List D → Store → R Unit
  | [], S => .ok () S
  | d :: ds, S => match g.put (.v d) ρ with
    | none => .stk
    | some ρ1 => match t ρ1 S with
      | .ok true S1 => match m ρ1 S1 with
        | .ok (.v y) S2 => match S2[n]? with
          | some (.lst acc) => if S2.length = n + 1 ∧ acc.length < strMax then lcL g t m ρ n ds (S2.set n (.lst (acc ++ [y]))) else .stk
          | _ => .stk
        | _ => .stk
      | .ok false S1 => lcL g t m ρ n ds S1
      | _ => .stk
def eLc (own : List Nat) (mi : IM) (g : Tg) (t : TM) (m : EM) : EM := fun ρ S => (mi ρ S).bind fun ds S1 => match lcL g t m (wipeE ρ own) S1.length ds (S1 ++ [.lst []]) with
  | .ok _ S2 => match S2[S1.length]? with
    | some (.lst acc) => if S2.length = S1.length + 1 then .ok (.v (.lst acc)) (S2.take S1.length) else .stk
    | _ => .stk
  | _ => .stk
def tYesM : TM := fun _ S => .ok true S
abbrev MTs (X : Cx) (T : Tb) (W : XK) (e : List Expr) (m : TM) : Prop := PTs X e (rdT T W m)
section
variable {X : Cx} {T : Tb} {W : XK} {a b c e elt : Expr} {es : List Expr} {ma m : EM} {t : TM} {r : AM} {pos p tpos : Pos} {elts : List Expr} {kk : Nat}
theorem pts_imp {t t' : TT} (h : PTs X es t) (k : ∀ σ H Q, t' σ H Q → t σ H Q) : PTs X es t' := ⟨fun pins s σ H Q I q => h.run pins s σ H Q I (k σ H Q q)⟩
theorem mts_nil : MTs X T W [] tYesM := pts_imp pts_nil fun σ H Q ⟨μ, ρ, S, he, hs, h⟩ => h μ H true Ext.refl hs rfl
/-- nothing is raised in a comprehension's block -/
abbrev W0 : XK := fun _ _ _ => False
theorem wipe_rep {μ : List Addr} {H : Hp} {ρ : Env} {σ : L2.St} (h : RepE T μ H ρ σ) : ∀ vs, RepE T μ H (wipeE ρ vs) (wipe σ vs)
  | [] => h
  | v :: vs => by
    have ih := wipe_rep h vs
    refine ⟨by simp [wipeE, wipe, ih.len], fun i x e => ?_⟩
    unfold wipeE at e
    unfold wipe
    by_cases hi : v = i
    · subst hi
      have hl : v < (wipeE ρ vs).length := by
        have := (List.getElem?_eq_some_iff.mp e).1
        simpa using this
      rw [List.getElem?_set_self hl] at e
      cases e
    · rw [List.getElem?_set_ne hi] at e ⊢
      exact ih.at_ i x e
theorem wipe_off {σ σ' : L2.St} {vs : List Nat} (h : OffE vs σ σ') : wipe σ' vs = wipe σ vs := by
  apply List.ext_getElem?
  intro i
  by_cases hi : i ∈ vs
  · have key : ∀ (τ : L2.St) (vs : List Nat), i ∈ vs → (wipe τ vs)[i]? = if i < τ.length then some none else none := by
      intro τ vs
      induction vs with
      | nil => intro h; cases h
      | cons v vs ih =>
        intro hm
        unfold wipe
        by_cases hv : v = i
        · subst hv
          by_cases hl : v < τ.length
          · rw [List.getElem?_set_self (by rw [wipe_length]; exact hl), if_pos hl]
          · rw [List.getElem?_eq_none (by rw [List.length_set, wipe_length]; omega), if_neg hl]
        · rw [List.getElem?_set_ne hv]
          rcases List.mem_cons.mp hm with z | z
          · exact absurd z.symm hv
          · exact ih z
    rw [key _ _ hi, key _ _ hi, h.1]
  · rw [wipe_out hi, wipe_out hi]
    exact h.2 i hi
theorem wipe_idem (σ : L2.St) : ∀ vs, wipe (wipe σ vs) vs = wipe σ vs := fun vs => by
  apply wipe_off
  exact ⟨wipe_length σ vs, fun j hj => wipe_out hj⟩
mutual
theorem rep_lessD {μ : List Addr} {t : List Addr} {H : Hp} : ∀ {d : D} {v : V}, Rep T (μ ++ t) H d v → Rep T μ H d v
  | .non, _, h => by simpa only [Rep] using h
  | .bl _, _, h => by simpa only [Rep] using h
  | .int _, _, h => by simpa only [Rep] using h
  | .str _, _, h => by simpa only [Rep] using h
  | .cls _, _, h => by simpa only [Rep] using h
  | .ty _, _, h => by simpa only [Rep] using h
  | .adr _, _, h => by simpa only [Rep] using h
  | .fn i, _, h => by
    simp only [Rep] at h ⊢
    obtain ⟨f, c', dV, e1, n, h1, n2, h2, h3⟩ := h
    refine ⟨f, c', dV, e1, fun m => n (List.mem_append_left _ m), h1, fun m => n2 (List.mem_append_left _ m), h2, ?_⟩
    rcases h3 with h3 | ⟨dt, e3, n3, h3⟩
    · exact .inl h3
    · exact .inr ⟨dt, e3, fun m => n3 (List.mem_append_left _ m), h3⟩
  | .tup ds, v, h => by
    simp only [Rep] at h ⊢
    obtain ⟨a, vs, e1, h1, h2⟩ := h
    refine ⟨a, vs, e1, ?_, rep_lessL h2⟩
    rcases h1 with ⟨n, h1⟩ | h1
    · exact .inl ⟨fun m => n (List.mem_append_left _ m), h1⟩
    · exact .inr h1
  | .lst ds, v, h => by
    simp only [Rep] at h ⊢
    obtain ⟨a, vs, e1, h1, h2⟩ := h
    exact ⟨a, vs, e1, ⟨fun m => h1.1 (List.mem_append_left _ m), h1.2⟩, rep_lessL h2⟩
  | .dic ks ds, v, h => by
    simp only [Rep] at h ⊢
    obtain ⟨a, vs, e1, h1, h2⟩ := h
    exact ⟨a, vs, e1, ⟨fun m => h1.1 (List.mem_append_left _ m), h1.2⟩, rep_lessL h2⟩
  | .fz ds, v, h => by
    simp only [Rep] at h ⊢
    obtain ⟨a, vs, e1, h1, h2⟩ := h
    refine ⟨a, vs, e1, ?_, rep_lessL h2⟩
    rcases h1 with ⟨n, h1⟩ | h1
    · exact .inl ⟨fun m => n (List.mem_append_left _ m), h1⟩
    · exact .inr h1
  | .obj k fs, v, h => by
    simp only [Rep] at h ⊢
    obtain ⟨a, dx, vfs, e1, n, h1, h2⟩ := h
    exact ⟨a, dx, vfs, e1, fun m => n (List.mem_append_left _ m), h1, rep_lessF h2⟩
  | .exc k fs, v, h => by
    simp only [Rep] at h ⊢
    obtain ⟨a, dx, vfs, e1, ⟨n, h1, n2, h3⟩, h2⟩ := h
    exact ⟨a, dx, vfs, e1, ⟨fun m => n (List.mem_append_left _ m), h1, fun m => n2 (List.mem_append_left _ m), h3⟩, rep_lessF h2⟩
  | .dnk ks xs, v, h => by
    simp only [Rep] at h ⊢
    obtain ⟨a, o, ws, us, e1, ⟨n, h1, h2⟩, h3, h4⟩ := h
    exact ⟨a, o, ws, us, e1, ⟨fun m => n (List.mem_append_left _ m), h1, h2⟩, rep_lessL h3, rep_lessL h4⟩
theorem rep_lessL {μ : List Addr} {t : List Addr} {H : Hp} : ∀ {ds : List D} {vs : List V}, RepL T (μ ++ t) H ds vs → RepL T μ H ds vs
  | [], _, h => by simpa only [RepL] using h
  | d :: ds, vs, h => by
    simp only [RepL] at h ⊢
    obtain ⟨v, ws, e1, h1, h2⟩ := h
    exact ⟨v, ws, e1, rep_lessD h1, rep_lessL h2⟩
theorem rep_lessF {μ : List Addr} {t : List Addr} {H : Hp} : ∀ {ds : List (Str × D)} {vs : List (Str × V)}, RepF T (μ ++ t) H ds vs → RepF T μ H ds vs
  | [], _, h => by simpa only [RepF] using h
  | (f, d) :: ds, vs, h => by
    simp only [RepF] at h ⊢
    obtain ⟨v, ws, e1, h1, h2⟩ := h
    exact ⟨v, ws, e1, rep_lessD h1, rep_lessF h2⟩
end
/-- the store without its last list -/
theorem StOk.drop {μ : List Addr} {H : Hp} {S : Store} {p : Addr} {acc : List D} (k : StOk T (μ ++ [p]) H S) (hn : S.length = μ.length + 1) (hl : S[μ.length]? = some (.lst acc)) (hi : T.I μ H) :
    StOk T μ H (S.take μ.length) ∧ ∃ vs, H p = some (.lst vs) ∧ RepL T (μ ++ [p]) H acc vs := by
  have np : p ∉ μ := fun m => by
    have := k.nd
    rw [List.nodup_append] at this
    exact this.2.2 p m p (by simp) rfl
  have gp : (μ ++ [p])[μ.length]? = some p := by rw [List.getElem?_append_right (Nat.le_refl _)]; simp
  refine ⟨⟨by rw [List.length_take]; omega, (List.nodup_append.mp k.nd).1, fun i a o h1 h2 => ?_, fun a ha => k.tr a (List.mem_append_left _ ha), hi⟩, k.at_ _ _ _ gp hl⟩
  have hi : i < μ.length := (List.getElem?_eq_some_iff.mp h1).1
  rw [List.getElem?_take_of_lt hi] at h2
  have q := k.at_ i a o (by rw [List.getElem?_append_left hi]; exact h1) h2
  cases o with
  | lst ds =>
    obtain ⟨vs, q1, q2⟩ := q
    exact ⟨vs, q1, rep_lessL q2⟩
  | dic kvs =>
    obtain ⟨vs, q1, q2⟩ := q
    exact ⟨vs, q1, rep_lessL q2⟩
  | lok kvs =>
    obtain ⟨od, vs, q1, q2⟩ := q
    exact ⟨od, vs, q1, rep_lessL q2⟩
  | x kd ks xs =>
    obtain ⟨u, ws, us, q1, q2, q3, q4⟩ := q
    exact ⟨u, ws, us, q1, q2, rep_lessL q3, rep_lessL q4⟩
  | ins c fs =>
    obtain ⟨dx, vfs, q1, q2⟩ := q
    exact ⟨dx, vfs, q1, rep_lessF q2⟩
  | tab P nm =>
    obtain ⟨ps, q0, q1, q2, q3⟩ := q
    refine ⟨ps, q0, q1, q2, fun pos cv hc => ?_⟩
    obtain ⟨c, z1, z2, z3⟩ := q3 pos cv hc
    exact ⟨c, z1, fun m => z2 (List.mem_append_left _ m), z3⟩
end
end L3

set_option Elab.async false
set_option linter.all false
set_option maxRecDepth 100000
set_option maxHeartbeats 2000000
namespace L3
open PySem PySem.Spec PyProof.Rows L2
theorem pre_full {μ1 μ' : List Addr} {D : Addr} {n : Nat} (h : ∃ t, μ' = (μ1 ++ [D]) ++ t) (hl : μ'.length = μ1.length + 1) : μ' = μ1 ++ [D] := by
  obtain ⟨t, rfl⟩ := h
  have : t.length = 0 := by
    rw [List.length_append, List.length_append, List.length_singleton] at hl
    omega
  rw [List.eq_nil_of_length_eq_zero this, List.append_nil]
/-- the answer of a comprehension's turns -/
theorem lc_reading {T : Tb} {W : XK} {mi : IM} {g : Tg} {t : TM} {m : EM} {vs : List Nat} (hsl : ∀ j ∈ g.sl, j ∈ vs) : ∀ σ H Q, rd T W (eLc vs mi g t m) σ H Q → tLc (rdI T W mi) (rdG T g) (rdT T W0 t) (rd T W0 m) vs σ H Q := by
  rintro σ H Q ⟨μ, ρ, S, he, hs, h⟩
  unfold eLc at h
  refine ⟨μ, ρ, S, he, hs, ?_⟩
  cases q : mi ρ S with
  | stk => rw [q] at h; exact h.elim
  | err e1 S1 => rw [q] at h; exact h
  | ok ds S1 =>
    rw [q] at h
    simp only [R.bind_ok] at h
    intro μ1 H1 J ex1 hs1 yl D hD
    cases qr : lcL g t m (wipeE ρ vs) S1.length ds (S1 ++ [.lst []]) with
    | stk => rw [qr] at h; exact h.elim
    | err e2 S2 => rw [qr] at h; exact h.elim
    | ok u Sf =>
      rw [qr] at h
      obtain ⟨exn, hsn, _⟩ := newMut (ds := []) (vs := []) hs1 (by simp only [RepL]) hD
      have nD : D ∉ μ1 := hs1.free hD
      have len1 : S1.length = μ1.length := hs1.len.symm
      have atD : ∀ {μ' : List Addr}, μ' = μ1 ++ [D] → μ'[S1.length]? = some D := fun e => by
        rw [e, len1, List.getElem?_append_right (Nat.le_refl _)]; simp
      refine ⟨fun i k H' => k = ds.length - i ∧ i ≤ ds.length ∧ ∃ μ' S', Ext (μ1 ++ [D]) (upd H1 D (.lst [])) μ' H' ∧ StOk T μ' H' S' ∧ lcL g t m (wipeE ρ vs) S1.length (ds.drop i) S' = .ok u Sf, ⟨ds.length, by simp, Nat.zero_le _, _, _, Ext.refl, hsn, qr⟩, ?_⟩
      rintro i k H2 ⟨rfl, hi, μ2, S2, ex2, hs2, e2⟩
      by_cases hlt : i < ds.length
      · have ed : ds[i]? = some ds[i] := by simp [hlt]
        rw [List.drop_eq_getElem_cons hlt] at e2
        obtain ⟨go, st⟩ := yl.step μ2 H2 (exn.trans ex2) hs2.tr i _ ed
        refine .inr ⟨go, fun H' => ∃ μ' S', Ext (μ1 ++ [D]) (upd H1 D (.lst [])) μ' H' ∧ StOk T μ' H' S' ∧ lcL g t m (wipeE ρ vs) S1.length (ds.drop (i + 1)) S' = .ok u Sf, fun H' q => ⟨ds.length - (i + 1), by omega, rfl, hlt, q⟩, fun x H3 y => ?_⟩
        obtain ⟨sm, rx⟩ := st x H3 y
        have ex3 : Ext μ2 H2 μ2 H3 := Ext.grow sm
        unfold lcL at e2
        cases q1 : g.put (.v ds[i]) (wipeE ρ vs) with
        | none => rw [q1] at e2; cases e2
        | some ρ1 =>
          rw [q1] at e2
          simp only at e2
          refine ⟨μ2, wipeE ρ vs, S2, .v ds[i], ρ1, wipe_rep ((((he.mono ex1).mono exn).mono ex2).mono ex3) vs, hs2.grow sm, rx, q1, fun μ4 H4 σ4 ex4 hs4 he4 off => ⟨?_, ?_⟩⟩
          · rw [wipe_off (off.sub hsl), wipe_idem]
          · refine ⟨μ4, ρ1, S2, he4, hs4, ?_⟩
            cases q2 : t ρ1 S2 with
            | stk => rw [q2] at e2; cases e2
            | err _ _ => rw [q2] at e2; cases e2
            | ok b S3 =>
              rw [q2] at e2
              intro μ5 H5 b' ex5 hs5 eb
              subst eb
              have exx := ((ex2.trans ex3).trans ex4).trans ex5
              cases b with
              | false =>
                refine iteF ⟨μ5, S3, exx, hs5, e2⟩
              | true =>
                refine iteT ⟨μ5, ρ1, S3, he4.mono ex5, hs5, ?_⟩
                simp only at e2
                cases q3 : m ρ1 S3 with
                | stk => rw [q3] at e2; cases e2
                | err _ _ => rw [q3] at e2; cases e2
                | ok w S4 =>
                  rw [q3] at e2
                  cases w with
                  | m _ => cases e2
                  | v yd =>
                    simp only at e2
                    split at e2
                    · rename_i acc qa
                      split at e2
                      · rename_i hc
                        intro μ6 H6 v ex6 hs6 ry
                        have exy := exx.trans ex6
                        have eμ : μ6 = μ1 ++ [D] := pre_full (n := 0) exy.pre (by rw [hs6.len, hc.1, len1])
                        obtain ⟨us, g1, g2⟩ := hs6.at_ _ _ _ (atD eμ) qa
                        refine ⟨us, g1, by rw [g2.length]; exact Nat.lt_of_lt_of_le hc.2 (strMax_line (Nat.le_refl _)), μ6, _, ?_, ?_, e2⟩
                        · obtain ⟨x1, x2⟩ := hs6.put (atD eμ) (by omega) (g2.app (RepL.one ry))
                          exact exy.trans x1
                        · obtain ⟨x1, x2⟩ := hs6.put (atD eμ) (by omega) (g2.app (RepL.one ry))
                          exact x2
                      · cases e2
                    · cases e2
      · have e : i = ds.length := by omega
        subst e
        rw [List.drop_length] at e2
        simp only [lcL] at e2
        cases e2
        refine .inl ⟨yl.fin μ2 H2 (exn.trans ex2), ?_⟩
        simp only at h
        split at h
        · rename_i acc qa
          split at h
          · rename_i hl
            have eμ : μ2 = μ1 ++ [D] := pre_full (n := 0) ex2.pre (by rw [hs2.len, hl, len1])
            subst eμ
            rw [len1] at hl qa h
            have e12 : Ext μ1 H1 μ1 H2 := ⟨⟨[], by simp⟩, fun a o ha na => by
              have naD : a ≠ D := ne_of_none ha hD
              exact ex2.keep a o (by rw [upd_ne naD]; exact ha) (fun mm => by
                rcases List.mem_append.mp mm with z | z
                · exact na z
                · exact naD (List.mem_singleton.mp z)), fun a ha na => absurd ha na⟩
            obtain ⟨hs3, us, g1, g2⟩ := StOk.drop hs2 hl qa (T.mono e12 hs1.inv)
            refine h μ1 H2 (.ref D) (ex1.trans e12) hs3 ?_
            · simp only [RepA, Rep]
              exact ⟨D, us, rfl, ⟨nD, g1⟩, rep_lessL g2⟩
          · exact h.elim
        · exact h.elim
section
variable {X : Cx} {T : Tb} {W : XK} {elt tg iter : Expr} {ifs : List Expr} {scope : Scope} {own : List (Str × Nat)} {mi : IM} {g : Tg} {t : TM} {m : EM} {pos spos py : Pos}
theorem me_lc (hc : X.calm = true) (hN : X.N.Nodup) (ok : BlkOk X.N X.env.scope scope own) (hi : MI X T W tg iter mi)
    (hg : ∀ (s : Shared) (H : Hp) (C : Addr) (cl : List (Str × Addr)) (fp : List Addr), MG (X.blk s H scope (compEnvC scope cl C X.env) fp) T tg g) (ht : ∀ (s : Shared) (H : Hp) (C : Addr) (cl : List (Str × Addr)) (fp : List Addr), MTs (X.blk s H scope (compEnvC scope cl C X.env) fp) T W0 ifs t)
    (he : ∀ (s : Shared) (H : Hp) (C : Addr) (cl : List (Str × Addr)) (fp : List Addr), ME (X.blk s H scope (compEnvC scope cl C X.env) fp) T W0 elt m) (hsl : ∀ j ∈ g.sl, j ∈ own.map (·.2) := by decide) (hs : ∀ x, foldedSetIterable iter X.env x = pure x := by intro _; rfl) :
    ME X T W (.ListComp elt [⟨tg, iter, ifs, 0⟩] scope pos) (eLc (own.map (·.2)) mi g t m) := pe_imp (pe_lc hc hN hi ok hg ht he hs) (lc_reading hsl)
end
end L3

set_option Elab.async false
set_option linter.all false
set_option maxRecDepth 100000
set_option maxHeartbeats 2000000
namespace L3
open PySem PySem.Spec PyProof.Rows L2
def SR.toR : SR → R A
  | .nx _ S => .ok (.v .non) S
  | .rt a S => .ok a S
  | .er e S => .err e S
  | _ => .stk
/-- a def of n parameters and l names by its body -/
def bodyM (n l : Nat) (m : SM) : FM := fun xs S => if xs.length = n then (m (xs.map some ++ List.replicate (l - n) none) S).toR else .stk
theorem start_rep {T : Tb} {μ : List Addr} {H : Hp} {N : List Str} {xs : List A} {vs : List V} (r : RepAs T μ H xs vs) : RepE T μ H (xs.map some ++ List.replicate (N.length - xs.length) none) (L2.start N vs) := by
  have hl := r.length
  refine ⟨by unfold L2.start; simp [hl], fun i x e => ?_⟩
  have key : ∀ {xs : List A} {vs : List V} {i : Nat} {x : A}, RepAs T μ H xs vs → xs[i]? = some x → ∃ v, vs[i]? = some v ∧ RepA T μ H x v := by
    intro xs
    induction xs with
    | nil => intro vs i x _ e; simp at e
    | cons y ys ih =>
      rintro vs i x ⟨v, ws, rfl, h1, h2⟩ e
      cases i with
      | zero => simp at e; subst e; exact ⟨v, rfl, h1⟩
      | succ i => simp at e; simpa using ih h2 e
  by_cases hi : i < xs.length
  · rw [List.getElem?_append_left (by simpa using hi), List.getElem?_map] at e
    cases q : xs[i]? with
    | none => rw [q] at e; cases e
    | some y =>
      rw [q] at e
      cases e
      obtain ⟨v, e1, r1⟩ := key r q
      refine ⟨v, ?_, r1⟩
      unfold L2.start
      rw [List.getElem?_append_left (by simp; omega), List.getElem?_map, e1]
      rfl
  · rw [List.getElem?_append_right (by simpa using hi), List.getElem?_replicate] at e
    split at e <;> cases e
theorem spD_len {T : Tb} {n l : Nat} {m : SM} {vs : List V} {H : Hp} {Q : VK} {E : XK} (h : spD T (bodyM n l m) vs H Q E) : vs.length = n := by
  obtain ⟨μ, S, xs, r, hs, h⟩ := h
  unfold bodyM at h
  split at h
  · rename_i e
    rw [r.length, e]
  · exact h.elim
section
variable {P : Program} {w : World} {T : Tb} {mg : Str → Option Value} {base : Heap}
theorem fd_of {x qual : Str} {st : Stmt} {f : Addr} {fd : FuncData} {N ps : List Str} {k : Nat} {m : SM} (F : Fun T.K x qual st f fd) (S : FnScope N ps (defScope st))
    (hbody : ∀ (cdv : Value) (A : Around) (outer : List PySem.Env) (s : Shared) (H : Hp) (E : XK), Room k (A.deeper (envOfC qual (defScope st) s.heap.objs.size f cdv)) →
      Lv (cxOf (CXB T.nn P w) P w T.K mg base N qual (defScope st) f cdv A outer s H E) T E → PassesOwn (model P w) (A.deeper (envOfC qual (defScope st) s.heap.objs.size f cdv)) (envOfC qual (defScope st) s.heap.objs.size f cdv) (cxOf (CXB T.nn P w) P w T.K mg base N qual (defScope st) f cdv A outer s H E).xe →
      MB (cxOf (CXB T.nn P w) P w T.K mg base N qual (defScope st) f cdv A outer s H E) T E (defBody st) m) : FD P w T mg base (k + 1) f fd ps (bodyM ps.length N.length m) := by
  obtain ⟨oc, od, kV, doc, pm, an, cdv, ct, osl, rfl, lk, hcd⟩ := F.ex
  refine fn_of lk hcd S (fun vs H Q E h => spD_len h) fun A outer s H vs Q E hr h => ?_
  have tk : TkB T.nn (cxOf (CXB T.nn P w) P w T.K mg base N qual (defScope st) f cdv A outer s H E) (fun c d _ H => E c d H) := tkB_of rfl rfl rfl rfl
  refine ⟨_, hbody cdv A outer s H E hr ⟨rfl, tk⟩ (passes_of (K := fun e s'' => CXB T.nn P w outer H s E e s'') rfl), ?_⟩
  obtain ⟨μ, St, xs, r, hs, h⟩ := h
  unfold bodyM at h
  split at h
  · rename_i e
    refine ⟨μ, xs.map some ++ List.replicate (N.length - ps.length) none, St, ?_, hs, ?_⟩
    · rw [← e]; exact start_rep r
    · cases q : m (xs.map some ++ List.replicate (N.length - ps.length) none) St with
      | nx ρ' S' => rw [q] at h; exact fun μ' H' σ' ex hs' he' => h μ' H' .non ex hs' ra_non
      | rt a S' => rw [q] at h; exact h
      | er e S' => rw [q] at h; exact h
      | bk _ _ => rw [q] at h; exact h.elim
      | ct _ _ => rw [q] at h; exact h.elim
      | stk => rw [q] at h; exact h.elim
  · exact h.elim
end
def eCall (fM : FM) (r : AM) : EM := fun ρ S => (r ρ S).bind fun xs S1 => fM xs S1
section
variable {X : Cx} {T : Tb} {W : XK} {e a b c : Expr} {es : List Expr} {ma mv : EM} {r : AM} {pos p apos tpos : Pos} {x m : Str} {k j : Nat} {f : Addr} {fd : FuncData} {ps : List Str} {fM : FM} {dvs : List V} {ds : List Value} {dd : List A}
/-- defaults: their values as data -/
def Dfl (T : Tb) (dd : List A) (dvs : List V) : Prop := ∀ μ H, RepAs T μ H dd dvs
theorem reps_app {μ : List Addr} {H : Hp} : ∀ {xs ys : List A} {vs ws : List V}, RepAs T μ H xs vs → RepAs T μ H ys ws → RepAs T μ H (xs ++ ys) (vs ++ ws)
  | [], _, _, _, h, g => by
    have e : _ = [] := h
    subst e
    exact g
  | x :: xs, ys, _, ws, ⟨v, us, rfl, h1, h2⟩, g => ⟨v, us ++ ws, rfl, h1, reps_app h2 g⟩
def eCallD (fM : FM) (dd : List A) (r : AM) : EM := fun ρ S => (r ρ S).bind fun xs S1 => fM (xs ++ dd) S1
theorem me_call (L : Lv X T W) (F : FnOk X.prog X.w X.K X.mg X.base (CXB T.nn X.prog X.w) k f fd ps (spD T fM)) (hr : Room k X.A) (hg : Gl X x) (hm : X.mg x = some (.ref f)) (hk : PySem.W.keepIn X.K (.ref f) = true) (hb : Binds X.K fd ps [])
    (ha : MA X T W (e :: es) r) (hdb : (x == ("__debug__" : Str)) = false := by decide) (he : starEach (e :: es) X.env = (false, eval e X.env) :: starEach es X.env := by rfl) (hpl : (backTo pos (starEach es X.env)).any (·.1) = false := by rfl) :
    ME X T W (.Call (.Name x p) (e :: es) [] pos) (eCall fM r) := pe_imp (pe_call (E := W) (dvs := []) F hr hg hm hk hb .nil L.pass ha hdb he hpl) fun σ H Q ⟨μ, ρ, S, hE, hs, h⟩ => by
  refine rdA_step hE hs h fun vs H1 μ1 S1 xs ex he1 hs1 rs h1 => ?_
  refine ⟨μ1, S1, xs, ?_, hs1, h1⟩
  rw [List.append_nil]; exact rs
/-! ### fields -/
def putD (f : Str) (d : D) : List (Str × D) → List (Str × D)
  | [] => [(f, d)]
  | (g, e) :: r => if g = f then (g, d) :: r else (g, e) :: putD f d r
theorem putD_rep {μ : List Addr} {H : Hp} {f : Str} {d : D} {v : V} (r : Rep T μ H d v) : ∀ {fs : List (Str × D)} {vfs : List (Str × V)}, RepF T μ H fs vfs → RepF T μ H (putD f d fs) (putF f v vfs)
  | [], vfs, h => by
    simp only [RepF] at h
    subst h
    simp only [putD, RepF]
    exact ⟨v, [], rfl, r, rfl⟩
  | (g, e) :: fs, vfs, h => by
    simp only [RepF] at h
    obtain ⟨w, ws, rfl, h1, h2⟩ := h
    unfold putD putF
    by_cases q : g = f
    · rw [if_pos q, if_pos q]
      simp only [RepF]
      exact ⟨v, ws, rfl, r, h2⟩
    · rw [if_neg q, if_neg q]
      simp only [RepF]
      exact ⟨w, _, rfl, h1, putD_rep r h2⟩
theorem lookF_rep {μ : List Addr} {H : Hp} {f : Str} : ∀ {fs : List (Str × D)} {vfs : List (Str × V)}, RepF T μ H fs vfs → (∀ d, fs.lookup f = some d → ∃ v, vfs.lookup f = some v ∧ Rep T μ H d v) ∧ (fs.lookup f = none → vfs.lookup f = none)
  | [], vfs, h => by
    simp only [RepF] at h
    subst h
    exact ⟨fun d e => (by cases e), fun _ => rfl⟩
  | (g, e) :: fs, vfs, h => by
    simp only [RepF] at h
    obtain ⟨w, ws, rfl, h1, h2⟩ := h
    have ih := lookF_rep (f := f) h2
    rw [List.lookup_cons, List.lookup_cons]
    cases q : f == g with
    | true => exact ⟨fun d e' => by cases e'; exact ⟨w, rfl, h1⟩, fun e' => by cases e'⟩
    | false => exact ih
theorem lenF_rep {μ : List Addr} {H : Hp} : ∀ {fs : List (Str × D)} {vfs : List (Str × V)}, RepF T μ H fs vfs → vfs.length = fs.length
  | [], vfs, h => by simp only [RepF] at h; subst h; rfl
  | (g, e) :: fs, vfs, h => by
    simp only [RepF] at h
    obtain ⟨w, ws, rfl, h1, h2⟩ := h
    simp [lenF_rep h2]
/-- an instance: its class and attributes -/
def insOf : A → Store → Option (Nat × List (Str × D))
  | .v (.obj k fs), _ => some (k, fs)
  | .m n, S => match S[n]? with
    | some (.ins k fs) => some (k, fs)
    | _ => none
  | _, _ => none
theorem insOf_sound {μ : List Addr} {H : Hp} {S : Store} {y : A} {v : V} {k : Nat} {fs : List (Str × D)} (hs : StOk T μ H S) (r : RepA T μ H y v) (e : insOf y S = some (k, fs)) : ∃ p dx vfs, v = .ref p ∧ H p = some (.ins (T.cA k) dx vfs) ∧ RepF T μ H fs vfs := by
  unfold insOf at e
  split at e
  · cases e
    simp only [RepA, Rep] at r
    obtain ⟨p, dx, vfs, e1, _, h, rf⟩ := r
    exact ⟨p, dx, vfs, e1, h, rf⟩
  · split at e
    · rename_i q
      cases e
      obtain ⟨p, h1, h2⟩ := r
      obtain ⟨dx, vfs, h3, h4⟩ := hs.at_ _ _ _ h1 q
      exact ⟨p, dx, vfs, h2, h3, h4⟩
    · cases e
  · cases e
def eFld (ks : List Nat) (f : Str) (ma : EM) : EM := fun ρ S => (ma ρ S).bind fun x S1 => match insOf x S1 with
  | some (k, fs) => if k ∈ ks then match fs.lookup f with
      | some d => .ok (.v d) S1
      | none => .stk
    else .stk
  | none => .stk
theorem me_fld {ks : List Nat} {f : Str} (hK : X.K = T.K) (hc : ∀ k ∈ ks, Cls T.K (T.cA k) ∧ NoAttr T.K (T.cA k) f) (ha : ME X T W a ma) (hb : attributeBase a f X.env (eval a X.env) = eval a X.env := by rfl) : ME X T W (.Attribute a f pos) (eFld ks f ma) :=
  pe_imp (pe_fld ha hb) fun σ H Q ⟨μ, ρ, S, he, hs, h⟩ => by
    refine rd_step he hs h fun v H1 μ1 S1 y ex he1 hs1 ry h1 => ?_
    cases q : insOf y S1 with
    | none => rw [q] at h1; exact h1.elim
    | some kf =>
      obtain ⟨k, fs⟩ := kf
      rw [q] at h1
      simp only at h1
      split at h1
      · rename_i hk
        split at h1
        · rename_i d qd
          obtain ⟨p', dx, vfs, rfl, g1, g2⟩ := insOf_sound hs1 ry q
          obtain ⟨w, l1, rw'⟩ := (lookF_rep g2).1 _ qd
          exact ⟨p', _, dx, vfs, w, rfl, g1, hK ▸ (hc k hk).1, hK ▸ (hc k hk).2, l1, h1 μ1 H1 w Ext.refl hs1 rw'⟩
        · exact h1.elim
      · exact h1.elim
/-- o.f = e on an instance that is being made -/
def sFldM (ks : List Nat) (f : Str) (mo mv : EM) : SM := fun ρ S => SR.of (mv ρ S) fun x S1 => SR.of (mo ρ S1) fun o S2 => match x, o with
  | .v d, .m n => match S2[n]? with
    | some (.ins k fs) => if k ∈ ks ∧ fs.length < 100 then .nx ρ (S2.set n (.ins k (putD f d fs))) else .stk
    | _ => .stk
  | _, _ => .stk
theorem StOk.putI {μ : List Addr} {H : Hp} {S : Store} {n : Nat} {p dx : Addr} {k : Nat} {fs : List (Str × D)} {vfs : List (Str × V)} (st : StOk T μ H S) (hp : μ[n]? = some p) (hn : n < S.length) (r : RepF T μ H fs vfs) :
    Ext μ H μ (upd H p (.ins (T.cA k) dx vfs)) ∧ StOk T μ (upd H p (.ins (T.cA k) dx vfs)) (S.set n (.ins k fs)) := by
  have mem : p ∈ μ := List.mem_of_getElem? hp
  have ex : Ext μ H μ (upd H p (.ins (T.cA k) dx vfs)) := ⟨⟨[], by simp⟩, fun a o h na => by rw [upd_ne (by rintro rfl; exact na mem)]; exact h, fun a h na => absurd h na⟩
  refine ⟨ex, ⟨by rw [List.length_set]; exact st.len, st.nd, fun i a o h1 h2 => ?_, fun a ha => ?_, T.mono ex st.inv⟩⟩
  · by_cases hi : n = i
    · subst hi
      rw [hp] at h1
      cases h1
      rw [List.getElem?_set_self hn] at h2
      cases h2
      exact ⟨dx, vfs, upd_same, r.mono ex⟩
    · rw [List.getElem?_set_ne hi] at h2
      have ne : a ≠ p := by rintro rfl; exact hi (nodup_at st.nd hp h1)
      exact (st.at_ i a o h1 h2).mv ex fun u z => by rw [upd_ne ne]; exact z
  · by_cases hap : a = p
    · subst hap; exact ⟨_, upd_same⟩
    · obtain ⟨o, q⟩ := st.tr a ha
      exact ⟨o, by rw [upd_ne hap]; exact q⟩
theorem ms_fld {ks : List Nat} {f : Str} {mo : EM} (hK : X.K = T.K) (hc : ∀ k ∈ ks, Cls T.K (T.cA k) ∧ NoAttr T.K (T.cA k) f) (ha : ME X T W a mo) (hv : ME X T W b mv) (hs : swapsWith b (some (.Attribute a f p)) pos.line X.env = pure false := by rfl) :
    MS X T W (.Assign [.Attribute a f p] b pos) (sFldM ks f mo mv) := ps_imp (ps_fld ha hv hs) fun D σ H ⟨μ, ρ, S, he, hs, h⟩ => by
  refine rdS_e he hs h fun v H1 μ1 S1 x ex he1 hs1 rx h1 => ?_
  refine rdS_e he1 hs1 h1 fun ov H2 μ2 S2 y ex2 he2 hs2 ro h2 => ?_
  have rx2 := rx.mono ex2
  cases x with
  | m _ => exact h2.elim
  | v d =>
    cases y with
    | v _ => exact h2.elim
    | m n =>
      simp only at h2
      split at h2
      · rename_i k fs q
        split at h2
        · rename_i hk
          obtain ⟨p', g1, rfl⟩ := ro
          obtain ⟨dx, vfs, g2, g3⟩ := hs2.at_ _ _ _ g1 q
          refine ⟨p', _, dx, vfs, rfl, g2, hK ▸ (hc k hk.1).1, hK ▸ (hc k hk.1).2, by rw [lenF_rep g3]; omega, ?_⟩
          have hn : n < S2.length := (List.getElem?_eq_some_iff.mp q).1
          obtain ⟨e1, e2⟩ := StOk.putI (k := k) (dx := dx) hs2 g1 hn (putD_rep (f := f) rx2 g3)
          exact h2 μ2 _ σ e1 e2 (he2.mono e1)
        · exact h2.elim
      · exact h2.elim
/-! ### methods, properties, instances -/
def eMeth (k : Nat) (m : Str) (fM : FM) (mo : EM) (r : AM) : EM := fun ρ S => (mo ρ S).bind fun o S1 => match insOf o S1 with
  | some (k', fs) => if k' = k ∧ (fs.lookup m).isNone = true then (r ρ S1).bind fun xs S2 => fM (o :: xs) S2 else .stk
  | none => .stk
theorem isNone_eq {α : Type} {o : Option α} (h : o.isNone = true) : o = none := by cases o <;> first | rfl | cases h
theorem eMeth_rd {mo : EM} : ∀ σ H Q, rd T W (eMeth k m fM mo r) σ H Q → tMeth (T.cA k) m (spD T fM) [] W (rd T W mo) (rdA T W r) σ H Q := fun σ H Q ⟨μ, ρ, S, he, hs, h⟩ => by
  refine rd_step he hs h fun v H1 μ1 S1 y ex he1 hs1 ry h1 => ?_
  cases q : insOf y S1 with
  | none => rw [q] at h1; exact h1.elim
  | some kf =>
    obtain ⟨k', fs⟩ := kf
    rw [q] at h1
    simp only at h1
    split at h1
    · rename_i hk
      obtain ⟨rfl, hl⟩ := hk
      obtain ⟨p', dx, vfs, rfl, g1, g2⟩ := insOf_sound hs1 ry q
      refine ⟨p', dx, vfs, rfl, g1, (lookF_rep g2).2 (isNone_eq hl), ?_⟩
      refine rdA_step he1 hs1 h1 fun vs H2 μ2 S2 xs ex2 he2 hs2 rs h2 => ?_
      exact ⟨μ2, S2, y :: xs, ⟨_, _, rfl, ry.mono ex2, by rw [List.append_nil]; exact rs⟩, hs2, h2⟩
    · exact h1.elim
theorem me_meth {o : Expr} {mo : EM} {pl : Sem Bool} (L : Lv X T W) (ho : ME X T W o mo) (cc : Cls X.K (T.cA k)) (hm : Meth X.K (T.cA k) m f) (F : FnOk X.prog X.w X.K X.mg X.base (CXB T.nn X.prog X.w) j f fd ps (spD T fM)) (hr : Room j X.A) (hb : Binds X.K fd ps []) (ha : MA X T W (e :: es) r)
    (hst : starEach (e :: es) X.env = (false, eval e X.env) :: starEach es X.env := by rfl) (hpl : (backTo pos (starEach es X.env)).any (·.1) = false := by rfl)
    (ht : eval (.Call (.Attribute o m apos) (e :: es) [] pos) X.env = (do
      let ov ← eval o X.env
      standAt apos.atName
      let (f, first) ← holding [ov] (getMethod ov m pl)
      callWith pos f first (backTo pos (starEach (e :: es) X.env)) (backToKw pos (keywordEach [] X.env))) := by rfl) :
    ME X T W (.Call (.Attribute o m apos) (e :: es) [] pos) (eMeth k m fM mo r) := pe_imp (pe_meth (E := W) (dvs := []) ho cc hm F hr hb .nil L.pass ha hst hpl ht) eMeth_rd
/-- e.f, a property that raises nothing -/
def eProp (k : Nat) (fM : FM) (mo : EM) : EM := fun ρ S => (mo ρ S).bind fun o S1 => match insOf o S1 with
  | some (k', _) => if k' = k then match fM [o] S1 with
      | .ok x S2 => .ok x S2
      | _ => .stk
    else .stk
  | none => .stk
/-- C(..): the new instance, its __init__, then it stands still -/
def mkR (k n : Nat) : R A → R A
  | .ok (.v .non) S2 => match S2[n]? with
    | some (.ins k' fs) => if k' = k ∧ S2.length = n + 1 then .ok (.v (.obj k fs)) (S2.take n) else .stk
    | _ => .stk
  | .err e S2 => if S2.length = n + 1 then match S2[n]? with
    | some (.ins _ _) => .err e (S2.take n)
    | _ => .stk
    else .stk
  | _ => .stk
def eMake (k : Nat) (fM : FM) (r : AM) : EM := fun ρ S => (r ρ S).bind fun xs S1 => mkR k S1.length (fM (.m S1.length :: xs) (S1 ++ [.ins k []]))
theorem newIns {μ : List Addr} {H : Hp} {S : Store} {p dx : Addr} {k : Nat} (hs : StOk T μ H S) (hp : H p = none) (hd : H dx = none) (ne : dx ≠ p) :
    Ext μ H (μ ++ [p]) (upd (upd H dx (.own p)) p (.ins (T.cA k) dx [])) ∧ StOk T (μ ++ [p]) (upd (upd H dx (.own p)) p (.ins (T.cA k) dx [])) (S ++ [.ins k []]) ∧ RepA T (μ ++ [p]) (upd (upd H dx (.own p)) p (.ins (T.cA k) dx [])) (.m S.length) (.ref p) := by
  have sm : Same H (upd (upd H dx (.own p)) p (.ins (T.cA k) dx [])) := fun b o e => by
    rw [upd_ne (ne_of_none e hp), upd_ne (ne_of_none e hd)]; exact e
  have np := hs.free hp
  have ex : Ext μ H (μ ++ [p]) (upd (upd H dx (.own p)) p (.ins (T.cA k) dx [])) := ⟨⟨[p], rfl⟩, fun a o h _ => sm a o h, fun a h n => by
    rcases List.mem_append.mp h with h | h
    · exact absurd h n
    · rw [List.mem_singleton.mp h]; exact hp⟩
  have gl : (μ ++ [p])[S.length]? = some p := by rw [← hs.len, List.getElem?_append_right (Nat.le_refl _)]; simp
  refine ⟨ex, ⟨by simp [hs.len], ?_, fun i a o h1 h2 => ?_, fun a ha => ?_, T.mono ex hs.inv⟩, ⟨p, gl, rfl⟩⟩
  · rw [List.nodup_append]
    exact ⟨hs.nd, by simp, fun a ha b hb => by rw [List.mem_singleton.mp hb]; rintro rfl; exact np ha⟩
  · by_cases hi : i < S.length
    · rw [List.getElem?_append_left (by rw [hs.len]; exact hi)] at h1
      rw [List.getElem?_append_left hi] at h2
      exact (hs.at_ i a o h1 h2).mv ex fun u => sm _ u
    · rw [List.getElem?_append_right (by omega)] at h2
      have e1 : i - S.length = 0 := by
        have := (List.getElem?_eq_some_iff.mp h2).1
        simpa using this
      have e2 : i = S.length := by omega
      subst e2
      rw [gl] at h1
      simp at h2
      cases h1
      subst h2
      exact ⟨dx, [], upd_same, by simp only [RepF]⟩
  · rcases List.mem_append.mp ha with h | h
    · obtain ⟨o, q⟩ := hs.tr a h
      exact ⟨o, sm _ _ q⟩
    · rw [List.mem_singleton.mp h]; exact ⟨_, upd_same⟩
theorem StOk.less {μ : List Addr} {H : Hp} {S : Store} {p : Addr} (st : StOk T (μ ++ [p]) H S) (hn : S.length = μ.length + 1) (hi : T.I μ H) : StOk T μ H (S.take μ.length) := by
  refine ⟨by rw [List.length_take]; omega, (List.nodup_append.mp st.nd).1, fun i a o h1 h2 => ?_, fun a ha => st.tr a (List.mem_append_left _ ha), hi⟩
  have hi : i < μ.length := (List.getElem?_eq_some_iff.mp h1).1
  rw [List.getElem?_take_of_lt hi] at h2
  have q := st.at_ i a o (by rw [List.getElem?_append_left hi]; exact h1) h2
  cases o with
  | lst ds =>
    obtain ⟨vs, q1, q2⟩ := q
    exact ⟨vs, q1, rep_lessL q2⟩
  | dic kvs =>
    obtain ⟨vs, q1, q2⟩ := q
    exact ⟨vs, q1, rep_lessL q2⟩
  | lok kvs =>
    obtain ⟨od, vs, q1, q2⟩ := q
    exact ⟨od, vs, q1, rep_lessL q2⟩
  | x kd ks xs =>
    obtain ⟨u, ws, us, q1, q2, q3, q4⟩ := q
    exact ⟨u, ws, us, q1, q2, rep_lessL q3, rep_lessL q4⟩
  | ins c fs =>
    obtain ⟨dx, vfs, q1, q2⟩ := q
    exact ⟨dx, vfs, q1, rep_lessF q2⟩
  | tab P nm =>
    obtain ⟨ps, q0, q1, q2, q3⟩ := q
    refine ⟨ps, q0, q1, q2, fun pos cv hc => ?_⟩
    obtain ⟨c, z1, z2, z3⟩ := q3 pos cv hc
    exact ⟨c, z1, fun m => z2 (List.mem_append_left _ m), z3⟩
theorem make_aft {k : Nat} {μ1 : List Addr} {H1 : Hp} {S1 : Store} {Q : VK} {xs : List A} {vs : List V} {x dx : Addr} {c : R A} (hs1 : StOk T μ1 H1 S1) (hx : H1 x = none) (hdx : H1 dx = none) (ne : dx ≠ x) (rs : RepAs T μ1 H1 xs vs)
    (h1 : Aft T (fun μ H => RepA T μ H) μ1 H1 Q W (mkR k S1.length c)) : ∃ μ2, StOk T μ2 (upd (upd H1 dx (.own x)) x (.ins (T.cA k) dx [])) (S1 ++ [.ins k []]) ∧ RepAs T μ2 (upd (upd H1 dx (.own x)) x (.ins (T.cA k) dx [])) (.m S1.length :: xs) (.ref x :: vs) ∧
      Aft T (fun μ H => RepA T μ H) μ2 (upd (upd H1 dx (.own x)) x (.ins (T.cA k) dx [])) (fun v H3 => v = .non ∧ Q (.ref x) H3) W c := by
  obtain ⟨exn, hsn, rn⟩ := newIns (k := k) hs1 hx hdx ne
  refine ⟨μ1 ++ [x], hsn, ⟨_, _, rfl, rn, rs.mono exn⟩, ?_⟩
  have nx : x ∉ μ1 := hs1.free hx
  have back : ∀ {H' : Hp}, Ext (μ1 ++ [x]) (upd (upd H1 dx (.own x)) x (.ins (T.cA k) dx [])) (μ1 ++ [x]) H' → Ext μ1 H1 μ1 H' := fun {H'} ex2 => ⟨⟨[], by simp⟩, fun a o ha na => by
    have nax : a ≠ x := ne_of_none ha hx
    exact ex2.keep a o (by rw [upd_ne nax, upd_ne (ne_of_none ha hdx)]; exact ha) (fun mm => by
      rcases List.mem_append.mp mm with z | z
      · exact na z
      · exact nax (List.mem_singleton.mp z)), fun a ha na => absurd ha na⟩
  cases c with
  | stk => exact h1.elim
  | err e S2 =>
    unfold mkR at h1
    simp only at h1
    split at h1
    · rename_i hl
      split at h1
      · intro μ2 H2 cls d ex2 hs2 re
        have eμ : μ2 = μ1 ++ [x] := pre_full (n := 0) ex2.pre (by rw [hs2.len, hl, ← hs1.len])
        subst eμ
        rw [← hs1.len] at hl h1
        refine h1 μ1 H2 cls d (back ex2) (hs2.less hl (T.mono (back ex2) hs1.inv)) ?_
        obtain ⟨e1, dd', vfs, e2, n2, e3, e4⟩ := re
        exact ⟨e1, dd', vfs, e2, fun m => n2 (List.mem_append_left _ m), e3, rep_lessF e4⟩
      · exact h1.elim
    · exact h1.elim
  | ok w S2 =>
    cases w with
    | m _ => exact h1.elim
    | v dv =>
      cases dv with
      | non =>
        unfold mkR at h1
        simp only at h1
        split at h1
        · rename_i k' fs q
          split at h1
          · rename_i hk
            obtain ⟨rfl, hl⟩ := hk
            intro μ2 H2 v ex2 hs2 rv
            refine ⟨of_non rv, ?_⟩
            have eμ : μ2 = μ1 ++ [x] := pre_full (n := 0) ex2.pre (by rw [hs2.len, hl, ← hs1.len])
            subst eμ
            rw [← hs1.len] at hl h1 q
            have gp : (μ1 ++ [x])[μ1.length]? = some x := by rw [List.getElem?_append_right (Nat.le_refl _)]; simp
            obtain ⟨dx2, vfs, g1, g2⟩ := hs2.at_ _ _ _ gp q
            refine h1 μ1 H2 (.ref x) (back ex2) (hs2.less hl (T.mono (back ex2) hs1.inv)) ?_
            simp only [RepA, Rep]
            exact ⟨x, dx2, vfs, rfl, nx, g1, rep_lessF g2⟩
          · exact h1.elim
        · exact h1.elim
      | _ => exact h1.elim
theorem eMake_rd : ∀ σ H Q, rd T W (eMake k fM r) σ H Q → tMake (T.cA k) (spD T fM) [] W (rdA T W r) σ H Q := fun σ H Q ⟨μ, ρ, S, he, hs, h⟩ => by
  refine rdA_step he hs h fun vs H1 μ1 S1 xs ex he1 hs1 rs h1 => ?_
  intro x dx hx hdx ne
  obtain ⟨μ2, g1, g2, g3⟩ := make_aft hs1 hx hdx ne rs h1
  exact ⟨μ2, _, _, by rw [List.append_nil]; exact g2, g1, g3⟩
theorem me_make {fI : Addr} (L : Lv X T W) (M : Mk X.K (T.cA k) fI) (F : FnOk X.prog X.w X.K X.mg X.base (CXB T.nn X.prog X.w) j fI fd ps (spD T fM)) (hr : Room (j + 1) X.A) (hg : Gl X x) (hm : X.mg x = some (.ref (T.cA k))) (hb : Binds X.K fd ps []) (ha : MA X T W (e :: es) r)
    (hdb : (x == ("__debug__" : Str)) = false := by decide) (he : starEach (e :: es) X.env = (false, eval e X.env) :: starEach es X.env := by rfl) (hpl : (backTo pos (starEach es X.env)).any (·.1) = false := by rfl) :
    ME X T W (.Call (.Name x p) (e :: es) [] pos) (eMake k fM r) := pe_imp (pe_make (E := W) (dvs := []) M F hr hg hm hb .nil L.pass ha hdb he hpl) eMake_rd
end
end L3

set_option Elab.async false
set_option linter.all false
set_option maxRecDepth 100000
set_option maxHeartbeats 2000000
namespace L3
open PySem PySem.Spec PyProof.Rows L2 NdefX
/-! ### own errors: super().__init__() first, then fields -/
def cellV (K : PySem.W.Frag) (cc : Addr) : Option Value := match K.lookup cc with
  | some ⟨_, _, .cell (some v), _⟩ => some v
  | _ => none
def fileV (K : PySem.W.Frag) (c : Addr) (main : Str) : Bool := match K.lookup c with
  | some ⟨_, _, .fields vs, _⟩ => (match vs[2]? with
    | some (Value.str g _) => main == g
    | _ => false)
  | _ => false
theorem cellV_at {K : PySem.W.Frag} {h : Heap} (X : K.In h) {cc : Addr} {v : Value} (e : cellV K cc = some v) : h.IsCell cc (some v) := by
  unfold cellV at e
  split at e
  · rename_i q
    cases e
    exact ⟨_, X _ _ q, rfl⟩
  · cases e
theorem fileV_at {K : PySem.W.Frag} {h : Heap} (X : K.In h) {c : Addr} {main : Str} (e : fileV K c main = true) : ∃ (oc : Obj) (vs : Array Value) (file : Str) (tf : Tok), h.get? c = some oc ∧ oc.data = .fields vs ∧ vs[2]? = some (.str file tf) ∧ (main == file) = true := by
  unfold fileV at e
  split at e
  · rename_i q
    split at e
    · rename_i q2
      exact ⟨_, _, _, _, X _ _ q, rfl, q2, e⟩
    · cases e
  · cases e
/-- what the written part says for super() in the __init__ of the class at C -/
structure SupC (K : PySem.W.Frag) (C cc c : Addr) (qual : Str) (main : Str) : Prop where
  cell : cellV K cc = some (.ref C)
  sup : PySem.W.ks_superIn K C C "__init__" = some (some (.builtin "ValueError.__init__"))
  vE : PySem.W.subIn K (.ref C) (.type "ValueError") = some true
  self : PySem.W.mroIn K C (.ref C) = some true
  opq : PySem.W.nsIn K cStatics "thirdparty.any" = some none
  code : PySem.W.codeIn K (.ref c) qual = true
  file : fileV K c main = true
abbrev supEx (p0 p1 p2 pos : Pos) : Expr := .Call (.Attribute (.Call (.Name "super" p0) [] [] p1) "__init__" p2) [] [] pos
section
variable {X : Cx} {C cc c a f : Addr} {qual : Str} {p0 p1 p2 pos spos : Pos}
/-- the first statement of such an __init__ -/
theorem sup_first {pins : List (Addr × Obj)} {σ : L2.St} {H : Hp} {s : Shared} {body : List Stmt} {fd : FuncData} {of : Obj} {ar : Arg} {i j : Nat} {Q : Flow → Shared → Prop} {E : Value → Shared → Prop} (I : Inv X pins σ H s) (T : OexC X.K C) (U : SupC X.K C cc c qual X.prog.main.file)
    (he : H a = some (exo a C none)) (hs0 : σ[i]? = some (some (.ref a))) (hs1 : σ[j]? = some (some (.ref C))) (hN0 : X.N[i]? = some ar.arg) (hN1 : X.N[j]? = some ("__class__" : Str)) (hL : X.env.scope.names.lookup ar.arg = some .local) (hF : X.env.scope.names.lookup ("__class__" : Str) = some .free)
    (hS : X.env.scope.names.lookup ("super" : Str) = some .globalImplicit) (hm : X.mg "super" = none) (hfu : X.env.func = some f) (hf : s.heap.get? f = some of) (hfd : of.data = .func fd) (hp : (fd.params.posonlyargs ++ fd.params.args).head? = some ar) (hco : X.env.code = .ref c)
    (htop : (X.prog.main.scope.names.lookup ("super" : Str)).isSome = false) (hi : interactive X.env = false) (hsw : swapsWith (supEx p0 p1 p2 pos) none spos.line X.env = pure false)
    (hd : (ar.arg == ("__debug__" : Str)) = false) (hcd : (ar.arg == ("__classdict__" : Str)) = false)
    (hev : ∃ pl, eval (supEx p0 p1 p2 pos) X.env = (do
      let ov ← attributeBase (.Call (.Name "super" p0) [] [] p1) "__init__" X.env (eval (.Call (.Name "super" p0) [] [] p1) X.env)
      standAt p2.atName
      let (f, first) ← holding [ov] (getMethod ov "__init__" pl)
      callWith pos f first (backTo pos (starEach [] X.env)) []))
    (h : ∀ s', Inv X pins σ H s' → Q .next s') : _root_.PySem.wpAt (model X.prog X.w) X.A (.func body X.env) (exec (.Expr (supEx p0 p1 p2 pos) spos) X.env) Q E s := by
  obtain ⟨pl, hev⟩ := hev
  obtain ⟨nm, q, N, bs, bm, sn, sub, ab, col, dd, k0, k1, k2, k3, k5, hC, hbm⟩ := T.cls
  have hcl : PySem.W.clsIn X.K C = some { name := nm, bases := bs, mro := .ref C :: bm, ns := N, qualname := q, hasDict := true, slotNames := sn, subclasses := sub, abstract := ab, collection := col, hasDel := false } := by unfold PySem.W.clsIn; rw [hC] <;> rfl
  obtain ⟨oc, vs, file, tf, hcc, hoc, hvs, hfile⟩ := fileV_at I.kIn U.file
  refine ks_wpAt_Expr_any ?_ hi hsw
  refine ks_wpAt_MethodCall ?_ hev
  refine ks_wpAt_super_base (cc := c) hS hF (by decide) hfu hf hfd hp hco hcc hoc hvs hfile htop ?_
  refine PySem.W.ks_loadName_global I.ok.kind hS ?_
  obtain ⟨mb, g1, g2⟩ := I.mod.blt
  refine Calls.loadGlobal_builtin (by rw [I.ok.glob]; exact I.mod.glob.keeps I.bk) hm (by rw [I.ok.blt]; exact g1.keeps I.bk) ((g2 "super" (by decide)).trans rfl) ⟨rfl, ?_⟩
  obtain ⟨m, hn, hl⟩ := id I.loc
  obtain ⟨u1, r1, l1⟩ := hl j _ _ hN1 hs1 (.inr (.inr hF))
  obtain rfl : u1 = Value.ref C := r1
  obtain ⟨c1, hc1, hcell1⟩ : ∃ c1, X.env.cells.lookup ("__class__" : Str) = some c1 ∧ s.heap.IsCell c1 (some (.ref C)) := by
    rcases l1 with ⟨z, _⟩ | ⟨_, q⟩
    · have hk : X.env.kindOf "__class__" = some .free := hF
      rw [hk] at z; cases z
    · exact q
  refine wpAny_loadName_free I.ok.kind hF hc1 hcell1 ?_ (by decide)
  obtain ⟨u0, r0, l0⟩ := hl i _ _ hN0 hs0 (.inl hL)
  obtain rfl : u0 = Value.ref a := r0
  have hma : m ar.arg = some (.ref a) := by
    rcases l0 with ⟨_, hma⟩ | ⟨z, _⟩
    · exact hma
    · have hk : X.env.kindOf ar.arg = some .local := hL
      rcases z with z | z <;> rw [hk] at z <;> cases z
  refine wpAny_loadName_local I.ok.kind hL hn hma ?_
  obtain ⟨t1, ho⟩ := exo_at I.hok he
  have hCo := I.kIn _ _ hC
  have aC : a ≠ C := by
    rintro rfl
    rw [hCo] at ho
    cases ho
  obtain ⟨hp0, g, d, tk, os⟩ := s
  refine ks_wpAny_isType_cls hCo rfl ⟨rfl, ?_⟩
  refine ks_wpAny_call_super hCo rfl ho rfl (fun c e => by cases e) (PySem.W.looks_mroIn I.kIn U.self) (fun h1 e1 k1 => ?_)
  have I1 : Inv X pins σ H ⟨h1, g, d, tk, os⟩ := I.kept (t' := tk) k1
  have hI : PySem.W.Looks (model X.prog X.w) h1 (isInstance (.ref a) (.type "ValueError")) true := by
    have q : PySem.W.InstAt h1 a { cls := .ref C, dict := none, data := .fields #[.ref t1, .none, .none, .none, .bool false, .none] } C none := ⟨k1 _ _ ho, rfl, rfl, trivial⟩
    exact q.type.andThen (PySem.W.looks_subIn I1.kIn U.vE)
  have hU := U.sup
  unfold PySem.W.ks_superIn at hU
  rw [hcl] at hU
  refine PySem.W.kxs_getMethod PySem.W.kxs_ValueError (x := a) e1 (PySem.W.looks_opaque I1.kIn U.opq) ((PySem.W.looks_clsIn I1.kIn hcl).andThen .now) rfl I1.kIn hU hI aC (by decide) ?_
  have eu : (h1.push (PySem.W.kxs_mw "ValueError.__init__" a)).get? h1.objs.size = some (PySem.W.kxs_mw "ValueError.__init__" a) := Heap.get?_push_at rfl rfl
  have k2 : ∀ b o, h1.get? b = some o → (h1.push (PySem.W.kxs_mw "ValueError.__init__" a)).get? b = some o := fun b o e => Heap.get?_push_of_some _ e
  have I2 : Inv X pins σ H ⟨h1.push (PySem.W.kxs_mw "ValueError.__init__" a), g, d, tk + 1, os⟩ := Inv.kept (t' := tk + 1) I1 k2
  refine PySem.W.kxs_callWith (i := "ValueError.__init__") (x := a) rfl (evalArgs_empty ⟨eu, ?_⟩)
  refine wpAny_call (codeAny_of_tree ?_)
  show wpAny _ X.A.in1 (callAny (.ref h1.objs.size) ⟨[], []⟩) _ _ _
  simp only [callAny]
  refine wpAny_bind (wpAny_load eu ?_)
  simp only [PySem.W.kxs_mw, show (Value.type "method-wrapper" == Value.type "method" || Value.type "method-wrapper" == Value.type "builtin_function_or_method" || Value.type "method-wrapper" == Value.type "method-wrapper") = true by decide, if_true]
  refine PySem.W.KFB.if_so (by decide) ?_
  have he2 := k2 _ _ (k1 _ _ ho)
  refine wpAny_bind (PySem.W.check_bound_init F.excBase_ValueError.toExcCallFacts (k2 _ _ (k1 _ _ hCo)) he2 rfl ?_)
  refine wpAny_bind (wpAny_pure (wpAny_pure ?_))
  refine ⟨plainId_quiet F.excBase_ValueError.init.plain _, codeAny_builtin F.excBase_ValueError.initEntry ?_⟩
  refine PySem.W.exc_init_tree (cls := .ref C) (t0 := t1) (dv := none) (c2 := .none) (c3 := .none) (b4 := .bool false) he2 (by simp [sizeLine_eq]) fun h3 k3 e3 _ => ?_
  have J := I2.write (t' := tk + 1) (h' := h3) (x := a) (e := a) (o := exo a C none) (by rw [he]; exact True.intro) (.inl rfl) k3 ⟨_, e3⟩ (exo_ok e3)
  have eu : upd H a (exo a C none) = H := by
    funext b
    by_cases hb : b = a
    · rw [hb, upd_same, he]
    · rw [upd_ne hb]
  rw [eu] at J
  exact h _ J
end
def iniOne (ps : List Str) : Stmt → Option (Str × IniV)
  | .Assign [.Attribute (.Name x0 _) f _] (.Name y _) _ => if ps[0]? = some x0 ∧ (x0 == ("__debug__" : Str)) = false ∧ (x0 == ("__classdict__" : Str)) = false ∧ (y == ("__debug__" : Str)) = false ∧ (y == ("__classdict__" : Str)) = false then
      (match ps.idxOf? y with | some (i + 1) => some (f, .inl i) | _ => none) else none
  | .Assign [.Attribute (.Name x0 _) f _] (.Constant (.str z) _ _) _ => if ps[0]? = some x0 ∧ (x0 == ("__debug__" : Str)) = false ∧ (x0 == ("__classdict__" : Str)) = false then some (f, .inr z) else none
  | _ => none
def iniOf (ps : List Str) : List Stmt → Option (List (Str × IniV))
  | [] => some []
  | st :: r => match iniOne ps st, iniOf ps r with
    | some x, some xs => some (x :: xs)
    | _, _ => none
def valD (ys : List D) : IniV → D
  | .inl i => ys.getD i .non
  | .inr z => .str z
def iniD (fl : List (Str × IniV)) (ys : List D) : List (Str × D) := (fl.map fun p => (p.1, valD ys p.2)).reverse
def tRest (K : PySem.W.Frag) (C : Addr) (fl : List (Str × IniV)) : TS := fun D σ H => ∃ (a dx : Addr) (fs : List (Str × V)) (ys : List V), σ[0]? = some (some (.ref a)) ∧ (∀ i, i < ys.length → σ[i + 1]? = some (some (ys.getD i .non))) ∧
  a ≠ dx ∧ H a = some (exo a C (some dx)) ∧ H dx = some (exd dx fs) ∧ fs.length + fl.length ≤ 900 ∧ (∀ p ∈ fl, ∀ i, p.2 = .inl i → i < ys.length) ∧ OexC K C ∧ (∀ p ∈ fl, PySem.W.findIn K (.ref C) p.1 = some none) ∧ D.nx σ (upd H dx (exd dx (iniL fl ys ++ fs)))
def tIni (K : PySem.W.Frag) (C : Addr) (fl : List (Str × IniV)) : TS := fun D σ H => ∃ (a : Addr) (ys : List V), σ[0]? = some (some (.ref a)) ∧ (∀ i, i < ys.length → σ[i + 1]? = some (some (ys.getD i .non))) ∧
  H a = some (exo a C none) ∧ fl.length ≤ 900 ∧ fl ≠ [] ∧ (∀ p ∈ fl, ∀ i, p.2 = .inl i → i < ys.length) ∧ OexC K C ∧ (∀ p ∈ fl, PySem.W.findIn K (.ref C) p.1 = some none) ∧ ∀ dx, H dx = none → dx ≠ a → D.nx σ (upd (upd H dx (exd dx (iniL fl ys))) a (exo a C (some dx)))
theorem upd_eq {H : Hp} {a : Addr} {o : HO} (e : H a = some o) : upd H a o = H := by
  funext b
  by_cases hb : b = a
  · rw [hb, upd_same, e]
  · rw [upd_ne hb]
theorem upd_upd {H : Hp} {a : Addr} {o u : HO} : upd (upd H a o) a u = upd H a u := by
  funext b
  by_cases hb : b = a
  · rw [hb, upd_same, upd_same]
  · rw [upd_ne hb, upd_ne hb, upd_ne hb]
theorem upd_comm {H : Hp} {a b : Addr} {o u : HO} (ne : a ≠ b) : upd (upd H a o) b u = upd (upd H b u) a o := by
  funext c
  by_cases hc : c = a
  · subst hc
    rw [upd_ne ne, upd_same, upd_same]
  · by_cases hb : c = b
    · subst hb
      rw [upd_same, upd_ne hc, upd_same]
    · rw [upd_ne hb, upd_ne hc, upd_ne hc, upd_ne hb]
section
variable {X : Cx} {C : Addr} {ps : List Str}
/-- one field -/
theorem ini_one {st : Stmt} {p : Str × IniV} (hX : ∀ (i : Nat) y, ps[i]? = some y → X.N[i]? = some y ∧ Vis X.env.scope y) (e : iniOne ps st = some p) :
    PS X st (tOst X.K p.1 (tVar 0) (match p.2 with | .inl i => tVar (i + 1) | .inr z => tC (.str z))) := by
  unfold iniOne at e
  split at e
  · rename_i x0 pa f pb y pc pd
    split at e
    · rename_i h
      obtain ⟨h1, h2, h3, h4, h5⟩ := h
      split at e
      · rename_i i q
        cases e
        obtain ⟨n0, v0⟩ := hX _ _ h1
        have hi : ps[i + 1]? = some y := by
          have q2 := List.idxOf?_eq_some_iff.mp q
          obtain ⟨hlt, he, _⟩ := q2
          rw [List.getElem?_eq_getElem hlt]
          exact congrArg some he
        obtain ⟨n1, v1⟩ := hX _ _ hi
        exact ps_ost (pe_var n0 v0 h2 h3) (pe_var n1 v1 h4 h5) rfl
      · cases e
    · cases e
  · split at e
    · rename_i h
      obtain ⟨h1, h2, h3⟩ := h
      cases e
      obtain ⟨n0, v0⟩ := hX _ _ h1
      exact ps_ost (pe_var n0 v0 h2 h3) pe_str rfl
    · cases e
  · cases e
theorem val_at {σ : L2.St} {D : Ends} {H : Hp} {ys : List V} {w : IniV} {Q : V → Hp → Prop} (hy : ∀ i, i < ys.length → σ[i + 1]? = some (some (ys.getD i .non))) (hw : ∀ i, w = .inl i → i < ys.length) (q : Q (valV ys w) H) : (match w with | .inl i => tVar (i + 1) | .inr z => tC (.str z)) σ H Q := by
  cases w with
  | inl i => exact ⟨_, hy i (hw i rfl), q⟩
  | inr z => exact q
theorem ini_rest (hX : ∀ (i : Nat) y, ps[i]? = some y → X.N[i]? = some y ∧ Vis X.env.scope y) : ∀ {sts : List Stmt} {fl : List (Str × IniV)}, iniOf ps sts = some fl → PSs X sts (tRest X.K C fl)
  | [], fl, e => by
    have e' : fl = [] := by simpa [iniOf] using e.symm
    subst e'
    refine pss_imp pss_nil fun D σ H ⟨a, dx, fs, ys, _, _, _, _, h2, _, _, _, _, q⟩ => ?_
    have : upd H dx (exd dx (iniL [] ys ++ fs)) = H := upd_eq (by simpa [iniL] using h2)
    rw [this] at q
    exact q
  | st :: r, fl, e => by
    unfold iniOf at e
    split at e
    · rename_i p xs e1 e2
      cases e
      refine pss_imp (pss_cons (ini_one hX e1) (ini_rest hX e2)) fun D σ H ⟨a, dx, fs, ys, h0, hy, ne, h1, h2, h3, h4, h5, h6, q⟩ => ?_
      refine val_at (D := D) hy (fun i e => h4 p List.mem_cons_self i e) ⟨.ref a, h0, a, C, rfl, h5, h6 p List.mem_cons_self, .inr ⟨dx, fs, h1, h2, by simp at h3; omega, ?_⟩⟩
      refine ⟨a, dx, _, ys, h0, hy, ne, by rw [upd_ne ne]; exact h1, upd_same, by simp at h3 ⊢; omega, fun x hx => h4 x (List.mem_cons_of_mem _ hx), h5, fun x hx => h6 x (List.mem_cons_of_mem _ hx), ?_⟩
      rw [upd_upd]
      have el : iniL xs ys ++ (p.1, valV ys p.2) :: fs = iniL (p :: xs) ys ++ fs := by simp [iniL]
      rw [el]
      exact q
    · cases e
theorem ini_all (hX : ∀ (i : Nat) y, ps[i]? = some y → X.N[i]? = some y ∧ Vis X.env.scope y) {sts : List Stmt} {fl : List (Str × IniV)} (e : iniOf ps sts = some fl) : PSs X sts (tIni X.K C fl) := by
  cases sts with
  | nil =>
    have e' : fl = [] := by simpa [iniOf] using e.symm
    subst e'
    exact pss_imp pss_nil fun D σ H ⟨a, ys, _, _, _, _, h, _⟩ => absurd rfl h
  | cons st r =>
    unfold iniOf at e
    split at e
    · rename_i p xs e1 e2
      cases e
      refine pss_imp (pss_cons (ini_one hX e1) (ini_rest (C := C) hX e2)) fun D σ H ⟨a, ys, h0, hy, h1, h3, _, h4, h5, h6, q⟩ => ?_
      refine val_at (D := D) hy (fun i e => h4 p List.mem_cons_self i e) ⟨.ref a, h0, a, C, rfl, h5, h6 p List.mem_cons_self, .inl ⟨h1, fun dx hn ne => ?_⟩⟩
      refine ⟨a, dx, _, ys, h0, hy, Ne.symm ne, upd_same, by rw [upd_ne ne]; exact upd_same, by simp at h3 ⊢; omega, fun x hx => h4 x (List.mem_cons_of_mem _ hx), h5, fun x hx => h6 x (List.mem_cons_of_mem _ hx), ?_⟩
      have q' := q dx hn ne
      have el : iniL xs ys ++ [(p.1, valV ys p.2)] = iniL (p :: xs) ys := by simp [iniL]
      rw [el, ← upd_comm (Ne.symm ne.symm), upd_upd]
      exact q'
    · cases e
end
def SupEv (p0 p1 p2 pos : Pos) : Prop := ∀ env : PySem.Env, ∃ pl, eval (supEx p0 p1 p2 pos) env = (do
      let ov ← attributeBase (.Call (.Name "super" p0) [] [] p1) "__init__" env (eval (.Call (.Name "super" p0) [] [] p1) env)
      standAt p2.atName
      let (f, first) ← holding [ov] (getMethod ov "__init__" pl)
      callWith pos f first (backTo pos (starEach [] env)) [])
/-- what is asked of the text of such an __init__ -/
structure IniS (N ps : List Str) (scope : Scope) (params : Arguments) (fl : List (Str × IniV)) (rest : List Stmt) : Prop where
  sc : NScope N ps ["__class__"] scope
  sup : scope.names.lookup ("super" : Str) = some .globalImplicit
  par : (params.posonlyargs ++ params.args).head?.map (·.arg) = ps.head?
  pos : 0 < ps.length
  flds : iniOf ps rest = some fl
  ne : fl ≠ [] ∧ fl.length ≤ 900
  ix : ∀ p ∈ fl, ∀ i, p.2 = .inl i → i + 1 < ps.length
  dbg : ∀ y ∈ ps.head?, (y == ("__debug__" : Str)) = false ∧ (y == ("__classdict__" : Str)) = false
theorem hint {env : PySem.Env} (h : env.scope.kind = .function) : interactive env = false := by
  unfold interactive
  rw [h]
  rfl
section
variable {P : Program} {w : World} {K : PySem.W.Frag} {mg : Str → Option Value} {base : Heap} {N ps : List Str} {name qual : Str} {params : Arguments} {rest : List Stmt} {scope : Scope} {dV kV doc pm ct oc : Value} {an od : Option Addr} {osl : Array (Option Value)} {C cc c f : Addr} {p0 p1 p2 pos spos : Pos} {fl : List (Str × IniV)} {k : Nat}
theorem fn_super {CX : CXT} (lk : K.lookup f = some ⟨oc, od, .func (PySem.W.ksFn name qual params (.Expr (supEx p0 p1 p2 pos) spos :: rest) scope dV kV doc pm an (.ref c) ct cc), osl⟩) (T : OexC K C) (U : SupC K C cc c qual P.main.file) (S : IniS N ps scope params fl rest)
    (hfi : ∀ p ∈ fl, PySem.W.findIn K (.ref C) p.1 = some none) (hm : mg "super" = none) (htop : (P.main.scope.names.lookup ("super" : Str)).isSome = false) (hev : SupEv p0 p1 p2 pos := by exact fun _ => ⟨_, by rfl⟩) :
    FnOk P w K mg base CX (k + 1) f (PySem.W.ksFn name qual params (.Expr (supEx p0 p1 p2 pos) spos :: rest) scope dV kV doc pm an (.ref c) ct cc) ps (spI C (ps.length - 1) fl) := by
  have hp0 := S.pos
  refine ⟨fun vs H Q E ⟨a, ys, e, hl, _⟩ => by subst e; simp; omega, fun A outer s H args us vs Q E hr e0 hb r hsp => ?_⟩
  obtain ⟨a, ys, rfl, hl, hea, hsp⟩ := hsp
  have hvl : (V.ref a :: ys).length = ps.length := by simp; omega
  have KX : K.In s.heap := e0.mod.kin.keeps fun b o e => (e0.bs b o e).1
  have lim : s.heap.NoLimit := e0.mod.nolimit.keeps fun b o e => (e0.bs b o e).1
  refine ks_codeAny_call_defAt (fd := PySem.W.ksFn name qual params (.Expr (supEx p0 p1 p2 pos) spos :: rest) scope dV kV doc pm an (.ref c) ct cc) hr.depth (KX _ _ lk) rfl lim (PySem.W.codeRec_of KX U.code) rfl hb S.sc.nocell (fun ⟨n, v⟩ hy => S.sc.par n (List.of_mem_zip hy).1) (fun h₁ hns kp => ?_) S.sc.co S.sc.gen S.sc.kind
  obtain ⟨ob, cb⟩ : ∃ ob, base.get? cc = some ob := by
    obtain ⟨o, ho, _⟩ := cellV_at e0.mod.kin U.cell
    exact ⟨o, ho⟩
  have hC : CellsAt [(("__class__" : Str), cc)] ["__class__"] [some (V.ref C)] s.heap H := by
    refine ⟨rfl, fun y c1 e => ?_, fun x y c1 e1 e2 => ?_, fun i y e => ?_⟩
    · have : c1 = cc := by
        rw [List.lookup_cons] at e
        split at e
        · exact (Option.some.inj e).symm
        · cases e
      subst this
      exact ⟨(e0.bs _ _ cb).2, _, cellV_at KX U.cell⟩
    · rw [List.lookup_cons] at e1 e2
      split at e1
      · rename_i q1
        split at e2
        · rename_i q2
          rw [beq_iff_eq.mp q1, beq_iff_eq.mp q2]
        · cases e2
      · cases e1
    · cases i with
      | zero =>
        cases e
        exact ⟨cc, by simp, fun v ev => by cases ev; exact ⟨.ref C, rfl, cellV_at KX U.cell⟩⟩
      | succ i => cases e
  have I : Inv (ncx CX P w K mg base N ⟨name, qual, params, .Expr (supEx p0 p1 p2 pos) spos :: rest, scope, [(("__class__" : Str), cc)], c⟩ f A outer s H E) [] (startF N (V.ref a :: ys) [some (V.ref C)]) H { s with heap := h₁, toks := s.toks + (ps.zip us).length } :=
    inv_startN S.sc hr.hd e0 hvl r hC hns kp
  have nl : ps.length + 1 ≤ N.length := by
    have q := congrArg List.length S.sc.pre
    rw [List.length_take, List.length_append, List.length_singleton] at q
    omega
  have hNi : ∀ (i : Nat) y, ps[i]? = some y → N[i]? = some y := fun i y e => by
    have hi : i < ps.length := (List.getElem?_eq_some_iff.mp e).1
    have q : (N.take (ps.length + 1))[i]? = (ps ++ [("__class__" : Str)])[i]? := by
      have z := S.sc.pre
      rw [List.length_singleton] at z
      rw [z]
    rw [List.getElem?_take_of_lt (by omega), List.getElem?_append_left hi] at q
    rw [q, e]
  have hNc : N[ps.length]? = some ("__class__" : Str) := by
    have q : (N.take (ps.length + 1))[ps.length]? = (ps ++ [("__class__" : Str)])[ps.length]? := by
      have z := S.sc.pre
      rw [List.length_singleton] at z
      rw [z]
    rw [List.getElem?_take_of_lt (by omega), List.getElem?_append_right (Nat.le_refl _)] at q
    rw [q]
    simp
  have hys : ∀ i, i < ys.length → (startF N (V.ref a :: ys) [some (V.ref C)])[i + 1]? = some (some (ys.getD i .non)) := fun i hi => by
    unfold startF
    rw [List.getElem?_append_left (by simp; omega)]
    simp [hi, List.getD_eq_getElem?_getD]
  have hsc : (startF N (V.ref a :: ys) [some (V.ref C)])[ps.length]? = some (some (.ref C)) := by
    unfold startF
    rw [List.getElem?_append_right (by simp; omega)]
    have : ps.length - (List.map some (V.ref a :: ys)).length = 0 := by simp; omega
    rw [this]
    rfl
  obtain ⟨y0, hy0⟩ : ∃ y0, ps[0]? = some y0 := ⟨ps[0], List.getElem?_eq_getElem hp0⟩
  have hh : ps.head? = some y0 := by rw [List.head?_eq_getElem?]; exact hy0
  obtain ⟨ar, har, hare⟩ : ∃ ar, (params.posonlyargs ++ params.args).head? = some ar ∧ ar.arg = y0 := by
    have q := S.par
    rw [hh] at q
    cases z : (params.posonlyargs ++ params.args).head? with
    | none => rw [z] at q; cases q
    | some ar => rw [z] at q; exact ⟨ar, rfl, Option.some.inj q⟩
  obtain ⟨d1, d2⟩ := S.dbg y0 hh
  have hlist := S.sc.par y0 (List.mem_of_getElem? hy0)
  refine ks_wpAt_execs_cons (ks_wpAt_mono (sup_first (X := ncx CX P w K mg base N ⟨name, qual, params, .Expr (supEx p0 p1 p2 pos) spos :: rest, scope, [(("__class__" : Str), cc)], c⟩ f A outer s H E) (E := (ncx CX P w K mg base N ⟨name, qual, params, .Expr (supEx p0 p1 p2 pos) spos :: rest, scope, [(("__class__" : Str), cc)], c⟩ f A outer s H E).xe)
    (i := 0) (j := ps.length) (ar := ar) (f := f) (fd := PySem.W.ksFn name qual params (.Expr (supEx p0 p1 p2 pos) spos :: rest) scope dV kV doc pm an (.ref c) ct cc)
    (Q := fun fl s' => match fl with | .next => Inv (ncx CX P w K mg base N ⟨name, qual, params, .Expr (supEx p0 p1 p2 pos) spos :: rest, scope, [(("__class__" : Str), cc)], c⟩ f A outer s H E) [] (startF N (V.ref a :: ys) [some (V.ref C)]) H s' | _ => False)
    I T U hea (by rfl) hsc (by rw [hare]; exact hNi 0 _ hy0) hNc (by rw [hare]; exact hlist) (S.sc.frk _ (by simp)) S.sup hm rfl (kp _ _ (KX _ _ lk)) rfl har rfl htop (hint S.sc.kind) rfl (by rw [hare]; exact d1) (by rw [hare]; exact d2) (hev _) fun s' J => J) (fun fw s' hf => ?_) fun e s' h => h)
  cases fw with
  | ret _ => exact hf.elim
  | brk => exact hf.elim
  | cont => exact hf.elim
  | next =>
    have hb2 : PSs (ncx CX P w K mg base N ⟨name, qual, params, .Expr (supEx p0 p1 p2 pos) spos :: rest, scope, [(("__class__" : Str), cc)], c⟩ f A outer s H E) rest (tIni K C fl) := ini_all (ps := ps) (fun i y e => ⟨hNi i y e, .inl (S.sc.par y (List.mem_of_getElem? e))⟩) S.flds
    have hq := hb2.run [] s' _ H { nx := fun _ H' => Q .non H', rt := Q } hf ⟨a, ys, rfl, hys, hea, S.ne.2, S.ne.1, fun p hp i e => by have := S.ix p hp i e; omega, T, hfi, hsp⟩
    refine PySem.wpAt_of_wpAny (wpAny_mono hq (fun fl s' hs => ?_) fun e s' hs => hs)
    cases fl with
    | ret u =>
      obtain ⟨v, σ', H', J, rv, q⟩ := hs
      exact ⟨v, H', J.os, J.bare, J.base, J.hok, rv, q⟩
    | next =>
      obtain ⟨σ', H', J, q⟩ := hs
      exact ⟨.non, H', J.os, J.bare, J.base, J.hok, rfl, q⟩
    | brk =>
      obtain ⟨_, _, _, q⟩ := hs
      exact False.elim q
    | cont =>
      obtain ⟨_, _, _, q⟩ := hs
      exact False.elim q
end
end L3

set_option Elab.async false
set_option linter.all false
set_option maxRecDepth 100000
set_option maxHeartbeats 2000000
namespace L3
open PySem PySem.Spec PyProof.Rows L2 NdefX
theorem ini_rep {T : Tb} {μ : List Addr} {H : Hp} {ds : List D} {vs : List V} (r : RepL T μ H ds vs) {fl : List (Str × IniV)} : RepF T μ H (iniD fl ds) (iniL fl vs) := by
  have val : ∀ w, Rep T μ H (valD ds w) (valV vs w) := fun w => by
    cases w with
    | inr z => simp only [valD, valV, Rep]
    | inl i =>
      simp only [valD, valV]
      rw [List.getD_eq_getElem?_getD, List.getD_eq_getElem?_getD]
      cases q : ds[i]? with
      | some d =>
        obtain ⟨v, e, rv⟩ := r.get q
        rw [e]
        exact rv
      | none =>
        have : vs[i]? = none := by
          rw [List.getElem?_eq_none_iff] at q ⊢
          rw [r.length]; exact q
        rw [this]
        simp only [Option.getD_none, Rep]
  have app : ∀ {fs gs : List (Str × D)} {us ws : List (Str × V)}, RepF T μ H fs us → RepF T μ H gs ws → RepF T μ H (fs ++ gs) (us ++ ws) := by
    intro fs
    induction fs with
    | nil => intro gs us ws h g; simp only [RepF] at h; subst h; exact g
    | cons p fs ih =>
      intro gs us ws h g
      obtain ⟨f, d⟩ := p
      simp only [RepF, List.cons_append] at h ⊢
      obtain ⟨v, xs, rfl, h1, h2⟩ := h
      exact ⟨v, xs ++ ws, rfl, h1, ih h2 g⟩
  unfold iniD iniL
  induction fl with
  | nil => simp only [List.map_nil, List.reverse_nil, RepF]
  | cons p fl ih =>
    simp only [List.map_cons, List.reverse_cons]
    refine app ih ?_
    simp only [RepF]
    exact ⟨_, [], rfl, val p.2, rfl⟩
theorem mk_endN {X : Cx} {pins : List (Addr × Obj)} {σ : L2.St} {H H' : Hp} {Q : XK} {hp hp2 h' : Heap} {g1 g2 : Array GenState} {d1 d2 : Drawn} {t1 t2 : Nat} {os1 os2 : OsState} {a C d : Addr} {fs : List (Str × V)} (rs : Raises X (.ref C)) (I : Inv X pins σ H ⟨hp, g1, d1, t1, os1⟩)
    (le : hp.objs.size ≤ a) (k : ∀ b o, hp.get? b = some o → hp2.get? b = some o) (un : Un (frs X.stack) [] (upd H a (exo a C none)) H' hp2 h') (hok : HOk X.prog X.w H' h') (eo : os2 = os1) (bare : AllBare g2)
    (ea : H' a = some (exo a C (some d))) (ed : H' d = some (exd d fs)) (nd : H d = none) (q : Q (.ref C) (some d) (upd (del H' a) d (.xd fs))) : L2N.MkP X pins σ Q (.ref a) ⟨h', g2, d2, t2, os2⟩ := by
  obtain ⟨_, G, J, kG, ge, hoe, na⟩ := mk_end0 (d2 := d2) (t2 := t2) I le k un hok eo bare ea ed nd
  exact ⟨a, _, _, ⟨G, g2, d2, t2, os2⟩, _, .ref C, some d, rfl, J, kG, ge, hoe, ⟨rfl, rfl, fun vs hv => by cases hv; rfl⟩, rfl, rfl, na, rfl, bare, rs, q⟩
/-- an own error, made where nothing is handled: its context is None -/
theorem pmk_oexN {X : Cx} {x : Str} {e : Expr} {es : List Expr} {ta : TA} {p pos : Pos} {fd : FuncData} {ps : List Str} {CX : CXT} {C fI : Addr} {k : Nat} {sp : Sp} (O : OexC X.K C) (hi : PySem.W.findIn X.K (.ref C) "__init__" = some (some (.ref fI))) (ht : PySem.W.typeIn X.K (.ref fI) = some (.type "function"))
    (F : FnOk X.prog X.w X.K X.mg X.base CX k fI fd ps sp) (room : Room (k + 1) X.A) (hb : Binds X.K fd ps []) (hx : Passes CX X (fun _ _ _ => False)) (hg : Gl X x) (hm : X.mg x = some (.ref C)) (ha : PA X (e :: es) ta)
    (hdb : (x == ("__debug__" : Str)) = false := by decide) (he : starEach (e :: es) X.env = (false, eval e X.env) :: starEach es X.env := by rfl) (hpl : (backTo pos (starEach es X.env)).any (·.1) = false := by rfl) :
    L2N.PMk X (.Call (.Name x p) (e :: es) [] pos) (tMkO C sp [] ta) := fun pins s σ H Q I h => by
  obtain ⟨_, _, _, _, bm, _, _, _, _, _, _, _, _, _, _, isC, isB⟩ := O.cls
  refine wpAny_Call_Name_kw (ld_glob I hg hm ?_ hdb)
  refine PySem.W.callWith_K (h₀ := X.base) I.ok.mod.kin O.kC (thn (ha.run pos pins s σ H _ I h) fun us s1 ⟨vs, H1, I1, ru, few, want⟩ => ⟨I1.kIn, ?_⟩) he hpl
  show wpAny _ _ (call (.ref C) us) _ _ _
  obtain ⟨hp, gs, dr, tk, os⟩ := s1
  have le1 : hp.objs.size ≤ hp.objs.size + 1 := by omega
  have fresh := I1.hok.fresh le1
  have want := want (hp.objs.size + 1) fresh
  have grown : ∀ b o, hp.get? b = some o → ((hp.push (PySem.W.kdv_tup us)).push (PySem.HandSPX.excO C hp.objs.size)).get? b = some o := fun b o e => by
    exact Heap.get?_push_of_some _ (Heap.get?_push_of_some _ e)
  have here : ((hp.push (PySem.W.kdv_tup us)).push (PySem.HandSPX.excO C hp.objs.size)).get? (hp.objs.size + 1) = some (PySem.HandSPX.excO C hp.objs.size) := by heap_get
  have J : Inv X pins σ (upd H1 (hp.objs.size + 1) (exo (hp.objs.size + 1) C none)) ⟨(hp.push (PySem.W.kdv_tup us)).push (PySem.HandSPX.excO C hp.objs.size), gs, dr, tk, os⟩ :=
    I1.laid (t' := tk) (a := hp.objs.size + 1) (o := exo (hp.objs.size + 1) C none) (h' := (hp.push (PySem.W.kdv_tup us)).push (PySem.HandSPX.excO C hp.objs.size)) grown le1 (exo_ok here)
  have vals : Vals (V.ref (hp.objs.size + 1) :: (vs ++ [])) (Value.ref (hp.objs.size + 1) :: (us ++ [])) := .cons rfl (ru.append .nil)
  have len : (Value.ref (hp.objs.size + 1) :: us ++ []).length = ps.length := by
    have e := vals.length
    rw [F.len _ _ _ _ want] at e
    exact e.symm
  have nus : us.length ≤ sizeLine := by
    rw [← Paired.length ru, sizeLine_eq]
    omega
  refine wpAny_call (PySem.HandSPX.call_own PySem.F.excBase_ValueError (fun Y => PySem.HandSPX.refsVE_contains Y bm isB) (I1.kIn _ _ isC) (PySem.W.looks_findIn I1.kIn hi) (fun self => PySem.W.bind_fn I1.kIn self ht) nus ?_)
  refine codeAny_mono (F.run _ X.stack _ _ ⟨Value.ref (hp.objs.size + 1) :: us, []⟩ (Value.ref (hp.objs.size + 1) :: (us ++ [])) _ _ (fun _ _ _ => False) (room.make C us []) (J.env0.make C us []) (by have bd := hb _ (Value.ref (hp.objs.size + 1) :: us) J.kIn len; rw [List.cons_append] at bd; exact bd) vals want) fun r s' got => ?_
  cases r with
  | error er => exact hx pins σ _ _ er s' J got
  | ok fl =>
    cases fl with
    | ret u =>
      obtain ⟨v, H2, os2, bare2, un2, hok2, rv, ev, d, fs, ea, ed, hd1, q2⟩ := got
      subst ev
      obtain ⟨h2, g2, d2, t2, os'⟩ := s'
      exact ⟨rv, mk_endN (raises_own O.exC O.tyC) I1 le1 grown un2 hok2 os2 bare2 ea ed hd1 q2⟩
    | next => exact got.elim
    | brk => exact got.elim
    | cont => exact got.elim
theorem pmk_zc {X : Cx} {e : Expr} {t : L2.St → Hp → XK → Prop} (h : L2N.PMk X e t) : PMk X e t := fun pins s σ H Q I q =>
  wpAny_mono (h pins s σ H Q I q) (fun u s' ⟨a, oe, vs, sI, H', cls, d, e1, J, k, hne, ha, hz, r⟩ => ⟨a, oe, vs, sI, H', cls, d, e1, J, k, hne, ha, hz.zc, r⟩) fun _ _ x => x
theorem ps_raiseB {b : Bool} {X : Cx} {W : WX} {e : Expr} {t : L2.St → Hp → XK → Prop} {pos : Pos} (hc : X.calm = true) (tk : TkB b X W) (he : L2N.PMk X e t) : PS X (.Raise (some e) none pos) (fun _ σ H => t σ H fun cls d H' => W cls d σ H') := by
  cases b with
  | true => exact L2N.ps_raise hc tk he
  | false => exact ps_raise hc tk (pmk_zc he)
/-- raise C(..), C an own error -/
def sRaise (k n : Nat) (fl : List (Str × IniV)) (r : AM) : SM := fun ρ S => match r ρ S with
  | .ok xs S1 => (match asD xs with
    | some ds => if ds.length = n ∧ n ≤ 900 then .er ⟨k, iniD fl ds⟩ S1 else .stk
    | none => .stk)
  | .err e S1 => .er e S1
  | .stk => .stk
section
variable {X : Cx} {T : Tb} {W : XK} {r : AM} {x : Str} {e : Expr} {es : List Expr} {p pos rpos : Pos} {k n j : Nat} {fl : List (Str × IniV)} {fI : Addr} {fd : FuncData} {ps : List Str}
theorem mk_reading (hn : ps.length - 1 = n) {D : Ends} : ∀ σ H, rdS T W (sRaise k n fl r) D σ H → tMkO (T.cA k) (spI (T.cA k) (ps.length - 1) fl) [] (rdA T W r) σ H (fun cls d H' => W cls d H') := fun σ H ⟨μ, ρ, S, he, hs, h⟩ => by
  unfold sRaise at h
  refine ⟨μ, ρ, S, he, hs, ?_⟩
  cases q : r ρ S with
  | stk => rw [q] at h; exact h.elim
  | err e1 S1 => rw [q] at h; exact h
  | ok xs S1 =>
    rw [q] at h
    intro μ1 H1 vs ex hs1 rs
    cases qa : asD xs with
    | none => simp only [qa] at h; exact h.elim
    | some ds =>
      simp only [qa] at h
      have rl := rs.data qa
      split at h
      · rename_i hl
        refine ⟨by rw [rl.length]; omega, fun a ha => ⟨a, vs ++ [], rfl, by rw [List.append_nil, rl.length, hn]; exact hl.1, upd_same, fun dx hd ne => ⟨rfl, dx, iniL fl vs, upd_same, ?_, ?_, ?_⟩⟩⟩
        · rw [List.append_nil, upd_ne ne]; exact upd_same
        · rw [upd_ne ne] at hd; exact hd
        · rw [upd_ne ne] at hd
          have e1 : upd (del (upd (upd (upd H1 a (exo a (T.cA k) none)) dx (exd dx (iniL fl (vs ++ [])))) a (exo a (T.cA k) (some dx))) a) dx (.xd (iniL fl vs)) = upd H1 dx (.xd (iniL fl vs)) := by
            funext b
            by_cases hb : b = dx
            · rw [hb, upd_same, upd_same]
            · rw [upd_ne hb, upd_ne hb]
              by_cases hba : b = a
              · rw [hba, del_same, ha]
              · rw [del_ne hba, upd_ne hba, upd_ne hb, upd_ne hba]
          rw [e1]
          have sm : Same H1 (upd H1 dx (.xd (iniL fl vs))) := same_upd hd
          refine h μ1 _ _ _ (ex.trans (Ext.grow sm)) (hs1.grow sm) ⟨rfl, dx, _, rfl, hs1.free hd, upd_same, ini_rep (rl.mono (Ext.grow sm))⟩
      · exact h.elim
theorem ms_raise (L : Lv X T W) (hc : X.calm = true) (hn : ps.length - 1 = n) (O : OexC X.K (T.cA k)) (iC : PySem.W.findIn X.K (.ref (T.cA k)) "__init__" = some (some (.ref fI))) (tI : PySem.W.typeIn X.K (.ref fI) = some (.type "function"))
    (F : FnOk X.prog X.w X.K X.mg X.base (CXB T.nn X.prog X.w) j fI fd ps (spI (T.cA k) (ps.length - 1) fl)) (hr : Room (j + 1) X.A) (hb : Binds X.K fd ps []) (hg : Gl X x) (hm : X.mg x = some (.ref (T.cA k))) (ha : MA X T W (e :: es) r)
    (hdb : (x == ("__debug__" : Str)) = false := by decide) (he : starEach (e :: es) X.env = (false, eval e X.env) :: starEach es X.env := by rfl) (hpl : (backTo pos (starEach es X.env)).any (·.1) = false := by rfl) :
    MS X T W (.Raise (some (.Call (.Name x p) (e :: es) [] pos)) none rpos) (sRaise k n fl r) := ps_imp (ps_raiseB hc L.tk (pmk_oexN O iC tI F hr hb passLB hg hm ha hdb he hpl)) fun D σ H h => mk_reading hn σ H h
end
end L3

set_option Elab.async false
set_option linter.all false
set_option maxRecDepth 100000
set_option maxHeartbeats 2000000
namespace L3
open PySem PySem.Spec PyProof.Rows L2 NdefX LamX
/-! ### lambdas: made -/
theorem lmO_at {P : Program} {w : World} {H : Hp} {h : Heap} {f c' : Addr} {L : LF} {dV : Value} (hok : HOk P w H h) (e : H f = some (LmO f L c' dV)) : ∃ (od : Option Addr) (sl : Array (Option Value)) (doc pm ctv : Value), h.get? f = some (⟨.type "function", od, .func (L.fd dV doc pm c' ctv), sl⟩ : Obj) := by
  obtain ⟨z, _, _⟩ := hok f _ e
  exact z
section
variable {X : Cx} {T : Tb} {W : XK} {pins : List (Addr × Obj)} {σ : L2.St} {H : Hp} {s : Shared} {μ : List Addr} {S : Store}
theorem inv_lm {L : LF} {c' : Addr} {dV doc pm ctv : Value} {o : Obj} {t' : Nat} (I : Inv X pins σ H s) (ho : o = { cls := .type "function", data := .func (L.fd dV doc pm c' ctv) }) :
    Inv X pins σ (upd H s.heap.objs.size (LmO s.heap.objs.size L c' dV)) { s with heap := s.heap.push o, toks := t' } := by
  subst ho
  refine I.laid (a := s.heap.objs.size) (fun b u e => Heap.get?_push_of_some _ e) (Nat.le_refl _) ?_
  have e : (s.heap.push ({ cls := .type "function", data := .func (L.fd dV doc pm c' ctv) } : Obj)).get? s.heap.objs.size = some ({ cls := .type "function", data := .func (L.fd dV doc pm c' ctv) } : Obj) := Heap.get?_push_size _ rfl
  exact ⟨⟨_, _, doc, pm, ctv, e⟩, ⟨_, e⟩, fun h1 h2 ⟨od, sl, d, p, t, z⟩ st => ⟨od, sl, d, p, t, st _ z⟩⟩
/-- one object of the store written -/
theorem StOk.wr {n : Nat} {p : Addr} {o : HO} {m : MO} (k : StOk T μ H S) (hp : μ[n]? = some p) (hn : n < S.length) (r : Ext μ H μ (upd H p o) → MoOk T μ (upd H p o) p m) : Ext μ H μ (upd H p o) ∧ StOk T μ (upd H p o) (S.set n m) := by
  have mem : p ∈ μ := List.mem_of_getElem? hp
  have ex : Ext μ H μ (upd H p o) := ⟨⟨[], by simp⟩, fun a u h na => by rw [upd_ne (by rintro rfl; exact na mem)]; exact h, fun a h na => absurd h na⟩
  refine ⟨ex, ⟨by rw [List.length_set]; exact k.len, k.nd, fun i a u h1 h2 => ?_, fun a ha => ?_, T.mono ex k.inv⟩⟩
  · by_cases hi : n = i
    · subst hi
      rw [hp] at h1
      cases h1
      rw [List.getElem?_set_self hn] at h2
      cases h2
      exact r ex
    · rw [List.getElem?_set_ne hi] at h2
      have ne : a ≠ p := by rintro rfl; exact hi (nodup_at k.nd hp h1)
      exact (k.at_ i a u h1 h2).mv ex fun v z => by rw [upd_ne ne]; exact z
  · by_cases hap : a = p
    · subst hap; exact ⟨_, upd_same⟩
    · obtain ⟨u, q⟩ := k.tr a ha
      exact ⟨u, by rw [upd_ne hap]; exact q⟩
/-- the tail of making a lambda: its code object is new, or found in the table -/
theorem lam_tail {n i : Nat} {c P : Addr} {q : Str} {params : Arguments} {body : Expr} {scope : Scope} {pos : Pos} {dV : Value} {E : Value → Shared → Prop} {Q : Value → Shared → Prop} (I : Inv X pins σ H s) (TB : TabB X.base X.mg c P) (hcode : X.env.code = .ref c) (hs : StOk T μ H S) (hn : S[n]? = some (.tab P q))
    (hL : T.lam i = ⟨params, body, scope, q, cloFrom X.env.cells scope.names [], (T.lam i).dv⟩) (hd : DvOk μ H (T.lam i).dv dV) (hfree : ∀ y ∈ scope.names, y.2 = .free → ∃ c, X.env.cells.lookup y.1 = some c)
    (h : ∀ v H' s', Inv X pins σ H' s' → Ext μ H μ H' → StOk T μ H' S → RepA T μ H' (.v (.fn i)) v → Q (match v with | .ref f => .ref f | _ => .none) s') :
    wpAny (model X.prog X.w) X.A (makeTail "<lambda>" q params (.expr body) scope X.env dV .none none pos pos.line) Q E s := by
  have hnl : n < S.length := (List.getElem?_eq_some_iff.mp hn).1
  obtain ⟨p, hp⟩ : ∃ p, μ[n]? = some p := by
    have := hs.len
    exact ⟨μ[n]'(by omega), List.getElem?_eq_getElem _⟩
  obtain ⟨ps, rfl, hP, ht, ha⟩ := hs.at_ _ _ _ hp hn
  have bP : s.heap.BuiltinsAt X.mg p := TB.bm.keeps I.bk
  have hP' : s.heap.get? p = some { cls := .none, data := .fields ps } := I.hok p _ hP
  have eL : ∀ dV doc pm c' ctv, PySem.W.kdv_fn "<lambda>" q params (.expr body) scope (cloFrom X.env.cells scope.names []) dV doc pm (.ref c') ctv = (T.lam i).fd dV doc pm c' ctv := fun dV doc pm c' ctv => by rw [hL]
  have eq : (T.lam i).qual = q := by rw [hL]
  -- the last step: the function object
  have last : ∀ {H1 : Hp} {s1 : Shared} {c' : Addr} {o : Obj} {doc pm ctv : Value} {t' : Nat}, Inv X pins σ H1 s1 → Ext μ H μ H1 → StOk T μ H1 S → H1 c' = some (CodeO c' q) → c' ∉ μ → o = { cls := .type "function", data := .func ((T.lam i).fd dV doc pm c' ctv) } →
      Q (.ref s1.heap.objs.size) { s1 with heap := s1.heap.push o, toks := t' } := fun {H1 s1 c' o doc pm ctv t'} I1 ex1 hs1 hco nc ho => by
    have nF : H1 s1.heap.objs.size = none := I1.hok.fresh (Nat.le_refl _)
    have I2 := inv_lm (t' := t') I1 ho
    have sm : Same H1 (upd H1 s1.heap.objs.size (LmO s1.heap.objs.size (T.lam i) c' dV)) := same_upd nF
    have ex2 : Ext μ H μ (upd H1 s1.heap.objs.size (LmO s1.heap.objs.size (T.lam i) c' dV)) := ex1.trans (Ext.grow sm)
    refine h (.ref s1.heap.objs.size) _ _ I2 ex2 (hs1.grow sm) ?_
    simp only [RepA, Rep]
    refine ⟨_, c', dV, rfl, hs1.free nF, upd_same, nc, by rw [eq]; exact sm _ _ hco, ?_⟩
    rcases hd with z | ⟨dt, z1, z2, z3⟩
    · exact .inl z
    · exact .inr ⟨dt, z1, z2, ex2.keep _ _ z3 z2⟩
  cases hc : codeAmong pos ps.toList with
  | none =>
    refine PySem.W.kdv_makeTail (mg := X.mg) (c := c) (P := p) (ps := ps) (closure_ok hfree) I.ok.glob (I.mod.glob.keeps I.bk) hcode (TB.code.keeps I.bk) hP' ht hc TB.gP bP fun c' ctv doc h' tk hx hge hlt hrec htb => ?_
    obtain ⟨c2, oc, vs, t, e2, hoc, hdt, hv⟩ := hrec
    cases e2
    have nC : H c' = none := I.hok.fresh hge
    have I1 := inv_table (t' := tk) (more := #[rawInt pos.line, rawInt pos.col, .ref c']) (h' := h') I hP (fun b o hb e => hx b o hb e) htb hge ⟨oc, vs, t, hoc, hdt, hv⟩
    have npc : p ≠ c' := ne_of_none hP nC
    have sm : Same H (upd H c' (CodeO c' q)) := same_upd nC
    have k1 : StOk T μ (upd H c' (CodeO c' q)) S := hs.grow sm
    have ncm : c' ∉ μ := hs.free nC
    have eLs : (ps ++ #[rawInt pos.line, rawInt pos.col, .ref c']).toList = ps.toList ++ [rawInt pos.line, rawInt pos.col, .ref c'] := by simp
    obtain ⟨ex2, k2⟩ := StOk.wr (o := .tbl (ps ++ #[rawInt pos.line, rawInt pos.col, .ref c'])) (m := .tab p q) k1 hp hnl fun ex => ⟨_, rfl, upd_same, by rw [eLs]; exact PySem.TriplesOk_snoc _ _ _ _ ht, fun p' cv hcv => by
      rw [eLs] at hcv
      rcases among_app _ ht hcv with z | z
      · obtain ⟨c0, e1, n0, e2⟩ := ha p' cv z
        exact ⟨c0, e1, n0, ex.keep _ _ (sm _ _ e2) n0⟩
      · exact ⟨c', z, ncm, by rw [upd_ne (Ne.symm npc)]; exact upd_same⟩⟩
    rw [upd_comm (Ne.symm npc)] at ex2 k2
    have eset : S.set n (.tab p q) = S := by
      refine List.ext_getElem? fun j => ?_
      by_cases hj : n = j
      · subst hj
        rw [List.getElem?_set_self hnl, hn]
      · rw [List.getElem?_set_ne hj]
    rw [eset] at k2
    refine last (doc := doc) (pm := (X.mg "__name__").getD .none) (ctv := ctv) I1 ((Ext.grow sm).trans ex2) k2 upd_same ncm ?_
    rw [← eL]
  | some cv =>
    obtain ⟨c', e, nc, hco⟩ := ha pos cv hc
    subst e
    refine PySem.W.kdv_makeTailHit (mg := X.mg) (c := c) (P := p) (ps := ps) (closure_ok hfree) I.ok.glob (I.mod.glob.keeps I.bk) hcode (TB.code.keeps I.bk) hP' ht hc bP fun ctv doc h' tk hx hsz => ?_
    have I1 : Inv X pins σ H { s with heap := h', toks := tk } := I.kept hx
    refine last (t' := tk) (doc := doc) (pm := (X.mg "__name__").getD .none) (ctv := ctv) I1 Ext.refl hs hco nc ?_
    rw [← eL]
/-- a lambda -/
def eLam (n : Nat) (P : Addr) (q : Str) (i : Nat) : EM := fun _ S => match S[n]? with
  | some (.tab P' q') => if P' = P ∧ q' = q then .ok (.v (.fn i)) S else .stk
  | _ => .stk
theorem eLam_at {n i : Nat} {P : Addr} {q : Str} {ρ : Env} {Q : VK} (h : Aft T (fun μ H => RepA T μ H) μ H Q W (eLam n P q i ρ S)) : S[n]? = some (.tab P q) ∧ ∀ μ' H' v, Ext μ H μ' H' → StOk T μ' H' S → RepA T μ' H' (.v (.fn i)) v → Q v H' := by
  unfold eLam at h
  split at h
  · rename_i P' q' e
    split at h
    · rename_i hh
      obtain ⟨rfl, rfl⟩ := hh
      exact ⟨e, h⟩
    · exact h.elim
  · exact h.elim
theorem fn_ref {i : Nat} {v : V} (r : RepA T μ H (.v (.fn i)) v) : ∃ f, v = .ref f := by
  simp only [RepA, Rep] at r
  obtain ⟨f, _, _, e, _⟩ := r
  exact ⟨f, e⟩
theorem me_lam {n i : Nat} {c P : Addr} {q : Str} {params : Arguments} {body : Expr} {scope : Scope} {pos : Pos} (TB : TabB X.base X.mg c P) (hcode : X.env.code = .ref c) (hq : X.env.qual ++ "<lambda>" = q)
    (hL : T.lam i = ⟨params, body, scope, q, cloFrom X.env.cells scope.names [], []⟩) (hdef : defaultsOf params X.env = ([], [])) (hfree : ∀ y ∈ scope.names, y.2 = .free → X.env.scope.names.lookup y.1 = some .cell ∨ X.env.scope.names.lookup y.1 = some .free) :
    ME X T W (.Lambda params body scope pos) (eLam n P q i) := ⟨fun pins s σ H Q I ⟨μ, ρ, S, he, hs, h⟩ => by
  obtain ⟨hn, h⟩ := eLam_at h
  have hfr : ∀ y ∈ scope.names, y.2 = .free → ∃ c, X.env.cells.lookup y.1 = some c := fun y hy e => (hfree y hy e).elim (fun z => I.ok.has _ (.inl z)) fun z => I.ok.has _ (.inr z)
  refine PySem.W.kla_eval hdef ?_
  rw [makeFunction_eq]
  simp only [List.zip_nil_right, List.filterMap_nil, List.isEmpty_nil, if_true, pure_bind]
  rw [hq]
  refine lam_tail (i := i) (dV := .none) I TB hcode hs hn (by rw [hL]) (.inl ⟨by rw [hL], rfl⟩) hfr fun v H' s' I' ex hs' r => ?_
  obtain ⟨f, rfl⟩ := fn_ref r
  exact ⟨.ref f, H', I', rfl, h _ _ _ ex hs' r⟩⟩
end
end L3

set_option Elab.async false
set_option linter.all false
set_option maxRecDepth 100000
set_option maxHeartbeats 2000000
namespace L3
open PySem PySem.Spec PyProof.Rows L2 NdefX LamX
section
variable {T : Tb} {J : List Addr → Hp → Prop} {hJ : ∀ {μ H μ' H'}, Ext μ H μ' H' → J μ H → J μ' H'} {hS : ∀ {μ H H'}, Sw μ H H' → J μ H → J μ H'} {μ : List Addr} {H : Hp} {S : Store} {σ : L2.St} {ρ : Env}
mutual
theorem rep_wI : ∀ {d : D} {v : V}, Rep (T.wI J hJ hS) μ H d v ↔ Rep T μ H d v
  | .non, v => by simp only [Rep]
  | .bl b, v => by simp only [Rep]
  | .int b, v => by simp only [Rep]
  | .str b, v => by simp only [Rep]
  | .cls b, v => by simp only [Rep]; exact Iff.rfl
  | .ty b, v => by simp only [Rep]
  | .adr b, v => by simp only [Rep]
  | .fn b, v => by simp only [Rep]; exact Iff.rfl
  | .tup ds, v => by simp only [Rep, rep_wIL]; exact Iff.rfl
  | .lst ds, v => by simp only [Rep, rep_wIL]
  | .fz ds, v => by simp only [Rep, rep_wIL]; exact Iff.rfl
  | .dic ks ds, v => by simp only [Rep, rep_wIL]
  | .exc k fs, v => by simp only [Rep, rep_wIF]; exact Iff.rfl
  | .dnk ks xs, v => by simp only [Rep, rep_wIL]; exact Iff.rfl
  | .obj k fs, v => by simp only [Rep, rep_wIF]; exact Iff.rfl
theorem rep_wIL : ∀ {d : List D} {v : List V}, RepL (T.wI J hJ hS) μ H d v ↔ RepL T μ H d v
  | [], v => by simp only [RepL]
  | d :: ds, v => by simp only [RepL, rep_wI, rep_wIL]
theorem rep_wIF : ∀ {d : List (Str × D)} {v : List (Str × V)}, RepF (T.wI J hJ hS) μ H d v ↔ RepF T μ H d v
  | [], v => by simp only [RepF]
  | (f, d) :: ds, v => by simp only [RepF, rep_wI, rep_wIF]
end
theorem rep_wIA {a : A} {v : V} : RepA (T.wI J hJ hS) μ H a v ↔ RepA T μ H a v := by
  cases a with
  | v d => exact rep_wI
  | m n => exact Iff.rfl
theorem rep_wIAs : ∀ {xs : List A} {vs : List V}, RepAs (T.wI J hJ hS) μ H xs vs ↔ RepAs T μ H xs vs
  | [], vs => Iff.rfl
  | x :: xs, vs => by simp only [RepAs, rep_wIA, rep_wIAs]
theorem rep_wIE : RepE (T.wI J hJ hS) μ H ρ σ ↔ RepE T μ H ρ σ := ⟨fun h => ⟨h.len, fun i x e => let ⟨v, e1, r⟩ := h.at_ i x e; ⟨v, e1, rep_wIA.mp r⟩⟩, fun h => ⟨h.len, fun i x e => let ⟨v, e1, r⟩ := h.at_ i x e; ⟨v, e1, rep_wIA.mpr r⟩⟩⟩
theorem mo_wI {a : Addr} {o : MO} : MoOk (T.wI J hJ hS) μ H a o ↔ MoOk T μ H a o := by
  cases o with
  | lst ds => simp only [MoOk, rep_wIL]
  | ins k fs => simp only [MoOk, rep_wIF]; exact Iff.rfl
  | dic kvs => simp only [MoOk, rep_wIL]
  | lok kvs => simp only [MoOk, rep_wIL]
  | x kd ks xs => simp only [MoOk, rep_wIL]; cases kd <;> exact Iff.rfl
  | tab P q => exact Iff.rfl
theorem StOk.toI (h : StOk T μ H S) (j : J μ H) : StOk (T.wI J hJ hS) μ H S := ⟨h.len, h.nd, fun i a o h1 h2 => mo_wI.mpr (h.at_ i a o h1 h2), h.tr, j⟩
theorem StOk.ofI (h : StOk (T.wI J hJ hS) μ H S) (j : J μ H → T.I μ H) : StOk T μ H S := ⟨h.len, h.nd, fun i a o h1 h2 => mo_wI.mp (h.at_ i a o h1 h2), h.tr, j h.inv⟩
theorem rep_wIer {e : Er} {c : Value} {d : Option Addr} : RepEr (T.wI J hJ hS) μ H e c d ↔ RepEr T μ H e c d := by
  unfold RepEr
  simp only [rep_wIF]
  exact Iff.rfl
theorem aft_wI {Q : VK} {W : XK} {c : R A} (j : ∀ μ H, J μ H → T.I μ H) (h : Aft T (fun μ H => RepA T μ H) μ H Q W c) : Aft (T.wI J hJ hS) (fun μ H => RepA (T.wI J hJ hS) μ H) μ H Q W c := by
  cases c with
  | ok a S => exact fun μ' H' v ex hs r => h μ' H' v ex (hs.ofI (j _ _)) (rep_wIA.mp r)
  | err e S => exact fun μ' H' c d ex hs r => h μ' H' c d ex (hs.ofI (j _ _)) (rep_wIer.mp r)
  | stk => exact h
end
/-- what the running frame's captured names add -/
def capI (T : Tb) (ρ : Env) (σ : L2.St) : List Addr → Hp → Prop := fun μ H => T.I μ H ∧ RepE T μ H ρ σ
theorem capI_mono {T : Tb} {ρ : Env} {σ : L2.St} : ∀ {μ H μ' H'}, Ext μ H μ' H' → capI T ρ σ μ H → capI T ρ σ μ' H' := fun e h => ⟨T.mono e h.1, h.2.mono e⟩
theorem capI_sw {T : Tb} {ρ : Env} {σ : L2.St} : ∀ {μ H H'}, Sw μ H H' → capI T ρ σ μ H → capI T ρ σ μ H' := fun e h => ⟨T.sw e h.1, h.2.sw e⟩
abbrev Tb.cap (T : Tb) (ρ : Env) (σ : L2.St) : Tb := T.wI (capI T ρ σ) capI_mono capI_sw
/-- a base that holds the running frame's cells too -/
structure BaseX (X : Cx) (base : Heap) (σ : L2.St) : Prop where
  ok : X.Ok
  mod : Mod X.K X.mg base
  sub : ∀ b o, X.base.get? b = some o → base.get? b = some o
  cell : ∀ y c, X.env.cells.lookup y = some c → ∃ v, base.IsCell c v
  val : ∀ (i : Nat) y v, X.N[i]? = some y → σ[i]? = some (some v) → (X.env.scope.names.lookup y = some .cell ∨ X.env.scope.names.lookup y = some .free) → ∃ u c, RelV v u ∧ X.env.cells.lookup y = some c ∧ base.IsCell c (some u)
def lamFr (js : List Nat) (ρ : Env) : Env := js.map fun j => match ρ[j]? with
  | some (some x) => some x
  | _ => none
def lamM (l : Nat) (js : List Nat) (dv : List Int) (m : EM) (ρ : Env) : Store → R A := fun S => m (dv.map (fun i => some (.v (.int i))) ++ (lamFr js ρ ++ List.replicate (l - dv.length - js.length) none)) S
abbrev LF.nf (L : LF) (c' : Addr) : NF := ⟨"<lambda>", L.qual, L.params, [], L.scope, L.cl, c'⟩
section
variable {X : Cx} {T : Tb} {base' : Heap} {σ : L2.St} {ρ : Env} {i k : Nat} {params : Arguments} {body : Expr} {scope : Scope} {q : Str} {dv : List Int} {N ps fr : List Str} {js : List Nat} {m : EM}
theorem start_capt {μ : List Addr} {H : Hp} (h : RepE T μ H ρ σ) (hl : ps.length = dv.length) : RepE T μ H (dv.map (fun i => some (A.v (.int i))) ++ (lamFr js ρ ++ List.replicate (N.length - dv.length - js.length) none)) (startF N (dv.map V.int) (js.map (slotAt σ))) := by
  unfold startF
  rw [List.length_map, List.length_map]
  refine ⟨by simp [lamFr], fun j x e => ?_⟩
  by_cases h1 : j < dv.length
  · rw [List.getElem?_append_left (by simpa using h1), List.getElem?_map] at e
    rw [List.getElem?_append_left (by simpa using h1), List.getElem?_map, List.getElem?_map]
    cases z : dv[j]? with
    | none => rw [z] at e; cases e
    | some d =>
      rw [z] at e
      cases e
      exact ⟨.int d, rfl, by simp only [RepA, Rep]⟩
  · rw [List.getElem?_append_right (by simpa using h1), List.length_map] at e
    rw [List.getElem?_append_right (by simpa using h1), List.length_map, List.length_map]
    by_cases h2 : j - dv.length < js.length
    · rw [List.getElem?_append_left (by simpa [lamFr] using h2)] at e
      rw [List.getElem?_append_left (by simpa using h2), List.getElem?_map]
      unfold lamFr at e
      rw [List.getElem?_map] at e
      cases z : js[j - dv.length]? with
      | none => rw [z] at e; cases e
      | some jj =>
        rw [z] at e
        cases z2 : ρ[jj]? with
        | none => simp [z2] at e
        | some o =>
          cases o with
          | none => simp [z2] at e
          | some y =>
            simp [z2] at e
            subst e
            obtain ⟨v, e1, r⟩ := h.at_ jj _ z2
            exact ⟨v, by simp [slotAt_of e1], r⟩
    · rw [List.getElem?_append_right (by simpa [lamFr] using h2), List.getElem?_replicate] at e
      split at e <;> cases e
/-- a lambda by its body -/
theorem lam_run (B : BaseX X base' σ) (hL : T.lam i = ⟨params, body, scope, q, cloFrom X.env.cells scope.names [], dv⟩) (SC : NScope N ps fr scope) (hfree : ∀ y ∈ scope.names, y.2 = .free → X.env.scope.names.lookup y.1 = some .cell ∨ X.env.scope.names.lookup y.1 = some .free)
    (hfr : ∀ y ∈ fr, (y, NameKind.free) ∈ scope.names) (hjs : js.map (fun j => X.N[j]?) = fr.map some) (hpl : ps.length = dv.length)
    (hb : ∀ (s : Shared) (dV doc pm : Value) (c' : Addr) (ctv : Value) (its : List Value), Vals (dv.map V.int) its → ((dv = [] ∧ dV = .none) ∨ ∃ dt o n, dV = .ref dt ∧ s.heap.get? dt = some o ∧ o.data = .seq its.toArray n) → BindsTo s ((T.lam i).fd dV doc pm c' ctv) ⟨[], []⟩ (ps.zip its))
    (hbody : ∀ (A : Around) (outer : List PySem.Env) (s : Shared) (H : Hp) (E : XK) (f c' : Addr), Room k (A.deeper (envF (LF.nf (T.lam i) c') f s.heap.objs.size)) → Lv (ncx (CXB T.nn X.prog X.w) X.prog X.w X.K X.mg base' N (LF.nf (T.lam i) c') f A outer s H E) (T.cap ρ σ) E →
      PassesOwn (model X.prog X.w) (A.deeper (envF (LF.nf (T.lam i) c') f s.heap.objs.size)) (envF (LF.nf (T.lam i) c') f s.heap.objs.size) (ncx (CXB T.nn X.prog X.w) X.prog X.w X.K X.mg base' N (LF.nf (T.lam i) c') f A outer s H E).xe →
      ME (ncx (CXB T.nn X.prog X.w) X.prog X.w X.K X.mg base' N (LF.nf (T.lam i) c') f A outer s H E) (T.cap ρ σ) E body m) (hK : T.K = X.K) :
    LamRun X.prog X.w X.K X.mg base' (T.cap ρ σ) (k + 1) i (lamM N.length js dv m ρ) := by
  intro A outer s H μ S Q E f hr e0 hs r h
  simp only [RepA, Rep] at r
  obtain ⟨f', c', dV, ef, nf, hf, nc, hc, hd⟩ := r
  cases ef
  have eL : (T.cap ρ σ).lam i = T.lam i := rfl
  rw [eL] at hf hc hd
  have KX : X.K.In s.heap := e0.mod.kin.keeps fun b o e => (e0.bs b o e).1
  have lim : s.heap.NoLimit := e0.mod.nolimit.keeps fun b o e => (e0.bs b o e).1
  obtain ⟨od, sl, doc, pm, ctv, ho⟩ := lmO_at e0.hok hf
  have hsc : (T.lam i).scope = scope := by rw [hL]
  have hcl : (T.lam i).cl = cloFrom X.env.cells scope.names [] := by rw [hL]
  have hbo : (T.lam i).body = body := by rw [hL]
  have hdv : (T.lam i).dv = dv := by rw [hL]
  obtain ⟨its, rv, hde⟩ : ∃ its : List Value, Vals (dv.map V.int) its ∧ ((dv = [] ∧ dV = .none) ∨ ∃ dt o n, dV = .ref dt ∧ s.heap.get? dt = some o ∧ o.data = .seq its.toArray n) := by
    rw [hdv] at hd
    rcases hd with ⟨rfl, rfl⟩ | ⟨dt, rfl, _, hdt⟩
    · exact ⟨[], .nil, .inl ⟨rfl, rfl⟩⟩
    · have z := e0.hok _ _ hdt
      obtain ⟨_, its, r2, o, e1, _, n, e3⟩ := z
      exact ⟨its, r2, .inr ⟨dt, o, n, rfl, e1, e3⟩⟩
  have hlits : its.length = ps.length := by rw [← rv.length, List.length_map, hpl]
  refine PySem.W.kla_callFunE hr.depth ho rfl (by show (T.lam i).scope.isCoroutine = false; rw [hsc]; exact SC.co) (by show (T.lam i).scope.isGenerator = false; rw [hsc]; exact SC.gen) rfl (codeO_at e0.hok hc) (hb s dV doc pm c' ctv its rv hde _ _ _ _ ?_)
  have CA : CellsAt (LF.nf (T.lam i) c').cl fr (js.map (slotAt σ)) s.heap H := by
    show CellsAt (T.lam i).cl fr (js.map (slotAt σ)) s.heap H
    rw [hcl]
    have cp : Caps X (cloFrom X.env.cells scope.names []) fr js := Caps.made B.ok hfree hfr hjs
    have kp : ∀ c v, base'.IsCell c v → s.heap.IsCell c v ∧ H c = none := fun c v ⟨o, e1, e2⟩ => ⟨⟨o, (e0.bs _ _ e1).1, e2⟩, (e0.bs _ _ e1).2⟩
    refine ⟨?_, fun y c e => ?_, fun x y c e1 e2 => B.ok.inj x y c (cp.sub x c e1) (cp.sub y c e2), fun j y e => ?_⟩
    · have z := congrArg List.length cp.at_
      rw [List.length_map, List.length_map] at z
      rw [List.length_map]
      exact z
    · obtain ⟨v, z⟩ := B.cell y c (cp.sub y c e)
      exact ⟨(kp c v z).2, v, (kp c v z).1⟩
    · have e2 : (js.map fun j => X.N[j]?)[j]? = some (some y) := by rw [cp.at_, List.getElem?_map, e] <;> rfl
      rw [List.getElem?_map] at e2
      have ym := List.mem_of_getElem? e
      obtain ⟨a, ha⟩ : ∃ a, X.env.cells.lookup y = some a := (cp.kin y ym).elim (fun z => B.ok.has y (.inl z)) fun z => B.ok.has y (.inr z)
      refine ⟨a, cp.sup y ym a ha, fun v ev => ?_⟩
      cases ej : js[j]? with
      | none => rw [ej] at e2; cases e2
      | some jj =>
        rw [ej] at e2
        have hj : X.N[jj]? = some y := Option.some.inj (show some (X.N[jj]?) = some (some y) from e2)
        rw [List.getElem?_map, ej] at ev
        have ev2 : σ[jj]? = some (some v) := slotAt_some (Option.some.inj (show some (slotAt σ jj) = some (some v) from ev))
        obtain ⟨u, c, r1, h1, h2⟩ := B.val jj y v hj ev2 (cp.kin y ym)
        rw [ha] at h1
        cases h1
        exact ⟨u, r1, (kp _ _ h2).1⟩
  have SC' : NScope N ps fr (LF.nf (T.lam i) c').scope := by show NScope N ps fr (T.lam i).scope; rw [hsc]; exact SC
  refine wpAny_newFunctionEnv SC'.nocell (fun ⟨n, _⟩ hy => SC'.par n (List.of_mem_zip hy).1) (fun h₁ hns hsb => ⟨lim.fresh _ hsb, ?_⟩) SC'.kind
  show codeAny _ _ (.expr (T.lam i).body (envF (LF.nf (T.lam i) c') f s.heap.objs.size)) _ _
  rw [hbo]
  refine PySem.W.kla_codeExpr ?_
  have kp : ∀ b o, s.heap.get? b = some o → h₁.get? b = some o := fun b o e => hsb.extBut b o (Nat.ne_of_lt (Heap.lt_size e)) (Heap.get?_push_of_some _ e)
  have I : Inv (ncx (CXB T.nn X.prog X.w) X.prog X.w X.K X.mg base' N (LF.nf (T.lam i) c') f A outer s H E) [] (startF N (dv.map V.int) (js.map (slotAt σ))) H { s with heap := h₁, toks := s.toks + (ps.zip its).length } :=
    inv_startN SC' hr.hd e0 (by rw [List.length_map, hpl]) rv CA hns kp
  have tk : TkB T.nn (ncx (CXB T.nn X.prog X.w) X.prog X.w X.K X.mg base' N (LF.nf (T.lam i) c') f A outer s H E) (fun c d _ H => E c d H) := tkB_of rfl rfl rfl rfl
  have ht := hbody A outer s H E f c' (hr.deeper _) ⟨hK.symm, tk⟩ (passes_of (K := fun e s'' => CXB T.nn X.prog X.w outer H s E e s'') rfl)
  have hq : rd (T.cap ρ σ) E m (startF N (dv.map V.int) (js.map (slotAt σ))) H Q := ⟨μ, _, S, rep_wIE.mpr (start_capt hs.inv.2 hpl), hs, h⟩
  refine wpAny_mono (ht.run [] _ _ H Q I hq) (fun u s' ⟨v, H', J, rv', q'⟩ => ⟨v, H', J.os, J.bare, J.base, J.hok, rv', q'⟩) fun e s' hs => hs
end
/-! the call of a lambda that a name holds -/
def eCallFn (slot : Nat) (lm : Nat → Store → R A) : EM := fun ρ S => match ρ[slot]? with
  | some (some (.v (.fn i))) => lm i S
  | _ => .stk
section
variable {X : Cx} {T : Tb} {W : XK} {k j slot : Nat} {lm : Nat → Store → R A} {x : Str} {p pos : Pos}
theorem me_callFn (L : Lv X T W) (hl : ∀ i, LamRun X.prog X.w X.K X.mg X.base T k i (lm i)) (hr : Room j X.A) (hk : k ≤ j) (hN : X.N[slot]? = some x) (hv : Vis X.env.scope x) (hd : (x == ("__debug__" : Str)) = false := by decide) (hcd : (x == ("__classdict__" : Str)) = false := by decide) :
    ME X T W (.Call (.Name x p) [] [] pos) (eCallFn slot lm) := ⟨fun pins s σ H Q I ⟨μ, ρ, S, he, hs, h⟩ => by
  unfold eCallFn at h
  split at h
  · rename_i i e
    obtain ⟨v, e1, r⟩ := he.at_ _ _ e
    obtain ⟨f, rfl⟩ := fn_ref r
    refine wpAny_Call_Name_kw (thn ((pe_var (pos := p) hN hv hd hcd).run pins s σ H (fun v H1 => v = .ref f ∧ H1 = H) I ⟨.ref f, e1, rfl, rfl⟩) fun u s1 ⟨v, H1, I1, r1, q1⟩ => ?_)
    obtain ⟨ev, eH⟩ := q1
    subst ev
    rw [eH] at I1
    obtain rfl : u = Value.ref f := r1
    have hF : PySem.W.FnAt f s1.heap := by
      simp only [RepA, Rep] at r
      obtain ⟨f', c', dV, ef, _, hf, _⟩ := r
      cases ef
      obtain ⟨od, sl, doc, pm, ctv, ho⟩ := lmO_at I1.hok hf
      exact ⟨_, od, _, sl, ho⟩
    refine PySem.W.callWith_F0 (first := []) hF ?_
    show wpAny _ _ (call (.ref f) []) _ _ _
    refine wpAny_call (codeAny_mono (hl i X.A X.stack s1 H μ S Q W f (hr.mono hk) I1.env0 hs r h) fun r s' hq => ?_)
    cases r with
    | error e => exact L.pass pins σ H s1 e s' I1 hq
    | ok fl =>
      cases fl with
      | ret u => exact I1.after hq
      | next => exact False.elim hq
      | brk => exact False.elim hq
      | cont => exact False.elim hq
  · exact h.elim⟩
end
/-! the call of a def that runs lambdas of the running frame -/
def eCallL (fM : Env → FM) (r : AM) : EM := fun ρ S => (r ρ S).bind fun xs S1 => fM ρ xs S1
section
variable {X : Cx} {pins : List (Addr × Obj)} {σ : L2.St} {H : Hp} {s : Shared}
/-- the cells that their names find -/
def namedC (l : List (Str × Addr)) : List Addr := (l.filter fun p => l.lookup p.1 == some p.2).map (·.2)
/-- the heap, but for what is neither in the base nor one of the frame's cells -/
def baseOf (X : Cx) (s : Shared) : Heap := PySem.W.hideAll s.heap ((List.range s.heap.objs.size).filter fun b => (X.base.get? b).isNone && !((namedC X.env.cells).contains b))
theorem baseOf_of {b : Addr} {o : Obj} (e : (baseOf X s).get? b = some o) : s.heap.get? b = some o ∧ ((∃ u, X.base.get? b = some u) ∨ b ∈ namedC X.env.cells) := by
  have h1 := PySem.W.of_hideAll _ e
  refine ⟨h1, ?_⟩
  by_cases hm : b ∈ (List.range s.heap.objs.size).filter fun b => (X.base.get? b).isNone && !((namedC X.env.cells).contains b)
  · have := PySem.W.hideAll_none _ (h := s.heap) hm
    unfold baseOf at e
    rw [this] at e
    cases e
  · have hlt := Heap.lt_size h1
    rw [List.mem_filter] at hm
    have hr : b ∈ List.range s.heap.objs.size := List.mem_range.mpr hlt
    cases q : X.base.get? b with
    | some u => exact .inl ⟨u, rfl⟩
    | none =>
      right
      by_cases hc : b ∈ namedC X.env.cells
      · exact hc
      · exact absurd ⟨hr, by simp [q]; simpa using hc⟩ hm
theorem baseOf_in {b : Addr} {o : Obj} (e : s.heap.get? b = some o) (h : (∃ u, X.base.get? b = some u) ∨ b ∈ namedC X.env.cells) : (baseOf X s).get? b = some o := by
  unfold baseOf
  refine PySem.W.hideAll_get _ e fun hm => ?_
  rw [List.mem_filter] at hm
  have h2 := hm.2
  simp only [Bool.and_eq_true, Option.isNone_iff_eq_none, Bool.not_eq_true', List.contains_eq_mem, decide_eq_false_iff_not] at h2
  rcases h with ⟨u, hu⟩ | h
  · rw [hu] at h2; cases h2.1
  · exact h2.2 h
theorem mem_snd {l : List (Str × Addr)} {y : Str} {c : Addr} (h : l.lookup y = some c) : c ∈ namedC l := List.mem_map.mpr ⟨(y, c), List.mem_filter.mpr ⟨PySem.mem_of_lookup h, by simp [h]⟩, rfl⟩
/-- each cell stands under a name of its own -/
theorem cells_named {c : Addr} (h : c ∈ namedC X.env.cells) : ∃ y, X.env.cells.lookup y = some c := by
  obtain ⟨p, hp, rfl⟩ := List.mem_map.mp h
  exact ⟨p.1, by simpa using (List.mem_filter.mp hp).2⟩
/-- no frame is a cell -/
abbrev CellF (X : Cx) : Prop := ∀ pins σ H s, Inv X pins σ H s → ∀ y c, X.env.cells.lookup y = some c → c ∉ frs X.stack
theorem cellF_of (hfn : ∀ y, X.fn y = true) : CellF X := fun pins σ H s I y c hy hb => by
  rcases List.mem_cons.mp (I.stkSub c hb) with e | hb
  · exact I.cne y c hy e
  · obtain ⟨_, o, ho, _⟩ := I.ok.funs.mem hb
    exact absurd (Nat.lt_of_lt_of_le (Heap.lt_size ho) (I.ok.cab y c (hfn y) hy)) (Nat.lt_irrefl _)
theorem baseX_of (I : Inv X pins σ H s) (hcf : CellF X) : BaseX X (baseOf X s) σ ∧ Env0 X.prog X.w X.K X.mg (baseOf X s) X.A X.stack s H := by
  have sub : ∀ b o, X.base.get? b = some o → (baseOf X s).get? b = some o := fun b o e => baseOf_in (I.bk b o e) (.inl ⟨o, e⟩)
  have md : Mod X.K X.mg (baseOf X s) := ⟨I.ok.mod.kin.keeps sub, I.ok.mod.glob.keeps sub, let ⟨mb, h1, h2⟩ := I.ok.mod.blt; ⟨mb, h1.keeps sub, h2⟩, I.ok.mod.nolimit.keeps sub⟩
  have cl : ∀ y c v, X.env.cells.lookup y = some c → s.heap.IsCell c v → (baseOf X s).IsCell c v := fun y c v h ⟨o, e1, e2⟩ => ⟨o, baseOf_in e1 (.inr (mem_snd h)), e2⟩
  refine ⟨⟨I.ok, md, sub, fun y c h => ?_, fun i y v hN hs hk => ?_⟩, ?_⟩
  · obtain ⟨v, z⟩ := I.cell y c h
    exact ⟨v, cl y c v h z⟩
  · obtain ⟨m, hn, hl⟩ := I.loc
    obtain ⟨u, r, l⟩ := hl i y v hN hs (hk.elim (fun z => .inr (.inl z)) fun z => .inr (.inr z))
    rcases l with ⟨z, _⟩ | ⟨_, c, hc, hcell⟩
    · have z' : X.env.scope.names.lookup y = some .local := z
      rcases hk with k | k <;> rw [k] at z' <;> cases z'
    · exact ⟨u, c, r, hc, cl y c _ hc hcell⟩
  · have e0 := I.env0
    have notcell : ∀ b ∈ frs X.stack, b ∉ namedC X.env.cells := fun b hb hc => by
      obtain ⟨y, hy⟩ := cells_named hc
      exact hcf _ _ _ _ I y b hy hb
    refine ⟨e0.frames, md, fun b o e => ?_, by rw [show (baseOf X s).objs.size = s.heap.objs.size from PySem.W.hideAll_size _ _]; exact Nat.le_refl _, ?_, e0.frf, e0.hok, e0.bare⟩
    · obtain ⟨h1, h2⟩ := baseOf_of e
      refine ⟨h1, ?_⟩
      rcases h2 with ⟨u, hu⟩ | hc
      · exact (I.bs b u hu).2
      · obtain ⟨y, hy⟩ := cells_named hc
        exact I.freeC y b hy
    · have go : ∀ l : List PySem.Env, (∀ b ∈ frs l, b ∉ namedC X.env.cells) → s.heap.FunFrames X.base l → s.heap.FunFrames (baseOf X s) l := by
        intro l
        induction l with
        | nil => intro _ _; trivial
        | cons env r ih =>
          rintro hn ⟨hk, ⟨L, o, hf, hb, ho, hd⟩, hr⟩
          refine ⟨hk, ⟨L, o, hf, ?_, ho, hd⟩, ih (fun b hb => hn b ?_) hr⟩
          · cases q : (baseOf X s).get? L with
            | none => rfl
            | some u =>
              rcases (baseOf_of q).2 with ⟨u', hu⟩ | hc
              · rw [hb] at hu; cases hu
              · exact absurd hc (hn L (by unfold frs; rw [List.filterMap_cons, hf]; exact List.mem_cons_self))
          · unfold frs at hb ⊢
            rw [List.filterMap_cons, hf]
            exact List.mem_cons_of_mem _ hb
      exact go X.stack notcell e0.funs
end
section
variable {X : Cx} {T : Tb} {W : XK} {e : Expr} {es : List Expr} {r : AM} {x : Str} {p pos : Pos} {k : Nat} {f : Addr} {fd : FuncData} {ps : List Str} {fM : Env → FM}
theorem me_callL (L : Lv X T W) (hcf : CellF X) (F : ∀ base' ρ σ, BaseX X base' σ → FnOk X.prog X.w X.K X.mg base' (CXB T.nn X.prog X.w) k f fd ps (spD (T.cap ρ σ) (fM ρ))) (hr : Room k X.A) (hg : Gl X x) (hm : X.mg x = some (.ref f)) (hk : PySem.W.keepIn X.K (.ref f) = true) (hb : Binds X.K fd ps [])
    (ha : MA X T W (e :: es) r) (hdb : (x == ("__debug__" : Str)) = false := by decide) (he : starEach (e :: es) X.env = (false, eval e X.env) :: starEach es X.env := by rfl) (hpl : (backTo pos (starEach es X.env)).any (·.1) = false := by rfl) :
    ME X T W (.Call (.Name x p) (e :: es) [] pos) (eCallL fM r) := ⟨fun pins s σ H Q I ⟨μ, ρ, S, hE, hs, h⟩ => by
  refine wpAny_Call_Name_kw (ld_glob I hg hm ?_ hdb)
  have hA : rdA T W r σ H fun vs H1 => ∃ μ1 S1 xs, RepE T μ1 H1 ρ σ ∧ StOk T μ1 H1 S1 ∧ RepAs T μ1 H1 xs vs ∧ Aft T (fun μ H => RepA T μ H) μ1 H1 Q W (fM ρ xs S1) := rdA_step hE hs h fun vs H1 μ1 S1 xs ex he1 hs1 rs h1 => ⟨μ1, S1, xs, he1, hs1, rs, h1⟩
  refine PySem.W.callWith_K (h₀ := X.base) I.ok.mod.kin hk (thn (ha.run pos pins s σ H _ I hA) fun us s1 ⟨vs, H1, I1, rv, μ1, S1, xs, he1, hs1, rs, h1⟩ => ⟨I1.kIn, ?_⟩) he hpl
  obtain ⟨B, e0⟩ := baseX_of I1 hcf
  have hsp : spD (T.cap ρ σ) (fM ρ) vs H1 Q W := ⟨μ1, S1, xs, rep_wIAs.mpr rs, hs1.toI ⟨hs1.inv, he1⟩, aft_wI (fun _ _ h => h.1) h1⟩
  have Fk := F (baseOf X s1) ρ σ B
  have hl : (us ++ []).length = ps.length := by rw [List.append_nil, ← rv.length, Fk.len _ _ _ _ hsp]
  have b2 := hb s1 us I1.kIn hl
  rw [List.append_nil] at b2
  show wpAny _ _ (call (.ref f) us) _ _ _
  refine wpAny_call (codeAny_mono (Fk.run X.A X.stack s1 H1 ⟨us, []⟩ us vs Q W hr e0 b2 rv hsp) fun r s' hq => ?_)
  cases r with
  | error e => exact L.pass pins σ H1 s1 e s' I1 hq
  | ok fl =>
    cases fl with
    | ret u => exact I1.after hq
    | next => exact False.elim hq
    | brk => exact False.elim hq
    | cont => exact False.elim hq⟩
end
end L3

set_option Elab.async false
set_option linter.all false
set_option maxRecDepth 100000
set_option maxHeartbeats 2000000
namespace L3
open PySem PySem.Spec PyProof.Rows L2 NdefX LamX
open L2H (RoomH PinOk cxH inv_startH roomH_of)
/-- n.f, n the name of the handled exception -/
def eXf (slot : Nat) (a : Addr) (er : Er) (f : Str) : EM := fun ρ S => match ρ[slot]? with
  | some (some (.v (.adr b))) => if b = a then (match er.fs.lookup f with
      | some d => .ok (.v d) S
      | none => .stk) else .stk
  | _ => .stk
section
variable {X : Cx} {T : Tb} {W : XK} {a : Addr} {oe : Obj} {er : Er} {d : Option Addr} {slot : Nat} {f x : Str} {p pos : Pos}
theorem me_xf (hK : X.K = T.K) (hp : (a, oe) ∈ X.pn) (hz : Zc (.ref (T.cA er.k)) d oe) (hf : ∃ vs, oe.data = .fields vs) (XC : XfC T.K (T.cA er.k)) (hno : PySem.W.findIn T.K (.ref (T.cA er.k)) f = some none) (hN : X.N[slot]? = some x) (hv : Vis X.env.scope x)
    (hd : (x == ("__debug__" : Str)) = false := by decide) (hcd : (x == ("__classdict__" : Str)) = false := by decide) (hb : attributeBase (.Name x p) f X.env (eval (.Name x p) X.env) = eval (.Name x p) X.env := by rfl) :
    ME X (T.ex er d) W (.Attribute (.Name x p) f pos) (eXf slot a er f) := ⟨fun pins s σ H Q I ⟨μ, ρ, S, he, hs, h⟩ => by
  unfold eXf at h
  split at h
  · rename_i b e
    split at h
    · rename_i hba
      subst hba
      split at h
      · rename_i dv q
        obtain ⟨v, e1, r⟩ := he.at_ _ _ e
        simp only [RepA, Rep] at r
        subst r
        obtain ⟨dd, vfs, ed, nd, hdd, rf⟩ := hs.inv.2
        refine attr_of hb (thn ((pe_var (pos := p) hN hv hd hcd).run pins s σ H (fun v H1 => v = .ref b ∧ H1 = H) I ⟨.ref b, e1, rfl, rfl⟩) fun u s1 ⟨v, H1, I1, r1, q1⟩ => ?_)
        obtain ⟨ev, eH⟩ := q1
        subst ev
        rw [eH] at I1
        obtain rfl : u = Value.ref b := r1
        obtain ⟨ha, _⟩ := I1.pin (b, oe) (List.mem_append_left _ hp)
        obtain ⟨vs, hdt⟩ := hf
        have hx : ObjOk X.prog X.w H s1.heap dd (.xd vfs) := I1.hok dd _ hdd
        obtain ⟨mA, hns, hr⟩ := hx
        obtain ⟨od, ho, hl⟩ := lookIn_ns hns
        obtain ⟨w, l, rw'⟩ := (lookF_rep rf).1 _ q
        obtain ⟨u, hu, ru⟩ := RelO.some_of (v := w) (o := mA f) (by rw [← l]; exact hr f)
        have J : PySem.W.InstAt s1.heap b oe (T.cA er.k) (some od) := ⟨ha, hz.1, by unfold PySem.W.notCls; rw [hdt] <;> rfl, by rw [hz.2, ed]; exact ho⟩
        refine HandSPX.exc_get (K := X.K) I1.kIn J (by rw [hK]; exact XC.ga) (by rw [hK]; exact XC.gg) (by rw [hK]; exact XC.exC) (PySem.W.findObj_own (by rw [hK]; exact XC.hdC) (by rw [hK]; exact hno) rfl (by rw [hl, hu])) (handed_of ru) ⟨w, H, I1.tok _, ru, ?_⟩
        exact h μ H w Ext.refl hs (rep_wIA.mpr rw')
      · exact h.elim
    · exact h.elim
  · exact h.elim⟩
end
/-! ### a def that is handed the handled exception -/
def FldOk (C : Nat → Prop) (P : Program) (w : World) (K : PySem.W.Frag) (mg : Str → Option Value) (base : Heap) (T : Tb) (k : Nat) (f : Addr) (fd : FuncData) (x0 : Str) (g : Addr → Er → Store → R A) : Prop :=
  ∀ (A : Around) (outer : List PySem.Env) (s : Shared) (H : Hp) (args : Args) (μ : List Addr) (S : Store) (Q : VK) (E : XK) (a : Addr) (oe : Obj) (er : Er) (d : Option Addr), C er.k → RoomH k A → PinOk outer H s (a, oe) → Zc (.ref (T.cA er.k)) d oe → (∃ vs, oe.data = .fields vs) →
    Env0 P w K mg base A outer s H → BindsTo s fd args [(x0, .ref a)] → StOk (T.ex er d) μ H S → Aft (T.ex er d) (fun μ H => RepA (T.ex er d) μ H) μ H Q E (g a er S) → codeAny (model P w) A (.call (.ref f) args) (CR (CXB T.nn P w) outer P w H s Q E) s
def fldM (l : Nat) (m : Addr → Er → SM) : Addr → Er → Store → R A := fun a er S => (m a er (some (.v (.adr a)) :: List.replicate (l - 1) none) S).toR
section
variable {C : Nat → Prop} {P : Program} {w : World} {K : PySem.W.Frag} {mg : Str → Option Value} {base : Heap} {T : Tb} {k : Nat} {f : Addr} {fd : FuncData} {x qual x0 : Str} {st : Stmt} {N : List Str} {m : Addr → Er → SM}
theorem fld_of (F : Fun K x qual st f fd) (SC : FnScope N [x0] (defScope st)) (hK : K = T.K)
    (hbody : ∀ (cdv : Value) (A : Around) (outer : List PySem.Env) (s : Shared) (H : Hp) (E : XK) (a : Addr) (oe : Obj) (er : Er) (d : Option Addr), C er.k → Zc (.ref (T.cA er.k)) d oe → (∃ vs, oe.data = .fields vs) → RoomH k (A.deeper (envOfC qual (defScope st) s.heap.objs.size f cdv)) →
      Lv (cxH (CXB T.nn P w) P w K mg base N qual (defScope st) f cdv A outer s H E (a, oe)) (T.ex er d) E → MB (cxH (CXB T.nn P w) P w K mg base N qual (defScope st) f cdv A outer s H E (a, oe)) (T.ex er d) E (defBody st) (m a er)) :
    FldOk C P w K mg base T (k + 1) f fd x0 (fldM N.length m) := by
  intro A outer s H args μ S Q E a oe er d hC hr hpin hz hf e0 hb hs h
  obtain ⟨oc, od, kV, doc, pm, an, cdv, ct, osl, rfl, lk, hcd⟩ := F.ex
  have KX : K.In s.heap := e0.mod.kin.keeps fun b o e => (e0.bs b o e).1
  have lim : s.heap.NoLimit := e0.mod.nolimit.keeps fun b o e => (e0.bs b o e).1
  have hkind : ∀ y ∈ [(x0, Value.ref a)], (defScope st).names.lookup y.1 = some .local ∨ ((defScope st).names.lookup y.1 = some .cell ∧ ((cellsFrom (s.heap.objs.size + 1) (defScope st).names []).lookup y.1).isSome = true) := fun y hy => by
    have : y = (x0, Value.ref a) := by simpa using hy
    subst this
    rcases SC.par x0 (by simp) with q | q
    · exact .inl q
    · exact .inr ⟨q, PySem.W.cellsFrom_some _ _ _ (.inl q)⟩
  refine codeAny_call_function hr.depth (KX _ _ lk) rfl SC.co SC.gen rfl (PySem.W.codeRec_of KX hcd) (hb _ _ _ _ ?_)
  refine wpAny_newFunctionEnv_cells SC.kind hkind fun env he s1 xx => ?_
  subst he
  refine ⟨lim.keeps xx.toInCall.keep, codeAny_func ?_⟩
  have I : Inv (cxH (CXB T.nn P w) P w K mg base N qual (defScope st) f cdv A outer s H E (a, oe)) [] (L2.start N [.ref a]) H s1 := inv_startH (us := [.ref a]) SC hpin e0 rfl (.cons rfl .nil) xx
  have tk : TkB T.nn (cxH (CXB T.nn P w) P w K mg base N qual (defScope st) f cdv A outer s H E (a, oe)) (fun c d _ H => E c d H) := tkB_of rfl rfl rfl rfl
  have hq := hbody cdv A outer s H E a oe er d hC hz hf (hr.deeper _) ⟨hK, tk⟩
  have ra : RepAs (T.ex er d) μ H [.v (.adr a)] [.ref a] := ⟨_, _, rfl, by simp only [RepA, Rep], rfl⟩
  have hrd : rdS (T.ex er d) E (m a er) { nx := fun _ H' => Q .non H', rt := Q } (L2.start N [.ref a]) H := by
    refine ⟨μ, _, S, start_rep (N := N) ra, hs, ?_⟩
    unfold fldM at h
    show AftS _ _ _ _ _ (m a er (some (.v (.adr a)) :: List.replicate (N.length - 1) none) S)
    cases q : m a er (some (.v (.adr a)) :: List.replicate (N.length - 1) none) S with
    | nx ρ' S' => rw [q] at h; exact fun μ' H' σ' ex hs' he' => h μ' H' .non ex hs' ra_non
    | rt a S' => rw [q] at h; exact h
    | er e S' => rw [q] at h; exact h
    | bk _ _ => rw [q] at h; exact h.elim
    | ct _ _ => rw [q] at h; exact h.elim
    | stk => rw [q] at h; exact h.elim
  refine wpAny_mono (hq.run [] s1 _ H _ I hrd) (fun fl s' hs => ?_) fun e s' hs => hs
  cases fl with
  | ret u =>
    obtain ⟨v, σ', H', J, rv, q⟩ := hs
    exact ⟨v, H', J.os, J.bare, J.base, J.hok, rv, q⟩
  | next =>
    obtain ⟨σ', H', J, q⟩ := hs
    exact ⟨.non, H', J.os, J.bare, J.base, J.hok, rfl, q⟩
  | brk =>
    obtain ⟨_, _, _, q⟩ := hs
    exact False.elim q
  | cont =>
    obtain ⟨_, _, _, q⟩ := hs
    exact False.elim q
end
def eCallX (slot : Nat) (a : Addr) (er : Er) (g : Addr → Er → Store → R A) : EM := fun ρ S => match ρ[slot]? with
  | some (some (.v (.adr b))) => if b = a then g a er S else .stk
  | _ => .stk
section
variable {C : Nat → Prop} {X : Cx} {T : Tb} {W : XK} {a : Addr} {oe : Obj} {er : Er} {d : Option Addr} {slot k : Nat} {fx x x0 : Str} {p q pos : Pos} {f : Addr} {fd : FuncData} {g : Addr → Er → Store → R A}
theorem me_callX (L : Lv X (T.ex er d) W) (F : FldOk C X.prog X.w X.K X.mg X.base T k f fd x0 g) (hC : C er.k) (hr : RoomH k X.A) (hp : (a, oe) ∈ X.pn) (hz : Zc (.ref (T.cA er.k)) d oe) (hf : ∃ vs, oe.data = .fields vs) (hg : Gl X fx) (hm : X.mg fx = some (.ref f)) (hk : PySem.W.keepIn X.K (.ref f) = true) (hb : Binds X.K fd [x0] [])
    (hN : X.N[slot]? = some x) (hv : Vis X.env.scope x) (hdb : (fx == ("__debug__" : Str)) = false := by decide) (hd : (x == ("__debug__" : Str)) = false := by decide) (hcd : (x == ("__classdict__" : Str)) = false := by decide)
    (he : starEach [.Name x p] X.env = (false, eval (.Name x p) X.env) :: starEach [] X.env := by rfl) :
    ME X (T.ex er d) W (.Call (.Name fx q) [.Name x p] [] pos) (eCallX slot a er g) := ⟨fun pins s σ H Q I ⟨μ, ρ, S, hE, hs, h⟩ => by
  unfold eCallX at h
  split at h
  · rename_i b e
    split at h
    · rename_i hba
      subst hba
      obtain ⟨v, e1, r⟩ := hE.at_ _ _ e
      simp only [RepA, Rep] at r
      subst r
      refine wpAny_Call_Name_kw (ld_glob I hg hm ?_ hdb)
      have ha : PA X [.Name x p] (tCons (tVar slot) tNil) := pa_cons (pe_var hN hv hd hcd) pa_nil he
      refine PySem.W.callWith_K (h₀ := X.base) I.ok.mod.kin hk (thn (ha.run pos pins s σ H (fun vs H1 => vs = [.ref b] ∧ H1 = H) I ⟨.ref b, e1, rfl, rfl⟩) fun us s1 ⟨vs, H1, I1, rv, q1⟩ => ⟨I1.kIn, ?_⟩) he rfl
      obtain ⟨ev, eH⟩ := q1
      subst ev
      rw [eH] at I1
      have eu : us = [.ref b] := by
        cases rv with
        | cons r1 r2 => cases r2; rw [show _ = Value.ref b from r1]
      subst eu
      have b2 := hb s1 [.ref b] I1.kIn rfl
      have P1 := I1.pin (b, oe) (List.mem_append_left _ hp)
      have hpin : PinOk X.stack H s1 (b, oe) := ⟨P1.1, P1.2.1, fun hm => (List.mem_cons.mp (I1.stkSub b hm)).elim P1.2.2.1 P1.2.2.2.1, P1.2.2.2.2⟩
      show wpAny _ _ (call (.ref f) [.ref b]) _ _ _
      refine wpAny_call (codeAny_mono (F X.A X.stack s1 H ⟨[.ref b], []⟩ μ S Q W b oe er d hC hr hpin hz hf I1.env0 b2 hs h) fun r s' hq => ?_)
      cases r with
      | error e => exact L.pass pins σ H s1 e s' I1 hq
      | ok fl =>
        cases fl with
        | ret u => exact I1.after hq
        | next => exact False.elim hq
        | brk => exact False.elim hq
        | cont => exact False.elim hq
    · exact h.elim
  · exact h.elim⟩
end
end L3

set_option Elab.async false
set_option linter.all false
set_option maxRecDepth 100000
set_option maxHeartbeats 2000000
namespace L3
open PySem PySem.Spec PyProof.Rows L2 NdefX LamX
open L2H (RoomH PinOk cxH inv_startH roomH_of)
/-! ### try: .. except (A, B, C) as n: .. -/
def wAs3 (K : PySem.W.Frag) (cs : List Value) (i : Nat) (ts : Addr → Value → Option Addr → TS) (Wout : WX) (D : Ends) : WX := fun cls d σ H =>
  ∃ b, PySem.W.exmAny K cls cs = some b ∧
    (b = true → ∀ a, H a = none → ts a cls d ⟨fun σ1 H1 => D.nx (σ1.set i none) H1, D.rt, fun σ1 H1 => D.bk (σ1.set i none) H1, fun σ1 H1 => D.ct (σ1.set i none) H1⟩ (σ.set i (some (.ref a))) H) ∧
    (b = false → Wout cls d σ H)
theorem fly_keep {B h h' : Heap} {l : List PySem.Env} {a : Addr} {Z : Obj → Prop} (x : HandSPX.FlyingZ B l a Z h) (k : ∀ b o, h.get? b = some o → h'.get? b = some o) : HandSPX.FlyingZ B l a Z h' := by
  obtain ⟨y1, y2, y3, oe, vs, t, ot, tt, z1, z2, z3, z4, z5, z6, z7, z8, z9⟩ := x
  exact ⟨fun b o e => k b o (y1 b o e), y2, y3.of_keeps fun b o e _ => ⟨o, k b o e, rfl⟩, oe, vs, t, ot, tt, k _ _ z1, z2, z3, z4, z5, z6, k _ _ z7, z8, z9⟩
section
variable {X : Cx} {x1 x2 x3 n : Str} {c1 c2 c3 : Value} {i kt : Nat} {body suite : List Stmt} {st0 : Stmt} {p1 p2 p3 np pos hpos : Pos} {tb : WX → TS} {ts : Addr → Value → Option Addr → TS} {Wout : WX}
theorem ps_try3 (hs : X.stack = X.env :: X.outer) (hf : X.env.frame = some X.env.locals) (hN : X.N.Nodup) (hi : X.N[i]? = some n) (hln : X.env.kindOf n = some .local) (n1 : Names X x1 c1) (n2 : Names X x2 c2) (n3 : Names X x3 c3) (tk : Takes X Wout)
    (hb : ∀ (W : WX) (pn : List (Addr × Obj)) (xe : Value → Shared → Prop), Takes (X.tr pn xe) W → PassesOwn (model X.prog X.w) X.A X.env xe → PSs (X.tr pn xe) body (tb W))
    (hsu : ∀ (a : Addr) (oe : Obj) (cls : Value) (d : Option Addr) (pn : List (Addr × Obj)), Zc cls d oe → (∃ vs, oe.data = .fields vs) → PSs (X.suite a ((a, oe) :: pn)) (st0 :: suite) (ts a cls d))
    (hst : starEach [.Name x1 p1, .Name x2 p2, .Name x3 p3] X.env = [(false, eval (.Name x1 p1) X.env), (false, eval (.Name x2 p2) X.env), (false, eval (.Name x3 p3) X.env)] := by rfl)
    (hst2 : starEach [.Name x2 p2, .Name x3 p3] X.env = [(false, eval (.Name x2 p2) X.env), (false, eval (.Name x3 p3) X.env)] := by rfl) (hst3 : starEach [.Name x3 p3] X.env = [(false, eval (.Name x3 p3) X.env)] := by rfl) :
    PS X (.Try body [.ExceptHandler (some (.Tuple [.Name x1 p1, .Name x2 p2, .Name x3 p3] kt np)) (some n) (st0 :: suite) hpos] [] [] pos) (fun D σ H => tb (wAs3 X.K [c1, c2, c3] i ts Wout D) D σ H) := ⟨fun pins s σ H D I h => by
  have ok := I.ok
  have fr0 : X.A.frames = some (X.env :: X.outer) := by rw [ok.frames, hs]
  have lc : Loc X.env.scope n := .inl hln
  refine wpAny_Try_except ?_
  refine wpAny_mono ((hb (wAs3 X.K [c1, c2, c3] i ts Wout D) (X.pn ++ pins) _ ?tk PassesOwn.looking).run [] s σ H D (I.toTry _) h) (fun f s1 hsp => ?_) (fun e s1 he => he)
  case tk =>
    intro u s' air
    obtain ⟨a, B, sI, pins', σ1, H1, cls, d, rfl, J1, nb, up, sky, na, os, ag, b, hb1, hyes, hno⟩ := air
    have J : Inv X pins σ1 H1 sI := J1.ofTry ok
    have sky1 : Sky B (X.env :: X.outer) a (Zc cls d) X.env.locals s'.heap := by rw [← hs]; exact sky
    show wpAny (model X.prog X.w) X.A (noteFrame (.ref a) X.env) _ _ _
    refine Sky.land Zc.steady fr0 hf sky1 fun h3 fl3 up3 => ?_
    have J3 : Inv X pins σ1 H1 ⟨h3, s'.gens, s'.drawn, s'.toks, s'.os⟩ := J.landed nb fl3.1 (up.trans up3) os ag
    obtain ⟨oe3, vs3, he3, hz3, hd3⟩ := fl3.there
    have apart : a ∉ frs (X.env :: X.outer) := fun hm => by
      obtain ⟨_, o1, g1, g2⟩ := fl3.2.2.1.mem hm
      rw [he3] at g1
      cases g1
      exact g2 _ hd3
    have nL : a ≠ X.env.locals := fun z => apart (List.mem_filterMap.mpr ⟨X.env, List.mem_cons_self, by rw [hf, z]⟩)
    have nF : a ∉ X.fs := fun hm => by
      obtain ⟨ev, g1, g2⟩ := List.mem_filterMap.mp hm
      exact apart (List.mem_filterMap.mpr ⟨ev, List.mem_cons_of_mem _ g1, g2⟩)
    have S3 := J3.suite he3 hd3 na nL nF
    have nameOf : ∀ {x : Str} {c : Value} {px : Pos} {Q : Value → Shared → Prop} {E : Value → Shared → Prop}, Names X x c → Q c ⟨h3, s'.gens, s'.drawn, s'.toks, s'.os⟩ → wpAny (model X.prog X.w) (X.A.mark (some (.ref a))) (eval (.Name x px) X.env) Q E ⟨h3, s'.gens, s'.drawn, s'.toks, s'.os⟩ := fun {x c px Q E} hc q => by
      obtain ⟨g1, g2, hm | ⟨hm, hv, g3⟩⟩ := hc
      · exact ld_glob (X := X.suite a ((a, oe3) :: (X.pn ++ pins))) S3 g1 hm q g2
      · exact ld_blt (X := X.suite a ((a, oe3) :: (X.pn ++ pins))) S3 g1 hm hv q g3 g2
    refine wpAny_handleBy_cons (codeAny_handlers_test ?_) (by intro q; cases q)
    refine wpAny_Tuple_spliced ?_
    rw [hst]
    refine Calls.spliced_cons (nameOf n1 (Calls.spliced_cons (nameOf n2 (Calls.spliced_cons (nameOf n3 (Calls.spliced_nil ⟨by simp [sizeLine_eq], ?_⟩))))))
    -- the tuple is made
    have kt3 : ∀ b o, h3.get? b = some o → (h3.push ({ cls := .type "tuple", data := .seq [c1, c2, c3].toArray } : Obj)).get? b = some o := fun b o e => Heap.get?_push_of_some _ e
    have eT : (h3.push ({ cls := .type "tuple", data := .seq [c1, c2, c3].toArray } : Obj)).get? h3.objs.size = some ({ cls := .type "tuple", data := .seq [c1, c2, c3].toArray } : Obj) := Heap.get?_push_size _ rfl
    have fl4 := fly_keep fl3 kt3
    have upT := (up.trans up3).trans (Heap.UpToSlots.of_keeps kt3)
    have LT : PySem.W.Looks (model X.prog X.w) (h3.push ({ cls := .type "tuple", data := .seq [c1, c2, c3].toArray } : Obj)) (typeOf (.ref a)) cls := fun A Q E s k q => wpAny_typeOf_ref (k _ _ (kt3 _ _ he3)) (by rw [hz3.1]; exact q)
    have LM := PySem.W.exm_tup3 (M := model X.prog X.w) (J3.kIn.keeps kt3) LT eT hb1
    refine LM.here ?_
    cases b with
    | true =>
      refine codeAny_handlers_suite_as ?_
      refine HandSPX.lands_againZ fl4 fun h5 fl5 up5 => ?_
      have J5 : Inv X pins σ1 H1 ⟨h5, s'.gens, s'.drawn, s'.toks, s'.os⟩ := J.landed nb fl5.1 (upT.trans up5) os ag
      obtain ⟨oe5, vs5, he5, hz5, hd5⟩ := fl5.there
      have S5 := J5.suite he5 hd5 na nL nF
      refine store_ok (X := X.suite a ((a, oe5) :: (X.pn ++ pins))) (v := .ref a) S5 hN hi lc rfl (fun s6 S6 => ?_) (.inr hln)
      have run5 := (hsu a oe5 cls d (X.pn ++ pins) hz5 ⟨_, hd5⟩).run [] s6 _ H1 _ S6 (hyes rfl a na)
      refine wpAny_mono run5 (fun f s7 hsp => ?_) fun _ _ z => z.elim
      have close : ∀ {σ7 : L2.St} {H7 : Hp} {Q : Shared → Prop}, Inv (X.suite a ((a, oe5) :: (X.pn ++ pins))) [] σ7 H7 s7 → (∀ s8, Inv X pins (σ7.set i none) H7 s8 → Q s8) →
          wpAny (model X.prog X.w) X.A (do bindName X.env n .none; unbindBehindTheSuite X.env n hpos) (fun _ s8 => Q s8) X.xe s7 := fun {σ7 H7 Q} S7 hq => gone_ok (S7.unsuite ok) hN hi hln hq
      cases f with
      | next => obtain ⟨σ7, H7, S7, q7⟩ := hsp; exact close S7 fun s8 J8 => ⟨_, _, J8, q7⟩
      | brk => obtain ⟨σ7, H7, S7, q7⟩ := hsp; exact close S7 fun s8 J8 => ⟨_, _, J8, q7⟩
      | cont => obtain ⟨σ7, H7, S7, q7⟩ := hsp; exact close S7 fun s8 J8 => ⟨_, _, J8, q7⟩
      | ret u => obtain ⟨v7, σ7, H7, S7, r7, q7⟩ := hsp; exact close S7 fun s8 J8 => ⟨_, _, _, J8, r7, q7⟩
    | false =>
      show wpAny _ X.A (handleBy (.ref a) X.env []) _ _ _
      refine wpAny_handleBy_nil ?_
      obtain ⟨_, _, _, oe, vs, t, ot, tt, g1, _, g3, g4, _⟩ := id fl4
      unfold PySem.passOn
      refine wpAny_bind (wpAny_field g1 g3 g4 ?_)
      rw [if_neg (show ¬ ((Value.ref t == Value.none) = true) from by simp)]
      have goOn : wpAny (model X.prog X.w) X.A (setFlight (.ref a) X.env.frame) (fun _ s5 => wpAny (model X.prog X.w) X.A (throw (.ref a) : Sem Flow) (SP X pins D) X.xe s5) X.xe ⟨h3.push { cls := .type "tuple", data := .seq [c1, c2, c3].toArray }, s'.gens, s'.drawn, s'.toks, s'.os⟩ := by
        rw [hf]
        refine HandSPX.setFlight_upZ fl4 fun h5 hh5 up5 => wpAny_throw (tk _ _ ?_)
        exact ⟨a, B, sI, pins, σ1, H1, cls, d, rfl, J, nb, upT.trans up5, .inr (.inr (by rw [hs]; exact hh5)), na, os, ag, hno rfl⟩
      first
      | exact wpAny_bind (wpAny_pure (wpAny_bind goOn))
      | exact wpAny_bind goOn
  cases f with
  | next => obtain ⟨σ1, H1, J, q⟩ := hsp; exact wpAny_execs_nil ⟨σ1, H1, J.ofTry ok, q⟩
  | brk => obtain ⟨σ1, H1, J, q⟩ := hsp; exact ⟨σ1, H1, J.ofTry ok, q⟩
  | cont => obtain ⟨σ1, H1, J, q⟩ := hsp; exact ⟨σ1, H1, J.ofTry ok, q⟩
  | ret u => obtain ⟨v, σ1, H1, J, r, q⟩ := hsp; exact ⟨v, σ1, H1, J.ofTry ok, r, q⟩⟩
theorem ps_try3N (hs : X.stack = X.env :: X.outer) (hf : X.env.frame = some X.env.locals) (hN : X.N.Nodup) (hi : X.N[i]? = some n) (hln : X.env.kindOf n = some .local) (n1 : Names X x1 c1) (n2 : Names X x2 c2) (n3 : Names X x3 c3) (tk : L2N.Takes X Wout)
    (hb : ∀ (W : WX) (pn : List (Addr × Obj)) (xe : Value → Shared → Prop), L2N.Takes (X.tr pn xe) W → PassesOwn (model X.prog X.w) X.A X.env xe → PSs (X.tr pn xe) body (tb W))
    (hsu : ∀ (a : Addr) (oe : Obj) (cls : Value) (d : Option Addr) (pn : List (Addr × Obj)), L2N.Zn cls d oe → (∃ vs, oe.data = .fields vs) → PSs (X.suite a ((a, oe) :: pn)) (st0 :: suite) (ts a cls d))
    (hst : starEach [.Name x1 p1, .Name x2 p2, .Name x3 p3] X.env = [(false, eval (.Name x1 p1) X.env), (false, eval (.Name x2 p2) X.env), (false, eval (.Name x3 p3) X.env)] := by rfl)
    (hst2 : starEach [.Name x2 p2, .Name x3 p3] X.env = [(false, eval (.Name x2 p2) X.env), (false, eval (.Name x3 p3) X.env)] := by rfl) (hst3 : starEach [.Name x3 p3] X.env = [(false, eval (.Name x3 p3) X.env)] := by rfl) :
    PS X (.Try body [.ExceptHandler (some (.Tuple [.Name x1 p1, .Name x2 p2, .Name x3 p3] kt np)) (some n) (st0 :: suite) hpos] [] [] pos) (fun D σ H => tb (wAs3 X.K [c1, c2, c3] i ts Wout D) D σ H) := ⟨fun pins s σ H D I h => by
  have ok := I.ok
  have fr0 : X.A.frames = some (X.env :: X.outer) := by rw [ok.frames, hs]
  have lc : Loc X.env.scope n := .inl hln
  refine wpAny_Try_except ?_
  refine wpAny_mono ((hb (wAs3 X.K [c1, c2, c3] i ts Wout D) (X.pn ++ pins) _ ?tk PassesOwn.looking).run [] s σ H D (I.toTry _) h) (fun f s1 hsp => ?_) (fun e s1 he => he)
  case tk =>
    intro u s' air
    obtain ⟨a, B, sI, pins', σ1, H1, cls, d, rfl, J1, nb, up, sky, na, os, ag, b, hb1, hyes, hno⟩ := air
    have J : Inv X pins σ1 H1 sI := J1.ofTry ok
    have sky1 : Sky B (X.env :: X.outer) a (L2N.Zn cls d) X.env.locals s'.heap := by rw [← hs]; exact sky
    show wpAny (model X.prog X.w) X.A (noteFrame (.ref a) X.env) _ _ _
    refine L2N.Sky.land L2N.Zn.steady fr0 hf sky1 fun h3 fl3 up3 => ?_
    have J3 : Inv X pins σ1 H1 ⟨h3, s'.gens, s'.drawn, s'.toks, s'.os⟩ := J.landed nb fl3.1 (up.trans up3) os ag
    obtain ⟨oe3, vs3, he3, hz3, hd3⟩ := fl3.there
    have apart : a ∉ frs (X.env :: X.outer) := fun hm => by
      obtain ⟨_, o1, g1, g2⟩ := fl3.2.2.1.mem hm
      rw [he3] at g1
      cases g1
      exact g2 _ hd3
    have nL : a ≠ X.env.locals := fun z => apart (List.mem_filterMap.mpr ⟨X.env, List.mem_cons_self, by rw [hf, z]⟩)
    have nF : a ∉ X.fs := fun hm => by
      obtain ⟨ev, g1, g2⟩ := List.mem_filterMap.mp hm
      exact apart (List.mem_filterMap.mpr ⟨ev, List.mem_cons_of_mem _ g1, g2⟩)
    have S3 := J3.suite he3 hd3 na nL nF
    have nameOf : ∀ {x : Str} {c : Value} {px : Pos} {Q : Value → Shared → Prop} {E : Value → Shared → Prop}, Names X x c → Q c ⟨h3, s'.gens, s'.drawn, s'.toks, s'.os⟩ → wpAny (model X.prog X.w) (X.A.mark (some (.ref a))) (eval (.Name x px) X.env) Q E ⟨h3, s'.gens, s'.drawn, s'.toks, s'.os⟩ := fun {x c px Q E} hc q => by
      obtain ⟨g1, g2, hm | ⟨hm, hv, g3⟩⟩ := hc
      · exact ld_glob (X := X.suite a ((a, oe3) :: (X.pn ++ pins))) S3 g1 hm q g2
      · exact ld_blt (X := X.suite a ((a, oe3) :: (X.pn ++ pins))) S3 g1 hm hv q g3 g2
    refine wpAny_handleBy_cons (codeAny_handlers_test ?_) (by intro q; cases q)
    refine wpAny_Tuple_spliced ?_
    rw [hst]
    refine Calls.spliced_cons (nameOf n1 (Calls.spliced_cons (nameOf n2 (Calls.spliced_cons (nameOf n3 (Calls.spliced_nil ⟨by simp [sizeLine_eq], ?_⟩))))))
    -- the tuple is made
    have kt3 : ∀ b o, h3.get? b = some o → (h3.push ({ cls := .type "tuple", data := .seq [c1, c2, c3].toArray } : Obj)).get? b = some o := fun b o e => Heap.get?_push_of_some _ e
    have eT : (h3.push ({ cls := .type "tuple", data := .seq [c1, c2, c3].toArray } : Obj)).get? h3.objs.size = some ({ cls := .type "tuple", data := .seq [c1, c2, c3].toArray } : Obj) := Heap.get?_push_size _ rfl
    have fl4 := fly_keep fl3 kt3
    have upT := (up.trans up3).trans (Heap.UpToSlots.of_keeps kt3)
    have LT : PySem.W.Looks (model X.prog X.w) (h3.push ({ cls := .type "tuple", data := .seq [c1, c2, c3].toArray } : Obj)) (typeOf (.ref a)) cls := fun A Q E s k q => wpAny_typeOf_ref (k _ _ (kt3 _ _ he3)) (by rw [hz3.1]; exact q)
    have LM := PySem.W.exm_tup3 (M := model X.prog X.w) (J3.kIn.keeps kt3) LT eT hb1
    refine LM.here ?_
    cases b with
    | true =>
      refine codeAny_handlers_suite_as ?_
      refine HandSPX.lands_againZ fl4 fun h5 fl5 up5 => ?_
      have J5 : Inv X pins σ1 H1 ⟨h5, s'.gens, s'.drawn, s'.toks, s'.os⟩ := J.landed nb fl5.1 (upT.trans up5) os ag
      obtain ⟨oe5, vs5, he5, hz5, hd5⟩ := fl5.there
      have S5 := J5.suite he5 hd5 na nL nF
      refine store_ok (X := X.suite a ((a, oe5) :: (X.pn ++ pins))) (v := .ref a) S5 hN hi lc rfl (fun s6 S6 => ?_) (.inr hln)
      have run5 := (hsu a oe5 cls d (X.pn ++ pins) hz5 ⟨_, hd5⟩).run [] s6 _ H1 _ S6 (hyes rfl a na)
      refine wpAny_mono run5 (fun f s7 hsp => ?_) fun _ _ z => z.elim
      have close : ∀ {σ7 : L2.St} {H7 : Hp} {Q : Shared → Prop}, Inv (X.suite a ((a, oe5) :: (X.pn ++ pins))) [] σ7 H7 s7 → (∀ s8, Inv X pins (σ7.set i none) H7 s8 → Q s8) →
          wpAny (model X.prog X.w) X.A (do bindName X.env n .none; unbindBehindTheSuite X.env n hpos) (fun _ s8 => Q s8) X.xe s7 := fun {σ7 H7 Q} S7 hq => gone_ok (S7.unsuite ok) hN hi hln hq
      cases f with
      | next => obtain ⟨σ7, H7, S7, q7⟩ := hsp; exact close S7 fun s8 J8 => ⟨_, _, J8, q7⟩
      | brk => obtain ⟨σ7, H7, S7, q7⟩ := hsp; exact close S7 fun s8 J8 => ⟨_, _, J8, q7⟩
      | cont => obtain ⟨σ7, H7, S7, q7⟩ := hsp; exact close S7 fun s8 J8 => ⟨_, _, J8, q7⟩
      | ret u => obtain ⟨v7, σ7, H7, S7, r7, q7⟩ := hsp; exact close S7 fun s8 J8 => ⟨_, _, _, J8, r7, q7⟩
    | false =>
      show wpAny _ X.A (handleBy (.ref a) X.env []) _ _ _
      refine wpAny_handleBy_nil ?_
      obtain ⟨_, _, _, oe, vs, t, ot, tt, g1, _, g3, g4, _⟩ := id fl4
      unfold PySem.passOn
      refine wpAny_bind (wpAny_field g1 g3 g4 ?_)
      rw [if_neg (show ¬ ((Value.ref t == Value.none) = true) from by simp)]
      have goOn : wpAny (model X.prog X.w) X.A (setFlight (.ref a) X.env.frame) (fun _ s5 => wpAny (model X.prog X.w) X.A (throw (.ref a) : Sem Flow) (SP X pins D) X.xe s5) X.xe ⟨h3.push { cls := .type "tuple", data := .seq [c1, c2, c3].toArray }, s'.gens, s'.drawn, s'.toks, s'.os⟩ := by
        rw [hf]
        refine HandSPX.setFlight_upZ fl4 fun h5 hh5 up5 => wpAny_throw (tk _ _ ?_)
        exact ⟨a, B, sI, pins, σ1, H1, cls, d, rfl, J, nb, upT.trans up5, .inr (.inr (by rw [hs]; exact hh5)), na, os, ag, hno rfl⟩
      first
      | exact wpAny_bind (wpAny_pure (wpAny_bind goOn))
      | exact wpAny_bind goOn
  cases f with
  | next => obtain ⟨σ1, H1, J, q⟩ := hsp; exact wpAny_execs_nil ⟨σ1, H1, J.ofTry ok, q⟩
  | brk => obtain ⟨σ1, H1, J, q⟩ := hsp; exact ⟨σ1, H1, J.ofTry ok, q⟩
  | cont => obtain ⟨σ1, H1, J, q⟩ := hsp; exact ⟨σ1, H1, J.ofTry ok, q⟩
  | ret u => obtain ⟨v, σ1, H1, J, r, q⟩ := hsp; exact ⟨v, σ1, H1, J.ofTry ok, r, q⟩⟩
theorem ps_try3B {b : Bool} (hs : X.stack = X.env :: X.outer) (hf : X.env.frame = some X.env.locals) (hN : X.N.Nodup) (hi : X.N[i]? = some n) (hln : X.env.kindOf n = some .local) (n1 : Names X x1 c1) (n2 : Names X x2 c2) (n3 : Names X x3 c3) (tk : TkB b X Wout)
    (hb : ∀ (W : WX) (pn : List (Addr × Obj)) (xe : Value → Shared → Prop), TkB b (X.tr pn xe) W → PassesOwn (model X.prog X.w) X.A X.env xe → PSs (X.tr pn xe) body (tb W))
    (hsu : ∀ (a : Addr) (oe : Obj) (cls : Value) (d : Option Addr) (pn : List (Addr × Obj)), Zc cls d oe → (∃ vs, oe.data = .fields vs) → PSs (X.suite a ((a, oe) :: pn)) (st0 :: suite) (ts a cls d))
    (hst : starEach [.Name x1 p1, .Name x2 p2, .Name x3 p3] X.env = [(false, eval (.Name x1 p1) X.env), (false, eval (.Name x2 p2) X.env), (false, eval (.Name x3 p3) X.env)] := by rfl)
    (hst2 : starEach [.Name x2 p2, .Name x3 p3] X.env = [(false, eval (.Name x2 p2) X.env), (false, eval (.Name x3 p3) X.env)] := by rfl) (hst3 : starEach [.Name x3 p3] X.env = [(false, eval (.Name x3 p3) X.env)] := by rfl) :
    PS X (.Try body [.ExceptHandler (some (.Tuple [.Name x1 p1, .Name x2 p2, .Name x3 p3] kt np)) (some n) (st0 :: suite) hpos] [] [] pos) (fun D σ H => tb (wAs3 X.K [c1, c2, c3] i ts Wout D) D σ H) := by
  cases b with
  | true => exact ps_try3N hs hf hN hi hln n1 n2 n3 tk hb (fun a oe cls d pn hz => hsu a oe cls d pn hz.zc) hst hst2 hst3
  | false => exact ps_try3 hs hf hN hi hln n1 n2 n3 tk hb hsu hst hst2 hst3
end
/-- a suite's end, its name gone -/
def SR.wipe (i : Nat) : SR → SR
  | .nx ρ S => .nx (ρ.set i none) S
  | .rt a S => .rt a S
  | .bk ρ S => .bk (ρ.set i none) S
  | .ct ρ S => .ct (ρ.set i none) S
  | .er _ _ => .stk
  | .stk => .stk
def sTry (catch_ : Nat → Option Bool) (m : SM) (sh : Er → Store → SR) : SM := fun ρ S => match m ρ S with
  | .nx ρ' S' => .nx ρ' S'
  | .rt a S' => .rt a S'
  | .bk ρ' S' => .bk ρ' S'
  | .ct ρ' S' => .ct ρ' S'
  | .er e S' => (match catch_ e.k with
    | some true => sh e S'
    | some false => .er e S'
    | none => .stk)
  | .stk => .stk
theorem rep_wipe {T : Tb} {μ : List Addr} {H : Hp} {ρ : Env} {σ : L2.St} {i : Nat} (h : RepE T μ H ρ σ) : RepE T μ H (ρ.set i none) (σ.set i none) := by
  refine ⟨by simp [h.len], fun j x e => ?_⟩
  by_cases hj : i = j
  · subst hj
    by_cases hl : i < ρ.length
    · rw [List.getElem?_set_self hl] at e; cases e
    · rw [List.getElem?_eq_none (by simpa using hl)] at e; cases e
  · rw [List.getElem?_set_ne hj] at e
    obtain ⟨v, e1, r⟩ := h.at_ j x e
    exact ⟨v, by rw [List.getElem?_set_ne hj]; exact e1, r⟩
theorem rep_none {T : Tb} {μ : List Addr} {H : Hp} {σ : L2.St} {n i : Nat} {a : Addr} (hl : σ.length = n) : RepE T μ H ((List.replicate n none).set i (some (.v (.adr a)))) (σ.set i (some (.ref a))) := by
  refine ⟨by simp [hl], fun j x e => ?_⟩
  by_cases hj : i = j
  · subst hj
    by_cases hi : i < n
    · rw [List.getElem?_set_self (by simpa using hi)] at e
      cases e
      exact ⟨.ref a, by rw [List.getElem?_set_self (by omega)], by simp only [RepA, Rep]⟩
    · rw [List.getElem?_eq_none (by simpa using hi)] at e; cases e
  · rw [List.getElem?_set_ne hj, List.getElem?_replicate] at e
    split at e <;> cases e
theorem aftS_wipe {T : Tb} {J : List Addr → Hp → Prop} {hJ : ∀ {μ H μ' H'}, Ext μ H μ' H' → J μ H → J μ' H'} {hS : ∀ {μ H H'}, Sw μ H H' → J μ H → J μ H'} {μ : List Addr} {H : Hp} {D : Ends} {W : XK} {i : Nat} {c : SR} (j : ∀ μ H, J μ H → T.I μ H) (h : AftS T μ H D W (c.wipe i)) :
    AftS (T.wI J hJ hS) μ H ⟨fun σ1 H1 => D.nx (σ1.set i none) H1, D.rt, fun σ1 H1 => D.bk (σ1.set i none) H1, fun σ1 H1 => D.ct (σ1.set i none) H1⟩ W0 c := by
  cases c with
  | nx ρ S => exact fun μ' H' σ' ex hs he => h μ' H' _ ex (hs.ofI (j _ _)) (rep_wipe (rep_wIE.mp he))
  | bk ρ S => exact fun μ' H' σ' ex hs he => h μ' H' _ ex (hs.ofI (j _ _)) (rep_wipe (rep_wIE.mp he))
  | ct ρ S => exact fun μ' H' σ' ex hs he => h μ' H' _ ex (hs.ofI (j _ _)) (rep_wipe (rep_wIE.mp he))
  | rt a S => exact fun μ' H' v ex hs r => h μ' H' v ex (hs.ofI (j _ _)) (rep_wIA.mp r)
  | er e S => exact h.elim
  | stk => exact h.elim
section
variable {X : Cx} {T : Tb} {W : XK} {x1 x2 x3 n : Str} {c1 c2 c3 : Value} {i kt : Nat} {body suite : List Stmt} {st0 : Stmt} {p1 p2 p3 np pos hpos : Pos} {m : SM} {ms : Addr → Er → SM} {sh : Er → Store → SR} {catch_ : Nat → Option Bool}
theorem ms_try3 (L : Lv X T W) (hs : X.stack = X.env :: X.outer) (hf : X.env.frame = some X.env.locals) (hN : X.N.Nodup) (hi : X.N[i]? = some n) (hln : X.env.kindOf n = some .local) (n1 : Names X x1 c1) (n2 : Names X x2 c2) (n3 : Names X x3 c3)
    (hcatch : ∀ k b, catch_ k = some b → PySem.W.exmAny X.K (.ref (T.cA k)) [c1, c2, c3] = some b)
    (hb : ∀ (W' : XK) (pn : List (Addr × Obj)) (xe : Value → Shared → Prop), Lv (X.tr pn xe) T W' → PassesOwn (model X.prog X.w) X.A X.env xe → MB (X.tr pn xe) T W' body m)
    (hsu : ∀ (a : Addr) (oe : Obj) (er : Er) (d : Option Addr) (pn : List (Addr × Obj)), Zc (.ref (T.cA er.k)) d oe → (∃ vs, oe.data = .fields vs) → catch_ er.k = some true → Lv (X.suite a ((a, oe) :: pn)) (T.ex er d) W0 → MB (X.suite a ((a, oe) :: pn)) (T.ex er d) W0 (st0 :: suite) (ms a er))
    (hsh : ∀ a er S, sh er S = .stk ∨ (ms a er ((List.replicate X.N.length none).set i (some (.v (.adr a)))) S).wipe i = sh er S)
    (hst : starEach [.Name x1 p1, .Name x2 p2, .Name x3 p3] X.env = [(false, eval (.Name x1 p1) X.env), (false, eval (.Name x2 p2) X.env), (false, eval (.Name x3 p3) X.env)] := by rfl)
    (hst2 : starEach [.Name x2 p2, .Name x3 p3] X.env = [(false, eval (.Name x2 p2) X.env), (false, eval (.Name x3 p3) X.env)] := by rfl) (hst3 : starEach [.Name x3 p3] X.env = [(false, eval (.Name x3 p3) X.env)] := by rfl) :
    MS X T W (.Try body [.ExceptHandler (some (.Tuple [.Name x1 p1, .Name x2 p2, .Name x3 p3] kt np)) (some n) (st0 :: suite) hpos] [] [] pos) (sTry catch_ m sh) := by
  have key := ps_try3B (b := T.nn) (X := X) (body := body) (suite := suite) (st0 := st0) (kt := kt) (np := np) (pos := pos) (hpos := hpos) (tb := fun Wt D σ H => ∃ W' : XK, (∀ c d σ H, σ.length = X.N.length → W' c d H → Wt c d σ H) ∧ rdS T W' m D σ H)
    (ts := fun a cls d D σ H => ∃ er : Er, cls = .ref (T.cA er.k) ∧ catch_ er.k = some true ∧ rdS (T.ex er d) W0 (ms a er) D σ H) hs hf hN hi hln n1 n2 n3 L.tk
    (fun Wt pn xe tk hp => ⟨fun pins s σ H D I ⟨W', hW, q⟩ => by
      exact (hb W' pn xe ⟨L.k, tk.impI fun c d σ H hl w => hW _ _ _ _ hl w⟩ hp).run pins s σ H D I q⟩)
    (fun a oe cls d pn hz hf => ⟨fun pins s σ H D I ⟨er, e, hc, q⟩ => by
      subst e
      exact (hsu a oe er d pn hz hf hc ⟨L.k, tkB_F⟩).run pins s σ H D I q⟩) hst hst2 hst3
  refine ps_imp key fun D σ H ⟨μ, ρ, S, he, hs1, h⟩ => ?_
  refine ⟨fun c d H' => ∀ σ', σ'.length = X.N.length → wAs3 X.K [c1, c2, c3] i _ (fun c d _ H => W c d H) D c d σ' H', fun c d σ' H' hl w => w σ' hl, μ, ρ, S, he, hs1, ?_⟩
  unfold sTry at h
  cases q : m ρ S with
  | nx ρ' S' => rw [q] at h; exact h
  | rt a S' => rw [q] at h; exact h
  | bk ρ' S' => rw [q] at h; exact h
  | ct ρ' S' => rw [q] at h; exact h
  | stk => rw [q] at h; exact h
  | er e S' =>
    simp only [q] at h
    intro μ' H' cls d ex hs' re σ' hl
    have ec := re.1
    subst ec
    cases qc : catch_ e.k with
    | none => rw [qc] at h; exact h.elim
    | some b =>
      refine ⟨b, hcatch _ _ qc, fun eb a ha => ?_, fun eb => ?_⟩
      · subst eb
        rw [qc] at h
        simp only at h
        refine ⟨e, rfl, qc, μ', _, S', rep_none hl, hs'.toI ⟨hs'.inv, ?_⟩, aftS_wipe (W := W) (fun _ _ h => h.1) ?_⟩
        · obtain ⟨_, dd, vfs, g1, g2, g3, g4⟩ := re
          exact ⟨dd, vfs, g1, g2, g3, g4⟩
        · rcases hsh a e S' with z | z
          · rw [z] at h
            exact h.elim
          · rw [z]
            exact AftS.later ex h
      · subst eb
        rw [qc] at h
        exact h μ' H' _ d ex hs' re
end
end L3

set_option Elab.async false
set_option linter.all false
set_option maxRecDepth 100000
set_option maxHeartbeats 2000000
namespace L3
open PySem PySem.Spec PyProof.Rows L2 NdefX LamX
open L2H (RoomH PinOk cxH inv_startH roomH_of)
/-! ### sorted(text) -/
def chr1 (c : Nat) : Str := ⟨#[c]⟩
def sortC (y : Str) : List Nat := y.cps.toList.mergeSort (fun a b => decide (a ≤ b))
theorem strs_items {x : Str} {acc : Array Value} (h : ItemsOf (SignAt x) acc x.cps.size) : StrsAre acc.toList (x.cps.toList.map chr1) := by
  obtain ⟨hs, ha⟩ := h
  have key : ∀ (vs : List Value) (cs : List Nat), vs.length = cs.length → (∀ (j : Nat) v, vs[j]? = some v → ∃ c u, cs[j]? = some c ∧ v = .str (chr1 c) u) → StrsAre vs (cs.map chr1) := by
    intro vs
    induction vs with
    | nil => intro cs hl _; cases cs with
      | nil => exact .nil
      | cons _ _ => cases hl
    | cons v vs ih =>
      intro cs hl h
      cases cs with
      | nil => cases hl
      | cons c cs =>
        obtain ⟨c', u, e1, rfl⟩ := h 0 v rfl
        cases e1
        exact .cons _ _ (ih cs (by simpa using hl) fun j w e => h (j + 1) w e)
  refine key _ _ (by simpa using hs) fun j v e => ?_
  obtain ⟨c, u, e1, e2⟩ := ha j v (by simpa using e)
  exact ⟨c, u, by simpa using e1, e2⟩
section
variable {prog : Program} {w : World} {A : Around} {E : Value → Shared → Prop} {s : Shared}
end
/-- sorted(text), fewer than 64 signs -/
def gSortT : CallG
  | [.v (.str y)], _ => if y.cps.size < 64 then some (.v (.lst ((sortC y).map fun c => .str (chr1 c)))) else none
  | _, _ => none
theorem repL_strs {T : Tb} {μ : List Addr} {H : Hp} : ∀ {ss : List Str}, RepL T μ H (ss.map .str) (ss.map V.str)
  | [] => by simp only [List.map_nil, RepL]
  | s :: ss => by
    simp only [List.map_cons, RepL, Rep]
    exact ⟨_, _, rfl, rfl, repL_strs⟩
/-! ### 'lit'.join(..), f'..' -/
def asStrs : List D → Option (List Str)
  | [] => some []
  | .str y :: r => (asStrs r).map (y :: ·)
  | _ :: _ => none
@[simp] theorem asStrs_strs : ∀ ys : List Str, asStrs (ys.map .str) = some ys
  | [] => rfl
  | y :: ys => by simp [asStrs, asStrs_strs ys]
def eJoin (mo ma : EM) : EM := fun ρ S => (mo ρ S).bind fun o S1 => match o with
  | .v (.str a) => (ma ρ S1).bind fun x S2 => (match (seqOf x S2).bind asStrs with
    | some ys => if (ys.map (·.length)).sum + ys.length * a.length ≤ 1000000 then .ok (.v (.str (Txt.join a ys))) S2 else .stk
    | none => .stk)
  | _ => .stk
section
variable {X : Cx} {T : Tb} {W : XK} {o e : Expr} {mo ma : EM} {apos pos : Pos}
end
/-- {e} -/
def eFmt (ma : EM) : EM := fun ρ S => (ma ρ S).bind fun x S1 => match x with
  | .v (.str y) => if y.length ≤ strMax then .ok (.v (.str y)) S1 else .stk
  | .v (.int i) => if i.natAbs.log2 < 1920 then .ok (.v (.str (toString i))) S1 else .stk
  | _ => .stk
def eJs : List EM → Str → Env → Store → R A
  | [], acc, _, S => .ok (.v (.str acc)) S
  | m :: ms, acc, ρ, S => (m ρ S).bind fun x S1 => match x with
    | .v (.str y) => if (acc ++ y).length ≤ strMax then eJs ms (acc ++ y) ρ S1 else .stk
    | _ => .stk
def eFstr (ms : List EM) : EM := fun ρ S => eJs ms Str.empty ρ S
inductive MJ (X : Cx) (T : Tb) (W : XK) : List Expr → List EM → Prop where
  | nil : MJ X T W [] []
  | cons {e : Expr} {m : EM} {es : List Expr} {ms : List EM} (h : ME X T W e m) (r : MJ X T W es ms) : MJ X T W (e :: es) (m :: ms)
section
variable {X : Cx} {T : Tb} {W : XK} {e v1 v2 : Expr} {es rest : List Expr} {ma : EM} {ms : List EM} {pos : Pos}
end
end L3

set_option Elab.async false
set_option linter.all false
set_option maxRecDepth 100000
set_option maxHeartbeats 2000000
namespace L3
open PySem PySem.Spec PyProof.Rows L2 NdefX LamX
open L2H (RoomH PinOk cxH inv_startH roomH_of)
def OpDM (X : Cx) (T : Tb) (W : XK) (f : Value → Value → Sem Value) (g : OpM) : Prop :=
  OpR X f (fun x y H Q => ∃ μ S a b, StOk T μ H S ∧ RepA T μ H a x ∧ RepA T μ H b y ∧ Aft T (fun μ H => RepA T μ H) μ H Q W (g a b S))
def eOpM (g : OpM) (ma mb : EM) : EM := fun ρ S => (ma ρ S).bind fun x S1 => (mb ρ S1).bind fun y S2 => g x y S2
section
variable {X : Cx} {T : Tb} {W : XK} {a b : Expr} {ma mb : EM} {pos : Pos}
end
abbrev CallM := List A → Store → R A
def CallDM (X : Cx) (T : Tb) (W : XK) (f : Value) (g : CallM) : Prop :=
  CallR X f (fun vs H Q => ∃ μ S xs, StOk T μ H S ∧ RepAs T μ H xs vs ∧ Aft T (fun μ H => RepA T μ H) μ H Q W (g xs S))
def eCallM (g : CallM) (r : AM) : EM := fun ρ S => (r ρ S).bind fun xs S1 => g xs S1
section
variable {X : Cx} {T : Tb} {W : XK} {e : Expr} {es : List Expr} {r : AM} {x : Str} {p pos : Pos} {bid : String}
end
/-! ### == of data at any depth -/
mutual
def toPy : D → Option PyData
  | .non => some .none
  | .bl b => some (.bool b)
  | .int i => some (.int i)
  | .str x => some (.str x)
  | .tup ds => (toPys ds).map .tuple
  | .lst ds => (toPys ds).map .list
  | .fz ds => (toPys ds).map .list
  | _ => none
def toPys : List D → Option (List PyData)
  | [] => some []
  | d :: ds => match toPy d, toPys ds with
    | some p, some ps => some (p :: ps)
    | _, _ => none
end
section
variable {T : Tb} {μ : List Addr} {H : Hp}
mutual
theorem toPy_dp : ∀ {d : D} {v : V} {p : PyData}, Rep T μ H d v → toPy d = some p → Dp T.K H v p
  | .non, v, p, r, e => by simp only [toPy, Option.some.injEq] at e; simp only [Rep] at r; subst e r; exact .non
  | .bl b, v, p, r, e => by simp only [toPy, Option.some.injEq] at e; simp only [Rep] at r; subst e r; exact .bl b
  | .int b, v, p, r, e => by simp only [toPy, Option.some.injEq] at e; simp only [Rep] at r; subst e r; exact .int b
  | .str b, v, p, r, e => by simp only [toPy, Option.some.injEq] at e; simp only [Rep] at r; subst e r; exact .str b
  | .tup ds, v, p, r, e => by
    simp only [toPy, Option.map_eq_some_iff] at e
    simp only [Rep] at r
    obtain ⟨a, vs, rfl, h, rl⟩ := r
    obtain ⟨ps, e1, rfl⟩ := e
    exact .tup h.sq (toPys_dp rl e1)
  | .lst ds, v, p, r, e => by
    simp only [toPy, Option.map_eq_some_iff] at e
    simp only [Rep] at r
    obtain ⟨a, vs, rfl, h, rl⟩ := r
    obtain ⟨ps, e1, rfl⟩ := e
    exact .lst h.sq (toPys_dp rl e1)
  | .fz ds, v, p, r, e => by
    simp only [toPy, Option.map_eq_some_iff] at e
    simp only [Rep] at r
    obtain ⟨a, vs, rfl, h, rl⟩ := r
    obtain ⟨ps, e1, rfl⟩ := e
    exact .lst h.sq (toPys_dp rl e1)
  | .obj _ _, v, p, r, e => by simp [toPy] at e
  | .cls _, v, p, r, e => by simp [toPy] at e
  | .ty _, v, p, r, e => by simp [toPy] at e
  | .fn _, v, p, r, e => by simp [toPy] at e
  | .adr _, v, p, r, e => by simp [toPy] at e
  | .dic _ _, v, p, r, e => by simp [toPy] at e
  | .exc _ _, v, p, r, e => by simp [toPy] at e
  | .dnk _ _, v, p, r, e => by simp [toPy] at e
theorem toPys_dp : ∀ {ds : List D} {vs : List V} {ps : List PyData}, RepL T μ H ds vs → toPys ds = some ps → DpAll T.K H vs ps
  | [], vs, ps, r, e => by simp only [toPys, Option.some.injEq] at e; simp only [RepL] at r; subst e r; exact .nil
  | d :: ds, vs, ps, r, e => by
    simp only [RepL] at r
    obtain ⟨v, ws, rfl, r1, r2⟩ := r
    unfold toPys at e
    split at e
    · rename_i p qs e1 e2
      cases e
      exact .cons (toPy_dp r1 e1) (toPys_dp r2 e2)
    · cases e
end
end
def gEqD : OpG
  | .v x, .v y, _ => match toPy x, toPy y with
    | some p, some q => if SeqAt.shaped p = true ∧ SeqAt.shaped q = true then some (blA (PyData.eqv p q)) else none
    | _, _ => none
  | _, _, _ => none
def gNeD : OpG
  | .v x, .v y, _ => match toPy x, toPy y with
    | some p, some q => if SeqAt.shaped p = true ∧ SeqAt.shaped q = true then some (blA (!PyData.eqv p q)) else none
    | _, _ => none
  | _, _, _ => none
section
variable {X : Cx} {T : Tb} {W : XK}
theorem op_gEqD (hK : X.K = T.K) (hu : X.A.units + 64 < cLine) : OpD X T (compareOp .Eq) gEqD := by
  rintro pins s σ H x y v u Q I rx ry ⟨μ, S, a, b, z, hs, ra, rb, hg, k⟩
  unfold gEqD at hg
  split at hg
  · split at hg
    · rename_i e1 e2
      split at hg
      · rename_i hh
        cases hg
        exact op_eqD hu pins s σ H x y v u Q I rx ry ⟨_, _, hK ▸ toPy_dp ra e1, hK ▸ toPy_dp rb e2, hh.1, hh.2, k μ H _ Ext.refl hs rep_blA⟩
      · cases hg
    · cases hg
  · cases hg
theorem op_gNeD (hK : X.K = T.K) (hu : X.A.units + 64 < cLine) : OpD X T (compareOp .NotEq) gNeD := by
  rintro pins s σ H x y v u Q I rx ry ⟨μ, S, a, b, z, hs, ra, rb, hg, k⟩
  unfold gNeD at hg
  split at hg
  · split at hg
    · rename_i e1 e2
      split at hg
      · rename_i hh
        cases hg
        exact op_neD hu pins s σ H x y v u Q I rx ry ⟨_, _, hK ▸ toPy_dp ra e1, hK ▸ toPy_dp rb e2, hh.1, hh.2, k μ H _ Ext.refl hs rep_blA⟩
      · cases hg
    · cases hg
  · cases hg
end
/-! ### own methods run by built-ins -/
def OwnT (X : Cx) (T : Tb) (nm : Str) (J : Nat) (mt : Nat → Option FM) : Prop := ∀ k fM, mt k = some fM → ∃ f fd ps, Cls X.K (T.cA k) ∧ Meth X.K (T.cA k) nm f ∧ FnOk X.prog X.w X.K X.mg X.base (CXB T.nn X.prog X.w) J f fd ps (spD T fM) ∧ Binds X.K fd ps []
section
variable {X : Cx} {T : Tb} {W : XK} {pins : List (Addr × Obj)} {σ : L2.St} {H : Hp} {s : Shared} {J : Nat} {A' : Around} {fM : FM} {mt : Nat → Option FM}
theorem own_run {f : Addr} {fd : FuncData} {ps : List Str} {us : List Value} {vs : List V} {Q : VK} (L : Lv X T W) (I : Inv X pins σ H s) (F : FnOk X.prog X.w X.K X.mg X.base (CXB T.nn X.prog X.w) J f fd ps (spD T fM)) (hr : Room J A') (hfr : A'.frames = X.A.frames) (hb : Binds X.K fd ps []) (r : Vals vs us) (h : spD T fM vs H Q W) :
    wpAny (model X.prog X.w) A' (call (.ref f) us) (EP X pins σ Q) X.xe s := by
  have hl : (us ++ []).length = ps.length := by rw [List.append_nil, ← r.length, F.len _ _ _ _ h]
  have b2 := hb s us I.kIn hl
  rw [List.append_nil] at b2
  have e := I.env0
  have e0 : Env0 X.prog X.w X.K X.mg X.base A' X.stack s H := ⟨by rw [hfr]; exact e.frames, e.mod, e.bs, e.bsz, e.funs, e.frf, e.hok, e.bare⟩
  refine wpAny_call (codeAny_mono (F.run A' X.stack s H ⟨us, []⟩ us vs Q W hr e0 b2 r h) fun r s' hq => ?_)
  cases r with
  | error e => exact L.pass pins σ H s e s' I hq
  | ok fl =>
    cases fl with
    | ret u => exact I.after hq
    | next => exact False.elim hq
    | brk => exact False.elim hq
    | cont => exact False.elim hq
/-- an instance, as KE's rules ask for it -/
theorem inst_at {k : Nat} {p dx : Addr} {vfs : List (Str × V)} (I : Inv X pins σ H s) (h : H p = some (.ins (T.cA k) dx vfs)) : ∃ ox od, PySem.W.InstAt s.heap p ox (T.cA k) od := by
  obtain ⟨mA, J, _⟩ := ins_get I.hok h
  obtain ⟨od, J2, _⟩ := J.look
  exact ⟨_, _, J2⟩
def lenR : R A → R A
  | .ok (.v (.int n)) S => if 0 ≤ n ∧ n < 9223372036854775808 then .ok (.v (.int n)) S else .stk
  | .err e S => .err e S
  | _ => .stk
def strR : R A → R A
  | .ok (.v (.str x)) S => .ok (.v (.str x)) S
  | .err e S => .err e S
  | _ => .stk
def blR (f : Bool → Bool) : R A → R A
  | .ok (.v (.bl x)) S => .ok (blA (f x)) S
  | .err e S => .err e S
  | _ => .stk
section
variable {μ : List Addr} {Q : VK} {r : R A}
theorem bl_aft {f : Bool → Bool} (h : Aft T (fun μ H => RepA T μ H) μ H Q W (blR f r)) : Aft T (fun μ H => RepA T μ H) μ H (fun v H' => ∃ b : Bool, v = .bl b ∧ Q (.bl (f b)) H') W r := by
  cases r with
  | stk => exact h
  | err e S1 => exact h
  | ok w S1 =>
    unfold blR at h
    split at h
    · rename_i eq
      cases eq
      refine fun μ' H' v ex hs' r => ⟨_, by simpa only [RepA, Rep] using r, h μ' H' _ ex hs' rep_blA⟩
    · rename_i eq; cases eq
    · exact h.elim
end
/-- len(o) -/
def gLenM (mt : Nat → Option FM) : CallM
  | [o], S => match insOf o S with
    | some (k, _) => (match mt k with
      | some fM => lenR (fM [o] S)
      | none => .stk)
    | none => .ofO (gLen [o] S) S
  | _, _ => .stk
/-- repr(o), o an instance -/
def gReprM (mt : Nat → Option FM) : CallM
  | [o], S => match insOf o S with
    | some (k, _) => (match mt k with
      | some fM => strR (fM [o] S)
      | none => .stk)
    | none => .stk
  | _, _ => .stk
end
/-! in, not in, ==, != -/
section
variable {X : Cx} {T : Tb} {W : XK} {J : Nat} {mt : Nat → Option FM}
def gInM (mt : Nat → Option FM) (neg : Bool → Bool) (g : OpG) : OpM := fun x o S => match insOf o S with
  | some (k, _) => (match mt k with
    | some fM => blR neg (fM [o, x] S)
    | none => .stk)
  | none => .ofO (g x o S) S
theorem op_gNotInM (L : Lv X T W) (hr : Room J X.A) (O : OwnT X T "__contains__" J mt) {g : OpG} (hg : OpD X T (compareOp .NotIn) g) : OpDM X T W (compareOp .NotIn) (gInM mt (!·) g) := by
  rintro pins s σ H x y v u Q I rx ry ⟨μ, S, a, b, hs, ra, rb, k⟩
  unfold gInM at k
  cases q : insOf b S with
  | none =>
    rw [q] at k
    obtain ⟨z, e, kk⟩ := ofO_aft k
    exact hg pins s σ H x y v u Q I rx ry ⟨μ, S, a, b, z, hs, ra, rb, e, kk⟩
  | some kf =>
    obtain ⟨kk, fs⟩ := kf
    simp only [q] at k
    cases qm : mt kk with
    | none => rw [qm] at k; exact k.elim
    | some fM =>
      rw [qm] at k
      obtain ⟨p, dx, vfs, rfl, hp, _⟩ := insOf_sound hs rb q
      obtain ⟨f, fd, ps, cl, m, F, b'⟩ := O kk fM qm
      obtain ⟨ox, od, IA⟩ := inst_at I hp
      obtain rfl := (show u = Value.ref p from ry)
      obtain ⟨mm, hF⟩ := I.fr
      refine PySem.W.notIn_K hF I.ok.mod.kin IA m.at_ m.fn (thn (own_run L I F hr rfl b' (us := [.ref p, v]) (vs := [.ref p, x]) (.cons rfl (.cons rx .nil)) ⟨μ, S, [b, a], ⟨_, _, rfl, rb, _, _, rfl, ra, rfl⟩, hs, bl_aft k⟩) fun w s1 ⟨z, H1, I1, r1, n, ev, q1⟩ => ?_)
      subst ev
      cases (show w = Value.bool n from r1)
      exact wpAny_truthy_bool ⟨.bl (!n), H1, I1, rfl, q1⟩
end
end L3

set_option Elab.async false
set_option linter.all false
set_option maxRecDepth 100000
set_option maxHeartbeats 2000000
namespace L3
open PySem PySem.Spec PyProof.Rows L2 NdefX LamX
open L2H (RoomH PinOk cxH inv_startH roomH_of)
/-- the type of the other one -/
def othOk (k : Nat) (y : A) (S : Store) : Bool := match insOf y S with
  | some (k', _) => k' == k
  | none => match tyA y S with
    | some n => eqNames.contains n
    | none => false
section
variable {X : Cx} {T : Tb} {W : XK} {pins : List (Addr × Obj)} {σ : L2.St} {H : Hp} {s : Shared} {μ : List Addr} {S : Store}
def gEqM (mt : Nat → Option FM) (neg : Bool → Bool) (g : OpG) : OpM := fun x y S => match insOf x S with
  | some (k, _) => (match mt k with
    | some fM => if othOk k y S = true then blR neg (fM [x, y] S) else .stk
    | none => .stk)
  | none => (match insOf y S with
    | some _ => .stk
    | none => .ofO (g x y S) S)
variable {J : Nat} {mt : Nat → Option FM}
end
/-! x != y, the class without an own __ne__ -/
section
variable {prog : Program} {w : World} {A : Around} {E : Value → Shared → Prop} {s : Shared} {K : PySem.W.Frag} {x C f : Addr} {ox : Obj} {od : Option Obj} {u tb : Value}
end
/-- what the text's class has for != -/
def NeT (X : Cx) (T : Tb) (mt : Nat → Option FM) : Prop := ∀ k fM, mt k = some fM → PySem.W.findIn X.K (.ref (T.cA k)) "__ne__" = some (some (.builtin "object.__ne__")) ∧ PySem.W.mroIn X.K (T.cA k) (.type "object") = some true
section
variable {X : Cx} {T : Tb} {W : XK} {J : Nat} {mt : Nat → Option FM}
end
end L3

set_option Elab.async false
set_option linter.all false
set_option maxRecDepth 100000
set_option maxHeartbeats 2000000
namespace L3
open PySem PySem.Spec PyProof.Rows L2 NdefX LamX
open L2H (RoomH PinOk cxH inv_startH roomH_of)
/-! ### calls with keywords, of static methods -/
abbrev MK (X : Cx) (T : Tb) (W : XK) (kws : List Keyword) (r : AM) : Prop := PK X kws (rdA T W r)
theorem pk_imp {X : Cx} {kws : List Keyword} {t t' : TA} (h : PK X kws t) (k : ∀ σ H Q, t' σ H Q → t σ H Q) : PK X kws t' := ⟨fun pos pins s σ H Q I q => h.run pos pins s σ H Q I (k σ H Q q)⟩
section
variable {X : Cx} {T : Tb} {W : XK} {e : Expr} {es : List Expr} {kws : List Keyword} {m : EM} {r rk : AM} {nm : Option Str} {kpos pos : Pos}
theorem mk_nil : MK X T W [] aNil := pk_imp pk_nil fun σ H Q ⟨μ, ρ, S, he, hs, h⟩ => h μ H [] Ext.refl hs rfl
theorem mk_cons (ha : ME X T W e m) (hr : MK X T W kws r) : MK X T W (⟨nm, e, kpos⟩ :: kws) (aCons m r) := pk_imp (pk_cons ha hr) fun σ H Q ⟨μ, ρ, S, he, hs, h⟩ => by
  refine rd_step he hs h fun x H1 μ1 S1 p ex he1 hs1 ra h1 => ?_
  refine rdA_step he1 hs1 h1 fun xs H2 μ2 S2 ps ex2 he2 hs2 rs h2 => ?_
  exact h2 μ2 H2 _ Ext.refl hs2 ⟨x, xs, rfl, ra.mono ex2, rs⟩
theorem perm_vals {ix : List Nat} {vs : List V} {us : List Value} (r : Vals vs us) : Vals (perm ix vs) (perm ix us) := by
  unfold perm
  induction ix with
  | nil => exact .nil
  | cons i ix ih =>
    rw [List.filterMap_cons, List.filterMap_cons]
    cases q : vs[i]? with
    | none =>
      have : us[i]? = none := by
        rw [List.getElem?_eq_none_iff] at q ⊢
        rw [← r.length]; exact q
      rw [this]
      exact ih
    | some v =>
      obtain ⟨u, hu, rv⟩ := r.get q
      rw [hu]
      exact .cons rv ih
theorem perm_reps {T : Tb} {μ : List Addr} {H : Hp} {ix : List Nat} {xs : List A} {vs : List V} (r : RepAs T μ H xs vs) : RepAs T μ H (perm ix xs) (perm ix vs) := by
  have get : ∀ {xs : List A} {vs : List V} {i : Nat}, RepAs T μ H xs vs → (xs[i]? = none → vs[i]? = none) ∧ ∀ x, xs[i]? = some x → ∃ v, vs[i]? = some v ∧ RepA T μ H x v := by
    intro xs
    induction xs with
    | nil => rintro vs i h; have h' : vs = [] := h; subst h'; exact ⟨fun _ => rfl, fun x e => by cases e⟩
    | cons y ys ih =>
      rintro vs i ⟨v, ws, rfl, h1, h2⟩
      cases i with
      | zero => exact ⟨fun e => by simp at e, fun x e => by simp at e; subst e; exact ⟨v, rfl, h1⟩⟩
      | succ i => simpa using ih (i := i) h2
  unfold perm
  induction ix with
  | nil => rfl
  | cons i ix ih =>
    rw [List.filterMap_cons, List.filterMap_cons]
    cases q : xs[i]? with
    | none => rw [(get r).1 q]; exact ih
    | some x =>
      obtain ⟨v, e, rv⟩ := (get r).2 x q
      rw [e]
      exact ⟨v, _, rfl, rv, ih⟩
def eCallK (n m : Nat) (ix : List Nat) (fM : FM) (r rk : AM) : EM := fun ρ S => (r ρ S).bind fun xs S1 => (rk ρ S1).bind fun zs S2 => if xs.length = n ∧ zs.length = m then fM (perm ix (xs ++ zs)) S2 else .stk
/-- f(e, .., k = v, ..) for the value f, first ahead -/
theorem cw_kw {pins : List (Addr × Obj)} {σ : L2.St} {H : Hp} {s : Shared} {Q : Value → Shared → Prop} {μ : List Addr} {ρ : Env} {S : Store} {f : Value} {first : List Value} {γ δ : Type} {Rq : List Addr → Hp → γ → δ → Prop} {Q' : δ → Hp → Prop} {k : List A → List A → Store → R γ}
    (I : Inv X pins σ H s) (hk : PySem.W.keepIn X.K f = true) (ha : MA X T W es r) (hkw : MK X T W kws rk) (he : RepE T μ H ρ σ) (hs : StOk T μ H S) (h : Aft T Rq μ H Q' W ((r ρ S).bind fun xs S1 => (rk ρ S1).bind fun zs S2 => k xs zs S2))
    (go : ∀ s2 H2 μ2 S2 vs us zs ws xs ys, Inv X pins σ H2 s2 → StOk T μ2 H2 S2 → RepAs T μ2 H2 xs vs → RepAs T μ2 H2 ys zs → Vals vs us → Vals zs ws → Ext μ H μ2 H2 → Aft T Rq μ2 H2 Q' W (k xs ys S2) → wpAny (model X.prog X.w) X.A (call f (first ++ us) (((backToKw pos (keywordEach kws X.env)).filterMap (·.1)).zip ws)) Q X.xe s2)
    (hst : ∀ e es', es = e :: es' → starEach (e :: es') X.env = (false, eval e X.env) :: starEach es' X.env := by intro _ _ h; cases h <;> rfl) (hpl : ((backTo pos (starEach es X.env)).any (·.1) || (backToKw pos (keywordEach kws X.env)).any (·.1.isNone)) = false := by rfl) (hall : (backToKw pos (keywordEach kws X.env)).all (·.1.isSome) = true := by rfl) (hr0 : es = [] → r = aNil := by intro h; first | rfl | cases h) :
    wpAny (model X.prog X.w) X.A (callWith pos f first (backTo pos (starEach es X.env)) (backToKw pos (keywordEach kws X.env))) Q X.xe s := by
  have body : ∀ {us : List Value} {vs : List V} {s1 : Shared} {H1 : Hp} {μ1 : List Addr} {S1 : Store} {xs : List A}, Inv X pins σ H1 s1 → RepE T μ1 H1 ρ σ → StOk T μ1 H1 S1 → RepAs T μ1 H1 xs vs → Vals vs us → Ext μ H μ1 H1 → Aft T Rq μ1 H1 Q' W ((rk ρ S1).bind fun zs S2 => k xs zs S2) →
      wpAny (model X.prog X.w) X.A (evalAll ((backToKw pos (keywordEach kws X.env)).map (·.2))) (fun ks s₂ => X.K.In s₂.heap ∧ wpAny (model X.prog X.w) X.A (call f (first ++ us) (((backToKw pos (keywordEach kws X.env)).filterMap (·.1)).zip ks)) Q X.xe s₂) X.xe s1 := by
    intro us vs s1 H1 μ1 S1 xs I1 he1 hs1 rs rv ex h1
    have q2 : rdA T W rk σ H1 fun zs H2 => ∃ μ2 S2 ys, StOk T μ2 H2 S2 ∧ RepAs T μ2 H2 ys zs ∧ Ext μ1 H1 μ2 H2 ∧ Aft T Rq μ2 H2 Q' W (k xs ys S2) := rdA_step he1 hs1 h1 fun zs H2 μ2 S2 ys ex2 he2 hs2 rs2 h2 => ⟨μ2, S2, ys, hs2, rs2, ex2, h2⟩
    exact thn (hkw.run pos pins s1 σ H1 _ I1 q2) fun ws s2 ⟨zs, H2, I2, rz, μ2, S2, ys, hs2, rs2, ex2, h2⟩ => ⟨I2.kIn, go s2 H2 μ2 S2 vs us zs ws xs ys I2 hs2 (rs.mono ex2) rs2 rv rz (ex.trans ex2) h2⟩
  have q1 : rdA T W r σ H fun vs H1 => ∃ μ1 S1 xs, RepE T μ1 H1 ρ σ ∧ StOk T μ1 H1 S1 ∧ RepAs T μ1 H1 xs vs ∧ Ext μ H μ1 H1 ∧ Aft T Rq μ1 H1 Q' W ((rk ρ S1).bind fun zs S2 => k xs zs S2) := rdA_step he hs h fun vs H1 μ1 S1 xs ex he1 hs1 rs h1 => ⟨μ1, S1, xs, he1, hs1, rs, ex, h1⟩
  cases es with
  | nil =>
    refine PySem.W.callWith_KW0 (h₀ := X.base) I.ok.mod.kin hk hall ?_ hpl
    have e0 := hr0 rfl
    subst e0
    exact body (us := []) (vs := []) I he hs (xs := []) rfl .nil Ext.refl h
  | cons e es' =>
    refine PySem.W.callWith_KW (h₀ := X.base) I.ok.mod.kin hk hall (thn (ha.run pos pins s σ H _ I q1) fun us s1 ⟨vs, H1, I1, rv, μ1, S1, xs, he1, hs1, rs, ex, h1⟩ => ?_) hpl (hst e es' rfl)
    exact body I1 he1 hs1 rs rv ex h1
variable {x m : Str} {p apos : Pos} {f : Addr} {fd : FuncData} {ps ks : List Str} {fM : FM} {j n : Nat} {ix : List Nat}
theorem me_stat {cx : Str} {cp : Pos} {C : Addr} {pl : Sem Bool} (L : Lv X T W) (SM : StatM X.K C m f) (F : FnOk X.prog X.w X.K X.mg X.base (CXB T.nn X.prog X.w) j f fd ps (spD T fM)) (hr : Room j X.A) (hg : Gl X cx) (hm : X.mg cx = some (.ref C)) (hb : KB fd ps n ks ix) (ha : MA X T W es r) (hkw : MK X T W kws rk)
    (ht : eval (.Call (.Attribute (.Name cx cp) m apos) es kws pos) X.env = (do
      let ov ← eval (.Name cx cp) X.env
      standAt apos.atName
      let (f, first) ← holding [ov] (getMethod ov m pl)
      callWith pos f first (backTo pos (starEach es X.env)) (backToKw pos (keywordEach kws X.env))) := by rfl) (hdb : (cx == ("__debug__" : Str)) = false := by decide)
    (hks : (backToKw pos (keywordEach kws X.env)).filterMap (·.1) = ks := by rfl) (hst : ∀ e es', es = e :: es' → starEach (e :: es') X.env = (false, eval e X.env) :: starEach es' X.env := by intro _ _ h; cases h <;> rfl) (hpl : ((backTo pos (starEach es X.env)).any (·.1) || (backToKw pos (keywordEach kws X.env)).any (·.1.isNone)) = false := by rfl) (hall : (backToKw pos (keywordEach kws X.env)).all (·.1.isSome) = true := by rfl) (hr0 : es = [] → r = aNil := by intro h; first | rfl | cases h) :
    ME X T W (.Call (.Attribute (.Name cx cp) m apos) es kws pos) (eCallK n ks.length ix fM r rk) := ⟨fun pins s σ H Q I ⟨μ, ρ, S, he, hs, h⟩ => by
  obtain ⟨mc, q, rest, g1, g2, g3, g4⟩ := SM.ex
  refine PySem.W.methodCall_KW (pl := pl) (ld_glob I hg hm ?_ hdb) ht
  obtain ⟨mm, hF⟩ := I.fr
  refine PySem.W.method_of_cls hF I.ok.mod.kin SM.ga (PySem.W.cls_sm hF I.ok.mod.kin g1 g2 g3 g4 rfl ?_)
  have I1 := I.tok (s.toks + 1)
  refine cw_kw (first := []) I1 SM.kp ha hkw he hs h (fun s2 H2 μ2 S2 vs us zs ws xs ys I2 hs2 rs2 rk2 rv rz ex h2 => ?_) hst hpl hall hr0
  split at h2
  · rename_i hl
    rw [hks]
    have e1 : us.length = n := by rw [← rv.length, rs2.length]; exact hl.1
    have e2 : ws.length = ks.length := by rw [← rz.length, rk2.length]; exact hl.2
    have sp : spD T fM (perm ix (vs ++ zs)) H2 Q W := ⟨μ2, S2, _, perm_reps (reps_app rs2 rk2), hs2, h2⟩
    show wpAny _ _ (call (.ref f) us (ks.zip ws)) _ _ _
    refine wpAny_call (codeAny_mono (F.run X.A X.stack s2 H2 ⟨us, ks.zip ws⟩ (perm ix (us ++ ws)) _ Q W hr I2.env0 (.of_eq (hb us ws e1 e2)) (perm_vals (rv.append rz)) sp) fun r s' hq => ?_)
    cases r with
    | error e => exact L.pass pins σ H2 s2 e s' I2 hq
    | ok fl =>
      cases fl with
      | ret u => exact I2.after hq
      | next => exact False.elim hq
      | brk => exact False.elim hq
      | cont => exact False.elim hq
  · exact h2.elim⟩
/-- C(e, .., k = v, ..) -/
def eMakeK (k n m : Nat) (ix : List Nat) (fM : FM) (r rk : AM) : EM := fun ρ S => (r ρ S).bind fun xs S1 => (rk ρ S1).bind fun zs S2 => if xs.length = n ∧ zs.length = m then mkR k S2.length (fM (perm ix (.m S2.length :: xs ++ zs)) (S2 ++ [.ins k []])) else .stk
end
def gIsiC (cs : List Nat) : CallG := fun xs S => match xs with
  | [x, .v (.cls k)] => if cs.contains k then (match insOf x S with
    | some (k', _) => if cs.contains k' then some (blA (k' == k)) else none
    | none => (tyA x S).bind fun n => if eqNames.contains n then some (blA false) else none) else none
  | [x, y] => gIsi [x, y] S
  | _ => none
end L3

set_option Elab.async false
set_option linter.all false
set_option maxRecDepth 100000
set_option maxHeartbeats 2000000
namespace L3
open PySem PySem.Spec PyProof.Rows L2 NdefX LamX
open L2H (RoomH PinOk cxH inv_startH roomH_of)
theorem lv0 {X : Cx} {T : Tb} (hK : X.K = T.K) : Lv X T W0 := ⟨hK, tkB_F⟩
/-- ==, != of scalars, else of data at any depth -/
def gEqA : OpG := fun a b S => match gEq a b S with
  | some z => some z
  | none => gEqD a b S
def gNeA : OpG := fun a b S => match gNe a b S with
  | some z => some z
  | none => gNeD a b S
section
variable {X : Cx} {T : Tb} {W : XK} {a b : Expr} {ma mb : EM} {pos : Pos}
theorem op_or {f : Value → Value → Sem Value} {g h k : OpG} (hg : OpD X T f g) (hh : OpD X T f h) (e : ∀ a b S, k a b S = g a b S ∨ k a b S = h a b S) : OpD X T f k := by
  rintro pins s σ H x y v u Q I rx ry ⟨μ, S, a, b, z, hs, ra, rb, hk, q⟩
  rcases e a b S with e | e
  · exact hg pins s σ H x y v u Q I rx ry ⟨μ, S, a, b, z, hs, ra, rb, by rw [← e]; exact hk, q⟩
  · exact hh pins s σ H x y v u Q I rx ry ⟨μ, S, a, b, z, hs, ra, rb, by rw [← e]; exact hk, q⟩
theorem op_gEqA (hK : X.K = T.K) (hu : X.A.units + 64 < cLine) : OpD X T (compareOp .Eq) gEqA := op_or op_gEq (op_gEqD hK hu) fun a b S => by
  unfold gEqA
  split
  · rename_i q; exact .inl q.symm
  · exact .inr rfl
theorem op_gNeA (hK : X.K = T.K) (hu : X.A.units + 64 < cLine) : OpD X T (compareOp .NotEq) gNeA := op_or op_gNe (op_gNeD hK hu) fun a b S => by
  unfold gNeA
  split
  · rename_i q; exact .inl q.symm
  · exact .inr rfl
def mt0 : Nat → Option FM := fun _ => none
/-- a comparison that may run own methods, as a test -/
theorem mt_cmpM {op : CmpOp} {g : OpM} (hL : Lv X T W) (ho : OpDM X T W (compareOp op) g) (hg : ∀ x y S z S', g x y S = .ok z S' → ∃ k, z = blA k) (ha : ME X T W a ma) (hb : ME X T W b mb) (hm : behindInMarks op b = false := by first | exact nomark _ | rfl | with_unfolding_all rfl) :
    MT X T W (.Compare a [op] [b] pos) (tE (eOpM g ma mb)) := pt_imp (pt_cmpR ho ha hb hm) fun σ H Q ⟨μ, ρ, S, he, hs, h⟩ => by
  have h2 : Aft T (fun _ _ a b => a = b) μ H Q W ((ma ρ S).bind fun x S1 => (mb ρ S1).bind fun y S2 => (g x y S2).bind fun z S3 => R.ofO (truD z S3) S3) := by
    unfold tE eOpM at h
    cases q1 : ma ρ S with
    | stk => rw [q1] at h; exact h
    | err e S1 => rw [q1] at h; exact h
    | ok x S1 =>
      simp only [q1, R.bind_ok] at h ⊢
      cases q2 : mb ρ S1 with
      | stk => rw [q2] at h; exact h
      | err e S2 => rw [q2] at h; exact h
      | ok y S2 => simpa only [q2, R.bind_ok] using h
  refine rd_step he hs h2 fun v H1 μ1 S1 x ex he1 hs1 ra h3 => ?_
  refine rd_step he1 hs1 h3 fun u H2 μ2 S2 y ex2 he2 hs2 rb h4 => ?_
  refine ⟨μ2, S2, x, y, hs2, ra.mono ex2, rb, ?_⟩
  cases q : g x y S2 with
  | stk => rw [q] at h4; exact h4
  | err e S3 => rw [q] at h4; exact h4
  | ok z S3 =>
    obtain ⟨k, rfl⟩ := hg _ _ _ _ _ q
    rw [q] at h4
    intro μ' H' w ex3 hs3 r3
    exact ⟨k, of_bl r3, h4 μ' H' k ex3 hs3 rfl⟩
theorem blR_ok {f : Bool → Bool} {r : R A} {z : A} {S : Store} (h : blR f r = .ok z S) : ∃ k, z = blA k := by
  unfold blR at h
  split at h
  · cases h; exact ⟨_, rfl⟩
  · cases h
  · cases h
theorem ofO_ok {o : Option A} {S S' : Store} {z : A} (h : R.ofO o S = .ok z S') : o = some z := by
  cases o with
  | none => cases h
  | some y => cases h; rfl
theorem gInM_bl {mt : Nat → Option FM} {neg : Bool → Bool} {g : OpG} (hg : ∀ x y S z, g x y S = some z → ∃ k, z = blA k) : ∀ x y S z S', gInM mt neg g x y S = .ok z S' → ∃ k, z = blA k := fun x y S z S' h => by
  unfold gInM at h
  split at h
  · split at h
    · exact blR_ok h
    · cases h
  · exact hg _ _ _ _ (ofO_ok h)
theorem gEqD_bl : ∀ x y S z, gEqD x y S = some z → ∃ k, z = blA k := fun x y S z h => by
  unfold gEqD at h
  split at h
  · split at h
    · split at h
      · cases h; exact ⟨_, rfl⟩
      · cases h
    · cases h
  · cases h
theorem gNeD_bl : ∀ x y S z, gNeD x y S = some z → ∃ k, z = blA k := fun x y S z h => by
  unfold gNeD at h
  split at h
  · split at h
    · split at h
      · cases h; exact ⟨_, rfl⟩
      · cases h
    · cases h
  · cases h
theorem gEqA_bl : ∀ x y S z, gEqA x y S = some z → ∃ k, z = blA k := fun x y S z h => by
  unfold gEqA at h
  split at h
  · rename_i q; cases h; exact gEq_bl _ _ _ _ q
  · exact gEqD_bl _ _ _ _ h
theorem gNeA_bl : ∀ x y S z, gNeA x y S = some z → ∃ k, z = blA k := fun x y S z h => by
  unfold gNeA at h
  split at h
  · rename_i q; cases h; exact gNe_bl _ _ _ _ q
  · exact gNeD_bl _ _ _ _ h
end
section
variable {X : Cx} {T : Tb} {W : XK} {r : AM} {x : Str} {e : Expr} {es : List Expr} {p pos rpos : Pos} {k : Nat} {fl : List (Str × IniV)} {ps : List Str}
theorem ms_raiseE (L : Lv X T W) (hc : X.calm = true) (E : ExT X.prog X.K X.mg (T.cA k) ps fl) (hr : Room 2 X.A) (hg : Gl X x) (hm : X.mg x = some (.ref (T.cA k))) (ha : MA X T W (e :: es) r)
    (hdb : (x == ("__debug__" : Str)) = false := by decide) (he : starEach (e :: es) X.env = (false, eval e X.env) :: starEach es X.env := by rfl) (hpl : (backTo pos (starEach es X.env)).any (·.1) = false := by rfl) :
    MS X T W (.Raise (some (.Call (.Name x p) (e :: es) [] pos)) none rpos) (sRaise k (ps.length - 1) fl r) := by
  obtain ⟨fI, fd, h1, h2, h3, h4⟩ := E.ex
  exact ms_raise L hc rfl E.o h1 h2 (h4 X.w X.base T.nn) hr h3 hg hm ha hdb he hpl
end
end L3
namespace L3
open PySem PySem.Spec PyProof.Rows L2 NdefX LamX
theorem me_cls {X : Cx} {T : Tb} {W : XK} {x : Str} {pos : Pos} (k : Nat) (hg : Gl X x) (hm : X.mg x = some (.ref (T.cA k))) (hd : (x == ("__debug__" : Str)) = false := by decide) : ME X T W (.Name x pos) (eC (.cls k)) :=
  me_c (v := .ref (T.cA k)) (fun _ _ => by simp only [Rep]) (pe_glob hg hm rfl hd)
end L3

set_option Elab.async false
set_option linter.all false
set_option maxRecDepth 100000
set_option maxHeartbeats 2000000
namespace L3
open PySem PySem.Spec PyProof.Rows L2 NdefX LamX
open L2H (RoomH PinOk cxH inv_startH roomH_of)
theorem _root_.L2H.RoomH.units {k : Nat} {A : Around} (r : RoomH k A) : A.units + 64 < cLine := by
  have := r.un
  omega
theorem nm_of {X : Cx} {x : Str} {c : Value} (hg : Gl X x) (hm : X.mg x = some c) (hd : (x == ("__debug__" : Str)) = false := by decide) : Names X x c := ⟨hg, hd, .inl hm⟩
theorem eXf_v {slot : Nat} {a : Addr} {er : Er} {f : Str} {ρ : Env} {S : Store} {d : D} (h : ρ[slot]? = some (some (.v (.adr a)))) (hd : er.fs.lookup f = some d) : eXf slot a er f ρ S = .ok (.v d) S := by
  unfold eXf
  rw [h]
  simp only [if_true, hd]
theorem eCallX_v {slot : Nat} {a : Addr} {er : Er} {g : Addr → Er → Store → R A} {ρ : Env} {S : Store} (h : ρ[slot]? = some (some (.v (.adr a)))) : eCallX slot a er g ρ S = g a er S := by
  unfold eCallX
  rw [h]
  simp only [if_true]
end L3

set_option Elab.async false
set_option linter.all false
set_option maxRecDepth 100000
set_option maxHeartbeats 2000000
namespace L3
open PySem PySem.Spec PyProof.Rows L2 NdefX LamX
theorem map_nil' {α β : Type} {f : α → β} {l : List α} (h : l.map f = []) : l = [] := by
  cases l <;> first | rfl | cases h
theorem DefA.fun_ {K : PySem.W.Frag} {d : DefA} (e : fnO K (d.at_ K) = d.val) (c : d.ok K = true) (hc : d.clo = [] := by rfl) : ∃ fd, Fun K d.name d.qual d.st (d.at_ K) fd ∧ PySem.W.keepIn K (.ref (d.at_ K)) = true := by
  obtain ⟨kp, oc, od, osl, clo, kV, doc, pm, an, cdv, ct, h1, h2, h3⟩ := d.get e c
  rw [hc] at h1
  have := map_nil' h1
  subst this
  exact ⟨_, fun_mk (st := d.st) h3 h2 kp, kp⟩
def tabB (o : Option Obj) : Bool := match o with
  | some ⟨.none, none, .fields vs, sl⟩ => vs.size == 0 && sl.size == 0
  | _ => false
theorem tabB_ok {o : Option Obj} (h : tabB o = true) : o = some { cls := .none, data := .fields #[] } := by
  unfold tabB at h
  split at h
  · rename_i vs sl
    obtain ⟨h1, h2⟩ := and2 h
    have e1 : vs = #[] := Array.eq_empty_of_size_eq_zero (by simpa using h1)
    have e2 : sl = #[] := Array.eq_empty_of_size_eq_zero (by simpa using h2)
    subst e1 e2
    rfl
  · cases h
def cut (K : PySem.W.Frag) (P : Addr) : PySem.W.Frag := K.filter fun p => p.1 != P
theorem cut_none {P : Addr} : ∀ K : PySem.W.Frag, (cut K P).lookup P = none
  | [] => rfl
  | (b, o) :: r => by
    unfold cut
    rw [List.filter_cons]
    split
    · rename_i h
      rw [List.lookup_cons]
      have : (P == b) = false := by
        have h2 : (b != P) = true := h
        simp only [bne_iff_ne, ne_eq] at h2
        simpa using fun z : P = b => h2 z.symm
      rw [this]
      exact cut_none r
    · exact cut_none r
theorem cut_sub {P a : Addr} {o : Obj} : ∀ K : PySem.W.Frag, (cut K P).lookup a = some o → K.lookup a = some o
  | [], e => by cases e
  | (b, o') :: r, e => by
    unfold cut at e
    rw [List.filter_cons] at e
    split at e
    · rw [List.lookup_cons] at e ⊢
      cases q : a == b with
      | true => rw [q] at e; exact e
      | false => rw [q] at e; exact cut_sub r e
    · rename_i h
      have e2 := cut_sub r e
      rw [List.lookup_cons]
      cases q : a == b with
      | true =>
        have hb : b = P := by simpa using h
        have ha : a = P := (eq_of_beq q).trans hb
        subst ha
        have hn := cut_none (P := a) r
        have e3 : (cut r a).lookup a = some o := e
        rw [hn] at e3
        cases e3
      | false => exact e2
def growU (g : Addr → Option Obj) (as : List Addr) : List Addr := (as ++ as.flatMap fun a => match g a with
  | some o => He.refsD o
  | none => []).eraseDups
def asU (g : Addr → Option Obj) (roots : List Addr) : Nat → List Addr
  | 0 => roots
  | n + 1 => growU g (asU g roots n)
abbrev AlU : Type := Bool × List FnO
def obsU (ok : PySem.W.Frag → Bool) (fn : List DefA) (K0 : PySem.W.Frag) : AlU := match PySem.W.tabIn K0 "law" with
  | some (c, P) => (tabB (K0.lookup P) && (PySem.W.codeHdIn (cut K0 P) c P && (decide (lawCode (cut K0 P) = .ref c) && (ok (cut K0 P) && fn.all fun d => d.ok (cut K0 P)))), fn.map fun d => fnO (cut K0 P) (d.at_ (cut K0 P)))
  | none => (false, [])
def valU (fn : List DefA) : AlU := (true, fn.map DefA.val)
def obsUG (n : Nat) (roots : List Addr) (ok : PySem.W.Frag → Bool) (fn : List DefA) (g : Addr → Option Obj) : AlU := obsU ok fn (He.frG g (asU g roots n))
def hookU (n : Nat) (roots : List Addr) (ok : PySem.W.Frag → Bool) (fn : List DefA) : PySem.W.Hook where
  α := AlU
  obs := fun s => obsUG n roots ok fn s.heap.get?
  val := fun _ => valU fn
  says := fun _ h => ∃ K c P, SaysU ok fn K c P h
  of := fun _ s e => by
    have e' : obsU ok fn (He.frG s.heap.get? (asU s.heap.get? roots n)) = valU fn := e
    have kin : (He.frG s.heap.get? (asU s.heap.get? roots n)).In s.heap := He.frG_in
    generalize He.frG s.heap.get? (asU s.heap.get? roots n) = K0 at e' kin
    unfold obsU at e'
    split at e'
    · rename_i c P ht
      have e1 : _ = true := congrArg Prod.fst e'
      have e2 := congrArg Prod.snd e'
      obtain ⟨a1, e1⟩ := and2 e1
      obtain ⟨a2, e1⟩ := and2 e1
      obtain ⟨a3, e1⟩ := and2 e1
      obtain ⟨a4, a5⟩ := and2 e1
      have kc : (cut K0 P).In s.heap := fun a o z => kin a o (cut_sub K0 z)
      exact ⟨cut K0 P, c, P, kc, cut_none K0, kin _ _ (tabB_ok a1), PySem.W.codeHd_of_K kc a2, of_decide_eq_true a3, a4, fun d hd => List.all_eq_true.mp a5 d hd, e2⟩
    · cases congrArg Prod.fst e'
  keeps := fun _ _ _ ⟨K, c, P, z⟩ k => ⟨K, c, P, PySem.W.Frag.In.keeps z.kin k, z.no, k _ _ z.tab, z.hd.keeps k, z.code, z.ok, z.fok, z.fn⟩
section
variable {ok : PySem.W.Frag → Bool} {fn : List DefA} {K : PySem.W.Frag} {c P : Addr} {h : Heap}
theorem SaysU.eq (z : SaysU ok fn K c P h) (i : Nat) {d : DefA} (hd : fn[i]? = some d) : fnO K (d.at_ K) = d.val := by
  have e2 : (fn.map fun d => fnO K (d.at_ K))[i]? = (fn.map DefA.val)[i]? := by rw [z.fn]
  rw [List.getElem?_map, List.getElem?_map, hd] at e2
  exact Option.some.inj e2
theorem SaysU.def_ (z : SaysU ok fn K c P h) (i : Nat) {d : DefA} (hd : fn[i]? = some d := by rfl) (hc : d.clo = [] := by rfl) : ∃ fd, Fun K d.name d.qual d.st (d.at_ K) fd ∧ PySem.W.keepIn K (.ref (d.at_ K)) = true :=
  d.fun_ (z.eq i hd) (z.fok d (List.mem_of_getElem? hd)) hc
end
end L3

set_option Elab.async false
set_option linter.all false
set_option maxRecDepth 100000
set_option maxHeartbeats 2000000
namespace L3
open PySem PySem.Spec PyProof.Rows L2 NdefX LamX
/-! ### checks of the head's facts -/
def oB (a b : Option (Option Value)) : Bool := decide (a = b)
theorem oB_ok {a b : Option (Option Value)} (h : oB a b = true) : a = b := of_decide_eq_true h
section
variable {K : PySem.W.Frag}
/-! properties -/
def propG (K : PySem.W.Frag) (C : Addr) (f : Str) : Addr := match PySem.W.recIn K (He.ma K C f) "property" with
  | some (.ref g :: _) => g
  | _ => 0
def propB (K : PySem.W.Frag) (C : Addr) (f : Str) : Bool := oB (PySem.W.findIn K (.ref C) f) (some (some (.ref (He.ma K C f)))) && (oB (PySem.W.specialIn K (.ref (He.ma K C f)) "__get__") (some (some (.builtin "property.__get__"))) && (decide (PySem.W.takesIn K (.ref (He.ma K C f)) = some true) && (PySem.W.recIn K (He.ma K C f) "property").any fun l => match l with
  | .ref g :: _ => g == propG K C f
  | _ => false))
/-! static methods -/
def statG (K : PySem.W.Frag) (C : Addr) (m : Str) : Addr := match PySem.W.recIn K (He.ma K C m) "staticmethod" with
  | some (.ref f :: _) => f
  | _ => 0
def statB (K : PySem.W.Frag) (C : Addr) (m : Str) : Bool := oB (PySem.W.specialIn K (.ref C) "__getattribute__") (some (some (.builtin "type.__getattribute__"))) && (PySem.W.keepIn K (.ref (statG K C m)) && (match PySem.W.typeIn K (.ref C) with
  | some mc => PySem.W.readsIn K C mc && (match PySem.W.findCls K (.ref C) mc m with
    | some (.get (.builtin b) (.ref p) .none (.ref C')) => decide (b = "staticmethod.__get__") && (decide (p = He.ma K C m) && (decide (C' = C) && (PySem.W.recIn K (He.ma K C m) "staticmethod").any fun l => match l with
      | .ref g :: _ => g == statG K C m
      | _ => false))
    | _ => false)
  | none => false))
theorem statB_ok {C : Addr} {m : Str} (h : statB K C m = true) : StatM K C m (statG K C m) := by
  obtain ⟨h1, h⟩ := and2 h
  obtain ⟨h2, h⟩ := and2 h
  refine ⟨oB_ok h1, ?_, h2⟩
  cases q : PySem.W.typeIn K (.ref C) with
  | none => rw [q] at h; cases h
  | some mc =>
    rw [q] at h
    obtain ⟨h3, h⟩ := and2 h
    cases q2 : PySem.W.findCls K (.ref C) mc m with
    | none => rw [q2] at h; cases h
    | some r =>
      rw [q2] at h
      split at h
      · rename_i b p C' e
        cases e
        obtain ⟨h4, h⟩ := and2 h
        obtain ⟨h5, h⟩ := and2 h
        obtain ⟨h6, h7⟩ := and2 h
        have e4 := of_decide_eq_true h4
        have e5 := of_decide_eq_true h5
        have e6 := of_decide_eq_true h6
        subst e4 e5 e6
        cases q3 : PySem.W.recIn K (He.ma K C' m) "staticmethod" with
        | none => rw [q3] at h7; cases h7
        | some l =>
          rw [q3] at h7
          match l, h7 with
          | .ref g :: r, h7 =>
            have e : g = statG K C' m := by simpa using h7
            exact ⟨mc, _, r, rfl, h3, q2, by rw [← e]; exact q3⟩
      · cases h
/-! own errors -/
def oexB (K : PySem.W.Frag) (C : Addr) : Bool := (match K.lookup C with
  | some ⟨.type "type", _, .cls cd, sl⟩ => (match cd.mro, sl.toList with
    | .ref C' :: bm, [_, _, _, _, some (.builtin n), _] => C' == C && (n == "ValueError.__new__" && (!cd.hasDel && (cd.hasDict && PySem.HandSPX.refsVE bm)))
    | _, _ => false)
  | _ => false) && (oB (PySem.W.findIn K (.ref C) "__setattr__") (some (some (.builtin "object.__setattr__"))) && (decide (PySem.W.subIn K (.ref C) (.type "BaseException") = some true) && (decide (PySem.W.typeIn K (.ref C) = some (.type "type")) && PySem.W.keepIn K (.ref C))))
theorem oexB_ok {C : Addr} (h : oexB K C = true) : OexC K C := by
  obtain ⟨q, h⟩ := and2 h
  obtain ⟨h2, h⟩ := and2 h
  obtain ⟨h3, h⟩ := and2 h
  obtain ⟨h4, h5⟩ := and2 h
  refine ⟨?_, oB_ok h2, of_decide_eq_true h3, of_decide_eq_true h4, h5⟩
  split at q
  · rename_i dd cd sl ho
    split at q
    · rename_i C' bm k0 k1 k2 k3 n k5 hm hs
      simp only [Bool.and_eq_true, beq_iff_eq, Bool.not_eq_true'] at q
      obtain ⟨rfl, rfl, hdel, hdict, hr⟩ := q
      obtain ⟨nm, bs, mro, ns, qn, hd, sn, sub, ab, col, del⟩ := cd
      dsimp only at hm hdel hdict
      subst hm hdel hdict
      have hsl : sl = #[k0, k1, k2, k3, some (.builtin "ValueError.__new__"), k5] := by
        obtain ⟨l⟩ := sl
        simp only at hs
        rw [hs]
      subst hsl
      exact ⟨nm, qn, ns, bs, bm, sn, sub, ab, col, dd, k0, k1, k2, k3, k5, ho, hr⟩
    · cases q
  · cases q
def supB (K : PySem.W.Frag) (C : Addr) (main : Str) (cdv : Value) (clo : List (Str × Addr)) : Bool := match cdv, clo with
  | .ref c, [(_, cc)] => decide (cellV K cc = some (.ref C)) && fileV K c main
  | _, _ => false
theorem supB_ok {C : Addr} {main : Str} {cdv : Value} {clo : List (Str × Addr)} (h : supB K C main cdv clo = true) : ∃ c x cc, cdv = .ref c ∧ clo = [(x, cc)] ∧ cellV K cc = some (.ref C) ∧ fileV K c main = true := by
  unfold supB at h
  split at h
  · obtain ⟨k1, k2⟩ := and2 h
    exact ⟨_, _, _, rfl, rfl, of_decide_eq_true k1, k2⟩
  · cases h
def ixB (n : Nat) (fl : List (Str × IniV)) : Bool := fl.all fun p => match p.2 with
  | .inl i => decide (i + 1 < n)
  | .inr _ => true
theorem ixB_ok {n : Nat} {fl : List (Str × IniV)} (h : ixB n fl = true) : ∀ p ∈ fl, ∀ i, p.2 = .inl i → i + 1 < n := fun p hp i e => by
  have := List.all_eq_true.mp h p hp
  rw [e] at this
  exact of_decide_eq_true this
/-- the __init__ d of the own error at C, its fields fl -/
def iniB (K : PySem.W.Frag) (d : DefA) (C : Addr) (main : Str) (fl : List Str) : Bool := oB (PySem.W.findIn K (.ref C) "__init__") (some (some (.ref (d.at_ K)))) && (decide (PySem.W.typeIn K (.ref (d.at_ K)) = some (.type "function")) && (oB (PySem.W.ks_superIn K C C "__init__") (some (some (.builtin "ValueError.__init__"))) && (decide (PySem.W.subIn K (.ref C) (.type "ValueError") = some true) && (decide (PySem.W.mroIn K C (.ref C) = some true) && (oB (PySem.W.nsIn K cStatics "thirdparty.any") (some none) &&
  ((fl.all fun f => oB (PySem.W.findIn K (.ref C) f) (some none)) && (match K.lookup (d.at_ K) with
    | some ⟨_, _, .func fd, _⟩ => supB K C main fd.code fd.closure
    | _ => false)))))))
theorem extB_ok {P : Program} {mg : Str → Option Value} {d : DefA} {C : Addr} {main : Str} {N ps : List Str} {fl : List (Str × IniV)} {rest : List Stmt} {p0 p1 p2 pos spos : Pos} (h0 : oexB K C = true) (h : iniB K d C main (fl.map (·.1)) = true) (e : fnO K (d.at_ K) = d.val) (c : d.ok K = true) (hclo : d.clo = [("__class__" : Str)]) (hmain : P.main.file = main)
    (hst : defBody d.st = .Expr (supEx p0 p1 p2 pos) spos :: rest) (S : IniS N ps (defScope d.st) (defArgs d.st) fl rest) (hm : mg "super" = none) (htop : (P.main.scope.names.lookup ("super" : Str)).isSome = false)
    (hb : ∀ (clo : List (Str × Addr)) (kV doc pm : Value) (an : Option Addr) (cdv ct : Value) (us : List Value), us.length = ps.length → bindArgs (PySem.W.fnX d.name d.qual (defArgs d.st) (defBody d.st) (defScope d.st) clo .none kV doc pm an cdv ct) ⟨us, []⟩ = pure (ps.zip us)) (hev : SupEv p0 p1 p2 pos := by exact fun _ => ⟨_, by rfl⟩) : ExT P K mg C ps fl := by
  obtain ⟨kp, oc, od, osl, clo, kV, doc, pm, an, cdv, ct, g1, g2, g3⟩ := d.get e c
  obtain ⟨h1, h⟩ := and2 h
  obtain ⟨h2, h⟩ := and2 h
  obtain ⟨h3, h⟩ := and2 h
  obtain ⟨h4, h⟩ := and2 h
  obtain ⟨h5, h⟩ := and2 h
  obtain ⟨h6, h⟩ := and2 h
  obtain ⟨h7, h⟩ := and2 h
  rw [g3] at h
  obtain ⟨cc0, x, y, rfl, rfl, k1, k2⟩ := supB_ok (show supB K C main cdv clo = true from h)
  rw [hclo] at g1
  have ey : x = "__class__" := by simpa using g1
  subst ey
  refine ⟨oexB_ok h0, _, PySem.W.fnX d.name d.qual (defArgs d.st) (defBody d.st) (defScope d.st) [(("__class__" : Str), y)] .none kV doc pm an (.ref cc0) ct, oB_ok h1, of_decide_eq_true h2, .all fun us hl => hb _ kV doc pm an _ ct us hl, fun w base b => ?_⟩
  have U : SupC K C y cc0 d.qual P.main.file := ⟨k1, oB_ok h3, of_decide_eq_true h4, of_decide_eq_true h5, oB_ok h6, g2, by rw [hmain]; exact k2⟩
  rw [hst] at g3 ⊢
  exact fn_super (k := 0) g3 (oexB_ok h0) U S (fun p hp => oB_ok (List.all_eq_true.mp h7 p.1 (List.mem_map_of_mem hp))) hm htop hev
/-! isinstance -/
def isiB (K : PySem.W.Frag) (C : Addr) : Bool := (eqNames.all fun n => decide (PySem.W.kitOne K (.type n) (.ref C) = some false)) && (oB (PySem.W.findIn K (.ref C) "__class__") (some (some (.builtin "object.__class__"))) && (oB (PySem.W.specialIn K (.builtin "object.__class__") "__get__") (some (some (.builtin "getset_descriptor.__get__"))) && (decide (PySem.W.takesIn K (.builtin "object.__class__") = some true) && decide (PySem.W.mroIn K C (.type "object") = some true))))
theorem isiB_ok {T : Tb} {k : Nat} (h : isiB T.K (T.cA k) = true) (hc : Cls T.K (T.cA k)) : IsiC T k := by
  obtain ⟨h1, h⟩ := and2 h
  obtain ⟨h2, h⟩ := and2 h
  obtain ⟨h3, h⟩ := and2 h
  obtain ⟨h4, h5⟩ := and2 h
  exact ⟨fun n hn => of_decide_eq_true (List.all_eq_true.mp h1 n hn), hc, oB_ok h2, oB_ok h3, of_decide_eq_true h4, of_decide_eq_true h5⟩
def isiL (K : PySem.W.Frag) (cA : Nat → Addr) (cs : List Nat) : Bool := cs.all fun k => isiB K (cA k) && (PySem.W.plainGet K (cA k) Str.empty && (PySem.W.hasDictIn K (cA k) && (PySem.W.plainOver K (cA k) && (He.eqO (PySem.W.findIn K (.ref (cA k)) "__setattr__") (some (some (.builtin "object.__setattr__"))) && cs.all fun k' => decide (PySem.W.kitOne K (.ref (cA k')) (.ref (cA k)) = some (k' == k))))))
theorem isiL_ok {cA : Nat → Addr} {cs : List Nat} (h : isiL K cA cs = true) : ∀ T : Tb, T.K = K → T.cA = cA → IsiT T cs := by
  rintro T rfl rfl
  have one : ∀ k ∈ cs, isiB T.K (T.cA k) = true ∧ Cls T.K (T.cA k) ∧ ∀ k' ∈ cs, PySem.W.kitOne T.K (.ref (T.cA k')) (.ref (T.cA k)) = some (k' == k) := fun k hk => by
    obtain ⟨h1, h⟩ := and2 (List.all_eq_true.mp h k hk)
    obtain ⟨h2, h⟩ := and2 h
    obtain ⟨h3, h⟩ := and2 h
    obtain ⟨h4, h⟩ := and2 h
    obtain ⟨h5, h6⟩ := and2 h
    exact ⟨h1, ⟨h2, h3, h4, He.eqO_ok h5⟩, fun k' hk' => of_decide_eq_true (List.all_eq_true.mp h6 k' hk')⟩
  exact ⟨fun k hk => isiB_ok (one k hk).1 (one k hk).2.1, fun k' hk' k hk => (one k hk).2.2 k' hk'⟩
theorem fun_kb {x qual : Str} {st : Stmt} {f : Addr} {fd : FuncData} {ps ks : List Str} {n : Nat} {ix : List Nat} (F : Fun K x qual st f fd)
    (h : ∀ (kV doc pm : Value) (an : Option Addr) (cdv ct : Value) (us ws : List Value), us.length = n → ws.length = ks.length → bindArgs (PySem.W.fnOf x qual (defArgs st) (defBody st) (defScope st) .none kV doc pm an cdv ct) ⟨us, ks.zip ws⟩ = pure (ps.zip (perm ix (us ++ ws)))) : KB fd ps n ks ix := by
  obtain ⟨oc, od, kV, doc, pm, an, cdv, ct, osl, rfl, lk, hcd⟩ := F.ex
  exact fun us ws h1 h2 => h kV doc pm an cdv ct us ws h1 h2
end
end L3

set_option Elab.async false
set_option linter.all false
set_option maxRecDepth 100000
set_option maxHeartbeats 2000000
namespace L3
open PySem PySem.Spec PyProof.Rows L2 NdefX LamX
def kidsE : Expr → List Expr
  | .BoolOp _ vs _ => vs
  | .BinOp a _ b _ => [a, b]
  | .UnaryOp _ a _ => [a]
  | .Lambda _ b _ _ => [b]
  | .IfExp a b c _ => [a, b, c]
  | .ListComp e _ _ _ => [e]
  | .SetComp e _ _ _ => [e]
  | .GeneratorExp e _ _ _ => [e]
  | .Compare a _ bs _ => a :: bs
  | .Call f as _ _ => f :: as
  | .Attribute a _ _ => [a]
  | .Subscript a b _ => [a, b]
  | .Starred a _ => [a]
  | .List es _ => es
  | .Tuple es _ _ => es
  | _ => []
def kidsS : Stmt → List Expr
  | .Return (some e) _ => [e]
  | .Assign _ e _ => [e]
  | .AugAssign _ _ e _ => [e]
  | .For _ e _ _ _ => [e]
  | .While e _ _ _ => [e]
  | .If e _ _ _ => [e]
  | .Expr e _ => [e]
  | _ => []
def subS : Stmt → List Stmt
  | .For _ _ b o _ => b ++ o
  | .While _ b o _ => b ++ o
  | .If _ b o _ => b ++ o
  | .FunctionDef _ _ b _ _ _ _ _ _ _ => b
  | _ => []
def atE : List Nat → Expr → Expr
  | [], e => e
  | i :: r, e => atE r ((kidsE e).getD i e0)
def atS : List Nat → List Nat → Stmt → Expr
  | [], i :: r, s => atE r ((kidsS s).getD i e0)
  | [], [], _ => e0
  | j :: p, q, s => atS p q ((subS s).getD j s)
def lamArgs : Expr → Arguments
  | .Lambda a _ _ _ => a
  | _ => ⟨[], [], none, [], [], none, []⟩
def lamBody : Expr → Expr
  | .Lambda _ b _ _ => b
  | e => e
def lamScope : Expr → Scope
  | .Lambda _ _ s _ => s
  | _ => ⟨.function, [], false, false, []⟩
def lfOf (q : Str) (cells : List (Str × Addr)) (dv : List Int) (e : Expr) : LF := ⟨lamArgs e, lamBody e, lamScope e, q, cloFrom cells (lamScope e).names [], dv⟩
def lawT (w : World) (K : PySem.W.Frag) (cA : Nat → Addr) (lam : Nat → LF) : Tb := ⟨K, cA, lam, fun _ _ => True, fun _ _ => trivial, fun _ _ => trivial, false, w⟩
/-! ### the law -/
def spLaw (K : PySem.W.Frag) (P : Addr) : Sp := fun vs H Q _ => ∃ (a : Addr) (ns : List Int), vs = [.ref a] ∧ ns.length ≤ 63 ∧ (∀ z ∈ ns, Builtin.Int.intBits z ≤ 1048576) ∧ SqL K H a (ns.map V.int) ∧ K.lookup P = none ∧ H P = some (.tbl #[]) ∧ ∀ H', Q (.bl true) H'
def intsD (ns : List Int) : List D := ns.map D.int
theorem rep_ints {T : Tb} {μ : List Addr} {H : Hp} : ∀ ns : List Int, RepL T μ H (intsD ns) (ns.map V.int)
  | [] => rfl
  | n :: r => ⟨.int n, _, rfl, by simp only [Rep], rep_ints r⟩
/-- the plain law: run from the law's first state it says True -/
def Plain (l : Nat) (m : SM) (P : Addr) (q : Str) : Prop := ∀ ns : List Int, ns.length ≤ 63 → (∀ z ∈ ns, Builtin.Int.intBits z ≤ 1048576) → ∃ S', m (some (.v (.fz (intsD ns))) :: List.replicate (l - 1) none) [.tab P q] = .rt (.v (.bl true)) S'
theorem law_rd {w0 : World} {K : PySem.W.Frag} {P : Addr} {q : Str} {cA : Nat → Addr} {lam : Nat → LF} {W : XK} {N : List Str} {m : SM} {vs : List V} {H : Hp} {Q : VK} {E : XK} (hp : Plain N.length m P q) (h : spLaw K P vs H Q E) :
    rdS (lawT w0 K cA lam) W m { nx := fun _ H' => Q .non H', rt := Q } (L2.start N vs) H := by
  obtain ⟨a, ns, rfl, hl, hb, hS, hK, hP, hQ⟩ := h
  obtain ⟨S', e⟩ := hp ns hl hb
  have hZ : HoldZ (lawT w0 K cA lam) [P] H a (ns.map V.int) := by
    rcases hS with hS | hS
    · refine .inl ⟨fun hm => ?_, hS⟩
      have : a = P := by simpa using hm
      subst this
      rcases hS with z | ⟨o, z⟩
      · rw [hP] at z; cases z
      · rw [hP] at z; cases z
    · exact .inr hS
  have ra : RepAs (lawT w0 K cA lam) [P] H [.v (.fz (intsD ns))] [.ref a] := ⟨_, _, rfl, by simp only [RepA, Rep]; exact ⟨_, _, rfl, hZ, rep_ints ns⟩, rfl⟩
  refine ⟨[P], _, [.tab P q], start_rep (N := N) ra, ⟨rfl, by simp, fun i b o h1 h2 => ?_, fun b hb => ?_, trivial⟩, ?_⟩
  · match i, h1, h2 with
    | 0, h1, h2 =>
      cases h1
      cases h2
      exact ⟨#[], rfl, hP, by simp [TriplesOk], fun pos cv z => by simp [codeAmong] at z⟩
    | i + 1, h1, _ => cases h1
  · have : b = P := by simpa using hb
    subst this
    exact ⟨_, hP⟩
  · show AftS _ _ _ _ _ (m (some (.v (.fz (intsD ns))) :: List.replicate (N.length - 1) none) [.tab P q])
    rw [e]
    intro μ' H' v ex hs r
    simp only [RepA, Rep] at r
    subst r
    exact hQ H'
theorem spLaw_len {K : PySem.W.Frag} {P : Addr} {x : Str} (vs : List V) (H : Hp) (Q : VK) (E : XK) (h : spLaw K P vs H Q E) : vs.length = [x].length := by
  obtain ⟨_, _, rfl, _⟩ := h
  rfl
theorem law_get {ok : PySem.W.Frag → Bool} {fn : List DefA} {K : PySem.W.Frag} {c P : Addr} {h : Heap} (z : SaysU ok fn K c P h) (i : Nat) {d : DefA} (hd : fn[i]? = some d) (ha : d.at_ K = He.ga K "law") (hc : d.clo = [] := by rfl) :
    ∃ oc od osl kV doc pm an ct, K.lookup (He.ga K "law") = some ⟨oc, od, .func (PySem.W.fnOf d.name d.qual (defArgs d.st) (defBody d.st) (defScope d.st) .none kV doc pm an (.ref c) ct), osl⟩ ∧ PySem.W.codeIn K (.ref c) d.qual = true := by
  obtain ⟨kp, oc, od, osl, clo, kV, doc, pm, an, cdv, ct, h1, h2, h3⟩ := d.get (z.eq i hd) (z.fok d (List.mem_of_getElem? hd))
  rw [hc] at h1
  have := map_nil' h1
  subst this
  rw [ha] at h3
  have e := z.code
  unfold lawCode at e
  rw [h3] at e
  have e' : cdv = .ref c := e
  subst e'
  exact ⟨oc, od, osl, kV, doc, pm, an, ct, h3, h2⟩
end L3

set_option Elab.async false
set_option linter.all false
set_option maxRecDepth 100000
set_option maxHeartbeats 2000000
namespace L3
open PySem PySem.Spec PyProof.Rows L2 LamX
/-! ### what was made on the way is forgotten -/
section
variable {T : Tb} {μ t : List Addr} {H : Hp} {S : Store} {ρ : Env} {σ : L2.St}
theorem StOk.cutS (k : StOk T (μ ++ t) H S) (hi : T.I μ H) : StOk T μ H (S.take μ.length) := by
  have hl : μ.length ≤ S.length := by have := k.len; rw [List.length_append] at this; omega
  refine ⟨by rw [List.length_take]; omega, (List.nodup_append.mp k.nd).1, fun i a o h1 h2 => ?_, fun a ha => k.tr a (List.mem_append_left _ ha), hi⟩
  have hi : i < μ.length := (List.getElem?_eq_some_iff.mp h1).1
  rw [List.getElem?_take_of_lt hi] at h2
  have q := k.at_ i a o (by rw [List.getElem?_append_left hi]; exact h1) h2
  cases o with
  | lst ds =>
    obtain ⟨vs, q1, q2⟩ := q
    exact ⟨vs, q1, rep_lessL q2⟩
  | dic kvs =>
    obtain ⟨vs, q1, q2⟩ := q
    exact ⟨vs, q1, rep_lessL q2⟩
  | lok kvs =>
    obtain ⟨od, vs, q1, q2⟩ := q
    exact ⟨od, vs, q1, rep_lessL q2⟩
  | x kd ks xs =>
    obtain ⟨u, ws, us, q1, q2, q3, q4⟩ := q
    exact ⟨u, ws, us, q1, q2, rep_lessL q3, rep_lessL q4⟩
  | ins c fs =>
    obtain ⟨dx, vfs, q1, q2⟩ := q
    exact ⟨dx, vfs, q1, rep_lessF q2⟩
  | tab P nm =>
    obtain ⟨ps, q0, q1, q2, q3⟩ := q
    refine ⟨ps, q0, q1, q2, fun pos cv hc => ?_⟩
    obtain ⟨c, z1, z2, z3⟩ := q3 pos cv hc
    exact ⟨c, z1, fun m => z2 (List.mem_append_left _ m), z3⟩
theorem Ext.cutE {H' : Hp} (e : Ext μ H (μ ++ t) H') : Ext μ H μ H' := ⟨⟨[], by simp⟩, e.keep, fun a ha na => absurd ha na⟩
theorem RepEr.cutR {e : Er} {c : Value} {d : Option Addr} (h : RepEr T (μ ++ t) H e c d) : RepEr T μ H e c d := by
  obtain ⟨h1, dd, vfs, h2, h3, h4, h5⟩ := h
  exact ⟨h1, dd, vfs, h2, fun m => h3 (List.mem_append_left _ m), h4, rep_lessF h5⟩
theorem nd_not {p : Addr} {n : Nat} (h : (μ ++ t).Nodup) (hp : (μ ++ t)[n]? = some p) (hn : μ.length ≤ n) : p ∉ μ := fun m => by
  rw [List.getElem?_append_right hn] at hp
  exact (List.nodup_append.mp h).2.2 p m p (List.mem_of_getElem? hp) rfl
/-- an answer, without what was made on the way; a list that was made is data from here on -/
def clR (n : Nat) : R A → R A
  | .ok (.v d) S' => .ok (.v d) (S'.take n)
  | .ok (.m j) S' => if j < n then .ok (.m j) (S'.take n) else match S'[j]? with
    | some (.lst ds) => .ok (.v (.lst ds)) (S'.take n)
    | some (.ins k fs) => .ok (.v (.obj k fs)) (S'.take n)
    | some (.dic kvs) => .ok (.v (.dic (kvs.map Prod.fst) (kvs.map Prod.snd))) (S'.take n)
    | some (.x .dn ks xs) => .ok (.v (.dnk ks xs)) (S'.take n)
    | _ => .stk
  | .err e S' => .err e (S'.take n)
  | .stk => .stk
theorem clR_aft {Q : VK} {W : XK} {c : R A} (hs : StOk T μ H S) (h : Aft T (fun μ H => RepA T μ H) μ H Q W (clR S.length c)) : Aft T (fun μ H => RepA T μ H) μ H Q W c := by
  have hl := hs.len
  cases c with
  | stk => exact h
  | err e S' =>
    intro μ' H' cls d ex hs' r
    obtain ⟨t, rfl⟩ := ex.pre
    have e1 := ex.cutE
    have k := hs'.cutS (T.mono e1 hs.inv)
    rw [hl] at k
    exact h μ H' cls d e1 k r.cutR
  | ok a S' =>
    cases a with
    | v d =>
      intro μ' H' v ex hs' r
      obtain ⟨t, rfl⟩ := ex.pre
      have e1 := ex.cutE
      have k := hs'.cutS (T.mono e1 hs.inv)
      rw [hl] at k
      exact h μ H' v e1 k (rep_lessD r)
    | m j =>
      intro μ' H' v ex hs' r
      obtain ⟨t, rfl⟩ := ex.pre
      have e1 := ex.cutE
      have k := hs'.cutS (T.mono e1 hs.inv)
      rw [hl] at k
      obtain ⟨p, hp, rfl⟩ := r
      simp only [clR] at h
      by_cases hj : j < S.length
      · rw [if_pos hj] at h
        refine h μ H' _ e1 k ⟨p, ?_, rfl⟩
        rwa [List.getElem?_append_left (by rw [hl]; exact hj)] at hp
      · rw [if_neg hj] at h
        have np := nd_not hs'.nd hp (by omega)
        cases q : S'[j]? with
        | none => simp only [q] at h; exact h.elim
        | some o =>
          simp only [q] at h
          have at1 := hs'.at_ _ _ _ hp q
          cases o with
          | lst ds =>
            obtain ⟨vs, q1, q2⟩ := at1
            refine h μ H' _ e1 k ?_
            simp only [RepA, Rep]
            exact ⟨p, vs, rfl, ⟨np, q1⟩, rep_lessL q2⟩
          | ins c fs =>
            obtain ⟨dx, vfs, q1, q2⟩ := at1
            refine h μ H' _ e1 k ?_
            simp only [RepA, Rep]
            exact ⟨p, dx, vfs, rfl, np, q1, rep_lessF q2⟩
          | tab _ _ => exact h.elim
          | dic kvs =>
            obtain ⟨vs, q1, q2⟩ := at1
            refine h μ H' _ e1 k ?_
            simp only [RepA, Rep]
            exact ⟨p, vs, rfl, ⟨np, .inl q1⟩, rep_lessL q2⟩
          | lok _ => exact h.elim
          | x kd ks xs =>
            cases kd with
            | si => exact h.elim
            | sk => exact h.elim
            | dn =>
              obtain ⟨u, ws, us, q1, q2, q3, q4⟩ := at1
              refine h μ H' _ e1 k ?_
              simp only [RepA, Rep]
              exact ⟨p, u, ws, us, rfl, ⟨np, q1, q2⟩, rep_lessL q3, rep_lessL q4⟩
/-- a def whose own lists are forgotten -/
def scF (fM : FM) : FM := fun xs S => clR S.length (fM xs S)
theorem spD_sc {fM : FM} {vs : List V} {Q : VK} {E : XK} (h : spD T (scF fM) vs H Q E) : spD T fM vs H Q E := by
  obtain ⟨μ, S, xs, r, hs, a⟩ := h
  exact ⟨μ, S, xs, r, hs, clR_aft hs a⟩
end
theorem FD.sc {P : Program} {w : World} {T : Tb} {mg : Str → Option Value} {base : Heap} {k : Nat} {f : Addr} {fd : FuncData} {ps : List Str} {fM : FM} (h : FD P w T mg base k f fd ps fM) : FD P w T mg base k f fd ps (scF fM) := FnOk.imp h fun vs H Q E => spD_sc
/-- a statement behind which its own lists are data -/
def frA (n : Nat) (S : Store) : Option A → Option A
  | some (.m j) => if j < n then some (.m j) else match S[j]? with
    | some (.lst ds) => some (.v (.lst ds))
    | some (.ins k fs) => some (.v (.obj k fs))
    | some (.dic kvs) => some (.v (.dic (kvs.map Prod.fst) (kvs.map Prod.snd)))
    | some (.x .dn ks xs) => some (.v (.dnk ks xs))
    | _ => none
  | o => o
def clS (n : Nat) : SR → SR
  | .nx ρ S' => .nx (ρ.map (frA n S')) (S'.take n)
  | .ct ρ S' => .ct (ρ.map (frA n S')) (S'.take n)
  | .bk ρ S' => .bk (ρ.map (frA n S')) (S'.take n)
  | .rt a S' => match clR n (.ok a S') with
    | .ok b S2 => .rt b S2
    | _ => .stk
  | .er e S' => .er e (S'.take n)
  | .stk => .stk
def sSc (m : SM) : SM := fun ρ S => clS S.length (m ρ S)
section
variable {T : Tb} {μ t : List Addr} {H : Hp} {S S' : Store} {ρ : Env} {σ : L2.St}
theorem RepE.cutE {n : Nat} (h : RepE T (μ ++ t) H ρ σ) (hs : StOk T (μ ++ t) H S') (hn : μ.length = n) : RepE T μ H (ρ.map (frA n S')) σ := by
  refine ⟨by rw [List.length_map]; exact h.len, fun i x e => ?_⟩
  rw [List.getElem?_map] at e
  cases q : ρ[i]? with
  | none => rw [q] at e; cases e
  | some o =>
    rw [q] at e
    cases o with
    | none => cases e
    | some y =>
      obtain ⟨v, e1, r⟩ := h.at_ i y q
      refine ⟨v, e1, ?_⟩
      cases y with
      | v d =>
        simp only [Option.map_some, frA, Option.some.injEq] at e
        subst e
        exact rep_lessD r
      | m j =>
        obtain ⟨p, hp, rfl⟩ := r
        simp only [Option.map_some, frA, Option.some.injEq] at e
        by_cases hj : j < n
        · rw [if_pos hj] at e
          cases e
          refine ⟨p, ?_, rfl⟩
          rwa [List.getElem?_append_left (by omega)] at hp
        · rw [if_neg hj] at e
          have np := nd_not hs.nd hp (by omega)
          cases q2 : S'[j]? with
          | none => simp only [q2] at e; cases e
          | some o =>
            simp only [q2] at e
            have at1 := hs.at_ _ _ _ hp q2
            cases o with
            | lst ds =>
              cases e
              obtain ⟨vs, z1, z2⟩ := at1
              simp only [RepA, Rep]
              exact ⟨p, vs, rfl, ⟨np, z1⟩, rep_lessL z2⟩
            | ins c fs =>
              cases e
              obtain ⟨dx, vfs, z1, z2⟩ := at1
              simp only [RepA, Rep]
              exact ⟨p, dx, vfs, rfl, np, z1, rep_lessF z2⟩
            | tab _ _ => cases e
            | dic kvs =>
              cases e
              obtain ⟨vs, z1, z2⟩ := at1
              simp only [RepA, Rep]
              exact ⟨p, vs, rfl, ⟨np, .inl z1⟩, rep_lessL z2⟩
            | lok _ => cases e
            | x kd ks xs =>
              cases kd with
              | si => cases e
              | sk => cases e
              | dn =>
                cases e
                obtain ⟨u, ws, us, z1, z2, z3, z4⟩ := at1
                simp only [RepA, Rep]
                exact ⟨p, u, ws, us, rfl, ⟨np, z1, z2⟩, rep_lessL z3, rep_lessL z4⟩
end
section
variable {X : Cx} {T : Tb} {W : XK} {st : Stmt} {sts : List Stmt} {m : SM}
end
end L3

set_option Elab.async false
set_option linter.all false
set_option maxRecDepth 100000
set_option maxHeartbeats 2000000
namespace L3
open PySem PySem.Spec PyProof.Rows L2 LamX
/-! ### a comprehension whose list will be changed -/
def eLcM (own : List Nat) (mi : IM) (g : Tg) (t : TM) (m : EM) : EM := fun ρ S => (mi ρ S).bind fun ds S1 => match lcL g t m (wipeE ρ own) S1.length ds (S1 ++ [.lst []]) with
  | .ok _ S2 => if S2.length = S1.length + 1 then .ok (.m S1.length) S2 else .stk
  | _ => .stk
section
variable {X : Cx} {T : Tb} {W : XK} {elt tg iter : Expr} {ifs : List Expr} {scope : Scope} {own : List (Str × Nat)} {mi : IM} {g : Tg} {t : TM} {m : EM} {pos spos py : Pos}
end
section
variable {X : Cx} {T : Tb} {W : XK} {elt tg iter : Expr} {ifs : List Expr} {scope : Scope} {own : List (Str × Nat)} {mi : IM} {g : Tg} {t : TM} {m : EM} {pos spos py : Pos}
end
def compScope : Expr → Scope
  | .ListComp _ _ s _ => s
  | _ => lamScope e0
/-- the scope of a block in a frame with the scope sc -/
def relS (scope sc : Scope) : Scope := relabel scope { scope := sc, locals := 0, globals := 0, cells := [], qual := "", func := .none, code := .none, frame := .none, builtins := 0 }
/-! ### methods of lists and texts -/
abbrev MetG := A → List A → Store → Option (A × Store)
/-- what tyV asks -/
theorem tyA_tyV {T : Tb} {μ : List Addr} {H : Hp} {S : Store} {a : A} {v : V} {ty : String} (hs : StOk T μ H S) (r : RepA T μ H a v) (e : tyA a S = some ty) (h : ty = "list" ∨ ty = "str") : tyV T.K ty v H := by
  cases a with
  | m j =>
    obtain ⟨p, hp, rfl⟩ := r
    unfold tyA at e
    simp only at e
    split at e
    · rename_i q
      cases e
      obtain ⟨vs, q1, _⟩ := hs.at_ _ _ _ hp q
      exact .inl ⟨rfl, vs, .inl (.inl q1)⟩
    · cases e
  | v d =>
    unfold tyA at e
    simp only at e
    cases d <;> simp only [tyN, Option.some.injEq, reduceCtorEq] at e <;> subst e <;> simp only [RepA, Rep] at r
    · rcases h with h | h <;> exact absurd h (by decide)
    · rcases h with h | h <;> exact absurd h (by decide)
    · rcases h with h | h <;> exact absurd h (by decide)
    · subst r; rfl
    · rcases h with h | h <;> exact absurd h (by decide)
    · obtain ⟨a, vs, rfl, h1, _⟩ := r
      exact .inl ⟨rfl, vs, h1.sq⟩
    · obtain ⟨a, vs, rfl, h1, _⟩ := r
      exact .inl ⟨rfl, vs, h1.sq⟩
def MetD (X : Cx) (T : Tb) (id : String) (g : MetG) : Prop :=
  MtR X id (fun x xs H Q => ∃ μ S a as z S', StOk T μ H S ∧ RepA T μ H a x ∧ RepAs T μ H as xs ∧ g a as S = some (z, S') ∧ ∀ μ' H' v, Ext μ H μ' H' → StOk T μ' H' S' → RepA T μ' H' z v → Q v H')
def eMet (ty : String) (g : MetG) (mo : EM) (r : AM) : EM := fun ρ S => (mo ρ S).bind fun o S1 => if tyA o S1 = some ty then (r ρ S1).bind fun xs S2 => (match g o xs S2 with
  | some (z, S3) => .ok z S3
  | none => .stk) else .stk
section
variable {X : Cx} {T : Tb} {W : XK} {o e : Expr} {es : List Expr} {mo : EM} {r : AM} {name : Str} {apos cpos : Pos} {ty id : String} {g : MetG}
theorem eMet_rd (hK : X.K = T.K) (ht : ty = "list" ∨ ty = "str") : ∀ σ H Q, rd T W (eMet ty g mo r) σ H Q →
    tBM X.K ty (fun x xs H Q => ∃ μ S a as z S', StOk T μ H S ∧ RepA T μ H a x ∧ RepAs T μ H as xs ∧ g a as S = some (z, S') ∧ ∀ μ' H' v, Ext μ H μ' H' → StOk T μ' H' S' → RepA T μ' H' z v → Q v H') (rd T W mo) (rdA T W r) σ H Q := fun σ H Q ⟨μ, ρ, S, he, hs, h⟩ => by
  refine rd_step he hs h fun v H1 μ1 S1 y ex he1 hs1 ry h1 => ?_
  split at h1
  · rename_i hty
    refine ⟨by rw [hK]; exact tyA_tyV hs1 ry hty ht, ?_⟩
    refine rdA_step he1 hs1 h1 fun vs H2 μ2 S2 xs ex2 he2 hs2 rs h2 => ?_
    cases q : g y xs S2 with
    | none => rw [q] at h2; exact h2.elim
    | some zs =>
      obtain ⟨z, S3⟩ := zs
      rw [q] at h2
      exact ⟨μ2, S2, y, xs, z, S3, hs2, ry.mono ex2, rs, q, h2⟩
  · exact h1.elim
theorem me_met (hK : X.K = T.K) (ht : ty = "list" ∨ ty = "str") (pa : PlainAttrs ty) (slot : Slot ty name id) (hty : typeOf (.builtin id) = pure (.type "method_descriptor")) (hm : MetD X T id g) (ho : ME X T W o mo) (ha : MA X T W (e :: es) r)
    (hbase : attributeBase o name X.env (eval o X.env) = eval o X.env := by rfl)
    (hfew : ((backTo cpos (starEach (e :: es) X.env)).all (fun x => !x.1) && (backToKw cpos (keywordEach [] X.env)).all (fun x => x.1.isSome)
      && decide ((e :: es).length + ([] : List Keyword).length + (if ([] : List Keyword).isEmpty then 0 else 1) < 30)) = true := by rfl)
    (hline : (apos.endLine == cpos.line) = true := by rfl) (hs : starEach (e :: es) X.env = (false, eval e X.env) :: starEach es X.env := by rfl) (hplain : (backTo cpos (starEach es X.env)).any (·.1) = false := by rfl) :
    ME X T W (.Call (.Attribute o name apos) (e :: es) [] cpos) (eMet ty g mo r) := pe_imp (pe_bm pa slot hty hm ho ha hbase hfew hline hs hplain) (eMet_rd hK ht)
end
section
variable {X : Cx} {T : Tb}
def gAppend : MetG
  | .m n, [.v d], S => match S[n]? with
    | some (.lst ds) => if ds.length < strMax then some (.v .non, S.set n (.lst (ds ++ [d]))) else none
    | _ => none
  | _, _, _ => none
theorem RepL.dropLast {μ : List Addr} {H : Hp} : ∀ {ds : List D} {vs : List V}, RepL T μ H ds vs → RepL T μ H ds.dropLast vs.dropLast
  | [], vs, h => by
    simp only [RepL] at h
    subst h
    simp [RepL]
  | [d], vs, h => by
    simp only [RepL] at h
    obtain ⟨v, ws, rfl, _, rfl⟩ := h
    simp [RepL]
  | d :: e :: r, vs, h => by
    simp only [RepL] at h
    obtain ⟨v, ws, rfl, h1, w, us, rfl, h2, h3⟩ := h
    have ih := RepL.dropLast (ds := e :: r) (vs := w :: us) (by simp only [RepL]; exact ⟨w, us, rfl, h2, h3⟩)
    simp only [List.dropLast_cons_cons]
    simp only [RepL]
    exact ⟨v, _, rfl, h1, ih⟩
def gPop : MetG
  | .m n, [], S => match S[n]? with
    | some (.lst ds) => match ds.getLast? with
      | some d => some (.v d, S.set n (.lst ds.dropLast))
      | none => none
    | _ => none
  | _, _, _ => none
def gExtend : MetG
  | .m n, [.v (.lst es)], S => match S[n]? with
    | some (.lst ds) => if ds.length + es.length ≤ strMax then some (.v .non, S.set n (.lst (ds ++ es))) else none
    | _ => none
  | _, _, _ => none
/-- text.index(sign) -/
def gSIndex : MetG
  | .v (.str a), [.v (.str b)], S => match Builtin.Str.occurrences a b 0 a.length 1 with
    | i :: _ => some (.v (.int (i : Nat)), S)
    | [] => none
  | _, _, _ => none
theorem met_sindex : MetD X T "str.index" gSIndex := by
  rintro pins s σ H x xs v us Q I rx rxs ⟨μ, S, a, as, z, S', hs, ra, ras, hg, k⟩
  unfold gSIndex at hg
  split at hg
  · split at hg
    · rename_i i rest hi
      cases hg
      obtain ⟨y, rfl, ry⟩ := reps1 ras
      exact mt_sindex pins s σ H _ _ v us Q I rx rxs ⟨_, _, i, rest, of_str ra, by rw [of_str ry], hi, k μ H _ Ext.refl hs ra_int⟩
    · cases hg
  · cases hg
/-- tuple(list), tuple(tuple) -/
def gTupF : CallG
  | [.v (.tup ds)], _ => some (.v (.tup ds))
  | [.v (.lst ds)], _ => some (.v (.tup ds))
  | [.v (.fz ds)], _ => some (.v (.tup ds))
  | [.m n], S => match S[n]? with
    | some (.lst ds) => some (.v (.tup ds))
    | _ => none
  | _, _ => none
end
/-! ### methods by keywords -/
def eMethK (k : Nat) (m : Str) (n mk : Nat) (ix : List Nat) (fM : FM) (mo : EM) (r rk : AM) : EM := fun ρ S => (mo ρ S).bind fun o S1 => match insOf o S1 with
  | some (k', fs) => if k' = k ∧ (fs.lookup m).isNone = true then (r ρ S1).bind fun xs S2 => (rk ρ S2).bind fun zs S3 => if xs.length = n ∧ zs.length = mk then fM (perm ix (o :: xs ++ zs)) S3 else .stk else .stk
  | none => .stk
section
variable {X : Cx} {T : Tb} {W : XK} {o : Expr} {es : List Expr} {kws : List Keyword} {mo : EM} {r rk : AM} {m : Str} {apos pos : Pos} {k j n : Nat} {f : Addr} {fd : FuncData} {ps ks : List Str} {fM : FM} {ix : List Nat}
end
/-! ### list(text) -/
section
variable {X : Cx} {T : Tb}
theorem strs_are {x : Str} {acc : Array Value} (h : ItemsOf (SignAt x) acc x.cps.size) : StrsAre acc.toList (x.cps.toList.map chr1) := strs_items h
theorem call_orD {f : Value} {g h k : CallG} (hg : CallD X T f g) (hh : CallD X T f h) (e : ∀ xs S, k xs S = g xs S ∨ k xs S = h xs S) : CallD X T f k := by
  rintro pins s σ H vs us Q I rr ⟨μ, S, xs, z, hs, rs, hk, q⟩
  rcases e xs S with e | e
  · rw [e] at hk
    exact hg pins s σ H vs us Q I rr ⟨μ, S, xs, z, hs, rs, hk, q⟩
  · rw [e] at hk
    exact hh pins s σ H vs us Q I rr ⟨μ, S, xs, z, hs, rs, hk, q⟩
def gListS : CallG
  | [.v (.str y)], _ => if y.cps.size ≤ strMax then some (.v (.lst (signsD y))) else none
  | _, _ => none
theorem call_gListS (hc : X.calm = true) : CallD X T (.type "list") gListS := by
  rintro pins s σ H vs us Q I rr ⟨μ, S, xs, z, hs, rs, hg, k⟩
  unfold gListS at hg
  split at hg
  · rename_i y
    split at hg
    · rename_i hy
      cases hg
      obtain ⟨v, rfl, r1⟩ := reps1 rs
      have ev := of_str r1
      subst ev
      cases rr with
      | cons r2 r3 =>
        cases r3
        obtain ⟨t, rfl⟩ := r2
        refine PySem.call_list_str (I.ok.hd hc) y t (fun h' tk acc c' k1 k2 hi => ?_) (strMax_line hy)
        have hS := strs_are hi
        have hlen : (y.cps.toList.map chr1).length ≤ sizeLine := by rw [List.length_map]; exact strMax_line (by simpa using hy)
        have nH : H s.heap.objs.size = none := I.hok.fresh (Nat.le_refl _)
        have I2 : Inv X pins σ (upd H s.heap.objs.size (.lst ((y.cps.toList.map chr1).map V.str))) { s with heap := h', toks := tk } :=
          I.laid (t' := tk) k1 (Nat.le_refl _) ⟨by rw [List.length_map]; exact hlen, acc.toList, c', vals_of_strs hS, k2⟩
        have sm : Same H (upd H s.heap.objs.size (.lst ((y.cps.toList.map chr1).map V.str))) := same_upd nH
        refine ⟨.ref s.heap.objs.size, _, I2, rfl, k μ _ _ (Ext.grow sm) (hs.grow sm) ?_⟩
        simp only [RepA, Rep]
        refine ⟨_, _, rfl, ⟨hs.free nH, upd_same⟩, ?_⟩
        show RepL T μ _ (signsD y) _
        have e : signsD y = (y.cps.toList.map chr1).map D.str := by unfold signsD; rw [List.map_map]; rfl
        rw [e]
        exact repL_strs
    · cases hg
  · cases hg
def gListA : CallG := fun xs S => match gListS xs S with
  | some z => some z
  | none => gListF xs S
theorem call_gListA (hK : X.K = T.K) (hc : X.calm = true) : CallD X T (.type "list") gListA := call_orD (call_gListS hc) (call_gListF hK) fun xs S => by
  unfold gListA
  cases q : gListS xs S with
  | none => exact .inr rfl
  | some z => exact .inl rfl
end
end L3

set_option Elab.async false
set_option linter.all false
set_option maxRecDepth 100000
set_option maxHeartbeats 2000000
namespace L3
open PySem PySem.Spec PyProof.Rows L2 LamX
section
variable {X : Cx} {T : Tb} {W : XK} {a b : Expr} {ma mb : EM} {pos : Pos} {n : Nat} {kvs : List (Str × CV)}
/-- text in D, D a constant dict of the number n -/
def gDkIn (neg : Bool) (n : Nat) (kvs : List (Str × CV)) : OpG
  | .v (.str s), .v (.cls k), _ => if k = n then some (blA (if neg then !(kvs.lookup s).isSome else (kvs.lookup s).isSome)) else none
  | _, _, _ => none
/-- D[text] -/
def dkGetR (n : Nat) (kvs : List (Str × CV)) : A → A → Store → R A
  | .v (.cls k), .v (.str s), S2 => if k = n then (match kvs.lookup s with
      | some c => .ok (.v c.d) S2
      | none => .stk) else .stk
  | _, _, _ => .stk
def eDkGet (n : Nat) (kvs : List (Str × CV)) (ma mb : EM) : EM := fun ρ S => (ma ρ S).bind fun x S1 => (mb ρ S1).bind fun y S2 => dkGetR n kvs x y S2
end
end L3

set_option Elab.async false
set_option linter.all false
set_option maxRecDepth 100000
set_option maxHeartbeats 2000000
namespace L3
open PySem PySem.Spec PyProof.Rows L2 LamX
/-! ### lists: compared with the empty one, turned about -/
section
variable {T : Tb} {μ : List Addr} {H : Hp} {S : Store}
def lstOf : A → Store → Option (List D)
  | .v (.lst ds), _ => some ds
  | .v (.fz ds), _ => some ds
  | .m n, S => match S[n]? with
    | some (.lst ds) => some ds
    | _ => none
  | _, _ => none
end
section
variable {X : Cx} {T : Tb} {W : XK} {a b c e : Expr} {es : List Expr} {ma mb mc : EM} {r : AM} {pos p : Pos}
/-- x == [], x != [] -/
def gEmp (neg : Bool) : OpG := fun x y S => match lstOf x S, y with
  | some ds, .v (.lst []) => some (blA (if neg then !ds.isEmpty else ds.isEmpty))
  | _, _ => none
/-- x[::-1] -/
def eRev (ma : EM) : EM := fun ρ S => (ma ρ S).bind fun x S1 => match lstOf x S1 with
  | some ds => .ok (.v (.lst ds.reverse)) S1
  | none => .stk
/-! ### stars in displays -/
def aStar (m : EM) (r : AM) : AM := fun ρ S => (m ρ S).bind fun x S1 => match seqOf x S1 with
  | some ds => (r ρ S1).bind fun xs S2 => .ok (ds.map A.v ++ xs) S2
  | none => .stk
def gAddT : OpG
  | .v (.tup xs), .v (.tup ys), _ => if xs.length + ys.length ≤ strMax then some (.v (.tup (xs ++ ys))) else none
  | _, _, _ => none
def gMulT : OpG
  | .v (.tup (d :: xs)), .v (.int n), _ => if 2 ≤ n ∧ n ≤ 1000 ∧ (d :: xs).length ≤ 1000 then some (.v (.tup (List.replicate n.toNat (d :: xs)).flatten)) else if n = 1 then some (.v (.tup (d :: xs))) else none
  | _, _, _ => none
def gAddA : OpG := fun a b S => match gAddT a b S with
  | some z => some z
  | none => gAdd a b S
def gMulA : OpG := fun a b S => match gMulT a b S with
  | some z => some z
  | none => gMul a b S
/-- min(i, j) -/
def gMin2 : CallG
  | [.v (.int i), .v (.int j)], _ => some (.v (.int (if j < i then j else i)))
  | _, _ => none
end
/-! ### {k: v, ..}.get(x, y) -/
inductive KCs (X : Cx) : List (Option Expr) → List Expr → List (Str × CV) → Prop where
  | nil : KCs X [] [] []
  | cons {ke ve : Expr} {ks : List (Option Expr)} {vs : List Expr} {k : Str} {c : CV} {kvs : List (Str × CV)} (hk : PE X ke (tC (.str k))) (hv : PE X ve (tC c.v)) (r : KCs X ks vs kvs) : KCs X (some ke :: ks) (ve :: vs) ((k, c) :: kvs)
section
variable {X : Cx} {T : Tb} {W : XK} {b c : Expr} {mb mc : EM} {pos apos cpos : Pos} {ks : List (Option Expr)} {vs : List Expr} {kvs : List (Str × CV)}
abbrev kcT (kvs : List (Str × CV)) : List (TE × TE) := kvs.map fun p => (tC (.str p.1), tC p.2.v)
abbrev kcK (kvs : List (Str × CV)) : List (Key × V) := kvs.map fun p => ((.inr p.1 : Key), p.2.v)
def dg2R (kvs : List (Str × CV)) : A → A → Store → R A
  | .v (.str s), z, S => .ok (match kvs.lookup s with
      | some c => .v c.d
      | none => z) S
  | _, _, _ => .stk
def eDGet2 (kvs : List (Str × CV)) (mb mc : EM) : EM := fun ρ S => (mb ρ S).bind fun y S1 => (mc ρ S1).bind fun z S2 => dg2R kvs y z S2
end
end L3

set_option Elab.async false
set_option linter.all false
set_option maxRecDepth 100000
set_option maxHeartbeats 2000000
namespace L3
open PySem PySem.Spec PyProof.Rows L2 NdefX LamX
abbrev AlW : Type := AlU × List (Option (List (Option (Int × Str × CV))))
def obsW (ok : PySem.W.Frag → Bool) (fn : List DefA) (dc : List DkN) (K0 : PySem.W.Frag) : AlW := (obsU ok fn K0, match PySem.W.tabIn K0 "law" with
  | some (_, P) => dc.map fun d => dkO (cut K0 P) (He.ga (cut K0 P) d.1)
  | none => [])
def valW (fn : List DefA) (dc : List DkN) (w : World) : AlW := (valU fn, dc.map fun d => dkV w d.2)
def obsWG (n : Nat) (roots : List Addr) (ok : PySem.W.Frag → Bool) (fn : List DefA) (dc : List DkN) (g : Addr → Option Obj) : AlW := obsW ok fn dc (He.frG g (asU g roots n))
theorem saysU_of {ok : PySem.W.Frag → Bool} {fn : List DefA} {K0 : PySem.W.Frag} {h : Heap} (e' : obsU ok fn K0 = valU fn) (kin : K0.In h) : ∃ c P, PySem.W.tabIn K0 "law" = some (c, P) ∧ SaysU ok fn (cut K0 P) c P h := by
  unfold obsU at e'
  split at e'
  · rename_i c P ht
    have e1 : _ = true := congrArg Prod.fst e'
    have e2 := congrArg Prod.snd e'
    obtain ⟨a1, e1⟩ := and2 e1
    obtain ⟨a2, e1⟩ := and2 e1
    obtain ⟨a3, e1⟩ := and2 e1
    obtain ⟨a4, a5⟩ := and2 e1
    have kc : (cut K0 P).In h := fun a o z => kin a o (cut_sub K0 z)
    exact ⟨c, P, ht, kc, cut_none K0, kin _ _ (tabB_ok a1), PySem.W.codeHd_of_K kc a2, of_decide_eq_true a3, a4, fun d hd => List.all_eq_true.mp a5 d hd, e2⟩
  · cases congrArg Prod.fst e'
def hookW (n : Nat) (roots : List Addr) (ok : PySem.W.Frag → Bool) (fn : List DefA) (dc : List DkN) : PySem.W.Hook where
  α := AlW
  obs := fun s => obsWG n roots ok fn dc s.heap.get?
  val := valW fn dc
  says := fun w h => ∃ K c P, SaysW ok fn dc w K c P h
  of := fun w s e => by
    have e' : obsW ok fn dc (He.frG s.heap.get? (asU s.heap.get? roots n)) = valW fn dc w := e
    have kin : (He.frG s.heap.get? (asU s.heap.get? roots n)).In s.heap := He.frG_in
    generalize He.frG s.heap.get? (asU s.heap.get? roots n) = K0 at e' kin
    obtain ⟨c, P, ht, z⟩ := saysU_of (congrArg Prod.fst e') kin
    have e2 := congrArg Prod.snd e'
    unfold obsW at e2
    simp only [ht] at e2
    exact ⟨cut K0 P, c, P, z, e2⟩
  keeps := fun _ _ _ ⟨K, c, P, z⟩ k => ⟨K, c, P, ⟨PySem.W.Frag.In.keeps z.u.kin k, z.u.no, k _ _ z.u.tab, z.u.hd.keeps k, z.u.code, z.u.ok, z.u.fok, z.u.fn⟩, z.dk⟩
theorem obsWG_eq {n : Nat} {roots : List Addr} {ok : PySem.W.Frag → Bool} {fn : List DefA} {dc : List DkN} {g : Addr → Option Obj} {s : Shared} (h : ∀ a, g a = s.heap.get? a) : obsWG n roots ok fn dc g = (hookW n roots ok fn dc).obs s := by
  have e : g = s.heap.get? := funext h
  rw [e]
  rfl
end L3

set_option Elab.async false
set_option linter.all false
set_option maxRecDepth 100000
set_option maxHeartbeats 2000000
namespace L3
open PySem PySem.Spec PyProof.Rows L2 LamX
theorem fx_hit {t : TM} {x r : SM} {ρ : Env} {S : Store} {v : A} (h : t ρ S = .ok true S) (hx : x ρ S = .rt v S) : sSeq (sIf t x sNil) r ρ S = .rt v S := by
  unfold sSeq sIf sNil
  rw [h]
  simp only [SR.ofT_ok, if_true, hx]
/-! ### slices, also of whole tuples -/
section
variable {X : Cx} {T : Tb} {W : XK} {a : Expr} {ma : EM} {pos : Pos}
def gSlA (x : A) (lo hi : Option Int) (S : Store) : Option A := match x with
  | .v (.tup ds) => some (.v (.tup (cutD ds lo hi)))
  | _ => gSl x lo hi S
def eSlA (ma : EM) (lo hi : OM) : EM := fun ρ S => (ma ρ S).bind fun x S1 => (lo ρ S1).bind fun l S2 => (hi ρ S2).bind fun h S3 => .ofO (gSlA x l h S3) S3
end
end L3

set_option Elab.async false
set_option linter.all false
set_option maxRecDepth 100000
set_option maxHeartbeats 2000000
namespace L3
open PySem PySem.Spec PyProof.Rows L2 LamX
/-! ### objects that go on changing -/
section
variable {X : Cx} {T : Tb} {W : XK} {a b : Expr} {mo mv : EM} {pos tpos : Pos} {f : Str}
/-- o.f += v, of whole numbers -/
def addR (ks : List Nat) (f : Str) (n : Nat) (i : Int) (ρ : Env) (y : A) (S : Store) : SR := match y with
  | .v (.int j) => match S[n]? with
    | some (.ins k fs) => if k ∈ ks ∧ fs.length < 100 then .nx ρ (S.set n (.ins k (putD f (.int (i + j)) fs))) else .stk
    | _ => .stk
  | _ => .stk
def addL (ks : List Nat) (f : Str) (mv : EM) (ρ : Env) (o : A) (S : Store) : SR := match o with
  | .m n => match S[n]? with
    | some (.ins k fs) => match fs.lookup f with
      | some (.int i) => if k ∈ ks then SR.of (mv ρ S) fun y S2 => addR [k] f n i ρ y S2 else .stk
      | _ => .stk
    | _ => .stk
  | _ => .stk
def sFldAdd (ks : List Nat) (f : Str) (mo mv : EM) : SM := fun ρ S => SR.of (mo ρ S) fun o S1 => addL ks f mv ρ o S1
/-- text.startswith(text, i) -/
def gStarts : MetG
  | .v (.str a), [.v (.str b), .v (.int i)], S => some (.v (.bl (Txt.startswith3 a b i)), S)
  | _, _, _ => none
end
/-! a class's object, as it is made -/
def mkRM (k n : Nat) : R A → R A
  | .ok (.v .non) S => match S[n]? with
    | some (.ins j _) => if j = k then .ok (.m n) S else .stk
    | _ => .stk
  | .err e S => .err e S
  | _ => .stk
def eMakeM (k : Nat) (fM : FM) (r : AM) : EM := fun ρ S => (r ρ S).bind fun xs S1 => mkRM k S1.length (fM (.m S1.length :: xs) (S1 ++ [.ins k []]))
section
variable {X : Cx} {T : Tb} {W : XK} {r : AM} {fM : FM} {x : Str} {e : Expr} {es : List Expr} {p pos : Pos} {k j : Nat} {fd : FuncData} {ps : List Str}
end
end L3

set_option Elab.async false
set_option linter.all false
set_option maxRecDepth 100000
set_option maxHeartbeats 2000000
namespace L3
open PySem PySem.Spec PyProof.Rows L2 LamX
/-- the key that a value is -/
def keyD : D → Option L2.Key
  | .int i => some (.inl i)
  | .str x => some (.inr x)
  | _ => none
def lookK (kvs : List (L2.Key × D)) (k : L2.Key) : Option D := (kvs.find? fun kv => decide (kv.1 = k)).map (·.2)
def setK (kvs : List (L2.Key × D)) (k : L2.Key) (d : D) : List (L2.Key × D) :=
  if (kvs.any fun kv => decide (kv.1 = k)) = true then kvs.map (fun kv => if kv.1 = k then (kv.1, d) else kv) else kvs ++ [(k, d)]
section
variable {T : Tb} {μ : List Addr} {H : Hp}
end
section
variable {X : Cx} {T : Tb} {W : XK} {a b c : Expr} {ma mb mc : EM} {pos pos' apos : Pos}
/-- {} -/
def eDic0 : EM := fun _ S => .ok (.m S.length) (S ++ [.dic []])
/-- {x: v} of a name and a number, as data -/
def eDic1 (i : Nat) (j : Int) : EM := fun ρ S => match ρ[i]? with
  | some (some (.v d)) => match keyD d with
    | some k => .ok (.v (.dic [k] [.int j])) S
    | none => .stk
  | _ => .stk
/-- d[k] = v -/
def dputR (n : Nat) (k : L2.Key) (d : D) (ρ : Env) (S : Store) : SR := match S[n]? with
  | some (.dic kvs) => if kvs.length < strMax then .nx ρ (S.set n (.dic (setK kvs k d))) else .stk
  | _ => .stk
def dputA (ρ : Env) (x o y : A) (S : Store) : SR := match x, o, y with
  | .v d, .m n, .v e => match keyD e with
    | some k => dputR n k d ρ S
    | none => .stk
  | _, _, _ => .stk
def sKput (md mk mv : EM) : SM := fun ρ S => SR.of (mv ρ S) fun x S1 => SR.of (md ρ S1) fun o S2 => SR.of (mk ρ S2) fun y S3 => dputA ρ x o y S3
/-- what may be read as a dict -/
def dicOf : A → Store → Option (List (L2.Key × D))
  | .m n, S => match S[n]? with
    | some (.dic kvs) => some kvs
    | _ => none
  | .v (.dic ks ds), _ => if ks.length = ds.length then some (ks.zip ds) else none
  | _, _ => none
def kgetR (z y : A) (o : Option (List (L2.Key × D))) (S : Store) : R A := match z, y, o with
  | .v d, .v e, some kvs => match keyD e with
    | some k => .ok (.v ((lookK kvs k).getD d)) S
    | none => .stk
  | _, _, _ => .stk
/-- d.get(k, x) -/
def eKget (md mk mx : EM) : EM := fun ρ S => (md ρ S).bind fun o S1 => if (dicOf o S1).isSome = true then (mk ρ S1).bind fun y S2 => (mx ρ S2).bind fun z S3 => kgetR z y (dicOf o S3) S3 else .stk
end
end L3

set_option Elab.async false
set_option linter.all false
set_option maxRecDepth 100000
set_option maxHeartbeats 2000000
namespace L3
open PySem PySem.Spec PyProof.Rows L2 LamX
/-! ### for k, v in d.items() -/
def itemsK (ks : List L2.Key) (ds : List D) : List D := (ks.zip ds).map fun p => .tup [match p.1 with | .inl i => .int i | .inr x => .str x, p.2]
def noEr : SR → SR
  | .er _ _ => .stk
  | r => r
section
variable {X : Cx} {T : Tb} {W : XK} {body : List Stmt} {m : SM} {g : Tg} {tg iter : Expr} {pos : Pos}
/-- for k, v in d.items(), d a name -/
def sForK (i : Nat) (g : Tg) (m : SM) : SM := fun ρ S => match ρ[i]? with
  | some (some (.v (.dic ks ds))) => if ks.length = ds.length then noEr (forL g m (itemsK ks ds) ρ S) else .stk
  | _ => .stk
end
end L3

set_option Elab.async false
set_option linter.all false
set_option maxRecDepth 100000
set_option maxHeartbeats 2000000
namespace L3
open PySem PySem.Spec PyProof.Rows L2 LamX
/-! ### sum of a list of whole numbers -/
def asInts : List D → Option (List Int)
  | [] => some []
  | .int i :: r => (asInts r).map (i :: ·)
  | _ :: _ => none
def gSum : CallG
  | [.v (.lst ds)], _ => (asInts ds).map fun ns => .v (.int ns.sum)
  | _, _ => none
section
variable {X : Cx} {T : Tb}
end
section
variable {X : Cx} {T : Tb} {W : XK} {elt : Expr} {ifs : List Expr} {scope : Scope} {own : List (Str × Nat)} {g : Tg} {t : TM} {m : EM} {pos : Pos}
/-- [.. for k, v in d.items() if ..], d a name -/
def eLcK (own : List Nat) (i : Nat) (g : Tg) (t : TM) (m : EM) : EM := fun ρ S => match ρ[i]? with
  | some (some (.v (.dic ks ds))) => if ks.length = ds.length then eLc own (fun _ S => .ok (itemsK ks ds) S) g t m ρ S else .stk
  | _ => .stk
end
end L3

set_option Elab.async false
set_option linter.all false
set_option maxRecDepth 100000
set_option maxHeartbeats 2000000
namespace L3
open PySem PySem.Spec PyProof.Rows L2 NdefX LamX
/-! ### the head with the code tables of several defs -/
def cutsN : List Str → PySem.W.Frag → Option (PySem.W.Frag × List (Addr × Addr))
  | [], K => some (K, [])
  | nm :: r, K => match PySem.W.tabIn K nm with
    | some (c, P) => if tabB (K.lookup P) = true then (cutsN r (cut K P)).map fun z => (z.1, (c, P) :: z.2) else none
    | none => none
theorem cutsN_ok {h : Heap} : ∀ {nms : List Str} {K0 K : PySem.W.Frag} {l : List (Addr × Addr)}, cutsN nms K0 = some (K, l) → K0.In h →
    K.In h ∧ (∀ a o, K.lookup a = some o → K0.lookup a = some o) ∧ l.length = nms.length ∧ (∀ p ∈ l, K.lookup p.2 = none ∧ h.get? p.2 = some { cls := .none, data := .fields #[] } ∧ ∃ o, K0.lookup p.2 = some o) ∧ (l.map Prod.snd).Nodup
  | [], K0, K, l, e, kin => by
    unfold cutsN at e
    cases e
    exact ⟨kin, fun _ _ z => z, rfl, (fun p hp => by cases hp), by simp⟩
  | nm :: r, K0, K, l, e, kin => by
    unfold cutsN at e
    split at e
    · rename_i c P ht
      split at e
      · rename_i hb
        cases q : cutsN r (cut K0 P) with
        | none => rw [q] at e; cases e
        | some z =>
          obtain ⟨K1, l1⟩ := z
          rw [q] at e
          cases e
          have kc : (cut K0 P).In h := fun a o z => kin a o (cut_sub K0 z)
          obtain ⟨i1, i2, i3, i4, i5⟩ := cutsN_ok q kc
          have eP := tabB_ok hb
          have nP : K1.lookup P = none := by
            cases q2 : K1.lookup P with
            | none => rfl
            | some o =>
              have := i2 _ _ q2
              rw [cut_none] at this
              cases this
          refine ⟨i1, fun a o z => cut_sub K0 (i2 a o z), by simp [i3], fun p hp => ?_, ?_⟩
          · rcases List.mem_cons.mp hp with rfl | hp
            · exact ⟨nP, kin _ _ eP, _, eP⟩
            · obtain ⟨j1, j2, o, j3⟩ := i4 p hp
              exact ⟨j1, j2, o, cut_sub K0 j3⟩
          · rw [List.map_cons, List.nodup_cons]
            refine ⟨fun hm => ?_, i5⟩
            obtain ⟨p, hp, e2⟩ := List.mem_map.mp hm
            obtain ⟨_, _, o, j3⟩ := i4 p hp
            rw [e2, cut_none] at j3
            cases j3
      · cases e
    · cases e
abbrev AlT : Type := Bool × List FnO × List (Option (List (Option (Int × Str × CV))))
def obsT (nms : List Str) (ok : PySem.W.Frag → Bool) (fn : List DefA) (dc : List DkN) (K0 : PySem.W.Frag) : AlT := match cutsN nms K0 with
  | some (K, l) => ((nms.zip l).all (fun p => PySem.W.codeHdIn K p.2.1 p.2.2 && decide (fnCode K p.1 = .ref p.2.1)) && (ok K && fn.all fun d => d.ok K), fn.map fun d => fnO K (d.at_ K), dc.map fun d => dkO K (He.ga K d.1))
  | none => (false, [], [])
def valT (fn : List DefA) (dc : List DkN) (w : World) : AlT := (true, fn.map DefA.val, dc.map fun d => dkV w d.2)
def obsTG (n : Nat) (roots : List Addr) (nms : List Str) (ok : PySem.W.Frag → Bool) (fn : List DefA) (dc : List DkN) (g : Addr → Option Obj) : AlT := obsT nms ok fn dc (He.frG g (asU g roots n))
theorem mem_zip_right {α β : Type} : ∀ {xs : List α} {ys : List β} {y : β}, ys.length = xs.length → y ∈ ys → ∃ x, (x, y) ∈ xs.zip ys
  | [], y :: ys, _, h, _ => by simp at h
  | x :: xs, y :: ys, z, h, hm => by
    rcases List.mem_cons.mp hm with rfl | hm
    · exact ⟨x, by simp⟩
    · obtain ⟨u, hu⟩ := mem_zip_right (xs := xs) (ys := ys) (by simpa using h) hm
      exact ⟨u, by rw [List.zip_cons_cons]; exact List.mem_cons_of_mem _ hu⟩
def hookT (n : Nat) (roots : List Addr) (nms : List Str) (ok : PySem.W.Frag → Bool) (fn : List DefA) (dc : List DkN) : PySem.W.Hook where
  α := AlT
  obs := fun s => obsTG n roots nms ok fn dc s.heap.get?
  val := valT fn dc
  says := fun w h => ∃ K l, SaysT nms ok fn dc w K l h
  of := fun w s e => by
    have e' : obsT nms ok fn dc (He.frG s.heap.get? (asU s.heap.get? roots n)) = valT fn dc w := e
    have kin : (He.frG s.heap.get? (asU s.heap.get? roots n)).In s.heap := He.frG_in
    generalize He.frG s.heap.get? (asU s.heap.get? roots n) = K0 at e' kin
    unfold obsT at e'
    split at e'
    · rename_i K l q
      obtain ⟨i1, i2, i3, i4, i5⟩ := cutsN_ok q kin
      have e1 : _ = true := congrArg Prod.fst e'
      have e2 := congrArg (fun z => z.2.1) e'
      have e3 := congrArg (fun z => z.2.2) e'
      obtain ⟨a1, a2⟩ := and2 e1
      obtain ⟨a2, a3⟩ := and2 a2
      refine ⟨K, l, i1, i3, fun p hp => (i4 p hp).1, fun p hp => (i4 p hp).2.1, fun p hp => ?_, fun p hp => ?_, i5, a2, fun d hd => List.all_eq_true.mp a3 d hd, e2, e3⟩
      · obtain ⟨nm, hn⟩ := mem_zip_right i3 hp
        exact PySem.W.codeHd_of_K i1 (and2 (List.all_eq_true.mp a1 _ hn)).1
      · exact of_decide_eq_true (and2 (List.all_eq_true.mp a1 _ hp)).2
    · cases congrArg Prod.fst e'
  keeps := fun _ _ _ ⟨K, l, z⟩ k => ⟨K, l, ⟨PySem.W.Frag.In.keeps z.kin k, z.len, z.no, fun p hp => k _ _ (z.tab p hp), fun p hp => (z.hd p hp).keeps k, z.code, z.nd, z.ok, z.fok, z.fn, z.dk⟩⟩
section
variable {nms : List Str} {ok : PySem.W.Frag → Bool} {fn : List DefA} {dc : List DkN} {w : World} {K : PySem.W.Frag} {l : List (Addr × Addr)} {h : Heap} {Pr : Program}
theorem SaysT.eq (z : SaysT nms ok fn dc w K l h) (i : Nat) {d : DefA} (hd : fn[i]? = some d) : fnO K (d.at_ K) = d.val := by
  have e2 : (fn.map fun d => fnO K (d.at_ K))[i]? = (fn.map DefA.val)[i]? := by rw [z.fn]
  rw [List.getElem?_map, List.getElem?_map, hd] at e2
  exact Option.some.inj e2
theorem SaysT.def_ (z : SaysT nms ok fn dc w K l h) (i : Nat) {d : DefA} (hd : fn[i]? = some d := by rfl) (hc : d.clo = [] := by rfl) : ∃ fd, Fun K d.name d.qual d.st (d.at_ K) fd ∧ PySem.W.keepIn K (.ref (d.at_ K)) = true :=
  d.fun_ (z.eq i hd) (z.fok d (List.mem_of_getElem? hd)) hc
/-- the code of the i-th def, its table -/
def ctOf (l : List (Addr × Addr)) (i : Nat) : Addr := (l.getD i (0, 0)).1
def ptOf (l : List (Addr × Addr)) (i : Nat) : Addr := (l.getD i (0, 0)).2
end
/-! ### the law with several tables -/
def spLawT (K : PySem.W.Frag) (Ps : List Addr) : Sp := fun vs H Q _ => ∃ (a : Addr) (ns : List Int), vs = [.ref a] ∧ ns.length ≤ 63 ∧ (∀ z ∈ ns, Builtin.Int.intBits z ≤ 1048576) ∧ SqL K H a (ns.map V.int) ∧ Ps.Nodup ∧ (∀ P ∈ Ps, K.lookup P = none ∧ H P = some (.tbl #[])) ∧ ∀ H', Q (.bl true) H'
/-- the plain law: run from the law's first state it says True -/
def PlainT (l : Nat) (m : SM) (ts : List (Addr × Str)) : Prop := ∀ ns : List Int, ns.length ≤ 63 → (∀ z ∈ ns, Builtin.Int.intBits z ≤ 1048576) → ∃ S', m (some (.v (.fz (intsD ns))) :: List.replicate (l - 1) none) (ts.map fun p => .tab p.1 p.2) = .rt (.v (.bl true)) S'
end L3

set_option Elab.async false
set_option linter.all false
set_option maxRecDepth 100000
set_option maxHeartbeats 2000000
namespace L3
open PySem PySem.Spec PyProof.Rows L2 NdefX LamX ClX
/-! ### constants of a class -/
def conB (K : PySem.W.Frag) (C : Addr) (f : Str) (i : Int) : Bool := match PySem.W.findIn K (.ref C) f with
  | some (some (.int j t)) => decide (j = i) && (oB (PySem.W.specialIn K (.int j t) "__get__") (some none) && !PySem.W.copiedNames.contains f)
  | _ => false
def ConI (K : PySem.W.Frag) (C : Addr) (f : Str) (i : Int) : Prop := ∃ u, Con K C f (.int i) u
def cvalB (K : PySem.W.Frag) (C : Addr) (f : Str) (i : Int) : Bool := PySem.W.readsIn K C (.type "type") && (oB (PySem.W.specialIn K (.ref C) "__getattribute__") (some (some (.builtin "type.__getattribute__"))) && (match PySem.W.findCls K (.ref C) (.type "type") f with
  | some (.val (.int j _)) => decide (j = i)
  | _ => false))
def CValI (K : PySem.W.Frag) (C : Addr) (f : Str) (i : Int) : Prop := ∃ mc u, CRead K C mc ∧ CVal K C mc f (.int i) u
section
variable {X : Cx} {T : Tb} {W : XK} {a : Expr} {ma : EM} {pos p : Pos} {x : Str}
/-- o.f, f a constant of o's class -/
def eCon (k : Nat) (f : Str) (i : Int) (mo : EM) : EM := fun ρ S => (mo ρ S).bind fun o S1 => match insOf o S1 with
  | some (k', fs) => if k' = k ∧ fs.lookup f = none then .ok (.v (.int i)) S1 else .stk
  | none => .stk
end
end L3

set_option Elab.async false
set_option linter.all false
set_option maxRecDepth 100000
set_option maxHeartbeats 2000000
namespace PySem
namespace HandSPX
open Builtin Builtin.ObjectAttr
/-! ### an own exception class called with keywords -/
section
variable {M : Model} {A : Around} {E : Value → Shared → Prop} {h : Heap} {g : Array GenState} {d : Drawn} {t : Nat} {os : OsState}
variable {nm q : Str} {C N : Addr} {bs bm bmB : List Value} {hdct : Bool} {sn : List Str} {sub : List Value} {ab : Bool} {col : Option Bool} {dd : Option Addr} {k0 k1 k2 k3 k5 : Option Value} {B newId initId : String} {kw : List (Str × Value)}
theorem check_new_ownK (F : ExcBaseFacts B newId initId bmB) (hT : ∀ X : String, bm.contains (.type X) = bmB.contains (.type X)) {rest : List Value} {Q : Unit → Shared → Prop}
    (hC : h.get? C = some (excClassObj nm q C N bs bm hdct sn sub ab col dd k0 k1 k2 k3 k5 newId)) (hq : Q () ⟨h, g, d, t, os⟩) : wpAny M A (checkBuiltinCall newId ⟨.ref C :: rest, kw⟩) Q E ⟨h, g, d, t, os⟩ := by
  have hcont : (Value.ref C :: bm).contains (.type B) = true := by rw [List.contains_cons, hT, F.hasB, Bool.or_true]
  have hstar := F.noStar
  simp only [checkBuiltinCall, F.newKind, F.newSplit, F.newRow]
  repeat (first | refine wpAny_loadPart_at hC ?_ | (refine wpAny_isSubtype_exc hC ?_; rw [hcont]) | refine wpAny_staticBase_exc hC ?_ | refine wpAny_madeBy_exc hC ?_ | simp only [bne_self_eq_false, Bool.false_eq_true, if_false] | wp_step)
  exact hq
theorem check_type_call_subK {rest : List Value} {Q : Unit → Shared → Prop} (hC : h.get? C = some (excClassObj nm q C N bs bm hdct sn sub ab col dd k0 k1 k2 k3 k5 newId))
    (hq : Q () ⟨h, g, d, t, os⟩) : wpAny M A (checkBuiltinCall "type.__call__" ⟨.ref C :: rest, kw⟩) Q E ⟨h, g, d, t, os⟩ := by
  have f3 := tc_sub
  have hT : (⟨h, g, d, t, os⟩ : Shared).TypeIs (.ref C) "type" := ⟨_, hC, rfl⟩
  simp only [checkBuiltinCall, tc_kind, tc_split]
  repeat (any_goals (first | assumption | with_reducible refine wpAny_loadPart_at hC ?_ | with_reducible refine wpAny_onRaise ?_ | with_reducible refine wpAny_map ?_ | wp_step))
end
section
variable {prog : Program} {w : World} {A : Around} {E : Value → Shared → Prop} {R : Result → Shared → Prop} {h : Heap} {g : Array GenState} {d : Drawn} {t : Nat} {os : OsState}
variable {nm q : Str} {C N : Addr} {bs bm bmB : List Value} {hdct : Bool} {sn : List Str} {sub : List Value} {ab : Bool} {col : Option Bool} {dd : Option Addr} {k0 k1 k2 k3 k5 : Option Value} {B newId initId : String} {kw : List (Str × Value)}
theorem new_ownK (F : ExcBaseFacts B newId initId bmB) (hT : ∀ X : String, bm.contains (.type X) = bmB.contains (.type X)) {rest : List Value}
    (hC : h.get? C = some (excClassObj nm q C N bs bm hdct sn sub ab col dd k0 k1 k2 k3 k5 newId))
    (hq : R (.ok (.ret (.ref (h.objs.size + 1)))) ⟨(h.push { cls := .type "tuple", data := .seq rest.toArray }).push
      { cls := .ref C, data := .fields #[.ref h.objs.size, .none, .none, .none, .bool false, .none] }, g, d, t, os⟩) (hrest : rest.length ≤ sizeLine) :
    codeAny (model prog w) A (.builtin newId ⟨.ref C :: rest, kw⟩) R ⟨h, g, d, t, os⟩ := by
  have hends := F.ends
  have hcB : (Value.ref C :: bm).contains (.type B) = true := by rw [List.contains_cons, hT, F.hasB, Bool.or_true]
  have hcA : (Value.ref C :: bm).contains (.type "AttributeError") = false := by rw [List.contains_cons, hT, F.noAttr]; rfl
  have hcN : (Value.ref C :: bm).contains (.type "NameError") = false := by rw [List.contains_cons, hT, F.noName]; rfl
  refine codeAny_builtinAt F.entry ?_
  unfold Builtin.«BaseException.__new__»
  refine wpAt_bind ?_
  show wpAt _ _ _ (stack >>= _) _ _ _
  refine wpAt_bind (wpAt_stack fun p below => wpAt_of_wpAny ?_)
  wp_walk
  refine wpAt_of_wpAny ?_
  rw [F.owner]
  repeat (first | with_reducible refine wpAny_madeHere_exc F.canon hC ?_ | with_reducible refine wpAny_loadPart_at hC ?_ | (with_reducible refine wpAny_isSubtype_exc hC ?_; first | rw [hcB] | rw [hcA] | rw [hcN]) | wp_step)
  show R _ _
  rw [Heap.size_push]
  exact hq
theorem type_call_ownK (F : ExcBaseFacts B newId initId bmB) (hT : ∀ X : String, bm.contains (.type X) = bmB.contains (.type X)) {rest : List Value} {fI : Addr} {Q : Fin → Shared → Prop}
    (hC : h.get? C = some (excClassObj nm q C N bs bm hdct sn sub ab col dd k0 k1 k2 k3 k5 newId))
    (hi : W.Looks (model prog w) h (typeLookup (.ref C) "__init__") (some (.ref fI))) (hb : ∀ self, W.Looks (model prog w) h (bindSpecial (.ref fI) self) (.ref fI, [self])) (hrest : rest.length ≤ sizeLine)
    (hq : codeAny (model prog w) A (.call (.ref fI) ⟨.ref (h.objs.size + 1) :: rest, kw⟩)
      (fun r s' => match r with | .ok (.ret v) => v = .none ∧ Q (.done (.ret (.ref (h.objs.size + 1)))) s' | .ok _ => False | .error e => E e s')
      ⟨(h.push (W.kdv_tup rest)).push (excO C h.objs.size), g, d, t, os⟩) :
    wpAny (model prog w) A (Builtin.«type.__call__» ⟨.ref C :: rest, kw⟩) Q E ⟨h, g, d, t, os⟩ := by
  repeat (first | with_reducible refine wpAny_loadPart_at hC ?_ | with_reducible refine wpAny_madeBy_exc hC ?_ | wp_step)
  refine codeAny_call_builtin_code (Code.quiet_builtin _ F.quiet) (check_new_ownK F hT hC ?_)
  refine new_ownK F hT hC ?_ hrest
  show wpAny _ _ _ _ _ _
  have k : ∀ b o, h.get? b = some o → ((h.push (W.kdv_tup rest)).push (excO C h.objs.size)).get? b = some o := fun b o e => Heap.get?_push_of_some _ (Heap.get?_push_of_some _ e)
  have hC₁ := k _ _ hC
  have hget : ((h.push (W.kdv_tup rest)).push (excO C h.objs.size)).get? (h.objs.size + 1) = some (excO C h.objs.size) := by heap_get
  have hcC : (Value.ref C :: bm).contains (.ref C) = true := by simp
  have i1 := hi.keeps k
  have b1 := (hb (.ref (h.objs.size + 1))).keeps k
  unfold isInstance
  repeat (first | with_reducible refine wpAny_loadPart_at hget ?_ | (with_reducible refine wpAny_isSubtype_exc hC₁ ?_; rw [hcC]) | wp_step)
  show wpAny _ _ (typeLookup (.ref C) _) _ _ _
  refine i1.at ?_
  refine wpAny_holding (wpAny_bind (b1.at ?_))
  refine wpAny_bind (wpAny_call (codeAny_mono hq fun r s' z => ?_))
  rcases r with e | (v | _ | _ | _) <;> first | exact z | exact z.elim | skip
  obtain ⟨rfl, z⟩ := z
  first
    | exact wpAny_pure (wpAny_pure z)
    | (wp_walk; exact z)
theorem call_ownK (F : ExcBaseFacts B newId initId bmB) (hT : ∀ X : String, bm.contains (.type X) = bmB.contains (.type X)) {rest : List Value} {fI : Addr}
    (hC : h.get? C = some (excClassObj nm q C N bs bm hdct sn sub ab col dd k0 k1 k2 k3 k5 newId))
    (hi : W.Looks (model prog w) h (typeLookup (.ref C) "__init__") (some (.ref fI))) (hb : ∀ self, W.Looks (model prog w) h (bindSpecial (.ref fI) self) (.ref fI, [self])) (hrest : rest.length ≤ sizeLine)
    (hq : codeAny (model prog w) (A.under (.builtin "type.__call__" ⟨.ref C :: rest, kw⟩)) (.call (.ref fI) ⟨.ref (h.objs.size + 1) :: rest, kw⟩) (W.InitBack (h.objs.size + 1) R)
      ⟨(h.push (W.kdv_tup rest)).push (excO C h.objs.size), g, d, t, os⟩) :
    codeAny (model prog w) A (.call (.ref C) ⟨rest, kw⟩) R ⟨h, g, d, t, os⟩ := by
  have f1 := tc_lookup
  have f2 := tc_bind (.ref C)
  have hTy : (⟨h, g, d, t, os⟩ : Shared).TypeIs (.ref C) "type" := ⟨_, hC, rfl⟩
  refine codeAny_of_tree ?_
  show wpAny _ _ (callAny (.ref C) _) _ _ _
  repeat (any_goals (first | assumption | with_reducible refine wpAny_loadPart_at hC ?_ | wp_step))
  refine ⟨rfl, ?_⟩
  refine codeAny_call_builtin_at (Code.quiet_builtin _ (by decide +kernel)) entry_typeCall (check_type_call_subK hC (type_call_ownK F hT hC hi hb hrest ?_))
  refine codeAny_mono hq fun r s' z => ?_
  rcases r with e | (v | _ | _ | _) <;> exact z
end
theorem refsT_cases {tl : List Value} : ∀ l : List Value, refsT tl l = true → (∃ c r, l = .ref c :: r ∧ refsT tl r = true) ∨ l = tl
  | [], e => .inr (beq_iff_eq.mp e)
  | .ref c :: r, e => .inl ⟨c, r, rfl, e⟩
  | .none :: _, e => .inr (beq_iff_eq.mp e)
  | .ellipsis :: _, e => .inr (beq_iff_eq.mp e)
  | .notImplemented :: _, e => .inr (beq_iff_eq.mp e)
  | .bool _ :: _, e => .inr (beq_iff_eq.mp e)
  | .int _ _ :: _, e => .inr (beq_iff_eq.mp e)
  | .float _ _ :: _, e => .inr (beq_iff_eq.mp e)
  | .str _ _ :: _, e => .inr (beq_iff_eq.mp e)
  | .bytes _ _ :: _, e => .inr (beq_iff_eq.mp e)
  | .type _ :: _, e => .inr (beq_iff_eq.mp e)
  | .builtin _ :: _, e => .inr (beq_iff_eq.mp e)
theorem refsT_pass {tl : List Value} (hp : ∀ self : Value, refuseLoop self "__setattr__" tl = pure ()) (self : Value) : ∀ l : List Value, refsT tl l = true → refuseLoop self "__setattr__" l = pure () := by
  intro l
  induction l with
  | nil => intro e; rcases refsT_cases [] e with ⟨c, r', q, h⟩ | q; (cases q); rw [q]; exact hp self
  | cons a r ih =>
    intro e
    rcases refsT_cases (a :: r) e with ⟨c, r', q, h⟩ | q
    · obtain ⟨rfl, rfl⟩ := List.cons.inj q
      rw [refuseLoop_ref]; exact ih h
    · rw [q]; exact hp self
theorem refsT_contains {tl : List Value} (X : String) : ∀ l : List Value, refsT tl l = true → l.contains (.type X) = tl.contains (.type X) := by
  intro l
  induction l with
  | nil => intro e; rcases refsT_cases [] e with ⟨c, r', q, h⟩ | q; (cases q); rw [q]
  | cons a r ih =>
    intro e
    rcases refsT_cases (a :: r) e with ⟨c, r', q, h⟩ | q
    · obtain ⟨rfl, rfl⟩ := List.cons.inj q
      rw [List.contains_cons, ih h]; rfl
    · rw [q]
theorem refsT_ne {tl : List Value} (n : tl.isEmpty = false) {l : List Value} (e : refsT tl l = true) : l.isEmpty = false := by
  cases l with
  | nil =>
    rcases refsT_cases [] e with ⟨c, r', q, h⟩ | q
    · cases q
    · rw [q]; exact n
  | cons _ _ => rfl
theorem base_VE : BaseF "ValueError" "ValueError.__new__" "ValueError.__init__" [.type "ValueError", .type "Exception", .type "BaseException", .type "object"] := ⟨PySem.F.excBase_ValueError, PySem.W.kxs_ValueError, fun self => by kernel_rfl, by decide +kernel, rfl⟩
theorem base_LE : BaseF "LookupError" "LookupError.__new__" "LookupError.__init__" [.type "LookupError", .type "Exception", .type "BaseException", .type "object"] := ⟨PySem.F.excBase_LookupError, PySem.W.kxs_LookupError, fun self => by kernel_rfl, by decide +kernel, rfl⟩
theorem base_IE : BaseF "IndexError" "IndexError.__new__" "IndexError.__init__" [.type "IndexError", .type "LookupError", .type "Exception", .type "BaseException", .type "object"] := ⟨PySem.F.excBase_IndexError, PySem.W.kxs_IndexError, fun self => by kernel_rfl, by decide +kernel, rfl⟩
section
variable {prog : Program} {w : World} {A : Around} {E : Value → Shared → Prop} {R : Result → Shared → Prop} {hp : Heap} {g : Array GenState} {d : Drawn} {t : Nat} {os : OsState} {tl : List Value}
theorem exc_osaG {K : W.Frag} {name : Str} {tk : Tok} {v : Value} {x C : Addr} {fv : Array Value} {cd : ClassData} (hps : ∀ self : Value, refuseLoop self "__setattr__" tl = pure ()) (htl : tl.isEmpty = false) (hto : tl.contains (.type "object") = true)
    (X : K.In hp) (hx : hp.get? x = some { cls := .ref C, data := .fields fv }) (hcd : W.clsIn K C = some cd) (hm : refsT tl cd.mro = true) (hh : cd.hasDict = true) (ha : W.findIn K (.ref C) name = some none)
    (hq : ∀ h' tk' dx, (∀ b o, b ≠ x → hp.get? b = some o → h'.get? b = some o) → hp.objs.size ≤ dx → dx ≠ x → h'.get? x = some { cls := .ref C, dict := some dx, data := .fields fv } →
      h'.Ns1 dx (fun y => if y = name then some v else none) → R (.ok (.ret .none)) ⟨h', g, d, tk', os⟩) :
    codeAny (model prog w) A (.call (.builtin "object.__setattr__") ⟨[.ref x, .str name tk, v], []⟩) R ⟨hp, g, d, t, os⟩ := by
  have I : W.InstAt hp x { cls := .ref C, data := .fields fv } C none := ⟨hx, rfl, rfl, trivial⟩
  have SF := F.store_object
  have ne := refsT_ne htl hm
  have hob : cd.mro.contains (.type "object") = true := (refsT_contains "object" _ hm).trans hto
  have hxs : x ≠ hp.objs.size := Nat.ne_of_lt (Heap.lt_size hx)
  have sub : W.Looks (model prog w) hp (isInstance (.ref x) (.type "object")) true := I.type.andThen (W.looks_mroIn X (by unfold W.mroIn; rw [hcd, Option.bind_some, if_neg (by rw [ne]; decide), hob]))
  refine codeAny_call_builtin SF.slot.plain SF.entry (@W.check_slot (model prog w) _ _ ⟨hp, g, d, t, os⟩ "object.__setattr__" "object" "__setattr__" (.ref x) [.str name tk, v] [] _ SF.kind SF.split sub (SF.args (.ref x) (.str name tk) v) ?_)
  have hmr : W.Looks (model prog w) hp (mroOf (.ref C)) cd.mro := (W.looks_clsIn X hcd).andThen .now
  have L3 : W.Looks (model prog w) hp (storeTaker? none) none := .now
  have hcls : W.Looks (model prog w) hp (classData C) cd := W.looks_clsIn X hcd
  rw [W.osa_eq, refuse_eq]
  refine wpAny_bind (wpAny_bind (I.type.at (wpAny_bind (hmr.at ?_))))
  rw [refsT_pass hps _ _ hm]
  refine wpAny_pure (wpAny_bind (I.type.at (wpAny_bind ((W.looks_findIn X ha).at (wpAny_bind (L3.at ?_))))))
  show wpAny _ _ (storeInOwnDict (.ref x) (.ref C) (.str name tk) name v false) _ _ _
  obtain ⟨nm, bs, mro, ns, qn, hd, sn, sb, ab, col, del⟩ := cd
  dsimp only at hh
  subst hh
  unfold storeInOwnDict ownDictForStores
  repeat (first | with_reducible refine store_in_new ?_ ?_ | with_reducible refine wpAny_loadPart_at hx ?_ | with_reducible refine hcls.at ?_ | wp_step)
  · exact ⟨_, #[], _, (Heap.get?_update_ne _ _ _ _ hxs.symm).trans (Heap.get?_push_at rfl rfl), rfl, fun e he => absurd he (by simp), fun _ => rfl⟩
  · intro h' tk' hn' hs
    have hx₁ : (hp.push { cls := .type "dict", data := .dict #[] }).get? x = some { cls := .ref C, data := .fields fv } := Heap.get?_push_of_some _ hx
    refine hq h' tk' hp.objs.size (fun b o hb ho => ?_) (Nat.le_refl _) hxs.symm ?_ hn'
    · exact (hs.2 b (Nat.ne_of_lt (Heap.lt_size ho))).trans ((Heap.get?_update_ne _ _ _ _ hb).trans (Heap.get?_push_of_some _ ho))
    · exact (hs.2 x hxs).trans (Heap.get?_update_self _ hx₁ rfl)
theorem osa_oldG {K : W.Frag} {name : Str} {tk : Tok} {v : Value} {x C dx : Addr} {fv : Array Value} {cd : ClassData} {m0 : Str → Option Value} {nl : List Str} (hps : ∀ self : Value, refuseLoop self "__setattr__" tl = pure ()) (htl : tl.isEmpty = false) (hto : tl.contains (.type "object") = true)
    (X : K.In hp) (hx : hp.get? x = some { cls := .ref C, dict := some dx, data := .fields fv }) (hns : hp.Ns1 dx m0) (hw : Within m0 nl) (hz : nl.length ≤ 1000) (hcd : W.clsIn K C = some cd) (hm : refsT tl cd.mro = true) (hh : cd.hasDict = true)
    (ha : W.findIn K (.ref C) name = some none)
    (hq : ∀ h' tk', (∀ b o, b ≠ dx → hp.get? b = some o → h'.get? b = some o) → h'.Ns1 dx (fun y => if y = name then some v else m0 y) → R (.ok (.ret .none)) ⟨h', g, d, tk', os⟩) :
    codeAny (model prog w) A (.call (.builtin "object.__setattr__") ⟨[.ref x, .str name tk, v], []⟩) R ⟨hp, g, d, t, os⟩ := by
  obtain ⟨oD, esD, epD, hoD, hdD, _⟩ := hns.count hw
  have I : W.InstAt hp x { cls := .ref C, dict := some dx, data := .fields fv } C (some oD) := ⟨hx, rfl, rfl, hoD⟩
  have SF := F.store_object
  have ne := refsT_ne htl hm
  have hob : cd.mro.contains (.type "object") = true := (refsT_contains "object" _ hm).trans hto
  have sub : W.Looks (model prog w) hp (isInstance (.ref x) (.type "object")) true := I.type.andThen (W.looks_mroIn X (by unfold W.mroIn; rw [hcd, Option.bind_some, if_neg (by rw [ne]; decide), hob]))
  refine codeAny_call_builtin SF.slot.plain SF.entry (@W.check_slot (model prog w) _ _ ⟨hp, g, d, t, os⟩ "object.__setattr__" "object" "__setattr__" (.ref x) [.str name tk, v] [] _ SF.kind SF.split sub (SF.args (.ref x) (.str name tk) v) ?_)
  have hmr : W.Looks (model prog w) hp (mroOf (.ref C)) cd.mro := (W.looks_clsIn X hcd).andThen .now
  have L3 : W.Looks (model prog w) hp (storeTaker? none) none := .now
  have hcls : W.Looks (model prog w) hp (classData C) cd := W.looks_clsIn X hcd
  rw [W.osa_eq, refuse_eq]
  refine wpAny_bind (wpAny_bind (I.type.at (wpAny_bind (hmr.at ?_))))
  rw [refsT_pass hps _ _ hm]
  refine wpAny_pure (wpAny_bind (I.type.at (wpAny_bind ((W.looks_findIn X ha).at (wpAny_bind (L3.at ?_))))))
  show wpAny _ _ (storeInOwnDict (.ref x) (.ref C) (.str name tk) name v false) _ _ _
  obtain ⟨nm, bs, mro, ns, qn, hd, sn, sb, ab, col, del⟩ := cd
  dsimp only at hh
  subst hh
  unfold storeInOwnDict ownDictForStores
  repeat (first | with_reducible refine OEX.store_in_old hns hw hz ?_ | with_reducible refine wpAny_loadPart_at hx ?_ | with_reducible refine hcls.at ?_ | wp_step)
  intro h' tk' hn' hs
  exact hq h' tk' (fun b o hb ho => (hs.2 b hb).trans ho) hn'
end
end HandSPX
end PySem

set_option Elab.async false
set_option linter.all false
set_option maxRecDepth 100000
set_option maxHeartbeats 2000000
namespace L3
open PySem PySem.Spec PyProof.Rows L2 NdefX
section
variable {X : Cx} {pins : List (Addr × Obj)} {σ : L2.St} {H : Hp} {s : Shared} {a C dx : Addr} {f : Str} {y : V} {u : Value} {fs : List (Str × V)} {Q : Unit → Shared → Prop} {E : Value → Shared → Prop} {A : Around} {B nI iI : String} {tl : List Value}
/-- self.f = y, the first one -/
theorem ost_newG (BF : PySem.HandSPX.BaseF B nI iI tl) (T : OexG X.K C nI tl) (I : Inv X pins σ H s) (e : H a = some (exo a C none)) (hno : PySem.W.findIn X.K (.ref C) f = some none) (ry : RelV y u)
    (h : ∀ dx s', H dx = none → dx ≠ a → Inv X pins σ (upd (upd H dx (exd dx [(f, y)])) a (exo a C (some dx))) s' → Q () s') : wpAny (model X.prog X.w) A (setAttr (.ref a) f u) Q E s := by
  obtain ⟨nm, q, N, bs, bm, sn, sub, ab, col, dd, k0, k1, k2, k3, k5, hC, hbm⟩ := T.cls
  have hcl : PySem.W.clsIn X.K C = some { name := nm, bases := bs, mro := .ref C :: bm, ns := N, qualname := q, hasDict := true, slotNames := sn, subclasses := sub, abstract := ab, collection := col, hasDel := false } := by unfold PySem.W.clsIn; rw [hC] <;> rfl
  obtain ⟨t1, ho⟩ := exo_at I.hok e
  obtain ⟨hp, g, d, t, os⟩ := s
  refine PySem.W.set_plain I.kIn (ox := { cls := .ref C, dict := none, data := .fields #[.ref t1, .none, .none, .none, .bool false, .none] }) (od := none) ⟨ho, rfl, rfl, trivial⟩ T.sa ?_
  refine PySem.HandSPX.exc_osaG BF.pass BF.ne BF.ob I.kIn ho hcl (show PySem.HandSPX.refsT tl (.ref C :: bm) = true from hbm) rfl hno (fun h' tk' dx k dn dne hx hn => ?_)
  have hnd : H dx = none := I.hok.fresh dn
  have nd : ∀ {b : Addr} {o : Obj}, hp.get? b = some o → b ≠ dx := fun {b o} q => Nat.ne_of_lt (Nat.lt_of_lt_of_le (Heap.lt_size q) dn)
  have na : ∀ {b : Addr}, H b = none → b ≠ a := fun {b} n z => by
    rw [z, e] at n
    cases n
  have Un1 : Un X.fs [] H (upd (upd H dx (exd dx [(f, y)])) a (exo a C (some dx))) hp h' := {
    keep := fun b o q n _ _ => k b o (na n) q
    slot := fun b o q n _ _ => ⟨o.slots, k b o (na n) q⟩
    free := fun b o q n _ => by rw [upd_ne (na n), upd_ne (nd q)]; exact n
    there := fun b o q _ => by
      by_cases hb : b = a
      · exact ⟨_, by rw [hb]; exact hx⟩
      · exact ⟨o, k b o hb q⟩
    tups := fun b xs q => by rw [upd_ne (at_ne e q exo_tup), upd_ne (ne_of_none q hnd)]; exact q
    frzs := fun b o v q => by rw [upd_ne (at_ne e q exo_frz), upd_ne (ne_of_none q hnd)]; exact q
    tbls := fun b ps q => ⟨#[], by rw [upd_ne (at_ne e q exo_tbl), upd_ne (ne_of_none q hnd), q]; simp⟩ }
  refine h dx _ hnd dne (I.un (t' := tk') Un1 fun b o q => ?_)
  by_cases hb : b = a
  · subst hb
    rw [upd_same] at q
    cases q
    exact exo_ok hx
  · rw [upd_ne hb] at q
    by_cases hd : b = dx
    · subst hd
      rw [upd_same] at q
      cases q
      exact exd_ok hn (relO_put (fs := []) ry fun g => True.intro)
    · rw [upd_ne hd] at q
      exact (I.hok b o q).stay (fun c v hc z => k c v (by
          rcases hc with hc | hc
          · rw [hc]
            exact hb
          · exact at_ne e hc exo_own) z)
        (fun c hc => by rw [upd_ne (at_ne e hc exo_own), upd_ne (ne_of_none hc hnd)]; exact hc) (fun c xs hc => by rw [upd_ne (at_ne e hc exo_tup), upd_ne (ne_of_none hc hnd)]; exact hc)
/-- self.f = y, a further one -/
theorem ost_oldG (BF : PySem.HandSPX.BaseF B nI iI tl) (T : OexG X.K C nI tl) (I : Inv X pins σ H s) (e : H a = some (exo a C (some dx))) (ed : H dx = some (exd dx fs)) (hl : fs.length ≤ 900) (hno : PySem.W.findIn X.K (.ref C) f = some none) (ry : RelV y u)
    (h : ∀ s', Inv X pins σ (upd H dx (exd dx ((f, y) :: fs))) s' → Q () s') : wpAny (model X.prog X.w) A (setAttr (.ref a) f u) Q E s := by
  obtain ⟨nm, q, N, bs, bm, sn, sub, ab, col, dd, k0, k1, k2, k3, k5, hC, hbm⟩ := T.cls
  have hcl : PySem.W.clsIn X.K C = some { name := nm, bases := bs, mro := .ref C :: bm, ns := N, qualname := q, hasDict := true, slotNames := sn, subclasses := sub, abstract := ab, collection := col, hasDel := false } := by unfold PySem.W.clsIn; rw [hC] <;> rfl
  obtain ⟨t1, ho⟩ := exo_at I.hok e
  obtain ⟨mA, hns, rel⟩ := exd_at I.hok ed
  have hw := within_of rel
  obtain ⟨hp, g, d, t, os⟩ := s
  obtain ⟨oD, _, _, hoD, _, _⟩ := hns.count hw
  refine PySem.W.set_plain I.kIn (ox := { cls := .ref C, dict := some dx, data := .fields #[.ref t1, .none, .none, .none, .bool false, .none] }) (od := some oD) ⟨ho, rfl, rfl, hoD⟩ T.sa ?_
  refine PySem.HandSPX.osa_oldG BF.pass BF.ne BF.ob I.kIn ho hns hw (by rw [List.length_map]; omega) hcl (show PySem.HandSPX.refsT tl (.ref C :: bm) = true from hbm) rfl hno (fun h' tk' k hn => ?_)
  have hd : ∃ o, h'.get? dx = some o := by
    obtain ⟨o, _, _, e', _⟩ := hn
    exact ⟨o, e'⟩
  exact h _ (I.write (t' := tk') (x := dx) (e := dx) (o := exd dx ((f, y) :: fs)) (by rw [ed]; exact True.intro) (.inl rfl) k hd (exd_ok hn (relO_put ry rel)))
end
def tOstG (K : PySem.W.Frag) (nI : String) (tl : List Value) (f : Str) (to te : TE) : TS := fun D σ H => te σ H fun y H1 => to σ H1 fun x H2 => ∃ a C : Addr, x = .ref a ∧ OexG K C nI tl ∧ PySem.W.findIn K (.ref C) f = some none ∧
  ((H2 a = some (exo a C none) ∧ ∀ dx, H2 dx = none → dx ≠ a → D.nx σ (upd (upd H2 dx (exd dx [(f, y)])) a (exo a C (some dx)))) ∨
    ∃ (dx : Addr) (fs : List (Str × V)), H2 a = some (exo a C (some dx)) ∧ H2 dx = some (exd dx fs) ∧ fs.length ≤ 900 ∧ D.nx σ (upd H2 dx (exd dx ((f, y) :: fs))))
section
variable {X : Cx} {o e : Expr} {to te : TE} {f : Str} {p' pos : Pos} {B nI iI : String} {tl : List Value}
theorem ps_ostG (BF : PySem.HandSPX.BaseF B nI iI tl) (ho : PE X o to) (he : PE X e te) (hs : swapsWith e (some (.Attribute o f p')) pos.line X.env = pure false := by rfl) : PS X (.Assign [.Attribute o f p'] e pos) (tOstG X.K nI tl f to te) := by
  refine ⟨fun pins s σ H D I h => ?_⟩
  refine plainObj_wpAny_Assign_Attribute (thn (he.run pins s σ H _ I h) fun v s1 ⟨y, H1, I1, r1, q1⟩ => thn (ho.run pins s1 σ H1 _ I1 q1) fun u s2 ⟨x, H2, I2, r2, a, C, ex, T, hno, q⟩ => ?_) hs
  subst ex
  obtain rfl : u = Value.ref a := r2
  rcases q with ⟨ea, q⟩ | ⟨dx, fs, ea, ed, hl, q⟩
  · exact ost_newG BF T I2 ea hno r1 fun dx s' n ne J => ⟨σ, _, J, q dx n ne⟩
  · exact ost_oldG BF T I2 ea ed hl hno r1 fun s' J => ⟨σ, _, J, q⟩
end
/-- what the written part says for super() in the __init__ of the class at C -/
structure SupG (K : PySem.W.Frag) (B iI : String) (C cc c : Addr) (qual : Str) (main : Str) : Prop where
  cell : cellV K cc = some (.ref C)
  sup : PySem.W.ks_superIn K C C "__init__" = some (some (.builtin iI))
  vE : PySem.W.subIn K (.ref C) (.type B) = some true
  self : PySem.W.mroIn K C (.ref C) = some true
  opq : PySem.W.nsIn K cStatics "thirdparty.any" = some none
  code : PySem.W.codeIn K (.ref c) qual = true
  file : fileV K c main = true
section
variable {B nI iI : String} {tl : List Value} {X : Cx} {C cc c a f : Addr} {qual : Str} {p0 p1 p2 pos spos : Pos}
/-- the first statement of such an __init__ -/
theorem sup_firstG (BF : PySem.HandSPX.BaseF B nI iI tl) {pins : List (Addr × Obj)} {σ : L2.St} {H : Hp} {s : Shared} {body : List Stmt} {fd : FuncData} {of : Obj} {ar : Arg} {i j : Nat} {Q : Flow → Shared → Prop} {E : Value → Shared → Prop} (I : Inv X pins σ H s) (T : OexG X.K C nI tl) (U : SupG X.K B iI C cc c qual X.prog.main.file)
    (he : H a = some (exo a C none)) (hs0 : σ[i]? = some (some (.ref a))) (hs1 : σ[j]? = some (some (.ref C))) (hN0 : X.N[i]? = some ar.arg) (hN1 : X.N[j]? = some ("__class__" : Str)) (hL : X.env.scope.names.lookup ar.arg = some .local) (hF : X.env.scope.names.lookup ("__class__" : Str) = some .free)
    (hS : X.env.scope.names.lookup ("super" : Str) = some .globalImplicit) (hm : X.mg "super" = none) (hfu : X.env.func = some f) (hf : s.heap.get? f = some of) (hfd : of.data = .func fd) (hp : (fd.params.posonlyargs ++ fd.params.args).head? = some ar) (hco : X.env.code = .ref c)
    (htop : (X.prog.main.scope.names.lookup ("super" : Str)).isSome = false) (hi : interactive X.env = false) (hsw : swapsWith (supEx p0 p1 p2 pos) none spos.line X.env = pure false)
    (hd : (ar.arg == ("__debug__" : Str)) = false) (hcd : (ar.arg == ("__classdict__" : Str)) = false)
    (hev : ∃ pl, eval (supEx p0 p1 p2 pos) X.env = (do
      let ov ← attributeBase (.Call (.Name "super" p0) [] [] p1) "__init__" X.env (eval (.Call (.Name "super" p0) [] [] p1) X.env)
      standAt p2.atName
      let (f, first) ← holding [ov] (getMethod ov "__init__" pl)
      callWith pos f first (backTo pos (starEach [] X.env)) []))
    (h : ∀ s', Inv X pins σ H s' → Q .next s') : _root_.PySem.wpAt (model X.prog X.w) X.A (.func body X.env) (exec (.Expr (supEx p0 p1 p2 pos) spos) X.env) Q E s := by
  obtain ⟨pl, hev⟩ := hev
  obtain ⟨nm, q, N, bs, bm, sn, sub, ab, col, dd, k0, k1, k2, k3, k5, hC, hbm⟩ := T.cls
  have hcl : PySem.W.clsIn X.K C = some { name := nm, bases := bs, mro := .ref C :: bm, ns := N, qualname := q, hasDict := true, slotNames := sn, subclasses := sub, abstract := ab, collection := col, hasDel := false } := by unfold PySem.W.clsIn; rw [hC] <;> rfl
  obtain ⟨oc, vs, file, tf, hcc, hoc, hvs, hfile⟩ := fileV_at I.kIn U.file
  refine ks_wpAt_Expr_any ?_ hi hsw
  refine ks_wpAt_MethodCall ?_ hev
  refine ks_wpAt_super_base (cc := c) hS hF (by decide) hfu hf hfd hp hco hcc hoc hvs hfile htop ?_
  refine PySem.W.ks_loadName_global I.ok.kind hS ?_
  obtain ⟨mb, g1, g2⟩ := I.mod.blt
  refine Calls.loadGlobal_builtin (by rw [I.ok.glob]; exact I.mod.glob.keeps I.bk) hm (by rw [I.ok.blt]; exact g1.keeps I.bk) ((g2 "super" (by decide)).trans rfl) ⟨rfl, ?_⟩
  obtain ⟨m, hn, hl⟩ := id I.loc
  obtain ⟨u1, r1, l1⟩ := hl j _ _ hN1 hs1 (.inr (.inr hF))
  obtain rfl : u1 = Value.ref C := r1
  obtain ⟨c1, hc1, hcell1⟩ : ∃ c1, X.env.cells.lookup ("__class__" : Str) = some c1 ∧ s.heap.IsCell c1 (some (.ref C)) := by
    rcases l1 with ⟨z, _⟩ | ⟨_, q⟩
    · have hk : X.env.kindOf "__class__" = some .free := hF
      rw [hk] at z; cases z
    · exact q
  refine wpAny_loadName_free I.ok.kind hF hc1 hcell1 ?_ (by decide)
  obtain ⟨u0, r0, l0⟩ := hl i _ _ hN0 hs0 (.inl hL)
  obtain rfl : u0 = Value.ref a := r0
  have hma : m ar.arg = some (.ref a) := by
    rcases l0 with ⟨_, hma⟩ | ⟨z, _⟩
    · exact hma
    · have hk : X.env.kindOf ar.arg = some .local := hL
      rcases z with z | z <;> rw [hk] at z <;> cases z
  refine wpAny_loadName_local I.ok.kind hL hn hma ?_
  obtain ⟨t1, ho⟩ := exo_at I.hok he
  have hCo := I.kIn _ _ hC
  have aC : a ≠ C := by
    rintro rfl
    rw [hCo] at ho
    cases ho
  obtain ⟨hp0, g, d, tk, os⟩ := s
  refine ks_wpAny_isType_cls hCo rfl ⟨rfl, ?_⟩
  refine ks_wpAny_call_super hCo rfl ho rfl (fun c e => by cases e) (PySem.W.looks_mroIn I.kIn U.self) (fun h1 e1 k1 => ?_)
  have I1 : Inv X pins σ H ⟨h1, g, d, tk, os⟩ := I.kept (t' := tk) k1
  have hI : PySem.W.Looks (model X.prog X.w) h1 (isInstance (.ref a) (.type B)) true := by
    have q : PySem.W.InstAt h1 a { cls := .ref C, dict := none, data := .fields #[.ref t1, .none, .none, .none, .bool false, .none] } C none := ⟨k1 _ _ ho, rfl, rfl, trivial⟩
    exact q.type.andThen (PySem.W.looks_subIn I1.kIn U.vE)
  have hU := U.sup
  unfold PySem.W.ks_superIn at hU
  rw [hcl] at hU
  refine PySem.W.kxs_getMethod BF.K (x := a) e1 (PySem.W.looks_opaque I1.kIn U.opq) ((PySem.W.looks_clsIn I1.kIn hcl).andThen .now) rfl I1.kIn hU hI aC (by decide) ?_
  have eu : (h1.push (PySem.W.kxs_mw iI a)).get? h1.objs.size = some (PySem.W.kxs_mw iI a) := Heap.get?_push_at rfl rfl
  have k2 : ∀ b o, h1.get? b = some o → (h1.push (PySem.W.kxs_mw iI a)).get? b = some o := fun b o e => Heap.get?_push_of_some _ e
  have I2 : Inv X pins σ H ⟨h1.push (PySem.W.kxs_mw iI a), g, d, tk + 1, os⟩ := Inv.kept (t' := tk + 1) I1 k2
  refine PySem.W.kxs_callWith (i := iI) (x := a) rfl (evalArgs_empty ⟨eu, ?_⟩)
  refine wpAny_call (codeAny_of_tree ?_)
  show wpAny _ X.A.in1 (callAny (.ref h1.objs.size) ⟨[], []⟩) _ _ _
  simp only [callAny]
  refine wpAny_bind (wpAny_load eu ?_)
  simp only [PySem.W.kxs_mw, show (Value.type "method-wrapper" == Value.type "method" || Value.type "method-wrapper" == Value.type "builtin_function_or_method" || Value.type "method-wrapper" == Value.type "method-wrapper") = true by decide, if_true]
  refine PySem.W.KFB.if_so (by decide) ?_
  have he2 := k2 _ _ (k1 _ _ ho)
  refine wpAny_bind (PySem.W.check_bound_init BF.F.toExcCallFacts (k2 _ _ (k1 _ _ hCo)) he2 rfl ?_)
  refine wpAny_bind (wpAny_pure (wpAny_pure ?_))
  refine ⟨plainId_quiet BF.F.init.plain _, codeAny_builtin BF.F.initEntry ?_⟩
  refine PySem.W.exc_init_tree (cls := .ref C) (t0 := t1) (dv := none) (c2 := .none) (c3 := .none) (b4 := .bool false) he2 (by simp [sizeLine_eq]) fun h3 k3 e3 _ => ?_
  have J := I2.write (t' := tk + 1) (h' := h3) (x := a) (e := a) (o := exo a C none) (by rw [he]; exact True.intro) (.inl rfl) k3 ⟨_, e3⟩ (exo_ok e3)
  have eu : upd H a (exo a C none) = H := by
    funext b
    by_cases hb : b = a
    · rw [hb, upd_same, he]
    · rw [upd_ne hb]
  rw [eu] at J
  exact h _ J
end
/-! the fields -/
def tRestG (nI : String) (tl : List Value) (K : PySem.W.Frag) (C : Addr) (fl : List (Str × IniV)) : TS := fun D σ H => ∃ (a dx : Addr) (fs : List (Str × V)) (ys : List V), σ[0]? = some (some (.ref a)) ∧ (∀ i, i < ys.length → σ[i + 1]? = some (some (ys.getD i .non))) ∧
  a ≠ dx ∧ H a = some (exo a C (some dx)) ∧ H dx = some (exd dx fs) ∧ fs.length + fl.length ≤ 900 ∧ (∀ p ∈ fl, ∀ i, p.2 = .inl i → i < ys.length) ∧ OexG K C nI tl ∧ (∀ p ∈ fl, PySem.W.findIn K (.ref C) p.1 = some none) ∧ D.nx σ (upd H dx (exd dx (iniL fl ys ++ fs)))
def tIniG (nI : String) (tl : List Value) (K : PySem.W.Frag) (C : Addr) (fl : List (Str × IniV)) : TS := fun D σ H => ∃ (a : Addr) (ys : List V), σ[0]? = some (some (.ref a)) ∧ (∀ i, i < ys.length → σ[i + 1]? = some (some (ys.getD i .non))) ∧
  H a = some (exo a C none) ∧ fl.length ≤ 900 ∧ fl ≠ [] ∧ (∀ p ∈ fl, ∀ i, p.2 = .inl i → i < ys.length) ∧ OexG K C nI tl ∧ (∀ p ∈ fl, PySem.W.findIn K (.ref C) p.1 = some none) ∧ ∀ dx, H dx = none → dx ≠ a → D.nx σ (upd (upd H dx (exd dx (iniL fl ys))) a (exo a C (some dx)))
section
variable {B nI iI : String} {tl : List Value} {X : Cx} {C : Addr} {ps : List Str}
/-- one field -/
theorem ini_oneG (BF : PySem.HandSPX.BaseF B nI iI tl) {st : Stmt} {p : Str × IniV} (hX : ∀ (i : Nat) y, ps[i]? = some y → X.N[i]? = some y ∧ Vis X.env.scope y) (e : iniOne ps st = some p) :
    PS X st (tOstG X.K nI tl p.1 (tVar 0) (match p.2 with | .inl i => tVar (i + 1) | .inr z => tC (.str z))) := by
  unfold iniOne at e
  split at e
  · rename_i x0 pa f pb y pc pd
    split at e
    · rename_i h
      obtain ⟨h1, h2, h3, h4, h5⟩ := h
      split at e
      · rename_i i q
        cases e
        obtain ⟨n0, v0⟩ := hX _ _ h1
        have hi : ps[i + 1]? = some y := by
          have q2 := List.idxOf?_eq_some_iff.mp q
          obtain ⟨hlt, he, _⟩ := q2
          rw [List.getElem?_eq_getElem hlt]
          exact congrArg some he
        obtain ⟨n1, v1⟩ := hX _ _ hi
        exact ps_ostG BF (pe_var n0 v0 h2 h3) (pe_var n1 v1 h4 h5) rfl
      · cases e
    · cases e
  · split at e
    · rename_i h
      obtain ⟨h1, h2, h3⟩ := h
      cases e
      obtain ⟨n0, v0⟩ := hX _ _ h1
      exact ps_ostG BF (pe_var n0 v0 h2 h3) pe_str rfl
    · cases e
  · cases e
theorem ini_restG (BF : PySem.HandSPX.BaseF B nI iI tl) (hX : ∀ (i : Nat) y, ps[i]? = some y → X.N[i]? = some y ∧ Vis X.env.scope y) : ∀ {sts : List Stmt} {fl : List (Str × IniV)}, iniOf ps sts = some fl → PSs X sts (tRestG nI tl X.K C fl)
  | [], fl, e => by
    have e' : fl = [] := by simpa [iniOf] using e.symm
    subst e'
    refine pss_imp pss_nil fun D σ H ⟨a, dx, fs, ys, _, _, _, _, h2, _, _, _, _, q⟩ => ?_
    have : upd H dx (exd dx (iniL [] ys ++ fs)) = H := upd_eq (by simpa [iniL] using h2)
    rw [this] at q
    exact q
  | st :: r, fl, e => by
    unfold iniOf at e
    split at e
    · rename_i p xs e1 e2
      cases e
      refine pss_imp (pss_cons (ini_oneG BF hX e1) (ini_restG BF hX e2)) fun D σ H ⟨a, dx, fs, ys, h0, hy, ne, h1, h2, h3, h4, h5, h6, q⟩ => ?_
      refine val_at (D := D) hy (fun i e => h4 p List.mem_cons_self i e) ⟨.ref a, h0, a, C, rfl, h5, h6 p List.mem_cons_self, .inr ⟨dx, fs, h1, h2, by simp at h3; omega, ?_⟩⟩
      refine ⟨a, dx, _, ys, h0, hy, ne, by rw [upd_ne ne]; exact h1, upd_same, by simp at h3 ⊢; omega, fun x hx => h4 x (List.mem_cons_of_mem _ hx), h5, fun x hx => h6 x (List.mem_cons_of_mem _ hx), ?_⟩
      rw [upd_upd]
      have el : iniL xs ys ++ (p.1, valV ys p.2) :: fs = iniL (p :: xs) ys ++ fs := by simp [iniL]
      rw [el]
      exact q
    · cases e
theorem ini_allG (BF : PySem.HandSPX.BaseF B nI iI tl) (hX : ∀ (i : Nat) y, ps[i]? = some y → X.N[i]? = some y ∧ Vis X.env.scope y) {sts : List Stmt} {fl : List (Str × IniV)} (e : iniOf ps sts = some fl) : PSs X sts (tIniG nI tl X.K C fl) := by
  cases sts with
  | nil =>
    have e' : fl = [] := by simpa [iniOf] using e.symm
    subst e'
    exact pss_imp pss_nil fun D σ H ⟨a, ys, _, _, _, _, h, _⟩ => absurd rfl h
  | cons st r =>
    unfold iniOf at e
    split at e
    · rename_i p xs e1 e2
      cases e
      refine pss_imp (pss_cons (ini_oneG BF hX e1) (ini_restG BF (C := C) hX e2)) fun D σ H ⟨a, ys, h0, hy, h1, h3, _, h4, h5, h6, q⟩ => ?_
      refine val_at (D := D) hy (fun i e => h4 p List.mem_cons_self i e) ⟨.ref a, h0, a, C, rfl, h5, h6 p List.mem_cons_self, .inl ⟨h1, fun dx hn ne => ?_⟩⟩
      refine ⟨a, dx, _, ys, h0, hy, Ne.symm ne, upd_same, by rw [upd_ne ne]; exact upd_same, by simp at h3 ⊢; omega, fun x hx => h4 x (List.mem_cons_of_mem _ hx), h5, fun x hx => h6 x (List.mem_cons_of_mem _ hx), ?_⟩
      have q' := q dx hn ne
      have el : iniL xs ys ++ [(p.1, valV ys p.2)] = iniL (p :: xs) ys := by simp [iniL]
      rw [el, ← upd_comm (Ne.symm ne.symm), upd_upd]
      exact q'
    · cases e
end
/-! the __init__ as a def -/
section
variable {B nI iI : String} {tl : List Value} {P : Program} {w : World} {K : PySem.W.Frag} {mg : Str → Option Value} {base : Heap} {N ps : List Str} {name qual : Str} {params : Arguments} {rest : List Stmt} {scope : Scope} {dV kV doc pm ct oc : Value} {an od : Option Addr} {osl : Array (Option Value)} {C cc c f : Addr} {p0 p1 p2 pos spos : Pos} {fl : List (Str × IniV)} {k : Nat}
theorem fn_superG (BF : PySem.HandSPX.BaseF B nI iI tl) {CX : CXT} (lk : K.lookup f = some ⟨oc, od, .func (PySem.W.ksFn name qual params (.Expr (supEx p0 p1 p2 pos) spos :: rest) scope dV kV doc pm an (.ref c) ct cc), osl⟩) (T : OexG K C nI tl) (U : SupG K B iI C cc c qual P.main.file) (S : IniS N ps scope params fl rest)
    (hfi : ∀ p ∈ fl, PySem.W.findIn K (.ref C) p.1 = some none) (hm : mg "super" = none) (htop : (P.main.scope.names.lookup ("super" : Str)).isSome = false) (hev : SupEv p0 p1 p2 pos := by exact fun _ => ⟨_, by rfl⟩) :
    FnOk P w K mg base CX (k + 1) f (PySem.W.ksFn name qual params (.Expr (supEx p0 p1 p2 pos) spos :: rest) scope dV kV doc pm an (.ref c) ct cc) ps (spI C (ps.length - 1) fl) := by
  have hp0 := S.pos
  refine ⟨fun vs H Q E ⟨a, ys, e, hl, _⟩ => by subst e; simp; omega, fun A outer s H args us vs Q E hr e0 hb r hsp => ?_⟩
  obtain ⟨a, ys, rfl, hl, hea, hsp⟩ := hsp
  have hvl : (V.ref a :: ys).length = ps.length := by simp; omega
  have KX : K.In s.heap := e0.mod.kin.keeps fun b o e => (e0.bs b o e).1
  have lim : s.heap.NoLimit := e0.mod.nolimit.keeps fun b o e => (e0.bs b o e).1
  refine ks_codeAny_call_defAt (fd := PySem.W.ksFn name qual params (.Expr (supEx p0 p1 p2 pos) spos :: rest) scope dV kV doc pm an (.ref c) ct cc) hr.depth (KX _ _ lk) rfl lim (PySem.W.codeRec_of KX U.code) rfl hb S.sc.nocell (fun ⟨n, v⟩ hy => S.sc.par n (List.of_mem_zip hy).1) (fun h₁ hns kp => ?_) S.sc.co S.sc.gen S.sc.kind
  obtain ⟨ob, cb⟩ : ∃ ob, base.get? cc = some ob := by
    obtain ⟨o, ho, _⟩ := cellV_at e0.mod.kin U.cell
    exact ⟨o, ho⟩
  have hC : CellsAt [(("__class__" : Str), cc)] ["__class__"] [some (V.ref C)] s.heap H := by
    refine ⟨rfl, fun y c1 e => ?_, fun x y c1 e1 e2 => ?_, fun i y e => ?_⟩
    · have : c1 = cc := by
        rw [List.lookup_cons] at e
        split at e
        · exact (Option.some.inj e).symm
        · cases e
      subst this
      exact ⟨(e0.bs _ _ cb).2, _, cellV_at KX U.cell⟩
    · rw [List.lookup_cons] at e1 e2
      split at e1
      · rename_i q1
        split at e2
        · rename_i q2
          rw [beq_iff_eq.mp q1, beq_iff_eq.mp q2]
        · cases e2
      · cases e1
    · cases i with
      | zero =>
        cases e
        exact ⟨cc, by simp, fun v ev => by cases ev; exact ⟨.ref C, rfl, cellV_at KX U.cell⟩⟩
      | succ i => cases e
  have I : Inv (ncx CX P w K mg base N ⟨name, qual, params, .Expr (supEx p0 p1 p2 pos) spos :: rest, scope, [(("__class__" : Str), cc)], c⟩ f A outer s H E) [] (startF N (V.ref a :: ys) [some (V.ref C)]) H { s with heap := h₁, toks := s.toks + (ps.zip us).length } :=
    inv_startN S.sc hr.hd e0 hvl r hC hns kp
  have nl : ps.length + 1 ≤ N.length := by
    have q := congrArg List.length S.sc.pre
    rw [List.length_take, List.length_append, List.length_singleton] at q
    omega
  have hNi : ∀ (i : Nat) y, ps[i]? = some y → N[i]? = some y := fun i y e => by
    have hi : i < ps.length := (List.getElem?_eq_some_iff.mp e).1
    have q : (N.take (ps.length + 1))[i]? = (ps ++ [("__class__" : Str)])[i]? := by
      have z := S.sc.pre
      rw [List.length_singleton] at z
      rw [z]
    rw [List.getElem?_take_of_lt (by omega), List.getElem?_append_left hi] at q
    rw [q, e]
  have hNc : N[ps.length]? = some ("__class__" : Str) := by
    have q : (N.take (ps.length + 1))[ps.length]? = (ps ++ [("__class__" : Str)])[ps.length]? := by
      have z := S.sc.pre
      rw [List.length_singleton] at z
      rw [z]
    rw [List.getElem?_take_of_lt (by omega), List.getElem?_append_right (Nat.le_refl _)] at q
    rw [q]
    simp
  have hys : ∀ i, i < ys.length → (startF N (V.ref a :: ys) [some (V.ref C)])[i + 1]? = some (some (ys.getD i .non)) := fun i hi => by
    unfold startF
    rw [List.getElem?_append_left (by simp; omega)]
    simp [hi, List.getD_eq_getElem?_getD]
  have hsc : (startF N (V.ref a :: ys) [some (V.ref C)])[ps.length]? = some (some (.ref C)) := by
    unfold startF
    rw [List.getElem?_append_right (by simp; omega)]
    have : ps.length - (List.map some (V.ref a :: ys)).length = 0 := by simp; omega
    rw [this]
    rfl
  obtain ⟨y0, hy0⟩ : ∃ y0, ps[0]? = some y0 := ⟨ps[0], List.getElem?_eq_getElem hp0⟩
  have hh : ps.head? = some y0 := by rw [List.head?_eq_getElem?]; exact hy0
  obtain ⟨ar, har, hare⟩ : ∃ ar, (params.posonlyargs ++ params.args).head? = some ar ∧ ar.arg = y0 := by
    have q := S.par
    rw [hh] at q
    cases z : (params.posonlyargs ++ params.args).head? with
    | none => rw [z] at q; cases q
    | some ar => rw [z] at q; exact ⟨ar, rfl, Option.some.inj q⟩
  obtain ⟨d1, d2⟩ := S.dbg y0 hh
  have hlist := S.sc.par y0 (List.mem_of_getElem? hy0)
  refine ks_wpAt_execs_cons (ks_wpAt_mono (sup_firstG BF (X := ncx CX P w K mg base N ⟨name, qual, params, .Expr (supEx p0 p1 p2 pos) spos :: rest, scope, [(("__class__" : Str), cc)], c⟩ f A outer s H E) (E := (ncx CX P w K mg base N ⟨name, qual, params, .Expr (supEx p0 p1 p2 pos) spos :: rest, scope, [(("__class__" : Str), cc)], c⟩ f A outer s H E).xe)
    (i := 0) (j := ps.length) (ar := ar) (f := f) (fd := PySem.W.ksFn name qual params (.Expr (supEx p0 p1 p2 pos) spos :: rest) scope dV kV doc pm an (.ref c) ct cc)
    (Q := fun fl s' => match fl with | .next => Inv (ncx CX P w K mg base N ⟨name, qual, params, .Expr (supEx p0 p1 p2 pos) spos :: rest, scope, [(("__class__" : Str), cc)], c⟩ f A outer s H E) [] (startF N (V.ref a :: ys) [some (V.ref C)]) H s' | _ => False)
    I T U hea (by rfl) hsc (by rw [hare]; exact hNi 0 _ hy0) hNc (by rw [hare]; exact hlist) (S.sc.frk _ (by simp)) S.sup hm rfl (kp _ _ (KX _ _ lk)) rfl har rfl htop (hint S.sc.kind) rfl (by rw [hare]; exact d1) (by rw [hare]; exact d2) (hev _) fun s' J => J) (fun fw s' hf => ?_) fun e s' h => h)
  cases fw with
  | ret _ => exact hf.elim
  | brk => exact hf.elim
  | cont => exact hf.elim
  | next =>
    have hb2 : PSs (ncx CX P w K mg base N ⟨name, qual, params, .Expr (supEx p0 p1 p2 pos) spos :: rest, scope, [(("__class__" : Str), cc)], c⟩ f A outer s H E) rest (tIniG nI tl K C fl) := ini_allG BF (ps := ps) (fun i y e => ⟨hNi i y e, .inl (S.sc.par y (List.mem_of_getElem? e))⟩) S.flds
    have hq := hb2.run [] s' _ H { nx := fun _ H' => Q .non H', rt := Q } hf ⟨a, ys, rfl, hys, hea, S.ne.2, S.ne.1, fun p hp i e => by have := S.ix p hp i e; omega, T, hfi, hsp⟩
    refine PySem.wpAt_of_wpAny (wpAny_mono hq (fun fl s' hs => ?_) fun e s' hs => hs)
    cases fl with
    | ret u =>
      obtain ⟨v, σ', H', J, rv, q⟩ := hs
      exact ⟨v, H', J.os, J.bare, J.base, J.hok, rv, q⟩
    | next =>
      obtain ⟨σ', H', J, q⟩ := hs
      exact ⟨.non, H', J.os, J.bare, J.base, J.hok, rfl, q⟩
    | brk =>
      obtain ⟨_, _, _, q⟩ := hs
      exact False.elim q
    | cont =>
      obtain ⟨_, _, _, q⟩ := hs
      exact False.elim q
end
end L3

set_option Elab.async false
set_option linter.all false
set_option maxRecDepth 100000
set_option maxHeartbeats 2000000
namespace PySem.W
open PySem PySem.Spec PySem.Calls PyProof.Rows
section
variable {prog : Program} {w : World} {A : Around} {E : Value → Shared → Prop} {s : Shared} {K : Frag} {x D : Addr} {ox : Obj} {od : Option Obj}
theorem findObj_dataD {C : Addr} {name : Str} {a g : Value} (hc : (clsIn K C).isSome = true) (ha : findIn K (.ref C) name = some (some a)) (hg : specialIn K a "__get__" = some (some g)) (ht : takesIn K a = some true) : findObj K C od name = some (.bind g a) := by
  obtain ⟨cd, hc⟩ := Option.isSome_iff_exists.mp hc
  unfold findObj
  rw [hc, Option.bind_some, ha, Option.bind_some]
  simp [hg, ht]
theorem kin_classD {Q : Option Value → Shared → Prop} (hga : findIn K (.ref D) "__getattribute__" = some (some (.builtin "BaseException.__getattribute__"))) (hgt : findIn K (.ref D) "__getattr__" = some none) (hsub : subIn K (.ref D) (.type "BaseException") = some true)
    (hdct : hasDictIn K D = true) (ha : findIn K (.ref D) "__class__" = some (some (.builtin "object.__class__")))
    (hn : specialIn K (.builtin "object.__class__") "__get__" = some (some (.builtin "getset_descriptor.__get__"))) (htk : takesIn K (.builtin "object.__class__") = some true) (hm : mroIn K D (.type "object") = some true)
    (X : K.In s.heap) (I : InstAt s.heap x ox D od) (h : Q (some (.ref D)) { s with toks := s.toks + 1 }) : wpAny (model prog w) A (getAttr? (.ref x) "__class__") Q E s := by
  have hf : findObj K D od "__class__" = some (.bind (.builtin "getset_descriptor.__get__") (.builtin "object.__class__")) := findObj_dataD (by obtain ⟨cd, hc, _⟩ := any_some hdct; rw [hc]; rfl) ha hn htk
  obtain ⟨hp, g, d, t, os⟩ := s
  have L0 := I.type (M := model prog w)
  have L1 := looks_findIn (M := model prog w) X hga
  have L2 := looks_findIn (M := model prog w) X hgt
  have L3 := looks_find (M := model prog w) X I hf
  have sub : Looks (model prog w) hp (isInstance (.ref x) (.type "BaseException")) true := L0.andThen (looks_subIn X hsub)
  have hx0 : (false && onTheHeap (Value.builtin "BaseException.__getattribute__")) = false := rfl
  have hx2 : (Value.builtin "BaseException.__getattribute__" == Value.builtin "object.__getattribute__") = false := by decide +kernel
  have hx1 : (onTheHeap (Value.ref D) && Value.builtin "BaseException.__getattribute__" == Value.builtin "object.__getattribute__") = false := by rw [hx2]; rfl
  unfold getAttr? getAttrBy? getAttrBy
  refine wpAny_bind (wpAny_mkText (wpAny_bind (wpAny_attempt (wpAny_holding (wpAny_bind (L0.at (wpAny_bind (L1.at ?_))))))))
  show wpAny _ _ (if (onTheHeap (Value.ref D) && Value.builtin "BaseException.__getattribute__" == Value.builtin "object.__getattribute__") = true then _ else _) _ _ _
  rw [hx1, if_neg Bool.false_ne_true]
  unfold getAttrByItsOwn hookBefore
  refine wpAny_bind ?_
  rw [if_pos (show onTheHeap (Value.ref D) = true from rfl)]
  refine L2.at ?_
  refine wpAny_bind (wpAny_attempt (wpAny_holding ?_))
  unfold callGetattribute
  rw [hx0, if_neg Bool.false_ne_true]
  unfold boundAndCalled
  rw [PySem.F.excAttr_ValueError.ga.bind (.ref x)]
  refine wpAny_bind (wpAny_pure ?_)
  show wpAny _ _ (call (.builtin "BaseException.__getattribute__") [.ref x, .str "__class__" t]) _ _ _
  refine wpAny_call (codeAny_call_builtin PySem.F.excAttr_ValueError.ga.plain PySem.F.entry_bexc_ga ?_)
  refine @check_slot (model prog w) _ _ ⟨hp, g, d, t + 1, os⟩ "BaseException.__getattribute__" "BaseException" "__getattribute__" (.ref x) [.str "__class__" t] [] _ (by decide +kernel) (by decide +kernel) sub (PySem.F.args_bexc_ga (.ref x) (.str "__class__" t)) ?_
  unfold Builtin.«object.__getattribute__»
  refine wpAny_bind (wpAny_of_eq (a := ((Value.ref x : Value), [Value.str "__class__" t])) (by first | rfl | (simp only [slotArgs]; rfl)) ?_)
  refine wpAny_bind (wpAny_pure (wpAny_bind (L0.at (wpAny_bind (L3.at ?_)))))
  show wpAny _ _ (holding [Value.builtin "object.__class__"] (call (.builtin "getset_descriptor.__get__") [.builtin "object.__class__", .ref x, .ref D]) >>= ret) _ _ _
  refine wpAny_bind (wpAny_holding (wpAny_call (class_get (s := ⟨hp, g, d, t + 1, os⟩) (ox := ox) (od := od) X I hm ?_)))
  refine wpAny_pure ?_
  show wpAny _ _ (handedOut (.ref D)) _ _ _
  rw [handedOut_of (v := .ref D) rfl]
  first
    | exact wpAny_pure (wpAny_pure h)
    | exact wpAny_pure h
    | exact wpAny_pure (wpAny_bind (wpAny_pure (wpAny_pure h)))
theorem kitx_excD (hga : findIn K (.ref D) "__getattribute__" = some (some (.builtin "BaseException.__getattribute__"))) (hgt : findIn K (.ref D) "__getattr__" = some none) (hsub : subIn K (.ref D) (.type "BaseException") = some true) (hdct : hasDictIn K D = true) (ha : findIn K (.ref D) "__class__" = some (some (.builtin "object.__class__")))
    (hn : specialIn K (.builtin "object.__class__") "__get__" = some (some (.builtin "getset_descriptor.__get__"))) (htk : takesIn K (.builtin "object.__class__") = some true) (hm : mroIn K D (.type "object") = some true) :
    KitX K (.ref x) (.ref D) (fun h => InstAt h x ox D od) where
  ty := fun _ _ _ I => I.type
  it := fun _ _ X _ => by
    obtain ⟨cdD, hcD, _⟩ := any_some hdct
    unfold clsIn at hcD
    split at hcD
    · rename_i c' d' cd' sl' ho
      intro A' Q' E' s' k q
      unfold isType loadHead
      exact wpAny_bind (wpAny_loadPart (k _ _ (X _ _ ho)) (wpAny_pure q))
    · cases hcD
  ne := fun h tp dd its n sl X htp => by
    obtain ⟨cdD, hcD, _⟩ := any_some hdct
    refine Bool.eq_false_iff.mpr fun q => ?_
    have e : D = tp := Value.ref.inj (beq_iff_eq.mp q)
    subst e
    unfold clsIn at hcD
    split at hcD
    · rename_i c' d' cd' sl' ho
      have z := (X _ _ ho).symm.trans htp
      cases z
    · cases hcD
  ca := fun X I k => kin_classD hga hgt hsub hdct ha hn htk hm X I k
end
end PySem.W
namespace L3
open PySem PySem.Spec PyProof.Rows L2 NdefX LamX
/-! ### own errors as values -/
section
variable {T : Tb} {μ : List Addr} {H : Hp} {k : Nat} {a dx : Addr} {vfs : List (Str × V)}
theorem holdX_inst {X : Cx} {pins : List (Addr × Obj)} {σ : L2.St} {s : Shared} (I : Inv X pins σ H s) (h : HoldX T μ H k a dx vfs) : ∃ (ox od : Obj) (mA : Str → Option Value), PySem.W.InstAt s.heap a ox (T.cA k) (some od) ∧ (∀ f, PySem.W.lookIn f od = some (mA f)) ∧ ∀ f, RelO (vfs.lookup f) (mA f) := by
  obtain ⟨_, h1, _, h2⟩ := h
  obtain ⟨t1, ho⟩ := exo_at I.hok h1
  obtain ⟨mA, hns, hr⟩ := exd_at I.hok h2
  obtain ⟨od, hod, hl⟩ := lookIn_ns hns
  exact ⟨_, od, mA, ⟨ho, rfl, rfl, hod⟩, hl, hr⟩
end
def eExcV (k n m np : Nat) (ix : List Nat) (fl : List (Str × IniV)) (r rk : AM) : EM := fun ρ S => (r ρ S).bind fun xs S1 => (rk ρ S1).bind fun zs S2 => if xs.length = n ∧ zs.length = m then (match asD (perm ix (xs ++ zs)) with
  | some ds => if ds.length = np then .ok (.v (.exc k (iniD fl ds))) S2 else .stk
  | none => .stk) else .stk
theorem perm_self {α : Type} {x : α} {l : List α} {ix : List Nat} : perm (0 :: ix.map (· + 1)) (x :: l) = x :: perm ix l := by
  unfold perm
  rw [List.filterMap_cons]
  simp only [List.getElem?_cons_zero]
  congr 1
  rw [List.filterMap_map]
  rfl
section
variable {X : Cx} {T : Tb} {W : XK} {r rk : AM} {x : Str} {es : List Expr} {kws : List Keyword} {p pos : Pos} {k n i np : Nat} {ix : List Nat} {fl : List (Str × IniV)} {ps ks : List Str} {B nI iI : String} {tl : List Value} {kbl : List (Nat × List Str × List Nat)}
theorem me_excV (L : Lv X T W) (E : ExG X.prog X.K X.mg (T.cA k) B nI iI tl ps fl kbl) (hr : Room 2 X.A) (hg : Gl X x) (hm : X.mg x = some (.ref (T.cA k))) (i : Nat) (hq : kbl[i]? = some (n + 1, ks, 0 :: ix.map (· + 1))) (hnp : ps.length - 1 = np) (hn9 : n ≤ 900) (ha : MA X T W es r) (hkw : MK X T W kws rk) (hdb : (x == ("__debug__" : Str)) = false := by decide)
    (hks : (backToKw pos (keywordEach kws X.env)).filterMap (·.1) = ks := by rfl) (hst : ∀ e es', es = e :: es' → starEach (e :: es') X.env = (false, eval e X.env) :: starEach es' X.env := by intro _ _ h; cases h <;> rfl) (hpl : ((backTo pos (starEach es X.env)).any (·.1) || (backToKw pos (keywordEach kws X.env)).any (·.1.isNone)) = false := by rfl) (hall : (backToKw pos (keywordEach kws X.env)).all (·.1.isSome) = true := by rfl) (hr0 : es = [] → r = aNil := by intro h; first | rfl | cases h) :
    ME X T W (.Call (.Name x p) es kws pos) (eExcV k n ks.length np ix fl r rk) := ⟨fun pins s σ H Q I ⟨μ, ρ, S, he, hs, h⟩ => by
  obtain ⟨fI, fd, hi, ht, hkb, hF⟩ := E.ex
  have F := hF X.w X.base T.nn
  obtain ⟨_, _, _, _, bm, _, _, _, _, _, _, _, _, _, _, isC, isB⟩ := E.o.cls
  refine wpAny_Call_Name_kw (ld_glob I hg hm ?_ hdb)
  refine cw_kw I E.o.kC ha hkw he hs h (fun s2 H2 μ2 S2 vs us zs ws xs ys I2 hs2 rs2 rk2 rv rz ex h2 => ?_) hst hpl hall hr0
  split at h2
  · rename_i hl
    rw [hks]
    have l1 : us.length = n := by rw [← rv.length, rs2.length]; exact hl.1
    have l2 : ws.length = ks.length := by rw [← rz.length, rk2.length]; exact hl.2
    have rp := perm_reps (ix := ix) (reps_app rs2 rk2)
    cases qa : asD (perm ix (xs ++ ys)) with
    | none => rw [qa] at h2; exact h2.elim
    | some ds =>
      simp only [qa] at h2
      have rl := rp.data qa
      split at h2
      · rename_i hnd
        show wpAny _ _ (call (.ref (T.cA k)) us (ks.zip ws)) _ _ _
        obtain ⟨hp, gs, dr, tk, os⟩ := s2
        have le1 : hp.objs.size ≤ hp.objs.size + 1 := by omega
        have fresh := I2.hok.fresh le1
        have grown : ∀ b o, hp.get? b = some o → ((hp.push (PySem.W.kdv_tup us)).push (PySem.HandSPX.excO (T.cA k) hp.objs.size)).get? b = some o := fun b o e => Heap.get?_push_of_some _ (Heap.get?_push_of_some _ e)
        have here : ((hp.push (PySem.W.kdv_tup us)).push (PySem.HandSPX.excO (T.cA k) hp.objs.size)).get? (hp.objs.size + 1) = some (PySem.HandSPX.excO (T.cA k) hp.objs.size) := by heap_get
        have J : Inv X pins σ (upd H2 (hp.objs.size + 1) (exo (hp.objs.size + 1) (T.cA k) none)) ⟨(hp.push (PySem.W.kdv_tup us)).push (PySem.HandSPX.excO (T.cA k) hp.objs.size), gs, dr, tk, os⟩ :=
          I2.laid (t' := tk) (a := hp.objs.size + 1) (o := exo (hp.objs.size + 1) (T.cA k) none) (h' := (hp.push (PySem.W.kdv_tup us)).push (PySem.HandSPX.excO (T.cA k) hp.objs.size)) grown le1 (exo_ok here)
        have e1 : (Value.ref (hp.objs.size + 1) :: us).length = n + 1 := congrArg Nat.succ l1
        have hbd : KB fd ps (n + 1) ks (0 :: ix.map (· + 1)) := hkb _ (List.mem_of_getElem? hq)
        have bd := hbd (Value.ref (hp.objs.size + 1) :: us) ws e1 l2
        rw [List.cons_append, perm_self] at bd
        have vals : Vals (V.ref (hp.objs.size + 1) :: perm ix (vs ++ zs)) (Value.ref (hp.objs.size + 1) :: perm ix (us ++ ws)) := .cons rfl (perm_vals (rv.append rz))
        have want : spI (T.cA k) (ps.length - 1) fl (V.ref (hp.objs.size + 1) :: perm ix (vs ++ zs)) (upd H2 (hp.objs.size + 1) (exo (hp.objs.size + 1) (T.cA k) none)) (fun v H3 => v = .non ∧ Q (.ref (hp.objs.size + 1)) H3) (fun _ _ _ => False) := by
          refine ⟨_, _, rfl, by rw [rl.length, hnd, hnp], upd_same, fun dx hd ne => ⟨rfl, ?_⟩⟩
          rw [upd_ne ne] at hd
          rw [upd_comm (Ne.symm ne), upd_upd]
          have sm : Same H2 (upd (upd H2 dx (exd dx (iniL fl (perm ix (vs ++ zs))))) (hp.objs.size + 1) (exo (hp.objs.size + 1) (T.cA k) (some dx))) := fun b o e => by
            rw [upd_ne (fun z => by rw [z, fresh] at e; cases e), upd_ne (fun z => by rw [z, hd] at e; cases e)]
            exact e
          refine h2 μ2 _ _ (Ext.grow sm) (hs2.grow sm) ?_
          simp only [RepA, Rep]
          exact ⟨_, dx, _, rfl, ⟨hs2.free fresh, upd_same, hs2.free hd, by rw [upd_ne ne]; exact upd_same⟩, ini_rep (rl.mono (Ext.grow sm))⟩
        refine wpAny_call (PySem.HandSPX.call_ownK E.bf.F (fun Y => PySem.HandSPX.refsT_contains Y bm isB) (I2.kIn _ _ isC) (PySem.W.looks_findIn I2.kIn hi) (fun self => PySem.W.bind_fn I2.kIn self ht) (by rw [l1, sizeLine_eq]; omega) ?_)
        refine codeAny_mono (F.run _ X.stack _ _ ⟨Value.ref (hp.objs.size + 1) :: us, ks.zip ws⟩ (Value.ref (hp.objs.size + 1) :: perm ix (us ++ ws)) _ _ (fun _ _ _ => False) (hr.make (T.cA k) us (ks.zip ws)) (J.env0.make (T.cA k) us (ks.zip ws)) (.of_eq bd) vals want) fun r s' got => ?_
        cases r with
        | error er => exact passLB pins σ _ _ er s' J got
        | ok fw =>
          cases fw with
          | ret u =>
            obtain ⟨v, H', I3, rv3, ev, q3⟩ := J.after got
            subst ev
            exact ⟨rv3, ⟨V.ref (hp.objs.size + 1), H', I3, rfl, q3⟩⟩
          | next => exact got.elim
          | brk => exact got.elim
          | cont => exact got.elim
      · exact h2.elim
  · exact h2.elim⟩
/-! their fields -/
def eXcF (ks : List Nat) (f : Str) (ma : EM) : EM := fun ρ S => (ma ρ S).bind fun x S1 => match x with
  | .v (.exc k fs) => if ks.contains k = true then (match fs.lookup f with
    | some d => .ok (.v d) S1
    | none => .stk) else .stk
  | _ => .stk
theorem me_excF {e : Expr} {ma : EM} {f : Str} {ks : List Nat} (hK : X.K = T.K) (hX : ∀ k ∈ ks, XfC T.K (T.cA k) ∧ PySem.W.findIn T.K (.ref (T.cA k)) f = some none) (ha : ME X T W e ma) (hb : attributeBase e f X.env (eval e X.env) = eval e X.env := by rfl) :
    ME X T W (.Attribute e f pos) (eXcF ks f ma) := ⟨fun pins s σ H Q I ⟨μ, ρ, S, he, hs, h⟩ => by
  have q : rd T W ma σ H fun v H1 => ∃ μ1 S1 k fs d, StOk T μ1 H1 S1 ∧ k ∈ ks ∧ Rep T μ1 H1 (.exc k fs) v ∧ fs.lookup f = some d ∧ ∀ μ2 H2 w, Ext μ1 H1 μ2 H2 → StOk T μ2 H2 S1 → RepA T μ2 H2 (.v d) w → Q w H2 := by
    refine rd_step he hs h fun v H1 μ1 S1 a ex he1 hs1 ra h1 => ?_
    split at h1
    · rename_i k fs
      split at h1
      · rename_i hk
        split at h1
        · rename_i d hd
          exact ⟨μ1, S1, k, fs, d, hs1, by simpa using hk, ra, hd, h1⟩
        · exact h1.elim
      · exact h1.elim
    · exact h1.elim
  refine attr_of hb (thn (ha.run pins s σ H _ I q) fun u s1 ⟨v, H1, I1, ru, μ1, S1, k, fs, d, hs1, hk, r, hd, q1⟩ => ?_)
  simp only [Rep] at r
  obtain ⟨a, dx, vfs, rfl, hx, rf⟩ := r
  obtain rfl : u = Value.ref a := ru
  obtain ⟨ox, od, mA, J, hl, rel⟩ := holdX_inst I1 hx
  obtain ⟨w, l, rw'⟩ := (lookF_rep rf).1 _ hd
  obtain ⟨u, hu, ru'⟩ := RelO.some_of (v := w) (o := mA f) (by rw [← l]; exact rel f)
  obtain ⟨XC, hno⟩ := hX k hk
  refine HandSPX.exc_get (K := X.K) I1.kIn J (by rw [hK]; exact XC.ga) (by rw [hK]; exact XC.gg) (by rw [hK]; exact XC.exC) (PySem.W.findObj_own (by rw [hK]; exact XC.hdC) (by rw [hK]; exact hno) rfl (by rw [hl, hu])) (handed_of ru') ⟨w, H1, I1.tok _, ru', ?_⟩
  exact q1 μ1 H1 w Ext.refl hs1 rw'⟩
def gIsiX (it : Nat → Nat → Option Bool) : CallG := fun xs S => match xs with
  | [.v (.exc k _), .v (.cls c)] => (it k c).map blA
  | _ => none
theorem call_gIsiX (hK : X.K = T.K) {it : Nat → Nat → Option Bool} (C : IsX T it) : CallD X T (.builtin "isinstance") (gIsiX it) := by
  rintro pins s σ H vs us Q I rr ⟨μ, S, xs, z, hs, rs, hg, q⟩
  unfold gIsiX at hg
  split at hg
  · rename_i k fs c
    obtain ⟨b, hb, rfl⟩ := Option.map_eq_some_iff.mp hg
    obtain ⟨v, w, rfl, r1, r2⟩ := reps2 rs
    simp only [RepA, Rep] at r1 r2
    subst r2
    obtain ⟨a, dx, vfs, rfl, hx, rf⟩ := r1
    obtain ⟨u1, u2, rfl, g1, g2⟩ := vals2 rr
    obtain rfl : u1 = Value.ref a := g1
    obtain rfl : u2 = Value.ref (T.cA c) := g2
    obtain ⟨ox, od, mA, J, hl, rel⟩ := holdX_inst I hx
    obtain ⟨C1, C2⟩ := C k c b hb
    exact PySem.W.kia_one (PySem.W.kitx_excD (hK ▸ C1.hg) (hK ▸ C1.hk) (hK ▸ C1.hs) (hK ▸ C1.hd) (hK ▸ C1.ha) (hK ▸ C1.hn) (hK ▸ C1.ht) (hK ▸ C1.hm)) I.kIn J (hK ▸ C2) (fun z => nomatch z) fun tk => ⟨.bl b, H, I.kept (t' := tk) fun _ _ z => z, rfl, q μ H _ Ext.refl hs rep_blA⟩
  · cases hg
end
end L3

set_option Elab.async false
set_option linter.all false
set_option maxRecDepth 100000
set_option maxHeartbeats 2000000
namespace L3
open PySem PySem.Spec PyProof.Rows L2 NdefX LamX
/-! ### checks of the head's facts: own errors over any base -/
section
variable {K : PySem.W.Frag}
def oexGB (K : PySem.W.Frag) (C : Addr) (nI : String) (tl : List Value) : Bool := (match K.lookup C with
  | some ⟨.type "type", _, .cls cd, sl⟩ => (match cd.mro, sl.toList with
    | .ref C' :: bm, [_, _, _, _, some (.builtin n), _] => C' == C && (n == nI && (!cd.hasDel && (cd.hasDict && PySem.HandSPX.refsT tl bm)))
    | _, _ => false)
  | _ => false) && (oB (PySem.W.findIn K (.ref C) "__setattr__") (some (some (.builtin "object.__setattr__"))) && (decide (PySem.W.subIn K (.ref C) (.type "BaseException") = some true) && (decide (PySem.W.typeIn K (.ref C) = some (.type "type")) && PySem.W.keepIn K (.ref C))))
theorem oexGB_ok {C : Addr} {nI : String} {tl : List Value} (h : oexGB K C nI tl = true) : OexG K C nI tl := by
  obtain ⟨q, h⟩ := and2 h
  obtain ⟨h2, h⟩ := and2 h
  obtain ⟨h3, h⟩ := and2 h
  obtain ⟨h4, h5⟩ := and2 h
  refine ⟨?_, oB_ok h2, of_decide_eq_true h3, of_decide_eq_true h4, h5⟩
  split at q
  · rename_i dd cd sl ho
    split at q
    · rename_i C' bm k0 k1 k2 k3 n k5 hm hs
      simp only [Bool.and_eq_true, beq_iff_eq, Bool.not_eq_true'] at q
      obtain ⟨rfl, rfl, hdel, hdict, hr⟩ := q
      obtain ⟨nm, bs, mro, ns, qn, hd, sn, sub, ab, col, del⟩ := cd
      dsimp only at hm hdel hdict
      subst hm hdel hdict
      have hsl : sl = #[k0, k1, k2, k3, some (.builtin n), k5] := by
        obtain ⟨l⟩ := sl
        simp only at hs
        rw [hs]
      subst hsl
      exact ⟨nm, qn, ns, bs, bm, sn, sub, ab, col, dd, k0, k1, k2, k3, k5, ho, hr⟩
    · cases q
  · cases q
/-- the __init__ d of the own error at C over B, its fields fl -/
def iniGB (K : PySem.W.Frag) (d : DefA) (C : Addr) (main : Str) (B iI : String) (fl : List Str) : Bool := oB (PySem.W.findIn K (.ref C) "__init__") (some (some (.ref (d.at_ K)))) && (decide (PySem.W.typeIn K (.ref (d.at_ K)) = some (.type "function")) && (oB (PySem.W.ks_superIn K C C "__init__") (some (some (.builtin iI))) && (decide (PySem.W.subIn K (.ref C) (.type B) = some true) && (decide (PySem.W.mroIn K C (.ref C) = some true) && (oB (PySem.W.nsIn K cStatics "thirdparty.any") (some none) &&
  ((fl.all fun f => oB (PySem.W.findIn K (.ref C) f) (some none)) && (match K.lookup (d.at_ K) with
    | some ⟨_, _, .func fd, _⟩ => supB K C main fd.code fd.closure
    | _ => false)))))))
theorem extG_ok {P : Program} {mg : Str → Option Value} {d : DefA} {C : Addr} {main : Str} {B nI iI : String} {tl : List Value} {N ps : List Str} {fl : List (Str × IniV)} {rest : List Stmt} {kbl : List (Nat × List Str × List Nat)} {p0 p1 p2 pos spos : Pos} (BF : PySem.HandSPX.BaseF B nI iI tl) (h0 : oexGB K C nI tl = true) (h : iniGB K d C main B iI (fl.map (·.1)) = true) (e : fnO K (d.at_ K) = d.val) (c : d.ok K = true) (hclo : d.clo = [("__class__" : Str)]) (hmain : P.main.file = main)
    (hst : defBody d.st = .Expr (supEx p0 p1 p2 pos) spos :: rest) (S : IniS N ps (defScope d.st) (defArgs d.st) fl rest) (hm : mg "super" = none) (htop : (P.main.scope.names.lookup ("super" : Str)).isSome = false)
    (hb : ∀ (clo : List (Str × Addr)) (kV doc pm : Value) (an : Option Addr) (cdv ct : Value), ∀ q ∈ kbl, KB (PySem.W.fnX d.name d.qual (defArgs d.st) (defBody d.st) (defScope d.st) clo .none kV doc pm an cdv ct) ps q.1 q.2.1 q.2.2) (hev : SupEv p0 p1 p2 pos := by exact fun _ => ⟨_, by rfl⟩) : ExG P K mg C B nI iI tl ps fl kbl := by
  obtain ⟨kp, oc, od, osl, clo, kV, doc, pm, an, cdv, ct, g1, g2, g3⟩ := d.get e c
  obtain ⟨h1, h⟩ := and2 h
  obtain ⟨h2, h⟩ := and2 h
  obtain ⟨h3, h⟩ := and2 h
  obtain ⟨h4, h⟩ := and2 h
  obtain ⟨h5, h⟩ := and2 h
  obtain ⟨h6, h⟩ := and2 h
  obtain ⟨h7, h⟩ := and2 h
  rw [g3] at h
  obtain ⟨cc0, x, y, rfl, rfl, k1, k2⟩ := supB_ok (show supB K C main cdv clo = true from h)
  rw [hclo] at g1
  have ey : x = "__class__" := by simpa using g1
  subst ey
  refine ⟨BF, oexGB_ok h0, _, PySem.W.fnX d.name d.qual (defArgs d.st) (defBody d.st) (defScope d.st) [(("__class__" : Str), y)] .none kV doc pm an (.ref cc0) ct, oB_ok h1, of_decide_eq_true h2, fun q hq => hb _ kV doc pm an _ ct q hq, fun w base b => ?_⟩
  have U : SupG K B iI C y cc0 d.qual P.main.file := ⟨k1, oB_ok h3, of_decide_eq_true h4, of_decide_eq_true h5, oB_ok h6, g2, by rw [hmain]; exact k2⟩
  rw [hst] at g3 ⊢
  exact fn_superG BF (k := 0) g3 (oexGB_ok h0) U S (fun p hp => oB_ok (List.all_eq_true.mp h7 p.1 (List.mem_map_of_mem hp))) hm htop hev
/-! isinstance over error classes -/
def excCB (K : PySem.W.Frag) (D : Addr) : Bool := oB (PySem.W.findIn K (.ref D) "__getattribute__") (some (some (.builtin "BaseException.__getattribute__"))) && (oB (PySem.W.findIn K (.ref D) "__getattr__") (some none) && (decide (PySem.W.subIn K (.ref D) (.type "BaseException") = some true) && (PySem.W.hasDictIn K D && (oB (PySem.W.findIn K (.ref D) "__class__") (some (some (.builtin "object.__class__"))) && (oB (PySem.W.specialIn K (.builtin "object.__class__") "__get__") (some (some (.builtin "getset_descriptor.__get__"))) && (decide (PySem.W.takesIn K (.builtin "object.__class__") = some true) && decide (PySem.W.mroIn K D (.type "object") = some true)))))))
theorem excCB_ok {D : Addr} (h : excCB K D = true) : ExcC K D := by
  obtain ⟨h1, h⟩ := and2 h
  obtain ⟨h2, h⟩ := and2 h
  obtain ⟨h3, h⟩ := and2 h
  obtain ⟨h4, h⟩ := and2 h
  obtain ⟨h5, h⟩ := and2 h
  obtain ⟨h6, h⟩ := and2 h
  obtain ⟨h7, h8⟩ := and2 h
  exact ⟨oB_ok h1, oB_ok h2, of_decide_eq_true h3, h4, oB_ok h5, oB_ok h6, of_decide_eq_true h7, of_decide_eq_true h8⟩
def isxB (K : PySem.W.Frag) (cA : Nat → Addr) (l : List (Nat × Nat × Bool)) : Bool := l.all fun p => excCB K (cA p.1) && decide (PySem.W.kitOne K (.ref (cA p.1)) (.ref (cA p.2.1)) = some p.2.2)
theorem isxB_ok {cA : Nat → Addr} {l : List (Nat × Nat × Bool)} (h : isxB K cA l = true) : ∀ T : Tb, T.K = K → T.cA = cA → IsX T (isxT l) := by
  rintro T rfl rfl k c b hb
  unfold isxT at hb
  obtain ⟨p, hp, rfl⟩ := Option.map_eq_some_iff.mp hb
  have h1 := List.find?_some hp
  simp only [Bool.and_eq_true, beq_iff_eq] at h1
  obtain ⟨rfl, rfl⟩ := h1
  obtain ⟨g1, g2⟩ := and2 (List.all_eq_true.mp h p (List.mem_of_find?_eq_some hp))
  exact ⟨excCB_ok g1, of_decide_eq_true g2⟩
/-- the error classes whose fields are read -/
def xcfB (K : PySem.W.Frag) (cA : Nat → Addr) (ks : List Nat) (f : Str) : Bool := ks.all fun k => xfB K (cA k) && oB (PySem.W.findIn K (.ref (cA k)) f) (some none)
theorem xcfB_ok {cA : Nat → Addr} {ks : List Nat} {f : Str} (h : xcfB K cA ks f = true) : ∀ k ∈ ks, XfC K (cA k) ∧ PySem.W.findIn K (.ref (cA k)) f = some none := fun k hk => by
  obtain ⟨g1, g2⟩ := and2 (List.all_eq_true.mp h k hk)
  exact ⟨xfB_ok g1, oB_ok g2⟩
end
end L3

set_option Elab.async false
set_option linter.all false
set_option maxRecDepth 100000
set_option maxHeartbeats 2000000
namespace L3
open PySem PySem.Spec PyProof.Rows L2
/-! ### the head's run looked at piece by piece -/
/-- a part of the facts -/
def okP (n : Nat) (roots : List Addr) (ok : PySem.W.Frag → Bool) (g : Addr → Option Obj) : Bool := match PySem.W.tabIn (He.frG g (asU g roots n)) "law" with
  | some (_, P) => ok (cut (He.frG g (asU g roots n)) P)
  | none => false
theorem map3 {α β γ δ : Type} {E : Option α} {f : α → β} {g : α → γ} {h : α → δ} {b : β} {c : γ} {d : δ} (e1 : E.map f = some b) (e2 : E.map g = some c) (e3 : E.map h = some d) : E.map (fun s => (f s, g s, h s)) = some (b, c, d) := by
  cases E with
  | none => cases e1
  | some s =>
    simp only [Option.map_some, Option.some.injEq] at e1 e2 e3 ⊢
    rw [e1, e2, e3]
theorem map_and {α β : Type} {E : Option α} {f g : α → β} {p : α → Bool} {b : β} (h : ∀ s, f s = b → p s = true → g s = b) (e1 : E.map f = some b) (e2 : E.map p = some true) : E.map g = some b := by
  cases E with
  | none => cases e1
  | some s =>
    simp only [Option.map_some, Option.some.injEq] at e1 e2 ⊢
    exact h s e1 e2
theorem obs_and {n : Nat} {roots : List Addr} {ok ok' : PySem.W.Frag → Bool} {fn : List DefA} {dc : List DkN} {g : Addr → Option Obj} {v : AlW} (h1 : obsWG n roots ok fn dc g = v) (h2 : okP n roots ok' g = true) : obsWG n roots (fun K => ok K && ok' K) fn dc g = v := by
  rw [← h1]
  unfold okP at h2
  unfold obsWG obsW obsU
  generalize He.frG g (asU g roots n) = K0 at h2 ⊢
  split at h2
  · rename_i c P e
    simp only [e, h2, Bool.and_true]
  · cases h2
theorem all_split {α : Type} (c : Nat) (l : List α) (p : α → Bool) : l.all p = ((l.take c).all p && (l.drop c).all p) := by rw [← List.all_append, List.take_append_drop]
end L3

set_option Elab.async false
set_option linter.all false
set_option maxRecDepth 100000
set_option maxHeartbeats 2000000
namespace L3
open PySem PySem.Spec PyProof.Rows L2 LamX
/-! ### to reckon with the plain functions -/
section
variable {ρ : Env} {S S1 S2 : Store} {x y : A} {i : Nat} {d : D} {ma mb mc : EM} {t u : TM} {m n : SM} {r : AM}
@[simp] theorem eC_e : eC d ρ S = .ok (.v d) S := rfl
@[simp] theorem eV_0 : eV 0 (some x :: ρ) S = .ok x S := rfl
@[simp] theorem eV_s {o : Option A} : eV (i + 1) (o :: ρ) S = eV i ρ S := rfl
@[simp] theorem eOp_e {g : OpG} : eOp g ma mb ρ S = (ma ρ S).bind fun x S1 => (mb ρ S1).bind fun y S2 => .ofO (g x y S2) S2 := rfl
@[simp] theorem eOpM_e {g : OpM} : eOpM g ma mb ρ S = (ma ρ S).bind fun x S1 => (mb ρ S1).bind fun y S2 => g x y S2 := rfl
@[simp] theorem eUn_e {g : A → Store → Option A} : eUn g ma ρ S = (ma ρ S).bind fun x S1 => .ofO (g x S1) S1 := rfl
@[simp] theorem aNil_e : aNil ρ S = .ok [] S := rfl
@[simp] theorem aCons_e {q : EM} : aCons q r ρ S = (q ρ S).bind fun x S1 => (r ρ S1).bind fun xs S2 => .ok (x :: xs) S2 := rfl
@[simp] theorem asD_nil : asD [] = some [] := rfl
@[simp] theorem asD_cons {l : List A} : asD (.v d :: l) = (asD l).map (d :: ·) := rfl
def tupR (o : Option (List D)) (f : List D → D) (S : Store) : R A := match o with
  | some ds => if ds.length ≤ 1000 then .ok (.v (f ds)) S else .stk
  | none => .stk
@[simp] theorem eTup_e : eTup r ρ S = (r ρ S).bind fun xs S1 => tupR (asD xs) .tup S1 := rfl
@[simp] theorem eLst_e : eLst r ρ S = (r ρ S).bind fun xs S1 => tupR (asD xs) .lst S1 := rfl
@[simp] theorem tupR_e {ds : List D} {f : List D → D} : tupR (some ds) f S = if ds.length ≤ 1000 then .ok (.v (f ds)) S else .stk := rfl
@[simp] theorem eCall_e {fM : FM} : eCall fM r ρ S = (r ρ S).bind fun xs S1 => fM xs S1 := rfl
@[simp] theorem eCallB_e {g : CallG} : eCallB g r ρ S = (r ρ S).bind fun xs S1 => .ofO (g xs S1) S1 := rfl
@[simp] theorem eCallM_e {g : CallM} : eCallM g r ρ S = (r ρ S).bind fun xs S1 => g xs S1 := rfl
@[simp] theorem eCallK_e {a b : Nat} {ix : List Nat} {fM : FM} {rk : AM} : eCallK a b ix fM r rk ρ S = (r ρ S).bind fun xs S1 => (rk ρ S1).bind fun zs S2 => if xs.length = a ∧ zs.length = b then fM (perm ix (xs ++ zs)) S2 else .stk := rfl
@[simp] theorem tE_e : tE ma ρ S = (ma ρ S).bind fun x S1 => .ofO (truD x S1) S1 := rfl
@[simp] theorem tNotM_e : tNotM t ρ S = (t ρ S).bind fun k S1 => .ok (!k) S1 := rfl
@[simp] theorem tAndM_e : tAndM t u ρ S = (t ρ S).bind fun k S1 => if k = true then u ρ S1 else .ok false S1 := rfl
@[simp] theorem tOrM_e : tOrM t u ρ S = (t ρ S).bind fun k S1 => if k = true then .ok true S1 else u ρ S1 := rfl
@[simp] theorem tYesM_e : tYesM ρ S = .ok true S := rfl
@[simp] theorem eIf_e : eIf t ma mb ρ S = (t ρ S).bind fun k S1 => if k = true then ma ρ S1 else mb ρ S1 := rfl
def andR (o : Option Bool) (x : A) (k : R A) (S : Store) : R A := match o with
  | some true => k
  | some false => .ok x S
  | none => .stk
def orR (o : Option Bool) (x : A) (k : R A) (S : Store) : R A := match o with
  | some true => .ok x S
  | some false => k
  | none => .stk
@[simp] theorem andR_t {k : R A} : andR (some true) x k S = k := rfl
@[simp] theorem andR_f {k : R A} : andR (some false) x k S = .ok x S := rfl
@[simp] theorem orR_t {k : R A} : orR (some true) x k S = .ok x S := rfl
@[simp] theorem orR_f {k : R A} : orR (some false) x k S = k := rfl
@[simp] theorem eAnd_e : eAnd ma mb ρ S = (ma ρ S).bind fun x S1 => andR (truD x S1) x (mb ρ S1) S1 := by
  unfold eAnd andR; rfl
@[simp] theorem eOr_e : eOr ma mb ρ S = (ma ρ S).bind fun x S1 => orR (truD x S1) x (mb ρ S1) S1 := by
  unfold eOr orR; rfl
end

/-! statements -/
section
variable {ρ ρ1 : Env} {S S1 S2 : Store} {x y : A} {i j : Nat} {d : D} {ma mb mc mo mv mi : EM} {t u : TM} {m n : SM} {r : AM} {e : Er}
def SR.sq (r : SR) (n : SM) : SR := match r with
  | .nx ρ' S' => n ρ' S'
  | .rt a S' => .rt a S'
  | .bk ρ' S' => .bk ρ' S'
  | .ct ρ' S' => .ct ρ' S'
  | .er e S' => .er e S'
  | .stk => .stk
@[simp] theorem sq_nx : SR.sq (.nx ρ S) n = n ρ S := rfl
@[simp] theorem sq_rt : SR.sq (.rt x S) n = .rt x S := rfl
@[simp] theorem sq_bk : SR.sq (.bk ρ S) n = .bk ρ S := rfl
@[simp] theorem sq_ct : SR.sq (.ct ρ S) n = .ct ρ S := rfl
@[simp] theorem sq_er : SR.sq (.er e S) n = .er e S := rfl
@[simp] theorem sSeq_e : sSeq m n ρ S = SR.sq (m ρ S) n := rfl
@[simp] theorem sNil_e : sNil ρ S = .nx ρ S := rfl
@[simp] theorem sPass_e : sPass ρ S = .nx ρ S := rfl
@[simp] theorem sBk_e : sBk ρ S = .bk ρ S := rfl
@[simp] theorem sCt_e : sCt ρ S = .ct ρ S := rfl
@[simp] theorem sExpr_e : sExpr ma ρ S = SR.of (ma ρ S) fun _ S1 => .nx ρ S1 := rfl
@[simp] theorem sRet_e : sRet ma ρ S = SR.of (ma ρ S) fun x S1 => .rt x S1 := rfl
@[simp] theorem sRetN_e : sRetN ρ S = .rt (.v .non) S := rfl
@[simp] theorem sIf_e : sIf t m n ρ S = SR.ofT (t ρ S) fun b S1 => if b = true then m ρ S1 else n ρ S1 := rfl
@[simp] theorem sSet_e : sSet i ma ρ S = SR.of (ma ρ S) fun x S1 => .nx (ρ.set i (some x)) S1 := rfl
@[simp] theorem toR_nx : (SR.nx ρ S).toR = .ok (.v .non) S := rfl
@[simp] theorem toR_rt : (SR.rt x S).toR = .ok x S := rfl
@[simp] theorem toR_er : (SR.er e S).toR = .err e S := rfl
@[simp] theorem bodyM_e {a l : Nat} {xs : List A} : bodyM a l m xs S = if xs.length = a then (m (xs.map some ++ List.replicate (l - a) none) S).toR else .stk := rfl
@[simp] theorem rep_s {α : Type} {a : α} : List.replicate (i + 1) a = a :: List.replicate i a := rfl
def putR (o : Option Env) (S : Store) : SR := match o with
  | some ρ => .nx ρ S
  | none => .stk
@[simp] theorem putR_e : putR (some ρ) S = .nx ρ S := rfl
@[simp] theorem sAsg_e {g : Tg} : sAsg g ma ρ S = SR.of (ma ρ S) fun x S1 => putR (g.put x ρ) S1 := rfl
@[simp] theorem put_nm : (Tg.nm i).put x ρ = some (ρ.set i (some x)) := by simp only [Tg.put]
@[simp] theorem put_tp {ts : List Tg} {ds : List D} : (Tg.tp ts).put (.v (.tup ds)) ρ = Tg.puts ts ds ρ := by simp only [Tg.put]
@[simp] theorem put_tl {ts : List Tg} {ds : List D} : (Tg.tp ts).put (.v (.lst ds)) ρ = Tg.puts ts ds ρ := by simp only [Tg.put]
@[simp] theorem puts_nil : Tg.puts [] [] ρ = some ρ := by simp only [Tg.puts]
def putN (o : Option Env) (ts : List Tg) (ds : List D) : Option Env := match o with
  | some ρ1 => Tg.puts ts ds ρ1
  | none => none
@[simp] theorem putN_e {ts : List Tg} {ds : List D} : putN (some ρ) ts ds = Tg.puts ts ds ρ := rfl
@[simp] theorem puts_cons {g : Tg} {ts : List Tg} {ds : List D} : Tg.puts (g :: ts) (d :: ds) ρ = putN (g.put (.v d) ρ) ts ds := by
  rw [Tg.puts]; unfold putN; rfl
def parR (i j : Nat) (ρ : Env) : R (List A) → SR
  | .ok [x, y] S1 => .nx ((ρ.set i (some x)).set j (some y)) S1
  | .err e S1 => .er e S1
  | _ => .stk
@[simp] theorem parR_e : parR i j ρ (.ok [x, y] S) = .nx ((ρ.set i (some x)).set j (some y)) S := rfl
@[simp] theorem sPar_e : sPar i j r ρ S = parR i j ρ (r ρ S) := by
  unfold sPar parR; rfl
def raiR (k n : Nat) (fl : List (Str × IniV)) (o : Option (List D)) (S : Store) : SR := match o with
  | some ds => if ds.length = n ∧ n ≤ 900 then .er ⟨k, iniD fl ds⟩ S else .stk
  | none => .stk
@[simp] theorem raiR_e {k q : Nat} {fl : List (Str × IniV)} {ds : List D} : raiR k q fl (some ds) S = if ds.length = q ∧ q ≤ 900 then .er ⟨k, iniD fl ds⟩ S else .stk := rfl
def SR.ofA (r : R (List A)) (k : List A → Store → SR) : SR := match r with
  | .ok a S => k a S
  | .err e S => .er e S
  | .stk => .stk
@[simp] theorem ofA_ok {xs : List A} {k : List A → Store → SR} : SR.ofA (.ok xs S) k = k xs S := rfl
@[simp] theorem sRaise_e {k q : Nat} {fl : List (Str × IniV)} : sRaise k q fl r ρ S = SR.ofA (r ρ S) fun xs S1 => raiR k q fl (asD xs) S1 := by
  unfold sRaise SR.ofA raiR
  cases r ρ S <;> rfl
def fldR (ks : List Nat) (f : Str) (d : D) (n : Nat) (ρ : Env) (S : Store) (o : Option MO) : SR := match o with
  | some (.ins k fs) => if k ∈ ks ∧ fs.length < 100 then .nx ρ (S.set n (.ins k (putD f d fs))) else .stk
  | _ => .stk
@[simp] theorem fldR_e {ks : List Nat} {f : Str} {k q : Nat} {fs : List (Str × D)} : fldR ks f d q ρ S (some (.ins k fs)) = if k ∈ ks ∧ fs.length < 100 then .nx ρ (S.set q (.ins k (putD f d fs))) else .stk := rfl
def fldRR (ks : List Nat) (f : Str) (ρ : Env) (S : Store) : A → A → SR
  | .v d, .m n => fldR ks f d n ρ S S[n]?
  | _, _ => .stk
@[simp] theorem fldRR_e {ks : List Nat} {f : Str} {q : Nat} : fldRR ks f ρ S (.v d) (.m q) = fldR ks f d q ρ S S[q]? := rfl
@[simp] theorem sFldM_e {ks : List Nat} {f : Str} : sFldM ks f mo mv ρ S = SR.of (mv ρ S) fun x S1 => SR.of (mo ρ S1) fun o S2 => fldRR ks f ρ S2 x o := rfl
def sixR (ρ : Env) (S : Store) (d : D) (n : Nat) (k : Int) (o : Option MO) : SR := match o with
  | some (.lst ds) => match ixN ds.length k with
      | some j => .nx ρ (S.set n (.lst (ds.set j d)))
      | none => .stk
  | _ => .stk
def sixRR (ρ : Env) (S : Store) : A → A → A → SR
  | .v d, .m n, .v (.int k) => sixR ρ S d n k S[n]?
  | _, _, _ => .stk
@[simp] theorem sixRR_e {q : Nat} {k : Int} : sixRR ρ S (.v d) (.m q) (.v (.int k)) = sixR ρ S d q k S[q]? := rfl
theorem sixR_e {q : Nat} {k : Int} {ds : List D} (hj : ixN ds.length k = some j) : sixR ρ S d q k (some (.lst ds)) = .nx ρ (S.set q (.lst (ds.set j d))) := by
  unfold sixR; simp only [hj]
@[simp] theorem sIx_e : sIx mo mi mv ρ S = SR.of (mv ρ S) fun x S1 => SR.of (mo ρ S1) fun o S2 => SR.of (mi ρ S2) fun i S3 => sixRR ρ S3 x o i := rfl
end

/-! texts as lists of codes -/
def sL (l : List Nat) : Str := ⟨l.toArray⟩
@[simp] theorem sL_len {l : List Nat} : (sL l).length = l.length := by simp [sL, Str.length]
@[simp] theorem sL_size {l : List Nat} : (sL l).cps.size = l.length := by simp [sL]
@[simp] theorem sL_cps {l : List Nat} : (sL l).cps.toList = l := by simp [sL]
theorem sL_of (x : Str) : x = sL x.cps.toList := by cases x; simp [sL]
@[simp] theorem sL_app {a b : List Nat} : sL a ++ sL b = sL (a ++ b) := by
  show Str.append (sL a) (sL b) = _
  simp [sL, Str.append]
theorem sL_inj {a b : List Nat} : sL a = sL b ↔ a = b := by simp [sL]
@[simp] theorem sL_eq {a b : List Nat} : (sL a = sL b) = (a = b) := propext sL_inj
@[simp] theorem sL_beq {a b : List Nat} : (sL a == sL b) = (a == b) := by
  rw [Bool.eq_iff_iff]; simp
@[simp] theorem mk1_sL {c : Nat} : (⟨#[c]⟩ : Str) = sL [c] := rfl
@[simp] theorem chr1_sL {c : Nat} : chr1 c = sL [c] := rfl
@[simp] theorem empty_sL : Str.empty = sL [] := rfl
@[simp] theorem signsD_sL {l : List Nat} : signsD (sL l) = l.map fun c => D.str (sL [c]) := by simp [signsD]
@[simp] theorem isSign_1 {c : Nat} : isSign (sL [c]) = some c := rfl
theorem foldl_cps : ∀ (n : Nat) (l acc : List Nat), ((List.replicate n l.toArray).foldl (· ++ ·) acc.toArray) = (acc ++ (List.replicate n l).flatten).toArray
  | 0, l, acc => by simp
  | n + 1, l, acc => by
    rw [List.replicate_succ, List.foldl_cons]
    rw [show acc.toArray ++ l.toArray = (acc ++ l).toArray by simp, foldl_cps n l (acc ++ l)]
    simp [List.replicate_succ]
@[simp] theorem mul_sL {l : List Nat} {n : Int} : Txt.mul (sL l) n = sL (List.replicate n.toNat l).flatten := by
  unfold Txt.mul
  by_cases h : n < 1
  · rw [if_pos h]
    have : n.toNat = 0 := by omega
    simp [this]
  · rw [if_neg h]
    split
    · rename_i h2
      have h3 : n = 1 ∨ l = [] := by simpa using h2
      rcases h3 with rfl | rfl
      · simp
      · simp
    · have := foldl_cps n.toNat l []
      simp only [List.nil_append] at this
      show (⟨(List.replicate n.toNat (sL l).cps).foldl (· ++ ·) #[]⟩ : Str) = _
      have e : (sL l).cps = l.toArray := rfl
      rw [e]
      rw [show (#[] : Array Nat) = ([] : List Nat).toArray from rfl, this]
      rfl
def joinN (s : List Nat) : List (List Nat) → List Nat
  | [] => []
  | [x] => x
  | x :: y :: r => x ++ s ++ joinN s (y :: r)
@[simp] theorem joinN_nil : ∀ ys : List (List Nat), joinN [] ys = ys.flatten
  | [] => rfl
  | [x] => by simp [joinN]
  | x :: y :: r => by
    have h := joinN_nil (y :: r)
    simp only [joinN, h]
    simp
/-! operators by kinds -/
section
variable {ρ : Env} {S S1 : Store} {i j : Int} {a b l : List Nat} {d e : D} {x y : A} {ma mb : EM} {r : AM} {xs ys ds : List D} {k : Bool} {n q : Nat}
@[simp] theorem strMax_e : strMax = 1000000 := rfl
@[simp] theorem gAdd_i : gAdd (.v (.int i)) (.v (.int j)) S = some (.v (.int (i + j))) := rfl
@[simp] theorem gSub_i : gSub (.v (.int i)) (.v (.int j)) S = some (.v (.int (i - j))) := rfl
theorem gMul_i (h : (-(2 ^ 64) < i ∧ i < 2 ^ 64) ∨ (-(2 ^ 64) < j ∧ j < 2 ^ 64)) : gMul (.v (.int i)) (.v (.int j)) S = some (.v (.int (i * j))) := if_pos h
theorem gMod_i (h : 0 < j) : gMod (.v (.int i)) (.v (.int j)) S = some (.v (.int (i % j))) := if_pos h
theorem gFdiv_i (h : 0 < j ∧ j < 1073741824) : gFdiv (.v (.int i)) (.v (.int j)) S = some (.v (.int (i / j))) := if_pos h
theorem gPow_i (h : 0 ≤ j ∧ j ≤ 1000 ∧ -18446744073709551616 < i ∧ i < 18446744073709551616) : gPow (.v (.int i)) (.v (.int j)) S = some (.v (.int (i ^ j.toNat))) := if_pos h
@[simp] theorem gNeg_i : gNeg (.v (.int i)) S = some (.v (.int (-i))) := rfl
@[simp] theorem gLt_i : gLt (.v (.int i)) (.v (.int j)) S = some (.v (.bl (decide (i < j)))) := rfl
@[simp] theorem gLt_s : gLt (.v (.str (sL a))) (.v (.str (sL b))) S = some (.v (.bl (decide (a < b)))) := by
  unfold gLt; simp only [sL_cps]; rfl
@[simp] theorem gLe_i : gLe (.v (.int i)) (.v (.int j)) S = some (.v (.bl (decide (i ≤ j)))) := rfl
@[simp] theorem gGt_i : gGt (.v (.int i)) (.v (.int j)) S = some (.v (.bl (decide (j < i)))) := rfl
@[simp] theorem gGe_i : gGe (.v (.int i)) (.v (.int j)) S = some (.v (.bl (decide (j ≤ i)))) := rfl
@[simp] theorem gEqA_i : gEqA (.v (.int i)) (.v (.int j)) S = some (.v (.bl (decide (i = j)))) := rfl
@[simp] theorem gEqA_s : gEqA (.v (.str (sL a))) (.v (.str (sL b))) S = some (.v (.bl (decide (a = b)))) := by
  show some (blA (decide (sL a = sL b))) = _
  simp only [sL_eq]; rfl
@[simp] theorem gEqA_b {m : Bool} : gEqA (.v (.bl k)) (.v (.bl m)) S = some (.v (.bl (decide (k = m)))) := rfl
@[simp] theorem gEqA_nn : gEqA (.v .non) (.v .non) S = some (.v (.bl true)) := rfl
@[simp] theorem gEqA_ns {z : Str} : gEqA (.v .non) (.v (.str z)) S = some (.v (.bl false)) := rfl
@[simp] theorem gEqA_sn {z : Str} : gEqA (.v (.str z)) (.v .non) S = some (.v (.bl false)) := rfl
@[simp] theorem gEqA_is {z : Str} : gEqA (.v (.int i)) (.v (.str z)) S = some (.v (.bl false)) := rfl
@[simp] theorem gEqA_si {z : Str} : gEqA (.v (.str z)) (.v (.int i)) S = some (.v (.bl false)) := rfl
@[simp] theorem gNeA_i : gNeA (.v (.int i)) (.v (.int j)) S = some (.v (.bl (!decide (i = j)))) := rfl
@[simp] theorem gNeA_s : gNeA (.v (.str (sL a))) (.v (.str (sL b))) S = some (.v (.bl (!decide (a = b)))) := by
  show some (blA (!decide (sL a = sL b))) = _
  simp only [sL_eq]; rfl
@[simp] theorem gIs_e : gIs x (.v .non) S = some (.v (.bl (isNon x))) := rfl
@[simp] theorem gIsNot_e : gIsNot x (.v .non) S = some (.v (.bl (!isNon x))) := rfl
@[simp] theorem gIn_s {c : Nat} : gIn (.v (.str (sL [c]))) (.v (.str (sL l))) S = some (.v (.bl (decide (c ∈ l)))) := by
  show (match isSign (sL [c]) with
    | some c => some (blA (if false = true then !decide (c ∈ (sL l).cps.toList) else decide (c ∈ (sL l).cps.toList)))
    | none => none) = _
  simp [blA]
@[simp] theorem gNotIn_s {c : Nat} : gNotIn (.v (.str (sL [c]))) (.v (.str (sL l))) S = some (.v (.bl (!decide (c ∈ l)))) := by
  show (match isSign (sL [c]) with
    | some c => some (blA (if true = true then !decide (c ∈ (sL l).cps.toList) else decide (c ∈ (sL l).cps.toList)))
    | none => none) = _
  simp [blA]
@[simp] theorem truD_n : truD (.v .non) S = some false := rfl
@[simp] theorem truD_b : truD (.v (.bl k)) S = some k := rfl
@[simp] theorem truD_i : truD (.v (.int i)) S = some (i != 0) := rfl
@[simp] theorem truD_l : truD (.v (.lst xs)) S = some (!xs.isEmpty) := rfl
@[simp] theorem truD_t : truD (.v (.tup xs)) S = some (!xs.isEmpty) := rfl
@[simp] theorem gLen_l : gLen [.v (.lst xs)] S = some (.v (.int xs.length)) := rfl
@[simp] theorem gLen_t : gLen [.v (.tup xs)] S = some (.v (.int xs.length)) := rfl
@[simp] theorem gLen_z : gLen [.v (.fz xs)] S = some (.v (.int xs.length)) := rfl
@[simp] theorem gAll_e : gAll [.v (.lst xs)] S = (asBl xs).map fun bs => .v (.bl (bs.all id)) := rfl
@[simp] theorem gAny_e : gAny [.v (.lst xs)] S = (asBl xs).map fun bs => .v (.bl (bs.any id)) := rfl
@[simp] theorem asBl_map {α : Type} {f : α → Bool} : ∀ {l : List α}, asBl (l.map fun z => D.bl (f z)) = some (l.map f)
  | [] => rfl
  | z :: l => by simp only [List.map_cons, asBl, asBl_map]; rfl
@[simp] theorem gInt_i : gInt [.v (.int i)] S = some (.v (.int i)) := rfl
@[simp] theorem gInt_b : gInt [.v (.bl k)] S = some (.v (.int (if k then 1 else 0))) := rfl
@[simp] theorem gListF_l : gListF [.v (.lst xs)] S = some (.v (.lst xs)) := rfl
@[simp] theorem gListF_z : gListF [.v (.fz xs)] S = some (.v (.lst xs)) := rfl
@[simp] theorem gListF_t : gListF [.v (.tup xs)] S = some (.v (.lst xs)) := rfl
@[simp] theorem gIx_l : gIx (.v (.lst xs)) (.v (.int i)) S = (atI xs i).map A.v := rfl
@[simp] theorem gIx_t : gIx (.v (.tup xs)) (.v (.int i)) S = (atI xs i).map A.v := rfl
@[simp] theorem gIx_z : gIx (.v (.fz xs)) (.v (.int i)) S = (atI xs i).map A.v := rfl
theorem gIx_m : gIx (.m n) (.v (.int i)) S = (seqOf (.m n) S).bind fun ds => (atI ds i).map A.v := rfl
theorem seqOf_m (h : S[n]? = some (.lst ds)) : seqOf (.m n) S = some ds := by
  unfold seqOf; simp only [h]
theorem gIx_at (h : S[n]? = some (.lst ds)) : gIx (.m n) (.v (.int i)) S = (atI ds i).map A.v := by
  rw [gIx_m, seqOf_m h]; rfl
theorem atI_nat {α : Type} {zs : List α} {z : α} (h : zs[n]? = some z) : atI zs (n : Int) = some z := by
  have hl := (List.getElem?_eq_some_iff.mp h).1
  unfold atI ixN
  rw [if_pos (by omega), if_pos (by omega)]
  simpa using h
@[simp] theorem atI_zero {α : Type} {z : α} {zs : List α} : atI (z :: zs) 0 = some z := atI_nat (n := 0) rfl
theorem atI_in {α : Type} {zs : List α} (h0 : 0 ≤ i) (h1 : i < zs.length) : ∃ z, atI zs i = some z ∧ zs[i.toNat]? = some z := by
  have hl : i.toNat < zs.length := by omega
  refine ⟨zs[i.toNat], ?_, by simp [hl]⟩
  have := atI_nat (zs := zs) (n := i.toNat) (z := zs[i.toNat]) (by simp [hl])
  rwa [show ((i.toNat : Nat) : Int) = i by omega] at this
@[simp] theorem iStr_e : iStr ma ρ S = (ma ρ S).bind fun x S1 => match x with
  | .v (.str z) => .ok (signsD z) S1
  | _ => .stk := rfl
@[simp] theorem iSeq_e : iSeq ma ρ S = (ma ρ S).bind fun x S1 => match x with
  | .v (.lst ds) => .ok ds S1
  | .v (.fz ds) => .ok ds S1
  | _ => .stk := rfl
@[simp] theorem iTupM_e : iTupM ma ρ S = (ma ρ S).bind fun x S1 => match x with
  | .v (.tup ds) => .ok ds S1
  | _ => .stk := rfl
def rng1 : List A → Store → R (List D) := fun xs S1 => match xs with
  | [.v (.int j)] => if j < 4611686018427387904 ∧ -4611686018427387904 ≤ j then .ok (rngD 0 j.toNat) S1 else .stk
  | _ => .stk
theorem rng1_e (h : j < 4611686018427387904 ∧ -4611686018427387904 ≤ j) : rng1 [.v (.int j)] S = .ok (rngD 0 j.toNat) S := if_pos h
theorem iRng1_e : iRng1M r ρ S = (r ρ S).bind rng1 := by unfold iRng1M rng1; rfl
def rng2 : List A → Store → R (List D) := fun xs S1 => match xs with
  | [.v (.int i), .v (.int j)] => if j < 4611686018427387904 ∧ -4611686018427387904 ≤ j ∧ i < 4611686018427387904 ∧ -4611686018427387904 ≤ i then .ok (rngD i (j - i).toNat) S1 else .stk
  | _ => .stk
@[simp] theorem oNone_e : oNone ρ S = .ok none S := rfl
@[simp] theorem oSome_e : oSome ma ρ S = (ma ρ S).bind fun x S1 => match x with
  | .v (.int i) => .ok (some i) S1
  | _ => .stk := rfl
@[simp] theorem eSl_e {lo hi : OM} : eSl ma lo hi ρ S = (ma ρ S).bind fun x S1 => (lo ρ S1).bind fun l S2 => (hi ρ S2).bind fun h S3 => .ofO (gSl x l h S3) S3 := rfl
end

/-! loops -/
def SR.sat (N : Env → Store → Prop) (T : A → Store → Prop) (B C : Env → Store → Prop) (E : Er → Store → Prop) : SR → Prop
  | .nx ρ S => N ρ S
  | .rt a S => T a S
  | .bk ρ S => B ρ S
  | .ct ρ S => C ρ S
  | .er e S => E e S
  | .stk => False
abbrev noE : Env → Store → Prop := fun _ _ => False
abbrev noX : Er → Store → Prop := fun _ _ => False
section
variable {N B C N' B' C' : Env → Store → Prop} {T T' : A → Store → Prop} {E E' : Er → Store → Prop} {ρ ρ1 : Env} {S S1 : Store} {m n : SM} {g : Tg} {t : TM} {ma : EM} {mi : IM} {ds : List D} {i : Nat} {x : A}
theorem SR.sat.imp {r : SR} (h : r.sat N T B C E) (hN : ∀ ρ S, N ρ S → N' ρ S) (hT : ∀ a S, T a S → T' a S) (hB : ∀ ρ S, B ρ S → B' ρ S) (hC : ∀ ρ S, C ρ S → C' ρ S) (hE : ∀ e S, E e S → E' e S) : r.sat N' T' B' C' E' := by
  cases r with
  | nx ρ S => exact hN _ _ h
  | rt ρ S => exact hT _ _ h
  | bk ρ S => exact hB _ _ h
  | ct ρ S => exact hC _ _ h
  | er ρ S => exact hE _ _ h
  | stk => exact h
theorem sat_seq (h : (m ρ S).sat (fun ρ' S' => (n ρ' S').sat N T B C E) T B C E) : (sSeq m n ρ S).sat N T B C E := by
  rw [sSeq_e]
  cases q : m ρ S <;> rw [q] at h <;> exact h
theorem sat_set (h : ma ρ S = .ok x S1) (k : N (ρ.set i (some x)) S1) : (sSet i ma ρ S).sat N T B C E := by
  rw [sSet_e, h]; exact k
theorem sat_asg (h : ma ρ S = .ok x S1) (hp : g.put x ρ = some ρ1) (k : N ρ1 S1) : (sAsg g ma ρ S).sat N T B C E := by
  rw [sAsg_e, h]
  simp only [SR.of_ok, hp, putR_e]; exact k
theorem sat_par {i j : Nat} {r : AM} {y : A} (h : r ρ S = .ok [x, y] S1) (k : N ((ρ.set i (some x)).set j (some y)) S1) : (sPar i j r ρ S).sat N T B C E := by
  rw [sPar_e, h]; exact k
theorem sat_if {b : Bool} (h : t ρ S = .ok b S1) (k : (if b = true then m ρ S1 else n ρ S1).sat N T B C E) : (sIf t m n ρ S).sat N T B C E := by
  rw [sIf_e, h]; exact k
theorem sat_ret (h : ma ρ S = .ok x S1) (k : T x S1) : (sRet ma ρ S).sat N T B C E := by
  rw [sRet_e, h]; exact k
/-- a for by what holds after the items done -/
theorem forL_sat {I : List D → Env → Store → Prop} (step : ∀ (don : List D) d rest ρ S, ds = don ++ d :: rest → I don ρ S → ∃ ρ1, g.put (.v d) ρ = some ρ1 ∧ (m ρ1 S).sat (I (don ++ [d])) T N (I (don ++ [d])) E)
    (fin : ∀ ρ S, I ds ρ S → N ρ S) (h0 : I [] ρ S) : (forL g m ds ρ S).sat N T B C E := by
  have key : ∀ (rest don : List D) ρ S, ds = don ++ rest → I don ρ S → (forL g m rest ρ S).sat N T B C E := by
    intro rest
    induction rest with
    | nil =>
      intro don ρ S e h
      rw [List.append_nil] at e
      subst e
      exact fin _ _ h
    | cons d rest ih =>
      intro don ρ S e h
      obtain ⟨ρ1, e1, h1⟩ := step don d rest ρ S e h
      rw [forL]
      simp only [e1]
      have e2 : ds = (don ++ [d]) ++ rest := by rw [e]; simp
      cases q : m ρ1 S with
      | nx ρ2 S2 => rw [q] at h1; exact ih _ _ _ e2 h1
      | ct ρ2 S2 => rw [q] at h1; exact ih _ _ _ e2 h1
      | bk ρ2 S2 => rw [q] at h1; exact h1
      | rt a S2 => rw [q] at h1; exact h1
      | er a S2 => rw [q] at h1; exact h1
      | stk => rw [q] at h1; exact h1
  exact key ds [] ρ S rfl h0
theorem sat_for {I : List D → Env → Store → Prop} (hi : mi ρ S = .ok ds S1) (h0 : I [] ρ S1)
    (step : ∀ (don : List D) d rest ρ S, ds = don ++ d :: rest → I don ρ S → ∃ ρ1, g.put (.v d) ρ = some ρ1 ∧ (m ρ1 S).sat (I (don ++ [d])) T N (I (don ++ [d])) E)
    (fin : ∀ ρ S, I ds ρ S → N ρ S) : (sFor mi g m ρ S).sat N T B C E := by
  show (SR.ofI (mi ρ S) fun ds S1 => forL g m ds ρ S1).sat N T B C E
  rw [hi]
  exact forL_sat step fin h0
theorem sat_eq {r : SR} {x : A} {Q : Store → Prop} (h : r.sat noE (fun a S => a = x ∧ Q S) noE noE noX) : ∃ S', r = .rt x S' ∧ Q S' := by
  cases r with
  | rt a S => obtain ⟨rfl, q⟩ := h; exact ⟨S, rfl, q⟩
  | nx _ _ => exact h.elim
  | bk _ _ => exact h.elim
  | ct _ _ => exact h.elim
  | er _ _ => exact h.elim
  | stk => exact h.elim
theorem sat_ex {r : SR} {P : A → Store → Prop} (h : r.sat noE P noE noE noX) : ∃ x S', r.toR = .ok x S' ∧ P x S' := by
  cases r with
  | rt a S => exact ⟨a, S, rfl, h⟩
  | nx _ _ => exact h.elim
  | bk _ _ => exact h.elim
  | ct _ _ => exact h.elim
  | er _ _ => exact h.elim
  | stk => exact h.elim
end
/-! comprehensions -/
section
variable {own : List Nat} {mi : IM} {g : Tg} {t : TM} {m : EM} {ρ : Env} {S S1 : Store} {ds : List D}
theorem eLc_st (I : List D → List D → Store → Prop) (hi : mi ρ S = .ok ds S1) (h0 : I [] [] S1) (hl : ds.length ≤ 1000000)
    (step : ∀ (don ys : List D) d rest S2, ds = don ++ d :: rest → I don ys S2 → S2.length = S1.length → ∃ ρ1 b S3, g.put (.v d) (wipeE ρ own) = some ρ1 ∧ t ρ1 (S2 ++ [.lst ys]) = .ok b (S3 ++ [.lst ys]) ∧ S3.length = S1.length ∧
      (b = false → I (don ++ [d]) ys S3) ∧ (b = true → ∃ y S4, m ρ1 (S3 ++ [.lst ys]) = .ok (.v y) (S4 ++ [.lst ys]) ∧ S4.length = S1.length ∧ I (don ++ [d]) (ys ++ [y]) S4)) :
    ∃ ys S2, eLc own mi g t m ρ S = .ok (.v (.lst ys)) S2 ∧ I ds ys S2 ∧ S2.length = S1.length := by
  have key : ∀ (rest don ys : List D) S2, ds = don ++ rest → ys.length ≤ don.length → I don ys S2 → S2.length = S1.length →
      ∃ zs S3, lcL g t m (wipeE ρ own) S1.length rest (S2 ++ [.lst ys]) = .ok () (S3 ++ [.lst zs]) ∧ I ds zs S3 ∧ S3.length = S1.length := by
    intro rest
    induction rest with
    | nil =>
      intro don ys S2 e _ h hs
      rw [List.append_nil] at e
      subst e
      exact ⟨ys, S2, rfl, h, hs⟩
    | cons d rest ih =>
      intro don ys S2 e hy h hs
      have e2 : ds = (don ++ [d]) ++ rest := by rw [e]; simp
      have hlen : don.length < 1000000 := by
        have := congrArg List.length e
        simp at this
        omega
      obtain ⟨ρ1, b, S3, h1, h2, h3, h4, h5⟩ := step don ys d rest S2 e h hs
      rw [lcL]
      simp only [h1, h2]
      cases b with
      | false => exact ih _ _ _ e2 (by simp; omega) (h4 rfl) h3
      | true =>
        obtain ⟨y, S4, h6, h7, h8⟩ := h5 rfl
        simp only [h6]
        have e3 : (S4 ++ [MO.lst ys])[S1.length]? = some (.lst ys) := by rw [List.getElem?_append_right (by omega)]; simp [h7]
        simp only [e3]
        rw [if_pos ⟨by simp [h7], by simp only [strMax_e]; omega⟩]
        have e4 : (S4 ++ [MO.lst ys]).set S1.length (.lst (ys ++ [y])) = S4 ++ [.lst (ys ++ [y])] := by
          rw [List.set_append_right _ _ (by omega)]
          simp [h7]
        rw [e4]
        exact ih _ _ _ e2 (by simp; omega) h8 h7
  obtain ⟨zs, S3, k1, k2, k3⟩ := key ds [] [] S1 rfl (Nat.le_refl _) h0 rfl
  refine ⟨zs, S3, ?_, k2, k3⟩
  unfold eLc
  rw [hi]
  simp only [R.bind_ok, k1]
  have e3 : (S3 ++ [MO.lst zs])[S1.length]? = some (.lst zs) := by rw [List.getElem?_append_right (by omega)]; simp [k3]
  simp only [e3]
  rw [if_pos (by simp [k3])]
  congr 1
  rw [← k3]
  simp
/-- one that changes nothing -/
theorem eLc_pure (f : D → Bool) (h : D → D) (hi : mi ρ S = .ok ds S1) (hl : ds.length ≤ 1000000)
    (step : ∀ d ∈ ds, ∀ Z, ∃ ρ1, g.put (.v d) (wipeE ρ own) = some ρ1 ∧ t ρ1 Z = .ok (f d) Z ∧ (f d = true → m ρ1 Z = .ok (.v (h d)) Z)) :
    eLc own mi g t m ρ S = .ok (.v (.lst ((ds.filter f).map h))) S1 := by
  obtain ⟨ys, S2, e, ⟨i1, i2⟩, _⟩ := eLc_st (own := own) (g := g) (t := t) (m := m) (fun don ys S2 => S2 = S1 ∧ ys = (don.filter f).map h) hi ⟨rfl, rfl⟩ hl (fun don ys d rest S2 e ⟨e1, e2⟩ _ => by
    subst e1
    have hd : d ∈ ds := by rw [e]; simp
    obtain ⟨ρ1, h1, h2, h3⟩ := step d hd (S2 ++ [.lst ys])
    refine ⟨ρ1, f d, S2, h1, h2, rfl, fun hf => ⟨rfl, by simp [List.filter_append, hf, e2]⟩, fun hf => ⟨h d, S2, h3 hf, rfl, rfl, by simp [List.filter_append, hf, e2]⟩⟩)
  rw [e, i1, i2]
theorem eLc_map (h : D → D) (hi : mi ρ S = .ok ds S1) (hl : ds.length ≤ 1000000)
    (step : ∀ d ∈ ds, ∀ Z, ∃ ρ1, g.put (.v d) (wipeE ρ own) = some ρ1 ∧ t ρ1 Z = .ok true Z ∧ m ρ1 Z = .ok (.v (h d)) Z) :
    eLc own mi g t m ρ S = .ok (.v (.lst (ds.map h))) S1 := by
  have := eLc_pure (own := own) (g := g) (t := t) (m := m) (fun _ => true) h hi hl (fun d hd Z => by
    obtain ⟨ρ1, h1, h2, h3⟩ := step d hd Z
    exact ⟨ρ1, h1, h2, fun _ => h3⟩)
  rwa [List.filter_eq_self.mpr (by simp)] at this
end
section
variable {α : Type} {own : List Nat} {mi : IM} {g : Tg} {t : TM} {m : EM} {ρ : Env} {S S1 : Store}
end
/-! kinds -/
@[simp] theorem gSl_z {xs : List D} {lo hi : Option Int} {S : Store} : gSl (.v (.fz xs)) lo hi S = some (.v (.lst (cutD xs lo hi))) := rfl
@[simp] theorem gSl_l {xs : List D} {lo hi : Option Int} {S : Store} : gSl (.v (.lst xs)) lo hi S = some (.v (.lst (cutD xs lo hi))) := rfl
def cutL {α : Type} (xs : List α) (lo hi : Option Int) : List α := (xs.drop (HT.sIx xs.length 0 lo)).take (HT.sIx xs.length xs.length hi - HT.sIx xs.length 0 lo)
theorem cutL_from {α : Type} {xs : List α} {n : Nat} : cutL xs (some (n : Int)) none = xs.drop n := by
  unfold cutL
  rw [HT.sIx_none, HT.sIx_nat]
  by_cases h : n ≤ xs.length
  · rw [Nat.min_eq_left h, List.take_of_length_le (by simp)]
  · rw [Nat.min_eq_right (by omega), List.drop_of_length_le (Nat.le_refl _), List.drop_of_length_le (by omega)]; simp
theorem cutL_to {α : Type} {xs : List α} {n : Nat} : cutL xs none (some (n : Int)) = xs.take n := by
  unfold cutL
  rw [HT.sIx_none, HT.sIx_nat]
  simp only [List.drop_zero, Nat.sub_zero]
  by_cases h : n ≤ xs.length
  · rw [Nat.min_eq_left h]
  · rw [Nat.min_eq_right (by omega), List.take_of_length_le (Nat.le_refl _), List.take_of_length_le (by omega)]
theorem cutD_e {xs : List D} {lo hi : Option Int} : cutD xs lo hi = cutL xs lo hi := rfl
section
variable {k : Bool} {i : Int} {z : Str} {xs : List D} {S : Store} {ρ : Env} {ma : EM} {ns : List String} {x : A}
@[simp] theorem isi_n_int : gIsi [.v .non, .v (.ty "int")] S = some (.v (.bl false)) := rfl
@[simp] theorem isi_n_bool : gIsi [.v .non, .v (.ty "bool")] S = some (.v (.bl false)) := rfl
@[simp] theorem isi_n_str : gIsi [.v .non, .v (.ty "str")] S = some (.v (.bl false)) := rfl
@[simp] theorem isi_n_list : gIsi [.v .non, .v (.ty "list")] S = some (.v (.bl false)) := rfl
@[simp] theorem isi_n_tuple : gIsi [.v .non, .v (.ty "tuple")] S = some (.v (.bl false)) := rfl
@[simp] theorem tyA_n : tyA (.v .non) S = some "NoneType" := rfl
@[simp] theorem isNon_n : isNon (.v .non) = true := rfl
@[simp] theorem isi_b_int : gIsi [.v (.bl k), .v (.ty "int")] S = some (.v (.bl true)) := rfl
@[simp] theorem isi_b_bool : gIsi [.v (.bl k), .v (.ty "bool")] S = some (.v (.bl true)) := rfl
@[simp] theorem isi_b_str : gIsi [.v (.bl k), .v (.ty "str")] S = some (.v (.bl false)) := rfl
@[simp] theorem isi_b_list : gIsi [.v (.bl k), .v (.ty "list")] S = some (.v (.bl false)) := rfl
@[simp] theorem isi_b_tuple : gIsi [.v (.bl k), .v (.ty "tuple")] S = some (.v (.bl false)) := rfl
@[simp] theorem tyA_b : tyA (.v (.bl k)) S = some "bool" := rfl
@[simp] theorem isNon_b : isNon (.v (.bl k)) = false := rfl
@[simp] theorem isi_i_int : gIsi [.v (.int i), .v (.ty "int")] S = some (.v (.bl true)) := rfl
@[simp] theorem isi_i_bool : gIsi [.v (.int i), .v (.ty "bool")] S = some (.v (.bl false)) := rfl
@[simp] theorem isi_i_str : gIsi [.v (.int i), .v (.ty "str")] S = some (.v (.bl false)) := rfl
@[simp] theorem isi_i_list : gIsi [.v (.int i), .v (.ty "list")] S = some (.v (.bl false)) := rfl
@[simp] theorem isi_i_tuple : gIsi [.v (.int i), .v (.ty "tuple")] S = some (.v (.bl false)) := rfl
@[simp] theorem tyA_i : tyA (.v (.int i)) S = some "int" := rfl
@[simp] theorem isNon_i : isNon (.v (.int i)) = false := rfl
@[simp] theorem isi_s_int : gIsi [.v (.str z), .v (.ty "int")] S = some (.v (.bl false)) := rfl
@[simp] theorem isi_s_bool : gIsi [.v (.str z), .v (.ty "bool")] S = some (.v (.bl false)) := rfl
@[simp] theorem isi_s_str : gIsi [.v (.str z), .v (.ty "str")] S = some (.v (.bl true)) := rfl
@[simp] theorem isi_s_list : gIsi [.v (.str z), .v (.ty "list")] S = some (.v (.bl false)) := rfl
@[simp] theorem isi_s_tuple : gIsi [.v (.str z), .v (.ty "tuple")] S = some (.v (.bl false)) := rfl
@[simp] theorem tyA_s : tyA (.v (.str z)) S = some "str" := rfl
@[simp] theorem isNon_s : isNon (.v (.str z)) = false := rfl
@[simp] theorem isi_t_int : gIsi [.v (.tup xs), .v (.ty "int")] S = some (.v (.bl false)) := rfl
@[simp] theorem isi_t_bool : gIsi [.v (.tup xs), .v (.ty "bool")] S = some (.v (.bl false)) := rfl
@[simp] theorem isi_t_str : gIsi [.v (.tup xs), .v (.ty "str")] S = some (.v (.bl false)) := rfl
@[simp] theorem isi_t_list : gIsi [.v (.tup xs), .v (.ty "list")] S = some (.v (.bl false)) := rfl
@[simp] theorem isi_t_tuple : gIsi [.v (.tup xs), .v (.ty "tuple")] S = some (.v (.bl true)) := rfl
@[simp] theorem tyA_t : tyA (.v (.tup xs)) S = some "tuple" := rfl
@[simp] theorem isNon_t : isNon (.v (.tup xs)) = false := rfl
@[simp] theorem isi_l_int : gIsi [.v (.lst xs), .v (.ty "int")] S = some (.v (.bl false)) := rfl
@[simp] theorem isi_l_bool : gIsi [.v (.lst xs), .v (.ty "bool")] S = some (.v (.bl false)) := rfl
@[simp] theorem isi_l_str : gIsi [.v (.lst xs), .v (.ty "str")] S = some (.v (.bl false)) := rfl
@[simp] theorem isi_l_list : gIsi [.v (.lst xs), .v (.ty "list")] S = some (.v (.bl true)) := rfl
@[simp] theorem isi_l_tuple : gIsi [.v (.lst xs), .v (.ty "tuple")] S = some (.v (.bl false)) := rfl
@[simp] theorem tyA_l : tyA (.v (.lst xs)) S = some "list" := rfl
@[simp] theorem isNon_l : isNon (.v (.lst xs)) = false := rfl
@[simp] theorem isi_z_int : gIsi [.v (.fz xs), .v (.ty "int")] S = some (.v (.bl false)) := rfl
@[simp] theorem isi_z_bool : gIsi [.v (.fz xs), .v (.ty "bool")] S = some (.v (.bl false)) := rfl
@[simp] theorem isi_z_str : gIsi [.v (.fz xs), .v (.ty "str")] S = some (.v (.bl false)) := rfl
@[simp] theorem isi_z_list : gIsi [.v (.fz xs), .v (.ty "list")] S = some (.v (.bl true)) := rfl
@[simp] theorem isi_z_tuple : gIsi [.v (.fz xs), .v (.ty "tuple")] S = some (.v (.bl false)) := rfl
@[simp] theorem tyA_z : tyA (.v (.fz xs)) S = some "list" := rfl
@[simp] theorem isNon_z : isNon (.v (.fz xs)) = false := rfl
@[simp] theorem eIsiT_e : eIsiT ns ma ρ S = (ma ρ S).bind fun x S1 => .ofO (((tyA x S1).bind fun t => isAny t ns).map blA) S1 := rfl
@[simp] theorem isAny_NoneType : isAny "NoneType" ["list", "tuple"] = some false := rfl
@[simp] theorem isAny_bool : isAny "bool" ["list", "tuple"] = some false := rfl
@[simp] theorem isAny_int : isAny "int" ["list", "tuple"] = some false := rfl
@[simp] theorem isAny_str : isAny "str" ["list", "tuple"] = some false := rfl
@[simp] theorem isAny_tuple : isAny "tuple" ["list", "tuple"] = some true := rfl
@[simp] theorem isAny_list : isAny "list" ["list", "tuple"] = some true := rfl
@[simp] theorem blA_e : blA k = .v (.bl k) := rfl
@[simp] theorem gNeA_b {m : Bool} : gNeA (.v (.bl k)) (.v (.bl m)) S = some (.v (.bl (!decide (k = m)))) := rfl
end
section
variable {ρ : Env} {S S1 : Store} {i j : Int} {a b l : List Nat} {d e : D} {x y : A} {ma mb mc : EM} {r : AM} {xs ys ds : List D} {k : Bool} {n q : Nat}
def chR (o : Option A) (k : R A) (S : Store) : R A := match o with
  | some (.v (.bl true)) => k
  | some (.v (.bl false)) => .ok (.v (.bl false)) S
  | _ => .stk
@[simp] theorem chR_t {u : R A} : chR (some (.v (.bl true))) u S = u := rfl
@[simp] theorem chR_f {u : R A} : chR (some (.v (.bl false))) u S = .ok (.v (.bl false)) S := rfl
@[simp] theorem eChain_e {g g' : OpG} : eChain g g' ma mb mc ρ S = (ma ρ S).bind fun x S1 => (mb ρ S1).bind fun y S2 => chR (g x y S2) ((mc ρ S2).bind fun z S3 => .ofO (g' y z S3) S3) S2 := rfl
@[simp] theorem cutL_1 {α : Type} {zs : List α} : cutL zs (some 1) none = zs.drop 1 := cutL_from (n := 1)
def abc : List Nat := [97, 98, 99, 100, 101, 102, 103, 104, 105, 106, 107, 108, 109, 110, 111, 112, 113, 114, 115, 116, 117, 118, 119, 120, 121, 122]
@[simp] theorem lt_one {c e : Nat} : ([c] < [e]) = (c < e) := by
  rw [List.cons_lt_cons_iff]; simp
end
/-! calls of classes, fields -/
section
variable {ρ : Env} {S S1 : Store} {x y : A} {ma mo : EM} {r rk : AM} {k a b n : Nat} {fM : FM} {fs : List (Str × D)} {ix : List Nat} {e : Er} {d : D} {mt : Nat → Option FM} {z : Str}
@[simp] theorem eMake_e : eMake k fM r ρ S = (r ρ S).bind fun xs S1 => mkR k S1.length (fM (.m S1.length :: xs) (S1 ++ [.ins k []])) := rfl
@[simp] theorem eMakeK_e : eMakeK k a b ix fM r rk ρ S = (r ρ S).bind fun xs S1 => (rk ρ S1).bind fun zs S2 => if xs.length = a ∧ zs.length = b then mkR k S2.length (fM (perm ix (.m S2.length :: xs ++ zs)) (S2 ++ [.ins k []])) else .stk := rfl
@[simp] theorem perm_e {α : Type} {l : List α} : perm ix l = ix.filterMap fun i => l[i]? := rfl
@[simp] theorem insOf_o : insOf (.v (.obj k fs)) S = some (k, fs) := rfl
@[simp] theorem insOf_s : insOf (.v (.str z)) S = none := rfl
@[simp] theorem insOf_n : insOf (.v .non) S = none := rfl
@[simp] theorem insOf_i {i : Int} : insOf (.v (.int i)) S = none := rfl
@[simp] theorem insOf_b {i : Bool} : insOf (.v (.bl i)) S = none := rfl
@[simp] theorem insOf_t {xs : List D} : insOf (.v (.tup xs)) S = none := rfl
@[simp] theorem insOf_l {xs : List D} : insOf (.v (.lst xs)) S = none := rfl
def fldG (ks : List Nat) (f : Str) (S : Store) (o : Option (Nat × List (Str × D))) : R A := match o with
  | some (k, fs) => if k ∈ ks then match fs.lookup f with
      | some d => .ok (.v d) S
      | none => .stk
    else .stk
  | none => .stk
@[simp] theorem eFld_e {ks : List Nat} {f : Str} : eFld ks f ma ρ S = (ma ρ S).bind fun x S1 => fldG ks f S1 (insOf x S1) := by
  unfold eFld fldG; rfl
def proR (r : R A) : R A := match r with
  | .ok x S2 => .ok x S2
  | _ => .stk
@[simp] theorem proR_e : proR (.ok x S) = .ok x S := rfl
def proG (k : Nat) (fM : FM) (x : A) (S : Store) (o : Option (Nat × List (Str × D))) : R A := match o with
  | some (k', _) => if k' = k then proR (fM [x] S) else .stk
  | none => .stk
@[simp] theorem proG_e : proG k fM x S (some (k, fs)) = proR (fM [x] S) := if_pos rfl
@[simp] theorem eProp_e : eProp k fM mo ρ S = (mo ρ S).bind fun o S1 => proG k fM o S1 (insOf o S1) := by
  unfold eProp proG proR; rfl
def metG (k : Nat) (m : Str) (S : Store) (o : Option (Nat × List (Str × D))) (u : R A) : R A := match o with
  | some (k', fs) => if k' = k ∧ (fs.lookup m).isNone = true then u else .stk
  | none => .stk
@[simp] theorem eMeth_e {m : Str} : eMeth k m fM mo r ρ S = (mo ρ S).bind fun o S1 => metG k m S1 (insOf o S1) ((r ρ S1).bind fun xs S2 => fM (o :: xs) S2) := by
  unfold eMeth metG; rfl
theorem gLenM_n (h : insOf x S = none) : gLenM mt [x] S = .ofO (gLen [x] S) S := by
  unfold gLenM; simp [h]
theorem gEqM_n {neg : Bool → Bool} {g : OpG} (h : insOf x S = none) (h2 : insOf y S = none) : gEqM mt neg g x y S = .ofO (g x y S) S := by
  unfold gEqM; simp [h, h2]
@[simp] theorem strR_e : strR (.ok (.v (.str z)) S) = .ok (.v (.str z)) S := rfl
@[simp] theorem blR_e {f : Bool → Bool} {q : Bool} : blR f (.ok (.v (.bl q)) S) = .ok (.v (.bl (f q))) S := rfl
@[simp] theorem eFstr_e {ms : List EM} : eFstr ms ρ S = eJs ms Str.empty ρ S := rfl
@[simp] theorem eJs_nil : eJs [] z ρ S = .ok (.v (.str z)) S := rfl
def jsR (ms : List EM) (acc : Str) (ρ : Env) (x : A) (S : Store) : R A := match x with
  | .v (.str y) => if (acc ++ y).length ≤ strMax then eJs ms (acc ++ y) ρ S else .stk
  | _ => .stk
@[simp] theorem eJs_cons {m : EM} {ms : List EM} : eJs (m :: ms) z ρ S = (m ρ S).bind fun x S1 => jsR ms z ρ x S1 := by
  rw [eJs]; unfold jsR; rfl
def fmtR (x : A) (S : Store) : R A := match x with
  | .v (.str y) => if y.length ≤ strMax then .ok (.v (.str y)) S else .stk
  | .v (.int i) => if i.natAbs.log2 < 1920 then .ok (.v (.str (toString i))) S else .stk
  | _ => .stk
@[simp] theorem eFmt_e : eFmt ma ρ S = (ma ρ S).bind fmtR := by unfold eFmt fmtR; rfl
def cpsOk (l : List Nat) : Bool := l.all fun c => decide (c < 1114112)
end
end L3

set_option Elab.async false
set_option linter.all false
set_option maxRecDepth 100000
set_option maxHeartbeats 2000000
namespace L3
open PySem PySem.Spec PyProof.Rows L2 LamX
section
variable {S : Store} {mt : Nat → Option FM} {z : Str} {xs : List D} {d : D} {neg : Bool → Bool} {g : OpG} {a b : List Nat} {i j : Int} {x y : A}
@[simp] theorem gLenM_s : gLenM mt [.v (.str z)] S = .ofO (gLen [.v (.str z)] S) S := gLenM_n rfl
@[simp] theorem gLenM_l : gLenM mt [.v (.lst xs)] S = .ofO (gLen [.v (.lst xs)] S) S := gLenM_n rfl
@[simp] theorem gLenM_t : gLenM mt [.v (.tup xs)] S = .ofO (gLen [.v (.tup xs)] S) S := gLenM_n rfl
@[simp] theorem gEqM_ss {u v : Str} : gEqM mt neg g (.v (.str u)) (.v (.str v)) S = .ofO (g (.v (.str u)) (.v (.str v)) S) S := gEqM_n rfl rfl
@[simp] theorem gEqM_ii : gEqM mt neg g (.v (.int i)) (.v (.int j)) S = .ofO (g (.v (.int i)) (.v (.int j)) S) S := gEqM_n rfl rfl
@[simp] theorem gEqM_ll {u v : List D} : gEqM mt neg g (.v (.lst u)) (.v (.lst v)) S = .ofO (g (.v (.lst u)) (.v (.lst v)) S) S := gEqM_n rfl rfl
@[simp] theorem gEqM_tt {u v : List D} : gEqM mt neg g (.v (.tup u)) (.v (.tup v)) S = .ofO (g (.v (.tup u)) (.v (.tup v)) S) S := gEqM_n rfl rfl
end
end L3

set_option Elab.async false
set_option linter.all false
set_option maxRecDepth 100000
set_option maxHeartbeats 2000000
namespace L3
open PySem PySem.Spec PyProof.Rows L2 LamX
section
variable {ρ : Env} {S S1 S2 : Store} {x y : A} {ma mo : EM} {r rk : AM} {k a b n : Nat} {fM : FM} {fs : List (Str × D)} {ix : List Nat} {d : D} {xs ds : List D} {l : List Nat} {c : Nat} {ty : String} {g : MetG} {z : Str} {e : Er}
def metR (o : Option (A × Store)) : R A := match o with
  | some (z, S3) => .ok z S3
  | none => .stk
@[simp] theorem metR_e : metR (some (x, S)) = .ok x S := rfl
@[simp] theorem eMet_e : eMet ty g mo r ρ S = (mo ρ S).bind fun o S1 => if tyA o S1 = some ty then (r ρ S1).bind fun xs S2 => metR (g o xs S2) else .stk := rfl
@[simp] theorem gTupF_l : gTupF [.v (.lst xs)] S = some (.v (.tup xs)) := rfl
@[simp] theorem gTupF_t : gTupF [.v (.tup xs)] S = some (.v (.tup xs)) := rfl
@[simp] theorem gListA_l : gListA [.v (.lst xs)] S = some (.v (.lst xs)) := rfl
@[simp] theorem gListA_z : gListA [.v (.fz xs)] S = some (.v (.lst xs)) := rfl
@[simp] theorem gListA_t : gListA [.v (.tup xs)] S = some (.v (.lst xs)) := rfl
def metKG (k : Nat) (m : Str) (S : Store) (o : Option (Nat × List (Str × D))) (u : R A) : R A := metG k m S o u
def chkA (n mk : Nat) (xs zs : List A) (u : R A) : R A := if xs.length = n ∧ zs.length = mk then u else .stk
@[simp] theorem eMethK_e {m : Str} : eMethK k m a b ix fM mo r rk ρ S = (mo ρ S).bind fun o S1 => metG k m S1 (insOf o S1) ((r ρ S1).bind fun xs S2 => (rk ρ S2).bind fun zs S3 => if xs.length = a ∧ zs.length = b then fM (perm ix (o :: xs ++ zs)) S3 else .stk) := by
  unfold eMethK metG; rfl
@[simp] theorem scF_e {ys : List A} : scF fM ys S = clR S.length (fM ys S) := rfl
@[simp] theorem sSc_e {m : SM} : sSc m ρ S = clS S.length (m ρ S) := rfl
end
end L3

set_option Elab.async false
set_option linter.all false
set_option maxRecDepth 100000
set_option maxHeartbeats 2000000
namespace L3
open PySem PySem.Spec PySem.W HandSHeadRun
/-! ### the head's run with fewer unfoldings: the same loop, one case analysis a step -/
section
noncomputable section
/-- BT.get by recursors -/
def hGetQ (t : BT) : Nat → Option Obj := @BT.rec (fun _ => Nat → Option Obj) (fun _ => none) (fun v _ _ gl gr i => @Bool.rec (fun _ => Option Obj) (@Bool.rec (fun _ => Option Obj) (gr (Nat.sub (Nat.div i 2) 1)) (gl (Nat.div i 2)) (Nat.beq (Nat.mod i 2) 1)) (some v) (Nat.beq i 0)) t
theorem hGetQ_eq : ∀ (t : BT) (i : Nat), hGetQ t i = t.get i
  | .nil, _ => rfl
  | .node v l r, i => by
    show @Bool.rec (fun _ => Option Obj) (@Bool.rec (fun _ => Option Obj) (hGetQ r (i / 2 - 1)) (hGetQ l (i / 2)) (Nat.beq (i % 2) 1)) (some v) (Nat.beq i 0) = (match Nat.beq i 0 with | true => some v | false => match Nat.beq (i % 2) 1 with | true => l.get (i / 2) | false => r.get (i / 2 - 1))
    rw [hGetQ_eq, hGetQ_eq]
    cases Nat.beq i 0 <;> cases Nat.beq (i % 2) 1 <;> rfl
def hInsQ (o : Obj) (t : BT) : Nat → BT := @BT.rec (fun _ => Nat → BT) (fun _ => .node o .nil .nil) (fun v l r gl gr i => @Bool.rec (fun _ => BT) (@Bool.rec (fun _ => BT) (.node v l (gr (Nat.sub (Nat.div i 2) 1))) (.node v (gl (Nat.div i 2)) r) (Nat.beq (Nat.mod i 2) 1)) (.node o l r) (Nat.beq i 0)) t
theorem hInsQ_eq (o : Obj) : ∀ (t : BT) (i : Nat), hInsQ o t i = t.ins i o
  | .nil, _ => rfl
  | .node v l r, i => by
    show @Bool.rec (fun _ => BT) (@Bool.rec (fun _ => BT) (.node v l (hInsQ o r (i / 2 - 1))) (.node v (hInsQ o l (i / 2)) r) (Nat.beq (i % 2) 1)) (.node o l r) (Nat.beq i 0) = (match Nat.beq i 0 with | true => BT.node o l r | false => match Nat.beq (i % 2) 1 with | true => BT.node v (l.ins (i / 2) o) r | false => BT.node v l (r.ins (i / 2 - 1) o))
    rw [hInsQ_eq, hInsQ_eq]
    cases Nat.beq i 0 <;> cases Nat.beq (i % 2) 1 <;> rfl
def hSetQ (f : Obj → Obj) (t : BT) : Nat → BT := @BT.rec (fun _ => Nat → BT) (fun _ => .nil) (fun v l r gl gr i => @Bool.rec (fun _ => BT) (@Bool.rec (fun _ => BT) (.node v l (gr (Nat.sub (Nat.div i 2) 1))) (.node v (gl (Nat.div i 2)) r) (Nat.beq (Nat.mod i 2) 1)) (.node (f v) l r) (Nat.beq i 0)) t
theorem hSetQ_eq (f : Obj → Obj) : ∀ (t : BT) (i : Nat), hSetQ f t i = t.set i f
  | .nil, _ => rfl
  | .node v l r, i => by
    show @Bool.rec (fun _ => BT) (@Bool.rec (fun _ => BT) (.node v l (hSetQ f r (i / 2 - 1))) (.node v (hSetQ f l (i / 2)) r) (Nat.beq (i % 2) 1)) (.node (f v) l r) (Nat.beq i 0) = (match Nat.beq i 0 with | true => BT.node (f v) l r | false => match Nat.beq (i % 2) 1 with | true => BT.node v (l.set (i / 2) f) r | false => BT.node v l (r.set (i / 2 - 1) f))
    rw [hSetQ_eq, hSetQ_eq]
    cases Nat.beq i 0 <;> cases Nat.beq (i % 2) 1 <;> rfl
/-- what goes on -/
abbrev HGoT : Type := BT → Nat → Array GenState → Drawn → Nat → OsState → Sem PySem.Fin → Code → Pos → List Frame → Option SharedT
structure HRg where
  ih : HGoT
  T : BT
  n : Nat
  gens : Array GenState
  drawn : Drawn
  toks : Nat
  os : OsState
  code : Code
  pos : Pos
  stack : List Frame
variable (den : Code → Sem PySem.Fin) (p : Program) (w : World) (n0 : Nat) (ann : Option Value) (life : Life)
/-- any other step, as goF does it -/
def hGen (X : HRg) (c : Sem PySem.Fin) : Option SharedT := match through ⟨c, X.code, X.pos, X.stack⟩ with
  | true => some ⟨X.T, X.n, life, X.gens, X.drawn, X.toks, X.os⟩
  | false => match stepOk n0 ann ⟨c, X.code, X.pos, X.stack⟩ with
    | false => none
    | true => match stepQ den p w ⟨X.T, X.n, life, X.gens, X.drawn, X.toks, X.os⟩ ⟨c, X.code, X.pos, X.stack⟩ with
      | some (⟨T, n, _, gens, drawn, toks, os⟩, ⟨cur, code, pos, stack⟩) => frNat n fun n => frNat toks fun toks => X.ih T n gens drawn toks os cur code pos stack
      | none => none
def hLoad0 (X : HRg) (k : Obj → Sem PySem.Fin) (o : Option Obj) : Option SharedT := @Option.rec Obj (fun _ => Option SharedT) none (fun o' => @HRg.rec (fun _ => Option SharedT) (fun ih T n gens drawn toks os code pos stack => ih T n gens drawn toks os (k o') code pos stack) X) o
def hLoad (X : HRg) (a : Addr) (k : Obj → Sem PySem.Fin) : Option SharedT := @Bool.rec (fun _ => Option SharedT) none (@Option.rec Obj (fun _ => Option SharedT) none (fun o => hLoad0 X k (alive o)) (hGetQ X.T a)) (Nat.blt a X.n)
def hIf (X : HRg) (a : Addr) (k : Option Obj → Sem PySem.Fin) : Option SharedT := @HRg.rec (fun _ => Option SharedT) (fun ih T n gens drawn toks os code pos stack =>
  @Bool.rec (fun _ => Option SharedT) (ih T n gens drawn toks os (k none) code pos stack) (@Option.rec Obj (fun _ => Option SharedT) none (fun o => ih T n gens drawn toks os (k (alive o)) code pos stack) (hGetQ T a)) (Nat.blt a n)) X
def hUpd (X : HRg) (a : Addr) (q : Option Value) (f : Obj → Obj) (k : Unit → Sem PySem.Fin) : Option SharedT := @Bool.rec (fun _ => Option SharedT) (hGen den p w n0 ann life X (.update a q f k))
  (@HRg.rec (fun _ => Option SharedT) (fun ih T n gens drawn toks os code pos stack => @Bool.rec (fun _ => Option SharedT) none (@Option.rec Obj (fun _ => Option SharedT) none (fun o => @Option.rec Obj (fun _ => Option SharedT) none (fun _ => ih (hSetQ f T a) n gens drawn toks os (k ()) code pos stack) (alive o)) (hGetQ T a)) (Nat.blt a n)) X) (Nat.ble n0 a)
def hAlloc (X : HRg) (o : Obj) (k : Addr → Sem PySem.Fin) : Option SharedT := @HRg.rec (fun _ => Option SharedT) (fun ih T n gens drawn toks os code pos stack => @Option.rec Obj (fun _ => Option SharedT) none (fun _ => frNat (Nat.succ n) fun n1 => ih (hInsQ o T n) n1 gens drawn toks os (k n) code pos stack) (hGetQ (hInsQ o T n) n)) X
def hUnit (X : HRg) (k : Unit → Sem PySem.Fin) : Option SharedT := @HRg.rec (fun _ => Option SharedT) (fun ih T n gens drawn toks os code pos stack => ih T n gens drawn toks os (k ()) code pos stack) X
def hAt (X : HRg) (p' : Pos) (k : Unit → Sem PySem.Fin) : Option SharedT := @HRg.rec (fun _ => Option SharedT) (fun ih T n gens drawn toks os code pos stack => ih T n gens drawn toks os (k ()) code p' stack) X
def hAsk (X : HRg) (k : Setting → Sem PySem.Fin) : Option SharedT := @HRg.rec (fun _ => Option SharedT) (fun ih T n gens drawn toks os code pos stack => ih T n gens drawn toks os (k ⟨p, w.params⟩) code pos stack) X
def hFresh (X : HRg) (k : Tok → Sem PySem.Fin) : Option SharedT := @HRg.rec (fun _ => Option SharedT) (fun ih T n gens drawn toks os code pos stack => frNat (Nat.succ toks) fun t1 => ih T n gens drawn t1 os (k toks) code pos stack) X
def hKept (c code : Code) (l : List Value) : List Value := match c, code with
  | .builtin _ a, _ => unmarked a.refs
  | .call f a, .builtin .. | .call f a, .call .. => unmarked (if l.contains borrowed then a.refs else f :: a.refs)
  | _, _ => []
def hCall (X : HRg) (c : Code) (h : Option Value) (g : Bool) (l : List Value) (k : Result → Sem PySem.Fin) : Option SharedT := @HRg.rec (fun _ => Option SharedT) (fun ih T n gens drawn toks os code pos stack => ih T n gens drawn toks os (den c) c pos (.ret k h g l code pos (hKept c code l) :: stack)) X
def hPure (X : HRg) (f : PySem.Fin) : Option SharedT := @PySem.Fin.rec (fun _ => Option SharedT) (fun f => @HRg.rec (fun _ => Option SharedT) (fun ih T n gens drawn toks os code pos stack => @List.rec Frame (fun _ => Option SharedT) (some ⟨T, n, life, gens, drawn, toks, os⟩)
    (fun fr rest _ => @Frame.rec (fun _ => Option SharedT) (fun k _ _ _ c p' _ => ih T n gens drawn toks os (k (.ok f)) c p' rest) (fun _ _ _ _ _ => hGen den p w n0 ann life X (.pure (.done f))) fr) stack) X)
  (fun c => hGen den p w n0 ann life X (.pure (.again c))) f
/-- one step -/
def hStep (X : HRg) (cur : Sem PySem.Fin) : Option SharedT := @Sem.rec PySem.Fin (fun _ => Option SharedT) (hPure den p w n0 ann life X) (fun e => hGen den p w n0 ann life X (.raise e)) (fun e => hGen den p w n0 ann life X (.unsupported e)) (fun e => hGen den p w n0 ann life X (.finish e))
  (fun _ k _ => hUnit X k) (fun p' k _ => hAt X p' k) (fun a _ k _ => hLoad X a k) (fun a q f k _ => hUpd den p w n0 ann life X a q f k) (fun o k _ => hAlloc X o k) (fun a k _ => hIf X a k) (fun _ k _ => hUnit X k)
  (fun a k _ => hGen den p w n0 ann life X (.register a k)) (fun k _ => hFresh X k) (fun k _ => hAsk p w X k) (fun s n k _ => hGen den p w n0 ann life X (.choose s n k)) (fun q l k _ => hGen den p w n0 ann life X (.os q l k))
  (fun c h g l k _ => hCall den X c h g l k) (fun o k _ => hGen den p w n0 ann life X (.handled o k)) (fun c k _ => hGen den p w n0 ann life X (.newGen c k)) (fun g k _ => hGen den p w n0 ann life X (.genState g k))
  (fun g r l k _ => hGen den p w n0 ann life X (.resume g r l k)) (fun v g l k _ => hGen den p w n0 ann life X (.yield v g l k)) (fun k _ => hGen den p w n0 ann life X (.stack k)) (fun c k _ => hGen den p w n0 ann life X (.fork c k))
  (fun k _ => hGen den p w n0 ann life X (.thread k)) (fun a t d l k _ => hGen den p w n0 ann life X (.await a t d l k)) cur
def goH (m : Nat) : HGoT := @Nat.rec (fun _ => HGoT) (fun _ _ _ _ _ _ _ _ _ _ => none) (fun _ ih T n gens drawn toks os cur code pos stack => hStep den p w n0 ann life ⟨ih, T, n, gens, drawn, toks, os, code, pos, stack⟩ cur) m
def endH (M : Nat) (p : Program) (w : World) (os : OsState) : Option SharedT := match putAll (boot_heap w.params).objs.toList .nil 0 with
  | some (t, n) => frNat n fun n0 => goH (denQ tabQ) p w n0 (bootAnn w) (boot_heap w.params).life M t n0 #[] boot_drawn boot_toks os (topStub p).cur (topStub p).code (topStub p).pos (topStub p).stack
  | none => none
end
end
end L3
set_option Elab.async false
set_option linter.all false
set_option maxRecDepth 100000
set_option maxHeartbeats 2000000
namespace L3
open PySem PySem.Spec PySem.W HandSHeadRun
/-! ### it is goF -/
section
variable {den : Code → Sem PySem.Fin} {p : Program} {w : World} {n0 : Nat} {ann : Option Value} {life : Life}
theorem stepQ_at (s : SharedT) (t : Thread) : stepQ den p w s t = stepT den p w s t := by rw [← stepQ_eq]
theorem goF_on {st : SharedT → Thread → Option (SharedT × Thread)} {m : Nat} {s : SharedT} {t : Thread} (h1 : through t = false) (h2 : stepOk n0 ann t = true) :
    goF st n0 ann (m + 1) s t = (match st s t with | some (s', t') => goF st n0 ann m s' t' | none => none) := by
  show (match through t with | true => some s | false => match stepOk n0 ann t with | false => none | true => match st s t with | some (s', t') => frS s' fun s' => goF st n0 ann m s' t' | none => none) = _
  rw [h1, h2]
  show (match st s t with | some (s', t') => frS s' fun s' => goF st n0 ann m s' t' | none => none) = _
  cases st s t with
  | none => rfl
  | some r => obtain ⟨s', t'⟩ := r; exact frS_eq s' _
theorem stepT_life {s s' : SharedT} {t t' : Thread} (h : stepT den p w s t = some (s', t')) : s'.life = s.life := by
  obtain ⟨T, n, life, gens, drawn, toks, os⟩ := s
  obtain ⟨cur, code, pos, stack⟩ := t
  unfold stepT at h
  dsimp only at h
  split at h <;> (repeat' split at h) <;> first | cases h; rfl | cases h
def RunSame (den : Code → Sem PySem.Fin) (p : Program) (w : World) (n0 : Nat) (ann : Option Value) (life : Life) (m : Nat) (ih : HGoT) : Prop :=
  ∀ T n gens drawn toks os cur code pos stack, ih T n gens drawn toks os cur code pos stack = goF (stepT den p w) n0 ann m ⟨T, n, life, gens, drawn, toks, os⟩ ⟨cur, code, pos, stack⟩
theorem hGen_eq {m : Nat} {ih : HGoT} (I : RunSame den p w n0 ann life m ih) {T : BT} {n : Nat} {gens : Array GenState} {drawn : Drawn} {toks : Nat} {os : OsState} {code : Code} {pos : Pos} {stack : List Frame} (c : Sem PySem.Fin) :
    hGen den p w n0 ann life ⟨ih, T, n, gens, drawn, toks, os, code, pos, stack⟩ c = goF (stepT den p w) n0 ann (m + 1) ⟨T, n, life, gens, drawn, toks, os⟩ ⟨c, code, pos, stack⟩ := by
  show (match through ⟨c, code, pos, stack⟩ with
    | true => some (⟨T, n, life, gens, drawn, toks, os⟩ : SharedT)
    | false => match stepOk n0 ann ⟨c, code, pos, stack⟩ with
      | false => none
      | true => match stepQ den p w ⟨T, n, life, gens, drawn, toks, os⟩ ⟨c, code, pos, stack⟩ with
        | some (⟨T, n, _, gens, drawn, toks, os⟩, ⟨cur, code, pos, stack⟩) => frNat n fun n => frNat toks fun toks => ih T n gens drawn toks os cur code pos stack
        | none => none) = (match through ⟨c, code, pos, stack⟩ with
    | true => some ⟨T, n, life, gens, drawn, toks, os⟩
    | false => match stepOk n0 ann ⟨c, code, pos, stack⟩ with
      | false => none
      | true => match stepT den p w ⟨T, n, life, gens, drawn, toks, os⟩ ⟨c, code, pos, stack⟩ with
        | some (s', t') => frS s' fun s' => goF (stepT den p w) n0 ann m s' t'
        | none => none)
  rw [stepQ_at]
  cases through ⟨c, code, pos, stack⟩ with
  | true => rfl
  | false =>
    cases stepOk n0 ann ⟨c, code, pos, stack⟩ with
    | false => rfl
    | true =>
      cases e : stepT den p w ⟨T, n, life, gens, drawn, toks, os⟩ ⟨c, code, pos, stack⟩ with
      | none => rfl
      | some r =>
        obtain ⟨⟨T', n', life', gens', drawn', toks', os'⟩, ⟨c', code', pos', stack'⟩⟩ := r
        have hl : life' = life := stepT_life e
        subst hl
        show (frNat n' fun n => frNat toks' fun toks => ih T' n gens' drawn' toks os' c' code' pos' stack') = frS ⟨T', n', life', gens', drawn', toks', os'⟩ fun s' => goF (stepT den p w) n0 ann m s' ⟨c', code', pos', stack'⟩
        rw [frS_eq, frNat_eq, frNat_eq]
        exact I _ _ _ _ _ _ _ _ _ _
theorem through_and {t : Thread} (h : (match t.cur with | .pure (.done _) => true | _ => false) = false) : through t = false := by
  exact (congrArg (t.stack.isEmpty && ·) h).trans (Bool.and_false _)
theorem hStep_eq {m : Nat} {ih : HGoT} (I : RunSame den p w n0 ann life m ih) {T : BT} {n : Nat} {gens : Array GenState} {drawn : Drawn} {toks : Nat} {os : OsState} {code : Code} {pos : Pos} {stack : List Frame} (c : Sem PySem.Fin) :
    hStep den p w n0 ann life ⟨ih, T, n, gens, drawn, toks, os, code, pos, stack⟩ c = goF (stepT den p w) n0 ann (m + 1) ⟨T, n, life, gens, drawn, toks, os⟩ ⟨c, code, pos, stack⟩ := by
  cases c with
  | pure f =>
    cases f with
    | again c => exact hGen_eq I _
    | done f =>
      cases stack with
      | nil => rfl
      | cons fr rest =>
        cases fr with
        | gen g k l c' p' => exact hGen_eq I (T := T) (n := n) (gens := gens) (drawn := drawn) (toks := toks) (os := os) (code := code) (pos := pos) (stack := .gen g k l c' p' :: rest) (.pure (.done f))
        | ret k a b c' d e g =>
          rw [goF_on rfl rfl]
          exact I _ _ _ _ _ _ _ _ _ _
  | load a q k =>
    rw [goF_on (through_and rfl) rfl]
    show @Bool.rec (fun _ => Option SharedT) none (@Option.rec Obj (fun _ => Option SharedT) none (fun o => hLoad0 ⟨ih, T, n, gens, drawn, toks, os, code, pos, stack⟩ k (alive o)) (hGetQ T a)) (Nat.blt a n) = (match (match Nat.blt a n with
      | true => match T.get a with
        | some o => match alive o with
          | some o' => some ((⟨T, n, life, gens, drawn, toks, os⟩ : SharedT), (⟨k o', code, pos, stack⟩ : Thread))
          | none => none
        | none => none
      | false => none) with | some (s', t') => goF (stepT den p w) n0 ann m s' t' | none => none)
    rw [hGetQ_eq]
    cases Nat.blt a n with
    | false => rfl
    | true =>
      cases T.get a with
      | none => rfl
      | some o =>
        show hLoad0 _ k (alive o) = _
        dsimp only
        cases alive o with
        | none => rfl
        | some o' => exact I _ _ _ _ _ _ _ _ _ _
  | loadIfAlive a k =>
    rw [goF_on (through_and rfl) rfl]
    show @Bool.rec (fun _ => Option SharedT) (ih T n gens drawn toks os (k none) code pos stack) (@Option.rec Obj (fun _ => Option SharedT) none (fun o => ih T n gens drawn toks os (k (alive o)) code pos stack) (hGetQ T a)) (Nat.blt a n) = (match (match Nat.blt a n with
      | true => match T.get a with
        | some o => some ((⟨T, n, life, gens, drawn, toks, os⟩ : SharedT), (⟨k (alive o), code, pos, stack⟩ : Thread))
        | none => none
      | false => some (⟨T, n, life, gens, drawn, toks, os⟩, ⟨k none, code, pos, stack⟩)) with | some (s', t') => goF (stepT den p w) n0 ann m s' t' | none => none)
    rw [hGetQ_eq]
    cases Nat.blt a n with
    | false => exact I _ _ _ _ _ _ _ _ _ _
    | true =>
      cases T.get a with
      | none => rfl
      | some o => exact I _ _ _ _ _ _ _ _ _ _
  | update a q f k =>
    show @Bool.rec (fun _ => Option SharedT) (hGen den p w n0 ann life ⟨ih, T, n, gens, drawn, toks, os, code, pos, stack⟩ (.update a q f k)) (@Bool.rec (fun _ => Option SharedT) none (@Option.rec Obj (fun _ => Option SharedT) none (fun o => @Option.rec Obj (fun _ => Option SharedT) none (fun _ => ih (hSetQ f T a) n gens drawn toks os (k ()) code pos stack) (alive o)) (hGetQ T a)) (Nat.blt a n)) (Nat.ble n0 a) = _
    cases hb : Nat.ble n0 a with
    | false => exact hGen_eq I _
    | true =>
      have h2 : stepOk n0 ann ⟨.update a q f k, code, pos, stack⟩ = true := by
        show (true && (Nat.ble n0 a || a == mainNs || a == cStatics || ann == some (.ref a))) = true
        rw [hb]
        rfl
      rw [goF_on (through_and rfl) h2]
      show @Bool.rec (fun _ => Option SharedT) none (@Option.rec Obj (fun _ => Option SharedT) none (fun o => @Option.rec Obj (fun _ => Option SharedT) none (fun _ => ih (hSetQ f T a) n gens drawn toks os (k ()) code pos stack) (alive o)) (hGetQ T a)) (Nat.blt a n) = (match (match Nat.blt a n with
        | true => match T.get a with
          | some o => match alive o with
            | some _ => some ((⟨T.set a f, n, life, gens, drawn, toks, os⟩ : SharedT), (⟨k (), code, pos, stack⟩ : Thread))
            | none => none
          | none => none
        | false => none) with | some (s', t') => goF (stepT den p w) n0 ann m s' t' | none => none)
      rw [hGetQ_eq, hSetQ_eq]
      cases Nat.blt a n with
      | false => rfl
      | true =>
        cases T.get a with
        | none => rfl
        | some o =>
          dsimp only
          cases alive o with
          | none => rfl
          | some o' => exact I _ _ _ _ _ _ _ _ _ _
  | alloc o k =>
    rw [goF_on (through_and rfl) rfl]
    show @Option.rec Obj (fun _ => Option SharedT) none (fun _ => frNat (Nat.succ n) fun n1 => ih (hInsQ o T n) n1 gens drawn toks os (k n) code pos stack) (hGetQ (hInsQ o T n) n) = (match (match ((T.ins n o).get n).isSome with
      | true => some ((⟨T.ins n o, n + 1, life, gens, drawn, toks, os⟩ : SharedT), (⟨k n, code, pos, stack⟩ : Thread))
      | false => none) with | some (s', t') => goF (stepT den p w) n0 ann m s' t' | none => none)
    rw [hGetQ_eq, hInsQ_eq]
    cases (T.ins n o).get n with
    | none => rfl
    | some o => exact I _ _ _ _ _ _ _ _ _ _
  | rule => rw [goF_on (through_and rfl) rfl]; exact I _ _ _ _ _ _ _ _ _ _
  | «at» => rw [goF_on (through_and rfl) rfl]; exact I _ _ _ _ _ _ _ _ _ _
  | point => rw [goF_on (through_and rfl) rfl]; exact I _ _ _ _ _ _ _ _ _ _
  | ask => rw [goF_on (through_and rfl) rfl]; exact I _ _ _ _ _ _ _ _ _ _
  | fresh => rw [goF_on (through_and rfl) rfl]; exact I _ _ _ _ _ _ _ _ _ _
  | call => rw [goF_on (through_and rfl) rfl]; exact I _ _ _ _ _ _ _ _ _ _
  | _ => exact hGen_eq I _
theorem goH_eq : ∀ m : Nat, RunSame den p w n0 ann life m (goH den p w n0 ann life m)
  | 0 => fun _ _ _ _ _ _ _ _ _ _ => rfl
  | m + 1 => fun _ _ _ _ _ _ _ _ _ _ => hStep_eq (goH_eq m) _
end
theorem endH_eq (M : Nat) (p : Program) (w : World) (os : OsState) : endF (stepQ (denQ tabQ) p w) M p w os = endH M p w os := by
  unfold endF endH
  cases putAll (boot_heap w.params).objs.toList .nil 0 with
  | none => rfl
  | some r =>
    obtain ⟨t, n⟩ := r
    show (frNat n fun n0 => goF (stepQ (denQ tabQ) p w) n0 (bootAnn w) M (bootT w os (t, n0)) (topStub p)) = frNat n fun n0 => goH (denQ tabQ) p w n0 (bootAnn w) (boot_heap w.params).life M t n0 #[] boot_drawn boot_toks os (topStub p).cur (topStub p).code (topStub p).pos (topStub p).stack
    rw [frNat_eq, frNat_eq, goH_eq M]
    have e : stepQ (denQ tabQ) p w = stepT (denQ tabQ) p w := funext fun s => funext fun t => stepQ_at s t
    rw [e]
    rfl
end L3
set_option Elab.async false
set_option linter.all false
set_option maxRecDepth 100000
set_option maxHeartbeats 4000000
namespace L3
open PySem PySem.Spec PyProof.Rows L2 NdefX LamX
open L2H (RoomH PinOk cxH inv_startH roomH_of)
def sm_law_field (a : Addr) (er : Er) : SM := sSeq (sIf (tE (eOp gIn (eXf 0 a er "code") (eTup (aCons (eC (.str "InvalidAlphabet")) (aCons (eC (.str "InvalidLetter")) (aCons (eC (.str "InvalidColor")) (aCons (eC (.str "InvalidWord")) (aCons (eC (.str "InvalidRow")) (aCons (eC (.str "InvalidCount")) aNil))))))))) (sRet (eTup (aCons (eXf 0 a er "given") aNil))) sNil) (sSeq (sIf (tE (eOp gIn (eXf 0 a er "code") (eTup (aCons (eC (.str "InvalidBag")) (aCons (eC (.str "InvalidFar")) (aCons (eC (.str "NotThere")) aNil)))))) (sRet (eTup (aCons (eXf 0 a er "given") aNil))) sNil) (sSeq (sIf (tE (eOp gIn (eXf 0 a er "code") (eTup (aCons (eC (.str "InvalidEntry")) (aCons (eC (.str "LotsDiffer")) aNil))))) (sRet (eTup (aCons (eXf 0 a er "at") aNil))) sNil) (sSeq (sIf (tE (eOp gIn (eXf 0 a er "code") (eTup (aCons (eC (.str "InvalidName")) (aCons (eC (.str "WrongKind")) (aCons (eC (.str "DuplicateName")) (aCons (eC (.str "UnknownName")) aNil))))))) (sRet (eTup (aCons (eXf 0 a er "name") aNil))) sNil) (sSeq (sIf (tE (eOp gEqA (eXf 0 a er "code") (eC (.str "TooMany")))) (sRet (eTup (aCons (eXf 0 a er "subject") (aCons (eXf 0 a er "most") aNil)))) sNil) (sSeq (sIf (tE (eOp gIn (eXf 0 a er "code") (eTup (aCons (eC (.str "InvalidPattern")) (aCons (eC (.str "NotEven")) aNil))))) (sRet (eIf (tE (eOp gEqA (eXf 0 a er "code") (eC (.str "InvalidPattern")))) (eTup (aCons (eXf 0 a er "path") aNil)) (eTup (aCons (eXf 0 a er "row") aNil)))) sNil) (sSeq (sIf (tE (eOp gIn (eXf 0 a er "code") (eTup (aCons (eC (.str "Full")) (aCons (eC (.str "InUse")) aNil))))) (sRet (eIf (tE (eOp gEqA (eXf 0 a er "code") (eC (.str "Full")))) (eTup (aCons (eXf 0 a er "most") aNil)) (eTup (aCons (eXf 0 a er "user") aNil)))) sNil) (sSeq (sIf (tE (eOp gIn (eXf 0 a er "code") (eTup (aCons (eC (.str "InvalidCommand")) (aCons (eC (.str "InvalidPage")) aNil))))) (sRet (eIf (tE (eOp gEqA (eXf 0 a er "code") (eC (.str "InvalidCommand")))) (eTup (aCons (eXf 0 a er "word") aNil)) (eTup (aCons (eXf 0 a er "line") aNil)))) sNil) (sRet (eTup aNil)))))))))
def fx_law_field : Addr → Er → Store → R A := fldM 1 sm_law_field
theorem sc_law_field : FnScope ["_law_e"] ["_law_e"] (defScope s_law_field) := ⟨rfl, rfl, rfl, by decide +kernel, rfl, by decide +kernel, by decide +kernel⟩
theorem fld_law_field {P : Program} {w : World} {mg : Str → Option Value} {base : Heap} {T : Tb} (g : G P w T.K T.cA mg) : FldOk (fun k => catchE k = some true) P w T.K mg base T 2 g.a_law_field g.d_law_field "_law_e" fx_law_field :=
  fld_of g.F_law_field sc_law_field rfl fun cdv A outer s H E a oe er d hk hz hf hrH L => mb_cons (ms_if (mt_cmp L (op_gIn L.k) inG_bl (me_xf L.k List.mem_cons_self hz hf (g.xfc hk) (g.xno hk "code" (by decide)) (by rfl) (by first | exact Or.inl rfl | exact Or.inr (Or.inl rfl))) (me_tup (ma_cons me_str (ma_cons me_str (ma_cons me_str (ma_cons me_str (ma_cons me_str (ma_cons me_str ma_nil)))))))) (mb_one (ms_ret (me_tup (ma_cons (me_xf L.k List.mem_cons_self hz hf (g.xfc hk) (g.xno hk "given" (by decide)) (by rfl) (by first | exact Or.inl rfl | exact Or.inr (Or.inl rfl))) ma_nil)))) mb_nil) (mb_cons (ms_if (mt_cmp L (op_gIn L.k) inG_bl (me_xf L.k List.mem_cons_self hz hf (g.xfc hk) (g.xno hk "code" (by decide)) (by rfl) (by first | exact Or.inl rfl | exact Or.inr (Or.inl rfl))) (me_tup (ma_cons me_str (ma_cons me_str (ma_cons me_str ma_nil))))) (mb_one (ms_ret (me_tup (ma_cons (me_xf L.k List.mem_cons_self hz hf (g.xfc hk) (g.xno hk "given" (by decide)) (by rfl) (by first | exact Or.inl rfl | exact Or.inr (Or.inl rfl))) ma_nil)))) mb_nil) (mb_cons (ms_if (mt_cmp L (op_gIn L.k) inG_bl (me_xf L.k List.mem_cons_self hz hf (g.xfc hk) (g.xno hk "code" (by decide)) (by rfl) (by first | exact Or.inl rfl | exact Or.inr (Or.inl rfl))) (me_tup (ma_cons me_str (ma_cons me_str ma_nil)))) (mb_one (ms_ret (me_tup (ma_cons (me_xf L.k List.mem_cons_self hz hf (g.xfc hk) (g.xno hk "at" (by decide)) (by rfl) (by first | exact Or.inl rfl | exact Or.inr (Or.inl rfl))) ma_nil)))) mb_nil) (mb_cons (ms_if (mt_cmp L (op_gIn L.k) inG_bl (me_xf L.k List.mem_cons_self hz hf (g.xfc hk) (g.xno hk "code" (by decide)) (by rfl) (by first | exact Or.inl rfl | exact Or.inr (Or.inl rfl))) (me_tup (ma_cons me_str (ma_cons me_str (ma_cons me_str (ma_cons me_str ma_nil)))))) (mb_one (ms_ret (me_tup (ma_cons (me_xf L.k List.mem_cons_self hz hf (g.xfc hk) (g.xno hk "name" (by decide)) (by rfl) (by first | exact Or.inl rfl | exact Or.inr (Or.inl rfl))) ma_nil)))) mb_nil) (mb_cons (ms_if (mt_cmp L (op_gEqA L.k hrH.units) gEqA_bl (me_xf L.k List.mem_cons_self hz hf (g.xfc hk) (g.xno hk "code" (by decide)) (by rfl) (by first | exact Or.inl rfl | exact Or.inr (Or.inl rfl))) me_str) (mb_one (ms_ret (me_tup (ma_cons (me_xf L.k List.mem_cons_self hz hf (g.xfc hk) (g.xno hk "subject" (by decide)) (by rfl) (by first | exact Or.inl rfl | exact Or.inr (Or.inl rfl))) (ma_cons (me_xf L.k List.mem_cons_self hz hf (g.xfc hk) (g.xno hk "most" (by decide)) (by rfl) (by first | exact Or.inl rfl | exact Or.inr (Or.inl rfl))) ma_nil))))) mb_nil) (mb_cons (ms_if (mt_cmp L (op_gIn L.k) inG_bl (me_xf L.k List.mem_cons_self hz hf (g.xfc hk) (g.xno hk "code" (by decide)) (by rfl) (by first | exact Or.inl rfl | exact Or.inr (Or.inl rfl))) (me_tup (ma_cons me_str (ma_cons me_str ma_nil)))) (mb_one (ms_ret (me_if (mt_cmp L (op_gEqA L.k hrH.units) gEqA_bl (me_xf L.k List.mem_cons_self hz hf (g.xfc hk) (g.xno hk "code" (by decide)) (by rfl) (by first | exact Or.inl rfl | exact Or.inr (Or.inl rfl))) me_str) (me_tup (ma_cons (me_xf L.k List.mem_cons_self hz hf (g.xfc hk) (g.xno hk "path" (by decide)) (by rfl) (by first | exact Or.inl rfl | exact Or.inr (Or.inl rfl))) ma_nil)) (me_tup (ma_cons (me_xf L.k List.mem_cons_self hz hf (g.xfc hk) (g.xno hk "row" (by decide)) (by rfl) (by first | exact Or.inl rfl | exact Or.inr (Or.inl rfl))) ma_nil))))) mb_nil) (mb_cons (ms_if (mt_cmp L (op_gIn L.k) inG_bl (me_xf L.k List.mem_cons_self hz hf (g.xfc hk) (g.xno hk "code" (by decide)) (by rfl) (by first | exact Or.inl rfl | exact Or.inr (Or.inl rfl))) (me_tup (ma_cons me_str (ma_cons me_str ma_nil)))) (mb_one (ms_ret (me_if (mt_cmp L (op_gEqA L.k hrH.units) gEqA_bl (me_xf L.k List.mem_cons_self hz hf (g.xfc hk) (g.xno hk "code" (by decide)) (by rfl) (by first | exact Or.inl rfl | exact Or.inr (Or.inl rfl))) me_str) (me_tup (ma_cons (me_xf L.k List.mem_cons_self hz hf (g.xfc hk) (g.xno hk "most" (by decide)) (by rfl) (by first | exact Or.inl rfl | exact Or.inr (Or.inl rfl))) ma_nil)) (me_tup (ma_cons (me_xf L.k List.mem_cons_self hz hf (g.xfc hk) (g.xno hk "user" (by decide)) (by rfl) (by first | exact Or.inl rfl | exact Or.inr (Or.inl rfl))) ma_nil))))) mb_nil) (mb_cons (ms_if (mt_cmp L (op_gIn L.k) inG_bl (me_xf L.k List.mem_cons_self hz hf (g.xfc hk) (g.xno hk "code" (by decide)) (by rfl) (by first | exact Or.inl rfl | exact Or.inr (Or.inl rfl))) (me_tup (ma_cons me_str (ma_cons me_str ma_nil)))) (mb_one (ms_ret (me_if (mt_cmp L (op_gEqA L.k hrH.units) gEqA_bl (me_xf L.k List.mem_cons_self hz hf (g.xfc hk) (g.xno hk "code" (by decide)) (by rfl) (by first | exact Or.inl rfl | exact Or.inr (Or.inl rfl))) me_str) (me_tup (ma_cons (me_xf L.k List.mem_cons_self hz hf (g.xfc hk) (g.xno hk "word" (by decide)) (by rfl) (by first | exact Or.inl rfl | exact Or.inr (Or.inl rfl))) ma_nil)) (me_tup (ma_cons (me_xf L.k List.mem_cons_self hz hf (g.xfc hk) (g.xno hk "line" (by decide)) (by rfl) (by first | exact Or.inl rfl | exact Or.inr (Or.inl rfl))) ma_nil))))) mb_nil) (mb_one (ms_ret (me_tup ma_nil))))))))))
def smv_law_field : SM := sSeq (sIf (tE (eOp gIn (eXcF [10, 11, 12, 13, 14, 15, 16, 17, 18, 19, 22, 23, 24, 25, 26, 27, 28, 29, 30, 31, 32, 33, 34, 35, 36, 37, 38, 39] "code" (eV 0)) (eTup (aCons (eC (.str "InvalidAlphabet")) (aCons (eC (.str "InvalidLetter")) (aCons (eC (.str "InvalidColor")) (aCons (eC (.str "InvalidWord")) (aCons (eC (.str "InvalidRow")) (aCons (eC (.str "InvalidCount")) aNil))))))))) (sRet (eTup (aCons (eXcF [10, 11, 12, 13, 14, 15, 23, 26, 30] "given" (eV 0)) aNil))) sNil) (sSeq (sIf (tE (eOp gIn (eXcF [10, 11, 12, 13, 14, 15, 16, 17, 18, 19, 22, 23, 24, 25, 26, 27, 28, 29, 30, 31, 32, 33, 34, 35, 36, 37, 38, 39] "code" (eV 0)) (eTup (aCons (eC (.str "InvalidBag")) (aCons (eC (.str "InvalidFar")) (aCons (eC (.str "NotThere")) aNil)))))) (sRet (eTup (aCons (eXcF [10, 11, 12, 13, 14, 15, 23, 26, 30] "given" (eV 0)) aNil))) sNil) (sSeq (sIf (tE (eOp gIn (eXcF [10, 11, 12, 13, 14, 15, 16, 17, 18, 19, 22, 23, 24, 25, 26, 27, 28, 29, 30, 31, 32, 33, 34, 35, 36, 37, 38, 39] "code" (eV 0)) (eTup (aCons (eC (.str "InvalidEntry")) (aCons (eC (.str "LotsDiffer")) aNil))))) (sRet (eTup (aCons (eXcF [19, 28] "at" (eV 0)) aNil))) sNil) (sSeq (sIf (tE (eOp gIn (eXcF [10, 11, 12, 13, 14, 15, 16, 17, 18, 19, 22, 23, 24, 25, 26, 27, 28, 29, 30, 31, 32, 33, 34, 35, 36, 37, 38, 39] "code" (eV 0)) (eTup (aCons (eC (.str "InvalidName")) (aCons (eC (.str "WrongKind")) (aCons (eC (.str "DuplicateName")) (aCons (eC (.str "UnknownName")) aNil))))))) (sRet (eTup (aCons (eXcF [32, 33, 34, 39] "name" (eV 0)) aNil))) sNil) (sSeq (sIf (tE (eOp gEqA (eXcF [10, 11, 12, 13, 14, 15, 16, 17, 18, 19, 22, 23, 24, 25, 26, 27, 28, 29, 30, 31, 32, 33, 34, 35, 36, 37, 38, 39] "code" (eV 0)) (eC (.str "TooMany")))) (sRet (eTup (aCons (eXcF [31] "subject" (eV 0)) (aCons (eXcF [31, 35] "most" (eV 0)) aNil)))) sNil) (sSeq (sIf (tE (eOp gIn (eXcF [10, 11, 12, 13, 14, 15, 16, 17, 18, 19, 22, 23, 24, 25, 26, 27, 28, 29, 30, 31, 32, 33, 34, 35, 36, 37, 38, 39] "code" (eV 0)) (eTup (aCons (eC (.str "InvalidPattern")) (aCons (eC (.str "NotEven")) aNil))))) (sRet (eIf (tE (eOp gEqA (eXcF [10, 11, 12, 13, 14, 15, 16, 17, 18, 19, 22, 23, 24, 25, 26, 27, 28, 29, 30, 31, 32, 33, 34, 35, 36, 37, 38, 39] "code" (eV 0)) (eC (.str "InvalidPattern")))) (eTup (aCons (eXcF [16] "path" (eV 0)) aNil)) (eTup (aCons (eXcF [29] "row" (eV 0)) aNil)))) sNil) (sSeq (sIf (tE (eOp gIn (eXcF [10, 11, 12, 13, 14, 15, 16, 17, 18, 19, 22, 23, 24, 25, 26, 27, 28, 29, 30, 31, 32, 33, 34, 35, 36, 37, 38, 39] "code" (eV 0)) (eTup (aCons (eC (.str "Full")) (aCons (eC (.str "InUse")) aNil))))) (sRet (eIf (tE (eOp gEqA (eXcF [10, 11, 12, 13, 14, 15, 16, 17, 18, 19, 22, 23, 24, 25, 26, 27, 28, 29, 30, 31, 32, 33, 34, 35, 36, 37, 38, 39] "code" (eV 0)) (eC (.str "Full")))) (eTup (aCons (eXcF [31, 35] "most" (eV 0)) aNil)) (eTup (aCons (eXcF [36] "user" (eV 0)) aNil)))) sNil) (sSeq (sIf (tE (eOp gIn (eXcF [10, 11, 12, 13, 14, 15, 16, 17, 18, 19, 22, 23, 24, 25, 26, 27, 28, 29, 30, 31, 32, 33, 34, 35, 36, 37, 38, 39] "code" (eV 0)) (eTup (aCons (eC (.str "InvalidCommand")) (aCons (eC (.str "InvalidPage")) aNil))))) (sRet (eIf (tE (eOp gEqA (eXcF [10, 11, 12, 13, 14, 15, 16, 17, 18, 19, 22, 23, 24, 25, 26, 27, 28, 29, 30, 31, 32, 33, 34, 35, 36, 37, 38, 39] "code" (eV 0)) (eC (.str "InvalidCommand")))) (eTup (aCons (eXcF [37] "word" (eV 0)) aNil)) (eTup (aCons (eXcF [38] "line" (eV 0)) aNil)))) sNil) (sRet (eTup aNil)))))))))
def fm_law_field : FM := bodyM 1 1 smv_law_field
theorem fd_law_field {P : Program} {w : World} {mg : Str → Option Value} {base : Heap} {T : Tb} (g : G P w T.K T.cA mg) : FD P w T mg base 2 g.a_law_field g.d_law_field ["_law_e"] fm_law_field :=
  fd_of g.F_law_field sc_law_field fun cdv A outer s H E hr L hp => mb_cons (ms_if (mt_cmp L (op_gIn L.k) inG_bl (me_excF L.k g.xcf_code (me_v 0)) (me_tup (ma_cons me_str (ma_cons me_str (ma_cons me_str (ma_cons me_str (ma_cons me_str (ma_cons me_str ma_nil)))))))) (mb_one (ms_ret (me_tup (ma_cons (me_excF L.k g.xcf_given (me_v 0)) ma_nil)))) mb_nil) (mb_cons (ms_if (mt_cmp L (op_gIn L.k) inG_bl (me_excF L.k g.xcf_code (me_v 0)) (me_tup (ma_cons me_str (ma_cons me_str (ma_cons me_str ma_nil))))) (mb_one (ms_ret (me_tup (ma_cons (me_excF L.k g.xcf_given (me_v 0)) ma_nil)))) mb_nil) (mb_cons (ms_if (mt_cmp L (op_gIn L.k) inG_bl (me_excF L.k g.xcf_code (me_v 0)) (me_tup (ma_cons me_str (ma_cons me_str ma_nil)))) (mb_one (ms_ret (me_tup (ma_cons (me_excF L.k g.xcf_at (me_v 0)) ma_nil)))) mb_nil) (mb_cons (ms_if (mt_cmp L (op_gIn L.k) inG_bl (me_excF L.k g.xcf_code (me_v 0)) (me_tup (ma_cons me_str (ma_cons me_str (ma_cons me_str (ma_cons me_str ma_nil)))))) (mb_one (ms_ret (me_tup (ma_cons (me_excF L.k g.xcf_name (me_v 0)) ma_nil)))) mb_nil) (mb_cons (ms_if (mt_cmp L (op_gEqA L.k hr.units) gEqA_bl (me_excF L.k g.xcf_code (me_v 0)) me_str) (mb_one (ms_ret (me_tup (ma_cons (me_excF L.k g.xcf_subject (me_v 0)) (ma_cons (me_excF L.k g.xcf_most (me_v 0)) ma_nil))))) mb_nil) (mb_cons (ms_if (mt_cmp L (op_gIn L.k) inG_bl (me_excF L.k g.xcf_code (me_v 0)) (me_tup (ma_cons me_str (ma_cons me_str ma_nil)))) (mb_one (ms_ret (me_if (mt_cmp L (op_gEqA L.k hr.units) gEqA_bl (me_excF L.k g.xcf_code (me_v 0)) me_str) (me_tup (ma_cons (me_excF L.k g.xcf_path (me_v 0)) ma_nil)) (me_tup (ma_cons (me_excF L.k g.xcf_row (me_v 0)) ma_nil))))) mb_nil) (mb_cons (ms_if (mt_cmp L (op_gIn L.k) inG_bl (me_excF L.k g.xcf_code (me_v 0)) (me_tup (ma_cons me_str (ma_cons me_str ma_nil)))) (mb_one (ms_ret (me_if (mt_cmp L (op_gEqA L.k hr.units) gEqA_bl (me_excF L.k g.xcf_code (me_v 0)) me_str) (me_tup (ma_cons (me_excF L.k g.xcf_most (me_v 0)) ma_nil)) (me_tup (ma_cons (me_excF L.k g.xcf_user (me_v 0)) ma_nil))))) mb_nil) (mb_cons (ms_if (mt_cmp L (op_gIn L.k) inG_bl (me_excF L.k g.xcf_code (me_v 0)) (me_tup (ma_cons me_str (ma_cons me_str ma_nil)))) (mb_one (ms_ret (me_if (mt_cmp L (op_gEqA L.k hr.units) gEqA_bl (me_excF L.k g.xcf_code (me_v 0)) me_str) (me_tup (ma_cons (me_excF L.k g.xcf_word (me_v 0)) ma_nil)) (me_tup (ma_cons (me_excF L.k g.xcf_line (me_v 0)) ma_nil))))) mb_nil) (mb_one (ms_ret (me_tup ma_nil))))))))))
def sh_law_try : Er → Store → SR := fun er S => match er.fs with
  | [(f0, .str c), (f1, d1)] => if f0 = "code" ∧ f1 = "given" ∧ c = "InvalidAlphabet" then .nx [none, some (.v (.tup [.str "InvalidAlphabet", .tup [d1]])), none] S else if f0 = "code" ∧ f1 = "given" ∧ c = "InvalidLetter" then .nx [none, some (.v (.tup [.str "InvalidLetter", .tup [d1]])), none] S else .stk
  | _ => .stk
def sx_law_try (a : Addr) (er : Er) : SM := sSet 1 (eTup (aCons (eXf 2 a er "code") (aCons (eCallX 2 a er fx_law_field) aNil)))
theorem fx_InvalidAlphabet (a : Addr) (k : Nat) (d1 : D) (S : Store) : fx_law_field a ⟨k, [("code", .str "InvalidAlphabet"), ("given", d1)]⟩ S = .ok (.v (.tup [d1])) S := by
  have h1 : ∀ S, eXf 0 a ⟨k, [("code", .str "InvalidAlphabet"), ("given", d1)]⟩ "code" (some (.v (.adr a)) :: List.replicate (1 - 1) none) S = .ok (.v (.str "InvalidAlphabet")) S := fun S => eXf_v rfl rfl
  have h2 : ∀ S, eXf 0 a ⟨k, [("code", .str "InvalidAlphabet"), ("given", d1)]⟩ "given" (some (.v (.adr a)) :: List.replicate (1 - 1) none) S = .ok (.v d1) S := fun S => eXf_v rfl rfl
  have e : sm_law_field a ⟨k, [("code", .str "InvalidAlphabet"), ("given", d1)]⟩ (some (.v (.adr a)) :: List.replicate (1 - 1) none) S = .rt (.v (.tup [d1])) S := by
    unfold sm_law_field
    exact fx_hit (by simp only [tE, eOp, eTup, aCons, aNil, eC, h1, R.bind]; rfl) (by simp only [sRet, eTup, aCons, aNil, eC, h1, h2, eIf, tE, eOp, R.bind]; rfl)
  unfold fx_law_field fldM
  rw [e]
  rfl
theorem fx_InvalidLetter (a : Addr) (k : Nat) (d1 : D) (S : Store) : fx_law_field a ⟨k, [("code", .str "InvalidLetter"), ("given", d1)]⟩ S = .ok (.v (.tup [d1])) S := by
  have h1 : ∀ S, eXf 0 a ⟨k, [("code", .str "InvalidLetter"), ("given", d1)]⟩ "code" (some (.v (.adr a)) :: List.replicate (1 - 1) none) S = .ok (.v (.str "InvalidLetter")) S := fun S => eXf_v rfl rfl
  have h2 : ∀ S, eXf 0 a ⟨k, [("code", .str "InvalidLetter"), ("given", d1)]⟩ "given" (some (.v (.adr a)) :: List.replicate (1 - 1) none) S = .ok (.v d1) S := fun S => eXf_v rfl rfl
  have e : sm_law_field a ⟨k, [("code", .str "InvalidLetter"), ("given", d1)]⟩ (some (.v (.adr a)) :: List.replicate (1 - 1) none) S = .rt (.v (.tup [d1])) S := by
    unfold sm_law_field
    exact fx_hit (by simp only [tE, eOp, eTup, aCons, aNil, eC, h1, R.bind]; rfl) (by simp only [sRet, eTup, aCons, aNil, eC, h1, h2, eIf, tE, eOp, R.bind]; rfl)
  unfold fx_law_field fldM
  rw [e]
  rfl
theorem sh_law_try_ok (a : Addr) (er : Er) (S : Store) : sh_law_try er S = .stk ∨ (sx_law_try a er ((List.replicate 3 none).set 2 (some (.v (.adr a)))) S).wipe 2 = sh_law_try er S := by
  obtain ⟨k, fs⟩ := er
  unfold sh_law_try
  simp only
  split
  · rename_i f0 c f1 d1
    split
    · rename_i h; obtain ⟨rfl, rfl, rfl⟩ := h; right
      have h1 : ∀ S, eXf 2 a ⟨k, [("code", .str "InvalidAlphabet"), ("given", d1)]⟩ "code" ((List.replicate 3 none).set 2 (some (.v (.adr a)))) S = .ok (.v (.str "InvalidAlphabet")) S := fun S => eXf_v rfl rfl
      have h2 : ∀ S, eCallX 2 a ⟨k, [("code", .str "InvalidAlphabet"), ("given", d1)]⟩ fx_law_field ((List.replicate 3 none).set 2 (some (.v (.adr a)))) S = .ok (.v (.tup [d1])) S := fun S => (eCallX_v rfl).trans (fx_InvalidAlphabet a k d1 S)
      unfold sx_law_try
      simp only [sSet, eTup, aCons, h1, h2, R.bind]
      rfl
    split
    · rename_i h; obtain ⟨rfl, rfl, rfl⟩ := h; right
      have h1 : ∀ S, eXf 2 a ⟨k, [("code", .str "InvalidLetter"), ("given", d1)]⟩ "code" ((List.replicate 3 none).set 2 (some (.v (.adr a)))) S = .ok (.v (.str "InvalidLetter")) S := fun S => eXf_v rfl rfl
      have h2 : ∀ S, eCallX 2 a ⟨k, [("code", .str "InvalidLetter"), ("given", d1)]⟩ fx_law_field ((List.replicate 3 none).set 2 (some (.v (.adr a)))) S = .ok (.v (.tup [d1])) S := fun S => (eCallX_v rfl).trans (fx_InvalidLetter a k d1 S)
      unfold sx_law_try
      simp only [sSet, eTup, aCons, h1, h2, R.bind]
      rfl
    exact .inl rfl
  · exact .inl rfl
def sm_law_try (lm : Nat → Store → R A) : SM := sSeq (sSet 1 (eTup (aCons (eC (.str "")) (aCons (eC .non) aNil)))) (sSeq (sTry catchE (sSet 1 (eTup (aCons (eC (.str "")) (aCons (eCallFn 0 lm) aNil)))) sh_law_try) (sRet (eV 1)))
def fm_law_try (lm : Nat → Store → R A) : FM := bodyM 1 3 (sm_law_try lm)
theorem sc_law_try : FnScope ["_law_ask", "_law_said", "_law_e"] ["_law_ask"] (defScope s_law_try) := ⟨rfl, rfl, rfl, by decide +kernel, rfl, by decide +kernel, by decide +kernel⟩
theorem fd_law_try {P : Program} {w : World} {mg : Str → Option Value} {base : Heap} {T : Tb} {j : Nat} {lm : Nat → Store → R A} (g : G P w T.K T.cA mg) (hl : ∀ i, LamRun P w T.K mg base T (j + 2) i (lm i)) : FD P w T mg base (j + 3) g.a_law_try g.d_law_try ["_law_ask"] (fm_law_try lm) :=
  fd_of g.F_law_try sc_law_try fun cdv A outer s H E hr L hp => mb_cons (ms_set 1 sc_law_try.nd (me_tup (ma_cons me_str (ma_cons me_non ma_nil)))) (mb_cons (ms_try3 (i := 2) (ms := sx_law_try) L rfl rfl sc_law_try.nd rfl rfl (nm_of (by rfl) g.g_LotError) (nm_of (by rfl) g.g_Missing) (nm_of (by rfl) g.g_NothingLeft) g.hcatch (fun W pn xe L2 hp2 => mb_one (ms_set 1 sc_law_try.nd (me_tup (ma_cons me_str (ma_cons (me_callFn L2 hl hr (by omega) rfl (Or.inl rfl)) ma_nil)))))
    (fun a oe er d pn hz hf hk L2 => mb_one (ms_set 1 sc_law_try.nd (me_tup (ma_cons (me_xf L2.k List.mem_cons_self hz hf (g.xfc hk) (g.xno hk "code" (by decide)) rfl (Or.inl rfl)) (ma_cons (me_callX L2 (fld_law_field g) hk (⟨by have := hr.dp; show A.depth + 1 + 3 * 2 + 5 < _; have h2 : A.depth + 1 + 3 * (j + 2) + 5 < recursionLimit := this; omega, by have := hr.un; show A.units + 3 + 16 * 2 + 200 < _; have h2 : A.units + 3 + 16 * (j + 2) + 200 < cLine := this; omega⟩) List.mem_cons_self hz hf (by rfl) g.g_law_field g.k_law_field g.b_law_field rfl (Or.inl rfl)) ma_nil))))) sh_law_try_ok) (mb_one (ms_ret (me_v 1))))
def sm_law_like (self_ : FM) : SM := sSeq (sIf (tE (eIsiT ["list", "tuple"] (eV 1))) (sSeq (sIf (tOrM (tE (eOp gNeA (eCallB gIsi (aCons (eV 0) (aCons (eC (.ty "list")) aNil))) (eCallB gIsi (aCons (eV 1) (aCons (eC (.ty "list")) aNil))))) (tE (eOp gNeA (eCallB gIsi (aCons (eV 0) (aCons (eC (.ty "tuple")) aNil))) (eCallB gIsi (aCons (eV 1) (aCons (eC (.ty "tuple")) aNil)))))) (sRet (eC (.bl false))) sNil) (sRet (eAnd (eOp gEqA (eCallB gLen (aCons (eV 0) aNil)) (eCallB gLen (aCons (eV 1) aNil))) (eCallB gAll (aCons (eLc [2, 3] (iZipM (aCons (eV 0) (aCons (eV 1) aNil))) (.tp ((.nm 2) :: ((.nm 3) :: []))) tYesM (eCall self_ (aCons (eV 2) (aCons (eV 3) aNil)))) aNil))))) sNil) (sSeq (sIf (tOrM (tE (eOp gIs (eV 1) (eC .non))) (tE (eOp gIs (eV 0) (eC .non)))) (sRet (eAnd (eOp gIs (eV 1) (eC .non)) (eOp gIs (eV 0) (eC .non)))) sNil) (sSeq (sIf (tOrM (tE (eOp gNeA (eCallB gIsi (aCons (eV 1) (aCons (eC (.ty "bool")) aNil))) (eCallB gIsi (aCons (eV 0) (aCons (eC (.ty "bool")) aNil))))) (tE (eOp gNeA (eCallB gIsi (aCons (eV 1) (aCons (eC (.ty "int")) aNil))) (eCallB gIsi (aCons (eV 0) (aCons (eC (.ty "int")) aNil)))))) (sRet (eC (.bl false))) sNil) (sRet (eAnd (eOp gEqA (eCallB gIsi (aCons (eV 1) (aCons (eC (.ty "str")) aNil))) (eCallB gIsi (aCons (eV 0) (aCons (eC (.ty "str")) aNil)))) (eOp gEqA (eV 0) (eV 1))))))
def fm_law_like : Nat → FM
  | 0 => fun _ _ => .stk
  | n + 1 => bodyM 2 4 (sm_law_like (fm_law_like n))
theorem sc_law_like : FnScope ["_law_found", "_law_due", "_law_a", "_law_b"] ["_law_found", "_law_due"] (defScope s_law_like) := ⟨rfl, rfl, rfl, by decide +kernel, rfl, by decide +kernel, by decide +kernel⟩
theorem fd_law_like {P : Program} {w : World} {mg : Str → Option Value} {base : Heap} {T : Tb} (g : G P w T.K T.cA mg) : ∀ {n : Nat}, FD P w T mg base (n + 1) g.a_law_like g.d_law_like ["_law_found", "_law_due"] (fm_law_like n)
  | 0 => FD.none
  | n + 1 => by
    have self_ok : FD P w T mg base (n + 1) g.a_law_like g.d_law_like ["_law_found", "_law_due"] (fm_law_like n) := fd_law_like g
    exact (fd_of g.F_law_like sc_law_like fun cdv A outer s H E hr L hp => mb_cons (ms_if (mt_e L (me_isiT L.k (by rfl) g.z_isinstance (me_v 1) ⟨_, _, rfl, pe_bltn (by rfl) g.z_list (by rfl) rfl (by decide) (by decide), by rfl, ⟨_, _, rfl, pe_bltn (by rfl) g.z_tuple (by rfl) rfl (by decide) (by decide), by rfl, rfl⟩⟩ (by decide))) (mb_cons (ms_if (mt_w (mw_or (mt_cmp L (op_gNeA L.k hr.units) gNeA_bl (me_callB (call_gIsi L.k) (by rfl) g.z_isinstance (by rfl) (ma_cons (me_v 0) (ma_cons (me_ty (by rfl) g.z_list (by rfl)) ma_nil))) (me_callB (call_gIsi L.k) (by rfl) g.z_isinstance (by rfl) (ma_cons (me_v 1) (ma_cons (me_ty (by rfl) g.z_list (by rfl)) ma_nil)))) (mw_or1 (mt_cmp L (op_gNeA L.k hr.units) gNeA_bl (me_callB (call_gIsi L.k) (by rfl) g.z_isinstance (by rfl) (ma_cons (me_v 0) (ma_cons (me_ty (by rfl) g.z_tuple (by rfl)) ma_nil))) (me_callB (call_gIsi L.k) (by rfl) g.z_isinstance (by rfl) (ma_cons (me_v 1) (ma_cons (me_ty (by rfl) g.z_tuple (by rfl)) ma_nil))))))) (mb_one (ms_ret me_bl)) mb_nil) (mb_one (ms_ret (me_and L (me_cmp (op_gEqA L.k hr.units) (me_callB (call_gLen L.k) (by rfl) g.z_len (by rfl) (ma_cons (me_v 0) ma_nil)) (me_callB (call_gLen L.k) (by rfl) g.z_len (by rfl) (ma_cons (me_v 1) ma_nil))) (me_one (me_callB (call_gAll L.k (by rfl)) (by rfl) g.z_all (by rfl) (ma_cons (me_lc (own := [("_law_a", 2), ("_law_b", 3)]) (by rfl) sc_law_like.nd (blkOk_by (by show blkC ["_law_found", "_law_due", "_law_a", "_law_b"] (defScope s_law_like) _ [("_law_a", 2), ("_law_b", 3)] = true; decide +kernel)) (mi_zip L.k (by rfl) g.z_zip (ma_cons (me_v 0) (ma_cons (me_v 1) ma_nil))) (fun _ _ _ _ _ => (mg_tp (lv0 (by rfl)).k (by rfl) (mgs_cons (mg_nm 2 sc_law_like.nd) (mgs_cons (mg_nm 3 sc_law_like.nd) mgs_nil)))) (fun _ _ _ _ _ => mts_nil) (fun _ _ _ _ _ => me_call (lv0 (by rfl)) self_ok (hr.mono (by omega)) (by rfl) g.g_law_like g.k_law_like g.b_law_like (ma_cons (me_v 2) (ma_cons (me_v 3) ma_nil)))) ma_nil))))))) mb_nil) (mb_cons (ms_if (mt_w (mw_or (mt_cmp L (op_gIs) gIs_bl (me_v 1) me_non) (mw_or1 (mt_cmp L (op_gIs) gIs_bl (me_v 0) me_non)))) (mb_one (ms_ret (me_and L (me_cmp (op_gIs) (me_v 1) me_non) (me_one (me_cmp (op_gIs) (me_v 0) me_non))))) mb_nil) (mb_cons (ms_if (mt_w (mw_or (mt_cmp L (op_gNeA L.k hr.units) gNeA_bl (me_callB (call_gIsi L.k) (by rfl) g.z_isinstance (by rfl) (ma_cons (me_v 1) (ma_cons (me_ty (by rfl) g.z_bool (by rfl)) ma_nil))) (me_callB (call_gIsi L.k) (by rfl) g.z_isinstance (by rfl) (ma_cons (me_v 0) (ma_cons (me_ty (by rfl) g.z_bool (by rfl)) ma_nil)))) (mw_or1 (mt_cmp L (op_gNeA L.k hr.units) gNeA_bl (me_callB (call_gIsi L.k) (by rfl) g.z_isinstance (by rfl) (ma_cons (me_v 1) (ma_cons (me_ty (by rfl) g.z_int (by rfl)) ma_nil))) (me_callB (call_gIsi L.k) (by rfl) g.z_isinstance (by rfl) (ma_cons (me_v 0) (ma_cons (me_ty (by rfl) g.z_int (by rfl)) ma_nil))))))) (mb_one (ms_ret me_bl)) mb_nil) (mb_one (ms_ret (me_and L (me_cmp (op_gEqA L.k hr.units) (me_callB (call_gIsi L.k) (by rfl) g.z_isinstance (by rfl) (ma_cons (me_v 1) (ma_cons (me_ty (by rfl) g.z_str (by rfl)) ma_nil))) (me_callB (call_gIsi L.k) (by rfl) g.z_isinstance (by rfl) (ma_cons (me_v 0) (ma_cons (me_ty (by rfl) g.z_str (by rfl)) ma_nil)))) (me_one (me_cmp (op_gEqA L.k hr.units) (me_v 0) (me_v 1)))))))))
def sm_Alphabet_contains : SM := sRet (eAnd (eCallB gIsi (aCons (eV 1) (aCons (eC (.ty "str")) aNil))) (eAnd (eOp gEqA (eCallB gLen (aCons (eV 1) aNil)) (eC (.int 1))) (eOp gIn (eV 1) (eFld [0] "own_letters" (eV 0)))))
def fm_Alphabet_contains : FM := bodyM 2 2 sm_Alphabet_contains
theorem sc_Alphabet_contains : FnScope ["self", "value"] ["self", "value"] (defScope s_Alphabet_contains) := ⟨rfl, rfl, rfl, by decide +kernel, rfl, by decide +kernel, by decide +kernel⟩
theorem fd_Alphabet_contains {P : Program} {w : World} {mg : Str → Option Value} {base : Heap} {T : Tb} (g : G P w T.K T.cA mg) : FD P w T mg base 2 g.a_Alphabet_contains g.d_Alphabet_contains ["self", "value"] fm_Alphabet_contains :=
  fd_of g.F_Alphabet_contains sc_Alphabet_contains fun cdv A outer s H E hr L hp => mb_one (ms_ret (me_and L (me_callB (call_gIsi L.k) (by rfl) g.z_isinstance (by rfl) (ma_cons (me_v 1) (ma_cons (me_ty (by rfl) g.z_str (by rfl)) ma_nil))) (me_and L (me_cmp (op_gEqA L.k hr.units) (me_callB (call_gLen L.k) (by rfl) g.z_len (by rfl) (ma_cons (me_v 1) ma_nil)) me_int) (me_one (me_cmp (op_gIn L.k) (me_v 1) (me_fld L.k g.fl_0_own_letters (me_v 0)))))))
def int_Alphabet : Nat → Option FM := fun k => if k = 0 then some fm_Alphabet_contains else none
theorem own_int_Alphabet {X : Cx} {T : Tb} (g : G X.prog X.w T.K T.cA X.mg) (hK : X.K = T.K := by rfl) : OwnT X T "__contains__" 2 int_Alphabet := fun k fM h => by
  unfold int_Alphabet at h
  have key : ∀ K, K = T.K → ∃ f fd ps, Cls K (T.cA k) ∧ Meth K (T.cA k) "__contains__" f ∧ FnOk X.prog X.w K X.mg X.base (CXB T.nn X.prog X.w) 2 f fd ps (spD T fM) ∧ Binds K fd ps [] := by
    rintro _ rfl
    split at h
    · rename_i hk; subst hk; cases h; exact ⟨_, _, _, g.cl_Alphabet, g.m_Alphabet_contains, FnOk.mono (fd_Alphabet_contains (base := X.base) g) (by decide : 2 ≤ 2), g.b_Alphabet_contains⟩
    cases h
  exact key _ hK
def sm_Alphabet_color : SM := sSeq (sIf (tE (eOpM (gInM int_Alphabet (!·) gNotIn) (eV 1) (eV 0))) (sRaise 11 1 [("given", .inl 0), ("code", .inr "InvalidLetter")] (aCons (eV 1) aNil)) sNil) (sRet (eCallB gInt (aCons (eOp gIx (eFld [0] "own_digits" (eV 0)) (eMet "str" gSIndex (eFld [0] "own_letters" (eV 0)) (aCons (eV 1) aNil))) aNil)))
def fm_Alphabet_color : FM := bodyM 2 2 sm_Alphabet_color
theorem sc_Alphabet_color : FnScope ["self", "letter"] ["self", "letter"] (defScope s_Alphabet_color) := ⟨rfl, rfl, rfl, by decide +kernel, rfl, by decide +kernel, by decide +kernel⟩
theorem fd_Alphabet_color {P : Program} {w : World} {mg : Str → Option Value} {base : Heap} {T : Tb} (g : G P w T.K T.cA mg) : FD P w T mg base 3 g.a_Alphabet_color g.d_Alphabet_color ["self", "letter"] fm_Alphabet_color :=
  fd_of g.F_Alphabet_color sc_Alphabet_color fun cdv A outer s H E hr L hp => mb_cons (ms_if (mt_cmpM L (op_gNotInM L (hr.mono (by first | decide | omega)) (own_int_Alphabet g) (op_gNotIn L.k)) (gInM_bl inG_bl) (me_v 1) (me_v 0)) (mb_one (ms_raiseE L (by rfl) g.x_InvalidLetter (hr.mono (by first | decide | omega)) (by rfl) g.g_InvalidLetter (ma_cons (me_v 1) ma_nil))) mb_nil) (mb_one (ms_ret (me_callTy call_gInt (by rfl) g.z_int (by rfl) (ma_cons (me_ix L.k (me_fld L.k g.fl_0_own_digits (me_v 0)) (me_met L.k (.inr rfl) F.plainAttrs_str F.slot_str_index F.type_str_index met_sindex (me_fld L.k g.fl_0_own_letters (me_v 0)) (ma_cons (me_v 1) ma_nil))) ma_nil))))
def sm_are_digits : SM := sRet (eAnd (eCallB gIsi (aCons (eV 0) (aCons (eC (.ty "str")) aNil))) (eAnd (eOp gEqA (eCallB gLen (aCons (eV 0) aNil)) (eV 1)) (eCallB gAll (aCons (eLc [2] (iStr (eV 0)) (.nm 2) tYesM (eOp gIn (eV 2) (eC (.str "123")))) aNil))))
def fm_are_digits : FM := bodyM 2 3 sm_are_digits
theorem sc_are_digits : FnScope ["value", "many", "sign"] ["value", "many"] (defScope s_are_digits) := ⟨rfl, rfl, rfl, by decide +kernel, rfl, by decide +kernel, by decide +kernel⟩
theorem fd_are_digits {P : Program} {w : World} {mg : Str → Option Value} {base : Heap} {T : Tb} (g : G P w T.K T.cA mg) : FD P w T mg base 2 g.a_are_digits g.d_are_digits ["value", "many"] fm_are_digits :=
  fd_of g.F_are_digits sc_are_digits fun cdv A outer s H E hr L hp => mb_one (ms_ret (me_and L (me_callB (call_gIsi L.k) (by rfl) g.z_isinstance (by rfl) (ma_cons (me_v 0) (ma_cons (me_ty (by rfl) g.z_str (by rfl)) ma_nil))) (me_and L (me_cmp (op_gEqA L.k hr.units) (me_callB (call_gLen L.k) (by rfl) g.z_len (by rfl) (ma_cons (me_v 0) ma_nil)) (me_v 1)) (me_one (me_callB (call_gAll L.k (by rfl)) (by rfl) g.z_all (by rfl) (ma_cons (me_lc (own := [("sign", 2)]) (by rfl) sc_are_digits.nd (blkOk_by (by show blkC ["value", "many", "sign"] (defScope s_are_digits) _ [("sign", 2)] = true; decide +kernel)) (mi_str (me_v 0)) (fun _ _ _ _ _ => (mg_nm 2 sc_are_digits.nd)) (fun _ _ _ _ _ => mts_nil) (fun _ _ _ _ _ => me_cmp (op_gIn (lv0 (by rfl)).k) (me_v 2) me_str)) ma_nil))))))
def sm_is_small : SM := sRet (eAnd (eCallB gIsi (aCons (eV 0) (aCons (eC (.ty "str")) aNil))) (eCallB gAll (aCons (eLc [1] (iStr (eV 0)) (.nm 1) tYesM (eOp gIn (eV 1) (eC (.str "abcdefghijklmnopqrstuvwxyz")))) aNil)))
def fm_is_small : FM := bodyM 1 2 sm_is_small
theorem sc_is_small : FnScope ["value", "sign"] ["value"] (defScope s_is_small) := ⟨rfl, rfl, rfl, by decide +kernel, rfl, by decide +kernel, by decide +kernel⟩
theorem fd_is_small {P : Program} {w : World} {mg : Str → Option Value} {base : Heap} {T : Tb} (g : G P w T.K T.cA mg) : FD P w T mg base 2 g.a_is_small g.d_is_small ["value"] fm_is_small :=
  fd_of g.F_is_small sc_is_small fun cdv A outer s H E hr L hp => mb_one (ms_ret (me_and L (me_callB (call_gIsi L.k) (by rfl) g.z_isinstance (by rfl) (ma_cons (me_v 0) (ma_cons (me_ty (by rfl) g.z_str (by rfl)) ma_nil))) (me_one (me_callB (call_gAll L.k (by rfl)) (by rfl) g.z_all (by rfl) (ma_cons (me_lc (own := [("sign", 1)]) (by rfl) sc_is_small.nd (blkOk_by (by show blkC ["value", "sign"] (defScope s_is_small) _ [("sign", 1)] = true; decide +kernel)) (mi_str (me_v 0)) (fun _ _ _ _ _ => (mg_nm 1 sc_is_small.nd)) (fun _ _ _ _ _ => mts_nil) (fun _ _ _ _ _ => me_cmp (op_gIn (lv0 (by rfl)).k) (me_v 1) (me_g (d := (.str "abcdefghijklmnopqrstuvwxyz")) (fun _ _ => by simp only [Rep]) (by rfl) g.cm_SMALL g.cr_SMALL))) ma_nil)))))
def sm_are_letters : SM := sRet (eAnd (eCall fm_is_small (aCons (eV 0) aNil)) (eAnd (eChain gLe gLe (eC (.int 1)) (eCallB gLen (aCons (eV 0) aNil)) (eC (.int 8))) (eCallB gAll (aCons (eLc [1, 2] (iZipM (aCons (eV 0) (aCons (eSl (eV 0) (oSome (eC (.int 1))) oNone) aNil))) (.tp ((.nm 1) :: ((.nm 2) :: []))) tYesM (eOp gLt (eV 1) (eV 2))) aNil))))
def fm_are_letters : FM := bodyM 1 3 sm_are_letters
theorem sc_are_letters : FnScope ["value", "one", "other"] ["value"] (defScope s_are_letters) := ⟨rfl, rfl, rfl, by decide +kernel, rfl, by decide +kernel, by decide +kernel⟩
theorem fd_are_letters {P : Program} {w : World} {mg : Str → Option Value} {base : Heap} {T : Tb} (g : G P w T.K T.cA mg) : FD P w T mg base 3 g.a_are_letters g.d_are_letters ["value"] fm_are_letters :=
  fd_of g.F_are_letters sc_are_letters fun cdv A outer s H E hr L hp => mb_one (ms_ret (me_and L (me_call L (fd_is_small g) (hr.mono (by first | decide | omega)) (by rfl) g.g_is_small g.k_is_small g.b_is_small (ma_cons (me_v 0) ma_nil)) (me_and L (me_chain (op_gLe) (op_gLe) me_int (me_callB (call_gLen L.k) (by rfl) g.z_len (by rfl) (ma_cons (me_v 0) ma_nil)) (me_g (d := (.int 8)) (fun _ _ => by simp only [Rep]) (by rfl) g.cm_MOST_LETTERS g.cr_MOST_LETTERS)) (me_one (me_callB (call_gAll L.k (by rfl)) (by rfl) g.z_all (by rfl) (ma_cons (me_lc (own := [("one", 1), ("other", 2)]) (by rfl) sc_are_letters.nd (blkOk_by (by show blkC ["value", "one", "other"] (defScope s_are_letters) _ [("one", 1), ("other", 2)] = true; decide +kernel)) (mi_zip L.k (by rfl) g.z_zip (ma_cons (me_v 0) (ma_cons (me_slice L.k (me_v 0) (mo_some me_int) mo_none) ma_nil))) (fun _ _ _ _ _ => (mg_tp (lv0 (by rfl)).k (by rfl) (mgs_cons (mg_nm 1 sc_are_letters.nd) (mgs_cons (mg_nm 2 sc_are_letters.nd) mgs_nil)))) (fun _ _ _ _ _ => mts_nil) (fun _ _ _ _ _ => me_cmp (op_gLt) (me_v 1) (me_v 2))) ma_nil))))))
def sm_Alphabet_init : SM := sSeq (sIf (tNotM (tE (eCall fm_are_letters (aCons (eV 1) aNil)))) (sRaise 10 1 [("given", .inl 0), ("code", .inr "InvalidAlphabet")] (aCons (eV 1) aNil)) sNil) (sSeq (sIf (tNotM (tE (eCall fm_are_digits (aCons (eV 2) (aCons (eCallB gLen (aCons (eV 1) aNil)) aNil))))) (sRaise 10 1 [("given", .inl 0), ("code", .inr "InvalidAlphabet")] (aCons (eV 2) aNil)) sNil) (sSeq (sFldM [0] "own_letters" (eV 0) (eV 1)) (sFldM [0] "own_digits" (eV 0) (eV 2))))
def fm_Alphabet_init : FM := bodyM 3 3 sm_Alphabet_init
theorem sc_Alphabet_init : FnScope ["self", "letters", "colors"] ["self", "letters", "colors"] (defScope s_Alphabet_init) := ⟨rfl, rfl, rfl, by decide +kernel, rfl, by decide +kernel, by decide +kernel⟩
theorem fd_Alphabet_init {P : Program} {w : World} {mg : Str → Option Value} {base : Heap} {T : Tb} (g : G P w T.K T.cA mg) : FD P w T mg base 4 g.a_Alphabet_init g.d_Alphabet_init ["self", "letters", "colors"] fm_Alphabet_init :=
  fd_of g.F_Alphabet_init sc_Alphabet_init fun cdv A outer s H E hr L hp => mb_cons (ms_if (mt_not (mt_e L (me_call L (fd_are_letters g) (hr.mono (by first | decide | omega)) (by rfl) g.g_are_letters g.k_are_letters g.b_are_letters (ma_cons (me_v 1) ma_nil)))) (mb_one (ms_raiseE L (by rfl) g.x_InvalidAlphabet (hr.mono (by first | decide | omega)) (by rfl) g.g_InvalidAlphabet (ma_cons (me_v 1) ma_nil))) mb_nil) (mb_cons (ms_if (mt_not (mt_e L (me_call L (fd_are_digits g) (hr.mono (by first | decide | omega)) (by rfl) g.g_are_digits g.k_are_digits g.b_are_digits (ma_cons (me_v 2) (ma_cons (me_callB (call_gLen L.k) (by rfl) g.z_len (by rfl) (ma_cons (me_v 1) ma_nil)) ma_nil))))) (mb_one (ms_raiseE L (by rfl) g.x_InvalidAlphabet (hr.mono (by first | decide | omega)) (by rfl) g.g_InvalidAlphabet (ma_cons (me_v 2) ma_nil))) mb_nil) (mb_cons (ms_fld L.k g.fl_0_own_letters (me_v 0) (me_v 1)) (mb_one (ms_fld L.k g.fl_0_own_digits (me_v 0) (me_v 2)))))
def sm_Alphabet_plain : SM := sRet (eMake 0 fm_Alphabet_init (aCons (eV 0) (aCons (eIf (tE (eCall fm_are_letters (aCons (eV 0) aNil))) (eOp gMul (eC (.str "1")) (eCallB gLen (aCons (eV 0) aNil))) (eC (.str ""))) aNil)))
def fm_Alphabet_plain : FM := bodyM 1 1 sm_Alphabet_plain
theorem sc_Alphabet_plain : FnScope ["letters"] ["letters"] (defScope s_Alphabet_plain) := ⟨rfl, rfl, rfl, by decide +kernel, rfl, by decide +kernel, by decide +kernel⟩
theorem fd_Alphabet_plain {P : Program} {w : World} {mg : Str → Option Value} {base : Heap} {T : Tb} (g : G P w T.K T.cA mg) : FD P w T mg base 6 g.a_Alphabet_plain g.d_Alphabet_plain ["letters"] fm_Alphabet_plain :=
  fd_of g.F_Alphabet_plain sc_Alphabet_plain fun cdv A outer s H E hr L hp => mb_one (ms_ret (me_make L g.mk_Alphabet (fd_Alphabet_init g) (hr.mono (by first | decide | omega)) (by rfl) g.g_Alphabet g.b_Alphabet_init (ma_cons (me_v 0) (ma_cons (me_if (mt_e L (me_call L (fd_are_letters g) (hr.mono (by first | decide | omega)) (by rfl) g.g_are_letters g.k_are_letters g.b_are_letters (ma_cons (me_v 0) ma_nil))) (me_op op_gMul me_str (me_callB (call_gLen L.k) (by rfl) g.z_len (by rfl) (ma_cons (me_v 0) ma_nil))) me_str) ma_nil))))
def sm_law_pick : SM := sSeq (sIx (eV 0) (eC (.int 4)) (eOp gAdd (eOp gIx (eV 0) (eC (.int 4))) (eC (.int 1)))) (sSeq (sIf (tAndM (tE (eOp gEqA (eOp gIx (eV 0) (eC (.int 2))) (eC (.int 0)))) (tE (eOp gLt (eOp gIx (eV 0) (eC (.int 1))) (eCallB gLen (aCons (eOp gIx (eV 0) (eC (.int 0))) aNil))))) (sSeq (sSet 2 (eOp gIx (eOp gIx (eV 0) (eC (.int 0))) (eOp gIx (eV 0) (eC (.int 1))))) (sSeq (sIx (eV 0) (eC (.int 1)) (eOp gAdd (eOp gIx (eV 0) (eC (.int 1))) (eC (.int 1)))) (sIf (tE (eOp gGe (eV 2) (eOp gPow (eC (.int 10)) (eC (.int 18))))) (sIx (eV 0) (eC (.int 2)) (eV 2)) (sIx (eV 0) (eC (.int 3)) (eOp gMod (eCallB gInt (aCons (eOp gAdd (eOp gAdd (eOp gMul (eOp gIx (eV 0) (eC (.int 3))) (eC (.int 39251))) (eOp gMul (eOp gMod (eCallB gInt (aCons (eV 2) aNil)) (eC (.int 2147483563))) (eC (.int 40427)))) (eC (.int 43))) aNil)) (eC (.int 2147483629))))))) sNil) (sSeq (sIf (tE (eOp gGt (eOp gIx (eV 0) (eC (.int 2))) (eC (.int 0)))) (sSeq (sSet 3 (eOp gMod (eCallB gInt (aCons (eOp gIx (eV 0) (eC (.int 2))) aNil)) (eV 1))) (sSeq (sIx (eV 0) (eC (.int 2)) (eOp gFdiv (eOp gIx (eV 0) (eC (.int 2))) (eV 1))) (sRet (eV 3)))) sNil) (sSeq (sSet 4 (eOp gIx (eV 0) (eC (.int 3)))) (sSeq (sIx (eV 0) (eC (.int 3)) (eOp gMod (eCallB gInt (aCons (eOp gAdd (eOp gAdd (eOp gAdd (eOp gPow (eV 4) (eC (.int 3))) (eOp gMul (eV 4) (eC (.int 38557)))) (eOp gMul (eOp gIx (eV 0) (eC (.int 4))) (eC (.int 1299709)))) (eC (.int 65293))) aNil)) (eC (.int 2147483629)))) (sRet (eOp gMod (eCallB gInt (aCons (eOp gAdd (eOp gFdiv (eOp gIx (eV 0) (eC (.int 3))) (eC (.int 89))) (eOp gMul (eOp gMod (eCallB gInt (aCons (eOp gIx (eV 0) (eC (.int 3))) aNil)) (eC (.int 7933))) (eC (.int 59)))) aNil)) (eV 1)))))))
def fm_law_pick : FM := bodyM 2 5 sm_law_pick
theorem sc_law_pick : FnScope ["_law_hand_here", "_law_sides", "_law_cell", "_law_digit", "_law_seed"] ["_law_hand_here", "_law_sides"] (defScope s_law_pick) := ⟨rfl, rfl, rfl, by decide +kernel, rfl, by decide +kernel, by decide +kernel⟩
theorem fd_law_pick {P : Program} {w : World} {mg : Str → Option Value} {base : Heap} {T : Tb} (g : G P w T.K T.cA mg) : FD P w T mg base 2 g.a_law_pick g.d_law_pick ["_law_hand_here", "_law_sides"] fm_law_pick :=
  fd_of g.F_law_pick sc_law_pick fun cdv A outer s H E hr L hp => mb_cons (ms_ix (me_v 0) me_int (me_op (op_gAdd L.k) (me_ix L.k (me_v 0) me_int) me_int)) (mb_cons (ms_if (mt_w (mw_and (mt_cmp L (op_gEqA L.k hr.units) gEqA_bl (me_ix L.k (me_v 0) me_int) me_int) (mw_and1 (mt_cmp L (op_gLt) gLt_bl (me_ix L.k (me_v 0) me_int) (me_callB (call_gLen L.k) (by rfl) g.z_len (by rfl) (ma_cons (me_ix L.k (me_v 0) me_int) ma_nil)))))) (mb_cons (ms_set 2 sc_law_pick.nd (me_ix L.k (me_ix L.k (me_v 0) me_int) (me_ix L.k (me_v 0) me_int))) (mb_cons (ms_ix (me_v 0) me_int (me_op (op_gAdd L.k) (me_ix L.k (me_v 0) me_int) me_int)) (mb_one (ms_if (mt_cmp L (op_gGe) gGe_bl (me_v 2) (me_op op_gPow me_int me_int)) (mb_one (ms_ix (me_v 0) me_int (me_v 2))) (mb_one (ms_ix (me_v 0) me_int (me_op op_gMod (me_callTy call_gInt (by rfl) g.z_int (by rfl) (ma_cons (me_op (op_gAdd L.k) (me_op (op_gAdd L.k) (me_op op_gMul (me_ix L.k (me_v 0) me_int) me_int) (me_op op_gMul (me_op op_gMod (me_callTy call_gInt (by rfl) g.z_int (by rfl) (ma_cons (me_v 2) ma_nil)) me_int) me_int)) me_int) ma_nil)) me_int))))))) mb_nil) (mb_cons (ms_if (mt_cmp L (op_gGt) gGt_bl (me_ix L.k (me_v 0) me_int) me_int) (mb_cons (ms_set 3 sc_law_pick.nd (me_op op_gMod (me_callTy call_gInt (by rfl) g.z_int (by rfl) (ma_cons (me_ix L.k (me_v 0) me_int) ma_nil)) (me_v 1))) (mb_cons (ms_ix (me_v 0) me_int (me_op op_gFdiv (me_ix L.k (me_v 0) me_int) (me_v 1))) (mb_one (ms_ret (me_v 3))))) mb_nil) (mb_cons (ms_set 4 sc_law_pick.nd (me_ix L.k (me_v 0) me_int)) (mb_cons (ms_ix (me_v 0) me_int (me_op op_gMod (me_callTy call_gInt (by rfl) g.z_int (by rfl) (ma_cons (me_op (op_gAdd L.k) (me_op (op_gAdd L.k) (me_op (op_gAdd L.k) (me_op op_gPow (me_v 4) me_int) (me_op op_gMul (me_v 4) me_int)) (me_op op_gMul (me_ix L.k (me_v 0) me_int) me_int)) me_int) ma_nil)) me_int)) (mb_one (ms_ret (me_op op_gMod (me_callTy call_gInt (by rfl) g.z_int (by rfl) (ma_cons (me_op (op_gAdd L.k) (me_op op_gFdiv (me_ix L.k (me_v 0) me_int) me_int) (me_op op_gMul (me_op op_gMod (me_callTy call_gInt (by rfl) g.z_int (by rfl) (ma_cons (me_ix L.k (me_v 0) me_int) ma_nil)) me_int) me_int)) ma_nil)) (me_v 1))))))))
def sm_law_of : SM := sRet (eOp gIx (eV 1) (eCall fm_law_pick (aCons (eV 0) (aCons (eCallB gLen (aCons (eV 1) aNil)) aNil))))
def fm_law_of : FM := bodyM 2 2 sm_law_of
theorem sc_law_of : FnScope ["_law_hand_here", "_law_things"] ["_law_hand_here", "_law_things"] (defScope s_law_of) := ⟨rfl, rfl, rfl, by decide +kernel, rfl, by decide +kernel, by decide +kernel⟩
theorem fd_law_of {P : Program} {w : World} {mg : Str → Option Value} {base : Heap} {T : Tb} (g : G P w T.K T.cA mg) : FD P w T mg base 3 g.a_law_of g.d_law_of ["_law_hand_here", "_law_things"] fm_law_of :=
  fd_of g.F_law_of sc_law_of fun cdv A outer s H E hr L hp => mb_one (ms_ret (me_ix L.k (me_v 1) (me_call L (fd_law_pick g) (hr.mono (by first | decide | omega)) (by rfl) g.g_law_pick g.k_law_pick g.b_law_pick (ma_cons (me_v 0) (ma_cons (me_callB (call_gLen L.k) (by rfl) g.z_len (by rfl) (ma_cons (me_v 1) ma_nil)) ma_nil)))))
def sm_law_made_right : SM := sRet (eAnd (eCall (fm_law_like 8) (aCons (eLst (aCons (eXcF [10, 11, 12, 13, 14, 15, 16, 17, 18, 19, 22, 23, 24, 25, 26, 27, 28, 29, 30, 31, 32, 33, 34, 35, 36, 37, 38, 39] "code" (eV 0)) (aCons (eCall fm_law_field (aCons (eV 0) aNil)) aNil))) (aCons (eLst (aCons (eV 1) (aCons (eV 2) aNil))) aNil))) (eCallB (gIsiX (isxT isxl)) (aCons (eV 0) (aCons (eC (.cls 20)) aNil))))
def fm_law_made_right : FM := bodyM 3 3 sm_law_made_right
theorem sc_law_made_right : FnScope ["_law_error", "_law_code", "_law_due"] ["_law_error", "_law_code", "_law_due"] (defScope s_law_made_right) := ⟨rfl, rfl, rfl, by decide +kernel, rfl, by decide +kernel, by decide +kernel⟩
theorem fd_law_made_right {P : Program} {w : World} {mg : Str → Option Value} {base : Heap} {T : Tb} (g : G P w T.K T.cA mg) : FD P w T mg base 11 g.a_law_made_right g.d_law_made_right ["_law_error", "_law_code", "_law_due"] fm_law_made_right :=
  fd_of g.F_law_made_right sc_law_made_right fun cdv A outer s H E hr L hp => mb_one (ms_ret (me_and L (me_call L (fd_law_like (n := 8) g) (hr.mono (by first | decide | omega)) (by rfl) g.g_law_like g.k_law_like g.b_law_like (ma_cons (me_lst (ma_cons (me_excF L.k g.xcf_code (me_v 0)) (ma_cons (me_call L (fd_law_field g) (hr.mono (by first | decide | omega)) (by rfl) g.g_law_field g.k_law_field g.b_law_field (ma_cons (me_v 0) ma_nil)) ma_nil))) (ma_cons (me_lst (ma_cons (me_v 1) (ma_cons (me_v 2) ma_nil))) ma_nil))) (me_one (me_callB (call_gIsiX L.k (g.isx1 _ rfl rfl)) (by rfl) g.z_isinstance (by rfl) (ma_cons (me_v 0) (ma_cons (me_cls 20 (by rfl) g.g_LotError) ma_nil))))))
def sm_law_given : SM := sSeq (sSet 1 (eLst (aCons (eTup (aCons (eExcV 10 1 0 1 [0] [("given", .inl 0), ("code", .inr "InvalidAlphabet")] (aCons (eV 0) aNil) aNil) (aCons (eExcV 10 0 1 1 [0] [("given", .inl 0), ("code", .inr "InvalidAlphabet")] aNil (aCons (eV 0) aNil)) (aCons (eC (.str "InvalidAlphabet")) aNil)))) (aCons (eTup (aCons (eExcV 11 1 0 1 [0] [("given", .inl 0), ("code", .inr "InvalidLetter")] (aCons (eV 0) aNil) aNil) (aCons (eExcV 11 0 1 1 [0] [("given", .inl 0), ("code", .inr "InvalidLetter")] aNil (aCons (eV 0) aNil)) (aCons (eC (.str "InvalidLetter")) aNil)))) (aCons (eTup (aCons (eExcV 12 1 0 1 [0] [("given", .inl 0), ("code", .inr "InvalidColor")] (aCons (eV 0) aNil) aNil) (aCons (eExcV 12 0 1 1 [0] [("given", .inl 0), ("code", .inr "InvalidColor")] aNil (aCons (eV 0) aNil)) (aCons (eC (.str "InvalidColor")) aNil)))) (aCons (eTup (aCons (eExcV 13 1 0 1 [0] [("given", .inl 0), ("code", .inr "InvalidWord")] (aCons (eV 0) aNil) aNil) (aCons (eExcV 13 0 1 1 [0] [("given", .inl 0), ("code", .inr "InvalidWord")] aNil (aCons (eV 0) aNil)) (aCons (eC (.str "InvalidWord")) aNil)))) aNil)))))) (sSeq (sSet 1 (eOp gAdd (eV 1) (eLst (aCons (eTup (aCons (eExcV 14 1 0 1 [0] [("given", .inl 0), ("code", .inr "InvalidRow")] (aCons (eV 0) aNil) aNil) (aCons (eExcV 14 0 1 1 [0] [("given", .inl 0), ("code", .inr "InvalidRow")] aNil (aCons (eV 0) aNil)) (aCons (eC (.str "InvalidRow")) aNil)))) (aCons (eTup (aCons (eExcV 15 1 0 1 [0] [("given", .inl 0), ("code", .inr "InvalidCount")] (aCons (eV 0) aNil) aNil) (aCons (eExcV 15 0 1 1 [0] [("given", .inl 0), ("code", .inr "InvalidCount")] aNil (aCons (eV 0) aNil)) (aCons (eC (.str "InvalidCount")) aNil)))) (aCons (eTup (aCons (eExcV 23 1 0 1 [0] [("given", .inl 0), ("code", .inr "InvalidBag")] (aCons (eV 0) aNil) aNil) (aCons (eExcV 23 0 1 1 [0] [("given", .inl 0), ("code", .inr "InvalidBag")] aNil (aCons (eV 0) aNil)) (aCons (eC (.str "InvalidBag")) aNil)))) (aCons (eTup (aCons (eExcV 26 1 0 1 [0] [("given", .inl 0), ("code", .inr "InvalidFar")] (aCons (eV 0) aNil) aNil) (aCons (eExcV 26 0 1 1 [0] [("given", .inl 0), ("code", .inr "InvalidFar")] aNil (aCons (eV 0) aNil)) (aCons (eC (.str "InvalidFar")) aNil)))) (aCons (eTup (aCons (eExcV 30 1 0 1 [0] [("given", .inl 0), ("code", .inr "NotThere")] (aCons (eV 0) aNil) aNil) (aCons (eExcV 30 0 1 1 [0] [("given", .inl 0), ("code", .inr "NotThere")] aNil (aCons (eV 0) aNil)) (aCons (eC (.str "NotThere")) aNil)))) aNil)))))))) (sSeq (sSet 1 (eOp gAdd (eV 1) (eLst (aCons (eTup (aCons (eExcV 16 1 0 1 [0] [("path", .inl 0), ("code", .inr "InvalidPattern")] (aCons (eV 0) aNil) aNil) (aCons (eExcV 16 0 1 1 [0] [("path", .inl 0), ("code", .inr "InvalidPattern")] aNil (aCons (eV 0) aNil)) (aCons (eC (.str "InvalidPattern")) aNil)))) (aCons (eTup (aCons (eExcV 29 1 0 1 [0] [("row", .inl 0), ("code", .inr "NotEven")] (aCons (eV 0) aNil) aNil) (aCons (eExcV 29 0 1 1 [0] [("row", .inl 0), ("code", .inr "NotEven")] aNil (aCons (eV 0) aNil)) (aCons (eC (.str "NotEven")) aNil)))) (aCons (eTup (aCons (eExcV 19 1 0 1 [0] [("at", .inl 0), ("code", .inr "InvalidEntry")] (aCons (eV 0) aNil) aNil) (aCons (eExcV 19 0 1 1 [0] [("at", .inl 0), ("code", .inr "InvalidEntry")] aNil (aCons (eV 0) aNil)) (aCons (eC (.str "InvalidEntry")) aNil)))) (aCons (eTup (aCons (eExcV 28 1 0 1 [0] [("at", .inl 0), ("code", .inr "LotsDiffer")] (aCons (eV 0) aNil) aNil) (aCons (eExcV 28 0 1 1 [0] [("at", .inl 0), ("code", .inr "LotsDiffer")] aNil (aCons (eV 0) aNil)) (aCons (eC (.str "LotsDiffer")) aNil)))) aNil))))))) (sSeq (sSet 1 (eOp gAdd (eV 1) (eLst (aCons (eTup (aCons (eExcV 32 1 0 1 [0] [("name", .inl 0), ("code", .inr "InvalidName")] (aCons (eV 0) aNil) aNil) (aCons (eExcV 32 0 1 1 [0] [("name", .inl 0), ("code", .inr "InvalidName")] aNil (aCons (eV 0) aNil)) (aCons (eC (.str "InvalidName")) aNil)))) (aCons (eTup (aCons (eExcV 33 1 0 1 [0] [("name", .inl 0), ("code", .inr "WrongKind")] (aCons (eV 0) aNil) aNil) (aCons (eExcV 33 0 1 1 [0] [("name", .inl 0), ("code", .inr "WrongKind")] aNil (aCons (eV 0) aNil)) (aCons (eC (.str "WrongKind")) aNil)))) (aCons (eTup (aCons (eExcV 34 1 0 1 [0] [("name", .inl 0), ("code", .inr "DuplicateName")] (aCons (eV 0) aNil) aNil) (aCons (eExcV 34 0 1 1 [0] [("name", .inl 0), ("code", .inr "DuplicateName")] aNil (aCons (eV 0) aNil)) (aCons (eC (.str "DuplicateName")) aNil)))) (aCons (eTup (aCons (eExcV 35 1 0 1 [0] [("most", .inl 0), ("code", .inr "Full")] (aCons (eV 0) aNil) aNil) (aCons (eExcV 35 0 1 1 [0] [("most", .inl 0), ("code", .inr "Full")] aNil (aCons (eV 0) aNil)) (aCons (eC (.str "Full")) aNil)))) aNil))))))) (sRet (eOp gAdd (eV 1) (eLst (aCons (eTup (aCons (eExcV 36 1 0 1 [0] [("user", .inl 0), ("code", .inr "InUse")] (aCons (eV 0) aNil) aNil) (aCons (eExcV 36 0 1 1 [0] [("user", .inl 0), ("code", .inr "InUse")] aNil (aCons (eV 0) aNil)) (aCons (eC (.str "InUse")) aNil)))) (aCons (eTup (aCons (eExcV 37 1 0 1 [0] [("word", .inl 0), ("code", .inr "InvalidCommand")] (aCons (eV 0) aNil) aNil) (aCons (eExcV 37 0 1 1 [0] [("word", .inl 0), ("code", .inr "InvalidCommand")] aNil (aCons (eV 0) aNil)) (aCons (eC (.str "InvalidCommand")) aNil)))) (aCons (eTup (aCons (eExcV 38 1 0 1 [0] [("line", .inl 0), ("code", .inr "InvalidPage")] (aCons (eV 0) aNil) aNil) (aCons (eExcV 38 0 1 1 [0] [("line", .inl 0), ("code", .inr "InvalidPage")] aNil (aCons (eV 0) aNil)) (aCons (eC (.str "InvalidPage")) aNil)))) aNil)))))))))
def fm_law_given : FM := bodyM 1 2 sm_law_given
theorem sc_law_given : FnScope ["_law_one", "_law_pairs"] ["_law_one"] (defScope s_law_given) := ⟨rfl, rfl, rfl, by decide +kernel, rfl, by decide +kernel, by decide +kernel⟩
theorem fd_law_given {P : Program} {w : World} {mg : Str → Option Value} {base : Heap} {T : Tb} (g : G P w T.K T.cA mg) : FD P w T mg base 3 g.a_law_given g.d_law_given ["_law_one"] fm_law_given :=
  fd_of g.F_law_given sc_law_given fun cdv A outer s H E hr L hp => mb_cons (ms_set 1 sc_law_given.nd (me_lst (ma_cons (me_tup (ma_cons (me_excV (n := 1) (ks := []) (ix := [0]) L g.v_InvalidAlphabet (hr.mono (by first | decide | omega)) (by rfl) g.g_InvalidAlphabet 1 rfl rfl (by decide) (ma_cons (me_v 0) ma_nil) mk_nil) (ma_cons (me_excV (n := 0) (ks := ["given"]) (ix := [0]) L g.v_InvalidAlphabet (hr.mono (by first | decide | omega)) (by rfl) g.g_InvalidAlphabet 0 rfl rfl (by decide) ma_nil (mk_cons (me_v 0) mk_nil)) (ma_cons me_str ma_nil)))) (ma_cons (me_tup (ma_cons (me_excV (n := 1) (ks := []) (ix := [0]) L g.v_InvalidLetter (hr.mono (by first | decide | omega)) (by rfl) g.g_InvalidLetter 0 rfl rfl (by decide) (ma_cons (me_v 0) ma_nil) mk_nil) (ma_cons (me_excV (n := 0) (ks := ["given"]) (ix := [0]) L g.v_InvalidLetter (hr.mono (by first | decide | omega)) (by rfl) g.g_InvalidLetter 1 rfl rfl (by decide) ma_nil (mk_cons (me_v 0) mk_nil)) (ma_cons me_str ma_nil)))) (ma_cons (me_tup (ma_cons (me_excV (n := 1) (ks := []) (ix := [0]) L g.v_InvalidColor (hr.mono (by first | decide | omega)) (by rfl) g.g_InvalidColor 1 rfl rfl (by decide) (ma_cons (me_v 0) ma_nil) mk_nil) (ma_cons (me_excV (n := 0) (ks := ["given"]) (ix := [0]) L g.v_InvalidColor (hr.mono (by first | decide | omega)) (by rfl) g.g_InvalidColor 0 rfl rfl (by decide) ma_nil (mk_cons (me_v 0) mk_nil)) (ma_cons me_str ma_nil)))) (ma_cons (me_tup (ma_cons (me_excV (n := 1) (ks := []) (ix := [0]) L g.v_InvalidWord (hr.mono (by first | decide | omega)) (by rfl) g.g_InvalidWord 1 rfl rfl (by decide) (ma_cons (me_v 0) ma_nil) mk_nil) (ma_cons (me_excV (n := 0) (ks := ["given"]) (ix := [0]) L g.v_InvalidWord (hr.mono (by first | decide | omega)) (by rfl) g.g_InvalidWord 0 rfl rfl (by decide) ma_nil (mk_cons (me_v 0) mk_nil)) (ma_cons me_str ma_nil)))) ma_nil)))))) (mb_cons (ms_set 1 sc_law_given.nd (me_op (op_gAdd L.k) (me_v 1) (me_lst (ma_cons (me_tup (ma_cons (me_excV (n := 1) (ks := []) (ix := [0]) L g.v_InvalidRow (hr.mono (by first | decide | omega)) (by rfl) g.g_InvalidRow 1 rfl rfl (by decide) (ma_cons (me_v 0) ma_nil) mk_nil) (ma_cons (me_excV (n := 0) (ks := ["given"]) (ix := [0]) L g.v_InvalidRow (hr.mono (by first | decide | omega)) (by rfl) g.g_InvalidRow 0 rfl rfl (by decide) ma_nil (mk_cons (me_v 0) mk_nil)) (ma_cons me_str ma_nil)))) (ma_cons (me_tup (ma_cons (me_excV (n := 1) (ks := []) (ix := [0]) L g.v_InvalidCount (hr.mono (by first | decide | omega)) (by rfl) g.g_InvalidCount 1 rfl rfl (by decide) (ma_cons (me_v 0) ma_nil) mk_nil) (ma_cons (me_excV (n := 0) (ks := ["given"]) (ix := [0]) L g.v_InvalidCount (hr.mono (by first | decide | omega)) (by rfl) g.g_InvalidCount 0 rfl rfl (by decide) ma_nil (mk_cons (me_v 0) mk_nil)) (ma_cons me_str ma_nil)))) (ma_cons (me_tup (ma_cons (me_excV (n := 1) (ks := []) (ix := [0]) L g.v_InvalidBag (hr.mono (by first | decide | omega)) (by rfl) g.g_InvalidBag 1 rfl rfl (by decide) (ma_cons (me_v 0) ma_nil) mk_nil) (ma_cons (me_excV (n := 0) (ks := ["given"]) (ix := [0]) L g.v_InvalidBag (hr.mono (by first | decide | omega)) (by rfl) g.g_InvalidBag 0 rfl rfl (by decide) ma_nil (mk_cons (me_v 0) mk_nil)) (ma_cons me_str ma_nil)))) (ma_cons (me_tup (ma_cons (me_excV (n := 1) (ks := []) (ix := [0]) L g.v_InvalidFar (hr.mono (by first | decide | omega)) (by rfl) g.g_InvalidFar 1 rfl rfl (by decide) (ma_cons (me_v 0) ma_nil) mk_nil) (ma_cons (me_excV (n := 0) (ks := ["given"]) (ix := [0]) L g.v_InvalidFar (hr.mono (by first | decide | omega)) (by rfl) g.g_InvalidFar 0 rfl rfl (by decide) ma_nil (mk_cons (me_v 0) mk_nil)) (ma_cons me_str ma_nil)))) (ma_cons (me_tup (ma_cons (me_excV (n := 1) (ks := []) (ix := [0]) L g.v_NotThere (hr.mono (by first | decide | omega)) (by rfl) g.g_NotThere 1 rfl rfl (by decide) (ma_cons (me_v 0) ma_nil) mk_nil) (ma_cons (me_excV (n := 0) (ks := ["given"]) (ix := [0]) L g.v_NotThere (hr.mono (by first | decide | omega)) (by rfl) g.g_NotThere 0 rfl rfl (by decide) ma_nil (mk_cons (me_v 0) mk_nil)) (ma_cons me_str ma_nil)))) ma_nil)))))))) (mb_cons (ms_set 1 sc_law_given.nd (me_op (op_gAdd L.k) (me_v 1) (me_lst (ma_cons (me_tup (ma_cons (me_excV (n := 1) (ks := []) (ix := [0]) L g.v_InvalidPattern (hr.mono (by first | decide | omega)) (by rfl) g.g_InvalidPattern 1 rfl rfl (by decide) (ma_cons (me_v 0) ma_nil) mk_nil) (ma_cons (me_excV (n := 0) (ks := ["path"]) (ix := [0]) L g.v_InvalidPattern (hr.mono (by first | decide | omega)) (by rfl) g.g_InvalidPattern 0 rfl rfl (by decide) ma_nil (mk_cons (me_v 0) mk_nil)) (ma_cons me_str ma_nil)))) (ma_cons (me_tup (ma_cons (me_excV (n := 1) (ks := []) (ix := [0]) L g.v_NotEven (hr.mono (by first | decide | omega)) (by rfl) g.g_NotEven 1 rfl rfl (by decide) (ma_cons (me_v 0) ma_nil) mk_nil) (ma_cons (me_excV (n := 0) (ks := ["row"]) (ix := [0]) L g.v_NotEven (hr.mono (by first | decide | omega)) (by rfl) g.g_NotEven 0 rfl rfl (by decide) ma_nil (mk_cons (me_v 0) mk_nil)) (ma_cons me_str ma_nil)))) (ma_cons (me_tup (ma_cons (me_excV (n := 1) (ks := []) (ix := [0]) L g.v_InvalidEntry (hr.mono (by first | decide | omega)) (by rfl) g.g_InvalidEntry 1 rfl rfl (by decide) (ma_cons (me_v 0) ma_nil) mk_nil) (ma_cons (me_excV (n := 0) (ks := ["at"]) (ix := [0]) L g.v_InvalidEntry (hr.mono (by first | decide | omega)) (by rfl) g.g_InvalidEntry 0 rfl rfl (by decide) ma_nil (mk_cons (me_v 0) mk_nil)) (ma_cons me_str ma_nil)))) (ma_cons (me_tup (ma_cons (me_excV (n := 1) (ks := []) (ix := [0]) L g.v_LotsDiffer (hr.mono (by first | decide | omega)) (by rfl) g.g_LotsDiffer 1 rfl rfl (by decide) (ma_cons (me_v 0) ma_nil) mk_nil) (ma_cons (me_excV (n := 0) (ks := ["at"]) (ix := [0]) L g.v_LotsDiffer (hr.mono (by first | decide | omega)) (by rfl) g.g_LotsDiffer 0 rfl rfl (by decide) ma_nil (mk_cons (me_v 0) mk_nil)) (ma_cons me_str ma_nil)))) ma_nil))))))) (mb_cons (ms_set 1 sc_law_given.nd (me_op (op_gAdd L.k) (me_v 1) (me_lst (ma_cons (me_tup (ma_cons (me_excV (n := 1) (ks := []) (ix := [0]) L g.v_InvalidName (hr.mono (by first | decide | omega)) (by rfl) g.g_InvalidName 1 rfl rfl (by decide) (ma_cons (me_v 0) ma_nil) mk_nil) (ma_cons (me_excV (n := 0) (ks := ["name"]) (ix := [0]) L g.v_InvalidName (hr.mono (by first | decide | omega)) (by rfl) g.g_InvalidName 0 rfl rfl (by decide) ma_nil (mk_cons (me_v 0) mk_nil)) (ma_cons me_str ma_nil)))) (ma_cons (me_tup (ma_cons (me_excV (n := 1) (ks := []) (ix := [0]) L g.v_WrongKind (hr.mono (by first | decide | omega)) (by rfl) g.g_WrongKind 1 rfl rfl (by decide) (ma_cons (me_v 0) ma_nil) mk_nil) (ma_cons (me_excV (n := 0) (ks := ["name"]) (ix := [0]) L g.v_WrongKind (hr.mono (by first | decide | omega)) (by rfl) g.g_WrongKind 0 rfl rfl (by decide) ma_nil (mk_cons (me_v 0) mk_nil)) (ma_cons me_str ma_nil)))) (ma_cons (me_tup (ma_cons (me_excV (n := 1) (ks := []) (ix := [0]) L g.v_DuplicateName (hr.mono (by first | decide | omega)) (by rfl) g.g_DuplicateName 1 rfl rfl (by decide) (ma_cons (me_v 0) ma_nil) mk_nil) (ma_cons (me_excV (n := 0) (ks := ["name"]) (ix := [0]) L g.v_DuplicateName (hr.mono (by first | decide | omega)) (by rfl) g.g_DuplicateName 0 rfl rfl (by decide) ma_nil (mk_cons (me_v 0) mk_nil)) (ma_cons me_str ma_nil)))) (ma_cons (me_tup (ma_cons (me_excV (n := 1) (ks := []) (ix := [0]) L g.v_Full (hr.mono (by first | decide | omega)) (by rfl) g.g_Full 1 rfl rfl (by decide) (ma_cons (me_v 0) ma_nil) mk_nil) (ma_cons (me_excV (n := 0) (ks := ["most"]) (ix := [0]) L g.v_Full (hr.mono (by first | decide | omega)) (by rfl) g.g_Full 0 rfl rfl (by decide) ma_nil (mk_cons (me_v 0) mk_nil)) (ma_cons me_str ma_nil)))) ma_nil))))))) (mb_one (ms_ret (me_op (op_gAdd L.k) (me_v 1) (me_lst (ma_cons (me_tup (ma_cons (me_excV (n := 1) (ks := []) (ix := [0]) L g.v_InUse (hr.mono (by first | decide | omega)) (by rfl) g.g_InUse 1 rfl rfl (by decide) (ma_cons (me_v 0) ma_nil) mk_nil) (ma_cons (me_excV (n := 0) (ks := ["user"]) (ix := [0]) L g.v_InUse (hr.mono (by first | decide | omega)) (by rfl) g.g_InUse 0 rfl rfl (by decide) ma_nil (mk_cons (me_v 0) mk_nil)) (ma_cons me_str ma_nil)))) (ma_cons (me_tup (ma_cons (me_excV (n := 1) (ks := []) (ix := [0]) L g.v_InvalidCommand (hr.mono (by first | decide | omega)) (by rfl) g.g_InvalidCommand 1 rfl rfl (by decide) (ma_cons (me_v 0) ma_nil) mk_nil) (ma_cons (me_excV (n := 0) (ks := ["word"]) (ix := [0]) L g.v_InvalidCommand (hr.mono (by first | decide | omega)) (by rfl) g.g_InvalidCommand 0 rfl rfl (by decide) ma_nil (mk_cons (me_v 0) mk_nil)) (ma_cons me_str ma_nil)))) (ma_cons (me_tup (ma_cons (me_excV (n := 1) (ks := []) (ix := [0]) L g.v_InvalidPage (hr.mono (by first | decide | omega)) (by rfl) g.g_InvalidPage 1 rfl rfl (by decide) (ma_cons (me_v 0) ma_nil) mk_nil) (ma_cons (me_excV (n := 0) (ks := ["line"]) (ix := [0]) L g.v_InvalidPage (hr.mono (by first | decide | omega)) (by rfl) g.g_InvalidPage 0 rfl rfl (by decide) ma_nil (mk_cons (me_v 0) mk_nil)) (ma_cons me_str ma_nil)))) ma_nil))))))))))
def sm_law_hand : SM := sSeq (sSet 1 (eC (.int 5627))) (sSeq (sFor (iSeq (eSl (eV 0) oNone (oSome (eC (.int 63))))) (.nm 2) (sSet 1 (eOp gMod (eCallB gInt (aCons (eOp gAdd (eOp gAdd (eOp gMul (eV 1) (eC (.int 45161))) (eOp gMod (eCallB gInt (aCons (eV 2) aNil)) (eC (.int 2147483587)))) (eC (.int 31))) aNil)) (eC (.int 2147483629))))) (sRet (eMut (aCons (eCallB gListA (aCons (eSl (eV 0) oNone (oSome (eC (.int 63)))) aNil)) (aCons (eC (.int 0)) (aCons (eC (.int 0)) (aCons (eV 1) (aCons (eC (.int 0)) aNil))))))))
def fm_law_hand : FM := bodyM 1 3 sm_law_hand
theorem sc_law_hand : FnScope ["_law_script", "_law_seed", "_law_cell"] ["_law_script"] (defScope s_law_hand) := ⟨rfl, rfl, rfl, by decide +kernel, rfl, by decide +kernel, by decide +kernel⟩
theorem fd_law_hand {P : Program} {w : World} {mg : Str → Option Value} {base : Heap} {T : Tb} (g : G P w T.K T.cA mg) : FD P w T mg base 2 g.a_law_hand g.d_law_hand ["_law_script"] fm_law_hand :=
  fd_of g.F_law_hand sc_law_hand fun cdv A outer s H E hr L hp => mb_cons (ms_set 1 sc_law_hand.nd me_int) (mb_cons (ms_for hp (by rfl) (mi_seq L.k (me_slice L.k (me_v 0) mo_none (mo_some me_int))) (mg_nm 2 sc_law_hand.nd) (mb_one (ms_set 1 sc_law_hand.nd (me_op op_gMod (me_callTy call_gInt (by rfl) g.z_int (by rfl) (ma_cons (me_op (op_gAdd L.k) (me_op (op_gAdd L.k) (me_op op_gMul (me_v 1) me_int) (me_op op_gMod (me_callTy call_gInt (by rfl) g.z_int (by rfl) (ma_cons (me_v 2) ma_nil)) me_int)) me_int) ma_nil)) me_int)))) (mb_one (ms_ret (me_mut (ma_cons (me_callTy (call_gListA L.k (by rfl)) (by rfl) g.z_list (by rfl) (ma_cons (me_slice L.k (me_v 0) mo_none (mo_some me_int)) ma_nil)) (ma_cons me_int (ma_cons me_int (ma_cons (me_v 1) (ma_cons me_int ma_nil)))))))))
end L3

set_option Elab.async false
set_option linter.all false
set_option maxRecDepth 100000
set_option maxHeartbeats 4000000
namespace L3
open PySem PySem.Spec PyProof.Rows L2 NdefX LamX
open L2H (RoomH PinOk cxH inv_startH roomH_of)
/-! ### the head: facts by names -/
def cAof (K : PySem.W.Frag) : Nat → Addr
  | 0 => He.ga K "Alphabet"
  | 10 => He.ga K "InvalidAlphabet"
  | 11 => He.ga K "InvalidLetter"
  | 12 => He.ga K "InvalidColor"
  | 13 => He.ga K "InvalidWord"
  | 14 => He.ga K "InvalidRow"
  | 15 => He.ga K "InvalidCount"
  | 16 => He.ga K "InvalidPattern"
  | 17 => He.ga K "InvalidText"
  | 18 => He.ga K "InvalidAutomaton"
  | 19 => He.ga K "InvalidEntry"
  | 20 => He.ga K "LotError"
  | 21 => He.ga K "Missing"
  | 22 => He.ga K "NothingLeft"
  | 23 => He.ga K "InvalidBag"
  | 24 => He.ga K "InvalidPair"
  | 25 => He.ga K "InvalidBook"
  | 26 => He.ga K "InvalidFar"
  | 27 => He.ga K "AlphabetsDiffer"
  | 28 => He.ga K "LotsDiffer"
  | 29 => He.ga K "NotEven"
  | 30 => He.ga K "NotThere"
  | 31 => He.ga K "TooMany"
  | 32 => He.ga K "InvalidName"
  | 33 => He.ga K "WrongKind"
  | 34 => He.ga K "DuplicateName"
  | 35 => He.ga K "Full"
  | 36 => He.ga K "InUse"
  | 37 => He.ga K "InvalidCommand"
  | 38 => He.ga K "InvalidPage"
  | 39 => He.ga K "UnknownName"
  | _ => 0
def dcons : List DkN := []
abbrev s_law : Stmt := top 50
def f_law_field : DefA := ⟨fun K => He.ga K "_law_field", "_law_field", "_law_field", s_law_field, []⟩
def f_law_try : DefA := ⟨fun K => He.ga K "_law_try", "_law_try", "_law_try", s_law_try, []⟩
def f_law_like : DefA := ⟨fun K => He.ga K "_law_like", "_law_like", "_law_like", s_law_like, []⟩
def f_Alphabet_contains : DefA := ⟨fun K => He.ma K (He.ga K "Alphabet") "__contains__", "__contains__", "Alphabet.__contains__", s_Alphabet_contains, []⟩
def f_Alphabet_color : DefA := ⟨fun K => He.ma K (He.ga K "Alphabet") "color", "color", "Alphabet.color", s_Alphabet_color, []⟩
def f_are_digits : DefA := ⟨fun K => He.ga K "are_digits", "are_digits", "are_digits", s_are_digits, []⟩
def f_is_small : DefA := ⟨fun K => He.ga K "is_small", "is_small", "is_small", s_is_small, []⟩
def f_are_letters : DefA := ⟨fun K => He.ga K "are_letters", "are_letters", "are_letters", s_are_letters, []⟩
def f_Alphabet_init : DefA := ⟨fun K => He.ma K (He.ga K "Alphabet") "__init__", "__init__", "Alphabet.__init__", s_Alphabet_init, []⟩
def f_Alphabet_plain : DefA := ⟨fun K => statG K (He.ga K "Alphabet") "plain", "plain", "Alphabet.plain", s_Alphabet_plain, []⟩
def f_law_pick : DefA := ⟨fun K => He.ga K "_law_pick", "_law_pick", "_law_pick", s_law_pick, []⟩
def f_law_of : DefA := ⟨fun K => He.ga K "_law_of", "_law_of", "_law_of", s_law_of, []⟩
def f_law_made_right : DefA := ⟨fun K => He.ga K "_law_made_right", "_law_made_right", "_law_made_right", s_law_made_right, []⟩
def f_law_given : DefA := ⟨fun K => He.ga K "_law_given", "_law_given", "_law_given", s_law_given, []⟩
def f_law_hand : DefA := ⟨fun K => He.ga K "_law_hand", "_law_hand", "_law_hand", s_law_hand, []⟩
def f_law : DefA := ⟨fun K => He.ga K "law", "law", "law", s_law, []⟩
abbrev s_AlphabetsDiffer_init : Stmt := inClass (top 22) 0
def f_AlphabetsDiffer_init : DefA := ⟨fun K => He.ma K (He.ga K "AlphabetsDiffer") "__init__", "__init__", "AlphabetsDiffer.__init__", s_AlphabetsDiffer_init, ["__class__"]⟩
abbrev s_DuplicateName_init : Stmt := inClass (top 29) 0
def f_DuplicateName_init : DefA := ⟨fun K => He.ma K (He.ga K "DuplicateName") "__init__", "__init__", "DuplicateName.__init__", s_DuplicateName_init, ["__class__"]⟩
abbrev s_Full_init : Stmt := inClass (top 30) 0
def f_Full_init : DefA := ⟨fun K => He.ma K (He.ga K "Full") "__init__", "__init__", "Full.__init__", s_Full_init, ["__class__"]⟩
abbrev s_InUse_init : Stmt := inClass (top 31) 0
def f_InUse_init : DefA := ⟨fun K => He.ma K (He.ga K "InUse") "__init__", "__init__", "InUse.__init__", s_InUse_init, ["__class__"]⟩
abbrev s_InvalidAlphabet_init : Stmt := inClass (top 8) 0
def f_InvalidAlphabet_init : DefA := ⟨fun K => He.ma K (He.ga K "InvalidAlphabet") "__init__", "__init__", "InvalidAlphabet.__init__", s_InvalidAlphabet_init, ["__class__"]⟩
abbrev s_InvalidAutomaton_init : Stmt := inClass (top 16) 0
def f_InvalidAutomaton_init : DefA := ⟨fun K => He.ma K (He.ga K "InvalidAutomaton") "__init__", "__init__", "InvalidAutomaton.__init__", s_InvalidAutomaton_init, ["__class__"]⟩
abbrev s_InvalidBag_init : Stmt := inClass (top 18) 0
def f_InvalidBag_init : DefA := ⟨fun K => He.ma K (He.ga K "InvalidBag") "__init__", "__init__", "InvalidBag.__init__", s_InvalidBag_init, ["__class__"]⟩
abbrev s_InvalidBook_init : Stmt := inClass (top 20) 0
def f_InvalidBook_init : DefA := ⟨fun K => He.ma K (He.ga K "InvalidBook") "__init__", "__init__", "InvalidBook.__init__", s_InvalidBook_init, ["__class__"]⟩
abbrev s_InvalidColor_init : Stmt := inClass (top 10) 0
def f_InvalidColor_init : DefA := ⟨fun K => He.ma K (He.ga K "InvalidColor") "__init__", "__init__", "InvalidColor.__init__", s_InvalidColor_init, ["__class__"]⟩
abbrev s_InvalidCommand_init : Stmt := inClass (top 32) 0
def f_InvalidCommand_init : DefA := ⟨fun K => He.ma K (He.ga K "InvalidCommand") "__init__", "__init__", "InvalidCommand.__init__", s_InvalidCommand_init, ["__class__"]⟩
abbrev s_InvalidCount_init : Stmt := inClass (top 13) 0
def f_InvalidCount_init : DefA := ⟨fun K => He.ma K (He.ga K "InvalidCount") "__init__", "__init__", "InvalidCount.__init__", s_InvalidCount_init, ["__class__"]⟩
abbrev s_InvalidEntry_init : Stmt := inClass (top 17) 0
def f_InvalidEntry_init : DefA := ⟨fun K => He.ma K (He.ga K "InvalidEntry") "__init__", "__init__", "InvalidEntry.__init__", s_InvalidEntry_init, ["__class__"]⟩
abbrev s_InvalidFar_init : Stmt := inClass (top 21) 0
def f_InvalidFar_init : DefA := ⟨fun K => He.ma K (He.ga K "InvalidFar") "__init__", "__init__", "InvalidFar.__init__", s_InvalidFar_init, ["__class__"]⟩
abbrev s_InvalidLetter_init : Stmt := inClass (top 9) 0
def f_InvalidLetter_init : DefA := ⟨fun K => He.ma K (He.ga K "InvalidLetter") "__init__", "__init__", "InvalidLetter.__init__", s_InvalidLetter_init, ["__class__"]⟩
abbrev s_InvalidName_init : Stmt := inClass (top 27) 0
def f_InvalidName_init : DefA := ⟨fun K => He.ma K (He.ga K "InvalidName") "__init__", "__init__", "InvalidName.__init__", s_InvalidName_init, ["__class__"]⟩
abbrev s_InvalidPage_init : Stmt := inClass (top 33) 0
def f_InvalidPage_init : DefA := ⟨fun K => He.ma K (He.ga K "InvalidPage") "__init__", "__init__", "InvalidPage.__init__", s_InvalidPage_init, ["__class__"]⟩
abbrev s_InvalidPair_init : Stmt := inClass (top 19) 0
def f_InvalidPair_init : DefA := ⟨fun K => He.ma K (He.ga K "InvalidPair") "__init__", "__init__", "InvalidPair.__init__", s_InvalidPair_init, ["__class__"]⟩
abbrev s_InvalidPattern_init : Stmt := inClass (top 14) 0
def f_InvalidPattern_init : DefA := ⟨fun K => He.ma K (He.ga K "InvalidPattern") "__init__", "__init__", "InvalidPattern.__init__", s_InvalidPattern_init, ["__class__"]⟩
abbrev s_InvalidRow_init : Stmt := inClass (top 12) 0
def f_InvalidRow_init : DefA := ⟨fun K => He.ma K (He.ga K "InvalidRow") "__init__", "__init__", "InvalidRow.__init__", s_InvalidRow_init, ["__class__"]⟩
abbrev s_InvalidText_init : Stmt := inClass (top 15) 0
def f_InvalidText_init : DefA := ⟨fun K => He.ma K (He.ga K "InvalidText") "__init__", "__init__", "InvalidText.__init__", s_InvalidText_init, ["__class__"]⟩
abbrev s_InvalidWord_init : Stmt := inClass (top 11) 0
def f_InvalidWord_init : DefA := ⟨fun K => He.ma K (He.ga K "InvalidWord") "__init__", "__init__", "InvalidWord.__init__", s_InvalidWord_init, ["__class__"]⟩
abbrev s_LotsDiffer_init : Stmt := inClass (top 23) 0
def f_LotsDiffer_init : DefA := ⟨fun K => He.ma K (He.ga K "LotsDiffer") "__init__", "__init__", "LotsDiffer.__init__", s_LotsDiffer_init, ["__class__"]⟩
abbrev s_NotEven_init : Stmt := inClass (top 24) 0
def f_NotEven_init : DefA := ⟨fun K => He.ma K (He.ga K "NotEven") "__init__", "__init__", "NotEven.__init__", s_NotEven_init, ["__class__"]⟩
abbrev s_NotThere_init : Stmt := inClass (top 25) 0
def f_NotThere_init : DefA := ⟨fun K => He.ma K (He.ga K "NotThere") "__init__", "__init__", "NotThere.__init__", s_NotThere_init, ["__class__"]⟩
abbrev s_NothingLeft_init : Stmt := inClass (top 35) 0
def f_NothingLeft_init : DefA := ⟨fun K => He.ma K (He.ga K "NothingLeft") "__init__", "__init__", "NothingLeft.__init__", s_NothingLeft_init, ["__class__"]⟩
abbrev s_TooMany_init : Stmt := inClass (top 26) 0
def f_TooMany_init : DefA := ⟨fun K => He.ma K (He.ga K "TooMany") "__init__", "__init__", "TooMany.__init__", s_TooMany_init, ["__class__"]⟩
abbrev s_UnknownName_init : Stmt := inClass (top 34) 0
def f_UnknownName_init : DefA := ⟨fun K => He.ma K (He.ga K "UnknownName") "__init__", "__init__", "UnknownName.__init__", s_UnknownName_init, ["__class__"]⟩
abbrev s_WrongKind_init : Stmt := inClass (top 28) 0
def f_WrongKind_init : DefA := ⟨fun K => He.ma K (He.ga K "WrongKind") "__init__", "__init__", "WrongKind.__init__", s_WrongKind_init, ["__class__"]⟩
def fns : List DefA := [f_law_field, f_law_try, f_law_like, f_Alphabet_contains, f_Alphabet_color, f_are_digits, f_is_small, f_are_letters, f_Alphabet_init, f_Alphabet_plain, f_law_pick, f_law_of, f_law_made_right, f_law_given, f_law_hand, f_law, f_AlphabetsDiffer_init, f_DuplicateName_init, f_Full_init, f_InUse_init, f_InvalidAlphabet_init, f_InvalidAutomaton_init, f_InvalidBag_init, f_InvalidBook_init, f_InvalidColor_init, f_InvalidCommand_init, f_InvalidCount_init, f_InvalidEntry_init, f_InvalidFar_init, f_InvalidLetter_init, f_InvalidName_init, f_InvalidPage_init, f_InvalidPair_init, f_InvalidPattern_init, f_InvalidRow_init, f_InvalidText_init, f_InvalidWord_init, f_LotsDiffer_init, f_NotEven_init, f_NotThere_init, f_NothingLeft_init, f_TooMany_init, f_UnknownName_init, f_WrongKind_init]
theorem ini_AlphabetsDiffer_init : IniS ["self", "__class__"] ["self"] (defScope f_AlphabetsDiffer_init.st) (defArgs f_AlphabetsDiffer_init.st) [("code", .inr "AlphabetsDiffer")] ((defBody f_AlphabetsDiffer_init.st).drop 1) := ⟨nscope_by (by decide +kernel), rfl, rfl, by decide, rfl, by decide, ixB_ok (by decide), by decide⟩
theorem ini_DuplicateName_init : IniS ["self", "name", "__class__"] ["self", "name"] (defScope f_DuplicateName_init.st) (defArgs f_DuplicateName_init.st) [("name", .inl 0), ("code", .inr "DuplicateName")] ((defBody f_DuplicateName_init.st).drop 1) := ⟨nscope_by (by decide +kernel), rfl, rfl, by decide, rfl, by decide, ixB_ok (by decide), by decide⟩
theorem ini_Full_init : IniS ["self", "most", "__class__"] ["self", "most"] (defScope f_Full_init.st) (defArgs f_Full_init.st) [("most", .inl 0), ("code", .inr "Full")] ((defBody f_Full_init.st).drop 1) := ⟨nscope_by (by decide +kernel), rfl, rfl, by decide, rfl, by decide, ixB_ok (by decide), by decide⟩
theorem ini_InUse_init : IniS ["self", "user", "__class__"] ["self", "user"] (defScope f_InUse_init.st) (defArgs f_InUse_init.st) [("user", .inl 0), ("code", .inr "InUse")] ((defBody f_InUse_init.st).drop 1) := ⟨nscope_by (by decide +kernel), rfl, rfl, by decide, rfl, by decide, ixB_ok (by decide), by decide⟩
theorem ini_InvalidAlphabet_init : IniS ["self", "given", "__class__"] ["self", "given"] (defScope f_InvalidAlphabet_init.st) (defArgs f_InvalidAlphabet_init.st) [("given", .inl 0), ("code", .inr "InvalidAlphabet")] ((defBody f_InvalidAlphabet_init.st).drop 1) := ⟨nscope_by (by decide +kernel), rfl, rfl, by decide, rfl, by decide, ixB_ok (by decide), by decide⟩
theorem ini_InvalidAutomaton_init : IniS ["self", "__class__"] ["self"] (defScope f_InvalidAutomaton_init.st) (defArgs f_InvalidAutomaton_init.st) [("code", .inr "InvalidAutomaton")] ((defBody f_InvalidAutomaton_init.st).drop 1) := ⟨nscope_by (by decide +kernel), rfl, rfl, by decide, rfl, by decide, ixB_ok (by decide), by decide⟩
theorem ini_InvalidBag_init : IniS ["self", "given", "__class__"] ["self", "given"] (defScope f_InvalidBag_init.st) (defArgs f_InvalidBag_init.st) [("given", .inl 0), ("code", .inr "InvalidBag")] ((defBody f_InvalidBag_init.st).drop 1) := ⟨nscope_by (by decide +kernel), rfl, rfl, by decide, rfl, by decide, ixB_ok (by decide), by decide⟩
theorem ini_InvalidBook_init : IniS ["self", "__class__"] ["self"] (defScope f_InvalidBook_init.st) (defArgs f_InvalidBook_init.st) [("code", .inr "InvalidBook")] ((defBody f_InvalidBook_init.st).drop 1) := ⟨nscope_by (by decide +kernel), rfl, rfl, by decide, rfl, by decide, ixB_ok (by decide), by decide⟩
theorem ini_InvalidColor_init : IniS ["self", "given", "__class__"] ["self", "given"] (defScope f_InvalidColor_init.st) (defArgs f_InvalidColor_init.st) [("given", .inl 0), ("code", .inr "InvalidColor")] ((defBody f_InvalidColor_init.st).drop 1) := ⟨nscope_by (by decide +kernel), rfl, rfl, by decide, rfl, by decide, ixB_ok (by decide), by decide⟩
theorem ini_InvalidCommand_init : IniS ["self", "word", "__class__"] ["self", "word"] (defScope f_InvalidCommand_init.st) (defArgs f_InvalidCommand_init.st) [("word", .inl 0), ("code", .inr "InvalidCommand")] ((defBody f_InvalidCommand_init.st).drop 1) := ⟨nscope_by (by decide +kernel), rfl, rfl, by decide, rfl, by decide, ixB_ok (by decide), by decide⟩
theorem ini_InvalidCount_init : IniS ["self", "given", "__class__"] ["self", "given"] (defScope f_InvalidCount_init.st) (defArgs f_InvalidCount_init.st) [("given", .inl 0), ("code", .inr "InvalidCount")] ((defBody f_InvalidCount_init.st).drop 1) := ⟨nscope_by (by decide +kernel), rfl, rfl, by decide, rfl, by decide, ixB_ok (by decide), by decide⟩
theorem ini_InvalidEntry_init : IniS ["self", "at", "__class__"] ["self", "at"] (defScope f_InvalidEntry_init.st) (defArgs f_InvalidEntry_init.st) [("at", .inl 0), ("code", .inr "InvalidEntry")] ((defBody f_InvalidEntry_init.st).drop 1) := ⟨nscope_by (by decide +kernel), rfl, rfl, by decide, rfl, by decide, ixB_ok (by decide), by decide⟩
theorem ini_InvalidFar_init : IniS ["self", "given", "__class__"] ["self", "given"] (defScope f_InvalidFar_init.st) (defArgs f_InvalidFar_init.st) [("given", .inl 0), ("code", .inr "InvalidFar")] ((defBody f_InvalidFar_init.st).drop 1) := ⟨nscope_by (by decide +kernel), rfl, rfl, by decide, rfl, by decide, ixB_ok (by decide), by decide⟩
theorem ini_InvalidLetter_init : IniS ["self", "given", "__class__"] ["self", "given"] (defScope f_InvalidLetter_init.st) (defArgs f_InvalidLetter_init.st) [("given", .inl 0), ("code", .inr "InvalidLetter")] ((defBody f_InvalidLetter_init.st).drop 1) := ⟨nscope_by (by decide +kernel), rfl, rfl, by decide, rfl, by decide, ixB_ok (by decide), by decide⟩
theorem ini_InvalidName_init : IniS ["self", "name", "__class__"] ["self", "name"] (defScope f_InvalidName_init.st) (defArgs f_InvalidName_init.st) [("name", .inl 0), ("code", .inr "InvalidName")] ((defBody f_InvalidName_init.st).drop 1) := ⟨nscope_by (by decide +kernel), rfl, rfl, by decide, rfl, by decide, ixB_ok (by decide), by decide⟩
theorem ini_InvalidPage_init : IniS ["self", "line", "__class__"] ["self", "line"] (defScope f_InvalidPage_init.st) (defArgs f_InvalidPage_init.st) [("line", .inl 0), ("code", .inr "InvalidPage")] ((defBody f_InvalidPage_init.st).drop 1) := ⟨nscope_by (by decide +kernel), rfl, rfl, by decide, rfl, by decide, ixB_ok (by decide), by decide⟩
theorem ini_InvalidPair_init : IniS ["self", "__class__"] ["self"] (defScope f_InvalidPair_init.st) (defArgs f_InvalidPair_init.st) [("code", .inr "InvalidPair")] ((defBody f_InvalidPair_init.st).drop 1) := ⟨nscope_by (by decide +kernel), rfl, rfl, by decide, rfl, by decide, ixB_ok (by decide), by decide⟩
theorem ini_InvalidPattern_init : IniS ["self", "path", "__class__"] ["self", "path"] (defScope f_InvalidPattern_init.st) (defArgs f_InvalidPattern_init.st) [("path", .inl 0), ("code", .inr "InvalidPattern")] ((defBody f_InvalidPattern_init.st).drop 1) := ⟨nscope_by (by decide +kernel), rfl, rfl, by decide, rfl, by decide, ixB_ok (by decide), by decide⟩
theorem ini_InvalidRow_init : IniS ["self", "given", "__class__"] ["self", "given"] (defScope f_InvalidRow_init.st) (defArgs f_InvalidRow_init.st) [("given", .inl 0), ("code", .inr "InvalidRow")] ((defBody f_InvalidRow_init.st).drop 1) := ⟨nscope_by (by decide +kernel), rfl, rfl, by decide, rfl, by decide, ixB_ok (by decide), by decide⟩
theorem ini_InvalidText_init : IniS ["self", "__class__"] ["self"] (defScope f_InvalidText_init.st) (defArgs f_InvalidText_init.st) [("code", .inr "InvalidText")] ((defBody f_InvalidText_init.st).drop 1) := ⟨nscope_by (by decide +kernel), rfl, rfl, by decide, rfl, by decide, ixB_ok (by decide), by decide⟩
theorem ini_InvalidWord_init : IniS ["self", "given", "__class__"] ["self", "given"] (defScope f_InvalidWord_init.st) (defArgs f_InvalidWord_init.st) [("given", .inl 0), ("code", .inr "InvalidWord")] ((defBody f_InvalidWord_init.st).drop 1) := ⟨nscope_by (by decide +kernel), rfl, rfl, by decide, rfl, by decide, ixB_ok (by decide), by decide⟩
theorem ini_LotsDiffer_init : IniS ["self", "at", "__class__"] ["self", "at"] (defScope f_LotsDiffer_init.st) (defArgs f_LotsDiffer_init.st) [("at", .inl 0), ("code", .inr "LotsDiffer")] ((defBody f_LotsDiffer_init.st).drop 1) := ⟨nscope_by (by decide +kernel), rfl, rfl, by decide, rfl, by decide, ixB_ok (by decide), by decide⟩
theorem ini_NotEven_init : IniS ["self", "row", "__class__"] ["self", "row"] (defScope f_NotEven_init.st) (defArgs f_NotEven_init.st) [("row", .inl 0), ("code", .inr "NotEven")] ((defBody f_NotEven_init.st).drop 1) := ⟨nscope_by (by decide +kernel), rfl, rfl, by decide, rfl, by decide, ixB_ok (by decide), by decide⟩
theorem ini_NotThere_init : IniS ["self", "given", "__class__"] ["self", "given"] (defScope f_NotThere_init.st) (defArgs f_NotThere_init.st) [("given", .inl 0), ("code", .inr "NotThere")] ((defBody f_NotThere_init.st).drop 1) := ⟨nscope_by (by decide +kernel), rfl, rfl, by decide, rfl, by decide, ixB_ok (by decide), by decide⟩
theorem ini_NothingLeft_init : IniS ["self", "__class__"] ["self"] (defScope f_NothingLeft_init.st) (defArgs f_NothingLeft_init.st) [("code", .inr "NothingLeft")] ((defBody f_NothingLeft_init.st).drop 1) := ⟨nscope_by (by decide +kernel), rfl, rfl, by decide, rfl, by decide, ixB_ok (by decide), by decide⟩
theorem ini_TooMany_init : IniS ["self", "subject", "most", "__class__"] ["self", "subject", "most"] (defScope f_TooMany_init.st) (defArgs f_TooMany_init.st) [("subject", .inl 0), ("most", .inl 1), ("code", .inr "TooMany")] ((defBody f_TooMany_init.st).drop 1) := ⟨nscope_by (by decide +kernel), rfl, rfl, by decide, rfl, by decide, ixB_ok (by decide), by decide⟩
theorem ini_UnknownName_init : IniS ["self", "name", "__class__"] ["self", "name"] (defScope f_UnknownName_init.st) (defArgs f_UnknownName_init.st) [("name", .inl 0), ("code", .inr "UnknownName")] ((defBody f_UnknownName_init.st).drop 1) := ⟨nscope_by (by decide +kernel), rfl, rfl, by decide, rfl, by decide, ixB_ok (by decide), by decide⟩
theorem ini_WrongKind_init : IniS ["self", "name", "__class__"] ["self", "name"] (defScope f_WrongKind_init.st) (defArgs f_WrongKind_init.st) [("name", .inl 0), ("code", .inr "WrongKind")] ((defBody f_WrongKind_init.st).drop 1) := ⟨nscope_by (by decide +kernel), rfl, rfl, by decide, rfl, by decide, ixB_ok (by decide), by decide⟩
def facts : List (PySem.W.Frag → Bool) := [
  fun K => (He.Fa.glo "_law_field").ok K,
  fun K => (He.Fa.glo "_law_try").ok K,
  fun K => (He.Fa.glo "_law_like").ok K,
  fun K => (He.Fa.glo "are_digits").ok K,
  fun K => (He.Fa.glo "is_small").ok K,
  fun K => (He.Fa.glo "are_letters").ok K,
  fun K => (He.Fa.glo "_law_pick").ok K,
  fun K => (He.Fa.glo "_law_of").ok K,
  fun K => (He.Fa.glo "_law_made_right").ok K,
  fun K => (He.Fa.glo "_law_given").ok K,
  fun K => (He.Fa.glo "_law_hand").ok K,
  fun K => (He.Fa.free "all").ok K,
  fun K => (He.Fa.free "bool").ok K,
  fun K => (He.Fa.free "int").ok K,
  fun K => (He.Fa.free "isinstance").ok K,
  fun K => (He.Fa.free "len").ok K,
  fun K => (He.Fa.free "list").ok K,
  fun K => (He.Fa.free "range").ok K,
  fun K => (He.Fa.free "str").ok K,
  fun K => (He.Fa.free "tuple").ok K,
  fun K => (He.Fa.free "zip").ok K,
  fun K => (He.Fa.int "MOST_LETTERS" 8).ok K,
  fun K => (He.Fa.str "SMALL" "abcdefghijklmnopqrstuvwxyz").ok K,
  fun K => (He.Fa.glo "Alphabet").ok K,
  fun K => (He.Fa.glo "AlphabetsDiffer").ok K,
  fun K => (He.Fa.glo "DuplicateName").ok K,
  fun K => (He.Fa.glo "Full").ok K,
  fun K => (He.Fa.glo "InUse").ok K,
  fun K => (He.Fa.glo "InvalidAlphabet").ok K,
  fun K => (He.Fa.glo "InvalidAutomaton").ok K,
  fun K => (He.Fa.glo "InvalidBag").ok K,
  fun K => (He.Fa.glo "InvalidBook").ok K,
  fun K => (He.Fa.glo "InvalidColor").ok K,
  fun K => (He.Fa.glo "InvalidCommand").ok K,
  fun K => (He.Fa.glo "InvalidCount").ok K,
  fun K => (He.Fa.glo "InvalidEntry").ok K,
  fun K => (He.Fa.glo "InvalidFar").ok K,
  fun K => (He.Fa.glo "InvalidLetter").ok K,
  fun K => (He.Fa.glo "InvalidName").ok K,
  fun K => (He.Fa.glo "InvalidPage").ok K,
  fun K => (He.Fa.glo "InvalidPair").ok K,
  fun K => (He.Fa.glo "InvalidPattern").ok K,
  fun K => (He.Fa.glo "InvalidRow").ok K,
  fun K => (He.Fa.glo "InvalidText").ok K,
  fun K => (He.Fa.glo "InvalidWord").ok K,
  fun K => (He.Fa.glo "LotError").ok K,
  fun K => (He.Fa.glo "LotsDiffer").ok K,
  fun K => (He.Fa.glo "Missing").ok K,
  fun K => (He.Fa.glo "NotEven").ok K,
  fun K => (He.Fa.glo "NotThere").ok K,
  fun K => (He.Fa.glo "NothingLeft").ok K,
  fun K => (He.Fa.glo "TooMany").ok K,
  fun K => (He.Fa.glo "UnknownName").ok K,
  fun K => (He.Fa.glo "WrongKind").ok K,
  fun K => (He.Fa.cls "Alphabet").ok K,
  fun K => (He.Fa.mkr "Alphabet").ok K,
  fun K => oexGB K (He.ga K "AlphabetsDiffer") "ValueError.__new__" [.type "ValueError", .type "Exception", .type "BaseException", .type "object"],
  fun K => iniGB K f_AlphabetsDiffer_init (He.ga K "AlphabetsDiffer") PySem.Challenge.pw_lotbarter_k66_errors_made_by_hand.main.file "ValueError" "ValueError.__init__" (([("code", .inr "AlphabetsDiffer")] : List (Str × IniV)).map (·.1)),
  fun K => (He.Fa.free "super").ok K,
  fun K => oexGB K (He.ga K "DuplicateName") "ValueError.__new__" [.type "ValueError", .type "Exception", .type "BaseException", .type "object"],
  fun K => iniGB K f_DuplicateName_init (He.ga K "DuplicateName") PySem.Challenge.pw_lotbarter_k66_errors_made_by_hand.main.file "ValueError" "ValueError.__init__" (([("name", .inl 0), ("code", .inr "DuplicateName")] : List (Str × IniV)).map (·.1)),
  fun K => oexGB K (He.ga K "Full") "ValueError.__new__" [.type "ValueError", .type "Exception", .type "BaseException", .type "object"],
  fun K => iniGB K f_Full_init (He.ga K "Full") PySem.Challenge.pw_lotbarter_k66_errors_made_by_hand.main.file "ValueError" "ValueError.__init__" (([("most", .inl 0), ("code", .inr "Full")] : List (Str × IniV)).map (·.1)),
  fun K => oexGB K (He.ga K "InUse") "ValueError.__new__" [.type "ValueError", .type "Exception", .type "BaseException", .type "object"],
  fun K => iniGB K f_InUse_init (He.ga K "InUse") PySem.Challenge.pw_lotbarter_k66_errors_made_by_hand.main.file "ValueError" "ValueError.__init__" (([("user", .inl 0), ("code", .inr "InUse")] : List (Str × IniV)).map (·.1)),
  fun K => oexB K (He.ga K "InvalidAlphabet"),
  fun K => iniB K f_InvalidAlphabet_init (He.ga K "InvalidAlphabet") PySem.Challenge.pw_lotbarter_k66_errors_made_by_hand.main.file (([("given", .inl 0), ("code", .inr "InvalidAlphabet")] : List (Str × IniV)).map (·.1)),
  fun K => oexGB K (He.ga K "InvalidAlphabet") "ValueError.__new__" [.type "ValueError", .type "Exception", .type "BaseException", .type "object"],
  fun K => iniGB K f_InvalidAlphabet_init (He.ga K "InvalidAlphabet") PySem.Challenge.pw_lotbarter_k66_errors_made_by_hand.main.file "ValueError" "ValueError.__init__" (([("given", .inl 0), ("code", .inr "InvalidAlphabet")] : List (Str × IniV)).map (·.1)),
  fun K => oexGB K (He.ga K "InvalidAutomaton") "ValueError.__new__" [.type "ValueError", .type "Exception", .type "BaseException", .type "object"],
  fun K => iniGB K f_InvalidAutomaton_init (He.ga K "InvalidAutomaton") PySem.Challenge.pw_lotbarter_k66_errors_made_by_hand.main.file "ValueError" "ValueError.__init__" (([("code", .inr "InvalidAutomaton")] : List (Str × IniV)).map (·.1)),
  fun K => oexGB K (He.ga K "InvalidBag") "ValueError.__new__" [.type "ValueError", .type "Exception", .type "BaseException", .type "object"],
  fun K => iniGB K f_InvalidBag_init (He.ga K "InvalidBag") PySem.Challenge.pw_lotbarter_k66_errors_made_by_hand.main.file "ValueError" "ValueError.__init__" (([("given", .inl 0), ("code", .inr "InvalidBag")] : List (Str × IniV)).map (·.1)),
  fun K => oexGB K (He.ga K "InvalidBook") "ValueError.__new__" [.type "ValueError", .type "Exception", .type "BaseException", .type "object"],
  fun K => iniGB K f_InvalidBook_init (He.ga K "InvalidBook") PySem.Challenge.pw_lotbarter_k66_errors_made_by_hand.main.file "ValueError" "ValueError.__init__" (([("code", .inr "InvalidBook")] : List (Str × IniV)).map (·.1)),
  fun K => oexGB K (He.ga K "InvalidColor") "ValueError.__new__" [.type "ValueError", .type "Exception", .type "BaseException", .type "object"],
  fun K => iniGB K f_InvalidColor_init (He.ga K "InvalidColor") PySem.Challenge.pw_lotbarter_k66_errors_made_by_hand.main.file "ValueError" "ValueError.__init__" (([("given", .inl 0), ("code", .inr "InvalidColor")] : List (Str × IniV)).map (·.1)),
  fun K => oexGB K (He.ga K "InvalidCommand") "ValueError.__new__" [.type "ValueError", .type "Exception", .type "BaseException", .type "object"],
  fun K => iniGB K f_InvalidCommand_init (He.ga K "InvalidCommand") PySem.Challenge.pw_lotbarter_k66_errors_made_by_hand.main.file "ValueError" "ValueError.__init__" (([("word", .inl 0), ("code", .inr "InvalidCommand")] : List (Str × IniV)).map (·.1)),
  fun K => oexGB K (He.ga K "InvalidCount") "ValueError.__new__" [.type "ValueError", .type "Exception", .type "BaseException", .type "object"],
  fun K => iniGB K f_InvalidCount_init (He.ga K "InvalidCount") PySem.Challenge.pw_lotbarter_k66_errors_made_by_hand.main.file "ValueError" "ValueError.__init__" (([("given", .inl 0), ("code", .inr "InvalidCount")] : List (Str × IniV)).map (·.1)),
  fun K => oexGB K (He.ga K "InvalidEntry") "ValueError.__new__" [.type "ValueError", .type "Exception", .type "BaseException", .type "object"],
  fun K => iniGB K f_InvalidEntry_init (He.ga K "InvalidEntry") PySem.Challenge.pw_lotbarter_k66_errors_made_by_hand.main.file "ValueError" "ValueError.__init__" (([("at", .inl 0), ("code", .inr "InvalidEntry")] : List (Str × IniV)).map (·.1)),
  fun K => oexGB K (He.ga K "InvalidFar") "ValueError.__new__" [.type "ValueError", .type "Exception", .type "BaseException", .type "object"],
  fun K => iniGB K f_InvalidFar_init (He.ga K "InvalidFar") PySem.Challenge.pw_lotbarter_k66_errors_made_by_hand.main.file "ValueError" "ValueError.__init__" (([("given", .inl 0), ("code", .inr "InvalidFar")] : List (Str × IniV)).map (·.1)),
  fun K => oexB K (He.ga K "InvalidLetter"),
  fun K => iniB K f_InvalidLetter_init (He.ga K "InvalidLetter") PySem.Challenge.pw_lotbarter_k66_errors_made_by_hand.main.file (([("given", .inl 0), ("code", .inr "InvalidLetter")] : List (Str × IniV)).map (·.1)),
  fun K => oexGB K (He.ga K "InvalidLetter") "ValueError.__new__" [.type "ValueError", .type "Exception", .type "BaseException", .type "object"],
  fun K => iniGB K f_InvalidLetter_init (He.ga K "InvalidLetter") PySem.Challenge.pw_lotbarter_k66_errors_made_by_hand.main.file "ValueError" "ValueError.__init__" (([("given", .inl 0), ("code", .inr "InvalidLetter")] : List (Str × IniV)).map (·.1)),
  fun K => oexGB K (He.ga K "InvalidName") "ValueError.__new__" [.type "ValueError", .type "Exception", .type "BaseException", .type "object"],
  fun K => iniGB K f_InvalidName_init (He.ga K "InvalidName") PySem.Challenge.pw_lotbarter_k66_errors_made_by_hand.main.file "ValueError" "ValueError.__init__" (([("name", .inl 0), ("code", .inr "InvalidName")] : List (Str × IniV)).map (·.1)),
  fun K => oexGB K (He.ga K "InvalidPage") "ValueError.__new__" [.type "ValueError", .type "Exception", .type "BaseException", .type "object"],
  fun K => iniGB K f_InvalidPage_init (He.ga K "InvalidPage") PySem.Challenge.pw_lotbarter_k66_errors_made_by_hand.main.file "ValueError" "ValueError.__init__" (([("line", .inl 0), ("code", .inr "InvalidPage")] : List (Str × IniV)).map (·.1)),
  fun K => oexGB K (He.ga K "InvalidPair") "ValueError.__new__" [.type "ValueError", .type "Exception", .type "BaseException", .type "object"],
  fun K => iniGB K f_InvalidPair_init (He.ga K "InvalidPair") PySem.Challenge.pw_lotbarter_k66_errors_made_by_hand.main.file "ValueError" "ValueError.__init__" (([("code", .inr "InvalidPair")] : List (Str × IniV)).map (·.1)),
  fun K => oexGB K (He.ga K "InvalidPattern") "ValueError.__new__" [.type "ValueError", .type "Exception", .type "BaseException", .type "object"],
  fun K => iniGB K f_InvalidPattern_init (He.ga K "InvalidPattern") PySem.Challenge.pw_lotbarter_k66_errors_made_by_hand.main.file "ValueError" "ValueError.__init__" (([("path", .inl 0), ("code", .inr "InvalidPattern")] : List (Str × IniV)).map (·.1)),
  fun K => oexGB K (He.ga K "InvalidRow") "ValueError.__new__" [.type "ValueError", .type "Exception", .type "BaseException", .type "object"],
  fun K => iniGB K f_InvalidRow_init (He.ga K "InvalidRow") PySem.Challenge.pw_lotbarter_k66_errors_made_by_hand.main.file "ValueError" "ValueError.__init__" (([("given", .inl 0), ("code", .inr "InvalidRow")] : List (Str × IniV)).map (·.1)),
  fun K => oexGB K (He.ga K "InvalidText") "ValueError.__new__" [.type "ValueError", .type "Exception", .type "BaseException", .type "object"],
  fun K => iniGB K f_InvalidText_init (He.ga K "InvalidText") PySem.Challenge.pw_lotbarter_k66_errors_made_by_hand.main.file "ValueError" "ValueError.__init__" (([("code", .inr "InvalidText")] : List (Str × IniV)).map (·.1)),
  fun K => oexGB K (He.ga K "InvalidWord") "ValueError.__new__" [.type "ValueError", .type "Exception", .type "BaseException", .type "object"],
  fun K => iniGB K f_InvalidWord_init (He.ga K "InvalidWord") PySem.Challenge.pw_lotbarter_k66_errors_made_by_hand.main.file "ValueError" "ValueError.__init__" (([("given", .inl 0), ("code", .inr "InvalidWord")] : List (Str × IniV)).map (·.1)),
  fun K => oexGB K (He.ga K "LotsDiffer") "ValueError.__new__" [.type "ValueError", .type "Exception", .type "BaseException", .type "object"],
  fun K => iniGB K f_LotsDiffer_init (He.ga K "LotsDiffer") PySem.Challenge.pw_lotbarter_k66_errors_made_by_hand.main.file "ValueError" "ValueError.__init__" (([("at", .inl 0), ("code", .inr "LotsDiffer")] : List (Str × IniV)).map (·.1)),
  fun K => oexGB K (He.ga K "NotEven") "ValueError.__new__" [.type "ValueError", .type "Exception", .type "BaseException", .type "object"],
  fun K => iniGB K f_NotEven_init (He.ga K "NotEven") PySem.Challenge.pw_lotbarter_k66_errors_made_by_hand.main.file "ValueError" "ValueError.__init__" (([("row", .inl 0), ("code", .inr "NotEven")] : List (Str × IniV)).map (·.1)),
  fun K => oexGB K (He.ga K "NotThere") "ValueError.__new__" [.type "ValueError", .type "Exception", .type "BaseException", .type "object"],
  fun K => iniGB K f_NotThere_init (He.ga K "NotThere") PySem.Challenge.pw_lotbarter_k66_errors_made_by_hand.main.file "ValueError" "ValueError.__init__" (([("given", .inl 0), ("code", .inr "NotThere")] : List (Str × IniV)).map (·.1)),
  fun K => oexGB K (He.ga K "NothingLeft") "IndexError.__new__" [.type "IndexError", .type "LookupError", .type "Exception", .type "BaseException", .type "object"],
  fun K => iniGB K f_NothingLeft_init (He.ga K "NothingLeft") PySem.Challenge.pw_lotbarter_k66_errors_made_by_hand.main.file "IndexError" "IndexError.__init__" (([("code", .inr "NothingLeft")] : List (Str × IniV)).map (·.1)),
  fun K => oexGB K (He.ga K "TooMany") "ValueError.__new__" [.type "ValueError", .type "Exception", .type "BaseException", .type "object"],
  fun K => iniGB K f_TooMany_init (He.ga K "TooMany") PySem.Challenge.pw_lotbarter_k66_errors_made_by_hand.main.file "ValueError" "ValueError.__init__" (([("subject", .inl 0), ("most", .inl 1), ("code", .inr "TooMany")] : List (Str × IniV)).map (·.1)),
  fun K => oexGB K (He.ga K "UnknownName") "LookupError.__new__" [.type "LookupError", .type "Exception", .type "BaseException", .type "object"],
  fun K => iniGB K f_UnknownName_init (He.ga K "UnknownName") PySem.Challenge.pw_lotbarter_k66_errors_made_by_hand.main.file "LookupError" "LookupError.__init__" (([("name", .inl 0), ("code", .inr "UnknownName")] : List (Str × IniV)).map (·.1)),
  fun K => oexGB K (He.ga K "WrongKind") "ValueError.__new__" [.type "ValueError", .type "Exception", .type "BaseException", .type "object"],
  fun K => iniGB K f_WrongKind_init (He.ga K "WrongKind") PySem.Challenge.pw_lotbarter_k66_errors_made_by_hand.main.file "ValueError" "ValueError.__init__" (([("name", .inl 0), ("code", .inr "WrongKind")] : List (Str × IniV)).map (·.1)),
  fun K => (He.Fa.meth "Alphabet" "__contains__").ok K,
  fun K => (He.Fa.meth "Alphabet" "color").ok K,
  fun K => statB K (He.ga K "Alphabet") "plain",
  fun K => (He.Fa.noat "Alphabet" "own_digits").ok K,
  fun K => (He.Fa.noat "Alphabet" "own_letters").ok K,
  fun K => decide (PySem.W.exmAny K (.ref (He.ga K "InvalidAlphabet")) [.ref (He.ga K "LotError"), .ref (He.ga K "Missing"), .ref (He.ga K "NothingLeft")] = some true),
  fun K => decide (PySem.W.exmAny K (.ref (He.ga K "InvalidLetter")) [.ref (He.ga K "LotError"), .ref (He.ga K "Missing"), .ref (He.ga K "NothingLeft")] = some true),
  fun K => xfB K (He.ga K "InvalidAlphabet"),
  fun K => xfB K (He.ga K "InvalidLetter"),
  fun K => (["at", "code", "given", "line", "most", "name", "path", "row", "subject", "user", "word"] : List String).all fun f => oB (PySem.W.findIn K (.ref (He.ga K "InvalidAlphabet")) (Str.ofString f)) (some none),
  fun K => (["at", "code", "given", "line", "most", "name", "path", "row", "subject", "user", "word"] : List String).all fun f => oB (PySem.W.findIn K (.ref (He.ga K "InvalidLetter")) (Str.ofString f)) (some none),
  fun K => xcfB K (cAof K) [19, 28] "at",
  fun K => xcfB K (cAof K) [10, 11, 12, 13, 14, 15, 16, 17, 18, 19, 22, 23, 24, 25, 26, 27, 28, 29, 30, 31, 32, 33, 34, 35, 36, 37, 38, 39] "code",
  fun K => xcfB K (cAof K) [10, 11, 12, 13, 14, 15, 23, 26, 30] "given",
  fun K => xcfB K (cAof K) [38] "line",
  fun K => xcfB K (cAof K) [31, 35] "most",
  fun K => xcfB K (cAof K) [32, 33, 34, 39] "name",
  fun K => xcfB K (cAof K) [16] "path",
  fun K => xcfB K (cAof K) [29] "row",
  fun K => xcfB K (cAof K) [31] "subject",
  fun K => xcfB K (cAof K) [36] "user",
  fun K => xcfB K (cAof K) [37] "word",
  fun K => isxB K (cAof K) isxl,
  fun K => isiL K (cAof K) [0],
  fun K => (He.Fa.glo "law").ok K]
def okK : PySem.W.Frag → Bool := fun K => facts.all fun f => f K
theorem fct {K : PySem.W.Frag} (h : okK K = true) (i : Nat) {f : PySem.W.Frag → Bool} (hf : facts[i]? = some f) : f K = true := List.all_eq_true.mp h f (List.mem_of_getElem? hf)
theorem law_glo {w : World} {K : PySem.W.Frag} {c Pt : Addr} {h : Heap} {mg : Str → Option Value} (z : SaysW okK fns dcons w K c Pt h) (Gn : h.Ns mainGlobals mg) : mg "law" = some (.ref (He.ga K "law")) := by
  have hz := z.u.ok
  exact He.glo_ok z.u.kin Gn (fct hz 141 (by rfl))
theorem g_of {w : World} {K : PySem.W.Frag} {c Pt : Addr} {h : Heap} {mg : Str → Option Value} (z : SaysW okK fns dcons w K c Pt h) (Gn : h.Ns mainGlobals mg) : ∃ g : G PySem.Challenge.pw_lotbarter_k66_errors_made_by_hand w K (cAof K) mg, True := by
  have hz := z.u.ok
  obtain ⟨d_law_field, F_law_field, k_law_field⟩ := z.u.def_ 0 (d := f_law_field)
  obtain ⟨d_law_try, F_law_try, k_law_try⟩ := z.u.def_ 1 (d := f_law_try)
  obtain ⟨d_law_like, F_law_like, k_law_like⟩ := z.u.def_ 2 (d := f_law_like)
  obtain ⟨d_Alphabet_contains, F_Alphabet_contains, k_Alphabet_contains⟩ := z.u.def_ 3 (d := f_Alphabet_contains)
  obtain ⟨d_Alphabet_color, F_Alphabet_color, k_Alphabet_color⟩ := z.u.def_ 4 (d := f_Alphabet_color)
  obtain ⟨d_are_digits, F_are_digits, k_are_digits⟩ := z.u.def_ 5 (d := f_are_digits)
  obtain ⟨d_is_small, F_is_small, k_is_small⟩ := z.u.def_ 6 (d := f_is_small)
  obtain ⟨d_are_letters, F_are_letters, k_are_letters⟩ := z.u.def_ 7 (d := f_are_letters)
  obtain ⟨d_Alphabet_init, F_Alphabet_init, k_Alphabet_init⟩ := z.u.def_ 8 (d := f_Alphabet_init)
  obtain ⟨d_Alphabet_plain, F_Alphabet_plain, k_Alphabet_plain⟩ := z.u.def_ 9 (d := f_Alphabet_plain)
  obtain ⟨d_law_pick, F_law_pick, k_law_pick⟩ := z.u.def_ 10 (d := f_law_pick)
  obtain ⟨d_law_of, F_law_of, k_law_of⟩ := z.u.def_ 11 (d := f_law_of)
  obtain ⟨d_law_made_right, F_law_made_right, k_law_made_right⟩ := z.u.def_ 12 (d := f_law_made_right)
  obtain ⟨d_law_given, F_law_given, k_law_given⟩ := z.u.def_ 13 (d := f_law_given)
  obtain ⟨d_law_hand, F_law_hand, k_law_hand⟩ := z.u.def_ 14 (d := f_law_hand)
  obtain ⟨t_MOST_LETTERS, e_MOST_LETTERS⟩ := He.int_ok z.u.kin Gn (fct hz 21 (by rfl))
  obtain ⟨t_SMALL, e_SMALL⟩ := He.str_ok z.u.kin Gn (fct hz 22 (by rfl))
  exact ⟨{
    a_law_field := f_law_field.at_ K
    d_law_field := d_law_field
    F_law_field := F_law_field
    b_law_field := F_law_field.binds (ps := ["_law_e"]) fun _ _ _ _ _ _ us hl => match us, hl with | [_], _ => rfl
    g_law_field := He.glo_ok z.u.kin Gn (fct hz 0 (by rfl))
    k_law_field := k_law_field
    a_law_try := f_law_try.at_ K
    d_law_try := d_law_try
    F_law_try := F_law_try
    b_law_try := F_law_try.binds (ps := ["_law_ask"]) fun _ _ _ _ _ _ us hl => match us, hl with | [_], _ => rfl
    g_law_try := He.glo_ok z.u.kin Gn (fct hz 1 (by rfl))
    k_law_try := k_law_try
    a_law_like := f_law_like.at_ K
    d_law_like := d_law_like
    F_law_like := F_law_like
    b_law_like := F_law_like.binds (ps := ["_law_found", "_law_due"]) fun _ _ _ _ _ _ us hl => match us, hl with | [_, _], _ => rfl
    g_law_like := He.glo_ok z.u.kin Gn (fct hz 2 (by rfl))
    k_law_like := k_law_like
    a_Alphabet_contains := f_Alphabet_contains.at_ K
    d_Alphabet_contains := d_Alphabet_contains
    F_Alphabet_contains := F_Alphabet_contains
    b_Alphabet_contains := F_Alphabet_contains.binds (ps := ["self", "value"]) fun _ _ _ _ _ _ us hl => match us, hl with | [_, _], _ => rfl
    k_Alphabet_contains := k_Alphabet_contains
    a_Alphabet_color := f_Alphabet_color.at_ K
    d_Alphabet_color := d_Alphabet_color
    F_Alphabet_color := F_Alphabet_color
    b_Alphabet_color := F_Alphabet_color.binds (ps := ["self", "letter"]) fun _ _ _ _ _ _ us hl => match us, hl with | [_, _], _ => rfl
    k_Alphabet_color := k_Alphabet_color
    a_are_digits := f_are_digits.at_ K
    d_are_digits := d_are_digits
    F_are_digits := F_are_digits
    b_are_digits := F_are_digits.binds (ps := ["value", "many"]) fun _ _ _ _ _ _ us hl => match us, hl with | [_, _], _ => rfl
    g_are_digits := He.glo_ok z.u.kin Gn (fct hz 3 (by rfl))
    k_are_digits := k_are_digits
    a_is_small := f_is_small.at_ K
    d_is_small := d_is_small
    F_is_small := F_is_small
    b_is_small := F_is_small.binds (ps := ["value"]) fun _ _ _ _ _ _ us hl => match us, hl with | [_], _ => rfl
    g_is_small := He.glo_ok z.u.kin Gn (fct hz 4 (by rfl))
    k_is_small := k_is_small
    a_are_letters := f_are_letters.at_ K
    d_are_letters := d_are_letters
    F_are_letters := F_are_letters
    b_are_letters := F_are_letters.binds (ps := ["value"]) fun _ _ _ _ _ _ us hl => match us, hl with | [_], _ => rfl
    g_are_letters := He.glo_ok z.u.kin Gn (fct hz 5 (by rfl))
    k_are_letters := k_are_letters
    a_Alphabet_init := f_Alphabet_init.at_ K
    d_Alphabet_init := d_Alphabet_init
    F_Alphabet_init := F_Alphabet_init
    b_Alphabet_init := F_Alphabet_init.binds (ps := ["self", "letters", "colors"]) fun _ _ _ _ _ _ us hl => match us, hl with | [_, _, _], _ => rfl
    k_Alphabet_init := k_Alphabet_init
    a_Alphabet_plain := f_Alphabet_plain.at_ K
    d_Alphabet_plain := d_Alphabet_plain
    F_Alphabet_plain := F_Alphabet_plain
    b_Alphabet_plain := F_Alphabet_plain.binds (ps := ["letters"]) fun _ _ _ _ _ _ us hl => match us, hl with | [_], _ => rfl
    k_Alphabet_plain := k_Alphabet_plain
    a_law_pick := f_law_pick.at_ K
    d_law_pick := d_law_pick
    F_law_pick := F_law_pick
    b_law_pick := F_law_pick.binds (ps := ["_law_hand_here", "_law_sides"]) fun _ _ _ _ _ _ us hl => match us, hl with | [_, _], _ => rfl
    g_law_pick := He.glo_ok z.u.kin Gn (fct hz 6 (by rfl))
    k_law_pick := k_law_pick
    a_law_of := f_law_of.at_ K
    d_law_of := d_law_of
    F_law_of := F_law_of
    b_law_of := F_law_of.binds (ps := ["_law_hand_here", "_law_things"]) fun _ _ _ _ _ _ us hl => match us, hl with | [_, _], _ => rfl
    g_law_of := He.glo_ok z.u.kin Gn (fct hz 7 (by rfl))
    k_law_of := k_law_of
    a_law_made_right := f_law_made_right.at_ K
    d_law_made_right := d_law_made_right
    F_law_made_right := F_law_made_right
    b_law_made_right := F_law_made_right.binds (ps := ["_law_error", "_law_code", "_law_due"]) fun _ _ _ _ _ _ us hl => match us, hl with | [_, _, _], _ => rfl
    g_law_made_right := He.glo_ok z.u.kin Gn (fct hz 8 (by rfl))
    k_law_made_right := k_law_made_right
    a_law_given := f_law_given.at_ K
    d_law_given := d_law_given
    F_law_given := F_law_given
    b_law_given := F_law_given.binds (ps := ["_law_one"]) fun _ _ _ _ _ _ us hl => match us, hl with | [_], _ => rfl
    g_law_given := He.glo_ok z.u.kin Gn (fct hz 9 (by rfl))
    k_law_given := k_law_given
    a_law_hand := f_law_hand.at_ K
    d_law_hand := d_law_hand
    F_law_hand := F_law_hand
    b_law_hand := F_law_hand.binds (ps := ["_law_script"]) fun _ _ _ _ _ _ us hl => match us, hl with | [_], _ => rfl
    g_law_hand := He.glo_ok z.u.kin Gn (fct hz 10 (by rfl))
    k_law_hand := k_law_hand
    z_all := He.free_ok z.u.kin Gn (fct hz 11 (by rfl))
    z_bool := He.free_ok z.u.kin Gn (fct hz 12 (by rfl))
    z_int := He.free_ok z.u.kin Gn (fct hz 13 (by rfl))
    z_isinstance := He.free_ok z.u.kin Gn (fct hz 14 (by rfl))
    z_len := He.free_ok z.u.kin Gn (fct hz 15 (by rfl))
    z_list := He.free_ok z.u.kin Gn (fct hz 16 (by rfl))
    z_range := He.free_ok z.u.kin Gn (fct hz 17 (by rfl))
    z_str := He.free_ok z.u.kin Gn (fct hz 18 (by rfl))
    z_tuple := He.free_ok z.u.kin Gn (fct hz 19 (by rfl))
    z_zip := He.free_ok z.u.kin Gn (fct hz 20 (by rfl))
    cu_MOST_LETTERS := .int 8 t_MOST_LETTERS
    cm_MOST_LETTERS := e_MOST_LETTERS
    cr_MOST_LETTERS := ⟨_, rfl⟩
    cu_SMALL := .str "abcdefghijklmnopqrstuvwxyz" t_SMALL
    cm_SMALL := e_SMALL
    cr_SMALL := ⟨_, rfl⟩
    g_Alphabet := He.glo_ok z.u.kin Gn (fct hz 23 (by rfl))
    g_AlphabetsDiffer := He.glo_ok z.u.kin Gn (fct hz 24 (by rfl))
    g_DuplicateName := He.glo_ok z.u.kin Gn (fct hz 25 (by rfl))
    g_Full := He.glo_ok z.u.kin Gn (fct hz 26 (by rfl))
    g_InUse := He.glo_ok z.u.kin Gn (fct hz 27 (by rfl))
    g_InvalidAlphabet := He.glo_ok z.u.kin Gn (fct hz 28 (by rfl))
    g_InvalidAutomaton := He.glo_ok z.u.kin Gn (fct hz 29 (by rfl))
    g_InvalidBag := He.glo_ok z.u.kin Gn (fct hz 30 (by rfl))
    g_InvalidBook := He.glo_ok z.u.kin Gn (fct hz 31 (by rfl))
    g_InvalidColor := He.glo_ok z.u.kin Gn (fct hz 32 (by rfl))
    g_InvalidCommand := He.glo_ok z.u.kin Gn (fct hz 33 (by rfl))
    g_InvalidCount := He.glo_ok z.u.kin Gn (fct hz 34 (by rfl))
    g_InvalidEntry := He.glo_ok z.u.kin Gn (fct hz 35 (by rfl))
    g_InvalidFar := He.glo_ok z.u.kin Gn (fct hz 36 (by rfl))
    g_InvalidLetter := He.glo_ok z.u.kin Gn (fct hz 37 (by rfl))
    g_InvalidName := He.glo_ok z.u.kin Gn (fct hz 38 (by rfl))
    g_InvalidPage := He.glo_ok z.u.kin Gn (fct hz 39 (by rfl))
    g_InvalidPair := He.glo_ok z.u.kin Gn (fct hz 40 (by rfl))
    g_InvalidPattern := He.glo_ok z.u.kin Gn (fct hz 41 (by rfl))
    g_InvalidRow := He.glo_ok z.u.kin Gn (fct hz 42 (by rfl))
    g_InvalidText := He.glo_ok z.u.kin Gn (fct hz 43 (by rfl))
    g_InvalidWord := He.glo_ok z.u.kin Gn (fct hz 44 (by rfl))
    g_LotError := He.glo_ok z.u.kin Gn (fct hz 45 (by rfl))
    g_LotsDiffer := He.glo_ok z.u.kin Gn (fct hz 46 (by rfl))
    g_Missing := He.glo_ok z.u.kin Gn (fct hz 47 (by rfl))
    g_NotEven := He.glo_ok z.u.kin Gn (fct hz 48 (by rfl))
    g_NotThere := He.glo_ok z.u.kin Gn (fct hz 49 (by rfl))
    g_NothingLeft := He.glo_ok z.u.kin Gn (fct hz 50 (by rfl))
    g_TooMany := He.glo_ok z.u.kin Gn (fct hz 51 (by rfl))
    g_UnknownName := He.glo_ok z.u.kin Gn (fct hz 52 (by rfl))
    g_WrongKind := He.glo_ok z.u.kin Gn (fct hz 53 (by rfl))
    cl_Alphabet := He.cls_ok (fct hz 54 (by rfl))
    mk_Alphabet := He.mkr_ok (fct hz 55 (by rfl))
    v_AlphabetsDiffer := extG_ok (d := f_AlphabetsDiffer_init) (main := PySem.Challenge.pw_lotbarter_k66_errors_made_by_hand.main.file) (N := ["self", "__class__"]) (ps := ["self"]) (fl := [("code", .inr "AlphabetsDiffer")]) PySem.HandSPX.base_VE (fct hz 56 (by rfl)) (fct hz 57 (by rfl)) (z.u.eq 16 (by rfl)) (z.u.fok _ (List.mem_of_getElem? (show fns[16]? = some f_AlphabetsDiffer_init from rfl))) rfl rfl rfl ini_AlphabetsDiffer_init (He.free_ok z.u.kin Gn (fct hz 58 (by rfl))) (by decide +kernel) fun _ _ _ _ _ _ _ q hq => by
      simp only [List.mem_cons, List.not_mem_nil, or_false] at hq
      rcases hq with rfl
      · exact fun us ws h1 h2 => match us, ws, h1, h2 with | [_], [], _, _ => rfl
    v_DuplicateName := extG_ok (d := f_DuplicateName_init) (main := PySem.Challenge.pw_lotbarter_k66_errors_made_by_hand.main.file) (N := ["self", "name", "__class__"]) (ps := ["self", "name"]) (fl := [("name", .inl 0), ("code", .inr "DuplicateName")]) PySem.HandSPX.base_VE (fct hz 59 (by rfl)) (fct hz 60 (by rfl)) (z.u.eq 17 (by rfl)) (z.u.fok _ (List.mem_of_getElem? (show fns[17]? = some f_DuplicateName_init from rfl))) rfl rfl rfl ini_DuplicateName_init (He.free_ok z.u.kin Gn (fct hz 58 (by rfl))) (by decide +kernel) fun _ _ _ _ _ _ _ q hq => by
      simp only [List.mem_cons, List.not_mem_nil, or_false] at hq
      rcases hq with rfl | rfl
      · exact fun us ws h1 h2 => match us, ws, h1, h2 with | [_], [_], _, _ => rfl
      · exact fun us ws h1 h2 => match us, ws, h1, h2 with | [_, _], [], _, _ => rfl
    v_Full := extG_ok (d := f_Full_init) (main := PySem.Challenge.pw_lotbarter_k66_errors_made_by_hand.main.file) (N := ["self", "most", "__class__"]) (ps := ["self", "most"]) (fl := [("most", .inl 0), ("code", .inr "Full")]) PySem.HandSPX.base_VE (fct hz 61 (by rfl)) (fct hz 62 (by rfl)) (z.u.eq 18 (by rfl)) (z.u.fok _ (List.mem_of_getElem? (show fns[18]? = some f_Full_init from rfl))) rfl rfl rfl ini_Full_init (He.free_ok z.u.kin Gn (fct hz 58 (by rfl))) (by decide +kernel) fun _ _ _ _ _ _ _ q hq => by
      simp only [List.mem_cons, List.not_mem_nil, or_false] at hq
      rcases hq with rfl | rfl
      · exact fun us ws h1 h2 => match us, ws, h1, h2 with | [_], [_], _, _ => rfl
      · exact fun us ws h1 h2 => match us, ws, h1, h2 with | [_, _], [], _, _ => rfl
    v_InUse := extG_ok (d := f_InUse_init) (main := PySem.Challenge.pw_lotbarter_k66_errors_made_by_hand.main.file) (N := ["self", "user", "__class__"]) (ps := ["self", "user"]) (fl := [("user", .inl 0), ("code", .inr "InUse")]) PySem.HandSPX.base_VE (fct hz 63 (by rfl)) (fct hz 64 (by rfl)) (z.u.eq 19 (by rfl)) (z.u.fok _ (List.mem_of_getElem? (show fns[19]? = some f_InUse_init from rfl))) rfl rfl rfl ini_InUse_init (He.free_ok z.u.kin Gn (fct hz 58 (by rfl))) (by decide +kernel) fun _ _ _ _ _ _ _ q hq => by
      simp only [List.mem_cons, List.not_mem_nil, or_false] at hq
      rcases hq with rfl | rfl
      · exact fun us ws h1 h2 => match us, ws, h1, h2 with | [_], [_], _, _ => rfl
      · exact fun us ws h1 h2 => match us, ws, h1, h2 with | [_, _], [], _, _ => rfl
    v_InvalidAlphabet := extG_ok (d := f_InvalidAlphabet_init) (main := PySem.Challenge.pw_lotbarter_k66_errors_made_by_hand.main.file) (N := ["self", "given", "__class__"]) (ps := ["self", "given"]) (fl := [("given", .inl 0), ("code", .inr "InvalidAlphabet")]) PySem.HandSPX.base_VE (fct hz 67 (by rfl)) (fct hz 68 (by rfl)) (z.u.eq 20 (by rfl)) (z.u.fok _ (List.mem_of_getElem? (show fns[20]? = some f_InvalidAlphabet_init from rfl))) rfl rfl rfl ini_InvalidAlphabet_init (He.free_ok z.u.kin Gn (fct hz 58 (by rfl))) (by decide +kernel) fun _ _ _ _ _ _ _ q hq => by
      simp only [List.mem_cons, List.not_mem_nil, or_false] at hq
      rcases hq with rfl | rfl
      · exact fun us ws h1 h2 => match us, ws, h1, h2 with | [_], [_], _, _ => rfl
      · exact fun us ws h1 h2 => match us, ws, h1, h2 with | [_, _], [], _, _ => rfl
    x_InvalidAlphabet := extB_ok (d := f_InvalidAlphabet_init) (main := PySem.Challenge.pw_lotbarter_k66_errors_made_by_hand.main.file) (N := ["self", "given", "__class__"]) (ps := ["self", "given"]) (fl := [("given", .inl 0), ("code", .inr "InvalidAlphabet")]) (fct hz 65 (by rfl)) (fct hz 66 (by rfl)) (z.u.eq 20 (by rfl)) (z.u.fok _ (List.mem_of_getElem? (show fns[20]? = some f_InvalidAlphabet_init from rfl))) rfl rfl rfl ini_InvalidAlphabet_init (He.free_ok z.u.kin Gn (fct hz 58 (by rfl))) (by decide +kernel) fun _ _ _ _ _ _ _ us hl => match us, hl with | [_, _], _ => rfl
    v_InvalidAutomaton := extG_ok (d := f_InvalidAutomaton_init) (main := PySem.Challenge.pw_lotbarter_k66_errors_made_by_hand.main.file) (N := ["self", "__class__"]) (ps := ["self"]) (fl := [("code", .inr "InvalidAutomaton")]) PySem.HandSPX.base_VE (fct hz 69 (by rfl)) (fct hz 70 (by rfl)) (z.u.eq 21 (by rfl)) (z.u.fok _ (List.mem_of_getElem? (show fns[21]? = some f_InvalidAutomaton_init from rfl))) rfl rfl rfl ini_InvalidAutomaton_init (He.free_ok z.u.kin Gn (fct hz 58 (by rfl))) (by decide +kernel) fun _ _ _ _ _ _ _ q hq => by
      simp only [List.mem_cons, List.not_mem_nil, or_false] at hq
      rcases hq with rfl
      · exact fun us ws h1 h2 => match us, ws, h1, h2 with | [_], [], _, _ => rfl
    v_InvalidBag := extG_ok (d := f_InvalidBag_init) (main := PySem.Challenge.pw_lotbarter_k66_errors_made_by_hand.main.file) (N := ["self", "given", "__class__"]) (ps := ["self", "given"]) (fl := [("given", .inl 0), ("code", .inr "InvalidBag")]) PySem.HandSPX.base_VE (fct hz 71 (by rfl)) (fct hz 72 (by rfl)) (z.u.eq 22 (by rfl)) (z.u.fok _ (List.mem_of_getElem? (show fns[22]? = some f_InvalidBag_init from rfl))) rfl rfl rfl ini_InvalidBag_init (He.free_ok z.u.kin Gn (fct hz 58 (by rfl))) (by decide +kernel) fun _ _ _ _ _ _ _ q hq => by
      simp only [List.mem_cons, List.not_mem_nil, or_false] at hq
      rcases hq with rfl | rfl
      · exact fun us ws h1 h2 => match us, ws, h1, h2 with | [_], [_], _, _ => rfl
      · exact fun us ws h1 h2 => match us, ws, h1, h2 with | [_, _], [], _, _ => rfl
    v_InvalidBook := extG_ok (d := f_InvalidBook_init) (main := PySem.Challenge.pw_lotbarter_k66_errors_made_by_hand.main.file) (N := ["self", "__class__"]) (ps := ["self"]) (fl := [("code", .inr "InvalidBook")]) PySem.HandSPX.base_VE (fct hz 73 (by rfl)) (fct hz 74 (by rfl)) (z.u.eq 23 (by rfl)) (z.u.fok _ (List.mem_of_getElem? (show fns[23]? = some f_InvalidBook_init from rfl))) rfl rfl rfl ini_InvalidBook_init (He.free_ok z.u.kin Gn (fct hz 58 (by rfl))) (by decide +kernel) fun _ _ _ _ _ _ _ q hq => by
      simp only [List.mem_cons, List.not_mem_nil, or_false] at hq
      rcases hq with rfl
      · exact fun us ws h1 h2 => match us, ws, h1, h2 with | [_], [], _, _ => rfl
    v_InvalidColor := extG_ok (d := f_InvalidColor_init) (main := PySem.Challenge.pw_lotbarter_k66_errors_made_by_hand.main.file) (N := ["self", "given", "__class__"]) (ps := ["self", "given"]) (fl := [("given", .inl 0), ("code", .inr "InvalidColor")]) PySem.HandSPX.base_VE (fct hz 75 (by rfl)) (fct hz 76 (by rfl)) (z.u.eq 24 (by rfl)) (z.u.fok _ (List.mem_of_getElem? (show fns[24]? = some f_InvalidColor_init from rfl))) rfl rfl rfl ini_InvalidColor_init (He.free_ok z.u.kin Gn (fct hz 58 (by rfl))) (by decide +kernel) fun _ _ _ _ _ _ _ q hq => by
      simp only [List.mem_cons, List.not_mem_nil, or_false] at hq
      rcases hq with rfl | rfl
      · exact fun us ws h1 h2 => match us, ws, h1, h2 with | [_], [_], _, _ => rfl
      · exact fun us ws h1 h2 => match us, ws, h1, h2 with | [_, _], [], _, _ => rfl
    v_InvalidCommand := extG_ok (d := f_InvalidCommand_init) (main := PySem.Challenge.pw_lotbarter_k66_errors_made_by_hand.main.file) (N := ["self", "word", "__class__"]) (ps := ["self", "word"]) (fl := [("word", .inl 0), ("code", .inr "InvalidCommand")]) PySem.HandSPX.base_VE (fct hz 77 (by rfl)) (fct hz 78 (by rfl)) (z.u.eq 25 (by rfl)) (z.u.fok _ (List.mem_of_getElem? (show fns[25]? = some f_InvalidCommand_init from rfl))) rfl rfl rfl ini_InvalidCommand_init (He.free_ok z.u.kin Gn (fct hz 58 (by rfl))) (by decide +kernel) fun _ _ _ _ _ _ _ q hq => by
      simp only [List.mem_cons, List.not_mem_nil, or_false] at hq
      rcases hq with rfl | rfl
      · exact fun us ws h1 h2 => match us, ws, h1, h2 with | [_], [_], _, _ => rfl
      · exact fun us ws h1 h2 => match us, ws, h1, h2 with | [_, _], [], _, _ => rfl
    v_InvalidCount := extG_ok (d := f_InvalidCount_init) (main := PySem.Challenge.pw_lotbarter_k66_errors_made_by_hand.main.file) (N := ["self", "given", "__class__"]) (ps := ["self", "given"]) (fl := [("given", .inl 0), ("code", .inr "InvalidCount")]) PySem.HandSPX.base_VE (fct hz 79 (by rfl)) (fct hz 80 (by rfl)) (z.u.eq 26 (by rfl)) (z.u.fok _ (List.mem_of_getElem? (show fns[26]? = some f_InvalidCount_init from rfl))) rfl rfl rfl ini_InvalidCount_init (He.free_ok z.u.kin Gn (fct hz 58 (by rfl))) (by decide +kernel) fun _ _ _ _ _ _ _ q hq => by
      simp only [List.mem_cons, List.not_mem_nil, or_false] at hq
      rcases hq with rfl | rfl
      · exact fun us ws h1 h2 => match us, ws, h1, h2 with | [_], [_], _, _ => rfl
      · exact fun us ws h1 h2 => match us, ws, h1, h2 with | [_, _], [], _, _ => rfl
    v_InvalidEntry := extG_ok (d := f_InvalidEntry_init) (main := PySem.Challenge.pw_lotbarter_k66_errors_made_by_hand.main.file) (N := ["self", "at", "__class__"]) (ps := ["self", "at"]) (fl := [("at", .inl 0), ("code", .inr "InvalidEntry")]) PySem.HandSPX.base_VE (fct hz 81 (by rfl)) (fct hz 82 (by rfl)) (z.u.eq 27 (by rfl)) (z.u.fok _ (List.mem_of_getElem? (show fns[27]? = some f_InvalidEntry_init from rfl))) rfl rfl rfl ini_InvalidEntry_init (He.free_ok z.u.kin Gn (fct hz 58 (by rfl))) (by decide +kernel) fun _ _ _ _ _ _ _ q hq => by
      simp only [List.mem_cons, List.not_mem_nil, or_false] at hq
      rcases hq with rfl | rfl
      · exact fun us ws h1 h2 => match us, ws, h1, h2 with | [_], [_], _, _ => rfl
      · exact fun us ws h1 h2 => match us, ws, h1, h2 with | [_, _], [], _, _ => rfl
    v_InvalidFar := extG_ok (d := f_InvalidFar_init) (main := PySem.Challenge.pw_lotbarter_k66_errors_made_by_hand.main.file) (N := ["self", "given", "__class__"]) (ps := ["self", "given"]) (fl := [("given", .inl 0), ("code", .inr "InvalidFar")]) PySem.HandSPX.base_VE (fct hz 83 (by rfl)) (fct hz 84 (by rfl)) (z.u.eq 28 (by rfl)) (z.u.fok _ (List.mem_of_getElem? (show fns[28]? = some f_InvalidFar_init from rfl))) rfl rfl rfl ini_InvalidFar_init (He.free_ok z.u.kin Gn (fct hz 58 (by rfl))) (by decide +kernel) fun _ _ _ _ _ _ _ q hq => by
      simp only [List.mem_cons, List.not_mem_nil, or_false] at hq
      rcases hq with rfl | rfl
      · exact fun us ws h1 h2 => match us, ws, h1, h2 with | [_], [_], _, _ => rfl
      · exact fun us ws h1 h2 => match us, ws, h1, h2 with | [_, _], [], _, _ => rfl
    v_InvalidLetter := extG_ok (d := f_InvalidLetter_init) (main := PySem.Challenge.pw_lotbarter_k66_errors_made_by_hand.main.file) (N := ["self", "given", "__class__"]) (ps := ["self", "given"]) (fl := [("given", .inl 0), ("code", .inr "InvalidLetter")]) PySem.HandSPX.base_VE (fct hz 87 (by rfl)) (fct hz 88 (by rfl)) (z.u.eq 29 (by rfl)) (z.u.fok _ (List.mem_of_getElem? (show fns[29]? = some f_InvalidLetter_init from rfl))) rfl rfl rfl ini_InvalidLetter_init (He.free_ok z.u.kin Gn (fct hz 58 (by rfl))) (by decide +kernel) fun _ _ _ _ _ _ _ q hq => by
      simp only [List.mem_cons, List.not_mem_nil, or_false] at hq
      rcases hq with rfl | rfl
      · exact fun us ws h1 h2 => match us, ws, h1, h2 with | [_, _], [], _, _ => rfl
      · exact fun us ws h1 h2 => match us, ws, h1, h2 with | [_], [_], _, _ => rfl
    x_InvalidLetter := extB_ok (d := f_InvalidLetter_init) (main := PySem.Challenge.pw_lotbarter_k66_errors_made_by_hand.main.file) (N := ["self", "given", "__class__"]) (ps := ["self", "given"]) (fl := [("given", .inl 0), ("code", .inr "InvalidLetter")]) (fct hz 85 (by rfl)) (fct hz 86 (by rfl)) (z.u.eq 29 (by rfl)) (z.u.fok _ (List.mem_of_getElem? (show fns[29]? = some f_InvalidLetter_init from rfl))) rfl rfl rfl ini_InvalidLetter_init (He.free_ok z.u.kin Gn (fct hz 58 (by rfl))) (by decide +kernel) fun _ _ _ _ _ _ _ us hl => match us, hl with | [_, _], _ => rfl
    v_InvalidName := extG_ok (d := f_InvalidName_init) (main := PySem.Challenge.pw_lotbarter_k66_errors_made_by_hand.main.file) (N := ["self", "name", "__class__"]) (ps := ["self", "name"]) (fl := [("name", .inl 0), ("code", .inr "InvalidName")]) PySem.HandSPX.base_VE (fct hz 89 (by rfl)) (fct hz 90 (by rfl)) (z.u.eq 30 (by rfl)) (z.u.fok _ (List.mem_of_getElem? (show fns[30]? = some f_InvalidName_init from rfl))) rfl rfl rfl ini_InvalidName_init (He.free_ok z.u.kin Gn (fct hz 58 (by rfl))) (by decide +kernel) fun _ _ _ _ _ _ _ q hq => by
      simp only [List.mem_cons, List.not_mem_nil, or_false] at hq
      rcases hq with rfl | rfl
      · exact fun us ws h1 h2 => match us, ws, h1, h2 with | [_], [_], _, _ => rfl
      · exact fun us ws h1 h2 => match us, ws, h1, h2 with | [_, _], [], _, _ => rfl
    v_InvalidPage := extG_ok (d := f_InvalidPage_init) (main := PySem.Challenge.pw_lotbarter_k66_errors_made_by_hand.main.file) (N := ["self", "line", "__class__"]) (ps := ["self", "line"]) (fl := [("line", .inl 0), ("code", .inr "InvalidPage")]) PySem.HandSPX.base_VE (fct hz 91 (by rfl)) (fct hz 92 (by rfl)) (z.u.eq 31 (by rfl)) (z.u.fok _ (List.mem_of_getElem? (show fns[31]? = some f_InvalidPage_init from rfl))) rfl rfl rfl ini_InvalidPage_init (He.free_ok z.u.kin Gn (fct hz 58 (by rfl))) (by decide +kernel) fun _ _ _ _ _ _ _ q hq => by
      simp only [List.mem_cons, List.not_mem_nil, or_false] at hq
      rcases hq with rfl | rfl
      · exact fun us ws h1 h2 => match us, ws, h1, h2 with | [_], [_], _, _ => rfl
      · exact fun us ws h1 h2 => match us, ws, h1, h2 with | [_, _], [], _, _ => rfl
    v_InvalidPair := extG_ok (d := f_InvalidPair_init) (main := PySem.Challenge.pw_lotbarter_k66_errors_made_by_hand.main.file) (N := ["self", "__class__"]) (ps := ["self"]) (fl := [("code", .inr "InvalidPair")]) PySem.HandSPX.base_VE (fct hz 93 (by rfl)) (fct hz 94 (by rfl)) (z.u.eq 32 (by rfl)) (z.u.fok _ (List.mem_of_getElem? (show fns[32]? = some f_InvalidPair_init from rfl))) rfl rfl rfl ini_InvalidPair_init (He.free_ok z.u.kin Gn (fct hz 58 (by rfl))) (by decide +kernel) fun _ _ _ _ _ _ _ q hq => by
      simp only [List.mem_cons, List.not_mem_nil, or_false] at hq
      rcases hq with rfl
      · exact fun us ws h1 h2 => match us, ws, h1, h2 with | [_], [], _, _ => rfl
    v_InvalidPattern := extG_ok (d := f_InvalidPattern_init) (main := PySem.Challenge.pw_lotbarter_k66_errors_made_by_hand.main.file) (N := ["self", "path", "__class__"]) (ps := ["self", "path"]) (fl := [("path", .inl 0), ("code", .inr "InvalidPattern")]) PySem.HandSPX.base_VE (fct hz 95 (by rfl)) (fct hz 96 (by rfl)) (z.u.eq 33 (by rfl)) (z.u.fok _ (List.mem_of_getElem? (show fns[33]? = some f_InvalidPattern_init from rfl))) rfl rfl rfl ini_InvalidPattern_init (He.free_ok z.u.kin Gn (fct hz 58 (by rfl))) (by decide +kernel) fun _ _ _ _ _ _ _ q hq => by
      simp only [List.mem_cons, List.not_mem_nil, or_false] at hq
      rcases hq with rfl | rfl
      · exact fun us ws h1 h2 => match us, ws, h1, h2 with | [_], [_], _, _ => rfl
      · exact fun us ws h1 h2 => match us, ws, h1, h2 with | [_, _], [], _, _ => rfl
    v_InvalidRow := extG_ok (d := f_InvalidRow_init) (main := PySem.Challenge.pw_lotbarter_k66_errors_made_by_hand.main.file) (N := ["self", "given", "__class__"]) (ps := ["self", "given"]) (fl := [("given", .inl 0), ("code", .inr "InvalidRow")]) PySem.HandSPX.base_VE (fct hz 97 (by rfl)) (fct hz 98 (by rfl)) (z.u.eq 34 (by rfl)) (z.u.fok _ (List.mem_of_getElem? (show fns[34]? = some f_InvalidRow_init from rfl))) rfl rfl rfl ini_InvalidRow_init (He.free_ok z.u.kin Gn (fct hz 58 (by rfl))) (by decide +kernel) fun _ _ _ _ _ _ _ q hq => by
      simp only [List.mem_cons, List.not_mem_nil, or_false] at hq
      rcases hq with rfl | rfl
      · exact fun us ws h1 h2 => match us, ws, h1, h2 with | [_], [_], _, _ => rfl
      · exact fun us ws h1 h2 => match us, ws, h1, h2 with | [_, _], [], _, _ => rfl
    v_InvalidText := extG_ok (d := f_InvalidText_init) (main := PySem.Challenge.pw_lotbarter_k66_errors_made_by_hand.main.file) (N := ["self", "__class__"]) (ps := ["self"]) (fl := [("code", .inr "InvalidText")]) PySem.HandSPX.base_VE (fct hz 99 (by rfl)) (fct hz 100 (by rfl)) (z.u.eq 35 (by rfl)) (z.u.fok _ (List.mem_of_getElem? (show fns[35]? = some f_InvalidText_init from rfl))) rfl rfl rfl ini_InvalidText_init (He.free_ok z.u.kin Gn (fct hz 58 (by rfl))) (by decide +kernel) fun _ _ _ _ _ _ _ q hq => by
      simp only [List.mem_cons, List.not_mem_nil, or_false] at hq
      rcases hq with rfl
      · exact fun us ws h1 h2 => match us, ws, h1, h2 with | [_], [], _, _ => rfl
    v_InvalidWord := extG_ok (d := f_InvalidWord_init) (main := PySem.Challenge.pw_lotbarter_k66_errors_made_by_hand.main.file) (N := ["self", "given", "__class__"]) (ps := ["self", "given"]) (fl := [("given", .inl 0), ("code", .inr "InvalidWord")]) PySem.HandSPX.base_VE (fct hz 101 (by rfl)) (fct hz 102 (by rfl)) (z.u.eq 36 (by rfl)) (z.u.fok _ (List.mem_of_getElem? (show fns[36]? = some f_InvalidWord_init from rfl))) rfl rfl rfl ini_InvalidWord_init (He.free_ok z.u.kin Gn (fct hz 58 (by rfl))) (by decide +kernel) fun _ _ _ _ _ _ _ q hq => by
      simp only [List.mem_cons, List.not_mem_nil, or_false] at hq
      rcases hq with rfl | rfl
      · exact fun us ws h1 h2 => match us, ws, h1, h2 with | [_], [_], _, _ => rfl
      · exact fun us ws h1 h2 => match us, ws, h1, h2 with | [_, _], [], _, _ => rfl
    v_LotsDiffer := extG_ok (d := f_LotsDiffer_init) (main := PySem.Challenge.pw_lotbarter_k66_errors_made_by_hand.main.file) (N := ["self", "at", "__class__"]) (ps := ["self", "at"]) (fl := [("at", .inl 0), ("code", .inr "LotsDiffer")]) PySem.HandSPX.base_VE (fct hz 103 (by rfl)) (fct hz 104 (by rfl)) (z.u.eq 37 (by rfl)) (z.u.fok _ (List.mem_of_getElem? (show fns[37]? = some f_LotsDiffer_init from rfl))) rfl rfl rfl ini_LotsDiffer_init (He.free_ok z.u.kin Gn (fct hz 58 (by rfl))) (by decide +kernel) fun _ _ _ _ _ _ _ q hq => by
      simp only [List.mem_cons, List.not_mem_nil, or_false] at hq
      rcases hq with rfl | rfl
      · exact fun us ws h1 h2 => match us, ws, h1, h2 with | [_], [_], _, _ => rfl
      · exact fun us ws h1 h2 => match us, ws, h1, h2 with | [_, _], [], _, _ => rfl
    v_NotEven := extG_ok (d := f_NotEven_init) (main := PySem.Challenge.pw_lotbarter_k66_errors_made_by_hand.main.file) (N := ["self", "row", "__class__"]) (ps := ["self", "row"]) (fl := [("row", .inl 0), ("code", .inr "NotEven")]) PySem.HandSPX.base_VE (fct hz 105 (by rfl)) (fct hz 106 (by rfl)) (z.u.eq 38 (by rfl)) (z.u.fok _ (List.mem_of_getElem? (show fns[38]? = some f_NotEven_init from rfl))) rfl rfl rfl ini_NotEven_init (He.free_ok z.u.kin Gn (fct hz 58 (by rfl))) (by decide +kernel) fun _ _ _ _ _ _ _ q hq => by
      simp only [List.mem_cons, List.not_mem_nil, or_false] at hq
      rcases hq with rfl | rfl
      · exact fun us ws h1 h2 => match us, ws, h1, h2 with | [_], [_], _, _ => rfl
      · exact fun us ws h1 h2 => match us, ws, h1, h2 with | [_, _], [], _, _ => rfl
    v_NotThere := extG_ok (d := f_NotThere_init) (main := PySem.Challenge.pw_lotbarter_k66_errors_made_by_hand.main.file) (N := ["self", "given", "__class__"]) (ps := ["self", "given"]) (fl := [("given", .inl 0), ("code", .inr "NotThere")]) PySem.HandSPX.base_VE (fct hz 107 (by rfl)) (fct hz 108 (by rfl)) (z.u.eq 39 (by rfl)) (z.u.fok _ (List.mem_of_getElem? (show fns[39]? = some f_NotThere_init from rfl))) rfl rfl rfl ini_NotThere_init (He.free_ok z.u.kin Gn (fct hz 58 (by rfl))) (by decide +kernel) fun _ _ _ _ _ _ _ q hq => by
      simp only [List.mem_cons, List.not_mem_nil, or_false] at hq
      rcases hq with rfl | rfl
      · exact fun us ws h1 h2 => match us, ws, h1, h2 with | [_], [_], _, _ => rfl
      · exact fun us ws h1 h2 => match us, ws, h1, h2 with | [_, _], [], _, _ => rfl
    v_NothingLeft := extG_ok (d := f_NothingLeft_init) (main := PySem.Challenge.pw_lotbarter_k66_errors_made_by_hand.main.file) (N := ["self", "__class__"]) (ps := ["self"]) (fl := [("code", .inr "NothingLeft")]) PySem.HandSPX.base_IE (fct hz 109 (by rfl)) (fct hz 110 (by rfl)) (z.u.eq 40 (by rfl)) (z.u.fok _ (List.mem_of_getElem? (show fns[40]? = some f_NothingLeft_init from rfl))) rfl rfl rfl ini_NothingLeft_init (He.free_ok z.u.kin Gn (fct hz 58 (by rfl))) (by decide +kernel) fun _ _ _ _ _ _ _ q hq => by
      simp only [List.mem_cons, List.not_mem_nil, or_false] at hq
      rcases hq with rfl
      · exact fun us ws h1 h2 => match us, ws, h1, h2 with | [_], [], _, _ => rfl
    v_TooMany := extG_ok (d := f_TooMany_init) (main := PySem.Challenge.pw_lotbarter_k66_errors_made_by_hand.main.file) (N := ["self", "subject", "most", "__class__"]) (ps := ["self", "subject", "most"]) (fl := [("subject", .inl 0), ("most", .inl 1), ("code", .inr "TooMany")]) PySem.HandSPX.base_VE (fct hz 111 (by rfl)) (fct hz 112 (by rfl)) (z.u.eq 41 (by rfl)) (z.u.fok _ (List.mem_of_getElem? (show fns[41]? = some f_TooMany_init from rfl))) rfl rfl rfl ini_TooMany_init (He.free_ok z.u.kin Gn (fct hz 58 (by rfl))) (by decide +kernel) fun _ _ _ _ _ _ _ q hq => by
      simp only [List.mem_cons, List.not_mem_nil, or_false] at hq
      rcases hq with rfl | rfl
      · exact fun us ws h1 h2 => match us, ws, h1, h2 with | [_], [_, _], _, _ => rfl
      · exact fun us ws h1 h2 => match us, ws, h1, h2 with | [_, _, _], [], _, _ => rfl
    v_UnknownName := extG_ok (d := f_UnknownName_init) (main := PySem.Challenge.pw_lotbarter_k66_errors_made_by_hand.main.file) (N := ["self", "name", "__class__"]) (ps := ["self", "name"]) (fl := [("name", .inl 0), ("code", .inr "UnknownName")]) PySem.HandSPX.base_LE (fct hz 113 (by rfl)) (fct hz 114 (by rfl)) (z.u.eq 42 (by rfl)) (z.u.fok _ (List.mem_of_getElem? (show fns[42]? = some f_UnknownName_init from rfl))) rfl rfl rfl ini_UnknownName_init (He.free_ok z.u.kin Gn (fct hz 58 (by rfl))) (by decide +kernel) fun _ _ _ _ _ _ _ q hq => by
      simp only [List.mem_cons, List.not_mem_nil, or_false] at hq
      rcases hq with rfl | rfl
      · exact fun us ws h1 h2 => match us, ws, h1, h2 with | [_], [_], _, _ => rfl
      · exact fun us ws h1 h2 => match us, ws, h1, h2 with | [_, _], [], _, _ => rfl
    v_WrongKind := extG_ok (d := f_WrongKind_init) (main := PySem.Challenge.pw_lotbarter_k66_errors_made_by_hand.main.file) (N := ["self", "name", "__class__"]) (ps := ["self", "name"]) (fl := [("name", .inl 0), ("code", .inr "WrongKind")]) PySem.HandSPX.base_VE (fct hz 115 (by rfl)) (fct hz 116 (by rfl)) (z.u.eq 43 (by rfl)) (z.u.fok _ (List.mem_of_getElem? (show fns[43]? = some f_WrongKind_init from rfl))) rfl rfl rfl ini_WrongKind_init (He.free_ok z.u.kin Gn (fct hz 58 (by rfl))) (by decide +kernel) fun _ _ _ _ _ _ _ q hq => by
      simp only [List.mem_cons, List.not_mem_nil, or_false] at hq
      rcases hq with rfl | rfl
      · exact fun us ws h1 h2 => match us, ws, h1, h2 with | [_], [_], _, _ => rfl
      · exact fun us ws h1 h2 => match us, ws, h1, h2 with | [_, _], [], _, _ => rfl
    m_Alphabet_contains := He.meth_ok (fct hz 117 (by rfl))
    m_Alphabet_color := He.meth_ok (fct hz 118 (by rfl))
    st_Alphabet_plain := statB_ok (fct hz 119 (by rfl))
    fl_0_own_digits := fun k hk => by simp only [List.mem_singleton] at hk; subst hk; exact ⟨He.cls_ok (fct hz 54 (by rfl)), He.noat_ok (fct hz 120 (by rfl))⟩
    fl_0_own_letters := fun k hk => by simp only [List.mem_singleton] at hk; subst hk; exact ⟨He.cls_ok (fct hz 54 (by rfl)), He.noat_ok (fct hz 121 (by rfl))⟩
    kb_Alphabet_plain_1 := fun_kb F_Alphabet_plain fun _ _ _ _ _ _ us ws h1 h2 => match us, ws, h1, h2 with | [_], [], _, _ => rfl
    hcatch := fun k b h => by
      unfold catchE at h
      split at h
      · rename_i e; subst e; cases h; exact of_decide_eq_true (fct hz 122 (by rfl))
      split at h
      · rename_i e; subst e; cases h; exact of_decide_eq_true (fct hz 123 (by rfl))
      · cases h
    xfc := fun {k} h => by
      unfold catchE at h
      split at h
      · rename_i e; subst e; exact xfB_ok (fct hz 124 (by rfl))
      split at h
      · rename_i e; subst e; exact xfB_ok (fct hz 125 (by rfl))
      · cases h
    xno := fun {k} h f hf => by
      unfold catchE at h
      split at h
      · rename_i e; subst e; exact oB_ok (List.all_eq_true.mp (fct hz 126 (by rfl)) f hf)
      split at h
      · rename_i e; subst e; exact oB_ok (List.all_eq_true.mp (fct hz 127 (by rfl)) f hf)
      · cases h
    xcf_at := xcfB_ok (fct hz 128 (by rfl))
    xcf_code := xcfB_ok (fct hz 129 (by rfl))
    xcf_given := xcfB_ok (fct hz 130 (by rfl))
    xcf_line := xcfB_ok (fct hz 131 (by rfl))
    xcf_most := xcfB_ok (fct hz 132 (by rfl))
    xcf_name := xcfB_ok (fct hz 133 (by rfl))
    xcf_path := xcfB_ok (fct hz 134 (by rfl))
    xcf_row := xcfB_ok (fct hz 135 (by rfl))
    xcf_subject := xcfB_ok (fct hz 136 (by rfl))
    xcf_user := xcfB_ok (fct hz 137 (by rfl))
    xcf_word := xcfB_ok (fct hz 138 (by rfl))
    isx1 := isxB_ok (fct hz 139 (by rfl))
    isi1 := isiL_ok (fct hz 140 (by rfl))
  }, trivial⟩
end L3

set_option Elab.async false
set_option linter.all false
set_option maxRecDepth 100000
set_option maxHeartbeats 4000000
namespace L3
open PySem PySem.Spec PyProof.Rows L2 NdefX LamX
open L2H (RoomH PinOk cxH inv_startH roomH_of)
def qLam : Str := "law.<locals>.<lambda>"
abbrev lamE_0 : Expr := atS [3] [0, 1] s_law
theorem ns_lam_0 : NScope ["_law_odd"] [] ["_law_odd"] (lamScope lamE_0) := nscope_by (by decide +kernel)
theorem hf_lam_0 : ∀ y ∈ (lamScope lamE_0).names, y.2 = NameKind.free → (defScope s_law).names.lookup y.1 = some .cell ∨ (defScope s_law).names.lookup y.1 = some .free := by decide +kernel
def lm_0 : EM := eMeth 0 "color" fm_Alphabet_color (eCallK 1 0 [0] fm_Alphabet_plain (aCons (eC (.str "a")) aNil) aNil) (aCons (eV 0) aNil)
def lamF (cells : List (Str × Addr)) : Nat → LF
  | 0 => lfOf qLam cells [] lamE_0
  | _ => lfOf qLam cells [] e0
def lmOf (ρ : Env) : Nat → Store → R A
  | 0 => lamM 1 [13] [] lm_0 ρ
  | _ => fun _ => .stk
abbrev lawN : List Str := ["_law_script", "_law_hand_here", "_law_turn", "_law_one", "_law_other", "_law_first", "_law_second", "_law_code", "_law_both", "_law_bare", "_law_lost", "_law_last", "_law_bases", "_law_odd", "_law_told", "_law_late"]
abbrev lawCells (s : Shared) : List (Str × Addr) := cellsFrom (s.heap.objs.size + 1) (defScope s_law).names []
abbrev lawTb (w : World) (K : PySem.W.Frag) (cA : Nat → Addr) (s : Shared) : Tb := lawT w K cA (lamF (lawCells s))
abbrev lawX (P : Program) (w : World) (K : PySem.W.Frag) (mg : Str → Option Value) (base : Heap) (f c : Addr) (A : Around) (outer : List PySem.Env) (s : Shared) (H : Hp) (E : XK) : Cx := cxOf (L2.CX P w) P w K mg base lawN "law" (defScope s_law) f (.ref c) A outer s H E
theorem lamrun_0 {P : Program} {w : World} {K : PySem.W.Frag} {cA : Nat → Addr} {mg : Str → Option Value} {base base2 : Heap} {f c : Addr} {A0 : Around} {out0 : List PySem.Env} {s0 : Shared} {H0 : Hp} {E0 : XK} {ρ : Env} {σ : L2.St} (g : G P w K cA mg) (B : BaseX (lawX P w K mg base f c A0 out0 s0 H0 E0) base2 σ) : LamRun P w K mg base2 ((lawTb w K cA s0).cap ρ σ) 7 0 (lmOf ρ 0) :=
  LamRun.mono (lam_run (X := lawX P w K mg base f c A0 out0 s0 H0 E0) (T := lawTb w K cA s0) (i := 0) (k := 6) (js := [13]) (dv := []) (m := lm_0) B (by rfl) ns_lam_0 hf_lam_0 (by decide +kernel) (by rfl) (by rfl) (fun s dV doc pm c1 ctv its r hd => by
    cases r
    rcases hd with ⟨_, rfl⟩ | ⟨dt, o, n, rfl, ho, hs⟩
    · exact .of_eq rfl
    · exact .of_defaults (n := n) rfl ho hs rfl rfl)
    (fun A outer s H E f1 c1 hr L hp => me_meth L (me_stat L g.st_Alphabet_plain (fd_Alphabet_plain (T := (lawTb w K cA s0).cap ρ σ) g) (hr.mono (by first | decide | omega)) (by rfl) g.g_Alphabet (g.kb_Alphabet_plain_1) (ma_cons me_str ma_nil) mk_nil) g.cl_Alphabet g.m_Alphabet_color (fd_Alphabet_color (T := (lawTb w K cA s0).cap ρ σ) g) (hr.mono (by first | decide | omega)) g.b_Alphabet_color (ma_cons (me_v 0) ma_nil)) rfl) (by decide)
theorem lm_ok {P : Program} {w : World} {K : PySem.W.Frag} {cA : Nat → Addr} {mg : Str → Option Value} {base base2 : Heap} {f c : Addr} {A0 : Around} {out0 : List PySem.Env} {s0 : Shared} {H0 : Hp} {E0 : XK} {ρ : Env} {σ : L2.St} (g : G P w K cA mg) (B : BaseX (lawX P w K mg base f c A0 out0 s0 H0 E0) base2 σ) : ∀ i, LamRun P w K mg base2 ((lawTb w K cA s0).cap ρ σ) 7 i (lmOf ρ i)
  | 0 => lamrun_0 g B
  | _ + 1 => LamRun.none
def sm_law (Pt : Addr) : SM := sSeq (sSet 1 (eCall fm_law_hand (aCons (eV 0) aNil))) (sSeq (sFor (iRng1M (aCons (eC (.int 3)) aNil)) (.nm 2) (sSeq (sAsg (.tp ((.nm 3) :: ((.nm 4) :: []))) (eTup (aCons (eCall fm_law_of (aCons (eV 1) (aCons (eLst (aCons (eC (.int 0)) (aCons (eC (.str "ab")) (aCons (eTup (aCons (eC (.int 1)) (aCons (eC (.int 2)) aNil))) (aCons (eTup aNil) (aCons (eC .non) (aCons (eOp gPow (eC (.int 10)) (eC (.int 30))) (aCons (eCall fm_law_pick (aCons (eV 1) (aCons (eC (.int 99)) aNil))) aNil)))))))) aNil))) (aCons (eCall fm_law_pick (aCons (eV 1) (aCons (eOp gPow (eC (.int 10)) (eC (.int 6))) aNil))) aNil)))) (sSeq (sFor (iSeq (eCall fm_law_given (aCons (eV 3) aNil))) (.tp ((.nm 5) :: ((.nm 6) :: ((.nm 7) :: [])))) (sIf (tOrM (tNotM (tE (eCall fm_law_made_right (aCons (eV 5) (aCons (eV 7) (aCons (eTup (aCons (eV 3) aNil)) aNil)))))) (tNotM (tE (eCall fm_law_made_right (aCons (eV 6) (aCons (eV 7) (aCons (eTup (aCons (eV 3) aNil)) aNil))))))) (sRet (eC (.bl false))) sNil)) (sSeq (sSet 8 (eLst (aCons (eExcV 31 2 0 2 [0, 1] [("subject", .inl 0), ("most", .inl 1), ("code", .inr "TooMany")] (aCons (eV 3) (aCons (eV 4) aNil)) aNil) (aCons (eExcV 31 0 2 2 [1, 0] [("subject", .inl 0), ("most", .inl 1), ("code", .inr "TooMany")] aNil (aCons (eV 4) (aCons (eV 3) aNil))) aNil)))) (sSeq (sIf (tNotM (tE (eCallB gAll (aCons (eLc [15] (iSeq (eV 8)) (.nm 15) tYesM (eCall fm_law_made_right (aCons (eV 15) (aCons (eC (.str "TooMany")) (aCons (eTup (aCons (eV 3) (aCons (eV 4) aNil))) aNil))))) aNil)))) (sRet (eC (.bl false))) sNil) (sSeq (sSet 9 (eLst (aCons (eTup (aCons (eExcV 17 0 0 0 [] [("code", .inr "InvalidText")] aNil aNil) (aCons (eC (.str "InvalidText")) aNil))) (aCons (eTup (aCons (eExcV 18 0 0 0 [] [("code", .inr "InvalidAutomaton")] aNil aNil) (aCons (eC (.str "InvalidAutomaton")) aNil))) (aCons (eTup (aCons (eExcV 24 0 0 0 [] [("code", .inr "InvalidPair")] aNil aNil) (aCons (eC (.str "InvalidPair")) aNil))) (aCons (eTup (aCons (eExcV 25 0 0 0 [] [("code", .inr "InvalidBook")] aNil aNil) (aCons (eC (.str "InvalidBook")) aNil))) (aCons (eTup (aCons (eExcV 27 0 0 0 [] [("code", .inr "AlphabetsDiffer")] aNil aNil) (aCons (eC (.str "AlphabetsDiffer")) aNil))) aNil))))))) (sSeq (sIf (tNotM (tE (eCallB gAll (aCons (eLc [15, 7] (iSeq (eV 9)) (.tp ((.nm 15) :: ((.nm 7) :: []))) tYesM (eCall fm_law_made_right (aCons (eV 15) (aCons (eV 7) (aCons (eTup aNil) aNil))))) aNil)))) (sRet (eC (.bl false))) sNil) (sSeq (sPar 10 11 (aCons (eLst (aCons (eExcV 39 1 0 1 [0] [("name", .inl 0), ("code", .inr "UnknownName")] (aCons (eV 3) aNil) aNil) (aCons (eExcV 39 0 1 1 [0] [("name", .inl 0), ("code", .inr "UnknownName")] aNil (aCons (eV 3) aNil)) aNil))) (aCons (eExcV 22 0 0 0 [] [("code", .inr "NothingLeft")] aNil aNil) aNil))) (sSeq (sIf (tNotM (tE (eCall (fm_law_like 8) (aCons (eLc [15] (iSeq (eV 10)) (.nm 15) tYesM (eLst (aCons (eXcF [10, 11, 12, 13, 14, 15, 16, 17, 18, 19, 22, 23, 24, 25, 26, 27, 28, 29, 30, 31, 32, 33, 34, 35, 36, 37, 38, 39] "code" (eV 15)) (aCons (eXcF [32, 33, 34, 39] "name" (eV 15)) aNil)))) (aCons (eOp gMul (eLst (aCons (eLst (aCons (eC (.str "UnknownName")) (aCons (eV 3) aNil))) aNil)) (eC (.int 2))) aNil))))) (sRet (eC (.bl false))) sNil) (sSeq (sSet 12 (eLst (aCons (eCallB (gIsiX (isxT isxl)) (aCons (eOp gIx (eV 10) (eC (.int 0))) (aCons (eC (.cls 21)) aNil))) (aCons (eCallB (gIsiX (isxT isxl)) (aCons (eOp gIx (eV 10) (eC (.int 0))) (aCons (eC (.cls 20)) aNil))) (aCons (eCallB (gIsiX (isxT isxl)) (aCons (eV 11) (aCons (eC (.cls 20)) aNil))) aNil))))) (sIf (tNotM (tE (eCall (fm_law_like 8) (aCons (eOp gAdd (eLst (aCons (eXcF [10, 11, 12, 13, 14, 15, 16, 17, 18, 19, 22, 23, 24, 25, 26, 27, 28, 29, 30, 31, 32, 33, 34, 35, 36, 37, 38, 39] "code" (eV 11)) aNil)) (eV 12)) (aCons (eLst (aCons (eC (.str "NothingLeft")) (aCons (eC (.bl true)) (aCons (eC (.bl false)) (aCons (eC (.bl false)) aNil))))) aNil))))) (sRet (eC (.bl false))) sNil))))))))))) (sSeq (sSet 13 (eCall fm_law_of (aCons (eV 1) (aCons (eLst (aCons (eC (.str "b")) (aCons (eC (.str "")) (aCons (eC .non) (aCons (eC (.int 3)) (aCons (eTup (aCons (eC (.str "a")) aNil)) aNil)))))) aNil)))) (sSeq (sSet 14 (eCallL (fun ρ => fm_law_try (lmOf ρ)) (aCons (eLam 0 Pt qLam 0) aNil))) (sRet (eCall (fm_law_like 8) (aCons (eV 14) (aCons (eTup (aCons (eC (.str "InvalidLetter")) (aCons (eCall fm_law_field (aCons (eExcV 11 1 0 1 [0] [("given", .inl 0), ("code", .inr "InvalidLetter")] (aCons (eV 13) aNil) aNil) aNil)) aNil))) aNil)))))))
theorem sc_law : FnScope lawN ["_law_script"] (defScope s_law) := ⟨rfl, rfl, rfl, by decide +kernel, rfl, by decide +kernel, by decide +kernel⟩
theorem walk_law {P : Program} {w : World} {K : PySem.W.Frag} {cA : Nat → Addr} {mg : Str → Option Value} {base : Heap} {f c Pt : Addr} {s : Shared} (g : G P w K cA mg) (TB : TabB base mg c Pt) {A : Around} {outer : List PySem.Env} {H : Hp} {E : XK} (hr : Room 11 (A.deeper (envOfC "law" (defScope s_law) s.heap.objs.size f (.ref c)))) (L : Lv (lawX P w K mg base f c A outer s H E) (lawTb w K cA s) E)
    (hp : PassesOwn (model P w) (A.deeper (envOfC "law" (defScope s_law) s.heap.objs.size f (.ref c))) (envOfC "law" (defScope s_law) s.heap.objs.size f (.ref c)) (lawX P w K mg base f c A outer s H E).xe) : MB (lawX P w K mg base f c A outer s H E) (lawTb w K cA s) E (defBody s_law) (sm_law Pt) :=
  mb_cons (ms_set 1 sc_law.nd (me_call L (fd_law_hand (T := lawTb w K cA s) g) (hr.mono (by first | decide | omega)) (by rfl) g.g_law_hand g.k_law_hand g.b_law_hand (ma_cons (me_v 0) ma_nil))) (mb_cons (ms_for hp (by rfl) (mi_rng1 (by rfl) g.z_range (ma_cons me_int ma_nil)) (mg_nm 2 sc_law.nd) (mb_cons (ms_asg (me_tup (ma_cons (me_call L (fd_law_of (T := lawTb w K cA s) g) (hr.mono (by first | decide | omega)) (by rfl) g.g_law_of g.k_law_of g.b_law_of (ma_cons (me_v 1) (ma_cons (me_lst (ma_cons me_int (ma_cons me_str (ma_cons (me_tup (ma_cons me_int (ma_cons me_int ma_nil))) (ma_cons (me_tup ma_nil) (ma_cons me_non (ma_cons (me_op op_gPow me_int me_int) (ma_cons (me_call L (fd_law_pick (T := lawTb w K cA s) g) (hr.mono (by first | decide | omega)) (by rfl) g.g_law_pick g.k_law_pick g.b_law_pick (ma_cons (me_v 1) (ma_cons me_int ma_nil))) ma_nil)))))))) ma_nil))) (ma_cons (me_call L (fd_law_pick (T := lawTb w K cA s) g) (hr.mono (by first | decide | omega)) (by rfl) g.g_law_pick g.k_law_pick g.b_law_pick (ma_cons (me_v 1) (ma_cons (me_op op_gPow me_int me_int) ma_nil))) ma_nil))) (mg_tp L.k (by rfl) (mgs_cons (mg_nm 3 sc_law.nd) (mgs_cons (mg_nm 4 sc_law.nd) mgs_nil)))) (mb_cons (ms_for hp (by rfl) (mi_seq L.k (me_call L (fd_law_given (T := lawTb w K cA s) g) (hr.mono (by first | decide | omega)) (by rfl) g.g_law_given g.k_law_given g.b_law_given (ma_cons (me_v 3) ma_nil))) (mg_tp L.k (by rfl) (mgs_cons (mg_nm 5 sc_law.nd) (mgs_cons (mg_nm 6 sc_law.nd) (mgs_cons (mg_nm 7 sc_law.nd) mgs_nil)))) (mb_one (ms_if (mt_w (mw_or (mt_not (mt_e L (me_call L (fd_law_made_right (T := lawTb w K cA s) g) (hr.mono (by first | decide | omega)) (by rfl) g.g_law_made_right g.k_law_made_right g.b_law_made_right (ma_cons (me_v 5) (ma_cons (me_v 7) (ma_cons (me_tup (ma_cons (me_v 3) ma_nil)) ma_nil)))))) (mw_or1 (mt_not (mt_e L (me_call L (fd_law_made_right (T := lawTb w K cA s) g) (hr.mono (by first | decide | omega)) (by rfl) g.g_law_made_right g.k_law_made_right g.b_law_made_right (ma_cons (me_v 6) (ma_cons (me_v 7) (ma_cons (me_tup (ma_cons (me_v 3) ma_nil)) ma_nil))))))))) (mb_one (ms_ret me_bl)) mb_nil))) (mb_cons (ms_set 8 sc_law.nd (me_lst (ma_cons (me_excV (n := 2) (ks := []) (ix := [0, 1]) L g.v_TooMany (hr.mono (by first | decide | omega)) (by rfl) g.g_TooMany 1 rfl rfl (by decide) (ma_cons (me_v 3) (ma_cons (me_v 4) ma_nil)) mk_nil) (ma_cons (me_excV (n := 0) (ks := ["most", "subject"]) (ix := [1, 0]) L g.v_TooMany (hr.mono (by first | decide | omega)) (by rfl) g.g_TooMany 0 rfl rfl (by decide) ma_nil (mk_cons (me_v 4) (mk_cons (me_v 3) mk_nil))) ma_nil)))) (mb_cons (ms_if (mt_not (mt_e L (me_callB (call_gAll L.k (by rfl)) (by rfl) g.z_all (by rfl) (ma_cons (me_lc (own := [("_law_late", 15)]) (by rfl) sc_law.nd (blkOk_by (by show blkC ["_law_script", "_law_hand_here", "_law_turn", "_law_one", "_law_other", "_law_first", "_law_second", "_law_code", "_law_both", "_law_bare", "_law_lost", "_law_last", "_law_bases", "_law_odd", "_law_told", "_law_late"] (defScope s_law) _ [("_law_late", 15)] = true; decide +kernel)) (mi_seq L.k (me_v 8)) (fun _ _ _ _ _ => (mg_nm 15 sc_law.nd)) (fun _ _ _ _ _ => mts_nil) (fun _ _ _ _ _ => me_call (lv0 (by rfl)) (fd_law_made_right (T := lawTb w K cA s) g) (hr.mono (by first | decide | omega)) (by rfl) g.g_law_made_right g.k_law_made_right g.b_law_made_right (ma_cons (me_v 15) (ma_cons me_str (ma_cons (me_tup (ma_cons (me_v 3) (ma_cons (me_v 4) ma_nil))) ma_nil))))) ma_nil)))) (mb_one (ms_ret me_bl)) mb_nil) (mb_cons (ms_set 9 sc_law.nd (me_lst (ma_cons (me_tup (ma_cons (me_excV (n := 0) (ks := []) (ix := []) L g.v_InvalidText (hr.mono (by first | decide | omega)) (by rfl) g.g_InvalidText 0 rfl rfl (by decide) ma_nil mk_nil) (ma_cons me_str ma_nil))) (ma_cons (me_tup (ma_cons (me_excV (n := 0) (ks := []) (ix := []) L g.v_InvalidAutomaton (hr.mono (by first | decide | omega)) (by rfl) g.g_InvalidAutomaton 0 rfl rfl (by decide) ma_nil mk_nil) (ma_cons me_str ma_nil))) (ma_cons (me_tup (ma_cons (me_excV (n := 0) (ks := []) (ix := []) L g.v_InvalidPair (hr.mono (by first | decide | omega)) (by rfl) g.g_InvalidPair 0 rfl rfl (by decide) ma_nil mk_nil) (ma_cons me_str ma_nil))) (ma_cons (me_tup (ma_cons (me_excV (n := 0) (ks := []) (ix := []) L g.v_InvalidBook (hr.mono (by first | decide | omega)) (by rfl) g.g_InvalidBook 0 rfl rfl (by decide) ma_nil mk_nil) (ma_cons me_str ma_nil))) (ma_cons (me_tup (ma_cons (me_excV (n := 0) (ks := []) (ix := []) L g.v_AlphabetsDiffer (hr.mono (by first | decide | omega)) (by rfl) g.g_AlphabetsDiffer 0 rfl rfl (by decide) ma_nil mk_nil) (ma_cons me_str ma_nil))) ma_nil))))))) (mb_cons (ms_if (mt_not (mt_e L (me_callB (call_gAll L.k (by rfl)) (by rfl) g.z_all (by rfl) (ma_cons (me_lc (own := [("_law_late", 15), ("_law_code", 7)]) (by rfl) sc_law.nd (blkOk_by (by show blkC ["_law_script", "_law_hand_here", "_law_turn", "_law_one", "_law_other", "_law_first", "_law_second", "_law_code", "_law_both", "_law_bare", "_law_lost", "_law_last", "_law_bases", "_law_odd", "_law_told", "_law_late"] (defScope s_law) _ [("_law_late", 15), ("_law_code", 7)] = true; decide +kernel)) (mi_seq L.k (me_v 9)) (fun _ _ _ _ _ => (mg_tp (lv0 (by rfl)).k (by rfl) (mgs_cons (mg_nm 15 sc_law.nd) (mgs_cons (mg_nm 7 sc_law.nd) mgs_nil)))) (fun _ _ _ _ _ => mts_nil) (fun _ _ _ _ _ => me_call (lv0 (by rfl)) (fd_law_made_right (T := lawTb w K cA s) g) (hr.mono (by first | decide | omega)) (by rfl) g.g_law_made_right g.k_law_made_right g.b_law_made_right (ma_cons (me_v 15) (ma_cons (me_v 7) (ma_cons (me_tup ma_nil) ma_nil))))) ma_nil)))) (mb_one (ms_ret me_bl)) mb_nil) (mb_cons (ms_par 10 11 (by rfl) sc_law.nd (ma_cons (me_lst (ma_cons (me_excV (n := 1) (ks := []) (ix := [0]) L g.v_UnknownName (hr.mono (by first | decide | omega)) (by rfl) g.g_UnknownName 1 rfl rfl (by decide) (ma_cons (me_v 3) ma_nil) mk_nil) (ma_cons (me_excV (n := 0) (ks := ["name"]) (ix := [0]) L g.v_UnknownName (hr.mono (by first | decide | omega)) (by rfl) g.g_UnknownName 0 rfl rfl (by decide) ma_nil (mk_cons (me_v 3) mk_nil)) ma_nil))) (ma_cons (me_excV (n := 0) (ks := []) (ix := []) L g.v_NothingLeft (hr.mono (by first | decide | omega)) (by rfl) g.g_NothingLeft 0 rfl rfl (by decide) ma_nil mk_nil) ma_nil))) (mb_cons (ms_if (mt_not (mt_e L (me_call L (fd_law_like (T := lawTb w K cA s) (n := 8) g) (hr.mono (by first | decide | omega)) (by rfl) g.g_law_like g.k_law_like g.b_law_like (ma_cons (me_lc (own := [("_law_late", 15)]) (by rfl) sc_law.nd (blkOk_by (by show blkC ["_law_script", "_law_hand_here", "_law_turn", "_law_one", "_law_other", "_law_first", "_law_second", "_law_code", "_law_both", "_law_bare", "_law_lost", "_law_last", "_law_bases", "_law_odd", "_law_told", "_law_late"] (defScope s_law) _ [("_law_late", 15)] = true; decide +kernel)) (mi_seq L.k (me_v 10)) (fun _ _ _ _ _ => (mg_nm 15 sc_law.nd)) (fun _ _ _ _ _ => mts_nil) (fun _ _ _ _ _ => me_lst (ma_cons (me_excF (lv0 (by rfl)).k g.xcf_code (me_v 15)) (ma_cons (me_excF (lv0 (by rfl)).k g.xcf_name (me_v 15)) ma_nil)))) (ma_cons (me_op op_gMul (me_lst (ma_cons (me_lst (ma_cons me_str (ma_cons (me_v 3) ma_nil))) ma_nil)) me_int) ma_nil))))) (mb_one (ms_ret me_bl)) mb_nil) (mb_cons (ms_set 12 sc_law.nd (me_lst (ma_cons (me_callB (call_gIsiX L.k (g.isx1 _ rfl rfl)) (by rfl) g.z_isinstance (by rfl) (ma_cons (me_ix L.k (me_v 10) me_int) (ma_cons (me_cls 21 (by rfl) g.g_Missing) ma_nil))) (ma_cons (me_callB (call_gIsiX L.k (g.isx1 _ rfl rfl)) (by rfl) g.z_isinstance (by rfl) (ma_cons (me_ix L.k (me_v 10) me_int) (ma_cons (me_cls 20 (by rfl) g.g_LotError) ma_nil))) (ma_cons (me_callB (call_gIsiX L.k (g.isx1 _ rfl rfl)) (by rfl) g.z_isinstance (by rfl) (ma_cons (me_v 11) (ma_cons (me_cls 20 (by rfl) g.g_LotError) ma_nil))) ma_nil))))) (mb_one (ms_if (mt_not (mt_e L (me_call L (fd_law_like (T := lawTb w K cA s) (n := 8) g) (hr.mono (by first | decide | omega)) (by rfl) g.g_law_like g.k_law_like g.b_law_like (ma_cons (me_op (op_gAdd L.k) (me_lst (ma_cons (me_excF L.k g.xcf_code (me_v 11)) ma_nil)) (me_v 12)) (ma_cons (me_lst (ma_cons me_str (ma_cons me_bl (ma_cons me_bl (ma_cons me_bl ma_nil))))) ma_nil))))) (mb_one (ms_ret me_bl)) mb_nil)))))))))))) (mb_cons (ms_set 13 sc_law.nd (me_call L (fd_law_of (T := lawTb w K cA s) g) (hr.mono (by first | decide | omega)) (by rfl) g.g_law_of g.k_law_of g.b_law_of (ma_cons (me_v 1) (ma_cons (me_lst (ma_cons me_str (ma_cons me_str (ma_cons me_non (ma_cons me_int (ma_cons (me_tup (ma_cons me_str ma_nil)) ma_nil)))))) ma_nil)))) (mb_cons (ms_set 14 sc_law.nd (me_callL L (cellF_of fun _ => rfl) (fun base2 ρ σ B => fd_law_try (T := (lawTb w K cA s).cap ρ σ) (j := 5) g (lm_ok g B)) (hr.mono (by decide)) (by rfl) g.g_law_try g.k_law_try g.b_law_try (ma_cons (me_lam (n := 0) (i := 0) TB rfl (by rfl) (by rfl) (by rfl) hf_lam_0) ma_nil))) (mb_one (ms_ret (me_call L (fd_law_like (T := lawTb w K cA s) (n := 8) g) (hr.mono (by first | decide | omega)) (by rfl) g.g_law_like g.k_law_like g.b_law_like (ma_cons (me_v 14) (ma_cons (me_tup (ma_cons me_str (ma_cons (me_call L (fd_law_field (T := lawTb w K cA s) g) (hr.mono (by first | decide | omega)) (by rfl) g.g_law_field g.k_law_field g.b_law_field (ma_cons (me_excV (n := 1) (ks := []) (ix := [0]) L g.v_InvalidLetter (hr.mono (by first | decide | omega)) (by rfl) g.g_InvalidLetter 0 rfl rfl (by decide) (ma_cons (me_v 13) ma_nil) mk_nil) ma_nil)) ma_nil))) ma_nil))))))))
def KLAW : Nat := 12
theorem ok_law {P : Program} {w : World} {K : PySem.W.Frag} {mg : Str → Option Value} {base : Heap} {c Pt : Addr} {oc kV doc pm ct : Value} {od an : Option Addr} {osl : Array (Option Value)} (g : G P w K (cAof K) mg) (TB : TabB base mg c Pt) (hpl : ∀ Pt, Plain lawN.length (sm_law Pt) Pt qLam)
    (lk : K.lookup (He.ga K "law") = some ⟨oc, od, .func (PySem.W.fnOf "law" "law" (defArgs s_law) (defBody s_law) (defScope s_law) .none kV doc pm an (.ref c) ct), osl⟩) (hcd : PySem.W.codeIn K (.ref c) "law" = true) :
    FnOk P w K mg base (L2.CX P w) KLAW (He.ga K "law") (PySem.W.fnOf "law" "law" (defArgs s_law) (defBody s_law) (defScope s_law) .none kV doc pm an (.ref c) ct) ["_law_script"] (spLaw K Pt) :=
  fn_of (k := 11) lk hcd sc_law spLaw_len fun A outer s H vs Q E hr hsp =>
    ⟨_, walk_law (cA := cAof K) (s := s) g TB hr ⟨rfl, tkB_of (b := false) rfl rfl rfl rfl⟩ (passes_of (K := fun e s2 => L2.CX P w outer H s E e s2) rfl), law_rd (hpl Pt) hsp⟩
end L3

set_option Elab.async false
set_option linter.all false
set_option maxRecDepth 100000
set_option maxHeartbeats 4000000
namespace L3
open PySem PySem.Spec PyProof.Rows L2 NdefX LamX
/-! ### the hand -/
structure Hand where
  cells : List Int
  i : Int
  left : Int
  seed : Int
  cnt : Int
def Hand.mo (h : Hand) : MO := .lst [.lst (intsD h.cells), .int h.i, .int h.left, .int h.seed, .int h.cnt]
structure Hand.ok (h : Hand) : Prop where
  i0 : 0 ≤ h.i
  l0 : 0 ≤ h.left
  s0 : 0 ≤ h.seed
  s1 : h.seed < 2147483629
section
variable {N B C : Env → Store → Prop} {T : A → Store → Prop} {E : Er → Store → Prop} {ρ : Env} {S S1 : Store} {ds : List D} {d : D} {n j : Nat} {k : Int} {mo mi mv : EM}
theorem sat_six (h1 : mv ρ S = .ok (.v d) S1) (h2 : mo ρ S1 = .ok (.m n) S1) (h3 : mi ρ S1 = .ok (.v (.int k)) S1) (h4 : S1[n]? = some (.lst ds)) (h5 : ixN ds.length k = some j) (h6 : N ρ (S1.set n (.lst (ds.set j d)))) : (sIx mo mi mv ρ S).sat N T B C E := by
  rw [sIx_e, h1]
  simp only [SR.of_ok, h2, h3, sixRR_e, h4, sixR_e h5]
  exact h6
end
theorem at5_0 {a b c d e : D} : atI [a, b, c, d, e] 0 = some a := rfl
theorem at5_1 {a b c d e : D} : atI [a, b, c, d, e] 1 = some b := rfl
theorem at5_2 {a b c d e : D} : atI [a, b, c, d, e] 2 = some c := rfl
theorem at5_3 {a b c d e : D} : atI [a, b, c, d, e] 3 = some d := rfl
theorem at5_4 {a b c d e : D} : atI [a, b, c, d, e] 4 = some e := rfl
theorem intsD_get {l : List Int} {i : Int} (h0 : 0 ≤ i) (h1 : i < l.length) : ∃ z, atI (intsD l) i = some (.int z) := by
  obtain ⟨z, e, e2⟩ := atI_in (zs := intsD l) h0 (by simpa [intsD] using h1)
  unfold intsD at e2
  rw [List.getElem?_map] at e2
  cases q : l[i.toNat]? with
  | none => rw [q] at e2; cases e2
  | some y =>
    rw [q] at e2
    cases e2
    exact ⟨y, e⟩
@[simp] theorem intsD_len {l : List Int} : (intsD l).length = l.length := by simp [intsD]
theorem set_set {S : Store} {n : Nat} {a b : MO} : (S.set n a).set n b = S.set n b := by simp
theorem pick_ok {h : Hand} {S : Store} {n : Nat} {k : Int} (ho : h.ok) (hs : S[n]? = some h.mo) (hk : 0 < k) (hk2 : k < 1073741824) :
    ∃ r h', fm_law_pick [.m n, .v (.int k)] S = .ok (.v (.int r)) (S.set n (Hand.mo h')) ∧ 0 ≤ r ∧ r < k ∧ h'.ok := by
  have hn : n < S.length := (List.getElem?_eq_some_iff.mp hs).1
  have gs : ∀ (b : MO), (S.set n b)[n]? = some b := fun b => by simp [hn]
  have key : (sm_law_pick [some (.m n), some (.v (.int k)), none, none, none] S).sat noE (fun a S' => ∃ r h', a = .v (.int r) ∧ S' = S.set n (Hand.mo h') ∧ 0 ≤ r ∧ r < k ∧ h'.ok) noE noE noX := by
    unfold sm_law_pick
    refine sat_seq ?_
    refine sat_six (n := n) (k := 4) (j := 4) (S1 := S) (d := .int (h.cnt + 1)) (by simp [gIx_at hs, at5_4]) (by simp) (by simp) hs rfl ?_
    obtain ⟨cells, i, left, seed, cnt⟩ := h
    simp only [List.set_cons_succ, List.set_cons_zero]
    have hm := gs (.lst [.lst (intsD cells), .int i, .int left, .int seed, .int (cnt + 1)])
    -- the second half, from any hand that is all right
    have half : ∀ (i left seed cnt : Int) (o2 : Option A), 0 ≤ i → 0 ≤ left → 0 ≤ seed → seed < 2147483629 →
        (SR.sat noE (fun a S' => ∃ r h', a = .v (.int r) ∧ S' = S.set n (Hand.mo h') ∧ 0 ≤ r ∧ r < k ∧ h'.ok) noE noE noX
          ((sSeq (sIf (tE (eOp gGt (eOp gIx (eV 0) (eC (.int 2))) (eC (.int 0)))) (sSeq (sSet 3 (eOp gMod (eCallB gInt (aCons (eOp gIx (eV 0) (eC (.int 2))) aNil)) (eV 1))) (sSeq (sIx (eV 0) (eC (.int 2)) (eOp gFdiv (eOp gIx (eV 0) (eC (.int 2))) (eV 1))) (sRet (eV 3)))) sNil) (sSeq (sSet 4 (eOp gIx (eV 0) (eC (.int 3)))) (sSeq (sIx (eV 0) (eC (.int 3)) (eOp gMod (eCallB gInt (aCons (eOp gAdd (eOp gAdd (eOp gAdd (eOp gPow (eV 4) (eC (.int 3))) (eOp gMul (eV 4) (eC (.int 38557)))) (eOp gMul (eOp gIx (eV 0) (eC (.int 4))) (eC (.int 1299709)))) (eC (.int 65293))) aNil)) (eC (.int 2147483629)))) (sRet (eOp gMod (eCallB gInt (aCons (eOp gAdd (eOp gFdiv (eOp gIx (eV 0) (eC (.int 3))) (eC (.int 89))) (eOp gMul (eOp gMod (eCallB gInt (aCons (eOp gIx (eV 0) (eC (.int 3))) aNil)) (eC (.int 7933))) (eC (.int 59)))) aNil)) (eV 1))))))
            [some (.m n), some (.v (.int k)), o2, none, none] (S.set n (.lst [.lst (intsD cells), .int i, .int left, .int seed, .int cnt])))) := by
      intro i left seed cnt o2 i0 l0 s0 s1
      have hm := gs (.lst [.lst (intsD cells), .int i, .int left, .int seed, .int cnt])
      refine sat_seq (sat_if (b := decide (0 < left)) (S1 := S.set n (.lst [.lst (intsD cells), .int i, .int left, .int seed, .int cnt])) (by simp [gIx_at hm, at5_2]) ?_)
      by_cases hl : 0 < left
      · rw [if_pos (by simpa using hl)]
        refine sat_seq (sat_set (x := .v (.int (left % k))) (S1 := S.set n (.lst [.lst (intsD cells), .int i, .int left, .int seed, .int cnt])) (by simp [gIx_at hm, at5_2, gMod_i hk]) ?_)
        refine sat_seq (sat_six (n := n) (k := 2) (j := 2) (d := .int (left / k)) (by simp [gIx_at hm, at5_2, gFdiv_i ⟨hk, hk2⟩]) (by simp) (by simp) hm rfl ?_)
        refine sat_ret (x := .v (.int (left % k))) (S1 := (S.set n (.lst [.lst (intsD cells), .int i, .int left, .int seed, .int cnt])).set n (.lst [.lst (intsD cells), .int i, .int (left / k), .int seed, .int cnt])) (by simp) ?_
        refine ⟨_, ⟨cells, i, left / k, seed, cnt⟩, rfl, ?_, Int.emod_nonneg _ (by omega), Int.emod_lt_of_pos _ hk, ⟨i0, Int.ediv_nonneg l0 (by omega), s0, s1⟩⟩
        rw [set_set]; rfl
      · rw [if_neg (by simpa using hl)]
        simp only [sNil_e]
        refine sat_seq (sat_set (x := .v (.int seed)) (S1 := S.set n (.lst [.lst (intsD cells), .int i, .int left, .int seed, .int cnt])) (by simp [gIx_at hm, at5_3]) ?_)
        refine sat_seq (sat_six (n := n) (k := 3) (j := 3) (d := .int ((seed ^ 3 + seed * 38557 + cnt * 1299709 + 65293) % 2147483629)) (by
          simp [gIx_at hm, at5_4, gPow_i (i := seed) (j := 3) ⟨by decide, by decide, by omega, by omega⟩, gMul_i (i := seed) (j := 38557) (.inr (by decide)), gMul_i (i := cnt) (j := 1299709) (.inr (by decide)), gMod_i (j := 2147483629) (by decide)]) (by simp) (by simp) hm rfl ?_)
        rw [set_set]
        simp only [List.set_cons_succ, List.set_cons_zero]
        generalize hv : (seed ^ 3 + seed * 38557 + cnt * 1299709 + 65293) % 2147483629 = v
        have hm2 := gs (.lst [.lst (intsD cells), .int i, .int left, .int v, .int cnt])
        refine sat_ret (x := .v (.int ((v / 89 + v % 7933 * 59) % k))) (S1 := S.set n (.lst [.lst (intsD cells), .int i, .int left, .int v, .int cnt])) (by
          simp [gIx_at hm2, at5_3, gFdiv_i (j := 89) (by decide), gMod_i (j := 7933) (by decide), gMul_i (j := 59) (.inr (by decide)), gMod_i hk]) ?_
        exact ⟨_, ⟨cells, i, left, v, cnt⟩, rfl, rfl, Int.emod_nonneg _ (by omega), Int.emod_lt_of_pos _ hk, ⟨i0, l0, (by omega : 0 ≤ v), (by omega : v < 2147483629)⟩⟩
    refine sat_seq (sat_if (b := decide (left = 0) && decide (i < cells.length)) (S1 := S.set n (.lst [.lst (intsD cells), .int i, .int left, .int seed, .int (cnt + 1)])) (by
      by_cases hl : left = 0
      · subst hl; simp [gIx_at hm, at5_2, at5_1, at5_0]
      · simp [hl, gIx_at hm, at5_2, at5_1, at5_0]) ?_)
    by_cases hc : left = 0 ∧ i < cells.length
    · obtain ⟨rfl, hi⟩ := hc
      rw [if_pos (by simpa using hi)]
      obtain ⟨z, hz⟩ := intsD_get ho.i0 hi
      refine sat_seq (sat_set (x := .v (.int z)) (S1 := S.set n (.lst [.lst (intsD cells), .int i, .int 0, .int seed, .int (cnt + 1)])) (by simp [gIx_at hm, at5_0, at5_1, hz]) ?_)
      refine sat_seq (sat_six (n := n) (k := 1) (j := 1) (d := .int (i + 1)) (by simp [gIx_at hm, at5_1]) (by simp) (by simp) hm rfl ?_)
      rw [set_set]
      simp only [List.set_cons_succ, List.set_cons_zero]
      have hm2 := gs (.lst [.lst (intsD cells), .int (i + 1), .int 0, .int seed, .int (cnt + 1)])
      have i0 : 0 ≤ i := ho.i0
      refine sat_if (b := decide (1000000000000000000 ≤ z)) (S1 := S.set n (.lst [.lst (intsD cells), .int (i + 1), .int 0, .int seed, .int (cnt + 1)])) (by
        simp [gPow_i (i := 10) (j := 18) ⟨by decide, by decide, by decide, by decide⟩]) ?_
      by_cases hz2 : 1000000000000000000 ≤ z
      · rw [if_pos (by simpa using hz2)]
        refine sat_six (n := n) (k := 2) (j := 2) (d := .int z) (by simp) (by simp) (by simp) hm2 rfl ?_
        rw [set_set]
        exact half (i + 1) z seed (cnt + 1) _ (by omega) (by omega) ho.s0 ho.s1
      · rw [if_neg (by simpa using hz2)]
        refine sat_six (n := n) (k := 3) (j := 3) (d := .int ((seed * 39251 + z % 2147483563 * 40427 + 43) % 2147483629)) (by
          simp [gIx_at hm2, at5_3, gMul_i (i := seed) (j := 39251) (.inr (by decide)), gMod_i (j := 2147483563) (by decide), gMul_i (j := 40427) (.inr (by decide)), gMod_i (j := 2147483629) (by decide)]) (by simp) (by simp) hm2 rfl ?_
        rw [set_set]
        exact half (i + 1) 0 _ (cnt + 1) _ (by omega) (by omega) (by omega) (by omega)
    · rw [if_neg (by simpa using hc)]
      exact half i left seed (cnt + 1) _ ho.i0 ho.l0 ho.s0 ho.s1
  obtain ⟨x, S', e, r, h', rfl, rfl, h2⟩ := sat_ex key
  exact ⟨r, h', e, h2⟩
theorem ofL_ok {h : Hand} {S : Store} {n : Nat} {xs : List D} (ho : h.ok) (hs : S[n]? = some h.mo) (hx : xs ≠ []) (hl : xs.length < 1000000) :
    ∃ d h', fm_law_of [.m n, .v (.lst xs)] S = .ok (.v d) (S.set n (Hand.mo h')) ∧ d ∈ xs ∧ h'.ok := by
  have h0 : 0 < xs.length := List.length_pos_iff.mpr hx
  obtain ⟨r, h', e, r0, r1, o'⟩ := pick_ok ho hs (k := xs.length) (by omega) (by omega)
  obtain ⟨d, e2, e3⟩ := atI_in r0 r1
  refine ⟨d, h', ?_, List.mem_of_getElem? e3, o'⟩
  unfold fm_law_of sm_law_of
  simp [e, e2]
theorem hand_ok {ns : List Int} {S : Store} : ∃ h, fm_law_hand [.v (.fz (intsD ns))] S = .ok (.m S.length) (S ++ [Hand.mo h]) ∧ h.ok := by
  have cut : cutD (intsD ns) none (some 63) = intsD (ns.take 63) := by
    rw [cutD_e, show (some (63 : Int)) = some (((63 : Nat)) : Int) from rfl, cutL_to]
    unfold intsD
    rw [List.map_take]
  have key : (sm_law_hand [some (.v (.fz (intsD ns))), none, none] S).sat noE (fun a S' => ∃ h : Hand, a = A.m S.length ∧ S' = S ++ [Hand.mo h] ∧ h.ok) noE noE noX := by
    unfold sm_law_hand
    refine sat_seq (sat_set (x := .v (.int 5627)) (S1 := S) (by simp) ?_)
    refine sat_seq (sat_for (I := fun _ ρ S' => S' = S ∧ ∃ s o, ρ = [some (.v (.fz (intsD ns))), some (.v (.int s)), o] ∧ 0 ≤ s ∧ s < 2147483629) (ds := intsD (ns.take 63)) (S1 := S) (by simp [cut]) ⟨rfl, _, _, rfl, by decide, by decide⟩ ?_ ?_)
    · rintro don d rest ρ S' e ⟨rfl, s, o, rfl, s0, s1⟩
      obtain ⟨z, rfl⟩ : ∃ z : Int, d = .int z := by
        have : d ∈ intsD (ns.take 63) := by rw [e]; simp
        unfold intsD at this
        obtain ⟨z, _, rfl⟩ := List.mem_map.mp this
        exact ⟨z, rfl⟩
      refine ⟨_, put_nm, sat_set (x := .v (.int ((s * 45161 + z % 2147483587 + 31) % 2147483629))) (S1 := S') (by simp [gMul_i (i := s) (j := 45161) (.inr (by decide)), gMod_i (j := 2147483587) (by decide), gMod_i (j := 2147483629) (by decide)]) ⟨rfl, _, _, rfl, by omega, by omega⟩⟩
    · rintro ρ S' ⟨rfl, s, o, rfl, s0, s1⟩
      refine sat_ret (x := .m S'.length) (S1 := S' ++ [Hand.mo ⟨ns.take 63, 0, 0, s, 0⟩]) ?_ ⟨_, rfl, rfl, ⟨Int.le_refl _, Int.le_refl _, s0, s1⟩⟩
      unfold eMut
      simp [cut]
      rfl
  obtain ⟨x, S', e, h, rfl, rfl, ho⟩ := sat_ex key
  exact ⟨h, e, ho⟩
end L3

set_option Elab.async false
set_option linter.all false
set_option maxRecDepth 100000
set_option maxHeartbeats 4000000
namespace L3
open PySem PySem.Spec PyProof.Rows L2 NdefX LamX
/-! ### two equal values are alike -/
def plainN : Nat → D → Bool
  | 0, _ => false
  | _ + 1, .non => true
  | _ + 1, .bl _ => true
  | _ + 1, .int _ => true
  | _ + 1, .str _ => true
  | n + 1, .tup xs => decide (xs.length ≤ 1000000) && xs.all (plainN n)
  | n + 1, .lst xs => decide (xs.length ≤ 1000000) && xs.all (plainN n)
  | _ + 1, _ => false
theorem zipD_self {xs : List D} : zipD xs xs = xs.map fun x => .tup [x, x] := by
  unfold zipD
  induction xs with
  | nil => rfl
  | cons x xs ih => simp only [List.zip_cons_cons, List.map_cons, ih]
theorem like_all {n : Nat} {xs : List D} {ρ : Env} {S : Store} {o1 o2 o3 o4 : Option A} (hl : xs.length ≤ 1000000) (ih : ∀ x ∈ xs, ∀ S, fm_law_like n [.v x, .v x] S = .ok (.v (.bl true)) S) {mi : IM} (hm : mi [o1, o2, o3, o4] S = .ok (zipD xs xs) S) :
    eLc [2, 3] mi (.tp ((.nm 2) :: ((.nm 3) :: []))) tYesM (eCall (fm_law_like n) (aCons (eV 2) (aCons (eV 3) aNil))) [o1, o2, o3, o4] S = .ok (.v (.lst (xs.map fun _ => .bl true))) S := by
  have := eLc_map (own := [2, 3]) (g := .tp ((.nm 2) :: ((.nm 3) :: []))) (t := tYesM) (m := eCall (fm_law_like n) (aCons (eV 2) (aCons (eV 3) aNil))) (fun _ => .bl true) hm (by simp [zipD_self]; exact hl) (fun d hd Z => by
    rw [zipD_self] at hd
    obtain ⟨x, hx, rfl⟩ := List.mem_map.mp hd
    refine ⟨_, by simp [wipeE]; rfl, by simp, by simp [ih x hx]⟩)
  rw [this, zipD_self, List.map_map]
  rfl
theorem asBl_true {xs : List D} : (asBl (xs.map fun _ => D.bl true)).map (fun bs => A.v (.bl (bs.all id))) = some (.v (.bl true)) := by
  rw [asBl_map]
  simp
theorem like_refl : ∀ (n : Nat) (d : D) (S : Store), plainN n d = true → fm_law_like n [.v d, .v d] S = .ok (.v (.bl true)) S
  | 0, _, _, h => by cases h
  | n + 1, .non, S, _ => by simp [fm_law_like, sm_law_like]
  | n + 1, .bl b, S, _ => by simp [fm_law_like, sm_law_like, eAnd_e]
  | n + 1, .int b, S, _ => by simp [fm_law_like, sm_law_like, eAnd_e]
  | n + 1, .str b, S, _ => by
    rw [sL_of b]
    simp [fm_law_like, sm_law_like, eAnd_e]
  | n + 1, .tup xs, S, h => by
    have h1 : xs.length ≤ 1000000 ∧ ∀ x ∈ xs, plainN n x = true := by simpa [plainN] using h
    have ih : ∀ x ∈ xs, ∀ S, fm_law_like n [.v x, .v x] S = .ok (.v (.bl true)) S := fun x hx S => like_refl n x S (h1.2 x hx)
    have e := like_all (S := S) (ρ := []) (o1 := some (.v (.tup xs))) (o2 := some (.v (.tup xs))) (o3 := none) (o4 := none) h1.1 ih (mi := iZipM (aCons (eV 0) (aCons (eV 1) aNil))) (by simp [iZipM, zipOf])
    simp [fm_law_like, sm_law_like, eAnd_e, e, asBl_true]
  | n + 1, .lst xs, S, h => by
    have h1 : xs.length ≤ 1000000 ∧ ∀ x ∈ xs, plainN n x = true := by simpa [plainN] using h
    have ih : ∀ x ∈ xs, ∀ S, fm_law_like n [.v x, .v x] S = .ok (.v (.bl true)) S := fun x hx S => like_refl n x S (h1.2 x hx)
    have e := like_all (S := S) (ρ := []) (o1 := some (.v (.lst xs))) (o2 := some (.v (.lst xs))) (o3 := none) (o4 := none) h1.1 ih (mi := iZipM (aCons (eV 0) (aCons (eV 1) aNil))) (by simp [iZipM, zipOf])
    simp [fm_law_like, sm_law_like, eAnd_e, e, asBl_true]
  | n + 1, .obj _ _, _, h => by cases h
  | n + 1, .cls _, _, h => by cases h
  | n + 1, .fz _, _, h => by cases h
  | n + 1, .ty _, _, h => by cases h
  | n + 1, .fn _, _, h => by cases h
  | n + 1, .adr _, _, h => by cases h
  | n + 1, .dic _ _, _, h => by cases h
  | n + 1, .exc _ _, _, h => by cases h
  | n + 1, .dnk _ _, _, h => by cases h
/-- «if not _law_like(a, b): return False» -/
theorem like_test {ma mb : EM} {ρ : Env} {S S1 S2 : Store} {T : D} {n : Nat} (h1 : ma ρ S = .ok (.v T) S1) (h2 : mb ρ S1 = .ok (.v T) S2) (hp : plainN n T = true) : eCall (fm_law_like n) (aCons ma (aCons mb aNil)) ρ S = .ok (.v (.bl true)) S2 := by
  simp [h1, h2, like_refl n T S2 hp]
theorem sat_like {ma mb : EM} {ρ : Env} {S S1 S2 : Store} {T : D} {n : Nat} {N B C : Env → Store → Prop} {X : A → Store → Prop} {E : Er → Store → Prop} {m : SM} (h1 : ma ρ S = .ok (.v T) S1) (h2 : mb ρ S1 = .ok (.v T) S2) (hp : plainN n T = true) (k : N ρ S2) :
    (sIf (tNotM (tE (eCall (fm_law_like n) (aCons ma (aCons mb aNil))))) m sNil ρ S).sat N X B C E := by
  refine sat_if (b := false) (S1 := S2) ?_ ?_
  · rw [tNotM_e, tE_e, like_test h1 h2 hp]; rfl
  · rw [if_neg (by decide)]
    exact k
end L3

set_option Elab.async false
set_option linter.all false
set_option maxRecDepth 100000
set_option maxHeartbeats 4000000
namespace L3
open PySem PySem.Spec PyProof.Rows L2 NdefX LamX
/-! ### judgements that are not computed -/
structure SR.sa (N : Env → Store → Prop) (T : A → Store → Prop) (B C : Env → Store → Prop) (E : Er → Store → Prop) (r : SR) : Prop where
  h : r.sat N T B C E
section
variable {N B C N' B' C' : Env → Store → Prop} {T T' : A → Store → Prop} {E E' : Er → Store → Prop} {ρ ρ1 : Env} {S S1 : Store} {m n : SM} {g : Tg} {t : TM} {ma : EM} {mi : IM} {ds : List D} {i : Nat} {x : A}
theorem sa_seq (h : (m ρ S).sa (fun ρ' S' => (n ρ' S').sa N T B C E) T B C E) : (sSeq m n ρ S).sa N T B C E :=
  ⟨sat_seq (h.h.imp (fun _ _ z => z.h) (fun _ _ z => z) (fun _ _ z => z) (fun _ _ z => z) (fun _ _ z => z))⟩
theorem sa_set (h : ma ρ S = .ok x S1) (k : N (ρ.set i (some x)) S1) : (sSet i ma ρ S).sa N T B C E := ⟨sat_set h k⟩
theorem sa_asg (h : ma ρ S = .ok x S1) (hp : g.put x ρ = some ρ1) (k : N ρ1 S1) : (sAsg g ma ρ S).sa N T B C E := ⟨sat_asg h hp k⟩
theorem sa_par {i j : Nat} {r : AM} {y : A} (h : r ρ S = .ok [x, y] S1) (k : N ((ρ.set i (some x)).set j (some y)) S1) : (sPar i j r ρ S).sa N T B C E := ⟨sat_par h k⟩
theorem sa_if {b : Bool} (h : t ρ S = .ok b S1) (k : (if b = true then m ρ S1 else n ρ S1).sa N T B C E) : (sIf t m n ρ S).sa N T B C E := ⟨sat_if h k.h⟩
theorem sa_ret (h : ma ρ S = .ok x S1) (k : T x S1) : (sRet ma ρ S).sa N T B C E := ⟨sat_ret h k⟩
theorem sa_nil (k : N ρ S) : (sNil ρ S).sa N T B C E := ⟨k⟩
theorem sa_for {I : List D → Env → Store → Prop} (hi : mi ρ S = .ok ds S1) (h0 : I [] ρ S1)
    (step : ∀ (don : List D) d rest ρ S, ds = don ++ d :: rest → I don ρ S → ∃ ρ1, g.put (.v d) ρ = some ρ1 ∧ (m ρ1 S).sa (I (don ++ [d])) T N (I (don ++ [d])) E)
    (fin : ∀ ρ S, I ds ρ S → N ρ S) : (sFor mi g m ρ S).sa N T B C E :=
  ⟨sat_for hi h0 (fun don d rest ρ S e i => let ⟨ρ1, a, b⟩ := step don d rest ρ S e i; ⟨ρ1, a, b.h⟩) fin⟩
theorem sa_like {ma mb : EM} {S2 : Store} {d : D} {n : Nat} {X : A → Store → Prop} {m : SM} (h1 : ma ρ S = .ok (.v d) S1) (h2 : mb ρ S1 = .ok (.v d) S2) (hp : plainN n d = true) (k : N ρ S2) :
    (sIf (tNotM (tE (eCall (fm_law_like n) (aCons ma (aCons mb aNil))))) m sNil ρ S).sa N X B C E := ⟨sat_like h1 h2 hp k⟩
end
end L3

set_option Elab.async false
set_option linter.all false
set_option maxRecDepth 100000
set_option maxHeartbeats 4000000
namespace L3
open PySem PySem.Spec PyProof.Rows L2 NdefX LamX
/-! ### steps that name what comes out -/
section
variable {ρ : Env} {S S1 S2 S3 : Store} {x y : A} {ma mb mo : EM} {t u : TM} {r rk : AM} {xs zs : List A} {fM : FM} {z : R A} {k : Nat}
theorem eCall_of (h : r ρ S = .ok xs S1) (h2 : fM xs S1 = z) : eCall fM r ρ S = z := by rw [eCall_e, h]; exact h2
theorem eCallB_of {g : CallG} (h : r ρ S = .ok xs S1) (h2 : g xs S1 = some x) : eCallB g r ρ S = .ok x S1 := by rw [eCallB_e, h, R.bind_ok, h2]; rfl
theorem aCons_of (h : ma ρ S = .ok x S1) (h2 : r ρ S1 = .ok xs S2) : aCons ma r ρ S = .ok (x :: xs) S2 := by rw [aCons_e, h, R.bind_ok, h2]; rfl
theorem eOp_of {g : OpG} {w : A} (h : ma ρ S = .ok x S1) (h2 : mb ρ S1 = .ok y S2) (h3 : g x y S2 = some w) : eOp g ma mb ρ S = .ok w S2 := by rw [eOp_e, h, R.bind_ok, h2, R.bind_ok, h3]; rfl
theorem tE_of {b : Bool} (h : ma ρ S = .ok x S1) (h2 : truD x S1 = some b) : tE ma ρ S = .ok b S1 := by rw [tE_e, h, R.bind_ok, h2]; rfl
theorem tE_b {b : Bool} (h : ma ρ S = .ok (.v (.bl b)) S1) : tE ma ρ S = .ok b S1 := tE_of h rfl
theorem tNot_t (h : t ρ S = .ok true S1) : tNotM t ρ S = .ok false S1 := by rw [tNotM_e, h]; rfl
theorem tOr_of {a b : Bool} (h : t ρ S = .ok a S) (h2 : a = false → u ρ S = .ok b S) : tOrM t u ρ S = .ok (a || b) S := by
  rw [tOrM_e, h]
  cases a with
  | true => rfl
  | false => rw [R.bind_ok, if_neg (by simp), h2 rfl]; rfl
theorem eTup_of {ds : List D} (h : r ρ S = .ok xs S1) (h2 : asD xs = some ds) (hl : ds.length ≤ 1000) : eTup r ρ S = .ok (.v (.tup ds)) S1 := by rw [eTup_e, h, R.bind_ok, h2, tupR_e, if_pos hl]
theorem eLst_of {ds : List D} (h : r ρ S = .ok xs S1) (h2 : asD xs = some ds) (hl : ds.length ≤ 1000) : eLst r ρ S = .ok (.v (.lst ds)) S1 := by rw [eLst_e, h, R.bind_ok, h2, tupR_e, if_pos hl]
theorem iSeq_of {ds : List D} (h : ma ρ S = .ok (.v (.lst ds)) S1) : iSeq ma ρ S = .ok ds S1 := by rw [iSeq_e, h]; rfl
theorem iRng1_of {n : Int} (h : ma ρ S = .ok (.v (.int n)) S1) (hn : n ≤ 1000000000) (h0 : -1000000000 ≤ n) : iRng1M (aCons ma aNil) ρ S = .ok (rngD 0 n.toNat) S1 := by
  rw [iRng1_e, aCons_of h rfl, R.bind_ok]
  exact rng1_e (by omega)
theorem sRet_of (h : ma ρ S = .ok x S1) : sRet ma ρ S = .rt x S1 := by rw [sRet_e, h]; rfl
theorem fm_of {a l : Nat} {m : SM} {x : A} (hl : xs.length = a) (h : m (xs.map some ++ List.replicate (l - a) none) S = .rt x S1) : bodyM a l m xs S = .ok x S1 := by
  rw [bodyM_e, if_pos hl, h]; rfl
end
end L3

set_option Elab.async false
set_option linter.all false
set_option maxRecDepth 100000
set_option maxHeartbeats 4000000
namespace L3
open PySem PySem.Spec PyProof.Rows L2 NdefX LamX
section
variable {ρ : Env} {S S1 S2 S3 : Store} {x y : A} {ma mb mo : EM} {k : Nat} {fM : FM}
theorem eLam_of {n i : Nat} {P : Addr} {q : Str} (h : S[n]? = some (.tab P q)) : eLam n P q i ρ S = .ok (.v (.fn i)) S := by
  unfold eLam
  rw [h]
  exact if_pos ⟨rfl, rfl⟩
theorem eCallL_of {f : Env → FM} {r : AM} {xs : List A} {z : R A} (h : r ρ S = .ok xs S1) (h2 : f ρ xs S1 = z) : eCallL f r ρ S = z := by
  show (r ρ S).bind (fun xs S1 => f ρ xs S1) = z
  rw [h]; exact h2
theorem eAnd_t {z : R A} (h : ma ρ S = .ok (.v (.bl true)) S1) (h2 : mb ρ S1 = z) : eAnd ma mb ρ S = z := by rw [eAnd_e, h]; exact h2
end
end L3

set_option Elab.async false
set_option linter.all false
set_option maxRecDepth 100000
set_option maxHeartbeats 4000000
namespace L3
open PySem PySem.Spec PyProof.Rows L2 NdefX LamX
/-! the statements of law one by one -/
@[irreducible] def lw_15 (Pt : Addr) : SM := sRet (eCall (fm_law_like 8) (aCons (eV 14) (aCons (eTup (aCons (eC (.str "InvalidLetter")) (aCons (eCall fm_law_field (aCons (eExcV 11 1 0 1 [0] [("given", .inl 0), ("code", .inr "InvalidLetter")] (aCons (eV 13) aNil) aNil) aNil)) aNil))) aNil)))
@[irreducible] def lw_14 (Pt : Addr) : SM := sSeq (sSet 14 (eCallL (fun ρ => fm_law_try (lmOf ρ)) (aCons (eLam 0 Pt qLam 0) aNil))) (lw_15 Pt)
@[irreducible] def lw_13 (Pt : Addr) : SM := sSeq (sSet 13 (eCall fm_law_of (aCons (eV 1) (aCons (eLst (aCons (eC (.str "b")) (aCons (eC (.str "")) (aCons (eC .non) (aCons (eC (.int 3)) (aCons (eTup (aCons (eC (.str "a")) aNil)) aNil)))))) aNil)))) (lw_14 Pt)
@[irreducible] def lw_12 (Pt : Addr) : SM := sIf (tNotM (tE (eCall (fm_law_like 8) (aCons (eOp gAdd (eLst (aCons (eXcF [10, 11, 12, 13, 14, 15, 16, 17, 18, 19, 22, 23, 24, 25, 26, 27, 28, 29, 30, 31, 32, 33, 34, 35, 36, 37, 38, 39] "code" (eV 11)) aNil)) (eV 12)) (aCons (eLst (aCons (eC (.str "NothingLeft")) (aCons (eC (.bl true)) (aCons (eC (.bl false)) (aCons (eC (.bl false)) aNil))))) aNil))))) (sRet (eC (.bl false))) sNil
@[irreducible] def lw_11 (Pt : Addr) : SM := sSeq (sSet 12 (eLst (aCons (eCallB (gIsiX (isxT isxl)) (aCons (eOp gIx (eV 10) (eC (.int 0))) (aCons (eC (.cls 21)) aNil))) (aCons (eCallB (gIsiX (isxT isxl)) (aCons (eOp gIx (eV 10) (eC (.int 0))) (aCons (eC (.cls 20)) aNil))) (aCons (eCallB (gIsiX (isxT isxl)) (aCons (eV 11) (aCons (eC (.cls 20)) aNil))) aNil))))) (lw_12 Pt)
@[irreducible] def lw_10 (Pt : Addr) : SM := sSeq (sIf (tNotM (tE (eCall (fm_law_like 8) (aCons (eLc [15] (iSeq (eV 10)) (.nm 15) tYesM (eLst (aCons (eXcF [10, 11, 12, 13, 14, 15, 16, 17, 18, 19, 22, 23, 24, 25, 26, 27, 28, 29, 30, 31, 32, 33, 34, 35, 36, 37, 38, 39] "code" (eV 15)) (aCons (eXcF [32, 33, 34, 39] "name" (eV 15)) aNil)))) (aCons (eOp gMul (eLst (aCons (eLst (aCons (eC (.str "UnknownName")) (aCons (eV 3) aNil))) aNil)) (eC (.int 2))) aNil))))) (sRet (eC (.bl false))) sNil) (lw_11 Pt)
@[irreducible] def lw_9 (Pt : Addr) : SM := sSeq (sPar 10 11 (aCons (eLst (aCons (eExcV 39 1 0 1 [0] [("name", .inl 0), ("code", .inr "UnknownName")] (aCons (eV 3) aNil) aNil) (aCons (eExcV 39 0 1 1 [0] [("name", .inl 0), ("code", .inr "UnknownName")] aNil (aCons (eV 3) aNil)) aNil))) (aCons (eExcV 22 0 0 0 [] [("code", .inr "NothingLeft")] aNil aNil) aNil))) (lw_10 Pt)
@[irreducible] def lw_8 (Pt : Addr) : SM := sSeq (sIf (tNotM (tE (eCallB gAll (aCons (eLc [15, 7] (iSeq (eV 9)) (.tp ((.nm 15) :: ((.nm 7) :: []))) tYesM (eCall fm_law_made_right (aCons (eV 15) (aCons (eV 7) (aCons (eTup aNil) aNil))))) aNil)))) (sRet (eC (.bl false))) sNil) (lw_9 Pt)
@[irreducible] def lw_7 (Pt : Addr) : SM := sSeq (sSet 9 (eLst (aCons (eTup (aCons (eExcV 17 0 0 0 [] [("code", .inr "InvalidText")] aNil aNil) (aCons (eC (.str "InvalidText")) aNil))) (aCons (eTup (aCons (eExcV 18 0 0 0 [] [("code", .inr "InvalidAutomaton")] aNil aNil) (aCons (eC (.str "InvalidAutomaton")) aNil))) (aCons (eTup (aCons (eExcV 24 0 0 0 [] [("code", .inr "InvalidPair")] aNil aNil) (aCons (eC (.str "InvalidPair")) aNil))) (aCons (eTup (aCons (eExcV 25 0 0 0 [] [("code", .inr "InvalidBook")] aNil aNil) (aCons (eC (.str "InvalidBook")) aNil))) (aCons (eTup (aCons (eExcV 27 0 0 0 [] [("code", .inr "AlphabetsDiffer")] aNil aNil) (aCons (eC (.str "AlphabetsDiffer")) aNil))) aNil))))))) (lw_8 Pt)
@[irreducible] def lw_6 (Pt : Addr) : SM := sSeq (sIf (tNotM (tE (eCallB gAll (aCons (eLc [15] (iSeq (eV 8)) (.nm 15) tYesM (eCall fm_law_made_right (aCons (eV 15) (aCons (eC (.str "TooMany")) (aCons (eTup (aCons (eV 3) (aCons (eV 4) aNil))) aNil))))) aNil)))) (sRet (eC (.bl false))) sNil) (lw_7 Pt)
@[irreducible] def lw_5 (Pt : Addr) : SM := sSeq (sSet 8 (eLst (aCons (eExcV 31 2 0 2 [0, 1] [("subject", .inl 0), ("most", .inl 1), ("code", .inr "TooMany")] (aCons (eV 3) (aCons (eV 4) aNil)) aNil) (aCons (eExcV 31 0 2 2 [1, 0] [("subject", .inl 0), ("most", .inl 1), ("code", .inr "TooMany")] aNil (aCons (eV 4) (aCons (eV 3) aNil))) aNil)))) (lw_6 Pt)
@[irreducible] def lw_4 (Pt : Addr) : SM := sIf (tOrM (tNotM (tE (eCall fm_law_made_right (aCons (eV 5) (aCons (eV 7) (aCons (eTup (aCons (eV 3) aNil)) aNil)))))) (tNotM (tE (eCall fm_law_made_right (aCons (eV 6) (aCons (eV 7) (aCons (eTup (aCons (eV 3) aNil)) aNil))))))) (sRet (eC (.bl false))) sNil
@[irreducible] def lw_3 (Pt : Addr) : SM := sSeq (sFor (iSeq (eCall fm_law_given (aCons (eV 3) aNil))) (.tp ((.nm 5) :: ((.nm 6) :: ((.nm 7) :: [])))) (lw_4 Pt)) (lw_5 Pt)
@[irreducible] def lw_2 (Pt : Addr) : SM := sSeq (sAsg (.tp ((.nm 3) :: ((.nm 4) :: []))) (eTup (aCons (eCall fm_law_of (aCons (eV 1) (aCons (eLst (aCons (eC (.int 0)) (aCons (eC (.str "ab")) (aCons (eTup (aCons (eC (.int 1)) (aCons (eC (.int 2)) aNil))) (aCons (eTup aNil) (aCons (eC .non) (aCons (eOp gPow (eC (.int 10)) (eC (.int 30))) (aCons (eCall fm_law_pick (aCons (eV 1) (aCons (eC (.int 99)) aNil))) aNil)))))))) aNil))) (aCons (eCall fm_law_pick (aCons (eV 1) (aCons (eOp gPow (eC (.int 10)) (eC (.int 6))) aNil))) aNil)))) (lw_3 Pt)
@[irreducible] def lw_1 (Pt : Addr) : SM := sSeq (sFor (iRng1M (aCons (eC (.int 3)) aNil)) (.nm 2) (lw_2 Pt)) (lw_13 Pt)
@[irreducible] def lw_0 (Pt : Addr) : SM := sSeq (sSet 1 (eCall fm_law_hand (aCons (eV 0) aNil))) (lw_1 Pt)
theorem lw_all (Pt : Addr) : sm_law Pt = lw_0 Pt := by with_unfolding_all rfl
end L3

set_option Elab.async false
set_option linter.all false
set_option maxRecDepth 100000
set_option maxHeartbeats 4000000
namespace L3
open PySem PySem.Spec PyProof.Rows L2 NdefX LamX
/-! ### errors made by hand -/
abbrev EKs : List Nat := [10, 11, 12, 13, 14, 15, 16, 17, 18, 19, 22, 23, 24, 25, 26, 27, 28, 29, 30, 31, 32, 33, 34, 35, 36, 37, 38, 39]
def ex1 (k : Nat) (f c : Str) (d : D) : D := .exc k [("code", .str c), (f, d)]
def ex0 (k : Nat) (c : Str) : D := .exc k [("code", .str c)]
def ex2 (d e : D) : D := .exc 31 [("code", .str "TooMany"), ("most", e), ("subject", d)]
def kfcs : List (Nat × Str × Str) := [(10, "given", "InvalidAlphabet"), (11, "given", "InvalidLetter"), (12, "given", "InvalidColor"), (13, "given", "InvalidWord"), (14, "given", "InvalidRow"), (15, "given", "InvalidCount"), (23, "given", "InvalidBag"), (26, "given", "InvalidFar"), (30, "given", "NotThere"), (16, "path", "InvalidPattern"), (29, "row", "NotEven"), (19, "at", "InvalidEntry"), (28, "at", "LotsDiffer"), (32, "name", "InvalidName"), (33, "name", "WrongKind"), (34, "name", "DuplicateName"), (35, "most", "Full"), (36, "user", "InUse"), (37, "word", "InvalidCommand"), (38, "line", "InvalidPage")]
def givenL (d : D) : List D := kfcs.map fun p => .tup [ex1 p.1 p.2.1 p.2.2 d, ex1 p.1 p.2.1 p.2.2 d, .str p.2.2]
def bareL : List D := [.tup [ex0 17 "InvalidText", .str "InvalidText"], .tup [ex0 18 "InvalidAutomaton", .str "InvalidAutomaton"], .tup [ex0 24 "InvalidPair", .str "InvalidPair"], .tup [ex0 25 "InvalidBook", .str "InvalidBook"], .tup [ex0 27 "AlphabetsDiffer", .str "AlphabetsDiffer"]]
section
variable {S : Store} {d e : D}
theorem given_ok : fm_law_given [.v d] S = .ok (.v (.lst (givenL d))) S := by kernel_rfl
theorem field_10 : fm_law_field [.v (ex1 10 "given" "InvalidAlphabet" d)] S = .ok (.v (.tup [d])) S := by kernel_rfl
theorem field_11 : fm_law_field [.v (ex1 11 "given" "InvalidLetter" d)] S = .ok (.v (.tup [d])) S := by kernel_rfl
theorem field_12 : fm_law_field [.v (ex1 12 "given" "InvalidColor" d)] S = .ok (.v (.tup [d])) S := by kernel_rfl
theorem field_13 : fm_law_field [.v (ex1 13 "given" "InvalidWord" d)] S = .ok (.v (.tup [d])) S := by kernel_rfl
theorem field_14 : fm_law_field [.v (ex1 14 "given" "InvalidRow" d)] S = .ok (.v (.tup [d])) S := by kernel_rfl
theorem field_15 : fm_law_field [.v (ex1 15 "given" "InvalidCount" d)] S = .ok (.v (.tup [d])) S := by kernel_rfl
theorem field_23 : fm_law_field [.v (ex1 23 "given" "InvalidBag" d)] S = .ok (.v (.tup [d])) S := by kernel_rfl
theorem field_26 : fm_law_field [.v (ex1 26 "given" "InvalidFar" d)] S = .ok (.v (.tup [d])) S := by kernel_rfl
theorem field_30 : fm_law_field [.v (ex1 30 "given" "NotThere" d)] S = .ok (.v (.tup [d])) S := by kernel_rfl
theorem field_16 : fm_law_field [.v (ex1 16 "path" "InvalidPattern" d)] S = .ok (.v (.tup [d])) S := by kernel_rfl
theorem field_29 : fm_law_field [.v (ex1 29 "row" "NotEven" d)] S = .ok (.v (.tup [d])) S := by kernel_rfl
theorem field_19 : fm_law_field [.v (ex1 19 "at" "InvalidEntry" d)] S = .ok (.v (.tup [d])) S := by kernel_rfl
theorem field_28 : fm_law_field [.v (ex1 28 "at" "LotsDiffer" d)] S = .ok (.v (.tup [d])) S := by kernel_rfl
theorem field_32 : fm_law_field [.v (ex1 32 "name" "InvalidName" d)] S = .ok (.v (.tup [d])) S := by kernel_rfl
theorem field_33 : fm_law_field [.v (ex1 33 "name" "WrongKind" d)] S = .ok (.v (.tup [d])) S := by kernel_rfl
theorem field_34 : fm_law_field [.v (ex1 34 "name" "DuplicateName" d)] S = .ok (.v (.tup [d])) S := by kernel_rfl
theorem field_35 : fm_law_field [.v (ex1 35 "most" "Full" d)] S = .ok (.v (.tup [d])) S := by kernel_rfl
theorem field_36 : fm_law_field [.v (ex1 36 "user" "InUse" d)] S = .ok (.v (.tup [d])) S := by kernel_rfl
theorem field_37 : fm_law_field [.v (ex1 37 "word" "InvalidCommand" d)] S = .ok (.v (.tup [d])) S := by kernel_rfl
theorem field_38 : fm_law_field [.v (ex1 38 "line" "InvalidPage" d)] S = .ok (.v (.tup [d])) S := by kernel_rfl
theorem field_17 : fm_law_field [.v (ex0 17 "InvalidText")] S = .ok (.v (.tup [])) S := by kernel_rfl
theorem field_18 : fm_law_field [.v (ex0 18 "InvalidAutomaton")] S = .ok (.v (.tup [])) S := by kernel_rfl
theorem field_24 : fm_law_field [.v (ex0 24 "InvalidPair")] S = .ok (.v (.tup [])) S := by kernel_rfl
theorem field_25 : fm_law_field [.v (ex0 25 "InvalidBook")] S = .ok (.v (.tup [])) S := by kernel_rfl
theorem field_27 : fm_law_field [.v (ex0 27 "AlphabetsDiffer")] S = .ok (.v (.tup [])) S := by kernel_rfl
theorem field_31 : fm_law_field [.v (ex2 d e)] S = .ok (.v (.tup [d, e])) S := by kernel_rfl
end
section
variable {ρ : Env} {S S1 : Store} {ma : EM}
theorem eXcF_of {ks : List Nat} {f : Str} {k : Nat} {fs : List (Str × D)} {d : D} (h : ma ρ S = .ok (.v (.exc k fs)) S1) (hk : ks.contains k = true) (hd : fs.lookup f = some d) : eXcF ks f ma ρ S = .ok (.v d) S1 := by
  unfold eXcF
  rw [h, R.bind_ok]
  simp only [hk, if_true, hd]
theorem isx_of {mb : EM} {k c : Nat} {fs : List (Str × D)} {b : Bool} (h : ma ρ S = .ok (.v (.exc k fs)) S) (h2 : mb ρ S = .ok (.v (.cls c)) S) (hi : isxT isxl k c = some b) : eCallB (gIsiX (isxT isxl)) (aCons ma (aCons mb aNil)) ρ S = .ok (.v (.bl b)) S := by
  refine eCallB_of (aCons_of h (aCons_of h2 rfl)) ?_
  unfold gIsiX
  simp only [hi]
  rfl
end
section
variable {S : Store}
theorem right_of {k : Nat} {fs : List (Str × D)} {c : Str} {due : List D} (hk : EKs.contains k = true) (hc : fs.lookup ("code" : Str) = some (D.str c)) (hf : fm_law_field [.v (.exc k fs)] S = .ok (.v (.tup due)) S) (hi : isxT isxl k 20 = some true) (hp : plainN 8 (.lst [.str c, .tup due]) = true) :
    fm_law_made_right [.v (.exc k fs), .v (.str c), .v (.tup due)] S = .ok (.v (.bl true)) S := by
  refine fm_of rfl ?_
  show sm_law_made_right [some (.v (.exc k fs)), some (.v (.str c)), some (.v (.tup due))] S = _
  unfold sm_law_made_right
  refine sRet_of (eAnd_t (like_test (T := .lst [.str c, .tup due]) (S1 := S) (S2 := S) ?_ rfl hp) (isx_of rfl rfl hi))
  exact eLst_of (aCons_of (eXcF_of rfl hk hc) (aCons_of (eCall_of rfl hf) rfl)) rfl (Nat.le_of_ble_eq_true rfl)
theorem pl8 {c : Str} {due : List D} (hl : due.length ≤ 1000000) (h : ∀ x ∈ due, plainN 6 x = true) : plainN 8 (.lst [.str c, .tup due]) = true := by
  have : plainN 7 (.tup due) = true := by
    show (decide (due.length ≤ 1000000) && due.all (plainN 6)) = true
    rw [decide_eq_true hl, List.all_eq_true.mpr h]; rfl
  show (decide (2 ≤ 1000000) && (plainN 7 (.str c) && (plainN 7 (.tup due) && true))) = true
  rw [this]; rfl
theorem right1 {d : D} (hd : plainN 6 d = true) : ∀ p ∈ kfcs, fm_law_made_right [.v (ex1 p.1 p.2.1 p.2.2 d), .v (.str p.2.2), .v (.tup [d])] S = .ok (.v (.bl true)) S := by
  intro p hp
  have pp : ∀ c : Str, plainN 8 (.lst [.str c, .tup [d]]) = true := fun c => pl8 (Nat.le_of_ble_eq_true rfl) fun x hx => by rw [List.mem_singleton.mp hx]; exact hd
  simp only [kfcs, List.mem_cons, List.not_mem_nil, or_false] at hp
  rcases hp with rfl | rfl | rfl | rfl | rfl | rfl | rfl | rfl | rfl | rfl | rfl | rfl | rfl | rfl | rfl | rfl | rfl | rfl | rfl | rfl
  · exact right_of (by decide) (by kernel_rfl) field_10 (by decide) (pp _)
  · exact right_of (by decide) (by kernel_rfl) field_11 (by decide) (pp _)
  · exact right_of (by decide) (by kernel_rfl) field_12 (by decide) (pp _)
  · exact right_of (by decide) (by kernel_rfl) field_13 (by decide) (pp _)
  · exact right_of (by decide) (by kernel_rfl) field_14 (by decide) (pp _)
  · exact right_of (by decide) (by kernel_rfl) field_15 (by decide) (pp _)
  · exact right_of (by decide) (by kernel_rfl) field_23 (by decide) (pp _)
  · exact right_of (by decide) (by kernel_rfl) field_26 (by decide) (pp _)
  · exact right_of (by decide) (by kernel_rfl) field_30 (by decide) (pp _)
  · exact right_of (by decide) (by kernel_rfl) field_16 (by decide) (pp _)
  · exact right_of (by decide) (by kernel_rfl) field_29 (by decide) (pp _)
  · exact right_of (by decide) (by kernel_rfl) field_19 (by decide) (pp _)
  · exact right_of (by decide) (by kernel_rfl) field_28 (by decide) (pp _)
  · exact right_of (by decide) (by kernel_rfl) field_32 (by decide) (pp _)
  · exact right_of (by decide) (by kernel_rfl) field_33 (by decide) (pp _)
  · exact right_of (by decide) (by kernel_rfl) field_34 (by decide) (pp _)
  · exact right_of (by decide) (by kernel_rfl) field_35 (by decide) (pp _)
  · exact right_of (by decide) (by kernel_rfl) field_36 (by decide) (pp _)
  · exact right_of (by decide) (by kernel_rfl) field_37 (by decide) (pp _)
  · exact right_of (by decide) (by kernel_rfl) field_38 (by decide) (pp _)
theorem rightT {d e : D} (hd : plainN 6 d = true) (he : plainN 6 e = true) : fm_law_made_right [.v (ex2 d e), .v (.str "TooMany"), .v (.tup [d, e])] S = .ok (.v (.bl true)) S := right_of (by decide) (by kernel_rfl) field_31 (by decide) (pl8 (Nat.le_of_ble_eq_true rfl) fun x hx => by
  simp only [List.mem_cons, List.not_mem_nil, or_false] at hx
  rcases hx with rfl | rfl <;> assumption)
theorem right_17 : fm_law_made_right [.v (ex0 17 "InvalidText"), .v (.str "InvalidText"), .v (.tup [])] S = .ok (.v (.bl true)) S := right_of (by decide) (by kernel_rfl) field_17 (by decide) (pl8 (Nat.le_of_ble_eq_true rfl) fun x hx => by cases hx)
theorem right_18 : fm_law_made_right [.v (ex0 18 "InvalidAutomaton"), .v (.str "InvalidAutomaton"), .v (.tup [])] S = .ok (.v (.bl true)) S := right_of (by decide) (by kernel_rfl) field_18 (by decide) (pl8 (Nat.le_of_ble_eq_true rfl) fun x hx => by cases hx)
theorem right_24 : fm_law_made_right [.v (ex0 24 "InvalidPair"), .v (.str "InvalidPair"), .v (.tup [])] S = .ok (.v (.bl true)) S := right_of (by decide) (by kernel_rfl) field_24 (by decide) (pl8 (Nat.le_of_ble_eq_true rfl) fun x hx => by cases hx)
theorem right_25 : fm_law_made_right [.v (ex0 25 "InvalidBook"), .v (.str "InvalidBook"), .v (.tup [])] S = .ok (.v (.bl true)) S := right_of (by decide) (by kernel_rfl) field_25 (by decide) (pl8 (Nat.le_of_ble_eq_true rfl) fun x hx => by cases hx)
theorem right_27 : fm_law_made_right [.v (ex0 27 "AlphabetsDiffer"), .v (.str "AlphabetsDiffer"), .v (.tup [])] S = .ok (.v (.bl true)) S := right_of (by decide) (by kernel_rfl) field_27 (by decide) (pl8 (Nat.le_of_ble_eq_true rfl) fun x hx => by cases hx)
end
abbrev St (Pt : Addr) (h : Hand) : Store := [.tab Pt qLam, Hand.mo h]
def menu66 (r : Int) : List D := [.int 0, .str "ab", .tup [.int 1, .int 2], .tup [], .non, .int 1000000000000000000000000000000, .int r]
theorem menu66_plain {r : Int} {d : D} (h : d ∈ menu66 r) : plainN 6 d = true := by
  simp only [menu66, List.mem_cons, List.not_mem_nil, or_false] at h
  rcases h with rfl | rfl | rfl | rfl | rfl | rfl | rfl <;> rfl
section
variable {Pt : Addr} {ns : List Int} {h : Hand} {o2 o3 o4 o5 o6 o7 o8 o9 o10 o11 o12 o13 o14 o15 : Option A}
theorem pickS {k : Int} (ho : h.ok) (hk : 0 < k) (hk2 : k < 1073741824) : ∃ r h', (∀ xs : List A, xs = [.m 1, .v (.int k)] → fm_law_pick xs (St Pt h) = .ok (.v (.int r)) (St Pt h')) ∧ 0 ≤ r ∧ r < k ∧ h'.ok := by
  obtain ⟨r, h', e, r0, r1, o⟩ := pick_ok (S := St Pt h) (n := 1) ho rfl hk hk2
  exact ⟨r, h', fun xs hx => by rw [hx]; exact e, r0, r1, o⟩
theorem ofS {xs : List D} (ho : h.ok) (hx : xs ≠ []) (hl : xs.length < 1000000) : ∃ d h', fm_law_of [.m 1, .v (.lst xs)] (St Pt h) = .ok (.v d) (St Pt h') ∧ d ∈ xs ∧ h'.ok := ofL_ok (S := St Pt h) (n := 1) ho rfl hx hl
theorem pairs_ok {d e : D} {z B C : Env → Store → Prop} (hd : plainN 6 d = true) (k : ∀ o5 o6 o7, z [some (.v (.fz (intsD ns))), some (.m 1), o2, some (.v d), some (.v e), o5, o6, o7, o8, o9, o10, o11, o12, o13, o14, o15] (St Pt h)) :
    (sFor (iSeq (eCall fm_law_given (aCons (eV 3) aNil))) (.tp ((.nm 5) :: ((.nm 6) :: ((.nm 7) :: [])))) (lw_4 Pt) [some (.v (.fz (intsD ns))), some (.m 1), o2, some (.v d), some (.v e), o5, o6, o7, o8, o9, o10, o11, o12, o13, o14, o15] (St Pt h)).sa z (fun a _ => a = .v (.bl true)) B C noX := by
  refine sa_for (ds := givenL d) (S1 := St Pt h) (I := fun _ ρ S => ∃ o5 o6 o7, ρ = [some (.v (.fz (intsD ns))), some (.m 1), o2, some (.v d), some (.v e), o5, o6, o7, o8, o9, o10, o11, o12, o13, o14, o15] ∧ S = St Pt h) (iSeq_of (eCall_of rfl given_ok)) ⟨_, _, _, rfl, rfl⟩ ?_ ?_
  · rintro don x rest ρ S q ⟨o5, o6, o7, rfl, rfl⟩
    obtain ⟨p, hp, rfl⟩ : ∃ p ∈ kfcs, .tup [ex1 p.1 p.2.1 p.2.2 d, ex1 p.1 p.2.1 p.2.2 d, .str p.2.2] = x := by
      have : x ∈ givenL d := by rw [q]; simp
      exact List.mem_map.mp this
    refine ⟨[some (.v (.fz (intsD ns))), some (.m 1), o2, some (.v d), some (.v e), some (.v (ex1 p.1 p.2.1 p.2.2 d)), some (.v (ex1 p.1 p.2.1 p.2.2 d)), some (.v (.str p.2.2)), o8, o9, o10, o11, o12, o13, o14, o15], rfl, ?_⟩
    unfold lw_4
    have r1 := right1 (S := St Pt h) hd p hp
    have t1 : ∀ i, (i = 5 ∨ i = 6) → tNotM (tE (eCall fm_law_made_right (aCons (eV i) (aCons (eV 7) (aCons (eTup (aCons (eV 3) aNil)) aNil))))) [some (.v (.fz (intsD ns))), some (.m 1), o2, some (.v d), some (.v e), some (.v (ex1 p.1 p.2.1 p.2.2 d)), some (.v (ex1 p.1 p.2.1 p.2.2 d)), some (.v (.str p.2.2)), o8, o9, o10, o11, o12, o13, o14, o15] (St Pt h) = .ok false (St Pt h) := fun i hi => by
      refine tNot_t (tE_b (eCall_of (xs := [.v (ex1 p.1 p.2.1 p.2.2 d), .v (.str p.2.2), .v (.tup [d])]) (S1 := St Pt h) ?_ r1))
      rcases hi with rfl | rfl
      · exact aCons_of rfl (aCons_of rfl (aCons_of (eTup_of (aCons_of rfl rfl) rfl (Nat.le_of_ble_eq_true rfl)) rfl))
      · exact aCons_of rfl (aCons_of rfl (aCons_of (eTup_of (aCons_of rfl rfl) rfl (Nat.le_of_ble_eq_true rfl)) rfl))
    refine sa_if (b := false) (S1 := St Pt h) ?_ (sa_nil ⟨_, _, _, rfl, rfl⟩)
    have := tOr_of (t1 5 (.inl rfl)) (fun _ => t1 6 (.inr rfl))
    exact this
  · rintro ρ S ⟨o5, o6, o7, rfl, rfl⟩
    exact k _ _ _
theorem all_true {ma : EM} {ρ : Env} {S : Store} {n : Nat} (h : ma ρ S = .ok (.v (.lst (List.replicate n (.bl true)))) S) : eCallB gAll (aCons ma aNil) ρ S = .ok (.v (.bl true)) S := by
  refine eCallB_of (aCons_of h rfl) ?_
  show (asBl (List.replicate n (.bl true))).map _ = _
  have : List.replicate n (D.bl true) = ((List.replicate n D.non).map fun _ => D.bl true) := by simp
  rw [this]
  exact asBl_true
theorem both_ok {d e : D} (hd : plainN 6 d = true) (he : plainN 6 e = true) : eLc [15] (iSeq (eV 8)) (.nm 15) tYesM (eCall fm_law_made_right (aCons (eV 15) (aCons (eC (.str "TooMany")) (aCons (eTup (aCons (eV 3) (aCons (eV 4) aNil))) aNil)))) [some (.v (.fz (intsD ns))), some (.m 1), o2, some (.v d), some (.v e), o5, o6, o7, some (.v (D.lst [ex2 d e, ex2 d e])), o9, o10, o11, o12, o13, o14, o15] (St Pt h) = .ok (.v (.lst (List.replicate 2 (.bl true)))) (St Pt h) := by
  refine (eLc_map (own := [15]) (g := .nm 15) (t := tYesM) (ds := [ex2 d e, ex2 d e]) (fun _ => .bl true) (iSeq_of rfl) (by simp) (fun x hx Z => ?_)).trans rfl
  have ex : x = ex2 d e := by simpa using hx
  subst ex
  refine ⟨_, rfl, rfl, ?_⟩
  exact eCall_of (aCons_of rfl (aCons_of rfl (aCons_of (eTup_of (aCons_of rfl (aCons_of rfl rfl)) rfl (Nat.le_of_ble_eq_true rfl)) rfl))) (rightT hd he)
theorem bare_ok {d e : D} : eLc [15, 7] (iSeq (eV 9)) (.tp ((.nm 15) :: ((.nm 7) :: []))) tYesM (eCall fm_law_made_right (aCons (eV 15) (aCons (eV 7) (aCons (eTup aNil) aNil)))) [some (.v (.fz (intsD ns))), some (.m 1), o2, some (.v d), some (.v e), o5, o6, o7, some (.v (D.lst [ex2 d e, ex2 d e])), some (.v (.lst bareL)), o10, o11, o12, o13, o14, o15] (St Pt h) = .ok (.v (.lst (List.replicate 5 (.bl true)))) (St Pt h) := by
  refine (eLc_map (own := [15, 7]) (g := .tp ((.nm 15) :: ((.nm 7) :: []))) (t := tYesM) (ds := bareL) (fun _ => .bl true) (iSeq_of rfl) (by decide) (fun x hx Z => ?_)).trans rfl
  simp only [bareL, List.mem_cons, List.not_mem_nil, or_false] at hx
  rcases hx with rfl | rfl | rfl | rfl | rfl
  · exact ⟨_, rfl, rfl, eCall_of (aCons_of rfl (aCons_of rfl (aCons_of rfl rfl))) right_17⟩
  · exact ⟨_, rfl, rfl, eCall_of (aCons_of rfl (aCons_of rfl (aCons_of rfl rfl))) right_18⟩
  · exact ⟨_, rfl, rfl, eCall_of (aCons_of rfl (aCons_of rfl (aCons_of rfl rfl))) right_24⟩
  · exact ⟨_, rfl, rfl, eCall_of (aCons_of rfl (aCons_of rfl (aCons_of rfl rfl))) right_25⟩
  · exact ⟨_, rfl, rfl, eCall_of (aCons_of rfl (aCons_of rfl (aCons_of rfl rfl))) right_27⟩
theorem lost_ok {d e : D} : eLc [15] (iSeq (eV 10)) (.nm 15) tYesM (eLst (aCons (eXcF EKs "code" (eV 15)) (aCons (eXcF [32, 33, 34, 39] "name" (eV 15)) aNil))) [some (.v (.fz (intsD ns))), some (.m 1), o2, some (.v d), some (.v e), o5, o6, o7, some (.v (D.lst [ex2 d e, ex2 d e])), some (.v (.lst bareL)), some (.v (D.lst [ex1 39 "name" "UnknownName" d, ex1 39 "name" "UnknownName" d])), some (.v (ex0 22 "NothingLeft")), o12, o13, o14, o15] (St Pt h) = .ok (.v (.lst [.lst [.str "UnknownName", d], .lst [.str "UnknownName", d]])) (St Pt h) := by
  refine (eLc_map (own := [15]) (g := .nm 15) (t := tYesM) (ds := [ex1 39 "name" "UnknownName" d, ex1 39 "name" "UnknownName" d]) (fun _ => .lst [.str "UnknownName", d]) (iSeq_of rfl) (by simp) (fun x hx Z => ?_)).trans rfl
  have ex : x = ex1 39 "name" "UnknownName" d := by simpa using hx
  subst ex
  refine ⟨_, rfl, rfl, ?_⟩
  exact eLst_of (aCons_of (eXcF_of rfl (by decide) (by kernel_rfl)) (aCons_of (eXcF_of rfl (by decide) (by kernel_rfl)) rfl)) rfl (Nat.le_of_ble_eq_true rfl)
theorem turn_ok (ho : h.ok) {z B C : Env → Store → Prop} (k : ∀ h o2 o3 o4 o5 o6 o7 o8 o9 o10 o11 o12 o13 o14 o15, Hand.ok h → z [some (.v (.fz (intsD ns))), some (.m 1), o2, o3, o4, o5, o6, o7, o8, o9, o10, o11, o12, o13, o14, o15] (St Pt h)) : (lw_2 Pt [some (.v (.fz (intsD ns))), some (.m 1), o2, o3, o4, o5, o6, o7, o8, o9, o10, o11, o12, o13, o14, o15] (St Pt h)).sa z (fun a _ => a = .v (.bl true)) B C noX := by
  unfold lw_2
  obtain ⟨r, h1, e1, r0, r1, o1⟩ := pickS (Pt := Pt) (k := 99) ho (by decide) (by decide)
  obtain ⟨d, h2, e2, hd, o2'⟩ := ofS (Pt := Pt) (xs := menu66 r) o1 (by simp [menu66]) (by simp [menu66])
  obtain ⟨q, h3, e3, q0, q1, o3'⟩ := pickS (Pt := Pt) (k := 1000000) o2' (by decide) (by decide)
  have pd := menu66_plain hd
  have pe : plainN 6 (.int q) = true := rfl
  have p30 : gPow (.v (.int 10)) (.v (.int 30)) (St Pt h) = some (.v (.int 1000000000000000000000000000000)) := by
    rw [gPow_i (i := 10) (j := 30) ⟨by decide, by decide, by decide, by decide⟩]; rfl
  have p6 : gPow (.v (.int 10)) (.v (.int 6)) (St Pt h2) = some (.v (.int 1000000)) := by
    rw [gPow_i (i := 10) (j := 6) ⟨by decide, by decide, by decide, by decide⟩]; rfl
  refine sa_seq (sa_asg (x := .v (.tup [d, .int q])) (S1 := St Pt h3) (ρ1 := [some (.v (.fz (intsD ns))), some (.m 1), o2, some (.v d), some (.v (.int q)), o5, o6, o7, o8, o9, o10, o11, o12, o13, o14, o15]) ?_ rfl ?_)
  · refine eTup_of (aCons_of (x := .v d) (S1 := St Pt h2) (eCall_of (xs := [.m 1, .v (.lst (menu66 r))]) (S1 := St Pt h1) ?_ e2) (aCons_of (x := .v (.int q)) (S1 := St Pt h3) (eCall_of (xs := [.m 1, .v (.int 1000000)]) (S1 := St Pt h2) (aCons_of rfl (aCons_of (eOp_of rfl rfl p6) rfl)) (e3 _ rfl)) rfl)) rfl (Nat.le_of_ble_eq_true rfl)
    refine aCons_of rfl (aCons_of ?_ rfl)
    refine eLst_of (xs := (menu66 r).map .v) (aCons_of rfl (aCons_of rfl (aCons_of (eTup_of (aCons_of rfl (aCons_of rfl rfl)) rfl (Nat.le_of_ble_eq_true rfl)) (aCons_of rfl (aCons_of rfl (aCons_of (eOp_of rfl rfl p30) (aCons_of (eCall_of rfl (e1 _ rfl)) rfl))))))) rfl (Nat.le_of_ble_eq_true rfl)
  generalize D.int q = e at *
  unfold lw_3
  refine sa_seq (pairs_ok pd fun o5 o6 o7 => ?_)
  unfold lw_5
  refine sa_seq (sa_set (x := .v (D.lst [ex2 d e, ex2 d e])) (S1 := St Pt h3) (by rfl) ?_)
  simp only [List.set_cons_succ, List.set_cons_zero]
  unfold lw_6
  refine sa_seq (sa_if (b := false) (S1 := St Pt h3) (tNot_t (tE_b (all_true (both_ok pd pe)))) (sa_nil ?_))
  unfold lw_7
  refine sa_seq (sa_set (x := .v (.lst bareL)) (S1 := St Pt h3) (by rfl) ?_)
  simp only [List.set_cons_succ, List.set_cons_zero]
  unfold lw_8
  refine sa_seq (sa_if (b := false) (S1 := St Pt h3) (tNot_t (tE_b (all_true bare_ok))) (sa_nil ?_))
  unfold lw_9
  refine sa_seq (sa_par (x := .v (D.lst [ex1 39 "name" "UnknownName" d, ex1 39 "name" "UnknownName" d])) (y := .v (ex0 22 "NothingLeft")) (S1 := St Pt h3) (by rfl) ?_)
  simp only [List.set_cons_succ, List.set_cons_zero]
  unfold lw_10
  refine sa_seq (sa_like (d := .lst [.lst [.str "UnknownName", d], .lst [.str "UnknownName", d]]) (S1 := St Pt h3) (S2 := St Pt h3) lost_ok (eOp_of (eLst_of (aCons_of (eLst_of (aCons_of rfl (aCons_of rfl rfl)) rfl (Nat.le_of_ble_eq_true rfl)) rfl) rfl (Nat.le_of_ble_eq_true rfl)) rfl rfl) ?_ ?_)
  · show (decide (2 ≤ 1000000) && ((decide (2 ≤ 1000000) && (true && (plainN 6 d && true))) && ((decide (2 ≤ 1000000) && (true && (plainN 6 d && true))) && true))) = true
    rw [pd]; rfl
  unfold lw_11
  refine sa_seq (sa_set (x := .v (.lst [.bl true, .bl false, .bl false])) (S1 := St Pt h3) (eLst_of (aCons_of (isx_of (fs := [("code", .str "UnknownName"), ("name", d)]) (eOp_of rfl rfl rfl) rfl (by decide)) (aCons_of (isx_of (fs := [("code", .str "UnknownName"), ("name", d)]) (eOp_of rfl rfl rfl) rfl (by decide)) (aCons_of (isx_of (fs := [("code", .str "NothingLeft")]) rfl rfl (by decide)) rfl))) rfl (Nat.le_of_ble_eq_true rfl)) ?_)
  simp only [List.set_cons_succ, List.set_cons_zero]
  unfold lw_12
  exact sa_like (d := .lst [.str "NothingLeft", .bl true, .bl false, .bl false]) (S1 := St Pt h3) (S2 := St Pt h3) (eOp_of (eLst_of (aCons_of (eXcF_of (fs := [("code", .str "NothingLeft")]) rfl (by decide) (by kernel_rfl)) rfl) rfl (Nat.le_of_ble_eq_true rfl)) rfl rfl) rfl rfl (k _ _ _ _ _ _ _ _ _ _ _ _ _ _ _  o3')
def oddL : List D := [.str "b", .str "", .non, .int 3, .tup [.str "a"]]
theorem tail_ok (ho : h.ok) : (lw_13 Pt [some (.v (.fz (intsD ns))), some (.m 1), o2, o3, o4, o5, o6, o7, o8, o9, o10, o11, o12, o13, o14, o15] (St Pt h)).sa noE (fun a _ => a = .v (.bl true)) noE noE noX := by
  unfold lw_13
  obtain ⟨d, h1, e1, hd, o1⟩ := ofS (Pt := Pt) (xs := oddL) ho (by simp [oddL]) (by simp [oddL])
  refine sa_seq (sa_set (x := .v d) (S1 := St Pt h1) (eCall_of (xs := [.m 1, .v (.lst oddL)]) (S1 := St Pt h) (by rfl) e1) ?_)
  simp only [List.set_cons_succ, List.set_cons_zero]
  have tr : fm_law_try (lmOf [some (.v (.fz (intsD ns))), some (.m 1), o2, o3, o4, o5, o6, o7, o8, o9, o10, o11, o12, some (.v d), o14, o15]) [.v (.fn 0)] (St Pt h1) = .ok (.v (.tup [.str "InvalidLetter", .tup [d]])) (St Pt h1) := by
    simp only [oddL, List.mem_cons, List.not_mem_nil, or_false] at hd
    rcases hd with rfl | rfl | rfl | rfl | rfl <;> kernel_rfl
  have pd : plainN 6 d = true := by
    simp only [oddL, List.mem_cons, List.not_mem_nil, or_false] at hd
    rcases hd with rfl | rfl | rfl | rfl | rfl <;> rfl
  unfold lw_14
  refine sa_seq (sa_set (x := .v (.tup [.str "InvalidLetter", .tup [d]])) (S1 := St Pt h1) (eCallL_of (aCons_of (eLam_of rfl) rfl) tr) ?_)
  simp only [List.set_cons_succ, List.set_cons_zero]
  unfold lw_15
  refine sa_ret (x := .v (.bl true)) (S1 := St Pt h1) (like_test (T := .tup [.str "InvalidLetter", .tup [d]]) rfl (eTup_of (aCons_of rfl (aCons_of (eCall_of (xs := [.v (ex1 11 "given" "InvalidLetter" d)]) (S1 := St Pt h1) (by rfl) field_11) rfl)) rfl (Nat.le_of_ble_eq_true rfl)) ?_) rfl
  show (decide (2 ≤ 1000000) && (true && ((decide (1 ≤ 1000000) && (plainN 6 d && true)) && true))) = true
  rw [pd]; rfl
end
theorem plain_raw (Pt : Addr) (ns : List Int) : (sm_law Pt [some (.v (.fz (intsD ns))), none, none, none, none, none, none, none, none, none, none, none, none, none, none, none] [.tab Pt qLam]).sa noE (fun a _ => a = .v (.bl true)) noE noE noX := by
  rw [lw_all]
  unfold lw_0
  obtain ⟨h0, e0, ho0⟩ := hand_ok (ns := ns) (S := [.tab Pt qLam])
  refine sa_seq (sa_set (x := .m 1) (S1 := (St Pt h0)) (eCall_of rfl e0) ?_)
  unfold lw_1
  refine sa_seq (sa_for (ds := rngD 0 3) (S1 := (St Pt h0)) (I := fun _ ρ S => ∃ h o2 o3 o4 o5 o6 o7 o8 o9 o10 o11 o12 o13 o14 o15, ρ = [some (.v (.fz (intsD ns))), some (.m 1), o2, o3, o4, o5, o6, o7, o8, o9, o10, o11, o12, o13, o14, o15] ∧ S = (St Pt h) ∧ Hand.ok h) (iRng1_of (n := 3) rfl (by decide) (by decide)) ⟨h0, _, _, _, _, _, _, _, _, _, _, _, _, _, _,  rfl, rfl, ho0⟩ ?_ ?_)
  · rintro don d rest ρ S _ ⟨h, o2, o3, o4, o5, o6, o7, o8, o9, o10, o11, o12, o13, o14, o15, rfl, rfl, ho⟩
    exact ⟨_, put_nm, turn_ok ho fun h o2 o3 o4 o5 o6 o7 o8 o9 o10 o11 o12 o13 o14 o15 ho => ⟨h, _, _, _, _, _, _, _, _, _, _, _, _, _, _,  rfl, rfl, ho⟩⟩
  · rintro ρ S ⟨h, o2, o3, o4, o5, o6, o7, o8, o9, o10, o11, o12, o13, o14, o15, rfl, rfl, ho⟩
    exact tail_ok ho
theorem plain (Pt : Addr) : Plain lawN.length (sm_law Pt) Pt qLam := by
  intro ns _ _
  obtain ⟨S', e, _⟩ := sat_eq (Q := fun _ => True) (x := .v (.bl true)) ((plain_raw Pt ns).h.imp (fun _ _ h => h) (fun _ _ h => ⟨h, trivial⟩) (fun _ _ h => h) (fun _ _ h => h) (fun _ _ h => h))
  exact ⟨S', e⟩
end L3

set_option Elab.async false
set_option linter.all false
set_option maxRecDepth 100000
set_option maxHeartbeats 0
namespace L3
open PySem PySem.Spec PyProof.Rows L2
abbrev rowO : PySem.W.OpenRow := PySem.W.OpenLaw.row PySem.Challenge.rw_lotbarter_k66_errors_made_by_hand
abbrev hk : PySem.W.Hook := hookW 5 [mainGlobals, cStatics] okK fns dcons
def ob (s : PySem.W.SharedT) : AlW := obsWG 5 [mainGlobals, cStatics] okK fns dcons (HandSHeadRun.getT s)
theorem ob_eq (s : PySem.W.SharedT) : ob s = hk.obs s.abs := obsWG_eq (HandSHeadRun.getT_eq s)
def names : List PySem.Str := (["_wall", "__name__", "SMALL", "MOST_COLOR", "is_small", "LotError", "Missing", "InvalidAlphabet", "InvalidLetter", "InvalidColor", "InvalidWord", "InvalidRow", "InvalidCount", "InvalidPattern", "InvalidText", "InvalidAutomaton", "InvalidEntry", "InvalidBag", "InvalidPair", "InvalidBook"] : List PySem.Str) ++ (["InvalidFar", "AlphabetsDiffer", "LotsDiffer", "NotEven", "NotThere", "TooMany", "InvalidName", "WrongKind", "DuplicateName", "Full", "InUse", "InvalidCommand", "InvalidPage", "UnknownName", "NothingLeft", "MOST_LETTERS", "are_letters", "are_digits", "Alphabet", "_law_hand"] : List PySem.Str) ++ (["_law_pick", "_law_of", "_law_like", "_law_field", "_law_try", "_law_given", "_law_made_right"] : List PySem.Str)
def okJ0 : PySem.W.Frag → Bool := fun K => (facts.take 0).all fun f => f K
def okJ1 : PySem.W.Frag → Bool := fun K => ((facts.drop 0).take 38).all fun f => f K
def okJ2 : PySem.W.Frag → Bool := fun K => (((facts.drop 0).drop 38).take 38).all fun f => f K
def okJ3 : PySem.W.Frag → Bool := fun K => ((((facts.drop 0).drop 38).drop 38).take 38).all fun f => f K
def okJ4 : PySem.W.Frag → Bool := fun K => (((((facts.drop 0).drop 38).drop 38).drop 38)).all fun f => f K
theorem ok_eq : okK = fun K => ((((okJ0 K && okJ1 K) && okJ2 K) && okJ3 K) && okJ4 K) := by
  funext K
  show facts.all (fun f => f K) = _
  unfold okJ0 okJ1 okJ2 okJ3 okJ4
  rw [all_split 0 facts, all_split 38 (facts.drop 0), all_split 38 ((facts.drop 0).drop 38), all_split 38 (((facts.drop 0).drop 38).drop 38)]
  simp only [Bool.and_assoc]
theorem ob_ok (s : PySem.W.SharedT) : ob s = obsWG 5 [mainGlobals, cStatics] (fun K => ((((okJ0 K && okJ1 K) && okJ2 K) && okJ3 K) && okJ4 K)) fns dcons (HandSHeadRun.getT s) := by
  unfold ob
  rw [ok_eq]
theorem map_pair {α β γ : Type} {o : Option α} {f : α → β} {g : α → γ} {x : β} {y : γ} (h : o.map (fun s => (f s, g s)) = some (x, y)) : o.map f = some x ∧ o.map g = some y := by
  cases o with
  | none => cases h
  | some s =>
    have e : (f s, g s) = (x, y) := Option.some.inj h
    exact ⟨congrArg some (Prod.mk.inj e).1, congrArg some (Prod.mk.inj e).2⟩
open PySem.W HandSHeadRun in
theorem runAB (w : World) : ∀ os : OsState, (endH 30000 rowO.prog w os).map (fun s => (looksF rowO.prog (boot_heap w.params) s.abs, seenQ (PySem.W.view rowO.prog [50]) names (importedModules rowO.prog.main.body) (fun s => xlAt (PySem.W.view rowO.prog [50]) [] s && recOk rowO.toRowW.records s) s.abs)) = some (true, openGood (PySem.W.view rowO.prog [50]) names) := by
  intro os
  kernel_rfl
open PySem.W HandSHeadRun in
theorem runA (w : World) : ∀ os : OsState, (endF (stepQ (denQ tabQ) rowO.prog w) 30000 rowO.prog w os).map (fun s => looksF rowO.prog (boot_heap w.params) s.abs) = some (true) := fun os => by
  rw [endH_eq]
  exact (map_pair (runAB w os)).1
open PySem.W HandSHeadRun in
theorem runB (w : World) : ∀ os : OsState, (endF (stepQ (denQ tabQ) rowO.prog w) 30000 rowO.prog w os).map (fun s => seenQ (PySem.W.view rowO.prog [50]) names (importedModules rowO.prog.main.body) (fun s => xlAt (PySem.W.view rowO.prog [50]) [] s && recOk rowO.toRowW.records s) s.abs) = some (openGood (PySem.W.view rowO.prog [50]) names) := fun os => by
  rw [endH_eq]
  exact (map_pair (runAB w os)).2
open PySem.W HandSHeadRun in
theorem runC0h (w : World) : ∀ os : OsState, (endH 30000 rowO.prog w os).map (fun s => obsWG 5 [mainGlobals, cStatics] okJ0 fns dcons (HandSHeadRun.getT s)) = some (hk.val w) := by
  intro os
  kernel_rfl
open PySem.W HandSHeadRun in
theorem runC0 (w : World) : ∀ os : OsState, (endF (stepQ (denQ tabQ) rowO.prog w) 30000 rowO.prog w os).map (fun s => obsWG 5 [mainGlobals, cStatics] okJ0 fns dcons (HandSHeadRun.getT s)) = some (hk.val w) := fun os => by
  rw [endH_eq]
  exact runC0h w os
open PySem.W HandSHeadRun in
theorem runC1h (w : World) : ∀ os : OsState, (endH 30000 rowO.prog w os).map (fun s => okP 5 [mainGlobals, cStatics] okJ1 (HandSHeadRun.getT s)) = some (true) := by
  intro os
  kernel_rfl
open PySem.W HandSHeadRun in
theorem runC1 (w : World) : ∀ os : OsState, (endF (stepQ (denQ tabQ) rowO.prog w) 30000 rowO.prog w os).map (fun s => okP 5 [mainGlobals, cStatics] okJ1 (HandSHeadRun.getT s)) = some (true) := fun os => by
  rw [endH_eq]
  exact runC1h w os
open PySem.W HandSHeadRun in
theorem runC2h (w : World) : ∀ os : OsState, (endH 30000 rowO.prog w os).map (fun s => okP 5 [mainGlobals, cStatics] okJ2 (HandSHeadRun.getT s)) = some (true) := by
  intro os
  kernel_rfl
open PySem.W HandSHeadRun in
theorem runC2 (w : World) : ∀ os : OsState, (endF (stepQ (denQ tabQ) rowO.prog w) 30000 rowO.prog w os).map (fun s => okP 5 [mainGlobals, cStatics] okJ2 (HandSHeadRun.getT s)) = some (true) := fun os => by
  rw [endH_eq]
  exact runC2h w os
open PySem.W HandSHeadRun in
theorem runC3h (w : World) : ∀ os : OsState, (endH 30000 rowO.prog w os).map (fun s => okP 5 [mainGlobals, cStatics] okJ3 (HandSHeadRun.getT s)) = some (true) := by
  intro os
  kernel_rfl
open PySem.W HandSHeadRun in
theorem runC3 (w : World) : ∀ os : OsState, (endF (stepQ (denQ tabQ) rowO.prog w) 30000 rowO.prog w os).map (fun s => okP 5 [mainGlobals, cStatics] okJ3 (HandSHeadRun.getT s)) = some (true) := fun os => by
  rw [endH_eq]
  exact runC3h w os
open PySem.W HandSHeadRun in
theorem runC4h (w : World) : ∀ os : OsState, (endH 30000 rowO.prog w os).map (fun s => okP 5 [mainGlobals, cStatics] okJ4 (HandSHeadRun.getT s)) = some (true) := by
  intro os
  kernel_rfl
open PySem.W HandSHeadRun in
theorem runC4 (w : World) : ∀ os : OsState, (endF (stepQ (denQ tabQ) rowO.prog w) 30000 rowO.prog w os).map (fun s => okP 5 [mainGlobals, cStatics] okJ4 (HandSHeadRun.getT s)) = some (true) := fun os => by
  rw [endH_eq]
  exact runC4h w os
theorem headRun (w : World) : HandSHeadRun.RunEq rowO (PySem.W.view rowO.prog [50]) hk ob 30000 names w := by
  intro os
  refine map3 (runA w os) (runB w os) ?_
  have e : ob = fun s => obsWG 5 [mainGlobals, cStatics] (fun K => ((((okJ0 K && okJ1 K) && okJ2 K) && okJ3 K) && okJ4 K)) fns dcons (HandSHeadRun.getT s) := funext ob_ok
  rw [e]
  exact map_and (fun s h1 h2 => obs_and h1 h2) (map_and (fun s h1 h2 => obs_and h1 h2) (map_and (fun s h1 h2 => obs_and h1 h2) (map_and (fun s h1 h2 => obs_and h1 h2) (runC0 w os) (runC1 w os)) (runC2 w os)) (runC3 w os)) (runC4 w os)
end L3
open PySem PySem.W PySem.Calls PyProof.Rows
theorem PySem.Challenge.cw_lotbarter_k66_errors_made_by_hand_holds : PySem.Challenge.rw_lotbarter_k66_errors_made_by_hand.Holds := by
  w_on; o_law
  refine HandSHeadRun.head_any (r := OpenLaw.row PySem.Challenge.rw_lotbarter_k66_errors_made_by_hand) (q := view (OpenLaw.row PySem.Challenge.rw_lotbarter_k66_errors_made_by_hand).prog [50]) (H := L3.hk) (ob := L3.ob) (M := 30000) (loose := L3.names) (d := HandSHeadRun.topDef (OpenLaw.row PySem.Challenge.rw_lotbarter_k66_errors_made_by_hand).prog 50) (kwd := []) L3.ob_eq
    (by kernel_rfl) (fun s => by kernel_rfl) L3.headRun (by kernel_rfl) (by kernel_rfl) (by kernel_rfl) (by rfl) (by first | assumption | decide +kernel) (by decide +kernel) ⟨rfl, rfl, rfl, rfl, rfl, by decide +kernel⟩ ?hw ?hc
  case hw => w_witness2
  case hc =>
    refine LamX.walk_ofTsE (l := PySem.Challenge.rw_lotbarter_k66_errors_made_by_hand) (n := 63) (k := L3.KLAW) (x := "_law_script") (CX := fun w => L2.CX (PySem.Challenge.rw_lotbarter_k66_errors_made_by_hand).prog w) rfl (by decide) (by kernel_rfl) ⟨rfl, by decide, by decide⟩ ?F (fun _ _ _ _ _ z => by simpa [L2.CX] using z)
    intro w mg fa h Y G hmg0
    obtain ⟨K, c, Pt, z⟩ := Y
    have hmg : mg ("law" : PySem.Str) = some (.ref fa) := by
      have e : (HandSHeadRun.topDef (OpenLaw.row PySem.Challenge.rw_lotbarter_k66_errors_made_by_hand).prog 50).name = ("law" : PySem.Str) := by kernel_rfl
      rw [← e]
      exact hmg0
    have e := hmg.symm.trans (L3.law_glo z G)
    cases e
    obtain ⟨oc, od, osl, kV, doc, pm, an, ct, lk, hcd⟩ := L3.law_get z.u 15 (d := L3.f_law) rfl rfl
    exact ⟨K, z.u.kin, _, [(c, Pt)], L3.spLaw K Pt, fun p hp => by cases List.mem_singleton.mp hp; exact z.u.tab, fun p hp => by cases List.mem_singleton.mp hp; exact z.u.no, fun p hp => by cases List.mem_singleton.mp hp; exact z.u.hd,
      fun s u => .of_eq rfl, fun H a ns h1 h2 h3 h4 => ⟨a, ns, rfl, h1, h2, h4, z.u.no, h3 _ (List.mem_singleton.mpr rfl), fun _ => rfl⟩,
      fun base kb nb tb => by
        obtain ⟨g, _⟩ := L3.g_of z G
        exact L3.ok_law g (tb _ (List.mem_singleton.mpr rfl)) L3.plain lk hcd⟩
