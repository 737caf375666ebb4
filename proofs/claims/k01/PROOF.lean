import PyProof.Rows.All
import Wide.All
import OpenK.AllK
import Wide.FinOn
import HandS.ForMost
import HandS.Wide
import HandS.EndBits
import HandS.Zip
import HandS.IsInst
import HandS.Defaults
import HandS.MakeKwOnly
import HandS.Property
import HandS.ExcInit
import HandS.OwnEq
import HandS.Lambda
import KE.KDictKeyed
import HandS.Exc
import HandS.WordsExc
import HandS.TupAny
import HandS.Flow
import HandS.Style
import KE.KOpsOwn
import KE.GoesEnum
import HandS.NoneIn
import HandS.ExcIs
import HandS.ExcField
import HandS.TryMany
import HandS.ExcOwn
import HandS.Text
import PyProof.StrOps2
import HandS.Iter
import HandS.TupMul
import HandS.RaiseMore
import KE.GoesMore
import HandS.TupLe
import HandS.More
import OpenK.KMeth
import OpenK.KOps
import KE.KCallOwn
import HandS.Conv
import HandS.MakeKw
import PyProof.Rows.Range3
import HandS.Dict
import HandS.Small
import HandS.DictComp
import HandS.SortInts
import HandS.ListItems
import HandS.WordsDict
import HandS.Star
import HandS.EndTab
import HandS.NestedK
import KE.KNestM
import HandS.StrMore
import HandS.FStr
import HandS.ReplaceLit
import HandS.Replace
import HandS.ReplaceList
import KE.KExcInit
import HandS.Records
import HandS.TryOnly
import HandS.DictTup
import HandS.HeadHook3
import PyProof.NeKinds
import PyProof.AutoSeq1
import KE.KUnpackStar
import KE.DataEq
import PyProof.Rows.StrRev
import HandS.ExcCtx
import HandS.SuiteRaise
import HandS.RaiseFrom
import HandS.ExcInitHot
import KE.GoesRaise
import KE.KEqDict
import KE.KItemsList
import HandS.ClsMeth
import HandS.CallSlots
import KE.KDictZip
import KE.KStateDown
import HandS.Head0
import HandS.Head1
import HandS.Head2
import HandS.HeadEnd
import HandS.HeadHook1
import HandS.HeadHook2
import PySem.Challenge.RW_clashcounts_k01_errors
set_option Elab.async false
set_option linter.all false
set_option maxRecDepth 100000
set_option maxHeartbeats 1000000
namespace Dl
open PySem L2
structure LamF where
  q : Str
  ps : Arguments
  b : Expr
  sc : Scope
def LamO (f : Addr) (F : LamF) (c : Addr) : HO := .ext fun h => ∃ pm ctv : Value, h.get? f = some (PySem.W.kla_obj "<lambda>" F.q F.ps F.b F.sc [] pm c ctv)
inductive D where
  | non | bl (b : Bool) | int (i : Int) | str (x : Str) | tup (xs : List D) | lst (xs : List D) | obj (n : Nat) (xs : List D) | scr (xs : List D)
  /-- a caught error: its class, where it stands, its dict, its attributes -/
  | err (n : Nat) (a : Addr) (dd : Option Addr) (xs : List D)
  /-- a class -/
  | cls (C : Addr)
  /-- a dict that is only read: its keys, its values -/
  | dct (ks : List Key) (xs : List D)
  /-- a lambda, where it stands -/
  | fn (F : LamF) (f : Addr)
  /-- a dict that is only read, its keys tuples of ints and such tuples -/
  | dcn (ks xs : List D)
def nkD : D → Option NestedKey
  | .int i => some (.num i)
  | .tup ds => (go ds).map .tup
  | _ => none
where go : List D → Option (List NestedKey)
  | [] => some []
  | d :: ds => match nkD d, go ds with
    | some k, some ks => some (k :: ks)
    | _, _ => none
def DN (xs : List (NestedKey × Addr × Value)) (o : Obj) : Prop := o.ExactDict ∧ (∃ es ep, o.data = .dict es ep ∧ ∀ (P : Program) (w : World), es.toList = xs.map (entryOfKey (nestedKind P w))) ∧ (xs.map (·.1)).Nodup ∧ ∀ x ∈ xs, x.1.depth ≤ 8
def dN (a : Addr) (o : Obj) : HO := .ext fun h => h.get? a = some o
abbrev Tab := Nat → Option (Addr × List Str)
def TAt (K : PySem.W.Frag) (M : Addr → Prop) (H : Hp) (a : Addr) (vs : List V) : Prop := (¬ M a ∧ Rd H a (.tup vs)) ∨ SqT K (fun _ => none) a vs
def LAt (K : PySem.W.Frag) (M : Addr → Prop) (H : Hp) (a : Addr) (vs : List V) : Prop := (¬ M a ∧ ∃ o, H a = some (.frz o (.lst vs))) ∨ SqL K (fun _ => none) a vs
def XAt (M : Addr → Prop) (H : Hp) (dd : Option Addr) (fn : List Str) (vs : List V) : Prop := (fn = [] ∧ vs = [] ∧ dd = none) ∨ ∃ d, dd = some d ∧ ¬ M d ∧ H d = some (.xd (fn.zip vs)) ∧ vs.length = fn.length
mutual
inductive Rep (T : Tab) (K : PySem.W.Frag) (M : Addr → Prop) (H : Hp) : V → D → Prop
  | non : Rep T K M H .non .non
  | bl {b : Bool} : Rep T K M H (.bl b) (.bl b)
  | int {i : Int} : Rep T K M H (.int i) (.int i)
  | str {x : Str} : Rep T K M H (.str x) (.str x)
  | tup {a : Addr} {vs : List V} {ds : List D} : TAt K M H a vs → Reps T K M H vs ds → Rep T K M H (.ref a) (.tup ds)
  | lst {a : Addr} {vs : List V} {ds : List D} : ¬ M a → H a = some (.lst vs) → Reps T K M H vs ds → Rep T K M H (.ref a) (.lst ds)
  | scr {a : Addr} {vs : List V} {ds : List D} : LAt K M H a vs → Reps T K M H vs ds → Rep T K M H (.ref a) (.scr ds)
  | obj {a C dx : Addr} {n : Nat} {fn : List Str} {vs : List V} {ds : List D} : T n = some (C, fn) → ¬ M a → H a = some (.ins C dx (fn.zip vs)) → vs.length = fn.length → Reps T K M H vs ds → Rep T K M H (.ref a) (.obj n ds)
  | err {a C : Addr} {n : Nat} {fn : List Str} {dd : Option Addr} {vs : List V} {ds : List D} : T n = some (C, fn) → XAt M H dd fn vs → Reps T K M H vs ds → Rep T K M H (.ref a) (.err n a dd ds)
  | cls {C : Addr} : Rep T K M H (.ref C) (.cls C)
  | dct {a : Addr} {o : Obj} {kvs : List (Key × V)} {ks : List Key} {ds : List D} : ¬ M a → H a = some (.frz o (.dK kvs)) → kvs.map (·.1) = ks → Reps T K M H (kvs.map (·.2)) ds → Rep T K M H (.ref a) (.dct ks ds)
  | fn {f c : Addr} {F : LamF} : ¬ M f → ¬ M c → H f = some (LamO f F c) → H c = some (LamX.CodeO c F.q) → Rep T K M H (.ref f) (.fn F f)
  | dcn {a : Addr} {o od : Obj} {xs : List (NestedKey × Addr × Value)} {vs : List V} {ks ds : List D} : ¬ M a → H a = some (.frz od (dN a o)) → DN xs o → (a == sysModules) = false → xs.length ≤ sizeLine → Reps T K M H (xs.map fun x => V.ref x.2.1) ks → ks.map nkD = xs.map (fun x => some x.1) → Vals vs (xs.map fun x => x.2.2) → Reps T K M H vs ds → Rep T K M H (.ref a) (.dcn ks ds)
inductive Reps (T : Tab) (K : PySem.W.Frag) (M : Addr → Prop) (H : Hp) : List V → List D → Prop
  | nil : Reps T K M H [] []
  | cons {v : V} {d : D} {vs : List V} {ds : List D} : Rep T K M H v d → Reps T K M H vs ds → Reps T K M H (v :: vs) (d :: ds)
end
section
variable {T : Tab} {K : PySem.W.Frag} {M M' : Addr → Prop} {H H' : Hp} {a : Addr} {v : V} {d : D} {vs : List V} {ds : List D}
def Kp (M : Addr → Prop) (H : Hp) (M' : Addr → Prop) (H' : Hp) : Prop := ∀ a o, H a = some o → ¬ M a → H' a = some o ∧ ¬ M' a
theorem Kp.refl : Kp M H M H := fun _ _ h n => ⟨h, n⟩
theorem Kp.trans {M2 : Addr → Prop} {H2 : Hp} (x : Kp M H M' H') (y : Kp M' H' M2 H2) : Kp M H M2 H2 := fun a o h n =>
  let ⟨h1, n1⟩ := x a o h n
  y a o h1 n1
theorem TAt.kp (k : Kp M H M' H') (h : TAt K M H a vs) : TAt K M' H' a vs := by
  rcases h with ⟨n, h | ⟨o, h⟩⟩ | h
  · exact .inl ⟨(k _ _ h n).2, .inl (k _ _ h n).1⟩
  · exact .inl ⟨(k _ _ h n).2, .inr ⟨o, (k _ _ h n).1⟩⟩
  · exact .inr h
theorem LAt.kp (k : Kp M H M' H') (h : LAt K M H a vs) : LAt K M' H' a vs := by
  rcases h with ⟨n, o, h⟩ | h
  · exact .inl ⟨(k _ _ h n).2, o, (k _ _ h n).1⟩
  · exact .inr h
theorem TAt.sq (h : TAt K M H a vs) : SqT K H a vs := by
  rcases h with ⟨n, h⟩ | h
  · exact .inl h
  · rcases h with (h | ⟨_, h⟩) | h
    · cases h
    · cases h
    · exact .inr h
theorem LAt.sq (h : LAt K M H a vs) : SqL K H a vs := by
  rcases h with h | h
  · exact .inl (.inr h.2)
  · rcases h with (h | ⟨_, h⟩) | h
    · cases h
    · cases h
    · exact .inr h
theorem LAt.of (hO : Only H) (h : SqL K H a vs) : LAt K (fun _ => False) H a vs := by
  rcases h with (h | ⟨o, h⟩) | h
  · rcases hO a with e | ⟨o, xs, e⟩ <;> rw [e] at h <;> cases h
  · exact .inl ⟨id, o, h⟩
  · exact .inr (.inr h)
theorem XAt.kp {dd : Option Addr} {fn : List Str} (k : Kp M H M' H') (h : XAt M H dd fn vs) : XAt M' H' dd fn vs := by
  rcases h with h | ⟨d, e, n, h1, h2⟩
  · exact .inl h
  · exact .inr ⟨d, e, (k _ _ h1 n).2, (k _ _ h1 n).1, h2⟩
mutual
theorem Rep.kp (k : Kp M H M' H') {v : V} {d : D} (h : Rep T K M H v d) : Rep T K M' H' v d :=
  match h with
  | .non => .non
  | .bl => .bl
  | .int => .int
  | .str => .str
  | .tup h1 h2 => .tup (h1.kp k) (Reps.kp k h2)
  | .lst n h1 h2 => .lst (k _ _ h1 n).2 (k _ _ h1 n).1 (Reps.kp k h2)
  | .scr h1 h2 => .scr (h1.kp k) (Reps.kp k h2)
  | .obj ht hm h1 hl h2 => .obj ht (k _ _ h1 hm).2 (k _ _ h1 hm).1 hl (Reps.kp k h2)
  | .err ht h1 h2 => .err ht (h1.kp k) (Reps.kp k h2)
  | .cls => .cls
  | .dct n h1 hl h2 => .dct (k _ _ h1 n).2 (k _ _ h1 n).1 hl (Reps.kp k h2)
  | .fn n m h1 h2 => .fn (k _ _ h1 n).2 (k _ _ h2 m).2 (k _ _ h1 n).1 (k _ _ h2 m).1
  | .dcn n h1 h2 h3 h4 h5 h6 h7 h8 => .dcn (k _ _ h1 n).2 (k _ _ h1 n).1 h2 h3 h4 (Reps.kp k h5) h6 h7 (Reps.kp k h8)
theorem Reps.kp (k : Kp M H M' H') {vs : List V} {ds : List D} (h : Reps T K M H vs ds) : Reps T K M' H' vs ds :=
  match h with
  | .nil => .nil
  | .cons h1 h2 => .cons (Rep.kp k h1) (Reps.kp k h2)
end
theorem Reps.length (h : Reps T K M H vs ds) : vs.length = ds.length := by
  induction ds generalizing vs with
  | nil => cases h; rfl
  | cons d ds ih => cases h with | cons h1 h2 => simp [ih h2]
theorem Reps.get : ∀ {vs : List V} {ds : List D} {i : Nat} {d : D}, Reps T K M H vs ds → ds[i]? = some d → ∃ v, vs[i]? = some v ∧ Rep T K M H v d
  | _, _, _, _, .nil, e => by simp at e
  | _, _, 0, _, .cons r _, e => by simp at e; subst e; exact ⟨_, rfl, r⟩
  | _, _, i + 1, d, .cons _ t, e => by
    obtain ⟨u, h1, h2⟩ := Reps.get (i := i) (d := d) t (by simpa using e)
    exact ⟨u, by simpa using h1, h2⟩
theorem Reps.append : ∀ {vs ws : List V} {ds es : List D}, Reps T K M H vs ds → Reps T K M H ws es → Reps T K M H (vs ++ ws) (ds ++ es)
  | _, _, _, _, .nil, s => s
  | _, _, _, _, .cons r t, s => .cons r (Reps.append t s)
theorem Reps.take : ∀ {vs : List V} {ds : List D} (n : Nat), Reps T K M H vs ds → Reps T K M H (vs.take n) (ds.take n)
  | _, _, 0, _ => .nil
  | _, _, _ + 1, .nil => .nil
  | _, _, n + 1, .cons r t => .cons r (Reps.take n t)
theorem Reps.drop : ∀ {vs : List V} {ds : List D} (n : Nat), Reps T K M H vs ds → Reps T K M H (vs.drop n) (ds.drop n)
  | _, _, 0, r => r
  | _, _, _ + 1, .nil => .nil
  | _, _, n + 1, .cons _ t => Reps.drop n t
theorem Reps.set {v : V} {d : D} (r : Rep T K M H v d) : ∀ {vs : List V} {ds : List D} (i : Nat), Reps T K M H vs ds → Reps T K M H (vs.set i v) (ds.set i d)
  | _, _, _, .nil => .nil
  | _, _, 0, .cons _ t => .cons r t
  | _, _, i + 1, .cons q t => .cons q (Reps.set r i t)
theorem Reps.rev : ∀ {vs : List V} {ds : List D}, Reps T K M H vs ds → Reps T K M H vs.reverse ds.reverse
  | _, _, .nil => .nil
  | _, _, .cons r t => by
    rw [List.reverse_cons, List.reverse_cons]
    exact (Reps.rev t).append (.cons r .nil)
theorem Reps.replicate {v : V} {d : D} (r : Rep T K M H v d) : ∀ n, Reps T K M H (List.replicate n v) (List.replicate n d)
  | 0 => .nil
  | n + 1 => .cons r (Reps.replicate r n)
theorem Reps.ints : ∀ (ns : List Int), Reps T K M H (ns.map V.int) (ns.map D.int)
  | [] => .nil
  | _ :: r => .cons .int (Reps.ints r)
theorem Reps.of_ints : ∀ {ns : List Int} {vs : List V}, Reps T K M H vs (ns.map D.int) → vs = ns.map V.int
  | [], _, .nil => rfl
  | _ :: r, _, .cons h t => by
    cases h
    rw [Reps.of_ints t]
    rfl
end
inductive Cell where
  | lst (xs : List D)
  | dct (kvs : List (Key × D))
  | ins (n : Nat) (fs : List (Str × D))
  | dcn (kds : List (D × D))
  /-- a list, a dict, an instance whose address is known -/
  | lstA (p : Addr) (xs : List D)
  | dctA (p : Addr) (kvs : List (Key × D))
  | insA (p : Addr) (n : Nat) (fs : List (Str × D))
  /-- an error that was made and stands by its address -/
  | exA (p : Addr) (n : Nat) (fs : List (Str × D))
inductive Sl where
  | dat (d : D)
  | cel (k : Nat)
structure Sta where
  sl : List (Option Sl)
  cs : List Cell
abbrev Mm (ad : List Addr) (F : Addr → Prop) : Addr → Prop := fun a => a ∈ ad ∨ F a
def NDat (T : Tab) (K : PySem.W.Frag) (M : Addr → Prop) (H : Hp) (a : Addr) (o : Obj) (kds : List (D × D)) : Prop := ∃ xs vs, DN xs o ∧ (a == sysModules) = false ∧ xs.length ≤ sizeLine ∧ Reps T K M H (xs.map fun x => V.ref x.2.1) (kds.map (·.1)) ∧ (kds.map (·.1)).map nkD = xs.map (fun x => some x.1) ∧ Vals vs (xs.map fun x => x.2.2) ∧ Reps T K M H vs (kds.map (·.2))
theorem NDat.kp {T : Tab} {K : PySem.W.Frag} {M M' : Addr → Prop} {H H' : Hp} {a : Addr} {o : Obj} {kds : List (D × D)} (k : Kp M H M' H') (h : NDat T K M H a o kds) : NDat T K M' H' a o kds :=
  let ⟨xs, vs, h1, h2, h3, h4, h5, h6, h7⟩ := h
  ⟨xs, vs, h1, h2, h3, h4.kp k, h5, h6, h7.kp k⟩
abbrev NoC (o : HO) : Prop := ∀ φ, o = .ext φ → ∀ c q, HO.ext φ ≠ LamX.CodeO c q
theorem dN_noc {a : Addr} {o : Obj} (hd : ∃ es ep, o.data = .dict es ep) : NoC (dN a o) := fun φ e c q z => by
  obtain ⟨es, ep, hd⟩ := hd
  have z : dN a o = LamX.CodeO c q := e.trans z
  unfold dN LamX.CodeO at z
  injection z with z
  have hh : ∀ h : Heap, (h.get? a = some o) = (∃ (oc : Obj) (vs : Array Value) (t : Tok), h.get? c = some oc ∧ oc.data = .fields vs ∧ vs[1]? = some (.str q t)) := fun h => congrFun z h
  have g : ∀ b : Addr, Heap.get? { (default : Heap) with objs := (Array.replicate (a + 1) o) } b = if b < a + 1 then some o else none := fun b => by
    obtain ⟨x1, x2, x3, x4⟩ := o
    have hd : x3 = .dict es ep := hd
    subst hd
    unfold Heap.get?
    rw [Array.getElem?_replicate]
    by_cases z : b < a + 1
    · rw [if_pos z]
    · rw [if_neg z]
  have h1 := hh { (default : Heap) with objs := (Array.replicate (a + 1) o) }
  rw [g, g, if_pos (Nat.lt_succ_self a)] at h1
  obtain ⟨oc, vs, t, e1, e2, _⟩ := h1.mp rfl
  split at e1
  · cases e1
    rw [hd] at e2
    cases e2
  · cases e1
def ExDt (M : Addr → Prop) (H : Hp) (dd : Option Addr) (kvs : List (Str × V)) : Prop := (kvs = [] ∧ dd = none) ∨ ∃ d, dd = some d ∧ ¬ M d ∧ H d = some (exd d kvs)
theorem exo_noc {e C : Addr} {dd : Option Addr} : NoC (exo e C dd) := fun φ e0 c q z => by
  have z : exo e C dd = LamX.CodeO c q := e0.trans z
  unfold exo LamX.CodeO at z
  injection z with z
  let o : Obj := { cls := .ref C, dict := dd, data := .fields #[.ref 0, .none, .none, .none, .bool false, .none] }
  have hh : ∀ h : Heap, (∃ t1, h.get? e = some { cls := .ref C, dict := dd, data := .fields #[.ref t1, .none, .none, .none, .bool false, .none] }) = (∃ (oc : Obj) (vs : Array Value) (t : Tok), h.get? c = some oc ∧ oc.data = .fields vs ∧ vs[1]? = some (.str q t)) := fun h => congrFun z h
  have g : ∀ b : Addr, Heap.get? { (default : Heap) with objs := (Array.replicate (e + 1) o) } b = if b < e + 1 then some o else none := fun b => by
    unfold Heap.get?
    rw [Array.getElem?_replicate]
    by_cases z : b < e + 1
    · rw [if_pos z]
    · rw [if_neg z]
  obtain ⟨oc, vs, t, h1, h2, h3⟩ := (hh _).mp ⟨0, (g e).trans (if_pos (Nat.lt_succ_self e))⟩
  rw [g] at h1
  split at h1
  · cases h1
    cases h2
    cases h3
  · cases h1
def CellAt (T : Tab) (K : PySem.W.Frag) (M : Addr → Prop) (H : Hp) (a : Addr) : Cell → Prop
  | .lst ds => ∃ vs, H a = some (.lst vs) ∧ Reps T K M H vs ds
  | .dct kds => ∃ kvs, H a = some (.dK kvs) ∧ kvs.map (·.1) = kds.map (·.1) ∧ Reps T K M H (kvs.map (·.2)) (kds.map (·.2))
  | .dcn kds => ∃ o, H a = some (dN a o) ∧ NDat T K M H a o kds
  | .ins n fs => ∃ C fn dx vs, T n = some (C, fn) ∧ H a = some (.ins C dx ((fs.map (·.1)).zip vs)) ∧ vs.length = fs.length ∧ Reps T K M H vs (fs.map (·.2))
  | .lstA p ds => ∃ vs, (H a = some (.lst vs) ∧ Reps T K M H vs ds) ∧ p = a
  | .dctA p kds => ∃ kvs, (H a = some (.dK kvs) ∧ kvs.map (·.1) = kds.map (·.1) ∧ Reps T K M H (kvs.map (·.2)) (kds.map (·.2))) ∧ p = a
  | .insA p n fs => ∃ C fn dx vs, (T n = some (C, fn) ∧ H a = some (.ins C dx ((fs.map (·.1)).zip vs)) ∧ vs.length = fs.length ∧ Reps T K M H vs (fs.map (·.2))) ∧ p = a
  | .exA p n fs => ∃ C fn dd vs, (T n = some (C, fn) ∧ H a = some (exo a C dd) ∧ ExDt M H dd ((fs.map (·.1)).zip vs) ∧ vs.length = fs.length ∧ Reps T K M H vs (fs.map (·.2))) ∧ p = a
def SlRep (T : Tab) (K : PySem.W.Frag) (ad : List Addr) (F : Addr → Prop) (H : Hp) (v : V) : Sl → Prop
  | .dat d => Rep T K (Mm ad F) H v d
  | .cel k => ∃ a, ad[k]? = some a ∧ v = .ref a
def Fr1 (H H' : Hp) (a : Addr) : Prop := H' a = H a ∨ ∃ ps qs, H a = some (.tbl ps) ∧ H' a = some (.tbl qs)
def TbOk (T : Tab) (F : Addr → Prop) (H : Hp) : Prop := ∀ P q, T 900 = some (P, [q]) → F P ∧ LamX.TabS H P q ∧ ∀ a, F a → ∃ o, H a = some o ∧ NoC o
structure HoldC (T : Tab) (K : PySem.W.Frag) (ad : List Addr) (F : Addr → Prop) (H : Hp) (cs : List Cell) : Prop where
  nd : ad.Nodup
  fr : ∀ a ∈ ad, ¬ F a
  al : ∀ a, F a → ∃ o, H a = some o
  tb : TbOk T F H
  ln : ad.length = cs.length
  ce : ∀ (k : Nat) a c, ad[k]? = some a → cs[k]? = some c → CellAt T K (Mm ad F) H a c
structure Hold (T : Tab) (K : PySem.W.Frag) (S : Sta) (ad : List Addr) (F : Addr → Prop) (σ : St) (H : Hp) : Prop where
  hc : HoldC T K ad F H S.cs
  sz : σ.length = S.sl.length
  sl : ∀ (i : Nat) s, S.sl[i]? = some (some s) → ∃ v, σ[i]? = some (some v) ∧ SlRep T K ad F H v s
structure Ext (ad : List Addr) (F : Addr → Prop) (H : Hp) (ad' : List Addr) (H' : Hp) : Prop where
  pre : ∃ t, ad' = ad ++ t ∧ ∀ a ∈ t, H a = none
  keep : ∀ a o, H a = some o → ¬ Mm ad F a → H' a = some o
  frm : ∀ a, F a → Fr1 H H' a
section
variable {T : Tab} {K : PySem.W.Frag} {F : Addr → Prop} {ad ad1 ad2 : List Addr} {H H1 H2 : Hp} {cs : List Cell} {S : Sta} {σ : St} {v : V} {d : D} {s : Sl}
theorem Fr1.trans {a : Addr} (x : Fr1 H H1 a) (y : Fr1 H1 H2 a) : Fr1 H H2 a := by
  rcases x with x | ⟨p, q, x1, x2⟩ <;> rcases y with y | ⟨p', q', y1, y2⟩
  · exact .inl (y.trans x)
  · exact .inr ⟨p', q', x ▸ y1, y2⟩
  · exact .inr ⟨p, q, x1, y.trans x2⟩
  · exact .inr ⟨p, q', x1, y2⟩
theorem Fr1.ex {a : Addr} (x : Fr1 H H1 a) (h : ∃ o, H a = some o) : ∃ o, H1 a = some o := by
  rcases x with x | ⟨_, q, _, x2⟩
  · rw [x]; exact h
  · exact ⟨_, x2⟩
theorem Fr1.eq {a : Addr} {o : HO} (x : Fr1 H H1 a) (h : H a = some o) (n : ∀ ps, o ≠ .tbl ps) : H1 a = some o := by
  rcases x with x | ⟨p, q, x1, _⟩
  · rw [x]; exact h
  · rw [h] at x1
    cases x1
    exact absurd rfl (n p)
theorem TbOk.ext (t : TbOk T F H) (e : ∀ b o, H b = some o → H1 b = some o) : TbOk T F H1 := fun P q h => by
  obtain ⟨t1, t2, t3⟩ := t P q h
  refine ⟨t1, t2.ext e, fun a fa => ?_⟩
  obtain ⟨o, o1, o2⟩ := t3 a fa
  exact ⟨o, e a o o1, o2⟩
theorem TbOk.upd {a : Addr} {o o' : HO} (t : TbOk T F H) (h : H a = some o) (n1 : ∀ ps, o ≠ .tbl ps) (n2 : NoC o) (n3 : NoC o') : TbOk T F (L2.upd H a o') := fun P q e => by
  obtain ⟨fp, ⟨ps, e1, e2, e3⟩, t3⟩ := t P q e
  have h1 : P ≠ a := fun z => n1 ps (Option.some.inj (h.symm.trans (z ▸ e1)))
  refine ⟨fp, ⟨ps, by rw [upd_ne h1]; exact e1, e2, fun pos cv hc => ?_⟩, fun b fb => ?_⟩
  · obtain ⟨c, c1, c2⟩ := e3 pos cv hc
    have h2 : c ≠ a := fun z => n2 _ (Option.some.inj (h.symm.trans (z ▸ c2))) c q rfl
    exact ⟨c, c1, by rw [upd_ne h2]; exact c2⟩
  · by_cases z : b = a
    · rw [z]; exact ⟨o', upd_same, n3⟩
    · rw [upd_ne z]; exact t3 b fb
theorem TbOk.new {a : Addr} {o' : HO} (t : TbOk T F H) (h : H a = none) : TbOk T F (L2.upd H a o') := t.ext fun b o e => by rw [upd_ne (ne_of_none e h)]; exact e
theorem TbOk.to {F1 : Addr → Prop} (t : TbOk T F H) (f : ∀ a, F a → F1 a) (g : ∀ a, F1 a → F a ∨ ∃ o, H a = some o ∧ NoC o) : TbOk T F1 H := fun P q e => by
  obtain ⟨t1, t2, t3⟩ := t P q e
  exact ⟨f P t1, t2, fun a fa => (g a fa).elim (t3 a) id⟩
theorem TbOk.newF {a : Addr} {o' : HO} (t : TbOk T F H) (h : H a = none) (n : NoC o') : TbOk T (fun b => F b ∨ b = a) (L2.upd H a o') := (t.new h).to (fun _ z => .inl z) fun b z => z.imp id fun y => by rw [y]; exact ⟨o', upd_same, n⟩
theorem TbOk.back {F1 : Addr → Prop} (t : TbOk T F H) (f : ∀ a, F a → F1 a) (t1 : TbOk T F1 H1) : TbOk T F H1 := fun P q h => ⟨(t P q h).1, (t1 P q h).2.1, fun a fa => (t1 P q h).2.2 a (f a fa)⟩
theorem CellAt.is {M : Addr → Prop} {a : Addr} {c : Cell} (h : CellAt T K M H a c) : ∃ o, H a = some o ∧ (∀ ps, o ≠ .tbl ps) ∧ NoC o := by
  cases c with
  | lst ds => obtain ⟨vs, e, _⟩ := h; exact ⟨_, e, fun _ z => (nomatch z), fun _ z => nomatch z⟩
  | dct kvs => obtain ⟨vs, e, _⟩ := h; exact ⟨_, e, fun _ z => (nomatch z), fun _ z => nomatch z⟩
  | ins n fs => obtain ⟨C, fn, dx, vs, _, e, _⟩ := h; exact ⟨_, e, fun _ z => (nomatch z), fun _ z => nomatch z⟩
  | dcn kds => obtain ⟨o, e, _, _, ⟨_, ⟨es, ep, h1, _⟩, _⟩, _⟩ := h; exact ⟨_, e, fun _ z => (nomatch z), dN_noc ⟨es, ep, h1⟩⟩
  | lstA p ds => obtain ⟨vs, ⟨e, _⟩, _⟩ := h; exact ⟨_, e, fun _ z => (nomatch z), fun _ z => nomatch z⟩
  | dctA p kvs => obtain ⟨vs, ⟨e, _⟩, _⟩ := h; exact ⟨_, e, fun _ z => (nomatch z), fun _ z => nomatch z⟩
  | insA p n fs => obtain ⟨C, fn, dx, vs, ⟨_, e, _⟩, _⟩ := h; exact ⟨_, e, fun _ z => (nomatch z), fun _ z => nomatch z⟩
  | exA p n fs => obtain ⟨C, fn, dx, vs, ⟨_, e, _⟩, _⟩ := h; exact ⟨_, e, fun _ z => (nomatch z), exo_noc⟩
theorem CellAt.some {M : Addr → Prop} {a : Addr} {c : Cell} (h : CellAt T K M H a c) : ∃ o, H a = some o := by
  cases c with
  | lst ds => obtain ⟨vs, e, _⟩ := h; exact ⟨_, e⟩
  | dct kvs => obtain ⟨vs, e, _⟩ := h; exact ⟨_, e⟩
  | ins n fs => obtain ⟨C, fn, dx, vs, _, e, _⟩ := h; exact ⟨_, e⟩
  | dcn kds => obtain ⟨o, e, _⟩ := h; exact ⟨_, e⟩
  | lstA p ds => obtain ⟨vs, ⟨e, _⟩, _⟩ := h; exact ⟨_, e⟩
  | dctA p kvs => obtain ⟨vs, ⟨e, _⟩, _⟩ := h; exact ⟨_, e⟩
  | insA p n fs => obtain ⟨C, fn, dx, vs, ⟨_, e, _⟩, _⟩ := h; exact ⟨_, e⟩
  | exA p n fs => obtain ⟨C, fn, dx, vs, ⟨_, e, _⟩, _⟩ := h; exact ⟨_, e⟩
theorem ExDt.kp {M M' : Addr → Prop} {dd : Option Addr} {kvs : List (Str × V)} (k : Kp M H M' H1) (h : ExDt M H dd kvs) : ExDt M' H1 dd kvs := by
  rcases h with h | ⟨d, e, n, h⟩
  · exact .inl h
  · exact .inr ⟨d, e, (k _ _ h n).2, (k _ _ h n).1⟩
theorem CellAt.kp {M M' : Addr → Prop} {a : Addr} {c : Cell} (k : Kp M H M' H1) (e : H1 a = H a) (h : CellAt T K M H a c) : CellAt T K M' H1 a c := by
  cases c with
  | lst ds => obtain ⟨vs, h1, h2⟩ := h; exact ⟨vs, e.trans h1, h2.kp k⟩
  | dct kvs => obtain ⟨vs, h1, hl, h2⟩ := h; exact ⟨vs, e.trans h1, hl, h2.kp k⟩
  | ins n fs => obtain ⟨C, fn, dx, vs, ht, h1, hl, h2⟩ := h; exact ⟨C, fn, dx, vs, ht, e.trans h1, hl, h2.kp k⟩
  | dcn kds => obtain ⟨o, h1, h2⟩ := h; exact ⟨o, e.trans h1, h2.kp k⟩
  | lstA p ds => obtain ⟨vs, ⟨h1, h2⟩, hp⟩ := h; exact ⟨vs, ⟨e.trans h1, h2.kp k⟩, hp⟩
  | dctA p kvs => obtain ⟨vs, ⟨h1, hl, h2⟩, hp⟩ := h; exact ⟨vs, ⟨e.trans h1, hl, h2.kp k⟩, hp⟩
  | insA p n fs => obtain ⟨C, fn, dx, vs, ⟨ht, h1, hl, h2⟩, hp⟩ := h; exact ⟨C, fn, dx, vs, ⟨ht, e.trans h1, hl, h2.kp k⟩, hp⟩
  | exA p n fs => obtain ⟨C, fn, dd, vs, ⟨ht, h1, hd, hl, h2⟩, hp⟩ := h; exact ⟨C, fn, dd, vs, ⟨ht, e.trans h1, hd.kp k, hl, h2.kp k⟩, hp⟩
theorem CellAt.kp1 {M M' : Addr → Prop} {a : Addr} {c : Cell} (k : Kp M H M' H1) (e : Fr1 H H1 a) (h : CellAt T K M H a c) : CellAt T K M' H1 a c := by
  obtain ⟨o, e1, n1, _⟩ := h.is
  exact h.kp k ((e.eq e1 n1).trans e1.symm)
theorem HoldC.mem (h : HoldC T K ad F H cs) {a : Addr} (ha : a ∈ ad) : ∃ o, H a = some o := by
  obtain ⟨k, hk, e⟩ := List.getElem_of_mem ha
  have h1 : ad[k]? = some a := by rw [List.getElem?_eq_getElem hk, e]
  have h2 : cs[k]? = some (cs[k]'(by rw [← h.ln]; exact hk)) := List.getElem?_eq_getElem _
  exact (h.ce k a _ h1 h2).some
theorem HoldC.is (h : HoldC T K ad F H cs) {a : Addr} (ha : a ∈ ad) : ∃ o, H a = some o ∧ (∀ ps, o ≠ .tbl ps) ∧ NoC o := by
  obtain ⟨k, hk, e⟩ := List.getElem_of_mem ha
  have h1 : ad[k]? = some a := by rw [List.getElem?_eq_getElem hk, e]
  have h2 : cs[k]? = some (cs[k]'(by rw [← h.ln]; exact hk)) := List.getElem?_eq_getElem _
  exact (h.ce k a _ h1 h2).is
theorem HoldC.isx (h : HoldC T K ad F H cs) {a : Addr} (ha : a ∈ ad) : ∃ o, H a = some o ∧ NoC o := let ⟨o, e, _, n⟩ := h.is ha; ⟨o, e, n⟩
theorem HoldC.new (h : HoldC T K ad F H cs) {p : Addr} (hp : H p = none) : ¬ Mm ad F p := fun z => by
  rcases z with z | z
  · obtain ⟨o, e⟩ := h.mem z
    rw [e] at hp
    cases hp
  · obtain ⟨o, e⟩ := h.al p z
    rw [e] at hp
    cases hp
theorem Ext.refl : Ext ad F H ad H := ⟨⟨[], by simp, fun _ h => nomatch h⟩, fun _ _ h _ => h, fun _ _ => .inl rfl⟩
theorem Ext.kp (x : Ext ad F H ad1 H1) : Kp (Mm ad F) H (Mm ad1 F) H1 := fun a o h n => by
  refine ⟨x.keep a o h n, fun z => ?_⟩
  obtain ⟨t, e, ht⟩ := x.pre
  rcases z with z | z
  · rw [e] at z
    rcases List.mem_append.mp z with z | z
    · exact n (.inl z)
    · rw [ht a z] at h
      cases h
  · exact n (.inr z)
theorem Ext.trans (h : HoldC T K ad1 F H1 cs) (x : Ext ad F H ad1 H1) (y : Ext ad1 F H1 ad2 H2) : Ext ad F H ad2 H2 := by
  obtain ⟨t, e, ht⟩ := x.pre
  obtain ⟨u, e2, hu⟩ := y.pre
  refine ⟨⟨t ++ u, by rw [e2, e, List.append_assoc], fun a ha => ?_⟩, fun a o q n => ?_, fun a q => (x.frm a q).trans (y.frm a q)⟩
  · rcases List.mem_append.mp ha with z | z
    · exact ht a z
    · have h1 := hu a z
      cases q : H a with
      | none => rfl
      | some o =>
        exfalso
        by_cases n : Mm ad F a
        · rcases n with n | n
          · obtain ⟨o', e'⟩ := h.mem (a := a) (by rw [e]; exact List.mem_append_left _ n)
            rw [e'] at h1
            cases h1
          · obtain ⟨o', e'⟩ := (x.frm a n).ex ⟨o, q⟩
            rw [e'] at h1
            cases h1
        · rw [x.keep a o q n] at h1
          cases h1
  · exact y.keep a o (x.keep a o q n) (x.kp a o q n).2
end
end Dl
namespace Dl
open PySem L2
theorem ix_inj {α : Type} {l : List α} (h : l.Nodup) {i j : Nat} {x : α} (a : l[i]? = some x) (b : l[j]? = some x) : i = j := by
  have hi := (List.getElem?_eq_some_iff.mp a).1
  exact (List.getElem?_inj hi h).mp (a.trans b.symm)
section
variable {T : Tab} {K : PySem.W.Frag} {F : Addr → Prop} {ad ad1 ad2 : List Addr} {H H1 H2 : Hp} {cs cs' : List Cell} {S S1 S2 : Sta} {σ : St} {v w : V} {d : D} {s s1 s2 : Sl}
theorem SlRep.ext (x : Ext ad F H ad1 H1) (h : SlRep T K ad F H v s) : SlRep T K ad1 F H1 v s := by
  cases s with
  | dat d => exact Rep.kp x.kp h
  | cel k =>
    obtain ⟨a, e, hv⟩ := h
    obtain ⟨t, e1, _⟩ := x.pre
    refine ⟨a, ?_, hv⟩
    rw [e1, List.getElem?_append_left (List.getElem?_eq_some_iff.mp e).1]
    exact e
theorem Hold.to (h : Hold T K S ad F σ H) (x : Ext ad F H ad1 H1) (c : HoldC T K ad1 F H1 cs) : Hold T K ⟨S.sl, cs⟩ ad1 F σ H1 :=
  ⟨c, h.sz, fun i s e => let ⟨v, hv, r⟩ := h.sl i s e; ⟨v, hv, r.ext x⟩⟩
theorem HoldC.newo (h : HoldC T K ad F H cs) {p : Addr} {o : HO} (hp : H p = none) : HoldC T K ad F (upd H p o) cs ∧ Ext ad F H ad (upd H p o) := by
  have ne : ∀ a o', H a = some o' → a ≠ p := fun a o' e => ne_of_none e hp
  have x : Ext ad F H ad (L2.upd H p o) := by
    refine ⟨⟨[], by simp, fun _ z => nomatch z⟩, fun a o' e _ => ?_, fun a fa => ?_⟩
    · rw [upd_ne (ne a o' e)]; exact e
    · obtain ⟨o', e⟩ := h.al a fa
      exact .inl (by rw [upd_ne (ne a o' e)])
  refine ⟨⟨h.nd, h.fr, fun a fa => ?_, h.tb.new hp, h.ln, fun k a c h1 h2 => ?_⟩, x⟩
  · obtain ⟨o', e⟩ := h.al a fa
    exact ⟨o', by rw [upd_ne (ne a o' e)]; exact e⟩
  · have q := h.ce k a c h1 h2
    obtain ⟨o', e⟩ := q.some
    exact q.kp x.kp (upd_ne (ne a o' e))
theorem HoldC.cell (h : HoldC T K ad F H cs) {p : Addr} {o : HO} {c : Cell} (hp : H p = none) (hc : CellAt T K (Mm (ad ++ [p]) F) (upd H p o) p c) :
    HoldC T K (ad ++ [p]) F (upd H p o) (cs ++ [c]) ∧ Ext ad F H (ad ++ [p]) (upd H p o) := by
  have ne : ∀ a o', H a = some o' → a ≠ p := fun a o' e => ne_of_none e hp
  have x : Ext ad F H (ad ++ [p]) (L2.upd H p o) := by
    refine ⟨⟨[p], rfl, fun a z => ?_⟩, fun a o' e _ => ?_, fun a fa => ?_⟩
    · have := List.mem_singleton.mp z; subst this; exact hp
    · rw [upd_ne (ne a o' e)]; exact e
    · obtain ⟨o', e⟩ := h.al a fa
      exact .inl (by rw [upd_ne (ne a o' e)])
  have np : p ∉ ad := fun z => h.new hp (.inl z)
  refine ⟨⟨?_, fun a ha fa => ?_, fun a fa => ?_, h.tb.new hp, by simp [h.ln], fun k a c' h1 h2 => ?_⟩, x⟩
  · rw [List.nodup_append]
    refine ⟨h.nd, by simp, fun a ha b hb e => ?_⟩
    have := List.mem_singleton.mp hb
    exact np (this ▸ e ▸ ha)
  · rcases List.mem_append.mp ha with z | z
    · exact h.fr a z fa
    · have := List.mem_singleton.mp z; subst this; exact h.new hp (.inr fa)
  · obtain ⟨o', e⟩ := h.al a fa
    exact ⟨o', by rw [upd_ne (ne a o' e)]; exact e⟩
  · by_cases hk : k < ad.length
    · rw [List.getElem?_append_left hk] at h1
      rw [List.getElem?_append_left (by rw [← h.ln]; exact hk)] at h2
      have q := h.ce k a c' h1 h2
      obtain ⟨o', e⟩ := q.some
      exact q.kp x.kp (upd_ne (ne a o' e))
    · have hk' : k = ad.length := by
        have := (List.getElem?_eq_some_iff.mp h1).1
        simp at this
        omega
      subst hk'
      rw [List.getElem?_append_right (Nat.le_refl _)] at h1
      rw [h.ln, List.getElem?_append_right (Nat.le_refl _)] at h2
      simp at h1 h2
      subst h1 h2
      exact hc
theorem HoldC.setc (h : HoldC T K ad F H cs) {k : Nat} {a : Addr} {o : HO} {c : Cell} (ha : ad[k]? = some a) (hc : CellAt T K (Mm ad F) (upd H a o) a c) : HoldC T K ad F (upd H a o) (cs.set k c) ∧ Ext ad F H ad (upd H a o) := by
  have hm : a ∈ ad := List.mem_of_getElem? ha
  have nb : ∀ b, ¬ Mm ad F b → b ≠ a := fun b n z => n (.inl (by rw [z]; exact hm))
  have nf : ∀ b, F b → b ≠ a := fun b fb z => h.fr a hm (by rw [← z]; exact fb)
  have x : Ext ad F H ad (L2.upd H a o) := by
    refine ⟨⟨[], by simp, fun _ z => nomatch z⟩, fun b o' e n => ?_, fun b fb => ?_⟩
    · rw [upd_ne (nb b n)]; exact e
    · exact .inl (by rw [upd_ne (nf b fb)])
  obtain ⟨o0, e0, n1, n2⟩ := h.is hm
  have n3 : NoC o := by
    obtain ⟨o', e', _, y⟩ := hc.is
    rw [upd_same] at e'
    cases e'
    exact y
  refine ⟨⟨h.nd, h.fr, fun b fb => ?_, h.tb.upd e0 n1 n2 n3, by simp [h.ln], fun j b c' h1 h2 => ?_⟩, x⟩
  · obtain ⟨o', e⟩ := h.al b fb
    exact ⟨o', by rw [upd_ne (nf b fb)]; exact e⟩
  · by_cases hj : k = j
    · subst hj
      have hlt : k < cs.length := by rw [← h.ln]; exact (List.getElem?_eq_some_iff.mp ha).1
      rw [List.getElem?_set_self hlt] at h2
      rw [ha] at h1
      cases h1; cases h2
      exact hc
    · rw [List.getElem?_set_ne hj] at h2
      have hb : b ≠ a := fun z => by
        subst z
        obtain ⟨l1, e1⟩ := List.getElem?_eq_some_iff.mp ha
        obtain ⟨l2, e2⟩ := List.getElem?_eq_some_iff.mp h1
        exact hj (ix_inj h.nd ha h1)
      exact (h.ce j b c' h1 h2).kp x.kp (upd_ne hb)
theorem HoldC.take (h : HoldC T K ad F H cs) (n : Nat) : HoldC T K (ad.take n) F H (cs.take n) := by
  have sub : ∀ a, Mm (ad.take n) F a → Mm ad F a := fun a z => z.elim (fun z => .inl (List.mem_of_mem_take z)) .inr
  have kp : Kp (Mm ad F) H (Mm (ad.take n) F) H := fun a o e z => ⟨e, fun y => z (sub a y)⟩
  refine ⟨h.nd.sublist (List.take_sublist _ _), fun a ha => h.fr a (List.mem_of_mem_take ha), h.al, h.tb, by simp [h.ln], fun k a c h1 h2 => ?_⟩
  have k1 : ad[k]? = some a := by
    rw [List.getElem?_take] at h1
    split at h1
    · exact h1
    · cases h1
  have k2 : cs[k]? = some c := by
    rw [List.getElem?_take] at h2
    split at h2
    · exact h2
    · cases h2
  exact (h.ce k a c k1 k2).kp kp rfl
end
def tD (T : Tab) (K : PySem.W.Frag) (S : Sta) (s : Sl) (S' : Sta) : TE := fun σ H Q => ∃ ad F, Hold T K S ad F σ H ∧
  ∀ v H' ad', Ext ad F H ad' H' → Hold T K S' ad' F σ H' → SlRep T K ad' F H' v s → Q v H'
def DE (X : Cx) (T : Tab) (S : Sta) (e : Expr) (s : Sl) (S' : Sta) : Prop := PE X e (tD T X.K S s S')
theorem weak {X : Cx} {e : Expr} {t t' : TE} (h : PE X e t) (q : ∀ σ H Q, t' σ H Q → t σ H Q) : PE X e t' := ⟨fun pins s σ H Q I z => h.run pins s σ H Q I (q σ H Q z)⟩
theorem weakT {X : Cx} {e : Expr} {t t' : TT} (h : PT X e t) (q : ∀ σ H Q, t' σ H Q → t σ H Q) : PT X e t' := ⟨fun pins s σ H Q I z => h.run pins s σ H Q I (q σ H Q z)⟩
theorem weakA {X : Cx} {e : List Expr} {t t' : TA} (h : PA X e t) (q : ∀ σ H Q, t' σ H Q → t σ H Q) : PA X e t' := ⟨fun pos pins s σ H Q I z => h.run pos pins s σ H Q I (q σ H Q z)⟩
theorem weakS {X : Cx} {e : Stmt} {t t' : TS} (h : PS X e t) (q : ∀ D σ H, t' D σ H → t D σ H) : PS X e t' := ⟨fun pins s σ H D I z => h.run pins s σ H D I (q D σ H z)⟩
theorem weakSs {X : Cx} {e : List Stmt} {t t' : TS} (h : PSs X e t) (q : ∀ D σ H, t' D σ H → t D σ H) : PSs X e t' := ⟨fun pins s σ H D I z => h.run pins s σ H D I (q D σ H z)⟩
section
variable {X : Cx} {T : Tab} {S S1 S2 S3 : Sta} {a b e : Expr} {pos : Pos} {s s1 s2 : Sl} {cs cs' : List Cell} {d d1 d2 : D} {i j : Int}
def R1 (T : Tab) (K : PySem.W.Frag) (r : V → Hp → VK → Prop) (s1 : Sl) (cs : List Cell) (s : Sl) (cs' : List Cell) : Prop :=
  ∀ ad F H v (Q : VK), HoldC T K ad F H cs → SlRep T K ad F H v s1 → (∀ z H' ad', Ext ad F H ad' H' → HoldC T K ad' F H' cs' → SlRep T K ad' F H' z s → Q z H') → r v H Q
def R2D (T : Tab) (K : PySem.W.Frag) (r : R2) (s1 s2 : Sl) (cs : List Cell) (s : Sl) (cs' : List Cell) : Prop :=
  ∀ ad F H v w (Q : VK), HoldC T K ad F H cs → SlRep T K ad F H v s1 → SlRep T K ad F H w s2 → (∀ z H' ad', Ext ad F H ad' H' → HoldC T K ad' F H' cs' → SlRep T K ad' F H' z s → Q z H') → r v w H Q
theorem de_name (i : Nat) {x : Str} (hs : S.sl[i]? = some (some s)) (hN : X.N[i]? = some x := by rfl) (hv : Vis X.env.scope x := by first | exact Or.inl rfl | exact Or.inr (Or.inl rfl) | exact Or.inr (Or.inr rfl)) (hd : (x == ("__debug__" : Str)) = false := by decide)
    (hcd : (x == ("__classdict__" : Str)) = false := by decide) : DE X T S (.Name x pos) s S :=
  weak (pe_var hN hv hd hcd) fun σ H Q ⟨ad, F, h, q⟩ => let ⟨v, e, r⟩ := h.sl i s hs; ⟨v, e, q v H ad .refl h r⟩
theorem de_c {v : V} (h : PE X e (tC v)) (r : ∀ ad F H, SlRep T X.K ad F H v s) : DE X T S e s S := weak h fun σ H Q ⟨ad, F, h, q⟩ => q v H ad .refl h (r ad F H)
theorem de_int {k : Nat} : DE X T S (.Constant (.int i) k pos) (.dat (.int i)) S := de_c pe_int fun _ _ _ => .int
theorem de_bl {b : Bool} {k : Nat} : DE X T S (.Constant (.bool b) k pos) (.dat (.bl b)) S := de_c pe_bl fun _ _ _ => .bl
theorem de_non {k : Nat} : DE X T S (.Constant .none k pos) (.dat .non) S := de_c pe_non fun _ _ _ => .non
theorem de_str {x : Str} {k : Nat} : DE X T S (.Constant (.str x) k pos) (.dat (.str x)) S := de_c pe_str fun _ _ _ => .str
theorem r2_I {K : PySem.W.Frag} {C : Int → Int → Prop} {g : Int → Int → Int} (hc : C i j) : R2D T K (rI C fun i j => .int (g i j)) (.dat (.int i)) (.dat (.int j)) cs (.dat (.int (g i j))) cs := fun ad F H v w Q c r1 r2 q => by
  cases r1; cases r2
  exact ⟨i, j, rfl, rfl, hc, q _ H ad .refl c .int⟩
theorem r2_I0 {K : PySem.W.Frag} {g : Int → Int → Int} : R2D T K (rI0 fun i j => .int (g i j)) (.dat (.int i)) (.dat (.int j)) cs (.dat (.int (g i j))) cs := fun ad F H v w Q c r1 r2 q => by
  cases r1; cases r2
  exact ⟨i, j, rfl, rfl, q _ H ad .refl c .int⟩
theorem r2_B0 {K : PySem.W.Frag} {g : Int → Int → Bool} : R2D T K (rI0 fun i j => .bl (g i j)) (.dat (.int i)) (.dat (.int j)) cs (.dat (.bl (g i j))) cs := fun ad F H v w Q c r1 r2 q => by
  cases r1; cases r2
  exact ⟨i, j, rfl, rfl, q _ H ad .refl c .bl⟩
theorem reps_at {K : PySem.W.Frag} {M : Addr → Prop} {H : Hp} {vs : List V} {ds : List D} (h : Reps T K M H vs ds) (e : atI ds i = some d) : ∃ v, atI vs i = some v ∧ Rep T K M H v d := by
  unfold atI at e ⊢
  rw [h.length]
  cases q : ixN ds.length i with
  | none => rw [q] at e; cases e
  | some j =>
    rw [q] at e
    obtain ⟨v, h1, h2⟩ := h.get (i := j) e
    exact ⟨v, h1, h2⟩
def SlReps (T : Tab) (K : PySem.W.Frag) (ad : List Addr) (F : Addr → Prop) (H : Hp) : List V → List Sl → Prop
  | [], [] => True
  | v :: vs, s :: ss => SlRep T K ad F H v s ∧ SlReps T K ad F H vs ss
  | _, _ => False
theorem SlReps.ext {K : PySem.W.Frag} {ad ad1 : List Addr} {F : Addr → Prop} {H H1 : Hp} (x : Ext ad F H ad1 H1) : ∀ {vs : List V} {ss : List Sl}, SlReps T K ad F H vs ss → SlReps T K ad1 F H1 vs ss
  | [], [], _ => trivial
  | _ :: _, _ :: _, h => ⟨h.1.ext x, SlReps.ext x h.2⟩
theorem SlReps.len {K : PySem.W.Frag} {ad : List Addr} {F : Addr → Prop} {H : Hp} : ∀ {vs : List V} {ss : List Sl}, SlReps T K ad F H vs ss → vs.length = ss.length
  | [], [], _ => rfl
  | _ :: _, _ :: _, h => by rw [List.length_cons, List.length_cons, SlReps.len h.2]
theorem SlReps.dats {K : PySem.W.Frag} {ad : List Addr} {F : Addr → Prop} {H : Hp} : ∀ {vs : List V} {ds : List D}, SlReps T K ad F H vs (ds.map Sl.dat) → Reps T K (Mm ad F) H vs ds
  | [], [], _ => .nil
  | _ :: _, _ :: _, h => .cons h.1 (SlReps.dats h.2)
theorem SlReps.of {K : PySem.W.Frag} {ad : List Addr} {F : Addr → Prop} {H : Hp} : ∀ {vs : List V} {ds : List D}, Reps T K (Mm ad F) H vs ds → SlReps T K ad F H vs (ds.map Sl.dat)
  | _, _, .nil => trivial
  | _, _, .cons h t => ⟨h, SlReps.of t⟩
def RCD (T : Tab) (K : PySem.W.Frag) (r : List V → Hp → VK → Prop) (ss : List Sl) (cs : List Cell) (s : Sl) (cs' : List Cell) : Prop :=
  ∀ ad F H vs (Q : VK), HoldC T K ad F H cs → SlReps T K ad F H vs ss → (∀ z H' ad', Ext ad F H ad' H' → HoldC T K ad' F H' cs' → SlRep T K ad' F H' z s → Q z H') → r vs H Q
end
end Dl
namespace Dl
open PySem L2
def tDT (T : Tab) (K : PySem.W.Frag) (S : Sta) (b : Bool) (S' : Sta) : TT := fun σ H Q => ∃ ad F, Hold T K S ad F σ H ∧ ∀ H' ad', Ext ad F H ad' H' → Hold T K S' ad' F σ H' → Q b H'
def DT (X : Cx) (T : Tab) (S : Sta) (e : Expr) (b : Bool) (S' : Sta) : Prop := PT X e (tDT T X.K S b S')
def DW (X : Cx) (T : Tab) (S : Sta) (e : Expr) (b : Bool) (S' : Sta) : Prop := PW X e (tDT T X.K S b S')
theorem weakW {X : Cx} {e : Expr} {t t' : TT} (h : PW X e t) (q : ∀ σ H Q, t' σ H Q → t σ H Q) : PW X e t' := ⟨fun whole pins s σ H Q I z => h.run whole pins s σ H Q I (q σ H Q z)⟩
section
variable {X : Cx} {T : Tab} {S S1 S2 S3 : Sta} {a b e c : Expr} {pos : Pos} {s s1 s2 : Sl} {cs cs' : List Cell} {d d1 d2 : D} {i j : Int} {k k1 k2 : Bool} {rest : List Expr}
theorem DW.pt (h : DW X T S e k S1) : DT X T S e k S1 := PW.pt h
end
structure Exc where
  n : Nat
  fs : List D
def ExRep (T : Tab) (K : PySem.W.Frag) (M : Addr → Prop) (H : Hp) (cls : Value) (d : Option Addr) (x : Exc) : Prop :=
  ∃ C fn, T x.n = some (C, fn) ∧ cls = .ref C ∧ ((fn = [] ∧ x.fs = [] ∧ d = none) ∨ ∃ dd vs, d = some dd ∧ ¬ M dd ∧ H dd = some (.xd (fn.zip vs)) ∧ vs.length = fn.length ∧ Reps T K M H vs x.fs)
structure Post where
  nx : Sta → Prop
  rt : Sl → List Cell → Prop
  bk : Sta → Prop := fun _ => False
  ct : Sta → Prop := fun _ => False
  ex : Exc → Sta → Prop := fun _ _ => False
  W : WX := fun _ _ _ _ => False
structure ExtS (n : Nat) (ad : List Addr) (F : Addr → Prop) (H : Hp) (ad' : List Addr) (H' : Hp) : Prop where
  pre : ad'.take n = ad.take n
  sub : ∀ a ∈ ad', a ∈ ad ∨ H a = none
  keep : ∀ a o, H a = some o → ¬ Mm ad F a → H' a = some o
  frm : ∀ a, F a → Fr1 H H' a
theorem ExtS.refl {n : Nat} {ad : List Addr} {F : Addr → Prop} {H : Hp} : ExtS n ad F H ad H := ⟨rfl, fun _ h => .inl h, fun _ _ h _ => h, fun _ _ => .inl rfl⟩
theorem ExtS.kp {n : Nat} {ad ad1 : List Addr} {F : Addr → Prop} {H H1 : Hp} (x : ExtS n ad F H ad1 H1) : Kp (Mm ad F) H (Mm ad1 F) H1 := fun a o h n => by
  refine ⟨x.keep a o h n, fun z => ?_⟩
  rcases z with z | z
  · rcases x.sub a z with q | q
    · exact n (.inl q)
    · rw [q] at h; cases h
  · exact n (.inr z)
theorem ExtS.trans {n : Nat} {ad ad1 ad2 : List Addr} {F : Addr → Prop} {H H1 H2 : Hp} (x : ExtS n ad F H ad1 H1) (y : ExtS n ad1 F H1 ad2 H2) : ExtS n ad F H ad2 H2 := by
  refine ⟨y.pre.trans x.pre, fun a ha => ?_, fun a o h n => y.keep a o (x.keep a o h n) (x.kp a o h n).2, fun a fa => (x.frm a fa).trans (y.frm a fa)⟩
  rcases y.sub a ha with q | q
  · exact x.sub a q
  · cases e : H a with
    | none => exact .inr rfl
    | some o =>
      by_cases m : Mm ad F a
      · rcases m with m | m
        · exact .inl m
        · obtain ⟨o', e'⟩ := (x.frm a m).ex ⟨_, e⟩
          rw [e'] at q; cases q
      · rw [x.keep a o e m] at q; cases q
theorem Ext.s {n : Nat} {ad ad1 : List Addr} {F : Addr → Prop} {H H1 : Hp} (x : Ext ad F H ad1 H1) (hn : n ≤ ad.length) : ExtS n ad F H ad1 H1 := by
  obtain ⟨t, e, ht⟩ := x.pre
  refine ⟨by rw [e, List.take_append_of_le_length hn], fun a ha => ?_, x.keep, x.frm⟩
  rw [e] at ha
  exact (List.mem_append.mp ha).imp id (ht a)
def tDS (T : Tab) (K : PySem.W.Frag) (n : Nat) (S : Sta) (P : Post) : TS := fun D σ H => ∃ ad F, n ≤ ad.length ∧ Hold T K S ad F σ H ∧
  (∀ S' σ' H' ad', ExtS n ad F H ad' H' → n ≤ ad'.length → Hold T K S' ad' F σ' H' → P.nx S' → D.nx σ' H') ∧
  (∀ s cs' v H' ad', ExtS n ad F H ad' H' → n ≤ ad'.length → HoldC T K ad' F H' cs' → SlRep T K ad' F H' v s → P.rt s cs' → D.rt v H') ∧
  (∀ S' σ' H' ad', ExtS n ad F H ad' H' → n ≤ ad'.length → Hold T K S' ad' F σ' H' → P.bk S' → D.bk σ' H') ∧
  (∀ S' σ' H' ad', ExtS n ad F H ad' H' → n ≤ ad'.length → Hold T K S' ad' F σ' H' → P.ct S' → D.ct σ' H') ∧
  (∀ x S' cls d σ' H' ad', ExtS n ad F H ad' H' → n ≤ ad'.length → Hold T K S' ad' F σ' H' → ExRep T K (Mm ad' F) H' cls d x → P.ex x S' → P.W cls d σ' H')
def DS (X : Cx) (T : Tab) (n : Nat) (S : Sta) (st : Stmt) (P : Post) : Prop := PS X st (tDS T X.K n S P)
def DSs (X : Cx) (T : Tab) (n : Nat) (S : Sta) (sts : List Stmt) (P : Post) : Prop := PSs X sts (tDS T X.K n S P)
section
variable {X : Cx} {T : Tab} {n : Nat} {S S1 S2 S3 : Sta} {a b e c : Expr} {pos : Pos} {s s1 s2 : Sl} {cs cs' : List Cell} {d d1 d2 : D} {i j : Int} {k k1 k2 : Bool} {rest body els : List Stmt} {st : Stmt} {P : Post}
theorem dss_nil (h : P.nx S) : DSs X T n S [] P := weakSs pss_nil fun D σ H ⟨ad, F, hn, h0, q, _⟩ => q S σ H ad .refl hn h0 h
theorem dss_cons (h : DS X T n S st { P with nx := fun S' => DSs X T n S' rest P }) : DSs X T n S (st :: rest) P := by
  have h2 : PSs X rest (fun D σ H => ∃ S', DSs X T n S' rest P ∧ tDS T X.K n S' P D σ H) := ⟨fun pins s σ H D I ⟨S', hS, z⟩ => hS.run pins s σ H D I z⟩
  refine weakSs (pss_cons h h2) fun D σ H ⟨ad, F, hn, h0, q1, q2, q3, q4, q5⟩ => ⟨ad, F, hn, h0, fun S' σ' H' ad' x hn' h' hS => ⟨S', hS, ad', F, hn', h', ?_, ?_, ?_, ?_, ?_⟩, q2, q3, q4, q5⟩
  · exact fun S2 σ2 H2 ad2 x2 hn2 h2 p => q1 S2 σ2 H2 ad2 (x.trans x2) hn2 h2 p
  · exact fun s cs2 v H2 ad2 x2 hn2 c2 r p => q2 s cs2 v H2 ad2 (x.trans x2) hn2 c2 r p
  · exact fun S2 σ2 H2 ad2 x2 hn2 h2 p => q3 S2 σ2 H2 ad2 (x.trans x2) hn2 h2 p
  · exact fun S2 σ2 H2 ad2 x2 hn2 h2 p => q4 S2 σ2 H2 ad2 (x.trans x2) hn2 h2 p
  · exact fun z S2 cls d σ2 H2 ad2 x2 hn2 h2 r p => q5 z S2 cls d σ2 H2 ad2 (x.trans x2) hn2 h2 r p
theorem Ext.le {ad ad1 : List Addr} {F : Addr → Prop} {H H1 : Hp} (x : Ext ad F H ad1 H1) (h : n ≤ ad.length) : n ≤ ad1.length := by
  obtain ⟨t, e, _⟩ := x.pre
  rw [e, List.length_append]
  omega
theorem tDS.go {K : PySem.W.Frag} {D : Ends} {σ σ' : St} {H H1 : Hp} {ad ad1 : List Addr} {F : Addr → Prop} (x : ExtS n ad F H ad1 H1) (hn : n ≤ ad1.length) (h : Hold T K S1 ad1 F σ' H1)
    (q1 : ∀ S' σ' H' ad', ExtS n ad F H ad' H' → n ≤ ad'.length → Hold T K S' ad' F σ' H' → P.nx S' → D.nx σ' H')
    (q2 : ∀ s cs' v H' ad', ExtS n ad F H ad' H' → n ≤ ad'.length → HoldC T K ad' F H' cs' → SlRep T K ad' F H' v s → P.rt s cs' → D.rt v H')
    (q3 : ∀ S' σ' H' ad', ExtS n ad F H ad' H' → n ≤ ad'.length → Hold T K S' ad' F σ' H' → P.bk S' → D.bk σ' H')
    (q4 : ∀ S' σ' H' ad', ExtS n ad F H ad' H' → n ≤ ad'.length → Hold T K S' ad' F σ' H' → P.ct S' → D.ct σ' H')
    (q5 : ∀ x S' cls d σ' H' ad', ExtS n ad F H ad' H' → n ≤ ad'.length → Hold T K S' ad' F σ' H' → ExRep T K (Mm ad' F) H' cls d x → P.ex x S' → P.W cls d σ' H') : tDS T K n S1 P D σ' H1 :=
  ⟨ad1, F, hn, h, fun S2 σ2 H2 ad2 x2 hn2 h2 p => q1 S2 σ2 H2 ad2 (x.trans x2) hn2 h2 p, fun s cs2 v H2 ad2 x2 hn2 c2 r p => q2 s cs2 v H2 ad2 (x.trans x2) hn2 c2 r p,
    fun S2 σ2 H2 ad2 x2 hn2 h2 p => q3 S2 σ2 H2 ad2 (x.trans x2) hn2 h2 p, fun S2 σ2 H2 ad2 x2 hn2 h2 p => q4 S2 σ2 H2 ad2 (x.trans x2) hn2 h2 p,
    fun z S2 cls d σ2 H2 ad2 x2 hn2 h2 r p => q5 z S2 cls d σ2 H2 ad2 (x.trans x2) hn2 h2 r p⟩
theorem Hold.set {K : PySem.W.Frag} {ad : List Addr} {F : Addr → Prop} {σ : St} {H : Hp} {v : V} (h : Hold T K S ad F σ H) (r : SlRep T K ad F H v s) (i : Nat) : Hold T K ⟨S.sl.set i (some s), S.cs⟩ ad F (σ.set i (some v)) H := by
  refine ⟨h.hc, by simp [h.sz], fun j u e => ?_⟩
  by_cases hj : i = j
  · subst hj
    have hl : i < S.sl.length := by
      have := (List.getElem?_eq_some_iff.mp e).1
      simpa using this
    rw [List.getElem?_set_self hl] at e
    cases e
    exact ⟨v, by rw [List.getElem?_set_self (by rw [h.sz]; exact hl)], r⟩
  · rw [List.getElem?_set_ne hj] at e
    obtain ⟨w, hw, rw'⟩ := h.sl j u e
    exact ⟨w, by rw [List.getElem?_set_ne hj]; exact hw, rw'⟩
theorem ds_mono {P' : Post} (h : DS X T n S st P) (h1 : ∀ S, P.nx S → P'.nx S) (h2 : ∀ s cs, P.rt s cs → P'.rt s cs) (h3 : ∀ S, P.bk S → P'.bk S) (h4 : ∀ S, P.ct S → P'.ct S) (h5 : ∀ x S, P.ex x S → P'.ex x S) (hW : P'.W = P.W) : DS X T n S st P' :=
  weakS h fun D σ H ⟨ad, F, hn, h0, q1, q2, q3, q4, q5⟩ => ⟨ad, F, hn, h0, fun S2 σ2 H2 ad2 x2 hn2 h2' p => q1 S2 σ2 H2 ad2 x2 hn2 h2' (h1 _ p), fun s cs2 v H2 ad2 x2 hn2 c2 r p => q2 s cs2 v H2 ad2 x2 hn2 c2 r (h2 _ _ p),
    fun S2 σ2 H2 ad2 x2 hn2 h2' p => q3 S2 σ2 H2 ad2 x2 hn2 h2' (h3 _ p), fun S2 σ2 H2 ad2 x2 hn2 h2' p => q4 S2 σ2 H2 ad2 x2 hn2 h2' (h4 _ p),
    fun z S2 cls d σ2 H2 ad2 x2 hn2 h2' r p => by rw [← hW]; exact q5 z S2 cls d σ2 H2 ad2 x2 hn2 h2' r (h5 _ _ p)⟩
theorem dss_mono {sts : List Stmt} {P' : Post} (h : DSs X T n S sts P) (h1 : ∀ S, P.nx S → P'.nx S) (h2 : ∀ s cs, P.rt s cs → P'.rt s cs) (h3 : ∀ S, P.bk S → P'.bk S) (h4 : ∀ S, P.ct S → P'.ct S) (h5 : ∀ x S, P.ex x S → P'.ex x S) (hW : P'.W = P.W) : DSs X T n S sts P' :=
  weakSs h fun D σ H ⟨ad, F, hn, h0, q1, q2, q3, q4, q5⟩ => ⟨ad, F, hn, h0, fun S2 σ2 H2 ad2 x2 hn2 h2' p => q1 S2 σ2 H2 ad2 x2 hn2 h2' (h1 _ p), fun s cs2 v H2 ad2 x2 hn2 c2 r p => q2 s cs2 v H2 ad2 x2 hn2 c2 r (h2 _ _ p),
    fun S2 σ2 H2 ad2 x2 hn2 h2' p => q3 S2 σ2 H2 ad2 x2 hn2 h2' (h3 _ p), fun S2 σ2 H2 ad2 x2 hn2 h2' p => q4 S2 σ2 H2 ad2 x2 hn2 h2' (h4 _ p),
    fun z S2 cls d σ2 H2 ad2 x2 hn2 h2' r p => by rw [← hW]; exact q5 z S2 cls d σ2 H2 ad2 x2 hn2 h2' r (h5 _ _ p)⟩
end
abbrev Ct := List Sl → List Cell → Sl → List Cell → Prop
def spC (T : Tab) (K : PySem.W.Frag) (c : Ct) : Sp := fun vs H Q _ => ∃ ad F args cs s cs', HoldC T K ad F H cs ∧ SlReps T K ad F H vs args ∧ c args cs s cs' ∧
  ∀ v H' ad', ExtS cs.length ad F H ad' H' → cs.length ≤ ad'.length → HoldC T K ad' F H' cs' → SlRep T K ad' F H' v s → Q v H'
theorem start_hold {T : Tab} {K : PySem.W.Frag} {N : List Str} {ad : List Addr} {F : Addr → Prop} {H : Hp} {vs : List V} {args : List Sl} {cs : List Cell} (hc : HoldC T K ad F H cs) (r : SlReps T K ad F H vs args) :
    Hold T K ⟨args.map some ++ List.replicate (N.length - args.length) none, cs⟩ ad F (L2.start N vs) H := by
  have hl := r.len
  refine ⟨hc, by unfold L2.start; simp [hl], fun i s e => ?_⟩
  have hi : i < args.length := by
    by_cases hi : i < args.length
    · exact hi
    · have e : (args.map some ++ List.replicate (N.length - args.length) none)[i]? = some (some s) := e
      rw [List.getElem?_append_right (by simpa using hi), List.getElem?_replicate] at e
      split at e <;> cases e
  have e : (args.map some ++ List.replicate (N.length - args.length) none)[i]? = some (some s) := e
  rw [List.getElem?_append_left (by simpa using hi), List.getElem?_map] at e
  have ea : args[i]? = some s := by
    cases q : args[i]? with
    | none => rw [q] at e; cases e
    | some z => rw [q] at e; cases e; rfl
  have get : ∀ {vs : List V} {args : List Sl} {i : Nat}, SlReps T K ad F H vs args → args[i]? = some s → ∃ v, vs[i]? = some v ∧ SlRep T K ad F H v s := by
    intro vs args
    induction args generalizing vs with
    | nil => intro i _ e; simp at e
    | cons a args ih =>
      intro i r e
      cases vs with
      | nil => exact r.elim
      | cons v vs =>
        cases i with
        | zero => simp at e; subst e; exact ⟨v, rfl, r.1⟩
        | succ i => simpa using ih r.2 (by simpa using e)
  obtain ⟨v, hv, rv⟩ := get r ea
  refine ⟨v, ?_, rv⟩
  unfold L2.start
  rw [List.getElem?_append_left (by simpa using (hl ▸ hi : i < vs.length)), List.getElem?_map, hv]
  rfl
section
variable {T : Tab} {P : Program} {w : World} {K : PySem.W.Frag} {mg : Str → Option Value} {base : Heap}
abbrev st0 (N : List Str) (args : List Sl) (cs : List Cell) : Sta := ⟨args.map some ++ List.replicate (N.length - args.length) none, cs⟩
abbrev endOf (n : Nat) (s : Sl) (cs' : List Cell) : Post := { nx := fun S => s = .dat .non ∧ S.cs.take n = cs', rt := fun r c => r = s ∧ c = cs' }
abbrev cx0 (P : Program) (w : World) (K : PySem.W.Frag) (mg : Str → Option Value) (base : Heap) (N : List Str) (qual : Str) (st : Stmt) (f : Addr) (cdv : Value) (A : Around) (outer : List Env) (s : Shared) (H : Hp) (E : XK) : Cx := (cxOf CX0 P w K mg base N qual (defScope st) f cdv A outer s H E).nox
theorem fn_ok {x qual : Str} {st : Stmt} {f : Addr} {fd : FuncData} {N ps : List Str} {k : Nat} {c : Ct} (F : Fun K x qual st f fd) (Sc : FnScope N ps (defScope st)) (len : ∀ args cs s cs', c args cs s cs' → args.length = ps.length)
    (body : ∀ cdv A outer sh H E, Room k (cx0 P w K mg base N qual st f cdv A outer sh H E).A → ∀ args cs s cs', c args cs s cs' →
      DSs (cx0 P w K mg base N qual st f cdv A outer sh H E) T cs.length (st0 N args cs) (defBody st) (endOf cs.length s cs')) : FnOk P w K mg base CX0 (k + 1) f fd ps (spC T K c) := by
  refine F.ok Sc (fun vs H Q E h => ?_) (fun cdv A outer s H vs Q E hr h => ?_)
  · obtain ⟨ad, F', args, cs, s, cs', _, r, hc, _⟩ := h
    rw [r.len, len _ _ _ _ hc]
  · obtain ⟨ad, F', args, cs, s0, cs', hc, r, h, q⟩ := h
    refine ⟨_, body cdv A outer s H E hr args cs s0 cs' h, ad, F', Nat.le_of_eq hc.ln.symm, start_hold hc r, ?_, ?_, fun _ _ _ _ _ _ _ z => z.elim, fun _ _ _ _ _ _ _ z => z.elim, fun _ _ _ _ _ _ _ _ _ _ _ z => z.elim⟩
    · rintro S' σ' H' ad' x hn h' ⟨rfl, e⟩
      subst e
      refine q .non H' (ad'.take cs.length) ⟨by rw [List.take_take, Nat.min_self]; exact x.pre, fun a ha => x.sub a (List.mem_of_mem_take ha), x.keep, x.frm⟩ (by rw [List.length_take]; omega) (h'.hc.take _) Rep.non
    · rintro s2 cs2 v H' ad' x hn c2 r2 ⟨rfl, rfl⟩
      exact q v H' ad' x hn c2 r2
end
end Dl
namespace Dl
open PySem L2
section
variable {T : Tab} {K : PySem.W.Frag} {F : Addr → Prop} {ad ad' : List Addr} {H H' : Hp} {cs cs' : List Cell} {v : V} {d : D} {s : Sl} {k : Nat} {c0 c1 : Cell} {a : Addr}
theorem frame0 (h : HoldC T K ad F H cs) : HoldC T K [] (Mm ad F) H [] := ⟨List.nodup_nil, fun _ z => (nomatch z), fun a z => z.elim (fun z => h.mem z) (h.al a), h.tb.to (fun _ z => .inr z) fun a z => z.elim (fun y => .inr (h.isx y)) .inl, rfl, fun k a c e => nomatch e⟩
theorem kp_in (h : HoldC T K ad F H cs) : Kp (Mm ad F) H (Mm [] (Mm ad F)) H := fun a o e n => ⟨e, fun z => n (Or.resolve_left z (by simp))⟩
theorem kp_out {ad2 : List Addr} : Kp (Mm ad2 (Mm ad F)) H (Mm ad F) H := fun a o e n => ⟨e, fun z => n (.inr z)⟩
theorem SlReps.kp {M : Addr → Prop} {ad2 : List Addr} {F2 : Addr → Prop} {H2 : Hp} (k : Kp (Mm ad F) H (Mm ad2 F2) H2) : ∀ {vs : List V} {ds : List D}, SlReps T K ad F H vs (ds.map Sl.dat) → SlReps T K ad2 F2 H2 vs (ds.map Sl.dat)
  | [], [], _ => trivial
  | _ :: _, _ :: _, h => ⟨Rep.kp k h.1, SlReps.kp (M := M) k h.2⟩
theorem back0 (h : HoldC T K ad F H cs) {ad2 : List Addr} {n : Nat} (t2 : TbOk T (Mm ad F) H') (x : ExtS n [] (Mm ad F) H ad2 H') : HoldC T K ad F H' cs ∧ Ext ad F H ad H' := by
  have e : Ext ad F H ad H' := ⟨⟨[], by simp, fun _ z => nomatch z⟩, fun a o e n => x.keep a o e fun z => n (Or.resolve_left z (by simp)), fun a fa => x.frm a (.inr fa)⟩
  refine ⟨⟨h.nd, h.fr, fun a fa => ?_, h.tb.back (fun _ z => .inr z) t2, h.ln, fun k a c h1 h2 => ?_⟩, e⟩
  · exact (e.frm a fa).ex (h.al a fa)
  · exact (h.ce k a c h1 h2).kp1 e.kp (x.frm a (.inl (List.mem_of_getElem? h1)))
def Fk (ad : List Addr) (F : Addr → Prop) (a : Addr) : Addr → Prop := fun b => F b ∨ (b ∈ ad ∧ b ≠ a)
theorem mm_k (ha : a ∈ ad) (b : Addr) : Mm [a] (Fk ad F a) b ↔ Mm ad F b := by
  constructor
  · rintro (z | z | z)
    · rw [List.mem_singleton.mp z]; exact .inl ha
    · exact .inr z
    · exact .inl z.1
  · rintro (z | z)
    · by_cases e : b = a
      · exact .inl (by rw [e]; exact List.mem_singleton_self _)
      · exact .inr (.inr ⟨z, e⟩)
    · exact .inr (.inl z)
theorem frame1 (h : HoldC T K ad F H cs) (ha : ad[k]? = some a) (hc : cs[k]? = some c0) : HoldC T K [a] (Fk ad F a) H [c0] := by
  have hm : a ∈ ad := List.mem_of_getElem? ha
  refine ⟨by simp, fun b hb z => ?_, fun b z => ?_, ?_, rfl, fun j b c e1 e2 => ?_⟩
  · have := List.mem_singleton.mp hb
    subst this
    rcases z with z | z
    · exact h.fr _ hm z
    · exact z.2 rfl
  · rcases z with z | z
    · exact h.al b z
    · exact h.mem z.1
  · exact h.tb.to (fun _ z => .inl z) fun b z => z.imp id fun y => h.isx y.1
  · cases j with
    | zero =>
      simp at e1 e2
      subst e1 e2
      refine (h.ce k a _ ha hc).kp (fun b o e n => ⟨e, fun z => n ((mm_k hm b).mp z)⟩) rfl
    | succ j => simp at e1
theorem back1 (h : HoldC T K ad F H cs) (ha : ad[k]? = some a) (x : ExtS 1 [a] (Fk ad F a) H [a] H') (c : HoldC T K [a] (Fk ad F a) H' [c1]) : HoldC T K ad F H' (cs.set k c1) ∧ Ext ad F H ad H' := by
  have hm : a ∈ ad := List.mem_of_getElem? ha
  have e : Ext ad F H ad H' := ⟨⟨[], by simp, fun _ z => nomatch z⟩, fun b o e n => x.keep b o e fun z => n ((mm_k hm b).mp z), fun b fb => x.frm b (.inl fb)⟩
  refine ⟨⟨h.nd, h.fr, fun b fb => ?_, h.tb.back (fun _ z => .inl z) c.tb, by simp [h.ln], fun j b c' h1 h2 => ?_⟩, e⟩
  · exact (e.frm b fb).ex (h.al b fb)
  · by_cases hj : k = j
    · subst hj
      have hlt : k < cs.length := by rw [← h.ln]; exact (List.getElem?_eq_some_iff.mp ha).1
      rw [List.getElem?_set_self hlt] at h2
      rw [ha] at h1
      cases h1; cases h2
      exact (c.ce 0 a _ rfl rfl).kp (fun b o e n => ⟨e, fun z => n ((mm_k hm b).mpr z)⟩) rfl
    · rw [List.getElem?_set_ne hj] at h2
      have hb : b ≠ a := fun z => hj (ix_inj h.nd ha (z ▸ h1))
      exact (h.ce j b c' h1 h2).kp1 e.kp (x.frm b (.inr ⟨List.mem_of_getElem? h1, hb⟩))
end
def low : Sl → Sl
  | .dat d => .dat d
  | .cel _ => .cel 0
def onlyCell (k : Nat) : Sl → Bool
  | .dat _ => true
  | .cel j => j == k
theorem low_reps {T : Tab} {K : PySem.W.Frag} {F : Addr → Prop} {ad : List Addr} {H : Hp} {k : Nat} {a : Addr} (ha : ad[k]? = some a) : ∀ {vs : List V} {ss : List Sl}, ss.all (onlyCell k) = true → SlReps T K ad F H vs ss → SlReps T K [a] (Fk ad F a) H vs (ss.map low)
  | [], [], _, _ => trivial
  | v :: vs, s :: ss, h, r => by
    rw [List.all_cons, Bool.and_eq_true] at h
    refine ⟨?_, low_reps ha h.2 r.2⟩
    have r1 := r.1
    cases s with
    | dat d => exact Rep.kp (fun b o e n => ⟨e, fun z => n ((mm_k (List.mem_of_getElem? ha) b).mp z)⟩) r1
    | cel j =>
      obtain ⟨b, hb, ev⟩ := r1
      have hj : j = k := beq_iff_eq.mp h.1
      subst hj
      rw [ha] at hb
      cases hb
      exact ⟨a, rfl, ev⟩
section
variable {X : Cx} {T : Tab} {S S1 S2 : Sta} {e : Expr} {es : List Expr} {pos p : Pos} {x : Str} {f : Addr} {fd : FuncData} {ps : List Str} {k : Nat} {c : Ct} {ds : List D} {d : D} {ss : List Sl} {c0 c1 : Cell}
theorem spC0 {K : PySem.W.Frag} {ad : List Addr} {F : Addr → Prop} {H : Hp} {cs : List Cell} {vs : List V} {Q : VK} {E : XK} (hc : c (ds.map Sl.dat) [] (.dat d) []) (h : HoldC T K ad F H cs) (r : SlReps T K ad F H vs (ds.map Sl.dat))
    (q : ∀ v H', Ext ad F H ad H' → HoldC T K ad F H' cs → SlRep T K ad F H' v (.dat d) → Q v H') : spC T K c vs H Q E := by
  refine ⟨[], Mm ad F, ds.map Sl.dat, [], .dat d, [], frame0 h, SlReps.kp (M := fun _ => False) (kp_in h) r, hc, fun v H' ad' x hn c2 r2 => ?_⟩
  obtain ⟨c3, x3⟩ := back0 h c2.tb x
  exact q v H' x3 c3 (Rep.kp kp_out r2)
theorem spC1 {K : PySem.W.Frag} {ad : List Addr} {F : Addr → Prop} {H : Hp} {cs : List Cell} {vs : List V} {Q : VK} {E : XK} {j : Nat} (hj : cs[j]? = some c0) (ho : ss.all (onlyCell j) = true) (hc : c (ss.map low) [c0] (.dat d) [c1]) (h : HoldC T K ad F H cs) (r : SlReps T K ad F H vs ss)
    (q : ∀ v H', Ext ad F H ad H' → HoldC T K ad F H' (cs.set j c1) → SlRep T K ad F H' v (.dat d) → Q v H') : spC T K c vs H Q E := by
  have hlt : j < ad.length := by rw [h.ln]; exact (List.getElem?_eq_some_iff.mp hj).1
  have ha : ad[j]? = some ad[j] := List.getElem?_eq_getElem hlt
  refine ⟨[ad[j]], Fk ad F ad[j], ss.map low, [c0], .dat d, [c1], frame1 h ha hj, low_reps ha ho r, hc, fun v H' ad' x hn c2 r2 => ?_⟩
  have e : ad' = [ad[j]] := by
    have h1 : ad'.length = 1 := c2.ln
    have h2 : ad'.take 1 = [ad[j]] := x.pre
    rw [List.take_of_length_le (by omega)] at h2
    exact h2
  subst e
  obtain ⟨c3, x3⟩ := back1 h ha x c2
  exact q v H' x3 c3 (Rep.kp (fun b o e n => ⟨e, fun z => n ((mm_k (List.mem_of_getElem? ha) b).mpr z)⟩) r2)
theorem spCN {K : PySem.W.Frag} {ad : List Addr} {F : Addr → Prop} {H : Hp} {cs : List Cell} {vs : List V} {Q : VK} {E : XK} (hc : c (ds.map Sl.dat) [] (.cel 0) [c0]) (h : HoldC T K ad F H cs) (r : SlReps T K ad F H vs (ds.map Sl.dat))
    (q : ∀ v H' a, Ext ad F H (ad ++ [a]) H' → HoldC T K (ad ++ [a]) F H' (cs ++ [c0]) → v = .ref a → Q v H') : spC T K c vs H Q E := by
  refine ⟨[], Mm ad F, ds.map Sl.dat, [], .cel 0, [c0], frame0 h, SlReps.kp (M := fun _ => False) (kp_in h) r, hc, fun v H' ad' x hn c2 r2 => ?_⟩
  obtain ⟨c3, x3⟩ := back0 h c2.tb x
  obtain ⟨a, ha, rfl⟩ := r2
  have e : ad' = [a] := by
    have h1 : ad'.length = 1 := c2.ln
    match ad', h1, ha with
    | [b], _, ha => simpa using ha
  subst e
  have na : H a = none := (x.sub a (List.mem_singleton_self _)).elim (fun z => absurd z (by simp)) id
  have nm : ¬ Mm ad F a := c2.fr a (List.mem_singleton_self _)
  have x4 : Ext ad F H (ad ++ [a]) H' := ⟨⟨[a], rfl, fun b hb => by rw [List.mem_singleton.mp hb]; exact na⟩, x3.keep, x3.frm⟩
  have kp2 : Kp (Mm ad F) H' (Mm (ad ++ [a]) F) H' → True := fun _ => trivial
  refine q _ H' a x4 ⟨?_, fun b hb fb => ?_, c3.al, c3.tb, by simp [h.ln], fun j b c' h1 h2 => ?_⟩ rfl
  · rw [List.nodup_append]
    refine ⟨h.nd, by simp, fun b hb b' hb' e => ?_⟩
    rw [List.mem_singleton.mp hb'] at e
    exact nm (.inl (e ▸ hb))
  · rcases List.mem_append.mp hb with z | z
    · exact h.fr b z fb
    · rw [List.mem_singleton.mp z] at fb; exact nm (.inr fb)
  · by_cases hj : j < ad.length
    · rw [List.getElem?_append_left hj] at h1
      rw [List.getElem?_append_left (by rw [← h.ln]; exact hj)] at h2
      exact (h.ce j b c' h1 h2).kp1 x4.kp (x.frm b (.inl (List.mem_of_getElem? h1)))
    · have hj' : j = ad.length := by
        have := (List.getElem?_eq_some_iff.mp h1).1
        simp at this
        omega
      subst hj'
      rw [List.getElem?_append_right (Nat.le_refl _)] at h1
      rw [h.ln, List.getElem?_append_right (Nat.le_refl _)] at h2
      simp at h1 h2
      subst h1 h2
      refine (c2.ce 0 a _ rfl rfl).kp (fun b o e n => ⟨e, fun z => n ?_⟩) rfl
      rcases z with z | z
      · rcases List.mem_append.mp z with z | z
        · exact .inr (.inl z)
        · exact .inl z
      · exact .inr (.inr z)
variable (G : FnOk X.prog X.w X.K X.mg X.base CX0 k f fd ps (spC T X.K c)) (hr : Room k X.A) (hm : X.mg x = some (.ref f)) (hk : PySem.W.keepIn X.K (.ref f) = true) (hb : Binds X.K fd ps [])
include G hr hm hk hb
end
inductive Pat where
  | nm (i : Nat)
  | tp (ps : List Pat)
mutual
/-- the slots behind target = data -/
def asgP : Pat → D → List (Option Sl) → Option (List (Option Sl))
  | .nm i, d, sl => some (sl.set i (some (.dat d)))
  | .tp ps, .tup ds, sl => asgPs ps ds sl
  | _, _, _ => none
def asgPs : List Pat → List D → List (Option Sl) → Option (List (Option Sl))
  | [], [], sl => some sl
  | p :: ps, d :: ds, sl => (asgP p d sl).bind fun sl' => asgPs ps ds sl'
  | _, _, _ => none
end
mutual
def slotsP : Pat → List Nat
  | .nm i => [i]
  | .tp ps => slotsPs ps
def slotsPs : List Pat → List Nat
  | [] => []
  | p :: ps => slotsP p ++ slotsPs ps
end
def AsIs (ns : List Nat) (σ σ' : St) : Prop := σ'.length = σ.length ∧ ∀ j : Nat, j ∉ ns → σ'[j]? = σ[j]?
def tDG (T : Tab) (K : PySem.W.Frag) (p : Pat) : TG := fun v σ H Q => ∃ ad F S d sl', Hold T K S ad F σ H ∧ Rep T K (Mm ad F) H v d ∧ asgP p d S.sl = some sl' ∧ ∀ σ', AsIs (slotsP p) σ σ' → Hold T K ⟨sl', S.cs⟩ ad F σ' H → Q σ' H
def tDGs (T : Tab) (K : PySem.W.Frag) (ps : List Pat) : TGs := fun vs σ H Q => ∃ ad F S ds sl', Hold T K S ad F σ H ∧ Reps T K (Mm ad F) H vs ds ∧ asgPs ps ds S.sl = some sl' ∧ ∀ σ', AsIs (slotsPs ps) σ σ' → Hold T K ⟨sl', S.cs⟩ ad F σ' H → Q σ' H
def DG (X : Cx) (T : Tab) (tg : Expr) (p : Pat) : Prop := PG X tg (tDG T X.K p)
def DGs (X : Cx) (T : Tab) (tgs : List Expr) (ps : List Pat) : Prop := PGs X tgs (tDGs T X.K ps)
theorem weakG {X : Cx} {tg : Expr} {t t' : TG} (h : PG X tg t) (q : ∀ v σ H Q, t' v σ H Q → t v σ H Q) : PG X tg t' := ⟨fun pins s σ H v u Q I r z => h.run pins s σ H v u Q I r (q v σ H Q z)⟩
theorem weakGs {X : Cx} {tg : List Expr} {t t' : TGs} (h : PGs X tg t) (q : ∀ v σ H Q, t' v σ H Q → t v σ H Q) : PGs X tg t' := ⟨fun pins s σ H v u Q I r z => h.run pins s σ H v u Q I r (q v σ H Q z)⟩
section
variable {X : Cx} {T : Tab} {pos : Pos} {e : Expr} {es : List Expr} {p : Pat} {ps : List Pat}
theorem dg_name (i : Nat) {x : Str} (hN : X.N.Nodup) (hi : X.N[i]? = some x := by rfl) (hx : Loc X.env.scope x := by first | exact Or.inl rfl | exact Or.inr rfl) (hf : X.fn x = true ∨ X.env.scope.names.lookup x = some .local := by first | exact .inl rfl | exact .inr rfl) : DG X T (.Name x pos) (.nm i) :=
  weakG (pg_name hN hi hx hf) fun v σ H Q ⟨ad, F, S, d, sl', h, r, e, q⟩ => by
    have e' : S.sl.set i (some (.dat d)) = sl' := Option.some.inj e
    subst e'
    exact q _ ⟨by simp, fun j hj => List.getElem?_set_ne (fun z => hj (by rw [← z]; exact List.mem_singleton_self _))⟩ (h.set (s := .dat d) r i)
theorem dgs_nil : DGs X T [] [] := weakGs pgs_nil fun vs σ H Q ⟨ad, F, S, ds, sl', h, r, e, q⟩ => by
  cases ds with
  | nil =>
    cases r
    have e' : S.sl = sl' := Option.some.inj e
    subst e'
    exact ⟨rfl, q σ ⟨rfl, fun _ _ => rfl⟩ h⟩
  | cons d ds => exact nomatch e
theorem dgs_cons (h1 : DG X T e p) (h2 : DGs X T es ps) (hs : (assignEach (e :: es) X.env).map (·.2) = assign e X.env :: (assignEach es X.env).map (·.2) := by rfl) : DGs X T (e :: es) (p :: ps) :=
  weakGs (pgs_cons h1 h2 hs) fun vs σ H Q ⟨ad, F, S, ds, sl', h, r, e, q⟩ => by
    cases ds with
    | nil => exact nomatch e
    | cons d ds =>
      cases r with
      | cons r1 r2 =>
        have e : (asgP p d S.sl).bind (fun sl' => asgPs ps ds sl') = some sl' := e
        cases e1 : asgP p d S.sl with
        | none => rw [e1] at e; cases e
        | some sl1 =>
          rw [e1] at e
          refine ⟨_, _, rfl, ad, F, S, d, sl1, h, r1, e1, fun σ1 a1 h1 => ⟨ad, F, _, ds, sl', h1, r2, e, fun σ2 a2 h2 => q σ2 ⟨a2.1.trans a1.1, fun j hj => ?_⟩ h2⟩⟩
          have hj' : j ∉ slotsP p ++ slotsPs ps := hj
          rw [a2.2 j fun z => hj' (List.mem_append_right _ z), a1.2 j fun z => hj' (List.mem_append_left _ z)]
theorem asgPs_len : ∀ {ps : List Pat} {ds : List D} {sl sl' : List (Option Sl)}, asgPs ps ds sl = some sl' → ds.length = ps.length
  | [], [], _, _, _ => rfl
  | p :: ps, d :: ds, sl, sl', e => by
    have e : (asgP p d sl).bind (fun sl' => asgPs ps ds sl') = some sl' := e
    cases e1 : asgP p d sl with
    | none => rw [e1] at e; cases e
    | some sl1 =>
      rw [e1] at e
      rw [List.length_cons, List.length_cons, asgPs_len (ps := ps) (ds := ds) e]
  | [], _ :: _, _, _, e => nomatch e
  | _ :: _, [], _, _, e => nomatch e
theorem dg_tup {k : Nat} {n : Nat} (hc : X.calm = true) (h : DGs X T es ps) (hn : (assignEach es X.env).length = n := by rfl) (hp : ps.length = n := by rfl) (hst : (assignEach es X.env).findIdx? (·.1) = none := by rfl) : DG X T (.Tuple es k pos) (.tp ps) :=
  weakG (pg_tup (n := n) hc h hn hst) fun v σ H Q ⟨ad, F, S, d, sl', h, r, e, q⟩ => by
    cases r with
    | tup h1 h2 => exact ⟨_, _, rfl, h1.sq, by rw [h2.length, ← hp]; exact asgPs_len e, ad, F, S, _, sl', h, h2, e, q⟩
    | _ => exact nomatch e
end
def ItOk (T : Tab) (K : PySem.W.Frag) (F : Addr → Prop) (J : It) (items : List D) (ad1 : List Addr) (H1 : Hp) : Prop :=
  ∀ (F2 : Addr → Prop) ad2 H2 cs2, HoldC T K ad2 F2 H2 cs2 → Kp (Mm ad1 F) H1 (Mm ad2 F2) H2 → ∀ i : Nat,
    (∀ d, items[i]? = some d → J.go i H2 ∧ ∀ v H3, J.yld i H2 v H3 → (∀ a o, H2 a = some o → H3 a = some o) ∧ Rep T K (Mm ad2 F2) H3 v d) ∧ (i = items.length → J.stop i H2)
theorem weakI {X : Cx} {tg it : Expr} {t t' : TI} (h : PI X tg it t) (q : ∀ σ H R, t' σ H R → t σ H R) : PI X tg it t' := ⟨fun pins s σ H R I z => h.run pins s σ H R I (q σ H R z)⟩
section
variable {X : Cx} {T : Tab} {S S1 S2 : Sta} {e tg : Expr} {pos p : Pos} {ds : List D} {i j : Int}
def rangeD (lo : Int) (n : Nat) : List D := (List.range n).map fun i : Nat => D.int (lo + (i : Int))
theorem rangeD_get {lo : Int} {n i : Nat} {d : D} (h : (rangeD lo n)[i]? = some d) : i < n ∧ d = .int (lo + (i : Int)) := by
  unfold rangeD at h
  rw [List.getElem?_map] at h
  by_cases hi : i < n
  · rw [List.getElem?_range hi] at h
    exact ⟨hi, (Option.some.inj h).symm⟩
  · rw [List.getElem?_eq_none (by simpa using hi)] at h
    cases h
theorem itr_ok {K : PySem.W.Frag} {F : Addr → Prop} {lo : Int} {n : Nat} {ad1 : List Addr} {H1 : Hp} : ItOk T K F (Itr lo n) (rangeD lo n) ad1 H1 := fun F2 ad2 H2 cs2 c2 kp i => by
  refine ⟨fun d hd => ?_, fun hi => ?_⟩
  · obtain ⟨hi, rfl⟩ := rangeD_get hd
    refine ⟨hi, fun v H3 y => ?_⟩
    obtain ⟨rfl, rfl⟩ := y
    exact ⟨fun _ _ z => z, .int⟩
  · unfold rangeD at hi
    simp at hi
    subst hi
    exact Nat.le_refl _
end
def DFor (X : Cx) (T : Tab) (n : Nat) (p : Pat) (body : List Stmt) : List D → Sta → Post → Prop
  | [], S, P => P.nx S
  | d :: ds, S, P => ∃ sl', asgP p d S.sl = some sl' ∧ DSs X T n ⟨sl', S.cs⟩ body { P with nx := fun S' => DFor X T n p body ds S' P, ct := fun S' => DFor X T n p body ds S' P, bk := P.nx }
theorem grow {T : Tab} {K : PySem.W.Frag} {F : Addr → Prop} {ad : List Addr} {H H' : Hp} {cs : List Cell} (h : HoldC T K ad F H cs) (g : ∀ a o, H a = some o → H' a = some o) : HoldC T K ad F H' cs ∧ Ext ad F H ad H' := by
  have x : Ext ad F H ad H' := ⟨⟨[], by simp, fun _ z => nomatch z⟩, fun a o e _ => g a o e, fun a fa => by obtain ⟨o, e⟩ := h.al a fa; exact .inl (by rw [g a o e, e])⟩
  refine ⟨⟨h.nd, h.fr, fun a fa => (x.frm a fa).ex (h.al a fa), h.tb.ext g, h.ln, fun k a c h1 h2 => ?_⟩, x⟩
  have q := h.ce k a c h1 h2
  obtain ⟨o, e⟩ := q.some
  exact q.kp x.kp (by rw [g a o e, e])
section
variable {X : Cx} {T : Tab} {n : Nat} {S S1 S2 : Sta} {it tg : Expr} {pos : Pos} {items : List D} {body : List Stmt} {p : Pat} {P : Post}
end
end Dl
namespace Dl
open PySem L2
def BinD (X : Cx) (T : Tab) (op : Operator) (s1 s2 : Sl) (cs : List Cell) (s : Sl) (cs' : List Cell) : Prop := ∃ r, OpR X (binaryOp op) r ∧ R2D T X.K r s1 s2 cs s cs'
def CmpD (X : Cx) (T : Tab) (op : CmpOp) (s1 s2 : Sl) (cs : List Cell) (s : Sl) (cs' : List Cell) : Prop := ∃ r, OpR X (compareOp op) r ∧ R2D T X.K r s1 s2 cs s cs'
def IxD (X : Cx) (T : Tab) (s1 s2 : Sl) (cs : List Cell) (s : Sl) (cs' : List Cell) : Prop := ∃ r, IxR X r ∧ R2D T X.K r s1 s2 cs s cs'
def UnD (X : Cx) (T : Tab) (op : UnaryOp) (s1 : Sl) (cs : List Cell) (s : Sl) (cs' : List Cell) : Prop := ∃ r, UnR X (unaryOp op) r ∧ R1 T X.K r s1 cs s cs'
def CalB (X : Cx) (T : Tab) (x : Str) (ss : List Sl) (cs : List Cell) (s : Sl) (cs' : List Cell) : Prop := ∃ u r, bootBuiltins x = some u ∧ ((∃ id, u = .builtin id) ∨ ∃ id, u = .type id) ∧ CallR X u r ∧ RCD T X.K r ss cs s cs'
section
variable {X : Cx} {T : Tab} {S S1 S2 S3 : Sta} {a b e : Expr} {pos p : Pos} {s s1 s2 : Sl} {cs cs' : List Cell} {d d1 d2 : D} {i j : Int} {ds es : List D}
theorem bin_add : BinD X T .Add (.dat (.int i)) (.dat (.int j)) cs (.dat (.int (i + j))) cs := ⟨_, op_add, r2_I0⟩
theorem bin_sub : BinD X T .Sub (.dat (.int i)) (.dat (.int j)) cs (.dat (.int (i - j))) cs := ⟨_, op_sub, r2_I0⟩
theorem op_mulI : OpR X (binaryOp .Mult) (rI IntMulOk fun i j => .int (i * j)) := opI fun _ _ _ _ _ _ _ hc q => PyProof.Rows.mul_int q hc
theorem bin_mul (h : IntMulOk i j) : BinD X T .Mult (.dat (.int i)) (.dat (.int j)) cs (.dat (.int (i * j))) cs := ⟨_, op_mulI, r2_I h⟩
theorem bin_fdiv (h : CDivW i j) : BinD X T .FloorDiv (.dat (.int i)) (.dat (.int j)) cs (.dat (.int (i / j))) cs := ⟨_, op_fdivW, r2_I h⟩
theorem bin_mod (h : 0 < j) : BinD X T .Mod (.dat (.int i)) (.dat (.int j)) cs (.dat (.int (i % j))) cs := ⟨_, op_mod, r2_I (C := fun _ j => 0 < j) h⟩
theorem bin_pow (h : CPow i j) : BinD X T .Pow (.dat (.int i)) (.dat (.int j)) cs (.dat (.int (i ^ j.toNat))) cs := ⟨_, op_pow, r2_I h⟩
theorem cmp_lt : CmpD X T .Lt (.dat (.int i)) (.dat (.int j)) cs (.dat (.bl (decide (i < j)))) cs := ⟨_, op_lt, r2_B0⟩
theorem cmp_gt : CmpD X T .Gt (.dat (.int i)) (.dat (.int j)) cs (.dat (.bl (decide (j < i)))) cs := ⟨_, op_gt, r2_B0⟩
theorem cmp_ge : CmpD X T .GtE (.dat (.int i)) (.dat (.int j)) cs (.dat (.bl (decide (j ≤ i)))) cs := ⟨_, op_ge, r2_B0⟩
theorem dec_V (i j : Int) : decide (V.int i = V.int j) = decide (i = j) := by
  by_cases h : i = j
  · subst h; simp
  · rw [decide_eq_false h, decide_eq_false fun z => h (V.int.inj z)]
theorem cmp_eqI : CmpD X T .Eq (.dat (.int i)) (.dat (.int j)) cs (.dat (.bl (decide (i = j)))) cs := ⟨_, op_eq, fun ad F H v w Q c r1 r2 q => by
  cases r1; cases r2
  exact ⟨rfl, by rw [dec_V]; exact q _ H ad .refl c Rep.bl⟩⟩
theorem cmp_neI : CmpD X T .NotEq (.dat (.int i)) (.dat (.int j)) cs (.dat (.bl (!decide (i = j)))) cs := ⟨_, op_ne, fun ad F H v w Q c r1 r2 q => by
  cases r1; cases r2
  exact ⟨rfl, by rw [dec_V]; exact q _ H ad .refl c Rep.bl⟩⟩
theorem dec_S (i j : Str) : decide (V.str i = V.str j) = decide (i = j) := by
  by_cases h : i = j
  · subst h; simp
  · rw [decide_eq_false h, decide_eq_false fun z => h (V.str.inj z)]
theorem cmp_eqS {x y : Str} : CmpD X T .Eq (.dat (.str x)) (.dat (.str y)) cs (.dat (.bl (decide (x = y)))) cs := ⟨_, op_eq, fun ad F H v w Q c r1 r2 q => by
  cases r1; cases r2
  exact ⟨rfl, by rw [dec_S]; exact q _ H ad .refl c Rep.bl⟩⟩
theorem cmp_neS {x y : Str} : CmpD X T .NotEq (.dat (.str x)) (.dat (.str y)) cs (.dat (.bl (!decide (x = y)))) cs := ⟨_, op_ne, fun ad F H v w Q c r1 r2 q => by
  cases r1; cases r2
  exact ⟨rfl, by rw [dec_S]; exact q _ H ad .refl c Rep.bl⟩⟩
theorem dec_B (i j : Bool) : decide (V.bl i = V.bl j) = (i == j) := by cases i <;> cases j <;> decide
theorem cmp_eqB {x y : Bool} : CmpD X T .Eq (.dat (.bl x)) (.dat (.bl y)) cs (.dat (.bl (x == y))) cs := ⟨_, op_eq, fun ad F H v w Q c r1 r2 q => by
  cases r1; cases r2
  exact ⟨rfl, by rw [dec_B]; exact q _ H ad .refl c Rep.bl⟩⟩
theorem cmp_neB {x y : Bool} : CmpD X T .NotEq (.dat (.bl x)) (.dat (.bl y)) cs (.dat (.bl (!(x == y)))) cs := ⟨_, op_ne, fun ad F H v w Q c r1 r2 q => by
  cases r1; cases r2
  exact ⟨rfl, by rw [dec_B]; exact q _ H ad .refl c Rep.bl⟩⟩
theorem ix_L (hi : atI ds i = some d) : IxD X T (.dat (.lst ds)) (.dat (.int i)) cs (.dat d) cs := ⟨_, ix_list, fun ad F H v w Q c r1 r2 q => by
  cases r2
  cases r1 with
  | lst n e r =>
    obtain ⟨u, h1, h2⟩ := reps_at r hi
    exact ⟨_, _, i, u, rfl, rfl, SqL.of e, h1, q u H ad .refl c h2⟩⟩
theorem ix_R (hi : atI ds i = some d) : IxD X T (.dat (.scr ds)) (.dat (.int i)) cs (.dat d) cs := ⟨_, ix_list, fun ad F H v w Q c r1 r2 q => by
  cases r2
  cases r1 with
  | scr e r =>
    obtain ⟨u, h1, h2⟩ := reps_at r hi
    exact ⟨_, _, i, u, rfl, rfl, e.sq, h1, q u H ad .refl c h2⟩⟩
theorem ix_T (hi : atI ds i = some d) : IxD X T (.dat (.tup ds)) (.dat (.int i)) cs (.dat d) cs := ⟨_, ix_tup, fun ad F H v w Q c r1 r2 q => by
  cases r2
  cases r1 with
  | tup e r =>
    obtain ⟨u, h1, h2⟩ := reps_at r hi
    exact ⟨_, _, i, u, rfl, rfl, e.sq, h1, q u H ad .refl c h2⟩⟩
theorem ix_C {k : Nat} (hk : cs[k]? = some (.lst ds)) (hi : atI ds i = some d) : IxD X T (.cel k) (.dat (.int i)) cs (.dat d) cs := ⟨_, ix_list, fun ad F H v w Q c r1 r2 q => by
  cases r2
  obtain ⟨p, e, rfl⟩ := r1
  obtain ⟨vs, h1, h2⟩ := c.ce k p _ e hk
  obtain ⟨u, h3, h4⟩ := reps_at h2 hi
  exact ⟨_, _, i, u, rfl, rfl, SqL.of h1, h3, q u H ad .refl c h4⟩⟩
theorem ix_S {x : Str} {c : Nat} (hl : x.length ≤ sizeLine) (hi : atI x.cps.toList i = some c) : IxD X T (.dat (.str x)) (.dat (.int i)) cs (.dat (.str ⟨#[c]⟩)) cs := ⟨_, ix_str, fun ad F H v w Q c' r1 r2 q => by
  cases r1; cases r2
  exact ⟨x, i, c, rfl, rfl, hl, hi, q _ H ad .refl c' Rep.str⟩⟩
theorem new_lst {K : PySem.W.Frag} {ad : List Addr} {F : Addr → Prop} {H : Hp} {vs : List V} {Q : VK} (c : HoldC T K ad F H cs) (r : Reps T K (Mm ad F) H vs ds) (q : ∀ z H' ad', Ext ad F H ad' H' → HoldC T K ad' F H' cs → SlRep T K ad' F H' z (.dat (.lst ds)) → Q z H')
    {p : Addr} (hp : H p = none) : Q (.ref p) (upd H p (.lst vs)) := by
  obtain ⟨c2, x2⟩ := c.newo (o := .lst vs) hp
  exact q _ _ ad x2 c2 (Rep.lst (vs := vs) (c.new hp) upd_same (r.kp x2.kp))
theorem new_tup {K : PySem.W.Frag} {ad : List Addr} {F : Addr → Prop} {H : Hp} {vs : List V} {Q : VK} (c : HoldC T K ad F H cs) (r : Reps T K (Mm ad F) H vs ds) (q : ∀ z H' ad', Ext ad F H ad' H' → HoldC T K ad' F H' cs → SlRep T K ad' F H' z (.dat (.tup ds)) → Q z H')
    {p : Addr} (hp : H p = none) : Q (.ref p) (upd H p (.tup vs)) := by
  obtain ⟨c2, x2⟩ := c.newo (o := .tup vs) hp
  exact q _ _ ad x2 c2 (Rep.tup (vs := vs) (.inl ⟨c.new hp, .inl upd_same⟩) (r.kp x2.kp))
theorem new_lstC {K : PySem.W.Frag} {ad : List Addr} {F : Addr → Prop} {H : Hp} {vs : List V} {Q : VK} (c : HoldC T K ad F H cs) (r : Reps T K (Mm ad F) H vs ds) (q : ∀ z H' ad', Ext ad F H ad' H' → HoldC T K ad' F H' (cs ++ [.lst ds]) → SlRep T K ad' F H' z (.cel cs.length) → Q z H')
    {p : Addr} (hp : H p = none) : Q (.ref p) (upd H p (.lst vs)) := by
  have kp : Kp (Mm ad F) H (Mm (ad ++ [p]) F) (upd H p (.lst vs)) := fun a o e n => by
    have np : a ≠ p := ne_of_none e hp
    refine ⟨by rw [upd_ne np]; exact e, fun z => ?_⟩
    rcases z with z | z
    · rcases List.mem_append.mp z with z | z
      · exact n (.inl z)
      · exact np (List.mem_singleton.mp z)
    · exact n (.inr z)
  obtain ⟨c2, x2⟩ := c.cell (o := .lst vs) (c := .lst ds) hp ⟨vs, upd_same, r.kp kp⟩
  refine q _ _ _ x2 c2 ⟨p, ?_, rfl⟩
  rw [← c.ln, List.getElem?_append_right (Nat.le_refl _)]
  simp
def isLst (cs : List Cell) (ds : List D) : Sl → Prop
  | .dat d => d = .lst ds
  | .cel k => cs[k]? = some (.lst ds)
theorem rd_lst {K : PySem.W.Frag} {ad : List Addr} {F : Addr → Prop} {H : Hp} {v : V} (h : isLst cs ds s) (c : HoldC T K ad F H cs) (r : SlRep T K ad F H v s) : ∃ a vs, v = .ref a ∧ H a = some (.lst vs) ∧ Reps T K (Mm ad F) H vs ds := by
  cases s with
  | dat d =>
    obtain rfl : d = .lst ds := h
    cases r with
    | lst n e r => exact ⟨_, _, rfl, e, r⟩
  | cel k =>
    obtain ⟨a, e, rfl⟩ := r
    obtain ⟨vs, h1, h2⟩ := c.ce k a _ e h
    exact ⟨a, vs, rfl, h1, h2⟩
theorem bin_addL (h1 : isLst cs ds s1) (h2 : isLst cs es s2) (hl : ds.length + es.length ≤ sizeLine) : BinD X T .Add s1 s2 cs (.dat (.lst (ds ++ es))) cs := ⟨_, op_cat, fun ad F H v w Q c r1 r2 q => by
  obtain ⟨a, vs, rfl, e1, q1⟩ := rd_lst h1 c r1
  obtain ⟨b, ws, rfl, e2, q2⟩ := rd_lst h2 c r2
  exact ⟨a, b, vs, ws, rfl, rfl, e1, e2, by rw [q1.length, q2.length]; exact hl, fun p hp => new_lst c (q1.append q2) q hp⟩⟩
theorem bin_addT (hl : ds.length + es.length ≤ sizeLine) : BinD X T .Add (.dat (.tup ds)) (.dat (.tup es)) cs (.dat (.tup (ds ++ es))) cs := ⟨_, op_catA, fun ad F H v w Q c r1 r2 q => by
  cases r1 with
  | @tup a vs _ e1 q1 =>
    cases r2 with
    | @tup b ws _ e2 q2 =>
      refine ⟨a, b, vs, ws, rfl, rfl, e1.sq, e2.sq, by rw [q1.length, q2.length]; exact hl, ?_⟩
      refine ⟨fun h => ?_, fun h => ?_, fun h h' p hp => new_tup c (q1.append q2) q hp⟩
      · subst h
        cases q1
        exact q _ H ad .refl c (Rep.tup e2 q2)
      · first
          | (intro h'; subst h'; cases q2; refine q _ H ad .refl c ?_; rw [List.append_nil]; exact Rep.tup e1 q1)
          | (subst h; cases q2; refine q _ H ad .refl c ?_; rw [List.append_nil]; exact Rep.tup e1 q1)⟩
theorem bin_addS {x y : Str} (hl : x.length + y.length ≤ sizeLine) : BinD X T .Add (.dat (.str x)) (.dat (.str y)) cs (.dat (.str (x ++ y))) cs := ⟨_, op_add_str, fun ad F H v w Q c r1 r2 q => by
  cases r1; cases r2
  exact ⟨x, y, rfl, rfl, hl, q _ H ad .refl c Rep.str⟩⟩
theorem reps_rep {K : PySem.W.Frag} {M : Addr → Prop} {H : Hp} {vs : List V} (h : Reps T K M H vs ds) : ∀ n, Reps T K M H (List.replicate n vs).flatten (List.replicate n ds).flatten
  | 0 => .nil
  | n + 1 => by
    rw [List.replicate_succ, List.replicate_succ, List.flatten_cons, List.flatten_cons]
    exact h.append (reps_rep h n)
theorem bin_repL (h1 : isLst cs ds s1) (h2 : -(2 ^ 63) ≤ j) (h3 : j < 2 ^ 63) (hl : ds.length * j.toNat ≤ sizeLine) : BinD X T .Mult s1 (.dat (.int j)) cs (.dat (.lst (List.replicate j.toNat ds).flatten)) cs := ⟨_, op_rep, fun ad F H v w Q c r1 r2 q => by
  cases r2
  obtain ⟨a, vs, rfl, e1, q1⟩ := rd_lst h1 c r1
  refine ⟨a, j, vs, rfl, rfl, e1, h2, h3, by rw [q1.length]; exact hl, fun p hp => ?_⟩
  first
    | exact new_lst c (reps_rep q1 _) q hp
    | (have z := new_lst c (reps_rep q1 j.toNat) q hp; simpa using z)⟩
def cutD (ds : List D) (lo hi : Option Int) : List D := (ds.drop (HT.sIx ds.length 0 lo)).take (HT.sIx ds.length ds.length hi - HT.sIx ds.length 0 lo)
mutual
def D.py : D → PyData
  | .non => .none
  | .bl b => .bool b
  | .int i => .int i
  | .str x => .str x
  | .tup xs => .tuple (D.pys xs)
  | .lst xs => .list (D.pys xs)
  | .scr xs => .list (D.pys xs)
  | .obj _ _ => .none
  | .err _ _ _ _ => .none
  | .cls _ => .none
  | .dct _ _ => .none
  | .fn _ _ => .none
  | .dcn _ _ => .none
def D.pys : List D → List PyData
  | [] => []
  | x :: xs => D.py x :: D.pys xs
end
mutual
def D.plain : D → Bool
  | .tup xs => D.plains xs
  | .lst xs => D.plains xs
  | .scr xs => D.plains xs
  | .obj _ _ => false
  | .err _ _ _ _ => false
  | .cls _ => false
  | .dct _ _ => false
  | .fn _ _ => false
  | .dcn _ _ => false
  | _ => true
def D.plains : List D → Bool
  | [] => true
  | x :: xs => D.plain x && D.plains xs
end
mutual
theorem Rep.dp {K : PySem.W.Frag} {M : Addr → Prop} {H : Hp} {v : V} {d : D} (r : Rep T K M H v d) (h : d.plain = true) : Dp K H v d.py :=
  match r with
  | .non => .non
  | .bl => .bl _
  | .int => .int _
  | .str => .str _
  | .tup h1 h2 => .tup h1.sq (Reps.dp h2 h)
  | .lst n h1 h2 => .lst (SqL.of h1) (Reps.dp h2 h)
  | .scr h1 h2 => .lst h1.sq (Reps.dp h2 h)
  | .obj .. => Bool.noConfusion (show false = true from h)
  | .err .. => Bool.noConfusion (show false = true from h)
  | .cls => Bool.noConfusion (show false = true from h)
  | .dct .. => Bool.noConfusion (show false = true from h)
  | .fn .. => Bool.noConfusion (show false = true from h)
  | .dcn .. => Bool.noConfusion (show false = true from h)
theorem Reps.dp {K : PySem.W.Frag} {M : Addr → Prop} {H : Hp} {vs : List V} {ds : List D} (r : Reps T K M H vs ds) (h : D.plains ds = true) : DpAll K H vs (D.pys ds) :=
  match r, h with
  | .nil, _ => .nil
  | .cons h1 h2, h => .cons (Rep.dp h1 (Bool.and_eq_true_iff.mp h).1) (Reps.dp h2 (Bool.and_eq_true_iff.mp h).2)
end
def okD (d : D) : Bool := d.plain && SeqAt.shaped d.py
def eqD (d e : D) : Bool := PyData.eqv d.py e.py
theorem cmp_eqD (hu : X.A.units + 64 < cLine) (h1 : okD d1 = true) (h2 : okD d2 = true) : CmpD X T .Eq (.dat d1) (.dat d2) cs (.dat (.bl (eqD d1 d2))) cs := ⟨_, op_eqD hu, fun ad F H v w Q c r1 r2 q => by
  have a1 := Bool.and_eq_true_iff.mp h1
  have a2 := Bool.and_eq_true_iff.mp h2
  exact ⟨_, _, Rep.dp r1 a1.1, Rep.dp r2 a2.1, a1.2, a2.2, q _ H ad .refl c Rep.bl⟩⟩
theorem cmp_neD (hu : X.A.units + 64 < cLine) (h1 : okD d1 = true) (h2 : okD d2 = true) : CmpD X T .NotEq (.dat d1) (.dat d2) cs (.dat (.bl (!eqD d1 d2))) cs := ⟨_, op_neD hu, fun ad F H v w Q c r1 r2 q => by
  have a1 := Bool.and_eq_true_iff.mp h1
  have a2 := Bool.and_eq_true_iff.mp h2
  exact ⟨_, _, Rep.dp r1 a1.1, Rep.dp r2 a2.1, a1.2, a2.2, q _ H ad .refl c Rep.bl⟩⟩
theorem eqD_refl (h : okD d = true) : eqD d d = true := by
  have a1 := Bool.and_eq_true_iff.mp h
  exact SeqAt.eqv_refl _ (SeqAt.canLay_of_shaped a1.2)
theorem cb_len (h : isLst cs ds s1) : CalB X T "len" [s1] cs (.dat (.int ds.length)) cs := ⟨_, _, PySem.boot_len, .inl ⟨_, rfl⟩, call_len_seq, fun ad F H vs Q c r q => by
  match vs, r with
  | [v], r =>
    obtain ⟨a, ws, rfl, e1, q1⟩ := rd_lst h c r.1
    exact ⟨a, ws, rfl, .inl (SqL.of e1), by rw [q1.length]; exact q _ H ad .refl c Rep.int⟩⟩
theorem cb_lenR : CalB X T "len" [.dat (.scr ds)] cs (.dat (.int ds.length)) cs := ⟨_, _, PySem.boot_len, .inl ⟨_, rfl⟩, call_len_seq, fun ad F H vs Q c r q => by
  match vs, r with
  | [v], r =>
    have r1 := r.1
    cases r1 with
    | @scr a ws _ e1 q1 => exact ⟨a, ws, rfl, .inl e1.sq, by rw [q1.length]; exact q _ H ad .refl c Rep.int⟩⟩
theorem cb_lenT : CalB X T "len" [.dat (.tup ds)] cs (.dat (.int ds.length)) cs := ⟨_, _, PySem.boot_len, .inl ⟨_, rfl⟩, call_len_seq, fun ad F H vs Q c r q => by
  match vs, r with
  | [v], r =>
    have r1 := r.1
    cases r1 with
    | @tup a ws _ e1 q1 => exact ⟨a, ws, rfl, .inr e1.sq, by rw [q1.length]; exact q _ H ad .refl c Rep.int⟩⟩
theorem cb_lenS {x : Str} (hl : x.length ≤ sizeLine) : CalB X T "len" [.dat (.str x)] cs (.dat (.int x.length)) cs := ⟨_, _, PySem.boot_len, .inl ⟨_, rfl⟩, call_len_str, fun ad F H vs Q c r q => by
  match vs, r with
  | [v], r =>
    have r1 := r.1
    cases r1
    exact ⟨x, rfl, hl, q _ H ad .refl c Rep.int⟩⟩
theorem cb_int : CalB X T "int" [.dat (.int i)] cs (.dat (.int i)) cs := ⟨_, _, by decide +kernel, .inr ⟨_, rfl⟩, call_int1, fun ad F H vs Q c r q => by
  match vs, r with
  | [v], r =>
    have r1 := r.1
    cases r1
    exact .inl ⟨i, rfl, q _ H ad .refl c Rep.int⟩⟩
theorem cb_intB {k : Bool} : CalB X T "int" [.dat (.bl k)] cs (.dat (.int (if k then 1 else 0))) cs := ⟨_, _, by decide +kernel, .inr ⟨_, rfl⟩, call_int1, fun ad F H vs Q c r q => by
  match vs, r with
  | [v], r =>
    have r1 := r.1
    cases r1
    exact .inr ⟨k, rfl, q _ H ad .refl c Rep.int⟩⟩
theorem cb_max (hc : X.calm = true) : CalB X T "max" [.dat (.int i), .dat (.int j)] cs (.dat (.int (if j > i then j else i))) cs := ⟨_, _, by decide +kernel, .inl ⟨_, rfl⟩, call_max2 hc, fun ad F H vs Q c r q => by
  match vs, r with
  | [v, w], r =>
    have r1 := r.1
    have r2 := r.2.1
    cases r1; cases r2
    exact ⟨i, j, rfl, q _ H ad .refl c Rep.int⟩⟩
theorem cb_min (hc : X.calm = true) : CalB X T "min" [.dat (.int i), .dat (.int j)] cs (.dat (.int (if j < i then j else i))) cs := ⟨_, _, by decide +kernel, .inl ⟨_, rfl⟩, call_min2 hc, fun ad F H vs Q c r q => by
  match vs, r with
  | [v, w], r =>
    have r1 := r.1
    have r2 := r.2.1
    cases r1; cases r2
    exact ⟨i, j, rfl, q _ H ad .refl c Rep.int⟩⟩
theorem cb_tupL (h : isLst cs ds s1) : CalB X T "tuple" [s1] cs (.dat (.tup ds)) cs := ⟨_, _, by decide +kernel, .inr ⟨_, rfl⟩, call_tuple_of, fun ad F H vs Q c r q => by
  match vs, r with
  | [v], r =>
    obtain ⟨a, ws, rfl, e1, q1⟩ := rd_lst h c r.1
    exact ⟨a, ws, rfl, .inl ⟨SqL.of e1, fun l hl => new_tup c q1 q hl⟩⟩⟩
theorem cb_tupT : CalB X T "tuple" [.dat (.tup ds)] cs (.dat (.tup ds)) cs := ⟨_, _, by decide +kernel, .inr ⟨_, rfl⟩, call_tuple_of, fun ad F H vs Q c r q => by
  match vs, r with
  | [v], r =>
    have r1 := r.1
    cases r1 with
    | @tup a ws _ e1 q1 => exact ⟨a, ws, rfl, .inr ⟨e1.sq, q _ H ad .refl c (Rep.tup e1 q1)⟩⟩⟩
end
section
variable {X : Cx} {T : Tab} {n : Nat} {S S1 S2 S3 : Sta} {e o ix : Expr} {pos p' : Pos} {d : D} {ds : List D} {k j : Nat} {i : Int} {P : Post}
end
end Dl
namespace Dl
open PySem L2
def wipeS (sl : List (Option Sl)) : List Nat → List (Option Sl)
  | [] => sl
  | v :: vs => (wipeS sl vs).set v none
theorem wipeS_len (sl : List (Option Sl)) : ∀ vs, (wipeS sl vs).length = sl.length
  | [] => rfl
  | v :: vs => by unfold wipeS; rw [List.length_set, wipeS_len sl vs]
theorem wipeS_some {sl : List (Option Sl)} {i : Nat} {s : Sl} : ∀ {vs : List Nat}, (wipeS sl vs)[i]? = some (some s) → sl[i]? = some (some s) ∧ i ∉ vs
  | [], h => ⟨h, by simp⟩
  | v :: vs, h => by
    unfold wipeS at h
    by_cases e : v = i
    · subst e
      rw [List.getElem?_set] at h
      split at h
      · split at h <;> cases h
      · rename_i z; exact absurd rfl z
    · rw [List.getElem?_set_ne e] at h
      obtain ⟨h1, h2⟩ := wipeS_some h
      exact ⟨h1, fun z => (List.mem_cons.mp z).elim (fun q => e q.symm) h2⟩
theorem weakTs {X : Cx} {e : List Expr} {t t' : TT} (h : PTs X e t) (q : ∀ σ H Q, t' σ H Q → t σ H Q) : PTs X e t' := ⟨fun pins s σ H Q I z => h.run pins s σ H Q I (q σ H Q z)⟩
abbrev Turn1 := List (Option Sl) → List Cell → Option D → List Cell → Prop
def InB (X : Cx) (scope : Scope) (f : Cx → Prop) : Prop := ∀ (s : Shared) (H : Hp) (C : Addr) (cl : List (Str × Addr)) (fp : List Addr), f (X.blk s H scope (compEnvC scope cl C X.env) fp)
structure DLC (X : Cx) (T : Tab) (S : Sta) (elt tg iter : Expr) (ifs : List Expr) (scope : Scope) (own : List (Str × Nat)) (wi : TI) (g : TG) (tt : TT) (te : TE) (s : Sl) (S' : Sta) : Prop where
  hi : PI X tg iter wi
  ok : BlkOk X.N X.env.scope scope own
  hg : ∀ (s : Shared) (H : Hp) (C : Addr) (cl : List (Str × Addr)) (fp : List Addr), PG (X.blk s H scope (compEnvC scope cl C X.env) fp) tg g
  ht : ∀ (s : Shared) (H : Hp) (C : Addr) (cl : List (Str × Addr)) (fp : List Addr), PTs (X.blk s H scope (compEnvC scope cl C X.env) fp) ifs tt
  he : ∀ (s : Shared) (H : Hp) (C : Addr) (cl : List (Str × Addr)) (fp : List Addr), PE (X.blk s H scope (compEnvC scope cl C X.env) fp) elt te
  rd : ∀ σ H Q, tD T X.K S s S' σ H Q → tLc wi g tt te (own.map (·.2)) σ H Q
section
variable {X : Cx} {T : Tab} {S S1 : Sta} {elt tg iter : Expr} {ifs : List Expr} {scope : Scope} {own : List (Str × Nat)} {p : Pat} {items acc : List D} {cs' : List Cell}
theorem wipe_asis {σ σ' : St} {vs : List Nat} {ns : List Nat} (h : AsIs ns (wipe σ vs) σ') (hs : ∀ i ∈ ns, i ∈ vs) : wipe σ' vs = wipe σ vs := by
  apply List.ext_getElem?
  intro i
  by_cases hi : i ∈ vs
  · have : ∀ (τ : St) (us : List Nat), i ∈ us → (wipe τ us)[i]? = if i < τ.length then some none else none := by
      intro τ us
      induction us with
      | nil => intro h; cases h
      | cons v us ih =>
        intro h
        unfold wipe
        by_cases e : v = i
        · subst e
          rw [List.getElem?_set, if_pos rfl, wipe_length]
        · rw [List.getElem?_set_ne e]
          exact ih ((List.mem_cons.mp h).resolve_left (fun q => e q.symm))
    rw [this _ _ hi, this _ _ hi, h.1, wipe_length]
  · rw [wipe_out hi, wipe_out hi, h.2 i fun z => hi (hs i z), wipe_out hi]
variable {wi : TI} {g : TG} {tt : TT} {te : TE} {s : Sl} {S' : Sta} {pos : Pos}
end
section
variable {B : Turn1} {p : Pat} {sl : List (Option Sl)} {cs : List Cell}
variable {X : Cx} {T : Tab} {scope : Scope} {elt c : Expr} {sl' : List (Option Sl)} {cs1 : List Cell} {d : D} {S2 S3 : Sta}
end
end Dl
namespace Dl
open PySem L2
section
variable {X : Cx} {T : Tab} {S S1 S2 : Sta} {e e2 : Expr} {pos p tpos : Pos} {ds es : List D} {elts : List Expr} {kk : Nat}
end
section
variable {X : Cx} {T : Tab} {n : Nat} {S S1 S2 : Sta} {a b c e tg : Expr} {pos px py pz pt pt2 : Pos} {kt k2 : Nat} {s1 s2 s3 : Sl} {d : D} {x y z : Str} {P : Post} {p : Pat} {sl' : List (Option Sl)}
end
section
variable {X : Cx} {T : Tab} {n : Nat} {S S1 : Sta} {c : Expr} {body : List Stmt} {pos : Pos} {P : Post}
end
def fIdx : List Str → Str → Option Nat
  | [], _ => none
  | g :: r, f => if f == g then some 0 else (fIdx r f).map (· + 1)
section
variable {X : Cx} {T : Tab} {n : Nat} {S S1 S2 : Sta} {e o : Expr} {es : List Expr} {pos apos p' : Pos} {ds vs : List D} {d : D} {f m : Str} {C g : Addr} {fn : List Str} {c : Ct} {k j cn : Nat} {fd : FuncData} {ps : List Str} {P : Post} {s : Sl} {ss : List Sl} {c0 c1 : Cell}
end
end Dl
namespace Dl
open PySem L2
theorem weakK {X : Cx} {e : List Keyword} {t t' : TA} (h : PK X e t) (q : ∀ σ H Q, t' σ H Q → t σ H Q) : PK X e t' := ⟨fun pos pins s σ H Q I z => h.run pos pins s σ H Q I (q σ H Q z)⟩
section
variable {X : Cx} {T : Tab} {S S1 S2 S3 : Sta} {e o : Expr} {es : List Expr} {kws : List Keyword} {nm : Option Str} {pos kpos p apos : Pos} {s : Sl} {ss : List Sl} {ds args kargs full : List D} {d : D} {x m : Str} {C g : Addr} {fn : List Str} {c : Ct} {k cn pn : Nat} {fd : FuncData} {ps ks : List Str}
  {gg : List Value → List Value → List Value} {gV : List V → List V → List V}
def Put (K : PySem.W.Frag) (gV : List V → List V → List V) (args kargs full : List D) : Prop := ∀ (x : V) (ws zs : List V), ws.length = args.length → zs.length = kargs.length → ∃ us, gV (x :: ws) zs = x :: us ∧ ∀ T M H, Reps T K M H ws args → Reps T K M H zs kargs → Reps T K M H us full
end
def tyD : D → Option String
  | .non => some "NoneType"
  | .bl _ => some "bool"
  | .int _ => some "int"
  | .str _ => some "str"
  | .tup _ => some "tuple"
  | .lst _ => some "list"
  | .scr _ => some "list"
  | .obj _ _ => none
  | .err _ _ _ _ => none
  | .cls _ => none
  | .dct _ _ => none
  | .fn _ _ => none
  | .dcn _ _ => none
structure IsiC (K : PySem.W.Frag) (C : Addr) : Prop where
  cl : Cls K C
  ca : PySem.W.findIn K (.ref C) "__class__" = some (some (.builtin "object.__class__"))
  cn : PySem.W.specialIn K (.builtin "object.__class__") "__get__" = some (some (.builtin "getset_descriptor.__get__"))
  ct : PySem.W.takesIn K (.builtin "object.__class__") = some true
  cm : PySem.W.mroIn K C (.type "object") = some true
section
variable {X : Cx} {T : Tab} {S S1 : Sta} {e : Expr} {pos p p2 : Pos} {d : D} {t u : String} {b : Bool} {x : Str} {C C2 : Addr} {cn : Nat} {fn : List Str} {ds : List D}
end
section
variable {X : Cx} {T : Tab} {C g : Addr} {fd : FuncData} {ps : List Str} {k cn : Nat} {c : Ct} {fn : List Str} {op : Operator} {ds es : List D} {d : D} {cs : List Cell} {i : Int} {uop : UnaryOp}
end
end Dl
namespace Dl
open PySem L2
section
open PySem.W
variable {prog : Program} {w : World} {A : Around} {E : Value → Shared → Prop} {s : Shared} {K : Frag} {x C f g : Addr} {ox : Obj} {od : Option Obj}
end
structure OpC (K : PySem.W.Frag) (C : Addr) (op : Operator) (g : Addr) : Prop where
  sf : PySem.W.selfFirst K C = true
  at_ : PySem.W.findIn K (.ref C) (PySem.dunder op.info.2) = some (some (.ref g))
  fn : PySem.W.isFn K (.ref g) = true
  rc : ∃ rc, PySem.W.findIn K (.ref C) (dunderR op.info.2) = some rc ∧ (rc = none ∨ ∃ g : Addr, rc = some (.ref g))
  i1 : ∃ fo, PySem.W.findIn K (.type "int") (PySem.dunder op.info.2) = some fo
  i2 : ∃ ro, PySem.W.findIn K (.type "int") (dunderR op.info.2) = some ro
  su : PySem.W.subIn K (.type "int") (.ref C) = some false
structure OpR' (K : PySem.W.Frag) (C : Addr) (op : Operator) (g : Addr) : Prop where
  sf : PySem.W.selfFirst K C = true
  lf : ∃ f : Addr, PySem.W.findIn K (.ref C) (PySem.dunder op.info.2) = some (some (.ref f))
  at_ : PySem.W.findIn K (.ref C) (dunderR op.info.2) = some (some (.ref g))
  fn : PySem.W.isFn K (.ref g) = true
  ii : ∃ fo ro, PySem.W.findIn K (.type "int") (PySem.dunder op.info.2) = some fo ∧ PySem.W.findIn K (.type "int") (dunderR op.info.2) = some ro ∧ ((fo.isSome && !isSeqSlot fo) || (ro.isSome && !isSeqSlot ro)) = true
  su : PySem.W.subIn K (.ref C) (.type "int") = some false
structure NoIn (K : PySem.W.Frag) (C : Addr) (op : Operator) : Prop where
  cl : ∃ cd, PySem.W.clsIn K C = some cd ∧ cd.mro = [.ref C, .type "object"]
  at_ : PySem.W.findIn K (.ref C) (dunderI op.info.2) = some none
  ob : PySem.W.findIn K (.type "object") (dunderI op.info.2) = some none
structure IntNi (op : Operator) : Prop where
  ex : ∃ id name F, Slot "int" (PySem.dunder op.info.2) id ∧ entryFor table id = some (Builtin.Int.intBinary name F false) ∧ ∀ a b : Value, argsOk id ⟨[a, b], []⟩
def IopD (X : Cx) (T : Tab) (op : Operator) (s1 s2 : Sl) (cs : List Cell) (s : Sl) (cs' : List Cell) : Prop := ∃ r, OpR X (inplaceOp op) r ∧ R2D T X.K r s1 s2 cs s cs'
section
variable {X : Cx} {T : Tab} {C g : Addr} {fd : FuncData} {ps : List Str} {k cn : Nat} {c : Ct} {fn : List Str} {op : Operator} {ds es : List D} {d : D} {cs : List Cell} {i j : Int}
end
end Dl
namespace Dl
open PySem L2
end Dl
namespace Dl
open PySem L2
section
variable {X : Cx} {T : Tab} {C g : Addr} {fd : FuncData} {ps : List Str} {k cn : Nat} {c : Ct} {fn : List Str} {op : CmpOp} {ds es : List D} {d : D} {cs : List Cell}
end
section
variable {X : Cx} {T : Tab} {ds : List D} {d : D} {cs : List Cell}
def fv : D → Option V
  | .non => some .non
  | .bl b => some (.bl b)
  | .int i => some (.int i)
  | .str x => some (.str x)
  | _ => none
def fvs : List D → Option (List V)
  | [] => some []
  | d :: ds => (fv d).bind fun v => (fvs ds).map (v :: ·)
end
theorem mul_l {i j : Int} (h1 : -(2 ^ 64) < i) (h2 : i < 2 ^ 64) : IntMulOk i j := CMul.ok (.inl ⟨h1, h2⟩)
end Dl
namespace Dl
open PySem L2
end Dl
namespace Dl
open PySem L2
def spL (K : PySem.W.Frag) : Sp := fun vs H Q _ => ∃ (a : Addr) (ns : List Int), vs = [.ref a] ∧ LAt K (fun _ => False) H a (ns.map V.int) ∧ ns.length ≤ 63 ∧ (∀ z ∈ ns, Builtin.Int.intBits z ≤ 1048576) ∧ ∀ H', Q (.bl true) H'
theorem spL_to {T : Tab} {K : PySem.W.Frag} {c : Ct} (h : ∀ ns : List Int, ns.length ≤ 63 → (∀ z ∈ ns, Builtin.Int.intBits z ≤ 1048576) → c [.dat (.scr (ns.map D.int))] [] (.dat (.bl true)) []) {vs : List V} {H : Hp} {Q : VK} {E : XK} (q : spL K vs H Q E) (hT : T 900 = none := by rfl) : spC T K c vs H Q E := by
  obtain ⟨a, ns, rfl, hl, hn, hb, hq⟩ := q
  refine ⟨[], fun _ => False, [.dat (.scr (ns.map D.int))], [], _, _, ⟨List.nodup_nil, fun _ z => (nomatch z), fun _ z => z.elim, fun P q z => (by rw [hT] at z; cases z), rfl, fun _ _ _ e => nomatch e⟩, ⟨Rep.scr (vs := ns.map V.int) ?_ (Reps.ints ns), trivial⟩, h ns hn hb, ?_⟩
  · rcases hl with ⟨_, o, e⟩ | e
    · exact .inl ⟨fun z => z.elim (fun z => nomatch z) id, o, e⟩
    · exact .inr e
  · intro v H' ad' _ _ _ r
    cases r
    exact hq H'
theorem spL_of {K : PySem.W.Frag} (H : Hp) (a : Addr) (ns : List Int) (hl : ns.length ≤ 63) (hb : ∀ z ∈ ns, Builtin.Int.intBits z ≤ 1048576) (hO : Only H) (hS : SqL K H a (ns.map V.int)) : spL K [.ref a] H (fun v _ => v = .bl true) fun _ _ _ => False :=
  ⟨a, ns, rfl, LAt.of hO hS, hl, hb, fun _ => rfl⟩
theorem kit_self {K : PySem.W.Frag} {C : Addr} : PySem.W.kitOne K (.ref C) (.ref C) = some true := if_pos (beq_self_eq_true _)
end Dl
namespace Dl
open PySem L2
structure CIn (K : PySem.W.Frag) (C : Addr) : Prop where
  ty : PySem.W.typeIn K (.ref C) = some (.type "type")
  rd : PySem.W.readsIn K C (.type "type") = true
  ga : PySem.W.specialIn K (.ref C) "__getattribute__" = some (some (.builtin "type.__getattribute__"))
  at_ : PySem.W.findCls K (.ref C) (.type "type") "__init__" = some (.val (.builtin "ValueError.__init__"))
open PySem.W PySem.Spec PySem.Calls PyProof.Rows in
theorem cls_exc {prog : Program} {w : World} {A : Around} {E : Value → Shared → Prop} {s : Shared} {K : Frag} {x D : Addr} {ox : Obj} {od : Option Obj} {Q : Option Value → Shared → Prop} (c : L2.ExcC K D) (X : K.In s.heap) (I : InstAt s.heap x ox D od) (h : Q (some (.ref D)) { s with toks := s.toks + 1 }) :
    wpAny (model prog w) A (getAttr? (.ref x) "__class__") Q E s := by
  have hf : findObj K D od "__class__" = some (.bind (.builtin "getset_descriptor.__get__") (.builtin "object.__class__")) := by
    obtain ⟨cd, hc, _⟩ := any_some c.hd
    unfold findObj
    rw [hc, Option.bind_some, c.ha, Option.bind_some]
    simp [c.hn, c.ht]
  obtain ⟨hp, g, d, t, os⟩ := s
  have T0 : Looks (model prog w) hp (typeOf (.ref x)) (.ref D) := I.type
  have T3 := looks_find (M := model prog w) X I hf
  have ne : (onTheHeap (Value.ref D) && Value.builtin "BaseException.__getattribute__" == Value.builtin "object.__getattribute__") = false := by
    rw [show (Value.builtin "BaseException.__getattribute__" == Value.builtin "object.__getattribute__") = false by decide +kernel]
    rfl
  unfold getAttr? getAttrBy? getAttrBy
  refine wpAny_bind (wpAny_mkText (wpAny_bind (wpAny_attempt (wpAny_holding (wpAny_bind (T0.at (wpAny_bind ((looks_findIn (M := model prog w) X c.hg).at ?_))))))))
  show wpAny _ _ (ite ((onTheHeap (Value.ref D) && Value.builtin "BaseException.__getattribute__" == Value.builtin "object.__getattribute__") = true) _ _) _ _ _
  rw [ne, if_neg Bool.false_ne_true]
  unfold getAttrByItsOwn hookBefore
  refine wpAny_bind ?_
  rw [if_pos (show onTheHeap (Value.ref D) = true from rfl)]
  refine (looks_findIn (M := model prog w) X c.hk).at (wpAny_bind (wpAny_attempt (wpAny_holding ?_)))
  unfold callGetattribute
  rw [show (false && onTheHeap (Value.builtin "BaseException.__getattribute__")) = false from rfl, if_neg Bool.false_ne_true]
  unfold boundAndCalled
  rw [PySem.F.excAttr_ValueError.ga.bind (.ref x)]
  refine wpAny_bind (wpAny_pure ?_)
  show wpAny _ _ (call (.builtin "BaseException.__getattribute__") [.ref x, .str "__class__" t]) _ _ _
  refine wpAny_call (codeAny_call_builtin PySem.F.excAttr_ValueError.ga.plain PySem.F.entry_bexc_ga ?_)
  refine @check_slot (model prog w) _ _ ⟨hp, g, d, t + 1, os⟩ "BaseException.__getattribute__" "BaseException" "__getattribute__" (.ref x) [.str "__class__" t] [] _ (by decide +kernel) (by decide +kernel) (T0.andThen (looks_subIn X c.hs)) (PySem.F.args_bexc_ga (.ref x) (.str "__class__" t)) ?_
  unfold Builtin.«object.__getattribute__»
  refine wpAny_bind (wpAny_of_eq (a := ((Value.ref x : Value), [Value.str "__class__" t])) (by first | rfl | (simp only [slotArgs]; rfl)) ?_)
  refine wpAny_bind (wpAny_pure (wpAny_bind (T0.at (wpAny_bind (T3.at ?_)))))
  show wpAny _ _ (holding [Value.builtin "object.__class__"] (call (.builtin "getset_descriptor.__get__") [.builtin "object.__class__", .ref x, .ref D]) >>= ret) _ _ _
  refine wpAny_bind (wpAny_holding (wpAny_call (class_get (s := ⟨hp, g, d, t + 1, os⟩) (ox := ox) (od := od) X I c.hm (wpAny_pure ?_))))
  show wpAny _ _ (handedOut (.ref D)) _ _ _
  rw [handedOut_of (v := .ref D) rfl]
  first
    | exact wpAny_pure (wpAny_pure h)
    | exact wpAny_pure h
    | exact wpAny_pure (wpAny_bind (wpAny_pure (wpAny_pure h)))
open PySem.W PySem.Spec PySem.Calls PyProof.Rows in
theorem kit_exc {K : Frag} {x D : Addr} {ox : Obj} {od : Option Obj} (c : L2.ExcC K D) : KitX K (.ref x) (.ref D) (fun h => InstAt h x ox D od) := by
  have q0 := handS_kitx_exc (K := K) (x := x) (D := D) (ox := ox) c.hg c.hk c.hs c.hd c.ha c.hn c.ht c.hm
  refine { ty := fun _ _ _ I => I.type, it := fun _ _ X _ => ?_, ne := q0.ne, ca := fun X I k => cls_exc c X I k }
  obtain ⟨cd, hc, _⟩ := any_some c.hd
  intro A' Q' E' s' k q
  unfold clsIn at hc
  split at hc
  · rename_i ho
    unfold isType loadHead
    exact wpAny_bind (wpAny_loadPart (k _ _ (X _ _ ho)) (wpAny_pure q))
  · cases hc
section
variable {X : Cx} {T : Tab} {a C Ce : Addr} {oe : Obj} {d : Option Addr} {pn : List (Addr × Obj)} {S S1 S2 : Sta} {e e2 : Expr} {pos p : Pos} {n : Nat} {fs : List D} {b : Bool} {fn : List Str} {x : Str}
theorem refs_of : ∀ {cs : List Addr} {us : List Value}, Vals (cs.map V.ref) us → us = cs.map Value.ref
  | [], _, .nil => rfl
  | c :: cs, _, .cons r t => by
    rw [refs_of t]
    cases (show _ = Value.ref c from r)
    rfl
structure Err (X : Cx) (T : Tab) (n : Nat) (a : Addr) (d : Option Addr) (Ce : Addr) (oe : Obj) : Prop where
  ec : ExcC X.K Ce
  hz : Zc (.ref Ce) d oe
  hf : ∃ vs, oe.data = .fields vs
  ht : ∃ fn, T n = some (Ce, fn)
end
end Dl
namespace Dl
open PySem L2
abbrev CtX := List Sl → List Cell → Exc → List Cell → Prop
def spX (T : Tab) (K : PySem.W.Frag) (c : Ct) (cx : CtX) : Sp := fun vs H Q E => spC T K c vs H Q E ∨ ∃ ad F args cs x cs', HoldC T K ad F H cs ∧ SlReps T K ad F H vs args ∧ cx args cs x cs' ∧
  ∀ cls d H' ad', ExtS cs.length ad F H ad' H' → cs.length ≤ ad'.length → HoldC T K ad' F H' cs' → ExRep T K (Mm ad' F) H' cls d x → E cls d H'
abbrev endX (n : Nat) (E : XK) (x : Exc) (cs' : List Cell) : Post := { nx := fun _ => False, rt := fun _ _ => False, ex := fun y S => y = x ∧ S.cs.take n = cs', W := fun cls d _ H => E cls d H }
abbrev cxX (P : Program) (w : World) (K : PySem.W.Frag) (mg : Str → Option Value) (base : Heap) (N : List Str) (qual : Str) (st : Stmt) (f : Addr) (cdv : Value) (A : Around) (outer : List Env) (s : Shared) (H : Hp) (E : XK) : Cx := cxOf (L2.CX P w) P w K mg base N qual (defScope st) f cdv A outer s H E
section
variable {T : Tab} {P : Program} {w : World} {K : PySem.W.Frag} {mg : Str → Option Value} {base : Heap}
theorem fn_okX {x qual : Str} {st : Stmt} {f : Addr} {fd : FuncData} {N ps : List Str} {k : Nat} {c : Ct} {cx : CtX} (F : Fun K x qual st f fd) (Sc : FnScope N ps (defScope st)) (len : ∀ args cs s cs', c args cs s cs' → args.length = ps.length) (lenX : ∀ args cs x cs', cx args cs x cs' → args.length = ps.length)
    (body : ∀ cdv A outer sh H E, Room k (cxX P w K mg base N qual st f cdv A outer sh H E).nox.A → ∀ args cs s cs', c args cs s cs' →
      DSs (cxX P w K mg base N qual st f cdv A outer sh H E).nox T cs.length (st0 N args cs) (defBody st) (endOf cs.length s cs'))
    (bodyX : ∀ cdv A outer sh H E, Room k (cxX P w K mg base N qual st f cdv A outer sh H E).A → Takes (cxX P w K mg base N qual st f cdv A outer sh H E) (fun cls d _ H => E cls d H) → ∀ args cs x cs', cx args cs x cs' →
      DSs (cxX P w K mg base N qual st f cdv A outer sh H E) T cs.length (st0 N args cs) (defBody st) (endX cs.length E x cs')) : FnOk P w K mg base (L2.CX P w) (k + 1) f fd ps (spX T K c cx) := by
  refine F.okX Sc (fun vs H Q E h => ?_) (fun cdv A outer s H vs Q E hr h => ?_)
  · rcases h with ⟨ad, F', args, cs, s, cs', _, r, hc, _⟩ | ⟨ad, F', args, cs, s, cs', _, r, hc, _⟩
    · rw [r.len, len _ _ _ _ hc]
    · rw [r.len, lenX _ _ _ _ hc]
  · rcases h with ⟨ad, F', args, cs, s0, cs', hc, r, h, q⟩ | ⟨ad, F', args, cs, x0, cs', hc, r, h, q⟩
    · refine ⟨_, PSs.nox (body cdv A outer s H E hr args cs s0 cs' h), ad, F', Nat.le_of_eq hc.ln.symm, start_hold hc r, ?_, ?_, fun _ _ _ _ _ _ _ z => z.elim, fun _ _ _ _ _ _ _ z => z.elim, fun _ _ _ _ _ _ _ _ _ _ _ z => z.elim⟩
      · rintro S' σ' H' ad' x hn h' ⟨rfl, e⟩
        subst e
        refine q .non H' (ad'.take cs.length) ⟨by rw [List.take_take, Nat.min_self]; exact x.pre, fun a ha => x.sub a (List.mem_of_mem_take ha), x.keep, x.frm⟩ (by rw [List.length_take]; omega) (h'.hc.take _) Rep.non
      · rintro s2 cs2 v H' ad' x hn c2 r2 ⟨rfl, rfl⟩
        exact q v H' ad' x hn c2 r2
    · have tk : Takes (cxX P w K mg base N qual st f cdv A outer s H E) (fun cls d _ H => E cls d H) := takes_of rfl rfl rfl rfl
      refine ⟨_, bodyX cdv A outer s H E hr tk args cs x0 cs' h, ad, F', Nat.le_of_eq hc.ln.symm, start_hold hc r, fun _ _ _ _ _ _ _ z => z.elim, fun _ _ _ _ _ _ _ _ _ z => z.elim, fun _ _ _ _ _ _ _ z => z.elim, fun _ _ _ _ _ _ _ z => z.elim, ?_⟩
      rintro y S' cls d σ' H' ad' x hn h' er ⟨rfl, e⟩
      subst e
      have kp : Kp (Mm ad' F') H' (Mm (ad'.take cs.length) F') H' := fun a o e z => ⟨e, fun y => z (y.imp List.mem_of_mem_take id)⟩
      refine q cls d H' (ad'.take cs.length) ⟨by rw [List.take_take, Nat.min_self]; exact x.pre, fun a ha => x.sub a (List.mem_of_mem_take ha), x.keep, x.frm⟩ (by rw [List.length_take]; omega) (h'.hc.take _) ?_
      obtain ⟨C, fn, e1, e2, er⟩ := er
      refine ⟨C, fn, e1, e2, er.imp id ?_⟩
      rintro ⟨dd, vs', a1, a2, a3, a4, a5⟩
      exact ⟨dd, vs', a1, (kp _ _ a3 a2).2, a3, a4, a5.kp kp⟩
end
end Dl
namespace Dl
open PySem L2
theorem noA {X : Cx} {es : List Expr} : PA X es (fun _ _ _ => False) := ⟨fun _ _ _ _ _ _ _ z => z.elim⟩
section
variable {X : Cx} {T : Tab} {W : WX} {S S1 S2 : Sta} {e e2 o : Expr} {es : List Expr} {x : Exc} {s : Sl} {pos p apos : Pos} {n : Nat} {P : Post}
theorem spX_at {K : PySem.W.Frag} {ad : List Addr} {F : Addr → Prop} {H : Hp} {cs : List Cell} {vs : List V} {Q : VK} {E : XK} {c : Ct} {cx : CtX} {ds : List D} (hx : cx (ds.map Sl.dat) [] x []) (h : HoldC T K ad F H cs) (r : SlReps T K ad F H vs (ds.map Sl.dat))
    (q : ∀ cls d H' , Ext ad F H ad H' → HoldC T K ad F H' cs → ExRep T K (Mm ad F) H' cls d x → E cls d H') : spX T K c cx vs H Q E := by
  refine .inr ⟨[], Mm ad F, ds.map Sl.dat, [], x, [], frame0 h, SlReps.kp (M := Mm ad F) (kp_in h) r, hx, fun cls d H' ad' x2 _ c2 er => ?_⟩
  obtain ⟨c3, x3⟩ := back0 h c2.tb x2
  refine q cls d H' x3 c3 ?_
  obtain ⟨C, fn, e1, e2, er⟩ := er
  refine ⟨C, fn, e1, e2, er.imp id ?_⟩
  rintro ⟨dd, vs', a1, a2, a3, a4, a5⟩
  exact ⟨dd, vs', a1, fun z => a2 (.inr z), a3, a4, a5.kp kp_out⟩
end
end Dl
namespace Dl
open PySem L2
section
variable {X : Cx} {T : Tab} {n : Nat} {S S1 : Sta} {P : Post} {body suite orelse : List Stmt} {b0 h0' : Stmt} {hs' : List ExceptHandler} {pos pos' np : Pos}
theorem Hold.unset {K : PySem.W.Frag} {ad : List Addr} {F : Addr → Prop} {σ : St} {H : Hp} (h : Hold T K S ad F σ H) (i : Nat) : Hold T K ⟨S.sl.set i none, S.cs⟩ ad F (σ.set i none) H := by
  refine ⟨h.hc, by simp [h.sz], fun j u e => ?_⟩
  have e : (S.sl.set i none)[j]? = some (some u) := e
  by_cases hj : i = j
  · subst hj
    rw [List.getElem?_set] at e
    split at e
    · split at e <;> cases e
    · exact absurd rfl ‹_›
  · rw [List.getElem?_set_ne hj] at e
    obtain ⟨v, hv, r⟩ := h.sl j u e
    exact ⟨v, by rw [List.getElem?_set_ne hj]; exact hv, r⟩
end
end Dl
namespace Dl
open PySem L2
section
variable {X : Cx} {T : Tab} {C g : Addr} {fd : FuncData} {ps : List Str} {k cn : Nat} {c : Ct} {fn : List Str} {ds : List D} {d : D} {cs : List Cell}
end
end Dl
namespace Dl
open PySem L2
section
variable {X : Cx} {T : Tab} {cs : List Cell}
def repS (x : Str) (n : Int) : Str := if n < 1 then Str.empty else if (n == 1 || x.length == 0) = true then x else ⟨(List.replicate n.toNat x.cps).foldl (· ++ ·) #[]⟩
theorem op_mulS : OpR X (binaryOp .Mult) (fun x y H Q => ∃ (z : Str) (n : Int), x = .str z ∧ y = .int n ∧ z.length ≤ 1000 ∧ (-1000 ≤ n ∧ n ≤ 1000) ∧ (repS z n).length ≤ sizeLine ∧ Q (.str (repS z n)) H) := by
  intro pins s σ H x y v u Q I rx ry h
  obtain ⟨z, n, rfl, rfl, hz, ⟨h1, h2⟩, hl, q⟩ := h
  obtain ⟨t, rfl⟩ := rx
  obtain ⟨t2, rfl⟩ := ry
  refine PySem.P.mul_str ?_ (fun a _ => ?_) (fun a _ => ?_) ?_
  · rw [decide_eq_false (by omega), decide_eq_false (by omega)]; rfl
  · have e : (z.length : Int) * n ≤ 1000 * 1000 := Int.mul_le_mul (by omega) h2 (by omega) (by decide)
    have e2 : (z.length : Int) ≤ (2 ^ 63 - 1) / n := (Int.le_ediv_iff_mul_le (by omega)).mpr (by omega)
    omega
  · have e : z.length * n.toNat ≤ 1000 * 1000 := Nat.mul_le_mul hz (by omega)
    have e3 : sizeLine = 16777216 := sizeLine_eq
    exact decide_eq_false (by omega)
  · unfold repS at q hl
    split
    · rename_i h
      rw [if_pos h] at q hl
      exact ⟨hl, .str _, H, I.tok _, ⟨_, rfl⟩, q⟩
    · rename_i h
      rw [if_neg h] at q hl
      split
      · rename_i h'
        rw [if_pos h'] at q hl
        exact ⟨.str _, H, I, ⟨_, rfl⟩, q⟩
      · rename_i h'
        rw [if_neg h'] at q hl
        exact ⟨hl, .str _, H, I.tok _, ⟨_, rfl⟩, q⟩
theorem bin_mulS {x : Str} {n : Int} (h1 : x.length ≤ 1000) (h2 : -1000 ≤ n ∧ n ≤ 1000) (hl : (repS x n).length ≤ sizeLine) : BinD X T .Mult (.dat (.str x)) (.dat (.int n)) cs (.dat (.str (repS x n))) cs := ⟨_, op_mulS, fun ad F H v w Q c r1 r2 q => by
  cases r1
  cases r2
  exact ⟨x, n, rfl, rfl, h1, h2, hl, q _ H ad .refl c Rep.str⟩⟩
theorem cb_intS {x : Str} {n : Int} (h : PySem.intText? x = some n) (hl : x.length ≤ 640) : CalB X T "int" [.dat (.str x)] cs (.dat (.int n)) cs := ⟨_, _, by decide +kernel, .inr ⟨_, rfl⟩, call_int_str, fun ad F H vs Q c r q => by
  match vs, r with
  | [v], r =>
    have r1 := r.1
    cases r1
    exact ⟨x, n, rfl, h, hl, q _ H ad .refl c Rep.int⟩⟩
end
end Dl
namespace Dl
open PySem L2
abbrev Sls := List (Option Sl)
abbrev RV := Sl → List Cell → Prop
abbrev RB := Bool → List Cell → Prop
abbrev RA := List Sl → List Cell → Prop
abbrev RX := Exc → List Cell → Prop
abbrev WpE := Sls → List Cell → RV → RX → Prop
abbrev WpT := Sls → List Cell → RB → RX → Prop
abbrev WpA := Sls → List Cell → RA → RX → Prop
structure Br (b : Bool) (p q : Prop) : Prop where
  t : b = true → p
  f : b = false → q
def noX : RX := fun _ _ => False
def W0 : WX := fun _ _ _ _ => False
theorem tk0 {X : Cx} : Takes X W0 := fun u s' ⟨_, _, _, _, _, _, _, _, _, _, _, _, _, _, _, _, w⟩ => w.elim
def Raz (T : Tab) (K : PySem.W.Frag) (W : WX) (σ : St) (ad : List Addr) (F : Addr → Prop) (H : Hp) (sl : Sls) (Rx : RX) : Prop := ∀ x c cls d H' ad', Rx x c → Ext ad F H ad' H' → Hold T K ⟨sl, c⟩ ad' F σ H' → ExRep T K (Mm ad' F) H' cls d x → W cls d σ H'
theorem Raz.on {T : Tab} {K : PySem.W.Frag} {W : WX} {σ : St} {ad ad1 : List Addr} {F : Addr → Prop} {H H1 : Hp} {sl : Sls} {Rx : RX} {S : Sta} (q : Raz T K W σ ad F H sl Rx) (x1 : Ext ad F H ad1 H1) (h1 : Hold T K S ad1 F σ H1) : Raz T K W σ ad1 F H1 sl Rx := fun x c cls d H' ad' hx x2 h2 er => q x c cls d H' ad' hx (x1.trans h1.hc x2) h2 er
theorem Raz.no {T : Tab} {K : PySem.W.Frag} {W : WX} {σ : St} {ad : List Addr} {F : Addr → Prop} {H : Hp} {sl : Sls} : Raz T K W σ ad F H sl noX := fun _ _ _ _ _ _ z => z.elim
def tJ (T : Tab) (K : PySem.W.Frag) (W : WX) (w : WpE) : TE := fun σ H Q => ∃ ad F sl cs R Rx, Hold T K ⟨sl, cs⟩ ad F σ H ∧ w sl cs R Rx ∧
  (∀ s c v H' ad', R s c → Ext ad F H ad' H' → Hold T K ⟨sl, c⟩ ad' F σ H' → SlRep T K ad' F H' v s → Q v H') ∧ Raz T K W σ ad F H sl Rx
def tJT (T : Tab) (K : PySem.W.Frag) (W : WX) (w : WpT) : TT := fun σ H Q => ∃ ad F sl cs R Rx, Hold T K ⟨sl, cs⟩ ad F σ H ∧ w sl cs R Rx ∧
  (∀ b c H' ad', R b c → Ext ad F H ad' H' → Hold T K ⟨sl, c⟩ ad' F σ H' → Q b H') ∧ Raz T K W σ ad F H sl Rx
def tJA (T : Tab) (K : PySem.W.Frag) (W : WX) (w : WpA) : TA := fun σ H Q => ∃ ad F sl cs R Rx, Hold T K ⟨sl, cs⟩ ad F σ H ∧ w sl cs R Rx ∧
  (∀ ss c vs H' ad', R ss c → Ext ad F H ad' H' → Hold T K ⟨sl, c⟩ ad' F σ H' → SlReps T K ad' F H' vs ss → Q vs H') ∧ Raz T K W σ ad F H sl Rx
def JE (X : Cx) (T : Tab) (W : WX) (e : Expr) (w : WpE) : Prop := PE X e (tJ T X.K W w)
def JT (X : Cx) (T : Tab) (W : WX) (e : Expr) (w : WpT) : Prop := PT X e (tJT T X.K W w)
def JW (X : Cx) (T : Tab) (W : WX) (e : Expr) (w : WpT) : Prop := PW X e (tJT T X.K W w)
def JA (X : Cx) (T : Tab) (W : WX) (es : List Expr) (w : WpA) : Prop := PA X es (tJA T X.K W w)
abbrev W2 := Sl → Sl → List Cell → RV → Prop
abbrev W1 := Sl → List Cell → RV → Prop
def JBin (X : Cx) (T : Tab) (op : Operator) (w : W2) : Prop := ∀ s1 s2 cs R, w s1 s2 cs R → ∃ s cs', BinD X T op s1 s2 cs s cs' ∧ R s cs'
def JIop (X : Cx) (T : Tab) (op : Operator) (w : W2) : Prop := ∀ s1 s2 cs R, w s1 s2 cs R → ∃ s cs', IopD X T op s1 s2 cs s cs' ∧ R s cs'
def JCmp (X : Cx) (T : Tab) (op : CmpOp) (w : W2) : Prop := ∀ s1 s2 cs R, w s1 s2 cs R → ∃ s cs', CmpD X T op s1 s2 cs s cs' ∧ R s cs'
def JIx (X : Cx) (T : Tab) (w : W2) : Prop := ∀ s1 s2 cs R, w s1 s2 cs R → ∃ s cs', IxD X T s1 s2 cs s cs' ∧ R s cs'
def JUn (X : Cx) (T : Tab) (op : UnaryOp) (w : W1) : Prop := ∀ s1 cs R, w s1 cs R → ∃ s cs', UnD X T op s1 cs s cs' ∧ R s cs'
section
variable {X : Cx} {T : Tab}
def dats : List Sl → Option (List D)
  | [] => some []
  | .dat d :: r => (dats r).map (d :: ·)
  | .cel _ :: _ => none
theorem dats_eq : ∀ {ss : List Sl} {ds : List D}, dats ss = some ds → ss = ds.map Sl.dat
  | [], ds, h => by cases h; rfl
  | .dat d :: r, ds, h => by
    cases q : dats r with
    | none => simp [dats, q] at h
    | some l =>
      simp [dats, q] at h
      subst h
      rw [dats_eq q]
      rfl
  | .cel _ :: _, _, h => nomatch h
def wDats (ss : List Sl) (k : List D → Prop) : Prop := match dats ss with
  | some ds => k ds
  | none => False
theorem wDats_of {ss : List Sl} {k : List D → Prop} (h : wDats ss k) : ∃ ds, ss = ds.map Sl.dat ∧ k ds := by
  unfold wDats at h
  split at h
  · rename_i ds e
    exact ⟨ds, dats_eq e, h⟩
  · exact h.elim
def isB (s : Sl) (k : Bool → Prop) : Prop := match s with
  | .dat (.bl b) => k b
  | _ => False
theorem isB_of {s : Sl} {k : Bool → Prop} (h : isB s k) : ∃ b, s = .dat (.bl b) ∧ k b := by
  unfold isB at h
  split at h
  · exact ⟨_, rfl, h⟩
  · exact h.elim
def truW (s : Sl) (cs : List Cell) (k : Bool → Prop) : Prop := match s with
  | .dat (.bl b) => k b
  | .dat (.int i) => k (i != 0)
  | .dat .non => k false
  | .dat (.lst ds) => k (!ds.isEmpty)
  | .dat (.tup ds) => k (!ds.isEmpty)
  | .dat (.str x) => x.length ≤ sizeLine ∧ k ((x.length : Int) != 0)
  | .cel j => match cs[j]? with
    | some (.lst ds) => k (!ds.isEmpty)
    | some (.dct kvs) => k (!kvs.isEmpty)
    | _ => False
  | _ => False
def TruS (T : Tab) (K : PySem.W.Frag) (s : Sl) (cs : List Cell) (k : Bool) : Prop := ∀ ad F H v, HoldC T K ad F H cs → SlRep T K ad F H v s → TruV K v H k
theorem truW_of {K : PySem.W.Frag} {s : Sl} {cs : List Cell} {k : Bool → Prop} (h : truW s cs k) : ∃ b, TruS T K s cs b ∧ k b := by
  have lst : ∀ {M : Addr → Prop} {H : Hp} {vs : List V} {ds : List D}, Reps T K M H vs ds → vs.isEmpty = ds.isEmpty := fun r => by cases r <;> rfl
  unfold truW at h
  split at h
  · exact ⟨_, fun ad F H v c r => by cases r; exact rfl, h⟩
  · exact ⟨_, fun ad F H v c r => by cases r; exact rfl, h⟩
  · exact ⟨_, fun ad F H v c r => by cases r; exact rfl, h⟩
  · exact ⟨_, fun ad F H v c r => by
      cases r with
      | lst n e r => exact .inl ⟨_, .inl (.inl e), by rw [lst r]⟩, h⟩
  · exact ⟨_, fun ad F H v c r => by
      cases r with
      | tup e r => exact .inr (.inl ⟨_, e.sq, by rw [lst r]⟩), h⟩
  · exact ⟨_, fun ad F H v c r => by cases r; exact ⟨h.1, rfl⟩, h.2⟩
  · rename_i j
    split at h
    · rename_i ds e
      exact ⟨_, fun ad F H v c r => by
        obtain ⟨a, ha, rfl⟩ := r
        obtain ⟨vs, e1, r1⟩ := c.ce j a _ ha e
        exact .inl ⟨_, .inl (.inl e1), by rw [lst r1]⟩, h⟩
    · rename_i kvs e
      exact ⟨_, fun ad F H v c r => by
        obtain ⟨a, ha, rfl⟩ := r
        obtain ⟨vs, e1, hl, r1⟩ := c.ce j a _ ha e
        refine .inr (.inr ⟨_, e1, ?_⟩)
        cases kvs with
        | nil =>
          cases vs with
          | nil => rfl
          | cons v vs => cases hl
        | cons q r =>
          cases vs with
          | nil => cases hl
          | cons v vs => rfl, h⟩
    · exact h.elim
  · exact h.elim
def lstOf (cs : List Cell) : Sl → Option (List D)
  | .dat (.lst ds) => some ds
  | .cel k => match cs[k]? with
    | some (.lst ds) => some ds
    | _ => none
  | _ => none
theorem lstOf_is {cs : List Cell} {s : Sl} {ds : List D} (h : lstOf cs s = some ds) : isLst cs ds s := by
  unfold lstOf at h
  split at h
  · cases h; exact rfl
  · split at h
    · rename_i e
      cases h; exact e
    · cases h
  · cases h
def wL (cs : List Cell) (s : Sl) (k : List D → Prop) : Prop := match lstOf cs s with
  | some ds => k ds
  | none => False
theorem wL_of {cs : List Cell} {s : Sl} {k : List D → Prop} (h : wL cs s k) : ∃ ds, isLst cs ds s ∧ k ds := by
  unfold wL at h
  split at h
  · rename_i ds e
    exact ⟨ds, lstOf_is e, h⟩
  · exact h.elim
def addW : W2 := fun s1 s2 cs R => match s1, s2 with
  | .dat (.int i), .dat (.int j) => R (.dat (.int (i + j))) cs
  | .dat (.str x), .dat (.str y) => x.length + y.length ≤ sizeLine ∧ R (.dat (.str (x ++ y))) cs
  | .dat (.tup ds), .dat (.tup es) => ds.length + es.length ≤ sizeLine ∧ R (.dat (.tup (ds ++ es))) cs
  | s1, s2 => wL cs s1 fun ds => wL cs s2 fun es => ds.length + es.length ≤ sizeLine ∧ R (.dat (.lst (ds ++ es))) cs
theorem jb_add : JBin X T .Add addW := fun s1 s2 cs R h => by
  unfold addW at h
  split at h
  · exact ⟨_, _, bin_add, h⟩
  · exact ⟨_, _, bin_addS h.1, h.2⟩
  · exact ⟨_, _, bin_addT h.1, h.2⟩
  · obtain ⟨ds, h1, h⟩ := wL_of h
    obtain ⟨es, h2, h⟩ := wL_of h
    exact ⟨_, _, bin_addL h1 h2 h.1, h.2⟩
def intW (C : Int → Int → Prop) (g : Int → Int → D) : W2 := fun s1 s2 cs R => match s1, s2 with
  | .dat (.int i), .dat (.int j) => C i j ∧ R (.dat (g i j)) cs
  | _, _ => False
def intW0 (g : Int → Int → D) : W2 := fun s1 s2 cs R => match s1, s2 with
  | .dat (.int i), .dat (.int j) => R (.dat (g i j)) cs
  | _, _ => False
def subW : W2 := intW0 fun i j => .int (i - j)
theorem jb_sub : JBin X T .Sub subW := fun s1 s2 cs R h => by
  unfold subW intW0 at h
  split at h
  · exact ⟨_, _, bin_sub, h⟩
  · exact h.elim
def MulC (i j : Int) : Prop := IntMulOk i j
def mulW : W2 := fun s1 s2 cs R => match s1, s2 with
  | .dat (.int i), .dat (.int j) => MulC i j ∧ R (.dat (.int (i * j))) cs
  | .dat (.str x), .dat (.int n) => x.length ≤ 1000 ∧ (-1000 ≤ n ∧ n ≤ 1000) ∧ (repS x n).length ≤ sizeLine ∧ R (.dat (.str (repS x n))) cs
  | s1, .dat (.int j) => wL cs s1 fun ds => (-(2 ^ 63) ≤ j ∧ j < 2 ^ 63 ∧ ds.length * j.toNat ≤ sizeLine) ∧ R (.dat (.lst (List.replicate j.toNat ds).flatten)) cs
  | _, _ => False
theorem jb_mul : JBin X T .Mult mulW := fun s1 s2 cs R h => by
  unfold mulW at h
  split at h
  · exact ⟨_, _, bin_mul h.1, h.2⟩
  · exact ⟨_, _, bin_mulS h.1 h.2.1 h.2.2.1, h.2.2.2⟩
  · obtain ⟨ds, h1, ⟨h2, h3, h4⟩, h⟩ := wL_of h
    exact ⟨_, _, bin_repL h1 h2 h3 h4, h⟩
  · exact h.elim
def DivC (i j : Int) : Prop := CDivW i j
def fdivW : W2 := intW DivC fun i j => .int (i / j)
theorem jb_fdiv : JBin X T .FloorDiv fdivW := fun s1 s2 cs R h => by
  unfold fdivW intW at h
  split at h
  · exact ⟨_, _, bin_fdiv h.1, h.2⟩
  · exact h.elim
def ModC (_ j : Int) : Prop := 0 < j
def modW : W2 := intW ModC fun i j => .int (i % j)
theorem jb_mod : JBin X T .Mod modW := fun s1 s2 cs R h => by
  unfold modW intW at h
  split at h
  · exact ⟨_, _, bin_mod h.1, h.2⟩
  · exact h.elim
def PowC (i j : Int) : Prop := CPow i j
def powW : W2 := intW PowC fun i j => .int (i ^ j.toNat)
theorem jb_pow : JBin X T .Pow powW := fun s1 s2 cs R h => by
  unfold powW intW at h
  split at h
  · exact ⟨_, _, bin_pow h.1, h.2⟩
  · exact h.elim
def negW : W1 := fun s1 cs R => match s1 with
  | .dat (.int i) => R (.dat (.int (-i))) cs
  | _ => False
def ltW : W2 := intW0 fun i j => .bl (decide (i < j))
def gtW : W2 := intW0 fun i j => .bl (decide (j < i))
def geW : W2 := intW0 fun i j => .bl (decide (j ≤ i))
theorem jc_lt : JCmp X T .Lt ltW := fun s1 s2 cs R h => by
  unfold ltW intW0 at h
  split at h
  · exact ⟨_, _, cmp_lt, h⟩
  · exact h.elim
theorem jc_gt : JCmp X T .Gt gtW := fun s1 s2 cs R h => by
  unfold gtW intW0 at h
  split at h
  · exact ⟨_, _, cmp_gt, h⟩
  · exact h.elim
theorem jc_ge : JCmp X T .GtE geW := fun s1 s2 cs R h => by
  unfold geW intW0 at h
  split at h
  · exact ⟨_, _, cmp_ge, h⟩
  · exact h.elim
def eqW (neg : Bool) : W2 := fun s1 s2 cs R => match s1, s2 with
  | .dat (.int i), .dat (.int j) => R (.dat (.bl (neg.xor (decide (i = j))))) cs
  | .dat (.str i), .dat (.str j) => R (.dat (.bl (neg.xor (decide (i = j))))) cs
  | .dat (.bl i), .dat (.bl j) => R (.dat (.bl (neg.xor (i == j)))) cs
  | .dat d1, .dat d2 => okD d1 = true ∧ okD d2 = true ∧ R (.dat (.bl (neg.xor (eqD d1 d2)))) cs
  | _, _ => False
theorem jc_eq (hu : X.A.units + 64 < cLine) : JCmp X T .Eq (eqW false) := fun s1 s2 cs R h => by
  unfold eqW at h
  split at h
  · exact ⟨_, _, cmp_eqI, by simpa using h⟩
  · exact ⟨_, _, cmp_eqS, by simpa using h⟩
  · exact ⟨_, _, cmp_eqB, by simpa using h⟩
  · exact ⟨_, _, cmp_eqD hu h.1 h.2.1, by simpa using h.2.2⟩
  · exact h.elim
theorem jc_ne (hu : X.A.units + 64 < cLine) : JCmp X T .NotEq (eqW true) := fun s1 s2 cs R h => by
  unfold eqW at h
  split at h
  · exact ⟨_, _, cmp_neI, by simpa using h⟩
  · exact ⟨_, _, cmp_neS, by simpa using h⟩
  · exact ⟨_, _, cmp_neB, by simpa using h⟩
  · exact ⟨_, _, cmp_neD hu h.1 h.2.1, by simpa using h.2.2⟩
  · exact h.elim
def inW' (neg : Bool) : W2 := fun s1 s2 cs R => match s1, s2 with
  | .dat d, .dat (.tup ds) => match fv d, fvs ds with
    | some v, some ws => R (.dat (.bl (neg.xor (inV v ws)))) cs
    | _, _ => False
  | _, _ => False
def atW (ds : List D) (i : Int) (k : D → Prop) : Prop := match atI ds i with
  | some d => k d
  | none => False
theorem atW_of {ds : List D} {i : Int} {k : D → Prop} (h : atW ds i k) : ∃ d, atI ds i = some d ∧ k d := by
  unfold atW at h
  split at h
  · exact ⟨_, ‹_›, h⟩
  · exact h.elim
theorem atW_i {ds : List D} {i : Int} {k : D → Prop} {d : D} (e : atI ds i = some d) (h : k d) : atW ds i k := by
  unfold atW
  rw [e]
  exact h
def ixW : W2 := fun s1 s2 cs R => match s1, s2 with
  | .dat (.lst ds), .dat (.int i) => atW ds i fun d => R (.dat d) cs
  | .dat (.tup ds), .dat (.int i) => atW ds i fun d => R (.dat d) cs
  | .dat (.scr ds), .dat (.int i) => atW ds i fun d => R (.dat d) cs
  | .dat (.str x), .dat (.int i) => x.length ≤ sizeLine ∧ ∃ c, atI x.cps.toList i = some c ∧ R (.dat (.str ⟨#[c]⟩)) cs
  | .cel k, .dat (.int i) => match cs[k]? with
    | some (.lst ds) => atW ds i fun d => R (.dat d) cs
    | _ => False
  | _, _ => False
theorem ji_ix : JIx X T ixW := fun s1 s2 cs R h => by
  unfold ixW at h
  split at h
  · obtain ⟨d, e, h⟩ := atW_of h; exact ⟨_, _, ix_L e, h⟩
  · obtain ⟨d, e, h⟩ := atW_of h; exact ⟨_, _, ix_T e, h⟩
  · obtain ⟨d, e, h⟩ := atW_of h; exact ⟨_, _, ix_R e, h⟩
  · obtain ⟨hl, c, e, h⟩ := h; exact ⟨_, _, ix_S hl e, h⟩
  · split at h
    · rename_i e
      obtain ⟨d, e1, h⟩ := atW_of h; exact ⟨_, _, ix_C e e1, h⟩
    · exact h.elim
  · exact h.elim
def slcW (s1 : Sl) (l u : Option Int) (cs : List Cell) (R : RV) : Prop := match s1 with
  | .dat (.tup ds) => R (.dat (.tup (cutD ds l u))) cs
  | s1 => wL cs s1 fun ds => R (.dat (.lst (cutD ds l u))) cs
abbrev WC := List Sl → List Cell → RV → Prop
structure JCall (X : Cx) (T : Tab) (x : Str) (w : WC) : Prop where
  bo : ∃ u, bootBuiltins x = some u ∧ ((∃ id, u = .builtin id) ∨ ∃ id, u = .type id)
  run : ∀ ss cs R, w ss cs R → ∃ s cs', CalB X T x ss cs s cs' ∧ R s cs'
def lenW : WC := fun ss cs R => match ss with
  | [.dat (.tup ds)] => R (.dat (.int ds.length)) cs
  | [.dat (.scr ds)] => R (.dat (.int ds.length)) cs
  | [.dat (.str x)] => x.length ≤ sizeLine ∧ R (.dat (.int x.length)) cs
  | [s] => wL cs s fun ds => R (.dat (.int ds.length)) cs
  | _ => False
theorem jc_len : JCall X T "len" lenW := ⟨⟨_, PySem.boot_len, .inl ⟨_, rfl⟩⟩, fun ss cs R h => by
  unfold lenW at h
  split at h
  · exact ⟨_, _, cb_lenT, h⟩
  · exact ⟨_, _, cb_lenR, h⟩
  · exact ⟨_, _, cb_lenS h.1, h.2⟩
  · obtain ⟨ds, h1, h⟩ := wL_of h
    exact ⟨_, _, cb_len h1, h⟩
  · exact h.elim⟩
def intW1 : WC := fun ss cs R => match ss with
  | [.dat (.int i)] => R (.dat (.int i)) cs
  | [.dat (.bl k)] => R (.dat (.int (if k then 1 else 0))) cs
  | [.dat (.str x)] => x.length ≤ 640 ∧ ∃ n, PySem.intText? x = some n ∧ R (.dat (.int n)) cs
  | _ => False
theorem jc_int : JCall X T "int" intW1 := ⟨⟨.type "int", by decide +kernel, .inr ⟨_, rfl⟩⟩, fun ss cs R h => by
  unfold intW1 at h
  split at h
  · exact ⟨_, _, cb_int, h⟩
  · exact ⟨_, _, cb_intB, h⟩
  · obtain ⟨hl, n, e, h⟩ := h; exact ⟨_, _, cb_intS e hl, h⟩
  · exact h.elim⟩
def tupleW : WC := fun ss cs R => match ss with
  | [.dat (.tup ds)] => R (.dat (.tup ds)) cs
  | [s] => wL cs s fun ds => R (.dat (.tup ds)) cs
  | _ => False
theorem jc_tuple : JCall X T "tuple" tupleW := ⟨⟨.type "tuple", by decide +kernel, .inr ⟨_, rfl⟩⟩, fun ss cs R h => by
  unfold tupleW at h
  split at h
  · exact ⟨_, _, cb_tupT, h⟩
  · obtain ⟨ds, h1, h⟩ := wL_of h
    exact ⟨_, _, cb_tupL h1, h⟩
  · exact h.elim⟩
def listW : WC := fun ss cs R => match ss with
  | [.dat (.tup ds)] => R (.dat (.lst ds)) cs
  | [s] => wL cs s fun ds => R (.dat (.lst ds)) cs
  | _ => False
def listWC : WC := fun ss cs R => match ss with
  | [.dat (.tup ds)] => R (.cel cs.length) (cs ++ [.lst ds])
  | [s] => wL cs s fun ds => R (.cel cs.length) (cs ++ [.lst ds])
  | _ => False
end
end Dl
namespace Dl
open PySem L2
section
variable {X : Cx} {T : Tab} {W : WX} {a b c e o : Expr} {es : List Expr} {pos p p2 : Pos} {wa wb w : WpE} {wt wt1 wt2 : WpT} {wA : WpA} {i : Int} {rest : List Expr} {lo hi : Option Expr}
theorem je_of (h : ∀ sl cs (R : RV) Rx, w sl cs R Rx → ∃ s cs', DE X T ⟨sl, cs⟩ e s ⟨sl, cs'⟩ ∧ R s cs') : JE X T W e w := ⟨fun pins s σ H Q I ⟨ad, F, sl, cs, R, Rx, h0, hw, q, qx⟩ => by
  obtain ⟨s, cs', d, hR⟩ := h sl cs R Rx hw
  exact d.run pins _ σ H Q I ⟨ad, F, h0, fun v H' ad' x1 h1 r1 => q s cs' v H' ad' hR x1 h1 r1⟩⟩
def wName (i : Nat) : WpE := fun sl cs R _ => match sl[i]? with
  | some (some s) => R s cs
  | _ => False
theorem je_name (i : Nat) {x : Str} (hN : X.N[i]? = some x := by rfl) (hv : Vis X.env.scope x := by first | exact Or.inl rfl | exact Or.inr (Or.inl rfl) | exact Or.inr (Or.inr rfl)) (hd : (x == ("__debug__" : Str)) = false := by decide)
    (hcd : (x == ("__classdict__" : Str)) = false := by decide) : JE X T W (.Name x pos) (wName i) := je_of fun sl cs R Rx h => by
  unfold wName at h
  split at h
  · rename_i s e
    exact ⟨s, cs, de_name i e hN hv hd hcd, h⟩
  · exact h.elim
def wCon (d : D) : WpE := fun _ cs R _ => R (.dat d) cs
theorem je_int {k : Nat} : JE X T W (.Constant (.int i) k pos) (wCon (.int i)) := je_of fun sl cs R Rx h => ⟨_, cs, de_int, h⟩
theorem je_bl {b : Bool} {k : Nat} : JE X T W (.Constant (.bool b) k pos) (wCon (.bl b)) := je_of fun sl cs R Rx h => ⟨_, cs, de_bl, h⟩
theorem je_non {k : Nat} : JE X T W (.Constant .none k pos) (wCon .non) := je_of fun sl cs R Rx h => ⟨_, cs, de_non, h⟩
theorem je_str {x : Str} {k : Nat} : JE X T W (.Constant (.str x) k pos) (wCon (.str x)) := je_of fun sl cs R Rx h => ⟨_, cs, de_str, h⟩
theorem opAll {f : Value → Value → Sem Value} : OpR X f (fun x y H Q => ∃ r, OpR X f r ∧ r x y H Q) := fun pins s σ H x y v u Q I rx ry ⟨r, o, h⟩ => o pins s σ H x y v u Q I rx ry h
theorem ixAll : IxR X (fun x y H Q => ∃ r, IxR X r ∧ r x y H Q) := fun v1 v2 pins s σ H x y v u Q I rx ry ⟨r, o, h⟩ => o v1 v2 pins s σ H x y v u Q I rx ry h
theorem callAll {f : Value} : CallR X f (fun xs H Q => ∃ r, CallR X f r ∧ r xs H Q) := fun pins s σ H xs us Q I rx ⟨r, o, h⟩ => o pins s σ H xs us Q I rx h
def wTwo (wa wb : WpE) (o : W2) : WpE := fun sl cs R Rx => wa sl cs (fun s1 c1 => wb sl c1 (fun s2 c2 => o s1 s2 c2 R) Rx) Rx
def wOne (wa : WpE) (o : W1) : WpE := fun sl cs R Rx => wa sl cs (fun s1 c1 => o s1 c1 R) Rx
theorem je_bin {op : Operator} {ow : W2} (ho : JBin X T op ow) (ha : JE X T W a wa) (hb : JE X T W b wb) : JE X T W (.BinOp a op b pos) (wTwo wa wb ow) :=
  weak (pe_op opAll ha hb) fun σ H Q ⟨ad, F, sl, cs, R, Rx, h0, hw, q, qx⟩ => ⟨ad, F, sl, cs, _, Rx, h0, hw, fun s1 c1 v H1 ad1 hw1 x1 h1 r1 => ⟨ad1, F, sl, c1, _, Rx, h1, hw1, fun s2 c2 v2 H2 ad2 hw2 x2 h2 r2 => by
    obtain ⟨s, c3, ⟨r, o1, o2⟩, hR⟩ := ho _ _ _ _ hw2
    exact ⟨r, o1, o2 ad2 F H2 v v2 Q h2.hc (r1.ext x2) r2 fun z H3 ad3 x3 k3 r3 => q s c3 z H3 ad3 hR (x1.trans h1.hc (x2.trans h2.hc x3)) (h2.to x3 k3) r3⟩, qx.on x1 h1⟩, qx⟩
theorem je_cmp {op : CmpOp} {ow : W2} (ho : JCmp X T op ow) (ha : JE X T W a wa) (hb : JE X T W b wb) (hm : behindInMarks op b = false := by first | exact nomark _ | rfl) : JE X T W (.Compare a [op] [b] pos) (wTwo wa wb ow) :=
  weak (pe_cmpR opAll ha hb hm) fun σ H Q ⟨ad, F, sl, cs, R, Rx, h0, hw, q, qx⟩ => ⟨ad, F, sl, cs, _, Rx, h0, hw, fun s1 c1 v H1 ad1 hw1 x1 h1 r1 => ⟨ad1, F, sl, c1, _, Rx, h1, hw1, fun s2 c2 v2 H2 ad2 hw2 x2 h2 r2 => by
    obtain ⟨s, c3, ⟨r, o1, o2⟩, hR⟩ := ho _ _ _ _ hw2
    exact ⟨r, o1, o2 ad2 F H2 v v2 Q h2.hc (r1.ext x2) r2 fun z H3 ad3 x3 k3 r3 => q s c3 z H3 ad3 hR (x1.trans h1.hc (x2.trans h2.hc x3)) (h2.to x3 k3) r3⟩, qx.on x1 h1⟩, qx⟩
theorem je_sub {ow : W2} (ho : JIx X T ow) (ha : JE X T W a wa) (hb : JE X T W b wb) (hp : PlainIx b := by intro _ _; rfl) : JE X T W (.Subscript a b pos) (wTwo wa wb ow) :=
  weak (pe_ix ixAll ha hb hp) fun σ H Q ⟨ad, F, sl, cs, R, Rx, h0, hw, q, qx⟩ => ⟨ad, F, sl, cs, _, Rx, h0, hw, fun s1 c1 v H1 ad1 hw1 x1 h1 r1 => ⟨ad1, F, sl, c1, _, Rx, h1, hw1, fun s2 c2 v2 H2 ad2 hw2 x2 h2 r2 => by
    obtain ⟨s, c3, ⟨r, o1, o2⟩, hR⟩ := ho _ _ _ _ hw2
    exact ⟨r, o1, o2 ad2 F H2 v v2 Q h2.hc (r1.ext x2) r2 fun z H3 ad3 x3 k3 r3 => q s c3 z H3 ad3 hR (x1.trans h1.hc (x2.trans h2.hc x3)) (h2.to x3 k3) r3⟩, qx.on x1 h1⟩, qx⟩
def wNil : WpA := fun sl cs R _ => R [] cs
def wCons (wa : WpE) (wA : WpA) : WpA := fun sl cs R Rx => wa sl cs (fun s c1 => wA sl c1 (fun ss c2 => R (s :: ss) c2) Rx) Rx
theorem ja_nil : JA X T W [] wNil := weakA pa_nil fun σ H Q ⟨ad, F, sl, cs, R, Rx, h0, hw, q, qx⟩ => q [] cs [] H ad hw .refl h0 trivial
theorem ja_cons (ha : JE X T W e w) (hr : JA X T W es wA) (hs : starEach (e :: es) X.env = (false, eval e X.env) :: starEach es X.env := by rfl) : JA X T W (e :: es) (wCons w wA) :=
  weakA (pa_cons ha hr hs) fun σ H Q ⟨ad, F, sl, cs, R, Rx, h0, hw, q, qx⟩ => ⟨ad, F, sl, cs, _, Rx, h0, hw, fun s1 c1 v H1 ad1 hw1 x1 h1 r1 => ⟨ad1, F, sl, c1, _, Rx, h1, hw1, fun ss c2 vs H2 ad2 hw2 x2 h2 r2 => q _ c2 _ H2 ad2 hw2 (x1.trans h1.hc x2) h2 ⟨r1.ext x2, r2⟩, qx.on x1 h1⟩, qx⟩
def wTup (wA : WpA) : WpE := fun sl cs R Rx => wA sl cs (fun ss c1 => wDats ss fun ds => ds.length ≤ sizeLine ∧ R (.dat (.tup ds)) c1) Rx
theorem je_tup {k : Nat} (ha : JA X T W es wA) : JE X T W (.Tuple es k pos) (wTup wA) :=
  weak (pe_tup ha) fun σ H Q ⟨ad, F, sl, cs, R, Rx, h0, hw, q, qx⟩ => ⟨ad, F, sl, cs, _, Rx, h0, hw, fun ss c1 vs H1 ad1 hw1 x1 h1 r1 => by
    obtain ⟨ds, rfl, hl, hR⟩ := wDats_of hw1
    refine ⟨by rw [r1.dats.length]; exact hl, fun p hp => ?_⟩
    obtain ⟨c, x2⟩ := h1.hc.newo (o := .tup vs) hp
    exact q _ c1 _ _ ad1 hR (x1.trans h1.hc x2) (h1.to x2 c) (.tup (vs := vs) (.inl ⟨h1.hc.new hp, .inl upd_same⟩) (r1.dats.kp x2.kp)), qx⟩
def wLst (wA : WpA) : WpE := fun sl cs R Rx => wA sl cs (fun ss c1 => wDats ss fun ds => ds.length ≤ sizeLine ∧ R (.dat (.lst ds)) c1) Rx
theorem je_lst (ha : JA X T W es wA) : JE X T W (.List es pos) (wLst wA) :=
  weak (pe_lst ha) fun σ H Q ⟨ad, F, sl, cs, R, Rx, h0, hw, q, qx⟩ => ⟨ad, F, sl, cs, _, Rx, h0, hw, fun ss c1 vs H1 ad1 hw1 x1 h1 r1 => by
    obtain ⟨ds, rfl, hl, hR⟩ := wDats_of hw1
    exact ⟨by rw [r1.dats.length]; exact hl, fun p hp => new_lst h1.hc r1.dats (fun z H' ad' x2 k2 r2 => q _ c1 z H' ad' hR (x1.trans h1.hc x2) (h1.to x2 k2) r2) hp⟩, qx⟩
def wLstC (wA : WpA) : WpE := fun sl cs R Rx => wA sl cs (fun ss c1 => wDats ss fun ds => ds.length ≤ sizeLine ∧ R (.cel c1.length) (c1 ++ [.lst ds])) Rx
theorem je_lstC (ha : JA X T W es wA) : JE X T W (.List es pos) (wLstC wA) :=
  weak (pe_lst ha) fun σ H Q ⟨ad, F, sl, cs, R, Rx, h0, hw, q, qx⟩ => ⟨ad, F, sl, cs, _, Rx, h0, hw, fun ss c1 vs H1 ad1 hw1 x1 h1 r1 => by
    obtain ⟨ds, rfl, hl, hR⟩ := wDats_of hw1
    exact ⟨by rw [r1.dats.length]; exact hl, fun p hp => new_lstC h1.hc r1.dats (fun z H' ad' x2 k2 r2 => q _ _ z H' ad' hR (x1.trans h1.hc x2) (h1.to x2 k2) r2) hp⟩, qx⟩
def wTru (w : WpE) : WpT := fun sl cs R Rx => w sl cs (fun s c => truW s c fun b => R b c) Rx
theorem jt_val (h : JE X T W e w) (he : ∀ whole, isTrue e X.env whole = (do let v ← whole; standAt e.pos; holding [v] (truthy v)) := by intro _; rfl) : JT X T W e (wTru w) :=
  weakT (pt_truth h he) fun σ H Q ⟨ad, F, sl, cs, R, Rx, h0, hw, q, qx⟩ => ⟨ad, F, sl, cs, _, Rx, h0, hw, fun s1 c1 v H1 ad1 hw1 x1 h1 r1 => by
    obtain ⟨b, tb, hR⟩ := truW_of (T := T) (K := X.K) hw1
    exact ⟨b, tb ad1 F H1 v h1.hc r1, q b c1 H1 ad1 hR x1 h1⟩, qx⟩
def wBl (w : WpE) : WpT := fun sl cs R Rx => w sl cs (fun s c => isB s fun b => R b c) Rx
theorem jt_cmp {op : CmpOp} {ow : W2} (ho : JCmp X T op ow) (ha : JE X T W a wa) (hb : JE X T W b wb) (hm : behindInMarks op b = false := by first | exact nomark _ | rfl) : JT X T W (.Compare a [op] [b] pos) (wBl (wTwo wa wb ow)) :=
  weakT (pt_cmpR opAll ha hb hm) fun σ H Q ⟨ad, F, sl, cs, R, Rx, h0, hw, q, qx⟩ => ⟨ad, F, sl, cs, _, Rx, h0, hw, fun s1 c1 v H1 ad1 hw1 x1 h1 r1 => ⟨ad1, F, sl, c1, _, Rx, h1, hw1, fun s2 c2 v2 H2 ad2 hw2 x2 h2 r2 => by
    obtain ⟨s, c3, ⟨r, o1, o2⟩, hR⟩ := ho _ _ _ _ hw2
    obtain ⟨k, rfl, hR⟩ := isB_of hR
    refine ⟨r, o1, o2 ad2 F H2 v v2 _ h2.hc (r1.ext x2) r2 fun z H3 ad3 x3 k3 r3 => ?_⟩
    cases r3
    exact ⟨k, rfl, q k c3 H3 ad3 hR (x1.trans h1.hc (x2.trans h2.hc x3)) (h2.to x3 k3)⟩, qx.on x1 h1⟩, qx⟩
def wNotT (wt : WpT) : WpT := fun sl cs R Rx => wt sl cs (fun b c => R (!b) c) Rx
theorem JW.jt (h : JW X T W e wt) : JT X T W e wt := PW.pt h
theorem jw_or1 (h : JT X T W a wt) : JW X T W (.BoolOp .Or [a] pos) wt := pw_or1 h
def wOrT (w1 w2 : WpT) : WpT := fun sl cs R Rx => w1 sl cs (fun k c => Br k (R true c) (w2 sl c R Rx)) Rx
theorem jw_or (ha : JT X T W a wt1) (hb : JW X T W (.BoolOp .Or (b :: rest) pos) wt2) : JW X T W (.BoolOp .Or (a :: b :: rest) pos) (wOrT wt1 wt2) :=
  weakW (pw_or ha hb) fun σ H Q ⟨ad, F, sl, cs, R, Rx, h0, hw, q, qx⟩ => ⟨ad, F, sl, cs, _, Rx, h0, hw, fun k c1 H1 ad1 hw1 x1 h1 => by
    cases k with
    | false => exact iteF ⟨ad1, F, sl, c1, _, Rx, h1, hw1.f rfl, fun k c2 H2 ad2 hw2 x2 h2 => q k c2 H2 ad2 hw2 (x1.trans h1.hc x2) h2, qx.on x1 h1⟩
    | true => exact iteT (q true c1 H1 ad1 (hw1.t rfl) x1 h1), qx⟩
def wAndV (w1 w2 : WpE) : WpE := fun sl cs R Rx => w1 sl cs (fun s c => isB s fun k => Br k (w2 sl c R Rx) (R (.dat (.bl false)) c)) Rx
def wIf (wt : WpT) (wa wb : WpE) : WpE := fun sl cs R Rx => wt sl cs (fun k c => Br k (wa sl c R Rx) (wb sl c R Rx)) Rx
theorem je_if (hc : JT X T W c wt) (ha : JE X T W a wa) (hb : JE X T W b wb) : JE X T W (.IfExp c a b pos) (wIf wt wa wb) :=
  weak (pe_ifExp hc ha hb) fun σ H Q ⟨ad, F, sl, cs, R, Rx, h0, hw, q, qx⟩ => ⟨ad, F, sl, cs, _, Rx, h0, hw, fun k c1 H1 ad1 hw1 x1 h1 => by
    cases k with
    | true => exact iteT ⟨ad1, F, sl, c1, _, Rx, h1, hw1.t rfl, fun s2 c2 v2 H2 ad2 hw2 x2 h2 r2 => q s2 c2 v2 H2 ad2 hw2 (x1.trans h1.hc x2) h2 r2, qx.on x1 h1⟩
    | false => exact iteF ⟨ad1, F, sl, c1, _, Rx, h1, hw1.f rfl, fun s2 c2 v2 H2 ad2 hw2 x2 h2 r2 => q s2 c2 v2 H2 ad2 hw2 (x1.trans h1.hc x2) h2 r2, qx.on x1 h1⟩, qx⟩
abbrev WpO := Sls → List Cell → (Option Int → List Cell → Prop) → RX → Prop
def wO0 : WpO := fun _ cs R _ => R none cs
def wO1 (w : WpE) : WpO := fun sl cs R Rx => w sl cs (fun s c => match s with
  | .dat (.int i) => R (some i) c
  | _ => False) Rx
def wCb (wA : WpA) (cw : WC) : WpE := fun sl cs R Rx => wA sl cs (fun ss c1 => cw ss c1 R) Rx
theorem cb_then {x : Str} {cw : WC} {u : Value} (hJ : JCall X T x cw) (hu : bootBuiltins x = some u) {σ : St} {H : Hp} {Q : VK} (h : tJ T X.K W (wCb wA cw) σ H Q) : tCB (fun xs H Q => ∃ r, CallR X u r ∧ r xs H Q) (tJA T X.K W wA) σ H Q := by
  obtain ⟨ad, F, sl, cs, R, Rx, h0, hw, q, qx⟩ := h
  refine ⟨ad, F, sl, cs, _, Rx, h0, hw, fun ss c1 vs H1 ad1 hw1 x1 h1 r1 => ?_, qx⟩
  obtain ⟨s, c2, ⟨u', r, e1, _, o1, o2⟩, hR⟩ := hJ.run _ _ _ hw1
  rw [hu] at e1
  cases e1
  exact ⟨r, o1, o2 ad1 F H1 vs Q h1.hc r1 fun z H3 ad3 x3 k3 r3 => q s c2 z H3 ad3 hR (x1.trans h1.hc x3) (h1.to x3 k3) r3⟩
theorem je_cb {x : Str} {cw : WC} (hm : X.mg x = none) (hJ : JCall X T x cw) (ha : JA X T W (e :: es) wA) (hg : Gl X x := by rfl) (hn : x ≠ "__name__" := by decide) (hdb : (x == ("__debug__" : Str)) = false := by decide)
    (he : starEach (e :: es) X.env = (false, eval e X.env) :: starEach es X.env := by rfl) (hpl : (backTo pos (starEach es X.env)).any (·.1) = false := by rfl) : JE X T W (.Call (.Name x p) (e :: es) [] pos) (wCb wA cw) := by
  obtain ⟨u, hv, ⟨id, rfl⟩ | ⟨id, rfl⟩⟩ := hJ.bo
  · exact weak (pe_callB callAll hg hm hv ha hn hdb he hpl) fun σ H Q z => cb_then hJ hv z
  · exact weak (pe_callTy callAll hg hm hv ha hn hdb he hpl) fun σ H Q z => cb_then hJ hv z
end
end Dl
namespace Dl
open PySem L2
def cells1 : List Sl → Option (Option Nat)
  | [] => some none
  | .dat _ :: r => cells1 r
  | .cel k :: r => match cells1 r with
    | some none => some (some k)
    | some (some j) => if j == k then some (some k) else none
    | none => none
theorem cells1_none : ∀ {ss : List Sl}, cells1 ss = some none → ∃ ds : List D, ss = ds.map Sl.dat
  | [], _ => ⟨[], rfl⟩
  | .dat d :: r, h => let ⟨ds, e⟩ := cells1_none (ss := r) h; ⟨d :: ds, by rw [e]; rfl⟩
  | .cel k :: r, h => by
    unfold cells1 at h
    split at h
    · cases h
    · split at h <;> cases h
    · cases h
theorem cells1_dat (k : Nat) : ∀ {ss : List Sl}, cells1 ss = some none → ss.all (onlyCell k) = true
  | [], _ => rfl
  | .dat d :: r, h => by rw [List.all_cons, cells1_dat k (ss := r) h]; rfl
  | .cel k :: r, h => by
    unfold cells1 at h
    split at h
    · cases h
    · split at h <;> cases h
    · cases h
theorem cells1_some {k : Nat} : ∀ {ss : List Sl}, cells1 ss = some (some k) → ss.all (onlyCell k) = true
  | .dat d :: r, h => by rw [List.all_cons, cells1_some (ss := r) h]; rfl
  | .cel j :: r, h => by
    rw [List.all_cons]
    unfold cells1 at h
    split at h
    · rename_i e
      cases h
      rw [cells1_dat k e]
      simp [onlyCell]
    · rename_i m e
      split at h
      · rename_i q
        cases h
        have q := beq_iff_eq.mp q
        subst q
        rw [cells1_some (ss := r) e]
        simp [onlyCell]
      · cases h
    · cases h
def aft (s : Sl) (cs0 cs : List Cell) (R : RV) : Prop := match s, cs0 with
  | .dat d, [] => R (.dat d) cs
  | .cel 0, [c0] => R (.cel cs.length) (cs ++ [c0])
  | _, _ => False
def callW (c : Ct) (ss : List Sl) (cs : List Cell) (R : RV) : Prop := match cells1 ss with
  | some none => ∃ s cs0, c ss [] s cs0 ∧ aft s cs0 cs R
  | some (some k) => match cs[k]? with
    | some c0 => ∃ d c1, c (ss.map low) [c0] (.dat d) [c1] ∧ R (.dat d) (cs.set k c1)
    | none => False
  | none => False
def callXW (c : Ct) (cx : CtX) (ss : List Sl) (cs : List Cell) (R : RV) (Rx : RX) : Prop := callW c ss cs R ∨ (cells1 ss = some none ∧ ∃ x, cx ss [] x [] ∧ Rx x cs)
section
variable {X : Cx} {T : Tab} {W : WX} {a b e o : Expr} {es : List Expr} {kws : List Keyword} {pos p apos : Pos} {wa wb w wo : WpE} {wA wB : WpA} {c : Ct} {cx : CtX} {k : Nat} {f : Addr} {fd : FuncData} {ps ks : List Str} {y m : Str} {C g : Addr} {fn : List Str} {cn : Nat}
theorem callW_then {K : PySem.W.Frag} {ad : List Addr} {F : Addr → Prop} {H : Hp} {cs : List Cell} {vs : List V} {ss : List Sl} {R : RV} {Q : VK} {E : XK} (h : HoldC T K ad F H cs) (r : SlReps T K ad F H vs ss) (hw : callW c ss cs R)
    (q : ∀ s c' v H' ad', R s c' → Ext ad F H ad' H' → HoldC T K ad' F H' c' → SlRep T K ad' F H' v s → Q v H') : spC T K c vs H Q E := by
  unfold callW at hw
  split at hw
  · rename_i q1
    obtain ⟨ds, rfl⟩ := cells1_none q1
    obtain ⟨s, cs0, hc, hw⟩ := hw
    unfold aft at hw
    split at hw
    · exact spC0 hc h r fun v H' x2 c2 r2 => q _ _ v H' ad hw x2 c2 r2
    · exact spCN hc h r fun v H' a x2 c2 e => q _ _ v H' _ hw x2 c2 ⟨a, by rw [← h.ln, List.getElem?_append_right (Nat.le_refl _), Nat.sub_self]; rfl, e⟩
    · exact hw.elim
  · rename_i j q1
    split at hw
    · rename_i c0 e0
      obtain ⟨d, cc, hc, hw⟩ := hw
      exact spC1 e0 (cells1_some q1) hc h r fun v H' x2 c2 r2 => q _ _ v H' ad hw x2 c2 r2
    · exact hw.elim
  · exact hw.elim
theorem callXW_then {K : PySem.W.Frag} {ad : List Addr} {F : Addr → Prop} {H : Hp} {cs : List Cell} {vs : List V} {ss : List Sl} {R : RV} {Rx : RX} {Q : VK} {E : XK} (h : HoldC T K ad F H cs) (r : SlReps T K ad F H vs ss) (hw : callXW c cx ss cs R Rx)
    (q : ∀ s c' v H' ad', R s c' → Ext ad F H ad' H' → HoldC T K ad' F H' c' → SlRep T K ad' F H' v s → Q v H') (qx : ∀ x c' cls d H' ad', Rx x c' → Ext ad F H ad' H' → HoldC T K ad' F H' c' → ExRep T K (Mm ad' F) H' cls d x → E cls d H') : spX T K c cx vs H Q E := by
  rcases hw with hw | ⟨q1, x, hx, hw⟩
  · exact .inl (callW_then h r hw q)
  · obtain ⟨ds, rfl⟩ := cells1_none q1
    exact spX_at hx h r fun cls d H' x2 c2 er => qx x cs cls d H' ad hw x2 c2 er
def wFn (c : Ct) (wA : WpA) : WpE := fun sl cs R Rx => wA sl cs (fun ss c1 => callW c ss c1 R) Rx
def wFnX (c : Ct) (cx : CtX) (wA : WpA) : WpE := fun sl cs R Rx => wA sl cs (fun ss c1 => callXW c cx ss c1 R Rx) Rx
theorem je_call (G : FnOk X.prog X.w X.K X.mg X.base CX0 k f fd ps (spC T X.K c)) (hr : Room k X.A) (hm : X.mg y = some (.ref f)) (hk : PySem.W.keepIn X.K (.ref f) = true) (hb : Binds X.K fd ps []) (ha : JA X T W (e :: es) wA) (hg : Gl X y := by rfl) (hdb : (y == ("__debug__" : Str)) = false := by decide)
    (he : starEach (e :: es) X.env = (false, eval e X.env) :: starEach es X.env := by rfl) (hpl : (backTo pos (starEach es X.env)).any (·.1) = false := by rfl) : JE X T W (.Call (.Name y p) (e :: es) [] pos) (wFn c wA) :=
  weak (pe_call G hr hg hm hk hb .nil pass0 ha hdb he hpl) fun σ H Q ⟨ad, F, sl, cs, R, Rx, h0, hw, q, qx⟩ => ⟨ad, F, sl, cs, _, Rx, h0, hw, fun ss c1 vs H1 ad1 hw1 x1 h1 r1 => by
    show spC T X.K c (vs ++ []) H1 Q E0
    rw [List.append_nil]
    exact callW_then h1.hc r1 hw1 fun s c' v H' ad' hR x2 k2 r2 => q s c' v H' ad' hR (x1.trans h1.hc x2) (h1.to x2 k2) r2, qx⟩
theorem je_callX (tk : Takes X W) (G : FnOk X.prog X.w X.K X.mg X.base (L2.CX X.prog X.w) k f fd ps (spX T X.K c cx)) (hr : Room k X.A) (hm : X.mg y = some (.ref f)) (hk : PySem.W.keepIn X.K (.ref f) = true) (hb : Binds X.K fd ps []) (ha : JA X T W (e :: es) wA) (hg : Gl X y := by rfl) (hdb : (y == ("__debug__" : Str)) = false := by decide)
    (he : starEach (e :: es) X.env = (false, eval e X.env) :: starEach es X.env := by rfl) (hpl : (backTo pos (starEach es X.env)).any (·.1) = false := by rfl) : JE X T W (.Call (.Name y p) (e :: es) [] pos) (wFnX c cx wA) :=
  weak (pe_callS (E := WE W) G hr hg hm hk hb (passAt tk) ha hdb he hpl) fun σ H Q ⟨ad, F, sl, cs, R, Rx, h0, hw, q, qx⟩ => ⟨ad, F, sl, cs, _, Rx, h0, hw, fun ss c1 vs H1 ad1 hw1 x1 h1 r1 =>
    callXW_then h1.hc r1 hw1 (fun s c' v H' ad' hR x2 k2 r2 => q s c' v H' ad' hR (x1.trans h1.hc x2) (h1.to x2 k2) r2) (fun x c' cls d H' ad' hR x2 k2 er => qx x c' cls d H' ad' hR (x1.trans h1.hc x2) (h1.to x2 k2) er), qx⟩
theorem look_zip {K : PySem.W.Frag} {M : Addr → Prop} {H : Hp} {d : D} : ∀ {fs : List (Str × D)} {vs : List V}, fs.lookup m = some d → Reps T K M H vs (fs.map (·.2)) → ∃ v, ((fs.map (·.1)).zip vs).lookup m = some v ∧ Rep T K M H v d
  | [], _, h, _ => nomatch h
  | (g, d') :: fs, _, h, .cons (v := v) (vs := vs) r rs => by
    rw [List.lookup_cons] at h
    show ∃ w, ((g, v) :: (fs.map (·.1)).zip vs).lookup m = some w ∧ _
    rw [List.lookup_cons]
    cases q : m == g with
    | true =>
      rw [q] at h
      cases h
      exact ⟨v, rfl, r⟩
    | false =>
      rw [q] at h
      exact look_zip h rs
def JK (X : Cx) (T : Tab) (W : WX) (kws : List Keyword) (w : WpA) : Prop := PK X kws (tJA T X.K W w)
theorem jk_nil : JK X T W [] wNil := weakK pk_nil fun σ H Q ⟨ad, F, sl, cs, R, Rx, h0, hw, q, qx⟩ => q [] cs [] H ad hw .refl h0 trivial
theorem jk_cons {nm : Option Str} {kpos : Pos} (ha : JE X T W e w) (hr : JK X T W kws wA) : JK X T W (⟨nm, e, kpos⟩ :: kws) (wCons w wA) :=
  weakK (pk_cons ha hr) fun σ H Q ⟨ad, F, sl, cs, R, Rx, h0, hw, q, qx⟩ => ⟨ad, F, sl, cs, _, Rx, h0, hw, fun s1 c1 v H1 ad1 hw1 x1 h1 r1 => ⟨ad1, F, sl, c1, _, Rx, h1, hw1, fun ss c2 vs H2 ad2 hw2 x2 h2 r2 => q _ c2 _ H2 ad2 hw2 (x1.trans h1.hc x2) h2 ⟨r1.ext x2, r2⟩, qx.on x1 h1⟩, qx⟩
def selW (P : Sl → Sl → Bool) (v w : W2) : W2 := fun s1 s2 cs R => match P s1 s2 with
  | true => v s1 s2 cs R
  | false => w s1 s2 cs R
variable {op : Operator} {w2 : W2}
end
end Dl
namespace Dl
open PySem L2
abbrev WpI := Sls → List Cell → (List D → List Cell → Prop) → RX → Prop
def tJI (T : Tab) (K : PySem.W.Frag) (W : WX) (w : WpI) : TI := fun σ H Q => ∃ ad F sl cs R Rx, Hold T K ⟨sl, cs⟩ ad F σ H ∧ w sl cs R Rx ∧
  (∀ items c J H' ad', R items c → Ext ad F H ad' H' → Hold T K ⟨sl, c⟩ ad' F σ H' → ItOk T K F J items ad' H' → Q J H') ∧ Raz T K W σ ad F H sl Rx
def JI (X : Cx) (T : Tab) (W : WX) (tg it : Expr) (w : WpI) : Prop := PI X tg it (tJI T X.K W w)
section
variable {X : Cx} {tg : Expr}
def iVal (K : PySem.W.Frag) (tl : TE) : TI := fun σ H R => tl σ H fun x H1 => (∃ a xs, x = .ref a ∧ SqL K H1 a xs ∧ R (Itl K a) H1) ∨ (∃ a xs, x = .ref a ∧ SqT K H1 a xs ∧ R (Itt K a) H1)
open PySem.Spec PyProof.Rows in
theorem pi_val {l : Expr} {tl : TE} (hl : PE X l tl) : PI X tg l (iVal X.K tl) := by
  refine ⟨fun pins s σ H R I h => ?_⟩
  refine thn (hl.run pins s σ H _ I h) fun v s1 ⟨x, H1, I1, r1, q1⟩ => ?_
  rcases q1 with ⟨a, xs, e, hq, q⟩ | ⟨a, xs, e, hq, q⟩
  · subst e
    cases r1
    obtain ⟨its, rv, p, hz⟩ := I1.list hq
    refine wpAny_pyIter_list p.isList ?_
    refine ⟨s1.heap.objs.size, [s1.heap.objs.size], _, _, H1, rfl, I1.kept (t' := s1.toks) fun b o e => Heap.get?_push_of_some _ e, turn_list a _, ⟨_, Heap.get?_push_size _ rfl, rfl, rfl⟩, fun b hb => ?_, q⟩
    have e : b = s1.heap.objs.size := by simpa using hb
    subst e
    exact I1.fpOk (Nat.le_refl _) (I1.hok.fresh (Nat.le_refl _))
  · subst e
    cases r1
    obtain ⟨its, rv, p, hz⟩ := I1.tuple hq
    refine wpAny_pyIter_tuple (show s1.heap.IsTuple a its.toArray from p) ?_
    refine ⟨s1.heap.objs.size, [s1.heap.objs.size], _, _, H1, rfl, I1.kept (t' := s1.toks) fun b o e => Heap.get?_push_of_some _ e, turn_tuple a _, ⟨_, Heap.get?_push_size _ rfl, rfl, rfl⟩, fun b hb => ?_, q⟩
    have e : b = s1.heap.objs.size := by simpa using hb
    subst e
    exact I1.fpOk (Nat.le_refl _) (I1.hok.fresh (Nat.le_refl _))
end
section
variable {T : Tab} {K : PySem.W.Frag} {F : Addr → Prop} {ad : List Addr} {H : Hp} {a : Addr} {vs : List V} {ds : List D}
theorem itl_ok (n : ¬ Mm ad F a) (e1 : H a = some (.lst vs)) (r : Reps T K (Mm ad F) H vs ds) : ItOk T K F (Itl K a) ds ad H := fun F2 ad2 H2 cs2 c2 kp i => ⟨fun d hd => by
    obtain ⟨e2, n2⟩ := kp a _ e1 n
    obtain ⟨v, hv, rv⟩ := (r.kp kp).get hd
    refine ⟨⟨vs, v, SqL.of e2, hv⟩, fun w H3 y => ?_⟩
    obtain ⟨rfl, y⟩ := y
    have := y vs (SqL.of e2)
    rw [hv] at this
    cases this
    exact ⟨fun _ _ z => z, rv⟩, fun hi => ⟨vs, SqL.of (kp a _ e1 n).1, by rw [r.length]; omega⟩⟩
theorem itr_ok' (e1 : LAt K (Mm ad F) H a vs) (r : Reps T K (Mm ad F) H vs ds) : ItOk T K F (Itl K a) ds ad H := fun F2 ad2 H2 cs2 c2 kp i => ⟨fun d hd => by
    have e2 := (e1.kp kp).sq
    obtain ⟨v, hv, rv⟩ := (r.kp kp).get hd
    refine ⟨⟨vs, v, e2, hv⟩, fun w H3 y => ?_⟩
    obtain ⟨rfl, y⟩ := y
    have := y vs e2
    rw [hv] at this
    cases this
    exact ⟨fun _ _ z => z, rv⟩, fun hi => ⟨vs, (e1.kp kp).sq, by rw [r.length]; omega⟩⟩
theorem itt_ok (e1 : TAt K (Mm ad F) H a vs) (r : Reps T K (Mm ad F) H vs ds) : ItOk T K F (Itt K a) ds ad H := fun F2 ad2 H2 cs2 c2 kp i => ⟨fun d hd => by
    have e2 := (e1.kp kp).sq
    obtain ⟨v, hv, rv⟩ := (r.kp kp).get hd
    refine ⟨⟨vs, v, e2, hv⟩, fun w H3 y => ?_⟩
    obtain ⟨rfl, y⟩ := y
    have := y vs e2
    rw [hv] at this
    cases this
    exact ⟨fun _ _ z => z, rv⟩, fun hi => ⟨vs, (e1.kp kp).sq, by rw [r.length]; omega⟩⟩
end
def itemsW (s : Sl) (k : List D → Prop) : Prop := match s with
  | .dat (.lst ds) => k ds
  | .dat (.tup ds) => k ds
  | .dat (.scr ds) => k ds
  | _ => False
section
variable {X : Cx} {T : Tab} {W : WX} {tg e e2 e3 : Expr} {w : WpE} {wA : WpA} {p pos tpos : Pos} {elts : List Expr} {kk : Nat}
def wItems (w : WpE) : WpI := fun sl cs R Rx => w sl cs (fun s c => itemsW s fun ds => R ds c) Rx
theorem ji_val (he : JE X T W e w) : JI X T W tg e (wItems w) := weakI (pi_val he) fun σ H Q ⟨ad, F, sl, cs, R, Rx, h0, hw, q, qx⟩ => ⟨ad, F, sl, cs, _, Rx, h0, hw, fun s c1 v H1 ad1 hw1 x1 h1 r1 => by
  unfold itemsW at hw1
  split at hw1
  · cases r1 with
    | @lst a vs _ n e1 r => exact .inl ⟨a, vs, rfl, SqL.of e1, q _ c1 _ H1 ad1 hw1 x1 h1 (itl_ok n e1 r)⟩
  · cases r1 with
    | @tup a vs _ e1 r => exact .inr ⟨a, vs, rfl, e1.sq, q _ c1 _ H1 ad1 hw1 x1 h1 (itt_ok e1 r)⟩
  · cases r1 with
    | @scr a vs _ e1 r => exact .inl ⟨a, vs, rfl, e1.sq, q _ c1 _ H1 ad1 hw1 x1 h1 (itr_ok' e1 r)⟩
  · exact hw1.elim, qx⟩
def SmI (i : Int) : Prop := -(2 ^ 62) ≤ i ∧ i < 2 ^ 62
def rng1W (ss : List Sl) (k : List D → Prop) : Prop := match ss with
  | [.dat (.int j)] => SmI j ∧ k (rangeD 0 j.toNat)
  | _ => False
def wRng1 (wA : WpA) : WpI := fun sl cs R Rx => wA sl cs (fun ss c => rng1W ss fun ds => R ds c) Rx
theorem ji_range1 (hm : X.mg "range" = none) (ha : JA X T W [e] wA) (hg : Gl X "range" := by rfl) (hs : starEach [e] X.env = [(false, eval e X.env)] := by rfl) : JI X T W tg (.Call (.Name "range" p) [e] [] pos) (wRng1 wA) :=
  weakI (pi_range1 hg hm ha hs) fun σ H Q ⟨ad, F, sl, cs, R, Rx, h0, hw, q, qx⟩ => ⟨ad, F, sl, cs, _, Rx, h0, hw, fun ss c1 vs H1 ad1 hw1 x1 h1 r1 => by
    unfold rng1W at hw1
    split at hw1
    · match vs, r1 with
      | [v], r1 =>
        have r1 := r1.1
        cases r1
        exact ⟨_, rfl, hw1.1.1, hw1.1.2, q _ c1 _ H1 ad1 hw1.2 x1 h1 itr_ok⟩
    · exact hw1.elim, qx⟩
end
def asgW (p : Pat) (d : D) (sl : Sls) (k : Sls → Prop) : Prop := match asgP p d sl with
  | some sl' => k sl'
  | none => False
theorem asgW_of {p : Pat} {d : D} {sl : Sls} {k : Sls → Prop} (h : asgW p d sl k) : ∃ sl', asgP p d sl = some sl' ∧ k sl' := by
  unfold asgW at h
  split at h
  · exact ⟨_, ‹_›, h⟩
  · exact h.elim
def isDat (s : Sl) (k : D → Prop) : Prop := match s with
  | .dat d => k d
  | .cel _ => False
theorem isDat_of {s : Sl} {k : D → Prop} (h : isDat s k) : ∃ d, s = .dat d ∧ k d := by
  unfold isDat at h
  split at h
  · exact ⟨_, rfl, h⟩
  · exact h.elim
def lcW (p : Pat) (wt : WpT) (we : WpE) (sl : Sls) : List D → List Cell → (List D → List Cell → Prop) → Prop
  | [], cs, R => R [] cs
  | d :: ds, cs, R => asgW p d sl fun sl' => wt sl' cs (fun b c1 => Br b (we sl' c1 (fun s c2 => isDat s fun e => lcW p wt we sl ds c2 fun acc c3 => R (e :: acc) c3) noX) (lcW p wt we sl ds c1 R)) noX
def JTs (X : Cx) (T : Tab) (W : WX) (ifs : List Expr) (w : WpT) : Prop := PTs X ifs (tJT T X.K W w)
def wYes : WpT := fun _ cs R _ => R true cs
theorem jts_nil {X : Cx} {T : Tab} {W : WX} : JTs X T W [] wYes := weakTs pts_nil fun σ H Q ⟨ad, F, sl, cs, R, Rx, h0, hw, q, qx⟩ => q true cs H ad hw .refl h0
def wLc (wi : WpI) (p : Pat) (wt : WpT) (we : WpE) (own : List Nat) : WpE := fun sl cs R Rx => wi sl cs (fun items c => items.length < sizeLine ∧ lcW p wt we (wipeS sl own) items c fun acc c' => R (.dat (.lst acc)) c') Rx
section
variable {T : Tab} {K : PySem.W.Frag} {W : WX} {p : Pat} {wi : WpI} {wt : WpT} {we : WpE} {own : List Nat}
theorem lc_core {sl : Sls} {items : List D} {cs : List Cell} {Rf : List D → List Cell → Prop} {σ : St} {H1 : Hp} {ad1 : List Addr} {F : Addr → Prop} {Q : VK} {J : It} (hp : ∀ i ∈ slotsP p, i ∈ own) (h1 : Hold T K ⟨sl, cs⟩ ad1 F σ H1) (okI : ItOk T K F J items ad1 H1) (hl : items.length < sizeLine)
    (h : lcW p wt we (wipeS sl own) items cs Rf) {Dl : Addr} (hD : H1 Dl = none)
    (q : ∀ accV accD ci ad' H', Ext ad1 F H1 ad' H' → HoldC T K ad' (fun a => F a ∨ a = Dl) H' ci → H' Dl = some (.lst accV) → Reps T K (Mm ad' fun a => F a ∨ a = Dl) H' accV accD → Rf accD ci → Q (.ref Dl) H') :
    ∃ (Inv' : Nat → Nat → Hp → Prop), (∃ m0, Inv' 0 m0 (upd H1 Dl (.lst []))) ∧ ∀ i m H', Inv' i m H' → (J.stop i H' ∧ Q (.ref Dl) H') ∨ (J.go i H' ∧ ∃ I2 : Hp → Prop, (∀ H2, I2 H2 → ∃ m', m' < m ∧ Inv' (i + 1) m' H2) ∧ ∀ v H3, J.yld i H' v H3 →
      tDG T K p v (wipe σ own) H3 fun σ' H4 => wipe σ' own = wipe σ own ∧ tJT T K W0 wt σ' H4 fun b H5 => if b = true then tJ T K W0 we σ' H5 fun w H6 => ∃ acc, H6 Dl = some (.lst acc) ∧ acc.length < sizeLine ∧ I2 (upd H6 Dl (.lst (acc ++ [w]))) else I2 H5) := by
  let vs := own
  have nD := h1.hc.new hD
  let F' : Addr → Prop := fun a => F a ∨ a = Dl
  have neD : ∀ a o, H1 a = some o → a ≠ Dl := fun a o e => ne_of_none e hD
  have slots : ∀ {ad' : List Addr} {H' : Hp} {cs : List Cell}, Ext ad1 F H1 ad' H' → HoldC T K ad' F' H' cs → Hold T K ⟨wipeS sl vs, cs⟩ ad' F' (wipe σ vs) H' := fun {ad' H' cs} x c => by
    refine ⟨c, by rw [wipe_length, wipeS_len]; exact h1.sz, fun i s e => ?_⟩
    obtain ⟨e1, e2⟩ := wipeS_some e
    obtain ⟨v, hv, r⟩ := h1.sl i s e1
    refine ⟨v, by rw [wipe_out e2]; exact hv, ?_⟩
    cases s with
    | dat d => exact Rep.kp (fun a o e n => ⟨x.keep a o e n, fun z => (x.kp a o e n).2 (z.imp id fun z => z.resolve_right (neD a o e))⟩) r
    | cel k =>
      have r' := SlRep.ext x r
      exact r'
  have h1' : HoldC T K ad1 F' (upd H1 Dl (.lst [])) cs := by
    obtain ⟨c2, x2⟩ := h1.hc.newo (o := .lst []) hD
    have kp : Kp (Mm ad1 F) H1 (Mm ad1 F') (upd H1 Dl (.lst [])) := fun a o e n => ⟨by rw [upd_ne (neD a o e)]; exact e, fun z => n (z.imp id fun z => z.resolve_right (neD a o e))⟩
    refine ⟨h1.hc.nd, fun a ha z => z.elim (h1.hc.fr a ha) fun z => nD (.inl (z ▸ ha)), fun a z => ?_, h1.hc.tb.newF hD (fun _ z => nomatch z), h1.hc.ln, fun k a c e1 e2 => ?_⟩
    · rcases z with z | z
      · exact c2.al a z
      · rw [z]; exact ⟨_, upd_same⟩
    · have qc := h1.hc.ce k a c e1 e2
      obtain ⟨o, e⟩ := qc.some
      exact qc.kp kp (upd_ne (neD a o e))
  have x1' : Ext ad1 F H1 ad1 (upd H1 Dl (.lst [])) := (h1.hc.newo hD).2
  refine ⟨fun i m H' => ∃ ad' accV accD ci, i ≤ items.length ∧ m = items.length - i ∧ Ext ad1 F H1 ad' H' ∧ HoldC T K ad' F' H' ci ∧ H' Dl = some (.lst accV) ∧ Reps T K (Mm ad' F') H' accV accD ∧ accD.length ≤ i ∧
    lcW p wt we (wipeS sl vs) (items.drop i) ci (fun acc c => Rf (accD ++ acc) c), ⟨items.length, ad1, [], [], cs, Nat.zero_le _, rfl, x1', h1', upd_same, .nil, Nat.le_refl _, h⟩, ?_⟩
  rintro i m H' ⟨ad', accV, accD, ci, hi', rfl, x', c', eD, rA, lA, hL⟩
  have kpI : Kp (Mm ad1 F) H1 (Mm ad' F') H' := fun a o e n => ⟨x'.keep a o e n, fun z => (x'.kp a o e n).2 (z.imp id fun z => z.resolve_right (neD a o e))⟩
  obtain ⟨ok1, ok2⟩ := okI F' ad' H' ci c' kpI i
  by_cases hlt : i < items.length
  · have hd : items[i]? = some items[i] := List.getElem?_eq_getElem hlt
    obtain ⟨g1, g2⟩ := ok1 _ hd
    rw [List.drop_eq_getElem_cons hlt] at hL
    obtain ⟨sl', eas, hL⟩ := asgW_of hL
    refine .inr ⟨g1, fun H2 => ∃ m', m' < items.length - i ∧ ∃ ad' accV accD ci, i + 1 ≤ items.length ∧ m' = items.length - (i + 1) ∧ Ext ad1 F H1 ad' H2 ∧ HoldC T K ad' F' H2 ci ∧ H2 Dl = some (.lst accV) ∧ Reps T K (Mm ad' F') H2 accV accD ∧ accD.length ≤ i + 1 ∧
      lcW p wt we (wipeS sl vs) (items.drop (i + 1)) ci (fun acc c => Rf (accD ++ acc) c), fun H2 ⟨m', hm, z⟩ => ⟨m', hm, z⟩, fun v H3 y => ?_⟩
    obtain ⟨gr, rv⟩ := g2 v H3 y
    obtain ⟨c3, x3⟩ := grow c' gr
    have x13 : Ext ad1 F H1 ad' H3 := ⟨x'.pre, fun a o e n => gr a o (x'.keep a o e n), fun a fa => (x'.frm a fa).trans (.inl (by
      obtain ⟨o, e⟩ := (x'.frm a fa).ex (h1.hc.al a fa)
      rw [gr a o e, e]))⟩
    have cvt : ∀ {ad6 : List Addr} {H6 : Hp}, Ext ad' F' H3 ad6 H6 → Ext ad1 F H1 ad6 H6 := fun {ad6 H6} x6 => by
      obtain ⟨t, e, ht⟩ := x13.pre
      obtain ⟨t2, e2, ht2⟩ := x6.pre
      refine ⟨⟨t ++ t2, by rw [e2, e, List.append_assoc], fun a ha => ?_⟩, fun a o e n => ?_, fun a fa => ?_⟩
      · rcases List.mem_append.mp ha with z | z
        · exact ht a z
        · cases q1 : H1 a with
          | none => rfl
          | some o =>
            exfalso
            have hz := ht2 a z
            by_cases n : Mm ad1 F a
            · rcases n with n | n
              · obtain ⟨o', e'⟩ := c3.mem (a := a) (by rw [e]; exact List.mem_append_left _ n)
                rw [e'] at hz; cases hz
              · obtain ⟨o', e'⟩ := (x13.frm a n).ex ⟨_, q1⟩
                rw [e'] at hz; cases hz
            · rw [x13.keep a o q1 n] at hz; cases hz
      · have n3 : ¬ Mm ad' F' a := fun z => (x13.kp a o e n).2 (z.imp id fun z => z.resolve_right (neD a o e))
        exact x6.keep a o (x13.keep a o e n) n3
      · exact (x13.frm a fa).trans (x6.frm a (.inl fa))
    have eD3 : H3 Dl = some (.lst accV) := gr _ _ eD
    have rA3 : Reps T K (Mm ad' F') H3 accV accD := rA.kp x3.kp
    refine ⟨ad', F', ⟨wipeS sl vs, ci⟩, items[i], sl', slots x13 c3, rv, eas, fun σ4 a4 h4 => ⟨wipe_asis a4 hp, ad', F', sl', ci, _, noX, h4, hL, fun b c1 H5 ad5 hb x5 h5 => ?_, Raz.no⟩⟩
    cases b with
    | true =>
      refine iteT ⟨ad5, F', sl', c1, _, noX, h5, hb.t rfl, fun s c2 w H6 ad6 hs x6 h6 r6 => ?_, Raz.no⟩
      obtain ⟨d', rfl, hL2⟩ := isDat_of hs
      refine ⟨accV, ?_, ?_, ?_⟩
      · exact (x6.frm Dl (.inr rfl)).eq ((x5.frm Dl (.inr rfl)).eq eD3 (fun _ z => nomatch z)) (fun _ z => nomatch z)
      · have := rA3.length
        omega
      · have x36 : Ext ad' F' H3 ad6 H6 := x5.trans h5.hc x6
        have x16 := cvt x36
        have hDa : Dl ∉ ad6 := fun z => h6.hc.fr Dl z (.inr rfl)
        have kpU : Kp (Mm ad6 F') H6 (Mm ad6 F') (upd H6 Dl (.lst (accV ++ [w]))) := fun a o e n => ⟨by rw [upd_ne (fun z => n (.inr (.inr z)))]; exact e, n⟩
        refine ⟨_, by omega, ad6, accV ++ [w], accD ++ [d'], c2, hlt, rfl, ?_, ?_, upd_same, ((rA3.kp x36.kp).append (.cons r6 .nil)).kp kpU, by rw [List.length_append]; simp; omega, ?_⟩
        · exact ⟨x16.pre, fun a o e n => by rw [upd_ne (neD a o e)]; exact x16.keep a o e n, fun a fa => by
            obtain ⟨o, e⟩ := h1.hc.al a fa
            exact (x16.frm a fa).trans (.inl (by
              obtain ⟨o6, e6⟩ := (x16.frm a fa).ex ⟨o, e⟩
              rw [upd_ne (neD a o e)]))⟩
        · refine ⟨h6.hc.nd, h6.hc.fr, fun a z => ?_, h6.hc.tb.upd ((x6.frm Dl (.inr rfl)).eq ((x5.frm Dl (.inr rfl)).eq eD3 (fun _ z => nomatch z)) (fun _ z => nomatch z)) (fun _ z => nomatch z) (fun _ z => nomatch z) (fun _ z => nomatch z), h6.hc.ln, fun k a c e1 e2 => ?_⟩
          · by_cases e : a = Dl
            · rw [e]; exact ⟨_, upd_same⟩
            · rw [upd_ne e]; exact h6.hc.al a z
          · exact (h6.hc.ce k a c e1 e2).kp kpU (upd_ne fun z => hDa (z ▸ List.mem_of_getElem? e1))
        · have e : (fun acc c => Rf (accD ++ [d'] ++ acc) c) = fun acc c => Rf (accD ++ (d' :: acc)) c := by
            funext acc c
            rw [List.append_assoc]
            rfl
          rw [e]
          exact hL2
    | false => exact iteF ⟨_, by omega, ad5, accV, accD, c1, hlt, rfl, cvt x5, h5.hc, (x5.frm Dl (.inr rfl)).eq eD3 (fun _ z => nomatch z), rA3.kp x5.kp, by omega, hb.f rfl⟩
  · have e : i = items.length := by omega
    subst e
    rw [List.drop_length] at hL
    have hL : Rf (accD ++ []) ci := hL
    rw [List.append_nil] at hL
    exact .inl ⟨ok2 rfl, q accV accD ci ad' H' x' c' eD rA hL⟩
theorem lc_then {σ : St} {H : Hp} {Q : VK} (hp : ∀ i ∈ slotsP p, i ∈ own) (h : tJ T K W (wLc wi p wt we own) σ H Q) : tLc (tJI T K W wi) (tDG T K p) (tJT T K W0 wt) (tJ T K W0 we) own σ H Q := by
  obtain ⟨ad, F, sl, cs, R, Rx, h0, hw, q, qx⟩ := h
  refine ⟨ad, F, sl, cs, _, Rx, h0, hw, fun items c J H1 ad1 hw1 x1 h1 ok Dl hD => ?_, qx⟩
  refine lc_core hp h1 ok hw1.1 hw1.2 hD fun accV accD ci ad' H' x' c' eD rA hR => ?_
  have nD := h1.hc.new hD
  have kpF : Kp (Mm ad' fun a => F a ∨ a = Dl) H' (Mm ad' F) H' := fun a o e n => ⟨e, fun z => n (z.imp id .inl)⟩
  have cF : HoldC T K ad' F H' ci := ⟨c'.nd, fun a ha z => c'.fr a ha (.inl z), fun a z => c'.al a (.inl z), h1.hc.tb.back (fun _ z => .inl z) c'.tb, c'.ln, fun k a c e1 e2 => (c'.ce k a c e1 e2).kp kpF rfl⟩
  have nD' : ¬ Mm ad' F Dl := fun z => z.elim (fun z => c'.fr Dl z (.inr rfl)) fun z => nD (.inr z)
  exact q _ ci (.ref Dl) H' ad' hR (x1.trans h1.hc x') (h1.to x' cF) (Rep.lst nD' eD (rA.kp kpF))
end
section
variable {X : Cx} {T : Tab} {W : WX} {elt tg iter : Expr} {ifs : List Expr} {scope : Scope} {own : List (Str × Nat)} {p : Pat} {wi : WpI} {wt : WpT} {we : WpE} {pos : Pos}
structure JLC (X : Cx) (T : Tab) (W : WX) (elt tg iter : Expr) (ifs : List Expr) (scope : Scope) (own : List (Str × Nat)) (wi : WpI) (p : Pat) (wt : WpT) (we : WpE) : Prop where
  hi : JI X T W tg iter wi
  ok : BlkOk X.N X.env.scope scope own
  hg : InB X scope fun X' => DG X' T tg p
  ht : InB X scope fun X' => JTs X' T W0 ifs wt
  he : InB X scope fun X' => JE X' T W0 elt we
  hp : ∀ i ∈ slotsP p, i ∈ own.map (·.2)
theorem je_lc {vs : List Nat} (hN : X.N.Nodup) (h : JLC X T W elt tg iter ifs scope own wi p wt we) (hv : own.map (·.2) = vs := by rfl) (hc : X.calm = true := by rfl) (hs : ∀ x, foldedSetIterable iter X.env x = pure x := by intro _; rfl) : JE X T W (.ListComp elt [⟨tg, iter, ifs, 0⟩] scope pos) (wLc wi p wt we vs) := by
  subst hv
  exact weak (pe_lc (g := tDG T X.K p) (tt := tJT T X.K W0 wt) (te := tJ T X.K W0 we) hc hN h.hi h.ok h.hg h.ht h.he hs) fun σ H Q z => lc_then h.hp z
end
end Dl
namespace Dl
open PySem L2
structure PJ where
  nx : Sta → Prop
  rt : Sl → List Cell → Prop
  bk : Sta → Prop := fun _ => False
  ct : Sta → Prop := fun _ => False
  ex : Exc → Sta → Prop := fun _ _ => False
abbrev PJ.to (P : PJ) (W : WX) : Post := { nx := P.nx, rt := P.rt, bk := P.bk, ct := P.ct, ex := P.ex, W := W }
abbrev WS := Sta → PJ → Prop
def JS (X : Cx) (T : Tab) (W : WX) (n : Nat) (st : Stmt) (w : WS) : Prop := ∀ (S : Sta) (P : PJ), w S P → DS X T n S st (P.to W)
def JSs (X : Cx) (T : Tab) (W : WX) (n : Nat) (sts : List Stmt) (w : WS) : Prop := ∀ (S : Sta) (P : PJ), w S P → DSs X T n S sts (P.to W)
section
variable {X : Cx} {T : Tab} {W : WX} {n : Nat} {a b c e o ix it tg : Expr} {es : List Expr} {pos p p' px py pz pt pt2 : Pos} {wa wb we wo wx w : WpE} {wt : WpT} {wA : WpA} {wi : WpI} {st : Stmt} {rest body els : List Stmt} {w1 w2 : WS} {x y z : Str} {i j l kt k2 : Nat} {pa : Pat}
theorem raz_of {K : PySem.W.Frag} {S : Sta} {P : PJ} {ad : List Addr} {F : Addr → Prop} {σ : St} {H : Hp} (hn : n ≤ ad.length) (q5 : ∀ x S' cls d σ' H' ad', ExtS n ad F H ad' H' → n ≤ ad'.length → Hold T K S' ad' F σ' H' → ExRep T K (Mm ad' F) H' cls d x → P.ex x S' → W cls d σ' H') :
    Raz T K W σ ad F H S.sl (fun x c => P.ex x ⟨S.sl, c⟩) := fun x c cls d H' ad' hx x1 h1 er => q5 x ⟨S.sl, c⟩ cls d σ H' ad' (x1.s hn) (x1.le hn) h1 er hx
def wNilS : WS := fun S P => P.nx S
def wConsS (w1 w2 : WS) : WS := fun S P => w1 S { P with nx := fun S' => w2 S' P }
theorem jss_nil : JSs X T W n [] wNilS := fun S P h => dss_nil h
theorem jss_cons (h1 : JS X T W n st w1) (h2 : JSs X T W n rest w2) : JSs X T W n (st :: rest) (wConsS w1 w2) := fun S P h =>
  dss_cons (ds_mono (h1 S { P with nx := fun S' => w2 S' P } h) (fun S' q => h2 S' P q) (fun _ _ q => q) (fun _ q => q) (fun _ q => q) (fun _ _ q => q) rfl)
def wAsg (i : Nat) (w : WpE) : WS := fun S P => w S.sl S.cs (fun s c => P.nx ⟨S.sl.set i (some s), c⟩) (fun x c => P.ex x ⟨S.sl, c⟩)
theorem js_asg (i : Nat) (hN : X.N.Nodup) (he : JE X T W e w) (hi : X.N[i]? = some x := by rfl) (hx : Loc X.env.scope x := by first | exact Or.inl rfl | exact Or.inr rfl)
    (hs : swapsWith e (some (.Name x p')) pos.line X.env = pure false := by rfl) (hf : X.fn x = true ∨ X.env.scope.names.lookup x = some .local := by first | exact .inl rfl | exact .inr rfl) : JS X T W n (.Assign [.Name x p'] e pos) (wAsg i w) := fun S P h =>
  weakS (ps_set hN hi hx he hs hf) fun D σ H ⟨ad, F, hn, h0, q1, q2, q3, q4, q5⟩ => ⟨ad, F, S.sl, S.cs, _, _, h0, h, fun s c v H1 ad1 hR x1 h1 r1 => q1 _ _ H1 ad1 (x1.s hn) (x1.le hn) (h1.set r1 i) hR, raz_of hn q5⟩
theorem js_lc (i : Nat) {vs : List Nat} {elt tg iter : Expr} {ifs : List Expr} {scope : Scope} {own : List (Str × Nat)} {p : Pat} {wi : WpI} {wt : WpT} {we : WpE} {py spos : Pos} (hN : X.N.Nodup) (h : JLC X T W elt tg iter ifs scope own wi p wt we) (hv : own.map (·.2) = vs := by rfl) (hy : X.N[i]? = some y := by rfl) (hyl : X.env.scope.names.lookup y = some .local := by rfl)
    (hsw : swapsWith (.ListComp elt [⟨tg, iter, ifs, 0⟩] scope pos) (some (.Name y py)) spos.line X.env = pure true := by exact sw_true rfl rfl rfl (by decide +kernel)) (hc : X.calm = true := by rfl) (hs : ∀ x, foldedSetIterable iter X.env x = pure x := by intro _; rfl) :
    JS X T W n (.Assign [.Name y py] (.ListComp elt [⟨tg, iter, ifs, 0⟩] scope pos) spos) (wAsg i (wLc wi p wt we vs)) := fun S P hw => by
  subst hv
  exact weakS (ps_setLc (g := tDG T X.K p) (tt := tJT T X.K W0 wt) (te := tJ T X.K W0 we) hc hN hy hyl hsw h.hi h.ok h.hg h.ht h.he hs) fun D σ H ⟨ad, F, hn, h0, q1, q2, q3, q4, q5⟩ =>
    lc_then (W := W) h.hp ⟨ad, F, S.sl, S.cs, _, _, h0, hw, fun s c v H1 ad1 hR x1 h1 r1 => q1 _ _ H1 ad1 (x1.s hn) (x1.le hn) (h1.set r1 i) hR, raz_of hn q5⟩
def wExpr (w : WpE) : WS := fun S P => w S.sl S.cs (fun _ c => P.nx ⟨S.sl, c⟩) (fun x c => P.ex x ⟨S.sl, c⟩)
theorem js_expr (he : JE X T W e w) (hs : swapsWith e none pos.line X.env = pure false := by rfl) : JS X T W n (.Expr e pos) (wExpr w) := fun S P h =>
  weakS (ps_expr he hs) fun D σ H ⟨ad, F, hn, h0, q1, q2, q3, q4, q5⟩ => ⟨ad, F, S.sl, S.cs, _, _, h0, h, fun s c v H1 ad1 hR x1 h1 r1 => q1 _ _ H1 ad1 (x1.s hn) (x1.le hn) h1 hR, raz_of hn q5⟩
def retW (n : Nat) (P : PJ) (s : Sl) (c : List Cell) : Prop := match s with
  | .dat d => P.rt (.dat d) (c.take n)
  | .cel k => n ≤ k ∧ match c[k]? with
    | some (.lst ds) => P.rt (.dat (.lst ds)) (c.take n)
    | _ => False
def wRet (n : Nat) (w : WpE) : WS := fun S P => w S.sl S.cs (fun s c => retW n P s c) (fun x c => P.ex x ⟨S.sl, c⟩)
theorem ext_take {ad ad1 : List Addr} {F : Addr → Prop} {H H1 : Hp} (xs : ExtS n ad F H ad1 H1) : ExtS n ad F H (ad1.take n) H1 := ⟨by rw [List.take_take, Nat.min_self]; exact xs.pre, fun a ha => xs.sub a (List.mem_of_mem_take ha), xs.keep, xs.frm⟩
theorem js_ret (he : JE X T W e w) : JS X T W n (.Return (some e) pos) (wRet n w) := fun S P h =>
  weakS (ps_ret he) fun D σ H ⟨ad, F, hn, h0, q1, q2, q3, q4, q5⟩ => ⟨ad, F, S.sl, S.cs, _, _, h0, h, fun s c v H1 ad1 hR x1 h1 r1 => by
    have xs := x1.s hn
    have hn1 := x1.le hn
    have kp : Kp (Mm ad1 F) H1 (Mm (ad1.take n) F) H1 := fun a o e m => ⟨e, fun z => m (z.imp List.mem_of_mem_take id)⟩
    have hl : n ≤ (ad1.take n).length := by rw [List.length_take]; omega
    unfold retW at hR
    split at hR
    · exact q2 (.dat _) _ v H1 (ad1.take n) (ext_take xs) hl (h1.hc.take n) (Rep.kp kp r1) hR
    · obtain ⟨hk, hR⟩ := hR
      split at hR
      · rename_i k _ ds hc
        obtain ⟨a, ha, rfl⟩ := r1
        obtain ⟨vs, e1, rv⟩ := h1.hc.ce k a _ ha hc
        have na : ¬ Mm (ad1.take n) F a := fun z => z.elim (fun z => by
          obtain ⟨j, hj, ej⟩ := List.getElem_of_mem z
          have hj' : (ad1.take n)[j]? = some a := by rw [List.getElem?_eq_getElem hj, ej]
          have hjn : j < n := by rw [List.length_take] at hj; omega
          rw [List.getElem?_take, if_pos hjn] at hj'
          have := ix_inj h1.hc.nd ha hj'
          omega) fun z => h1.hc.fr a (List.mem_of_getElem? ha) z
        exact q2 (.dat _) _ (.ref a) H1 (ad1.take n) (ext_take xs) hl (h1.hc.take n) (Rep.lst na e1 (rv.kp kp)) hR
      · exact hR.elim, raz_of hn q5⟩
def wRetC (n : Nat) (w : WpE) : WS := fun S P => w S.sl S.cs (fun s c => match s with
  | .cel k => k = n ∧ P.rt (.cel n) (c.take (n + 1))
  | _ => False) (fun x c => P.ex x ⟨S.sl, c⟩)
theorem js_retC (he : JE X T W e w) : JS X T W n (.Return (some e) pos) (wRetC n w) := fun S P h =>
  weakS (ps_ret he) fun D σ H ⟨ad, F, hn, h0, q1, q2, q3, q4, q5⟩ => ⟨ad, F, S.sl, S.cs, _, _, h0, h, fun s c v H1 ad1 hR x1 h1 r1 => by
    have xs := x1.s hn
    have hn1 := x1.le hn
    split at hR
    · obtain ⟨rfl, hR⟩ := hR
      obtain ⟨a, ha, rfl⟩ := r1
      rename_i k _
      have hl : k < ad1.length := by
        rcases Nat.lt_or_ge k ad1.length with z | z
        · exact z
        · rw [List.getElem?_eq_none z] at ha; cases ha
      refine q2 (.cel k) _ (.ref a) H1 (ad1.take (k + 1)) ⟨?_, fun b hb => xs.sub b (List.mem_of_mem_take hb), xs.keep, xs.frm⟩ ?_ (h1.hc.take _) ⟨a, ?_, rfl⟩ hR
      · rw [List.take_take, Nat.min_eq_left (Nat.le_succ k)]; exact xs.pre
      · rw [List.length_take]; omega
      · rw [List.getElem?_take, if_pos (Nat.lt_succ_self k)]; exact ha
    · exact hR.elim, raz_of hn q5⟩
def wIfS (wt : WpT) (w1 w2 : WS) : WS := fun S P => wt S.sl S.cs (fun b c => Br b (w1 ⟨S.sl, c⟩ P) (w2 ⟨S.sl, c⟩ P)) (fun x c => P.ex x ⟨S.sl, c⟩)
theorem js_if (hc : JT X T W c wt) (h1 : JSs X T W n body w1) (h2 : JSs X T W n els w2) : JS X T W n (.If c body els pos) (wIfS wt w1 w2) := fun S P h => by
  have b1 : PSs X body (fun D σ H => ∃ S P, DSs X T n S body P ∧ tDS T X.K n S P D σ H) := ⟨fun pins s σ H D I ⟨S', P', hS, z⟩ => hS.run pins s σ H D I z⟩
  have b2 : PSs X els (fun D σ H => ∃ S P, DSs X T n S els P ∧ tDS T X.K n S P D σ H) := ⟨fun pins s σ H D I ⟨S', P', hS, z⟩ => hS.run pins s σ H D I z⟩
  exact weakS (ps_if hc b1 b2) fun D σ H ⟨ad, F, hn, h0, q1, q2, q3, q4, q5⟩ => ⟨ad, F, S.sl, S.cs, _, _, h0, h, fun k c H1 ad1 hR x1 h1' => by
    cases k with
    | true => exact iteT ⟨⟨S.sl, c⟩, P.to W, h1 _ P (hR.t rfl), tDS.go (σ := σ) (x1.s hn) (x1.le hn) h1' q1 q2 q3 q4 q5⟩
    | false => exact iteF ⟨⟨S.sl, c⟩, P.to W, h2 _ P (hR.f rfl), tDS.go (σ := σ) (x1.s hn) (x1.le hn) h1' q1 q2 q3 q4 q5⟩, raz_of hn q5⟩
def forW (p : Pat) (wb : WS) : List D → Sta → PJ → Prop
  | [], S, P => P.nx S
  | d :: ds, S, P => asgW p d S.sl fun sl' => wb ⟨sl', S.cs⟩ { P with nx := fun S' => forW p wb ds S' P, ct := fun S' => forW p wb ds S' P, bk := P.nx }
theorem for_of {wb : WS} (hb : JSs X T W n body wb) : ∀ {items : List D} {S : Sta} {P : PJ}, forW pa wb items S P → DFor X T n pa body items S (P.to W)
  | [], S, P, h => h
  | d :: ds, S, P, h => by
    obtain ⟨sl', e, h⟩ := asgW_of h
    exact ⟨sl', e, dss_mono (hb _ _ h) (fun S' q => for_of hb q) (fun _ _ q => q) (fun _ q => q) (fun S' q => for_of hb q) (fun _ _ q => q) rfl⟩
theorem for_core {items : List D} {S S1 : Sta} {P : Post} {D : Ends} {σ : St} {H H1 : Hp} {ad ad1 : List Addr} {F : Addr → Prop} {J : It} (x1 : Ext ad F H ad1 H1) (hn : n ≤ ad.length) (h1 : Hold T X.K S1 ad1 F σ H1) (ok : ItOk T X.K F J items ad1 H1) (h : DFor X T n pa body items S1 P)
    (q1 : ∀ S' σ' H' ad', ExtS n ad F H ad' H' → n ≤ ad'.length → Hold T X.K S' ad' F σ' H' → P.nx S' → D.nx σ' H')
    (q2 : ∀ s cs' v H' ad', ExtS n ad F H ad' H' → n ≤ ad'.length → HoldC T X.K ad' F H' cs' → SlRep T X.K ad' F H' v s → P.rt s cs' → D.rt v H')
    (q5 : ∀ x S' cls d σ' H' ad', ExtS n ad F H ad' H' → n ≤ ad'.length → Hold T X.K S' ad' F σ' H' → ExRep T X.K (Mm ad' F) H' cls d x → P.ex x S' → P.W cls d σ' H') :
    ∃ Wl : Nat → Nat → St → Hp → Prop, (∃ m, Wl 0 m σ H1) ∧ ∀ i m σ H, Wl i m σ H →
      (J.stop i H ∧ D.nx σ H) ∨ (J.go i H ∧ ∃ N : St → Hp → Prop, (∀ σ' H', N σ' H' → ∃ m', m' < m ∧ Wl (i + 1) m' σ' H') ∧ ∀ x H', J.yld i H x H' → tDG T X.K pa x σ H' fun σ2 H2 => (fun D σ H => ∃ S P, DSs X T n S body P ∧ tDS T X.K n S P D σ H) { D with nx := N, ct := N, bk := D.nx } σ2 H2) := by
  have xs1 := x1.s hn
  have hn1 := x1.le hn
  refine ⟨fun i m σ' H' => ∃ ad' S', n ≤ ad'.length ∧ Hold T X.K S' ad' F σ' H' ∧ ExtS n ad1 F H1 ad' H' ∧ i ≤ items.length ∧ m = items.length - i ∧ DFor X T n pa body (items.drop i) S' P, ⟨items.length, ad1, S1, hn1, h1, .refl, Nat.zero_le _, rfl, h⟩, ?_⟩
  rintro i m σ' H' ⟨ad', S', hn', h', x', hi', rfl, hf⟩
  obtain ⟨ok1, ok2⟩ := ok F ad' H' S'.cs h'.hc x'.kp i
  by_cases hlt : i < items.length
  · have hd : items[i]? = some items[i] := List.getElem?_eq_getElem hlt
    obtain ⟨g1, g2⟩ := ok1 _ hd
    rw [List.drop_eq_getElem_cons hlt] at hf
    obtain ⟨sl', e, hf⟩ := hf
    refine .inr ⟨g1, fun σ2 H2 => ∃ ad2 S2, n ≤ ad2.length ∧ Hold T X.K S2 ad2 F σ2 H2 ∧ ExtS n ad1 F H1 ad2 H2 ∧ DFor X T n pa body (items.drop (i + 1)) S2 P, fun σ2 H2 ⟨ad2, S2, hn2, h2, x2, hf2⟩ => ⟨items.length - (i + 1), by omega, ad2, S2, hn2, h2, x2, hlt, rfl, hf2⟩, fun v H3 y => ?_⟩
    obtain ⟨gr, rv⟩ := g2 v H3 y
    obtain ⟨c3, x3⟩ := grow h'.hc gr
    refine ⟨ad', F, S', items[i], sl', h'.to x3 c3, rv, e, fun σ4 _ h4 => ⟨_, _, hf, ad', F, hn', h4, ?_, ?_, ?_, ?_, ?_⟩⟩
    · exact fun S5 σ5 H5 ad5 x5 hn5 h5 p5 => ⟨ad5, S5, hn5, h5, x'.trans ((x3.s hn').trans x5), p5⟩
    · exact fun s cs5 v5 H5 ad5 x5 hn5 c5 r5 p5 => q2 s cs5 v5 H5 ad5 (xs1.trans (x'.trans ((x3.s hn').trans x5))) hn5 c5 r5 p5
    · exact fun S5 σ5 H5 ad5 x5 hn5 h5 p5 => q1 S5 σ5 H5 ad5 (xs1.trans (x'.trans ((x3.s hn').trans x5))) hn5 h5 p5
    · exact fun S5 σ5 H5 ad5 x5 hn5 h5 p5 => ⟨ad5, S5, hn5, h5, x'.trans ((x3.s hn').trans x5), p5⟩
    · exact fun z S5 cls d σ5 H5 ad5 x5 hn5 h5 r5 p5 => q5 z S5 cls d σ5 H5 ad5 (xs1.trans (x'.trans ((x3.s hn').trans x5))) hn5 h5 r5 p5
  · have e : i = items.length := by omega
    subst e
    rw [List.drop_length] at hf
    exact .inl ⟨ok2 rfl, q1 S' σ' H' ad' (xs1.trans x') hn' h' hf⟩
def wFor (wi : WpI) (p : Pat) (wb : WS) : WS := fun S P => wi S.sl S.cs (fun items c => forW p wb items ⟨S.sl, c⟩ P) (fun x c => P.ex x ⟨S.sl, c⟩)
theorem js_for {wb : WS} (hp : PassesOwn (model X.prog X.w) X.A X.env X.xe) (hi : JI X T W tg it wi) (hg : DG X T tg pa) (hb : JSs X T W n body wb) (hc : X.calm = true := by rfl) (hs : ∀ x, foldedSetIterable it X.env x = pure x := by intro _; rfl) : JS X T W n (.For tg it body [] pos) (wFor wi pa wb) := fun S P h => by
  have b1 : PSs X body (fun D σ H => ∃ S P, DSs X T n S body P ∧ tDS T X.K n S P D σ H) := ⟨fun pins s σ H D I ⟨S', P', hS, z⟩ => hS.run pins s σ H D I z⟩
  exact weakS (ps_for hp hc hi hg b1 hs) fun D σ H ⟨ad, F, hn, h0, q1, q2, q3, q4, q5⟩ => ⟨ad, F, S.sl, S.cs, _, _, h0, h, fun items c J H1 ad1 hR x1 h1 ok => for_core (S := S) (P := P.to W) x1 hn h1 ok (for_of hb hR) q1 q2 q5, raz_of hn q5⟩
def par2 (i j : Nat) (ss : List Sl) (sl : Sls) (k : Sls → Prop) : Prop := match ss with
  | [s1, s2] => k ((sl.set i (some s1)).set j (some s2))
  | _ => False
def wPar2 (i j : Nat) (wA : WpA) : WS := fun S P => wA S.sl S.cs (fun ss c => par2 i j ss S.sl fun sl' => P.nx ⟨sl', c⟩) (fun x c => P.ex x ⟨S.sl, c⟩)
theorem js_par2 (i j : Nat) (hN : X.N.Nodup) (ha : JA X T W [a, b] wA) (hi : X.N[i]? = some x := by rfl) (hj : X.N[j]? = some y := by rfl) (hij : i ≠ j := by decide)
    (hx : X.env.scope.names.lookup x = some .local := by rfl) (hy : X.env.scope.names.lookup y = some .local := by rfl) (hc : X.calm = true := by rfl)
    (hw : swappedStores [.Tuple [.Name x px, .Name y py] kt pt] (.Tuple [a, b] k2 pt2) X.env = pure (some [x, y]) := by rfl)
    (hs : swapsWithSole [.Tuple [.Name x px, .Name y py] kt pt] (.Tuple [a, b] k2 pt2) pos.line X.env = pure false := by rfl) : JS X T W n (.Assign [.Tuple [.Name x px, .Name y py] kt pt] (.Tuple [a, b] k2 pt2) pos) (wPar2 i j wA) := fun S P h =>
  weakS (ps_par hc hN hi hj hij hx hy ha hw hs) fun D σ H ⟨ad, F, hn, h0, q1, q2, q3, q4, q5⟩ => ⟨ad, F, S.sl, S.cs, _, _, h0, h, fun ss c vs H1 ad1 hR x1 h1 r1 => by
    unfold par2 at hR
    split at hR
    · match vs, r1 with
      | [v, w], r1 => exact ⟨v, w, rfl, q1 _ _ H1 ad1 (x1.s hn) (x1.le hn) ((h1.set r1.1 i).set r1.2.1 j) hR⟩
    · exact hR.elim, raz_of hn q5⟩
def par3 (i j l : Nat) (ss : List Sl) (sl : Sls) (k : Sls → Prop) : Prop := match ss with
  | [s1, s2, s3] => k (((sl.set i (some s1)).set j (some s2)).set l (some s3))
  | _ => False
def wPar3 (i j l : Nat) (wA : WpA) : WS := fun S P => wA S.sl S.cs (fun ss c => par3 i j l ss S.sl fun sl' => P.nx ⟨sl', c⟩) (fun x c => P.ex x ⟨S.sl, c⟩)
def setLW (s : Sl) (i : Sl) (d : Sl) (cs : List Cell) (k : List Cell → Prop) : Prop := match s, i, d with
  | .cel j, .dat (.int i), .dat d => match cs[j]? with
    | some (.lst ds) => match ixN ds.length i with
      | some m => k (cs.set j (.lst (ds.set m d)))
      | none => False
    | _ => False
  | _, _, _ => False
def wSetL (we wo wx : WpE) : WS := fun S P => we S.sl S.cs (fun d c1 => wo S.sl c1 (fun s c2 => wx S.sl c2 (fun i c3 => setLW s i d c3 fun c4 => P.nx ⟨S.sl, c4⟩) (fun x c => P.ex x ⟨S.sl, c⟩)) (fun x c => P.ex x ⟨S.sl, c⟩)) (fun x c => P.ex x ⟨S.sl, c⟩)
theorem js_setL (he : JE X T W e we) (ho : JE X T W o wo) (hx : JE X T W ix wx)
    (ha : ∀ v, assign (.Subscript o ix p') X.env v = (do
      let ov ← holding [v] (eval o X.env)
      let iv ← holding [v, ov] (eval ix X.env)
      standAt p'
      holding [v, ov, iv] (setItem ov iv v)
      release [v, ov, iv] []) := by intro _; rfl)
    (hs : swapsWithSole [.Subscript o ix p'] e pos.line X.env = pure false := by rfl) (hw : swappedStores [.Subscript o ix p'] e X.env = pure none := by rfl)
    (h1 : (assignEach [.Subscript o ix p'] X.env).map (·.2) = [assign (.Subscript o ix p') X.env] := by rfl) : JS X T W n (.Assign [.Subscript o ix p'] e pos) (wSetL we wo wx) := fun S P h =>
  weakS (ps_asg he (pg_sub ho hx set_list ha) hs hw h1) fun D σ H ⟨ad, F, hn, h0, q1, q2, q3, q4, q5⟩ => ⟨ad, F, S.sl, S.cs, _, _, h0, h, fun d c1 v H1 ad1 hR1 x1 h1 r1 => ⟨ad1, F, S.sl, c1, _, _, h1, hR1, fun s c2 w H2 ad2 hR2 x2 h2 r2 => ⟨ad2, F, S.sl, c2, _, _, h2, hR2, fun i c3 z H3 ad3 hR3 x3 h3 r3 => by
    unfold setLW at hR3
    split at hR3
    · rename_i j ii dd
      split at hR3
      · rename_i ds hk
        split at hR3
        · rename_i m hm
          cases r3
          have r2' := SlRep.ext x3 r2
          obtain ⟨a, ea, rfl⟩ := r2'
          obtain ⟨vs, e1, q0⟩ := h3.hc.ce j a _ ea hk
          have rd : Rep T X.K (Mm ad3 F) H3 v dd := SlRep.ext (s := .dat dd) x3 (SlRep.ext (s := .dat dd) x2 r1)
          refine ⟨a, vs, ii, m, rfl, rfl, e1, by rw [q0.length]; exact hm, ?_⟩
          have kp : Kp (Mm ad3 F) H3 (Mm ad3 F) (upd H3 a (.lst (vs.set m v))) := fun b o e nn => ⟨by rw [upd_ne (fun z => nn (.inl (by rw [z]; exact List.mem_of_getElem? ea)))]; exact e, nn⟩
          obtain ⟨k4, x4⟩ := h3.hc.setc (o := .lst (vs.set m v)) (c := .lst (ds.set m dd)) ea ⟨_, upd_same, (q0.set rd m).kp kp⟩
          have x := x1.trans h1.hc (x2.trans h2.hc (x3.trans h3.hc x4))
          exact q1 _ _ _ ad3 (x.s hn) (x.le hn) (h3.to x4 k4) hR3
        · exact hR3.elim
      · exact hR3.elim
    · exact hR3.elim, ((raz_of hn q5).on x1 h1).on x2 h2⟩, (raz_of hn q5).on x1 h1⟩, raz_of hn q5⟩
end
def endJ (n : Nat) (s : Sl) (cs' : List Cell) : PJ := { nx := fun S => s = .dat .non ∧ S.cs.take n = cs', rt := fun r c => r = s ∧ c = cs' }
def endJX (n : Nat) (x : Exc) (cs' : List Cell) : PJ := { nx := fun _ => False, rt := fun _ _ => False, ex := fun y S => y = x ∧ S.cs.take n = cs' }
def ctOf (N ps : List Str) (w : Nat → WS) : Ct := fun args cs s cs' => args.length = ps.length ∧ w cs.length (st0 N args cs) (endJ cs.length s cs')
def ctXOf (N ps : List Str) (w : Nat → WS) : CtX := fun args cs x cs' => args.length = ps.length ∧ w cs.length (st0 N args cs) (endJX cs.length x cs')
section
variable {T : Tab} {P : Program} {w : World} {K : PySem.W.Frag} {mg : Str → Option Value} {base : Heap} {x qual : Str} {st : Stmt} {f : Addr} {fd : FuncData} {N ps : List Str} {k : Nat} {ws : Nat → WS}
theorem fn_J (F : Fun K x qual st f fd) (Sc : FnScope N ps (defScope st))
    (body : ∀ cdv A outer sh H E, Room k (cx0 P w K mg base N qual st f cdv A outer sh H E).A → ∀ n, JSs (cx0 P w K mg base N qual st f cdv A outer sh H E) T W0 n (defBody st) (ws n)) : FnOk P w K mg base CX0 (k + 1) f fd ps (spC T K (ctOf N ps ws)) :=
  fn_ok F Sc (fun _ _ _ _ h => h.1) fun cdv A outer sh H E hr args cs s cs' h => body cdv A outer sh H E hr _ _ _ h.2
theorem fn_JX (F : Fun K x qual st f fd) (Sc : FnScope N ps (defScope st))
    (body : ∀ cdv A outer sh H E, Room k (cxX P w K mg base N qual st f cdv A outer sh H E).nox.A → ∀ n, JSs (cxX P w K mg base N qual st f cdv A outer sh H E).nox T W0 n (defBody st) (ws n))
    (bodyX : ∀ cdv A outer sh H E, Room k (cxX P w K mg base N qual st f cdv A outer sh H E).A → Takes (cxX P w K mg base N qual st f cdv A outer sh H E) (fun cls d _ H => E cls d H) → ∀ n, JSs (cxX P w K mg base N qual st f cdv A outer sh H E) T (fun cls d _ H => E cls d H) n (defBody st) (ws n)) :
    FnOk P w K mg base (L2.CX P w) (k + 1) f fd ps (spX T K (ctOf N ps ws) (ctXOf N ps ws)) :=
  fn_okX F Sc (fun _ _ _ _ h => h.1) (fun _ _ _ _ h => h.1) (fun cdv A outer sh H E hr args cs s cs' h => body cdv A outer sh H E hr _ _ _ h.2) fun cdv A outer sh H E hr tk args cs x cs' h => bodyX cdv A outer sh H E hr tk _ _ _ h.2
end
end Dl
namespace Dl
open PySem L2
def optW (o : Option Bool) (k : Bool → Prop) : Prop := match o with
  | some b => k b
  | none => False
theorem optW_of {o : Option Bool} {k : Bool → Prop} (h : optW o k) : ∃ b, o = some b ∧ k b := by
  unfold optW at h
  split at h
  · exact ⟨_, rfl, h⟩
  · exact h.elim
section
variable {X : Cx} {T : Tab} {W : WX} {n : Nat} {a b c e e2 o ix it tg : Expr} {es : List Expr} {pos apos p p2 p' : Pos} {wa wb we wo wx w : WpE} {wt : WpT} {wA : WpA} {x y z : Str} {u : String} {C2 : Addr}
def sufJ (i : Nat) (P : PJ) : PJ := { nx := fun S' => P.nx ⟨S'.sl.set i none, S'.cs⟩, rt := P.rt, bk := fun S' => P.bk ⟨S'.sl.set i none, S'.cs⟩, ct := fun S' => P.ct ⟨S'.sl.set i none, S'.cs⟩ }
end
section
variable {X : Cx} {T : Tab} {a C Ce : Addr} {oe : Obj} {d : Option Addr} {pn : List (Addr × Obj)} {e e2 : Expr} {pos p : Pos} {m : Nat} {fn : List Str} {w w2 : WpE} {f : Str}
end
end Dl
namespace Dl
open PySem L2
open PySem.W in
theorem kit_cls {K : Frag} {C : Addr} {t : Value} {b : Bool} (hne : (t == .ref C) = false) (hd : hasDictIn K C = true) (ht : typeIn K (.ref C) = some (.type "type")) (h4 : subIn K t (.ref C) = some b) : kitOne K t (.ref C) = some b := by
  obtain ⟨cd, hc, _⟩ := any_some hd
  have e2 : ((clsIn K C).isSome && typeIn K (.ref C) == some (.type "type")) = true := by rw [hc, ht] <;> rfl
  show (if (t == .ref C) = true then some true else (if ((clsIn K C).isSome && typeIn K (.ref C) == some (.type "type")) = true then subIn K t (.ref C) else none)) = some b
  rw [hne, if_neg (by decide), if_pos e2]
  exact h4
def tCs (Cs : List Addr) : TA := fun _ H Q => Q (Cs.map V.ref) H
section
variable {X : Cx} {T : Tab} {a C Ce : Addr} {oe : Obj} {d : Option Addr} {pn : List (Addr × Obj)} {e : Expr} {es : List Expr} {pos p tp q : Pos} {m : Nat} {w : WpE} {x : Str} {Cs : List Addr}
theorem pa_cs0 : PA X [] (tCs []) := weakA pa_nil fun σ H Q h => h
theorem pa_cs (hm : X.mg x = some (.ref C)) (h : PA X es (tCs Cs)) (hg : Gl X x := by rfl) (hdb : (x == ("__debug__" : Str)) = false := by decide) (hs : starEach (.Name x q :: es) X.env = (false, eval (.Name x q) X.env) :: starEach es X.env := by rfl) : PA X (.Name x q :: es) (tCs (C :: Cs)) :=
  weakA (pa_cons (pe_glob (v := .ref C) hg hm rfl hdb) h hs) fun σ H Q h => h
end
end Dl
namespace Dl
open PySem L2
theorem call_ {α β : Type} {c Q : α → β → Prop} {x : α} {y : β} (h : c x y) (q : Q x y) : ∃ x y, c x y ∧ Q x y := ⟨x, y, h, q⟩
theorem Br.tt {b : Bool} {p q : Prop} (h : b = true) (hp : p) : Br b p q := ⟨fun _ => hp, fun z => by rw [h] at z; cases z⟩
theorem Br.ff {b : Bool} {p q : Prop} (h : b = false) (hq : q) : Br b p q := ⟨fun z => (by rw [h] at z; cases z), fun _ => hq⟩
theorem Br.dec {c : Prop} [Decidable c] {p q : Prop} (h1 : c → p) (h2 : ¬ c → q) : Br (decide c) p q := ⟨fun h => h1 (of_decide_eq_true h), fun h => h2 (of_decide_eq_false h)⟩
theorem Br.xf {c : Prop} [Decidable c] {p q : Prop} (h1 : c → p) (h2 : ¬ c → q) : Br (false.xor (decide c)) p q := ⟨fun h => h1 (by simpa using h), fun h => h2 (by simpa using h)⟩
theorem Br.xt {c : Prop} [Decidable c] {p q : Prop} (h1 : ¬ c → p) (h2 : c → q) : Br (true.xor (decide c)) p q := ⟨fun h => h1 (by simpa using h), fun h => h2 (by simpa using h)⟩
theorem eqD_t {d e : D} (h : d = e) (ok : okD e = true) : eqD d e = true := by subst h; exact eqD_refl ok
theorem Br.ne {d e : D} {p q : Prop} (h : d = e) (ok : okD e = true) (hq : q) : Br (true.xor (eqD d e)) p q := Br.ff (by rw [eqD_t h ok]; rfl) hq
theorem pos_ {i j : Int} (h : 0 < j) : ModC i j := h
theorem szk (n : Nat) (h : n ≤ 16777216 := by decide) : n ≤ sizeLine := h
theorem sz {n : Nat} (h : n ≤ 16777216) : n ≤ sizeLine := h
theorem asgW_i {p : Pat} {d : D} {sl sl' : Sls} {k : Sls → Prop} (e : asgP p d sl = some sl') (h : k sl') : asgW p d sl k := by unfold asgW; rw [e]; exact h
theorem lcW_map {p : Pat} {we : WpE} {sl : Sls} {α : Type} (g f : α → D) {cs : List Cell} : ∀ {xs : List α} {R : List D → List Cell → Prop},
    (∀ x ∈ xs, ∃ sl', asgP p (g x) sl = some sl' ∧ ∀ R' : RV, R' (.dat (f x)) cs → we sl' cs R' noX) → R (xs.map f) cs → lcW p wYes we sl (xs.map g) cs R
  | [], R, _, h => h
  | x :: xs, R, hx, h => by
    obtain ⟨sl', e, h1⟩ := hx x List.mem_cons_self
    exact asgW_i e ⟨fun _ => h1 _ (lcW_map (xs := xs) g f (fun y hy => hx y (List.mem_cons_of_mem _ hy)) h), fun z => nomatch z⟩
theorem forW_ind {p : Pat} {wb : WS} {P : PJ} (I : Sta → Prop) : ∀ (items : List D), (∀ d ∈ items, ∀ S, I S → ∀ nx' : Sta → Prop, (∀ S', I S' → nx' S') → asgW p d S.sl fun sl' => wb ⟨sl', S.cs⟩ { P with nx := nx', ct := nx', bk := P.nx }) → (∀ S, I S → P.nx S) → ∀ S, I S → forW p wb items S P
  | [], _, hd, S, hI => hd S hI
  | d :: ds, hs, hd, S, hI => hs d List.mem_cons_self S hI _ fun S' h' => forW_ind I ds (fun e he => hs e (List.mem_cons_of_mem _ he)) hd S' h'
theorem mem_range {lo : Int} {n : Nat} {d : D} (h : d ∈ rangeD lo n) : ∃ i : Nat, i < n ∧ d = .int (lo + i) := by
  unfold rangeD at h
  obtain ⟨i, hi, rfl⟩ := List.mem_map.mp h
  exact ⟨i, List.mem_range.mp hi, rfl⟩
abbrev B := Int × Int
abbrev bx (b : B) : Cell := .lst [.int b.1, .int b.2]
def tk (b : B) (m : Int) : Int := if 0 < b.1 then b.1 % m else ((b.2 * 69623 % 2147483647) * 2147483647 + (((b.2 * 69623 % 2147483647) * 48271 + 30103) % 2147483629 + 1)) / 8191 % m
def nx (b : B) (m : Int) : B := if 0 < b.1 then (b.1 / m, b.2) else (b.1, ((b.2 * 69623 % 2147483647) * 48271 + 30103) % 2147483629 + 1)
def Ok (b : B) : Prop := 0 ≤ b.2 ∧ b.2 < 2 ^ 32
theorem tk_p {b : B} {m : Int} (h : 0 < b.1) : tk b m = b.1 % m := if_pos h
theorem tk_n {b : B} {m : Int} (h : ¬ 0 < b.1) : tk b m = ((b.2 * 69623 % 2147483647) * 2147483647 + (((b.2 * 69623 % 2147483647) * 48271 + 30103) % 2147483629 + 1)) / 8191 % m := if_neg h
theorem nx_p {b : B} {m : Int} (h : 0 < b.1) : nx b m = (b.1 / m, b.2) := if_pos h
theorem nx_n {b : B} {m : Int} (h : ¬ 0 < b.1) : nx b m = (b.1, ((b.2 * 69623 % 2147483647) * 48271 + 30103) % 2147483629 + 1) := if_neg h
theorem Ok.nx {b : B} (h : Ok b) (m : Int) : Ok (nx b m) := by
  by_cases hp : 0 < b.1
  · rw [nx_p hp]; exact h
  · rw [nx_n hp]; constructor <;> dsimp only <;> omega
theorem tk_lo {b : B} {m : Int} (h : 0 < m) : 0 ≤ tk b m := by
  by_cases hp : 0 < b.1
  · rw [tk_p hp]; exact Int.emod_nonneg _ (by omega)
  · rw [tk_n hp]; exact Int.emod_nonneg _ (by omega)
theorem tk_hi {b : B} {m : Int} (h : 0 < m) : tk b m < m := by
  by_cases hp : 0 < b.1
  · rw [tk_p hp]; exact Int.emod_lt_of_pos _ h
  · rw [tk_n hp]; exact Int.emod_lt_of_pos _ h
theorem lg {m : Int} (h0 : 0 < m) (h : m < 2 ^ 200) : m.natAbs.log2 < 9000 := by
  rw [Nat.log2_lt (by omega)]
  have : m.natAbs < 2 ^ 200 := by omega
  exact Nat.lt_of_lt_of_le this (Nat.pow_le_pow_right (by decide) (by omega))
def feedC (ns : List Int) (k : Nat) : Int := if k < ns.length then ns.getD k 0 else if 0 < ns.length then 7919 * (k : Int) + 11 + ns.getD (k % ns.length) 0 % 2147483629 * 69623 else 7919 * (k : Int) + 11
def feedB (ns : List Int) (k : Nat) : B := (if 10 ^ 18 ≤ feedC ns k then feedC ns k else 0, (feedC ns k % 2147483629 + 104729 * (k : Int) + 1) ^ 5 % 2147483647 % 2147483646 + 1)
theorem feedB_ok (ns : List Int) (k : Nat) : Ok (feedB ns k) := by
  unfold Ok feedB
  constructor <;> dsimp only <;> omega
abbrev scD (ns : List Int) : D := .scr (ns.map D.int)
theorem atI_scr {ns : List Int} {k : Nat} (h : k < ns.length) : atI (ns.map D.int) (k : Int) = some (.int (ns.getD k 0)) := by
  refine atI_nat (j := k) ?_
  rw [List.getElem?_map, List.getElem?_eq_getElem h, List.getD_eq_getElem?_getD, List.getElem?_eq_getElem h]
  rfl
end Dl
namespace Dl
open PySem L2
def intsD : List D → Option (List Int)
  | [] => some []
  | .int i :: r => (intsD r).map (i :: ·)
  | _ => none
def boolsD : List D → Option (List Bool)
  | [] => some []
  | .bl i :: r => (boolsD r).map (i :: ·)
  | _ => none
theorem bools_map : ∀ (ns : List Bool), boolsD (ns.map D.bl) = some ns
  | [] => rfl
  | n :: ns => by rw [List.map_cons, boolsD, bools_map ns]; rfl
theorem ints_of : ∀ {ds : List D} {ns : List Int}, intsD ds = some ns → ds = ns.map D.int
  | [], ns, h => by cases h; rfl
  | .int i :: r, ns, h => by
    cases q : intsD r with
    | none => simp [intsD, q] at h
    | some l =>
      simp [intsD, q] at h
      subst h
      rw [ints_of q]
      rfl
  | .non :: _, _, h => nomatch h
  | .bl _ :: _, _, h => nomatch h
  | .str _ :: _, _, h => nomatch h
  | .tup _ :: _, _, h => nomatch h
  | .lst _ :: _, _, h => nomatch h
  | .obj _ _ :: _, _, h => nomatch h
  | .scr _ :: _, _, h => nomatch h
  | .err _ _ _ _ :: _, _, h => nomatch h
  | .cls _ :: _, _, h => nomatch h
  | .dct _ _ :: _, _, h => nomatch h
  | .fn _ _ :: _, _, h => nomatch h
  | .dcn _ _ :: _, _, h => nomatch h
section
variable {X : Cx} {T : Tab} {cs : List Cell} {s1 : Sl} {ds : List D}
def intsW (ds : List D) (k : List Int → Prop) : Prop := match intsD ds with
  | some ns => k ns
  | none => False
def blsW (ds : List D) (k : List Bool → Prop) : Prop := match boolsD ds with
  | some ns => k ns
  | none => False
theorem blsW_i {ns : List Bool} {k : List Bool → Prop} (h : k ns) : blsW (ns.map D.bl) k := by unfold blsW; rw [bools_map]; exact h
def allW : WC := fun ss cs R => match ss with
  | [s] => wL cs s fun ds => blsW ds fun ns => R (.dat (.bl (ns.all id))) cs
  | _ => False
end
section
variable {X : Cx} {T : Tab} {W : WX} {o e : Expr} {wo we : WpE} {pos apos : Pos}
end
end Dl
namespace PySem
abbrev tupIterO (t : Addr) : Obj := { cls := .type "tuple_iterator", data := .fields #[.ref t, .int 0 0] }
abbrev enumO (it : Addr) : Obj := { cls := .type "enumerate", data := .fields #[.none, .bool false, .ref it, rawInt 0, .none, .none] }
open Sem (wp) in
theorem meets_enumT1 (t : Addr) (items : Array Value) : Meets (Builtin.«enumerate.__new__» ⟨[.type "enumerate", .ref t], []⟩) (fun _ R s => s.heap.IsTuple t items ∧
      R (.ok (.ret (.ref (s.heap.push (tupIterO t)).objs.size))) { s with heap := (s.heap.push (tupIterO t)).push (enumO s.heap.objs.size) }) :=
  .of_wp fun prog w A R s z => by
    obtain ⟨hp, g, d, tk, os⟩ := s
    obtain ⟨ht, z⟩ := z
    have hsub := sub_enumerate
    have it : ∀ {A' : Around} {E : Value → Shared → Prop} {Q : Value → Shared → Prop}, Q (.ref hp.objs.size) ⟨hp.push (tupIterO t), g, d, tk, os⟩ → wpAny (model prog w) A' (pyIter (.ref t)) Q E ⟨hp, g, d, tk, os⟩ := fun q => wpAny_pyIter_tuple ht q
    wp_walk using it
    refine wpAny_stack_any fun st => wpAny_pure ?_
    split
    · rename_i c _ _ _ _ _
      cases (c == Value.type "enumerate")
      · wp_walk using it
        exact ⟨_, rfl, z⟩
      · wp_walk using it
        exact ⟨_, rfl, z⟩
    · wp_walk using it
      exact ⟨_, rfl, z⟩
end PySem
namespace PySem
theorem call_enumT1 {prog : Program} {w : World} {A : Around} {E : Value → Shared → Prop} {s : Shared} {t : Addr} {items : Array Value} {Q : Value → Shared → Prop} (ht : s.heap.IsTuple t items)
    (h : ∀ h', IsEnum h' (s.heap.objs.size + 1) s.heap.objs.size 0 .none → h'.IsTupleIter s.heap.objs.size t 0 → h'.objs.size = s.heap.objs.size + 2 → (∀ b o, s.heap.get? b = some o → h'.get? b = some o) → Q (.ref (s.heap.objs.size + 1)) { s with heap := h' }) :
    wpAny (model prog w) A (call (.type "enumerate") [.ref t]) Q E s := by
  refine callType_new F.called_enumerate (by decide) (F.typeCall_enumerate_1 _) (F.newCall_enumerate_1 _) (fun obj => F.args_object_init_2 obj _) F.entry_enumerate_new (meets_enumT1 t items) ⟨ht, ?_⟩
  have z1 : (s.heap.push (tupIterO t)).objs.size = s.heap.objs.size + 1 := Heap.size_push ..
  show _ ∧ _
  rw [z1]
  have he : IsEnum ((s.heap.push (tupIterO t)).push (enumO s.heap.objs.size)) (s.heap.objs.size + 1) s.heap.objs.size 0 .none := by
    have z2 := Heap.get?_push_size (s.heap.push (tupIterO t)) (o := enumO s.heap.objs.size) rfl
    rw [z1] at z2
    exact z2
  exact ⟨⟨_, he, rfl⟩, h _ he ⟨_, Heap.get?_push_of_some _ (Heap.get?_push_size _ rfl), rfl, rfl⟩ (by rw [Heap.size_push, z1]) fun b o q => Heap.get?_push_of_some _ (Heap.get?_push_of_some _ q)⟩
end PySem
namespace Dl
open PySem L2
def IteT (K : PySem.W.Frag) (a : Addr) : It :=
  ⟨fun i H => ∃ (xs : List V) (x : V), SqT K H a xs ∧ xs[i]? = some x, fun i H v H' => ∃ T x, v = .ref T ∧ H T = none ∧ H' = upd H T (.tup [.int (i : Nat), x]) ∧ ∀ xs, SqT K H a xs → xs[i]? = some x,
    fun i H => ∃ xs : List V, SqT K H a xs ∧ xs.length = i⟩
theorem turn_enumT {P : Program} {w : World} {K : PySem.W.Frag} {elts : List Expr} {kk : Nat} {tpos : Pos} {a e it : Addr} (ne : e ≠ it) (na : a ≠ it) (nea : e ≠ a) :
    Turn P w K (.Tuple elts kk tpos) (IteT K a) [e, it] e (fun i h => (∃ old, IsEnum h e it ((i : Nat) : Int) old) ∧ h.IsTupleIter it a i) where
  mem := by simp
  obj := fun i h st b hb => by
    obtain ⟨⟨old, he⟩, o, ho, hc, hd⟩ := st
    have e' : b = e ∨ b = it := by simpa using hb
    rcases e' with z | z
    · rw [z]; exact ⟨_, he, fun v q => nomatch q⟩
    · rw [z]; exact ⟨o, ho, fun v q => by rw [hd] at q; cases q⟩
  keep := fun i h h' st k => ⟨st.1.imp fun old he => k e (by simp) _ he, st.2.at fun o q => k it (by simp) o q⟩
  item := by
    intro X hP hw hK hc i pins s σ H E I hf st hg
    subst hP hw hK
    obtain ⟨⟨old, he⟩, hit⟩ := st
    obtain ⟨xs, x, hq, hx⟩ := hg
    obtain ⟨its, rv, p, _⟩ := I.tuple hq
    obtain ⟨v, hv, ru⟩ := rv.get hx
    have hd : X.A.in1.handled = none := I.ok.hd hc
    have hel : e < s.heap.objs.size := Heap.lt_size he
    have hil : it < s.heap.objs.size := by obtain ⟨_, q, _⟩ := hit; exact Heap.lt_size q
    have lt1 : i < its.toArray.size := by have := List.getElem?_eq_some_iff.mp hv; simpa using this.1
    have nf : e ∉ [it, a] := by simp [ne, nea]
    refine wpAny_pyNext_enum_itemD (Draws.tuple hd it a na its.toArray) he ⟨hit, p⟩ lt1 ne nf fun y h' tk q1 ho hs' hT hsz hk => ?_
    have w1 : y = v := Option.some.inj (q1.symm.trans (by simpa using hv))
    subst w1
    refine ⟨_, rfl, wpAny_letOwnedTupleGo_enum (s := { s with heap := h', toks := tk + 1 }) ho fun h'' he' sb => ?_⟩
    have hT2 : h''.get? s.heap.objs.size = some { cls := .type "tuple", data := .seq #[.int i tk, y] } := (sb.2 _ (Nat.ne_of_gt hel)).trans hT
    have new : ObjOk X.prog X.w (upd H s.heap.objs.size (.tup [.int (i : Nat), x])) h'' s.heap.objs.size (.tup [.int (i : Nat), x]) :=
      ⟨by show 2 ≤ sizeLine; decide, [.int i tk, y], .cons ⟨_, rfl⟩ (.cons ru .nil), ⟨_, hT2, rfl, _, rfl⟩⟩
    have I1 : Inv X pins σ (upd H s.heap.objs.size (.tup [.int (i : Nat), x])) { s with heap := h'', toks := tk + 1 } :=
      I.turnedNew (t' := tk + 1) (ch := [e, it]) (fun b ob hb q => (sb.2 b (fun z => hb (by simp [z]))).trans (hk b ob (fun z => hb (by simp [z])) (fun z => hb (by simp [z])) q)) hf (Nat.le_refl _) new
    refine ⟨.ref s.heap.objs.size, _, I1, rfl, ⟨_, x, rfl, I.hok.fresh (Nat.le_refl _), rfl, fun ys hy => by rw [I.tuple_inj hy hq]; exact hx⟩, ⟨⟨y, ?_⟩, hs'.1.at fun o q => (sb.2 it (Ne.symm ne)).trans q⟩, fun b hb => ?_⟩
    · have e1 : ((i + 1 : Nat) : Int) = (i : Int) + 1 := by omega
      rw [e1]; exact he'
    · have hb' : b < s.heap.objs.size := by
        have e' : b = e ∨ b = it := by simpa using hb
        rcases e' with z | z
        · rw [z]; exact hel
        · rw [z]; exact hil
      rw [upd_ne (Nat.ne_of_lt hb')]
      exact (hf b hb).1
  done := by
    intro X hP hw hK hc i pins s σ H E I hf st hg
    subst hP hw hK
    obtain ⟨⟨old, he⟩, hit⟩ := st
    obtain ⟨xs, hq, hx⟩ := hg
    obtain ⟨its, rv, p, _⟩ := I.tuple hq
    have hd : X.A.in1.handled = none := I.ok.hd hc
    have e1 : i = its.toArray.size := by have := rv.length; simp; omega
    subst e1
    exact wpAny_pyNext_enum_endD (Draws.tuple hd it a na its.toArray) he ⟨hit, p⟩ fun h' hx' => ⟨rfl, I.turnedL (t' := s.toks) (ch := [e, it]) (fun b o hb q => hx' b o (fun z => hb (by simp [z])) q) hf⟩
  self := fun A i s Q E st h => let ⟨⟨_, he⟩, _⟩ := st; wpAny_pyIter_enum he h
def iEnumA (K : PySem.W.Frag) (ta : TA) : TI := fun σ H R => ta σ H fun vs H1 => ∃ a xs, vs = [.ref a] ∧ ((SqL K H1 a xs ∧ R (Ite K a) H1) ∨ (SqT K H1 a xs ∧ R (IteT K a) H1))
open PySem.Spec PyProof.Rows in
theorem pi_enumA {X : Cx} {e : Expr} {ta : TA} {p pos tpos : Pos} {elts : List Expr} {kk : Nat} (hg : Gl X "enumerate") (hm : X.mg "enumerate" = none) (ha : PA X [e] ta) (hs : starEach [e] X.env = [(false, eval e X.env)] := by rfl) :
    PI X (.Tuple elts kk tpos) (.Call (.Name "enumerate" p) [e] [] pos) (iEnumA X.K ta) := by
  constructor
  intro pins s σ H R I h
  refine Call_ (ld_blt I hg hm boot_enumerate (PyProof.Rows.callWith_type1 (thn (ha.run pos pins s σ H _ I h) fun us s1 z => ?_) hs rfl))
  obtain ⟨vs, H1, I1, r1, a, xs, ex, q1⟩ := z
  subst ex
  obtain ⟨u, rfl, ru⟩ : ∃ u, us = [u] ∧ RelV (.ref a) u := by
    cases r1 with
    | cons r rr => cases rr; exact ⟨_, rfl, r⟩
  cases ru
  have fp : ∀ b ∈ [s1.heap.objs.size + 1, s1.heap.objs.size], FpOk X pins H1 b := fun b hb => by
    have e' : b = s1.heap.objs.size + 1 ∨ b = s1.heap.objs.size := by simpa using hb
    have hle : s1.heap.objs.size ≤ b := by
      rcases e' with z | z
      · rw [z]; exact Nat.le_add_right _ _
      · rw [z]; exact Nat.le_refl _
    exact I1.fpOk hle (I1.hok.fresh hle)
  rcases q1 with ⟨hq, q⟩ | ⟨hq, q⟩
  · obtain ⟨its, rv, p', hz⟩ := I1.list hq
    exact call_enumerate_list p'.isList fun h' he hit hsz hk => wpAny_pyIter_enum he ⟨s1.heap.objs.size + 1, _, _, _, H1, rfl, I1.kept (t' := s1.toks) hk, turn_enum a (s1.heap.objs.size + 1) s1.heap.objs.size, ⟨⟨.none, he⟩, hit, Nat.succ_ne_self _⟩, fp, q⟩
  · obtain ⟨its, rv, p', hz⟩ := I1.tuple hq
    obtain ⟨ot, hot, _⟩ := id p'
    have hlt : a < s1.heap.objs.size := Heap.lt_size hot
    exact call_enumT1 (show s1.heap.IsTuple a its.toArray from p') fun h' he hit hsz hk => wpAny_pyIter_enum he ⟨s1.heap.objs.size + 1, _, _, _, H1, rfl, I1.kept (t' := s1.toks) hk, turn_enumT (Nat.succ_ne_self _) (Nat.ne_of_lt hlt) (Nat.ne_of_gt (Nat.lt_succ_of_lt hlt)), ⟨⟨.none, he⟩, hit⟩, fp, q⟩
def enumD : Nat → List D → List D
  | _, [] => []
  | i, d :: ds => .tup [.int i, d] :: enumD (i + 1) ds
theorem enumD_get : ∀ {ds : List D} {k i : Nat} {d : D}, (enumD k ds)[i]? = some d → ∃ x, ds[i]? = some x ∧ d = .tup [.int ((k + i : Nat) : Int), x]
  | x :: ds, k, 0, d, h => by
    have h : some (D.tup [.int k, x]) = some d := by simpa [enumD] using h
    cases h
    exact ⟨x, rfl, rfl⟩
  | x :: ds, k, i + 1, d, h => by
    have h : (enumD (k + 1) ds)[i]? = some d := by simpa [enumD] using h
    obtain ⟨y, h1, h2⟩ := enumD_get h
    refine ⟨y, by simpa using h1, ?_⟩
    rw [h2, show k + 1 + i = k + (i + 1) from by omega]
theorem enumD_len : ∀ {ds : List D} {k : Nat}, (enumD k ds).length = ds.length
  | [], _ => rfl
  | _ :: ds, k => by rw [enumD, List.length_cons, enumD_len (ds := ds), List.length_cons]
section
variable {X : Cx} {T : Tab} {W : WX} {e : Expr} {wA : WpA} {p pos tpos : Pos} {elts : List Expr} {kk : Nat}
def enumW (ss : List Sl) (k : List D → Prop) : Prop := match ss with
  | [.dat (.lst ds)] => k (enumD 0 ds)
  | [.dat (.tup ds)] => k (enumD 0 ds)
  | _ => False
def wEnum (wA : WpA) : WpI := fun sl cs R Rx => wA sl cs (fun ss c => enumW ss fun ds => R ds c) Rx
theorem ite_ok {K : PySem.W.Frag} {F : Addr → Prop} {ad : List Addr} {H : Hp} {a : Addr} {xs : List V} {ds : List D} (n1 : ¬ Mm ad F a) (e1 : H a = some (.lst xs)) (q1 : Reps T K (Mm ad F) H xs ds) : ItOk T K F (Ite K a) (enumD 0 ds) ad H := fun F2 ad2 H2 cs2 c2 kp i => ⟨fun d hd => by
    obtain ⟨x, hx, rfl⟩ := enumD_get hd
    obtain ⟨vx, gx, rx⟩ := (q1.kp kp).get hx
    have a1 := SqL.of (K := K) (kp a _ e1 n1).1
    refine ⟨⟨xs, vx, a1, gx⟩, fun v H3 yy => ?_⟩
    obtain ⟨Tt, x', rfl, hT, rfl, g1⟩ := yy
    have g1 := g1 xs a1
    rw [gx] at g1
    cases g1
    obtain ⟨c3, x3⟩ := c2.newo (o := .tup [.int (i : Nat), vx]) hT
    refine ⟨fun b o e => by rw [upd_ne (ne_of_none e hT)]; exact e, ?_⟩
    rw [Nat.zero_add]
    exact .tup (vs := [.int (i : Nat), vx]) (.inl ⟨c2.new hT, .inl upd_same⟩) (.cons Rep.int (.cons (rx.kp x3.kp) .nil)), fun hi => by
    rw [enumD_len] at hi
    exact ⟨xs, SqL.of (kp a _ e1 n1).1, by rw [q1.length]; omega⟩⟩
theorem iteT_ok {K : PySem.W.Frag} {F : Addr → Prop} {ad : List Addr} {H : Hp} {a : Addr} {xs : List V} {ds : List D} (e1 : TAt K (Mm ad F) H a xs) (q1 : Reps T K (Mm ad F) H xs ds) : ItOk T K F (IteT K a) (enumD 0 ds) ad H := fun F2 ad2 H2 cs2 c2 kp i => ⟨fun d hd => by
    obtain ⟨x, hx, rfl⟩ := enumD_get hd
    obtain ⟨vx, gx, rx⟩ := (q1.kp kp).get hx
    have a1 := (e1.kp kp).sq
    refine ⟨⟨xs, vx, a1, gx⟩, fun v H3 yy => ?_⟩
    obtain ⟨Tt, x', rfl, hT, rfl, g1⟩ := yy
    have g1 := g1 xs a1
    rw [gx] at g1
    cases g1
    obtain ⟨c3, x3⟩ := c2.newo (o := .tup [.int (i : Nat), vx]) hT
    refine ⟨fun b o e => by rw [upd_ne (ne_of_none e hT)]; exact e, ?_⟩
    rw [Nat.zero_add]
    exact .tup (vs := [.int (i : Nat), vx]) (.inl ⟨c2.new hT, .inl upd_same⟩) (.cons Rep.int (.cons (rx.kp x3.kp) .nil)), fun hi => by
    rw [enumD_len] at hi
    exact ⟨xs, (e1.kp kp).sq, by rw [q1.length]; omega⟩⟩
theorem ji_enum (hm : X.mg "enumerate" = none) (ha : JA X T W [e] wA) (hg : Gl X "enumerate" := by rfl) (hs : starEach [e] X.env = [(false, eval e X.env)] := by rfl) : JI X T W (.Tuple elts kk tpos) (.Call (.Name "enumerate" p) [e] [] pos) (wEnum wA) :=
  weakI (pi_enumA hg hm ha hs) fun σ H Q ⟨ad, F, sl, cs, R, Rx, h0, hw, q, qx⟩ => ⟨ad, F, sl, cs, _, Rx, h0, hw, fun ss c1 vs H1 ad1 hw1 x1 h1 r1 => by
    unfold enumW at hw1
    split at hw1
    · match vs, r1 with
      | [v], r1 =>
        have r1 := r1.1
        cases r1 with
        | @lst a xs _ n1 e1 q1 => exact ⟨a, xs, rfl, .inl ⟨SqL.of e1, q _ c1 _ H1 ad1 hw1 x1 h1 (ite_ok n1 e1 q1)⟩⟩
    · match vs, r1 with
      | [v], r1 =>
        have r1 := r1.1
        cases r1 with
        | @tup a xs _ e1 q1 => exact ⟨a, xs, rfl, .inr ⟨e1.sq, q _ c1 _ H1 ad1 hw1 x1 h1 (iteT_ok e1 q1)⟩⟩
    · exact hw1.elim, qx⟩
end
end Dl
namespace Dl
open PySem L2
section
variable {X : Cx} {T : Tab} {W : WX} {e o : Expr} {es : List Expr} {kws : List Keyword} {pos apos p : Pos} {wo : WpE} {wA wK : WpA} {c : Ct} {cx : CtX} {k cn pn : Nat} {fd : FuncData} {ps ks : List Str} {m y : Str} {C g : Addr} {fn : List Str} {gg : List Value → List Value → List Value} {gV : List V → List V → List V} {fu : List D → List D → List D}
end
section
variable {T : Tab} {P : Program} {w : World} {K : PySem.W.Frag} {mg : Str → Option Value} {base : Heap} {x qual : Str} {st : Stmt} {f : Addr} {fd : FuncData} {N ps : List Str} {k : Nat} {ws : Nat → WS}
end
end Dl
namespace Dl
open PySem L2
section
variable {X : Cx} {T : Tab} {cs : List Cell}
end
end Dl
namespace Dl
open PySem L2
section
open PySem.W
variable {M : Model} {prog : Program} {w : World} {A : Around} {E : Value → Shared → Prop} {s : Shared} {K : PySem.W.Frag} {x C f : Addr} {ox : Obj} {od : Option Obj} {b : Value}
end
end Dl
namespace Dl
open PySem L2
structure NeC (K : PySem.W.Frag) (C : Addr) : Prop where
  mr : PySem.W.mroIn K C (.type "object") = some true
  ne : PySem.W.findIn K (.ref C) "__ne__" = some (some (.builtin "object.__ne__"))
section
variable {X : Cx} {T : Tab} {C g : Addr} {fd : FuncData} {ps : List Str} {k cn : Nat} {c : Ct} {fn : List Str} {ds es : List D} {d : D} {cs : List Cell} {w2 : W2}
end
end Dl
namespace Dl
open PySem L2
section
variable {X : Cx} {T : Tab} {W : WX} {o : Expr} {kws : List Keyword} {pos apos p : Pos} {wo : WpE} {wK : WpA} {c : Ct} {cx : CtX} {k cn : Nat} {fd : FuncData} {ps ks : List Str} {m y : Str} {C g : Addr} {fn : List Str} {gV : List V → List V → List V} {fu : List D → List D → List D}
end
section
variable {X : Cx} {T : Tab} {W : WX} {e e2 e3 : Expr} {wA : WpA} {p pos tpos : Pos} {elts : List Expr} {kk : Nat}
end
end Dl
namespace Dl
open PySem L2
section
variable {X : Cx} {T : Tab} {W : WX} {n : Nat} {a b : Expr} {wA : WpA} {x y : Str} {px py pt pt2 pos : Pos} {kt k2 : Nat}
end
end Dl
namespace Dl
open PySem L2
structure OthC (K : PySem.W.Frag) (C : Addr) : Prop where
  a1 : PySem.W.subIn K (.type "NoneType") (.ref C) = some false
  a2 : PySem.W.subIn K (.type "bool") (.ref C) = some false
  a3 : PySem.W.subIn K (.type "int") (.ref C) = some false
  a4 : PySem.W.subIn K (.type "str") (.ref C) = some false
  a5 : PySem.W.subIn K (.type "tuple") (.ref C) = some false
  a6 : PySem.W.subIn K (.type "list") (.ref C) = some false
theorem OthC.of {K : PySem.W.Frag} {C : Addr} (h : OthC K C) {d : D} {t : String} (e : tyD d = some t) : PySem.W.subIn K (.type t) (.ref C) = some false := by
  cases d with
  | non => cases e; exact h.a1
  | bl _ => cases e; exact h.a2
  | int _ => cases e; exact h.a3
  | str _ => cases e; exact h.a4
  | tup _ => cases e; exact h.a5
  | lst _ => cases e; exact h.a6
  | scr _ => cases e; exact h.a6
  | obj _ _ => cases e
  | err _ _ _ _ => cases e
  | cls _ => cases e
  | dct _ _ => cases e
  | fn _ => cases e
  | dcn _ _ => cases e
section
open PySem.W
variable {prog : Program} {w : World} {A : Around} {E : Value → Shared → Prop} {s : Shared} {K : PySem.W.Frag} {x C f : Addr} {ox : Obj} {od : Option Obj} {b tb : Value}
end
section
variable {X : Cx} {T : Tab} {C g : Addr} {fd : FuncData} {ps : List Str} {k cn : Nat} {c : Ct} {fn : List Str} {ds es : List D} {d : D} {cs : List Cell} {w2 : W2} {t : String}
end
section
variable {X : Cx} {T : Tab} {W : WX} {e : Expr} {wa : WpE} {pos p1 p2 p3 : Pos} {k : Nat}
end
end Dl
namespace Dl
open PySem L2
section
variable {T : Tab} {K : PySem.W.Frag} {M M' : Addr → Prop} {H : Hp} {a : Addr} {xs : List V}
end
section
variable {X : Cx} {T : Tab} {W : WX} {e : Expr} {we : WpE} {pos p : Pos} {c : Ct} {k : Nat} {fd : FuncData} {ps : List Str} {y : Str} {C g : Addr} {fn : List Str} {cn : Nat}
end
section
variable {X : Cx} {T : Tab} {W : WX} {o : Expr} {wo : WpE} {pos apos : Pos}
end
end Dl
namespace Dl
open PySem L2
section
variable {X : Cx} {T : Tab} {W : WX} {e : Expr} {wt : WpT}
end
end Dl
namespace Dl
open PySem L2
section
open PySem.W PySem.Calls
variable {M : Model} {A : Around} {E : Value → Shared → Prop} {s : Shared} {pos : Pos} {x C : Addr} {ox : Obj} {Q : Value → Shared → Prop} {env : Env} {e : Expr} {rest : List Expr}
end
section
variable {X : Cx} {x : Str} {p pos : Pos} {e : Expr} {es : List Expr}
end
section
variable {X : Cx} {T : Tab} {W : WX} {x : Str} {p pos : Pos} {e : Expr} {es : List Expr} {wo : WpE} {wA : WpA} {C g : Addr} {k cn : Nat} {fd : FuncData} {ps : List Str} {c : Ct} {cx : CtX} {fn : List Str}
end
end Dl
namespace Dl
open PySem L2
section
variable {X : Cx} {T : Tab}
theorem cb_reprI {i : Int} {cs : List Cell} (h : i.natAbs.log2 < 1920) : CalB X T "repr" [.dat (.int i)] cs (.dat (.str (toString i))) cs := ⟨_, _, by decide +kernel, .inl ⟨_, rfl⟩, SkE.call_repr_int, fun ad F H vs Q c r q => by
  match vs, r with
  | [v], r =>
    have r1 := r.1
    cases r1
    exact ⟨i, rfl, h, q _ H ad .refl c Rep.str⟩⟩
end
section
variable {X : Cx} {T : Tab} {W : WX} {a b : Expr} {wA : WpA} {p p2 pos pos2 : Pos}
end
end Dl
namespace HT
open PySem PySem.Spec PyProof.Rows
section
variable {prog : Program} {w : World} {A : Around} {E : Value → Shared → Prop} {s : Shared}
end
end HT
namespace Dl
open PySem L2 PySem.Spec PyProof.Rows
section
variable {X : Cx} {T : Tab} {W : WX} {e : Expr} {wa : WpE} {pos p1 p2 p3 : Pos} {k : Nat}
end
end Dl
namespace Dl
open PySem L2
section
variable {X : Cx} {T : Tab} {W : WX} {x : Str} {pos : Pos} {i : Int}
end
end Dl
namespace Dl
open PySem L2
section
variable {X : Cx} {T : Tab} {W : WX} {e : Expr} {es : List Expr} {kws : List Keyword} {pos p : Pos} {wA wK : WpA} {c : Ct} {cx : CtX} {k pn : Nat} {fd : FuncData} {ps ks : List Str} {y : Str} {C g : Addr} {fn : List Str} {cn : Nat} {gg : List Value → List Value → List Value} {gV : List V → List V → List V} {fu : List D → List D → List D}
end
end Dl
namespace Dl
open PySem L2 PySem.Spec PyProof.Rows
structure FnG (P : Program) (w : World) (K : PySem.W.Frag) (mg : Str → Option Value) (base : Heap) (C : CXT) (k : Nat) (f : Addr) (fd : FuncData) (ps : List Str) (sp : Sp) : Prop where
  ln : ∀ {vs : List V} {H : Hp} {Q : VK} {E : XK}, sp vs H Q E → vs.length = ps.length
  go : ∀ {A : Around} {fs : List Env} {s : Shared} {H : Hp} {as : Args} {us : List Value} {vs : List V} {Q : VK} {E : XK}, A.guards = some [] → Room k A → Env0 P w K mg base A fs s H → BindsTo s fd as (ps.zip us) → Vals vs us → sp vs H Q E →
    codeAny (model P w) A (.call (.ref f) as) (CR C fs P w H s Q E) s
section
variable {P : Program} {w : World} {K : PySem.W.Frag} {mg : Str → Option Value} {base : Heap} {C : CXT} {k : Nat} {f : Addr} {fd : FuncData} {ps N : List Str} {sp sp' : Sp}
theorem FnG.of (F : FnOk P w K mg base C k f fd ps sp) : FnG P w K mg base C k f fd ps sp := ⟨fun h => F.len _ _ _ _ h, fun _ hr e b v h => F.run _ _ _ _ _ _ _ _ _ hr e b v h⟩
theorem FnG.to (F : FnG P w K mg base C k f fd ps sp) (h : ∀ vs H Q E, sp' vs H Q E → sp vs H Q E) : FnG P w K mg base C k f fd ps sp' := ⟨fun q => F.ln (h _ _ _ _ q), fun g hr e b v q => F.go g hr e b v (h _ _ _ _ q)⟩
theorem fn_g {nm qual : Str} {pa : Arguments} {body : List Stmt} {scope : Scope} {dV kV doc pm cdv ct oc : Value} {an od : Option Addr} {osl : Array (Option Value)} (l1 : K.lookup f = some ⟨oc, od, .func (PySem.W.fnOf nm qual pa body scope dV kV doc pm an cdv ct), osl⟩) (l2 : PySem.W.codeIn K cdv qual = true) (Sc : FnScope N ps scope)
    (ln : ∀ {vs : List V} {H : Hp} {Q : VK} {E : XK}, sp vs H Q E → vs.length = ps.length)
    (hb : ∀ (A : Around) (fs : List Env) (s : Shared) (H : Hp) (vs : List V) (Q : VK) (E : XK), A.guards = some [] → Room k (A.deeper (envOfC qual scope s.heap.objs.size f cdv)) → sp vs H Q E → ∃ t, PSs (cxOf C P w K mg base N qual scope f cdv A fs s H E) body t ∧ t { nx := fun _ H' => Q .non H', rt := Q } (L2.start N vs) H) :
    FnG P w K mg base C (k + 1) f (PySem.W.fnOf nm qual pa body scope dV kV doc pm an cdv ct) ps sp := ⟨ln, fun {A fs s H as us vs Q E} g hr e b v h => by
  have ok := e.mod.kin.keeps fun a o z => (e.bs a o z).1
  refine codeAny_call_function hr.depth (ok _ _ l1) rfl Sc.co Sc.gen rfl (PySem.W.codeRec_of ok l2) (b _ _ _ _ ?_)
  refine wpAny_newFunctionEnv_cells Sc.kind (fun y hy => (Sc.par y.1 (List.of_mem_zip (a := y.1) (b := y.2) hy).1).imp id fun q => ⟨q, PySem.W.cellsFrom_some _ _ _ (.inl q)⟩) fun env he s1 x => ?_
  cases he
  refine ⟨(e.mod.nolimit.keeps fun a o z => (e.bs a o z).1).keeps x.toInCall.keep, codeAny_func ?_⟩
  obtain ⟨t, ht, hq⟩ := hb A fs s H vs Q E g (hr.deeper _) h
  refine wpAny_mono (ht.run [] s1 (L2.start N vs) H _ (inv_start Sc hr.hd e (ln h) v x) hq) (fun fl s' z => ?_) fun _ _ z => z
  match fl, z with
  | .ret u, ⟨v, _, H', J, rv, q⟩ => exact ⟨v, H', J.os, J.bare, J.base, J.hok, rv, q⟩
  | .next, ⟨_, H', J, q⟩ => exact ⟨.non, H', J.os, J.bare, J.base, J.hok, rfl, q⟩
  | .brk, ⟨_, _, _, q⟩ => exact q.elim
  | .cont, ⟨_, _, _, q⟩ => exact q.elim⟩
end
section
variable {T : Tab} {P : Program} {w : World} {K : PySem.W.Frag} {mg : Str → Option Value} {base : Heap} {x qual : Str} {st : Stmt} {f : Addr} {fd : FuncData} {N ps : List Str} {k : Nat} {ws : Nat → WS}
end
section
variable {X : Cx} {T : Tab} {W : WX} {e : Expr} {es : List Expr} {pos p : Pos} {wA : WpA} {c : Ct} {k : Nat} {f : Addr} {fd : FuncData} {ps : List Str} {y : Str} {sp : Sp} {E : XK}
end
section
variable {X : Cx} {T : Tab}
theorem call_reprD (hG : X.A.guards = some []) (hu : X.A.units + 64 < cLine) : CallR X (.builtin "repr") (fun xs H Q => ∃ v d, xs = [v] ∧ Dp X.K H v d ∧ PyProof.Rows.isDisplay d = true ∧ d.showable = true ∧ d.hasDict = false ∧ d.depth ≤ 60 ∧ d.shown.length ≤ sizeLine ∧ Q (.str d.shown) H) := by
  intro pins s σ H xs us Q I r h
  obtain ⟨v, d, rfl, hd, h1, h2, h3, h4, h5, q⟩ := h
  obtain ⟨u, rfl, ru⟩ := vals1 r
  obtain ⟨as, rd⟩ := Dp.reads I d v u hd ru
  obtain ⟨a, rfl⟩ := PyProof.Rows.isRef_of_reads rd h1
  exact repr_of_reads' rd h2 (PyData.noDict_hsm h3) hG (by omega) (fun _ _ z => z) (fun h' t tk hk => ⟨.str d.shown, H, I.kept hk, ⟨t, rfl⟩, q⟩) h5
def okR (d : D) : Bool := d.plain && d.py.showable && !d.py.hasDict && decide (d.py.depth ≤ 60)
def rprD (d : D) : Str := d.py.shown
theorem cb_reprD {d : D} {cs : List Cell} (hG : X.A.guards = some []) (hu : X.A.units + 64 < cLine) (hd : PyProof.Rows.isDisplay d.py = true) (ho : okR d = true) (hl : (rprD d).length ≤ sizeLine) : CalB X T "repr" [.dat d] cs (.dat (.str (rprD d))) cs := ⟨_, _, by decide +kernel, .inl ⟨_, rfl⟩, call_reprD hG hu, fun ad F H vs Q c r q => by
  match vs, r with
  | [v], r =>
    unfold okR at ho
    simp only [Bool.and_eq_true, Bool.not_eq_true', decide_eq_true_eq] at ho
    exact ⟨v, d.py, rfl, Rep.dp r.1 ho.1.1.1, hd, ho.1.1.2, ho.1.2, ho.2, hl, q _ H ad .refl c Rep.str⟩⟩
def reprW : WC := fun ss cs R => match ss with
  | [.dat (.int i)] => i.natAbs.log2 < 1920 ∧ R (.dat (.str (toString i))) cs
  | [.dat (.tup ds)] => okR (.tup ds) = true ∧ (rprD (.tup ds)).length ≤ sizeLine ∧ R (.dat (.str (rprD (.tup ds)))) cs
  | [.dat (.lst ds)] => okR (.lst ds) = true ∧ (rprD (.lst ds)).length ≤ sizeLine ∧ R (.dat (.str (rprD (.lst ds)))) cs
  | _ => False
theorem jc_repr (hG : X.A.guards = some []) (hu : X.A.units + 64 < cLine) : JCall X T "repr" reprW := ⟨⟨.builtin "repr", by decide +kernel, .inl ⟨_, rfl⟩⟩, fun ss cs R h => by
  unfold reprW at h
  split at h
  · exact ⟨_, _, cb_reprI h.1, h.2⟩
  · exact ⟨_, _, cb_reprD hG hu rfl h.1 h.2.1, h.2.2⟩
  · exact ⟨_, _, cb_reprD hG hu rfl h.1 h.2.1, h.2.2⟩
  · exact h.elim⟩
end
end Dl
namespace Dl
open PySem L2 PySem.Spec PyProof.Rows
section
variable {P : Program} {w : World} {K : PySem.W.Frag} {mg mb : Str → Option Value} {a : Addr} {s : Shared} {vs : List Value} {H : Hp}
theorem top_env (KX : K.In s.heap) (n1 : s.heap.Ns mainGlobals mg) (n2 : s.heap.Ns builtinsNs mb) (n3 : ∀ x : Str, x ≠ "__name__" → mb x = bootBuiltins x) (n4 : s.heap.NoLimit) (n5 : s.gens = #[])
    (ha : s.heap.get? a = some { cls := .type "list", data := .seq vs.toArray }) (hok : HOk P w H s.heap) (one : ∀ b, b = a ∨ H b = none) (out : H a = none ∨ K.lookup a = none) :
    ∃ base : Heap, K.In base ∧ base.Ns mainGlobals mg ∧ Env0 P w K mg base callerA [] s H := by
  have ns : ∀ {b : Addr} {m : Str → Option Value}, s.heap.Ns b m → (hidT s.heap H).Ns b m := by
    rintro b m ⟨o, es, ep, e, d, r⟩
    refine ⟨o, es, ep, hidT_get e ((one b).resolve_left fun z => ?_), d, r⟩
    rw [z, ha] at e
    cases e
    exact nomatch (show Data.seq vs.toArray _ = Data.dict es ep from d)
  have kin : K.In (hidT s.heap H) := by
    intro b o e
    refine hidT_get (KX b o e) ?_
    rcases one b with z | z
    · rw [z] at e ⊢
      exact out.resolve_right fun y => by rw [y] at e; cases e
    · exact z
  obtain ⟨mc, l1, l2⟩ := n4
  exact ⟨_, kin, ns n1, rfl, ⟨kin, ns n1, ⟨mb, ns n2, n3⟩, ⟨mc, ns l1, l2⟩⟩, fun _ _ e => of_hidT e, Nat.le_of_eq (hidT_size _ _), trivial, (fun _ z => nomatch z), hok, .of_eq n5⟩
theorem top_end {s' : Shared} {r : Result} {E : XK} (only : Only H) (hok : HOk P w H s.heap) (h : CR CX0 [] P w H s (fun v _ => v = .bl true) E r s') : r = .ok (.ret (.bool true)) ∧ OldK s.heap s'.heap ∧ s'.os = s.os ∧ AllBare s'.gens := by
  match r, h with
  | .error _, z => exact False.elim z
  | .ok .next, z => exact z.elim
  | .ok .brk, z => exact z.elim
  | .ok .cont, z => exact z.elim
  | .ok (.ret u), ⟨v, H', h1, h2, un, hok', rv, q⟩ =>
    cases (show v = .bl true from q)
    cases (show u = Value.bool true from rv)
    refine ⟨rfl, OldK.of_keep fun b o e => ?_, h1, h2⟩
    rcases only b with z | ⟨ob, xs, z⟩
    · exact un.keep b o e z (fun y => nomatch y) (fun y => nomatch y)
    · have e1 := (hok b _ z).1
      rw [e] at e1
      rw [(hok' b _ (un.frzs b ob _ z)).1, e1]
theorem law_g {k : Nat} {fa : Addr} {fd : FuncData} {x : Str} {sp : Sp} {is : List Int} (KX : K.In s.heap) (n1 : s.heap.Ns mainGlobals mg) (n2 : s.heap.Ns builtinsNs mb) (n3 : ∀ x : Str, x ≠ "__name__" → mb x = bootBuiltins x) (n4 : s.heap.NoLimit) (n5 : s.gens = #[])
    (ha : s.heap.get? a = some { cls := .type "list", data := .seq vs.toArray }) (hi : IntsAre vs is) (hl : is.length ≤ sizeLine) (hr : Room k callerA) (F : ∀ base : Heap, K.In base → base.Ns mainGlobals mg → FnG P w K mg base CX0 k fa fd [x] sp)
    (hb : ∀ (s : Shared) (u : Value), BindsTo s fd ⟨[u], []⟩ [(x, u)]) (hs : ∀ H : Hp, Only H → SqL K H a (is.map V.int) → sp [.ref a] H (fun v _ => v = .bl true) fun _ _ _ => False) :
    codeAny (model P w) callerA (.call (.ref fa) ⟨[.ref a], []⟩) (fun r s' => r = .ok (.ret (.bool true)) ∧ OldK s.heap s'.heap ∧ s'.os = s.os ∧ AllBare s'.gens) s := by
  have fin : ∀ H : Hp, Only H → SqL K H a (is.map V.int) → HOk P w H s.heap → (∀ b, b = a ∨ H b = none) → (H a = none ∨ K.lookup a = none) → codeAny (model P w) callerA (.call (.ref fa) ⟨[.ref a], []⟩) (fun r s' => r = .ok (.ret (.bool true)) ∧ OldK s.heap s'.heap ∧ s'.os = s.os ∧ AllBare s'.gens) s := fun H o1 o2 o3 o4 o5 => by
    obtain ⟨base, b1, b2, b3⟩ := top_env KX n1 n2 n3 n4 n5 ha o3 o4 o5
    exact codeAny_mono ((F base b1 b2).go (us := [.ref a]) (vs := [.ref a]) rfl hr b3 (hb s (.ref a)) (.cons rfl .nil) (hs H o1 o2)) fun r s' z => top_end o1 o3 z
  have rv := vals_ints hi
  cases hk : K.lookup a with
  | some o =>
    have e := KX a o hk
    rw [ha] at e
    cases e
    exact fin (fun _ => none) (fun _ => .inl rfl) (.inr ⟨_, vs.toArray, _, hk, rfl, rfl, rfl, by rw [List.size_toArray, hi.length]; exact hl, by simpa using rv⟩) (fun _ _ z => nomatch (show (none : Option HO) = some _ from z)) (fun _ => .inr rfl) (.inl rfl)
  | none =>
    let H1 : Hp := upd (fun _ => none) a (.frz { cls := .type "list", data := .seq vs.toArray } (.lst (is.map V.int)))
    have no : ∀ b, b ≠ a → H1 b = none := fun b hb => upd_ne hb
    refine fin H1 (fun b => ?_) (.inl (.inr ⟨_, upd_same⟩)) (fun b u z => ?_) (fun b => ?_) (.inr hk)
    · rcases Classical.em (b = a) with h | h
      · exact .inr ⟨_, _, by rw [h]; exact upd_same⟩
      · exact .inl (no b h)
    · rcases Classical.em (b = a) with h | h
      · subst h
        have z' : some _ = some u := upd_same.symm.trans z
        cases z'
        exact ⟨ha, by rw [List.length_map]; exact hl, vs, _, rv, ha⟩
      · rw [no b h] at z
        cases z
    · rcases Classical.em (b = a) with h | h
      · exact .inl h
      · exact .inr (no b h)
end
end Dl
namespace Dl
open PySem L2
section
variable {prog : Program} {w : World} {A : Around} {E : Value → Shared → Prop} {s : Shared}
end
section
variable {X : Cx} {T : Tab} {C g : Addr} {fd : FuncData} {ps : List Str} {k cn : Nat} {c : Ct} {fn : List Str} {ds : List D} {d : D} {cs : List Cell}
end
end Dl
namespace Dl
open PySem L2
section
variable {X : Cx} {T : Tab} {W : WX} {kws : List Keyword} {pos p : Pos} {wK : WpA} {c : Ct} {k : Nat} {fd : FuncData} {ps ks : List Str} {y : Str} {C g : Addr} {fn : List Str} {cn : Nat} {gV : List V → List V → List V} {fu : List D → List D → List D}
end
end Dl
namespace Dl
open PySem L2
mutual
def wtD : D → Nat
  | .int i => i.natAbs.log2 + 3
  | .tup xs => wtDs xs + 3
  | .lst xs => wtDs xs + 3
  | .scr xs => wtDs xs + 3
  | .str x => (PySem.reprText x).length
  | _ => 5
def wtDs : List D → Nat
  | [] => 0
  | x :: xs => wtD x + 2 + wtDs xs
end
theorem lenText (i : Int) : (Str.ofString (toString i)).length ≤ i.natAbs.log2 + 3 := by
  have pos : ∀ v : Int, 0 ≤ v → (Str.ofString (toString v)).length ≤ v.natAbs.log2 + 1 := fun v hv => by
    refine PyProof.Rows.toString_length_le hv (Nat.succ_pos _) ?_
    have h1 : v.natAbs < 2 ^ (v.natAbs.log2 + 1) := Nat.lt_log2_self
    have h2 : 2 ^ (v.natAbs.log2 + 1) ≤ 10 ^ (v.natAbs.log2 + 1) := Nat.pow_le_pow_left (by decide) _
    have h3 : v.natAbs < 10 ^ (v.natAbs.log2 + 1) := Nat.lt_of_lt_of_le h1 h2
    have h4 : ((v.natAbs : Nat) : Int) < ((10 ^ (v.natAbs.log2 + 1) : Nat) : Int) := Int.ofNat_lt.mpr h3
    rw [Int.natCast_pow] at h4
    have h5 : ((v.natAbs : Nat) : Int) = v := by omega
    rw [h5] at h4
    exact h4
  rcases Int.lt_or_le i 0 with h | h
  · have := pos (0 - i) (by omega)
    rw [PyProof.Rows.len_text_neg h]
    have e : (0 - i).natAbs = i.natAbs := by omega
    rw [e] at this
    omega
  · have := pos i h
    omega
theorem piled_cons (t : Str) (ts : List Str) : PySem.piled (t :: ts) = t.length + 2 + PySem.piled ts := by simp [PySem.piled]
theorem textFrom_le : ∀ (ts : List Str) (k : Nat) (acc : Str), (PySem.textFrom k acc ts).length ≤ acc.length + PySem.piled ts
  | [], k, acc => by simp [PySem.textFrom]
  | t :: ts, k, acc => by
    have h := textFrom_le ts (k + 1) (acc ++ (if k > 0 then ", " else "" : String) ++ t)
    have e1 : (Str.ofString ", ").length = 2 := by decide
    have e2 : (Str.ofString "").length = 0 := by decide
    rw [piled_cons]
    refine Nat.le_trans h ?_
    have e3 : (acc ++ Str.ofString (if k > 0 then ", " else "" : String) ++ t).length ≤ acc.length + 2 + t.length := by
      rw [Str.length_append, Str.length_append]
      split <;> omega
    have e3' : (acc ++ (if k > 0 then ", " else "" : String) ++ t).length ≤ acc.length + 2 + t.length := e3
    omega
mutual
theorem shown_wt : ∀ d : D, d.py.shown.length ≤ wtD d
  | .non => by decide
  | .bl true => by decide
  | .bl false => by decide
  | .int i => lenText i
  | .str x => Nat.le_refl _
  | .tup xs => by
    have h := showns_wt xs
    have e1 : (Str.ofString "(").length = 1 := by decide
    have e2 : (Str.ofString ",)").length = 2 := by decide
    have e3 : (Str.ofString ")").length = 1 := by decide
    show (PySem.tupleText (PyData.shownAll (D.pys xs))).length ≤ wtDs xs + 3
    cases hx : PyData.shownAll (D.pys xs) with
    | nil => show (PySem.tupleText []).length ≤ _; exact Nat.le_trans (by decide : (PySem.tupleText []).length ≤ 3) (by omega)
    | cons t ts =>
      have hj := PySem.join_length_add (t :: ts) (by simp)
      rw [hx] at h
      unfold PySem.tupleText
      have e4 : (Str.ofString (if (t :: ts).length == 1 then ",)" else ")" : String)).length ≤ 2 := by split <;> omega
      have e5 : (Str.ofString "(" ++ Str.join (Str.ofString ", ") (t :: ts) ++ Str.ofString (if (t :: ts).length == 1 then ",)" else ")" : String)).length ≤ wtDs xs + 3 := by
        rw [Str.length_append, Str.length_append]
        have hj' : (Str.join (Str.ofString ", ") (t :: ts)).length + 2 = PySem.piled (t :: ts) := hj
        omega
      exact e5
  | .lst xs => by
    have h := showns_wt xs
    have h2 := textFrom_le (PyData.shownAll (D.pys xs)) 0 (Str.ofString "[")
    have e1 : (Str.ofString "[").length = 1 := by decide
    have e2 : (Str.ofString "]").length = 1 := by decide
    have e3 : (PySem.textFrom 0 (Str.ofString "[") (PyData.shownAll (D.pys xs)) ++ Str.ofString "]").length ≤ wtDs xs + 3 := by
      rw [Str.length_append]
      omega
    exact e3
  | .scr xs => by
    have h := showns_wt xs
    have h2 := textFrom_le (PyData.shownAll (D.pys xs)) 0 (Str.ofString "[")
    have e1 : (Str.ofString "[").length = 1 := by decide
    have e2 : (Str.ofString "]").length = 1 := by decide
    have e3 : (PySem.textFrom 0 (Str.ofString "[") (PyData.shownAll (D.pys xs)) ++ Str.ofString "]").length ≤ wtDs xs + 3 := by
      rw [Str.length_append]
      omega
    exact e3
  | .obj _ _ => by show (PyData.shown .none).length ≤ 5; decide
  | .err _ _ _ _ => by show (PyData.shown .none).length ≤ 5; decide
  | .cls _ => by show (PyData.shown .none).length ≤ 5; decide
  | .dct _ _ => by show (PyData.shown .none).length ≤ 5; decide
  | .fn _ _ => by show (PyData.shown .none).length ≤ 5; decide
  | .dcn _ _ => by show (PyData.shown .none).length ≤ 5; decide
theorem showns_wt : ∀ ds : List D, PySem.piled (PyData.shownAll (D.pys ds)) ≤ wtDs ds
  | [] => Nat.le_refl _
  | d :: ds => by
    have h1 := shown_wt d
    have h2 := showns_wt ds
    show PySem.piled (d.py.shown :: PyData.shownAll (D.pys ds)) ≤ wtD d + 2 + wtDs ds
    rw [piled_cons]
    omega
end
structure RN (k w : Nat) (d : D) : Prop where
  pl : d.plain = true
  sh : d.py.showable = true
  nd : d.py.hasDict = false
  dp : d.py.depth ≤ k
  wt : wtD d ≤ w
theorem RN.mono {k k' w w' : Nat} {d : D} (h : RN k w d) (hk : k ≤ k') (hw : w ≤ w') : RN k' w' d := ⟨h.pl, h.sh, h.nd, Nat.le_trans h.dp hk, Nat.le_trans h.wt hw⟩
theorem RN.int {i : Int} {n : Nat} (h : i.natAbs < 2 ^ n) (hn : n ≤ 1920) : RN 0 (n + 3) (.int i) := by
  have hl : i.natAbs.log2 < n ∨ i.natAbs = 0 := by
    rcases Nat.eq_zero_or_pos i.natAbs with z | z
    · exact .inr z
    · exact .inl ((Nat.log2_lt (by omega)).mpr h)
  have hl' : i.natAbs.log2 ≤ n ∧ i.natAbs.log2 < 1920 := by
    rcases hl with z | z
    · omega
    · rw [z]; exact ⟨Nat.zero_le _, by decide⟩
  exact ⟨rfl, decide_eq_true hl'.2, rfl, Nat.le_refl _, Nat.add_le_add_right hl'.1 3⟩
theorem rns {k w : Nat} : ∀ {xs : List D}, (∀ d ∈ xs, RN k w d) → D.plains xs = true ∧ PyData.showableAll (D.pys xs) = true ∧ PyData.hasDictAll (D.pys xs) = false ∧ PyData.depthAll (D.pys xs) ≤ k ∧ wtDs xs ≤ xs.length * (w + 2)
  | [], _ => ⟨rfl, rfl, rfl, Nat.zero_le _, Nat.zero_le _⟩
  | x :: xs, h => by
    obtain ⟨h1, h2, h3, h4, h5⟩ := rns (xs := xs) fun d hd => h d (List.mem_cons_of_mem _ hd)
    have hx := h x List.mem_cons_self
    refine ⟨?_, ?_, ?_, ?_, ?_⟩
    · show (x.plain && D.plains xs) = true
      rw [hx.pl, h1]; rfl
    · show (x.py.showable && PyData.showableAll (D.pys xs)) = true
      rw [hx.sh, h2]; rfl
    · show (x.py.hasDict || PyData.hasDictAll (D.pys xs)) = false
      rw [hx.nd, h3]; rfl
    · show max x.py.depth (PyData.depthAll (D.pys xs)) ≤ k
      exact Nat.max_le.mpr ⟨hx.dp, h4⟩
    · show wtD x + 2 + wtDs xs ≤ (xs.length + 1) * (w + 2)
      have := hx.wt
      rw [Nat.add_mul]
      omega
theorem RN.tup {k w m : Nat} {xs : List D} (h : ∀ d ∈ xs, RN k w d) (hm : xs.length ≤ m) : RN (k + 1) (m * (w + 2) + 3) (.tup xs) := by
  obtain ⟨h1, h2, h3, h4, h5⟩ := rns h
  exact ⟨h1, h2, h3, Nat.add_le_add_right h4 1, Nat.add_le_add_right (Nat.le_trans h5 (Nat.mul_le_mul_right _ hm)) 3⟩
theorem RN.lst {k w m : Nat} {xs : List D} (h : ∀ d ∈ xs, RN k w d) (hm : xs.length ≤ m) : RN (k + 1) (m * (w + 2) + 3) (.lst xs) := by
  obtain ⟨h1, h2, h3, h4, h5⟩ := rns h
  exact ⟨h1, h2, h3, Nat.add_le_add_right h4 1, Nat.add_le_add_right (Nat.le_trans h5 (Nat.mul_le_mul_right _ hm)) 3⟩
theorem RN.ok {k w : Nat} {d : D} (h : RN k w d) (hk : k ≤ 60) : okR d = true := by
  have := h.dp
  unfold okR
  rw [h.pl, h.sh, h.nd, decide_eq_true (show d.py.depth ≤ 60 by omega)]
  rfl
theorem RN.len {k w : Nat} {d : D} (h : RN k w d) (hw : w ≤ 16777216) : (rprD d).length ≤ sizeLine := Nat.le_trans (shown_wt d) (Nat.le_trans h.wt hw)
end Dl
namespace Dl
open PySem L2
section
variable {X : Cx}
end
section
variable {T : Tab} {K : PySem.W.Frag} {M M' : Addr → Prop} {H H' : Hp} {kvs kvs2 : List (Key × V)} {kds kds2 : List (Key × D)} {k : Key} {v : V} {d : D}
def KR (T : Tab) (K : PySem.W.Frag) (M : Addr → Prop) (H : Hp) (kvs : List (Key × V)) (kds : List (Key × D)) : Prop := kvs.map (·.1) = kds.map (·.1) ∧ Reps T K M H (kvs.map (·.2)) (kds.map (·.2))
theorem KR.kp (x : Kp M H M' H') (h : KR T K M H kvs kds) : KR T K M' H' kvs kds := ⟨h.1, h.2.kp x⟩
def hasK (kds : List (Key × D)) (k : Key) : Bool := kds.any fun p => decide (p.1 = k)
def getK (kds : List (Key × D)) (k : Key) : Option D := (kds.find? fun p => decide (p.1 = k)).map (·.2)
def putD (kds : List (Key × D)) (k : Key) (d : D) : List (Key × D) := if hasK kds k = true then kds.map (fun p => if p.1 = k then (p.1, d) else p) else kds ++ [(k, d)]
theorem KR.nil : KR T K M H [] [] := ⟨rfl, .nil⟩
theorem KR.inv {p : Key × V} (h : KR T K M H (p :: kvs) kds) : ∃ d r, kds = (p.1, d) :: r ∧ Rep T K M H p.2 d ∧ KR T K M H kvs r := by
  obtain ⟨h1, h2⟩ := h
  match kds, h1, h2 with
  | (j, d) :: r, h1, .cons a b =>
    have e : p.1 = j ∧ kvs.map (·.1) = r.map (·.1) := by simpa using h1
    exact ⟨d, r, by rw [e.1], a, e.2, b⟩
theorem KR.inv0 (h : KR T K M H [] kds) : kds = [] := by
  obtain ⟨h1, _⟩ := h
  cases kds with
  | nil => rfl
  | cons p r => cases h1
theorem KR.cons (r : Rep T K M H v d) (h : KR T K M H kvs kds) : KR T K M H ((k, v) :: kvs) ((k, d) :: kds) := ⟨by rw [List.map_cons, List.map_cons, h.1], .cons r h.2⟩
theorem KR.app (h : KR T K M H kvs kds) (h2 : KR T K M H kvs2 kds2) : KR T K M H (kvs ++ kvs2) (kds ++ kds2) := ⟨by rw [List.map_append, List.map_append, h.1, h2.1], by rw [List.map_append, List.map_append]; exact h.2.append h2.2⟩
theorem KR.len (h : KR T K M H kvs kds) : kvs.length = kds.length := by have := h.2.length; rw [List.length_map, List.length_map] at this; exact this
theorem KR.any (h : KR T K M H kvs kds) : (kvs.any fun p => decide (p.1 = k)) = hasK kds k := by
  have e1 : (kvs.any fun p => decide (p.1 = k)) = (kvs.map (·.1)).any fun j => decide (j = k) := by rw [List.any_map]; rfl
  have e2 : hasK kds k = (kds.map (·.1)).any fun j => decide (j = k) := by unfold hasK; rw [List.any_map]; rfl
  rw [e1, e2, h.1]
theorem KR.val : ∀ {kvs : List (Key × V)} {kds : List (Key × D)}, KR T K M H kvs kds → (getK kds k = none → valV kvs k = none) ∧ ∀ d, getK kds k = some d → ∃ v, valV kvs k = some v ∧ Rep T K M H v d
  | [], kds, h => by cases h.inv0; exact ⟨fun _ => rfl, fun d z => nomatch z⟩
  | p :: kvs, kds, h => by
    obtain ⟨d', r', rfl, a, b⟩ := h.inv
    obtain ⟨i1, i2⟩ := KR.val b
    by_cases e : p.1 = k
    · have g : getK ((p.1, d') :: r') k = some d' := by simp [getK, List.find?_cons, e]
      rw [g]
      exact ⟨(fun z => nomatch z), fun d z => by cases z; exact ⟨p.2, valV_pos e, a⟩⟩
    · have g : getK ((p.1, d') :: r') k = getK r' k := by simp [getK, List.find?_cons, e]
      rw [g, valV_neg e]
      exact ⟨i1, i2⟩
theorem KR.some (h : KR T K M H kvs kds) : (valV kvs k).isSome = hasK kds k := by rw [← valV_any, h.any]
def keyD : D → Option Key
  | .int i => some (.inl i)
  | .str x => some (.inr x)
  | _ => none
def kdOf (cs : List Cell) : Sl → Option (List (Key × D))
  | .dat (.dct ks xs) => some (ks.zip xs)
  | .cel j => match cs[j]? with
    | some (.dct kds) => some kds
    | _ => none
  | _ => none
theorem KR.zip {ks : List Key} {xs : List D} (h1 : kvs.map (·.1) = ks) (h2 : Reps T K M H (kvs.map (·.2)) xs) : KR T K M H kvs (ks.zip xs) := by
  have hl : ks.length = xs.length := by rw [← h2.length, ← h1, List.length_map, List.length_map]
  exact ⟨by rw [List.map_fst_zip (by omega)]; exact h1, by rw [List.map_snd_zip (by omega)]; exact h2⟩
def wD (cs : List Cell) (s : Sl) (k : List (Key × D) → Prop) : Prop := match kdOf cs s with
  | some kds => k kds
  | none => False
def isKey (s : Sl) (k : Key → Prop) : Prop := match s with
  | .dat d => match keyD d with
    | some x => k x
    | none => False
  | .cel _ => False
end
section
variable {X : Cx} {T : Tab} {cs : List Cell}
def inDW (neg : Bool) : W2 := fun s1 s2 cs R => isKey s1 fun k => wD cs s2 fun kds => R (.dat (.bl (neg.xor (hasK kds k)))) cs
def PDc (_ s2 : Sl) : Bool := match s2 with
  | .dat (.dct _ _) => true
  | .cel _ => true
  | _ => false
end
section
variable {X : Cx} {T : Tab} {W : WX} {n : Nat} {e o i f ix : Expr} {pos p' apos cpos : Pos} {we wo wi wx wf : WpE}
end
section
variable {X : Cx} {T : Tab} {W : WX} {n : Nat}
end
end Dl
namespace Dl
open PySem L2
section
variable {T : Tab} {K : PySem.W.Frag} {F : Addr → Prop} {ad : List Addr} {H : Hp} {a : Addr} {o : Obj} {kvs : List (Key × V)}
end
section
variable {X : Cx} {tg : Expr}
end
section
variable {X : Cx} {T : Tab} {W : WX} {tg e : Expr} {w : WpE}
end
def dcW (p : Pat) (wt : WpT) (wk wv : WpE) (sl : Sls) : List D → List (Key × D) → List Cell → (List (Key × D) → List Cell → Prop) → Prop
  | [], acc, cs, R => R acc cs
  | d :: ds, acc, cs, R => asgW p d sl fun sl' => wt sl' cs (fun b c1 => Br b (wk sl' c1 (fun s1 c2 => wv sl' c2 (fun s2 c3 => isKey s1 fun k => isDat s2 fun e => dcW p wt wk wv sl ds (putD acc k e) c3 R) noX) noX) (dcW p wt wk wv sl ds acc c1 R)) noX
theorem putD_len (kds : List (Key × D)) (k : Key) (d : D) : (putD kds k d).length ≤ kds.length + 1 := by
  unfold putD
  split
  · rw [List.length_map]; omega
  · rw [List.length_append]; exact Nat.le_refl _
section
variable {T : Tab} {K : PySem.W.Frag} {W : WX} {p : Pat} {wi : WpI} {wt : WpT} {wk wv : WpE} {own : List Nat}
end
section
variable {X : Cx} {T : Tab} {W : WX} {n : Nat} {kx vx tg iter : Expr} {ifs : List Expr} {scope : Scope} {own : List (Str × Nat)} {p : Pat} {wi : WpI} {wt : WpT} {wk wv : WpE} {pos : Pos} {y : Str}
structure JDC (X : Cx) (T : Tab) (W : WX) (kx vx tg iter : Expr) (ifs : List Expr) (scope : Scope) (own : List (Str × Nat)) (wi : WpI) (p : Pat) (wt : WpT) (wk wv : WpE) : Prop where
  hi : JI X T W tg iter wi
  ok : BlkOk X.N X.env.scope scope own
  hg : InB X scope fun X' => DG X' T tg p
  ht : InB X scope fun X' => JTs X' T W0 ifs wt
  hk : InB X scope fun X' => JE X' T W0 kx wk
  he : InB X scope fun X' => JE X' T W0 vx wv
  hp : ∀ i ∈ slotsP p, i ∈ own.map (·.2)
end
end Dl
namespace Dl
open PySem L2
section
variable {X : Cx} {T : Tab} {W : WX} {n : Nat} {kx vx tg iter : Expr} {ifs : List Expr} {scope : Scope} {own : List (Str × Nat)} {p : Pat} {wi : WpI} {wt : WpT} {wk wv : WpE} {pos py : Pos} {y : Str}
end
section
variable {X : Cx} {T : Tab} {cs : List Cell} {s1 : Sl}
theorem intsW_of {ds : List D} {k : List Int → Prop} (h : intsW ds k) : ∃ ns, ds = ns.map D.int ∧ k ns := by
  unfold intsW at h
  split at h
  · exact ⟨_, ints_of ‹_›, h⟩
  · exact h.elim
def maxI : Int → List Int → Int
  | a, [] => a
  | a, b :: l => maxI (if a < b then b else a) l
def minI : Int → List Int → Int
  | a, [] => a
  | a, b :: l => minI (if b < a then b else a) l
theorem maxI_in : ∀ (l : List Int) (a : Int), maxI a l ∈ a :: l ∧ ∀ y ∈ a :: l, y ≤ maxI a l
  | [], a => ⟨List.mem_cons_self, fun y hy => by simp at hy; subst hy; exact Int.le_refl _⟩
  | b :: l, a => by
    obtain ⟨h1, h2⟩ := maxI_in l (if a < b then b else a)
    unfold maxI
    have hc : a ≤ (if a < b then b else a) ∧ b ≤ (if a < b then b else a) := by split <;> omega
    have h0 := h2 _ List.mem_cons_self
    refine ⟨?_, fun y hy => ?_⟩
    · rcases List.mem_cons.mp h1 with h | h
      · rw [h]
        split
        · exact List.mem_cons_of_mem _ List.mem_cons_self
        · exact List.mem_cons_self
      · exact List.mem_cons_of_mem _ (List.mem_cons_of_mem _ h)
    · rcases List.mem_cons.mp hy with rfl | hy
      · omega
      · rcases List.mem_cons.mp hy with rfl | hy
        · omega
        · exact h2 y (List.mem_cons_of_mem _ hy)
theorem minI_in : ∀ (l : List Int) (a : Int), minI a l ∈ a :: l ∧ ∀ y ∈ a :: l, minI a l ≤ y
  | [], a => ⟨List.mem_cons_self, fun y hy => by simp at hy; subst hy; exact Int.le_refl _⟩
  | b :: l, a => by
    obtain ⟨h1, h2⟩ := minI_in l (if b < a then b else a)
    unfold minI
    have hc : (if b < a then b else a) ≤ a ∧ (if b < a then b else a) ≤ b := by split <;> omega
    have h0 := h2 _ List.mem_cons_self
    refine ⟨?_, fun y hy => ?_⟩
    · rcases List.mem_cons.mp h1 with h | h
      · rw [h]
        split
        · exact List.mem_cons_of_mem _ List.mem_cons_self
        · exact List.mem_cons_self
      · exact List.mem_cons_of_mem _ (List.mem_cons_of_mem _ h)
    · rcases List.mem_cons.mp hy with rfl | hy
      · omega
      · rcases List.mem_cons.mp hy with rfl | hy
        · omega
        · exact h2 y (List.mem_cons_of_mem _ hy)
theorem cb_maxL (hc : X.calm = true) {a : Int} {ns : List Int} (h : isLst cs ((a :: ns).map D.int) s1) : CalB X T "max" [s1] cs (.dat (.int (maxI a ns))) cs := ⟨.builtin "max", _, by decide +kernel, .inl ⟨_, rfl⟩, cr_max hc, fun ad F H vs Q c r q => by
  match vs, r with
  | [v], r =>
    obtain ⟨p, ws, rfl, e1, q1⟩ := rd_lst h c r.1
    have := Reps.of_ints q1
    subst this
    refine ⟨p, a :: ns, rfl, SqL.of e1, Nat.succ_pos _, fun m h1 h2 => ?_⟩
    obtain ⟨g1, g2⟩ := maxI_in ns a
    cases Int.le_antisymm (g2 m h1) (h2 _ g1)
    exact q _ H ad .refl c Rep.int⟩
theorem cb_minL (hc : X.calm = true) {a : Int} {ns : List Int} (h : isLst cs ((a :: ns).map D.int) s1) : CalB X T "min" [s1] cs (.dat (.int (minI a ns))) cs := ⟨.builtin "min", _, by decide +kernel, .inl ⟨_, rfl⟩, cr_min hc, fun ad F H vs Q c r q => by
  match vs, r with
  | [v], r =>
    obtain ⟨p, ws, rfl, e1, q1⟩ := rd_lst h c r.1
    have := Reps.of_ints q1
    subst this
    refine ⟨p, a :: ns, rfl, SqL.of e1, Nat.succ_pos _, fun m h1 h2 => ?_⟩
    obtain ⟨g1, g2⟩ := minI_in ns a
    cases Int.le_antisymm (h2 _ g1) (g2 m h1)
    exact q _ H ad .refl c Rep.int⟩
def maxW2 : WC := fun ss cs R => match ss with
  | [.dat (.int i), .dat (.int j)] => R (.dat (.int (if j > i then j else i))) cs
  | [s] => wL cs s fun ds => intsW ds fun ns => match ns with
    | a :: l => R (.dat (.int (maxI a l))) cs
    | [] => False
  | _ => False
theorem jc_max2 (hc : X.calm = true) : JCall X T "max" maxW2 := ⟨⟨.builtin "max", by decide +kernel, .inl ⟨_, rfl⟩⟩, fun ss cs R h => by
  unfold maxW2 at h
  split at h
  · exact ⟨_, _, cb_max hc, h⟩
  · obtain ⟨ds, h1, h⟩ := wL_of h
    obtain ⟨ns, e, h2⟩ := intsW_of h
    subst e
    split at h2
    · exact ⟨_, _, cb_maxL hc h1, h2⟩
    · exact h2.elim
  · exact h.elim⟩
def minW2 : WC := fun ss cs R => match ss with
  | [.dat (.int i), .dat (.int j)] => R (.dat (.int (if j < i then j else i))) cs
  | [s] => wL cs s fun ds => intsW ds fun ns => match ns with
    | a :: l => R (.dat (.int (minI a l))) cs
    | [] => False
  | _ => False
theorem jc_min2 (hc : X.calm = true) : JCall X T "min" minW2 := ⟨⟨.builtin "min", by decide +kernel, .inl ⟨_, rfl⟩⟩, fun ss cs R h => by
  unfold minW2 at h
  split at h
  · exact ⟨_, _, cb_min hc, h⟩
  · obtain ⟨ds, h1, h⟩ := wL_of h
    obtain ⟨ns, e, h2⟩ := intsW_of h
    subst e
    split at h2
    · exact ⟨_, _, cb_minL hc h1, h2⟩
    · exact h2.elim
  · exact h.elim⟩
end
end Dl
namespace Dl
open PySem L2
section
variable {X : Cx} {T : Tab} {W : WX} {n cn : Nat} {C : Addr} {fn : List Str} {e o o1 o2 : Expr} {f g : Str} {pos p1 p2 tpos : Pos} {we wo1 wo2 : WpE} {ta : TE}
end
end Dl
namespace Dl
open PySem L2
section
variable {X : Cx} {T : Tab} {cs : List Cell}
def blS (b : Bool) : Str := if b then Str.ofString "True" else Str.ofString "False"
theorem call_reprB : CallR X (.builtin "repr") (fun xs H Q => ∃ b, xs = [.bl b] ∧ Q (.str (blS b)) H) := by
  intro pins s σ H xs us Q I r h
  obtain ⟨b, rfl, q⟩ := h
  obtain ⟨u, rfl, ru⟩ := vals1 r
  cases (show u = Value.bool b from ru)
  exact PySem.P.repr_of_bool ⟨.str (blS b), H, I.tok _, ⟨_, rfl⟩, q⟩
theorem cb_reprB {b : Bool} : CalB X T "repr" [.dat (.bl b)] cs (.dat (.str (blS b))) cs := ⟨_, _, by decide +kernel, .inl ⟨_, rfl⟩, call_reprB, fun ad F H vs Q c r q => by
  match vs, r with
  | [v], r =>
    have r1 := r.1
    cases r1
    exact ⟨b, rfl, q _ H ad .refl c Rep.str⟩⟩
theorem call_reprN : CallR X (.builtin "repr") (fun xs H Q => xs = [.non] ∧ Q (.str (Str.ofString "None")) H) := by
  intro pins s σ H xs us Q I r h
  obtain ⟨rfl, q⟩ := h
  obtain ⟨u, rfl, ru⟩ := vals1 r
  cases (show u = Value.none from ru)
  exact PySem.P.repr_of_none ⟨.str _, H, I.tok _, ⟨_, rfl⟩, q⟩
theorem cb_reprN : CalB X T "repr" [.dat .non] cs (.dat (.str (Str.ofString "None"))) cs := ⟨_, _, by decide +kernel, .inl ⟨_, rfl⟩, call_reprN, fun ad F H vs Q c r q => by
  match vs, r with
  | [v], r =>
    have r1 := r.1
    cases r1
    exact ⟨rfl, q _ H ad .refl c Rep.str⟩⟩
def reprW2 : WC := fun ss cs R => match ss with
  | [.dat (.bl b)] => R (.dat (.str (blS b))) cs
  | [.dat .non] => R (.dat (.str (Str.ofString "None"))) cs
  | ss => reprW ss cs R
theorem jc_repr2 (hG : X.A.guards = some []) (hu : X.A.units + 64 < cLine) : JCall X T "repr" reprW2 := ⟨⟨.builtin "repr", by decide +kernel, .inl ⟨_, rfl⟩⟩, fun ss cs R h => by
  unfold reprW2 at h
  split at h
  · exact ⟨_, _, cb_reprB, h⟩
  · exact ⟨_, _, cb_reprN, h⟩
  · exact (jc_repr hG hu).run _ _ _ h⟩
end
end Dl
namespace Dl
open PySem L2
structure SmC (K : PySem.W.Frag) (C : Addr) (m : Str) (p f : Addr) : Prop where
  ga : PySem.W.specialIn K (.ref C) "__getattribute__" = some (some (.builtin "type.__getattribute__"))
  ty : PySem.W.typeIn K (.ref C) = some (.type "type")
  rd : PySem.W.readsIn K C (.type "type") = true
  fd : PySem.W.findCls K (.ref C) (.type "type") m = some (.get (.builtin "staticmethod.__get__") (.ref p) .none (.ref C))
  rc : ∃ rest, PySem.W.recIn K p "staticmethod" = some (.ref f :: rest)
section
variable {X : Cx} {x m : Str} {p1 p2 pos : Pos} {e : Expr} {es : List Expr} {kws : List Keyword} {C q f : Addr} {k : Nat} {fd : FuncData} {ps : List Str} {sp : Sp} {E : St → XK} {t tk : TA} {pl : Sem Bool} {CX : CXT}
end
section
variable {X : Cx} {T : Tab} {W : WX} {e : Expr} {es : List Expr} {kws : List Keyword} {pos p1 p2 : Pos} {wA wK : WpA} {c : Ct} {cx : CtX} {k : Nat} {fd : FuncData} {ps : List Str} {m y : Str} {C q f : Addr} {pl : Sem Bool}
end
section
variable {X : Cx} {T : Tab} {d : D} {ds : List D} {cs : List Cell}
end
end Dl
namespace Dl
open PySem L2
section
variable {X : Cx} {T : Tab} {W : WX} {c : Ct} {k cn : Nat} {fd : FuncData} {ps : List Str} {C g : Addr} {fn : List Str} {cs : List Cell} {ds : List D} {d : D}
end
end Dl
namespace Dl
open PySem L2
def TsO (x : Str) : Prop := ∀ c ∈ x.cps.toList, c < 0x110000
theorem TsO.ok {x : Str} (h : TsO x) : PyData.canLay0 (.str x) = true := by
  have e : PyData.strOk x = true := by
    unfold PyData.strOk
    rw [← Array.all_toList, List.all_eq_true]
    exact fun c hc => decide_eq_true (h c hc)
  simpa [PyData.canLay0] using e
end Dl
namespace Dl
open PySem L2
section
variable {X : Cx} {T : Tab} {C C2 g : Addr} {fd : FuncData} {ps : List Str} {k cn cm : Nat} {c : Ct} {fn fm : List Str} {ds es : List D} {d : D} {cs : List Cell} {w2 : W2}
end
end Dl
namespace Dl
open PySem L2
section
variable {X : Cx} {T : Tab} {W : WX} {e : Expr} {es : List Expr} {p : Pos} {w : WpE} {wA : WpA}
end
section
variable {T : Tab} {K : PySem.W.Frag} {M : Addr → Prop} {H : Hp}
end
section
variable {X : Cx} {T : Tab} {W : WX} {ad : List Addr} {F : Addr → Prop} {H : Hp} {cs : List Cell} {s1 : Sl} {ds : List D} {kds : List (Key × D)}
end
section
variable {X : Cx} {e : Expr} {te : TE} {p apos cpos pos : Pos}
end
section
variable {X : Cx} {T : Tab} {W : WX} {e : Expr} {p apos cpos pos : Pos} {we : WpE}
end
end Dl
namespace Dl
open PySem L2
section
open PySem.Spec PyProof.Rows
end
section
variable {X : Cx} {T : Tab} {ds : List D} {cs : List Cell}
end
end Dl
namespace Dl
open PySem L2
section
variable {X : Cx} {T : Tab} {W : WX} {o i : Expr} {pos : Pos} {wo wi : WpE}
end
section
variable {X : Cx} {T : Tab} {W : WX} {n : Nat} {e o ix : Expr} {pos p' : Pos} {we wo wx : WpE}
end
end Dl
namespace Dl
open PySem L2
section
variable {X : Cx} {T : Tab} {W : WX}
end
end Dl
namespace Dl
open PySem L2
end Dl
namespace Dl
open PySem L2 PySem.Spec PyProof.Rows
section
variable {X : Cx} {pins : List (Addr × Obj)} {σ : L2.St} {H : Hp} {s : Shared}
structure Made (H : Hp) (P f c : Addr) (F : LamF) (H1 : Hp) : Prop where
  keep : ∀ b o, b ≠ P → H b = some o → H1 b = some o
  tab : LamX.TabS H1 P F.q
  nf : H f = none
  fn : H1 f = some (LamO f F c)
  co : H1 c = some (LamX.CodeO c F.q)
end
section
variable {T : Tab} {K : PySem.W.Frag} {ad : List Addr} {Fm : Addr → Prop} {H H1 : Hp} {cs : List Cell} {P f c : Addr} {F : LamF}
end
section
variable {X : Cx} {T : Tab} {W : WX} {F : LamF} {c P : Addr} {pos : Pos} {ps : Arguments} {b : Expr} {sc : Scope}
end
structure LamOk (P : Program) (w : World) (K : PySem.W.Frag) (mg : Str → Option Value) (base : Heap) (k : Nat) (n : Nat) (F : LamF) (sp : Sp) : Prop where
  ln : ∀ {vs : List V} {H : Hp} {Q : VK} {E : XK}, sp vs H Q E → vs.length = n
  go : ∀ {A : Around} {fs : List Env} {s : Shared} {H : Hp} {us : List Value} {vs : List V} {Q : VK} {f c : Addr}, Room k A → Env0 P w K mg base A fs s H → H f = some (LamO f F c) → H c = some (LamX.CodeO c F.q) → Vals vs us → sp vs H Q E0 →
    codeAny (model P w) A (.call (.ref f) ⟨us, []⟩) (CR CX0 fs P w H s Q E0) s
section
variable {P : Program} {w : World} {K : PySem.W.Frag} {mg : Str → Option Value} {base : Heap} {k : Nat} {ps N : List Str} {sp : Sp} {F : LamF}
end
section
variable {T : Tab} {P : Program} {w : World} {K : PySem.W.Frag} {mg : Str → Option Value} {base : Heap} {k : Nat} {ps N : List Str} {F : LamF} {we : WpE}
end
end Dl
namespace Dl
open PySem L2 PySem.Spec PyProof.Rows
section
variable {X : Cx} {F : LamF} {x : Str} {p pos : Pos} {e : Expr} {es : List Expr} {n k : Nat} {sp : Sp}
end
section
variable {X : Cx} {T : Tab} {W : WX} {F : LamF} {x : Str} {p pos : Pos} {e : Expr} {es : List Expr} {n k : Nat} {c : Ct} {wo : WpE} {wA : WpA}
end
section
variable {X : Cx} {T : Tab} {W : WX} {ad : List Addr} {F : Addr → Prop} {H : Hp} {cs : List Cell} {kds : List (Key × D)} {pos p1 p2 : Pos} {i : Int} {b : Bool} {k1 k2 : Nat}
end
section
variable {X : Cx} {T : Tab} {W : WX} {ad : List Addr} {F : Addr → Prop} {H : Hp} {cs : List Cell} {kds : List (Key × D)} {s1 : Sl}
end
section
variable {T : Tab} {K : PySem.W.Frag} {F : Addr → Prop} {ad : List Addr} {H : Hp} {a : Addr} {o : Obj} {kvs : List (Key × V)}
end
section
variable {X : Cx} {T : Tab} {W : WX} {e : Expr} {w : WpE} {elts : List Expr} {kk : Nat} {tpos apos cpos : Pos}
end
end Dl
namespace Dl
open PySem L2 PySem.Spec PyProof.Rows
section
variable {T : Tab} {P : Program} {w : World} {K : PySem.W.Frag} {mg : Str → Option Value} {base : Heap} {nm qual : Str} {st : Stmt} {f c : Addr} {N ps : List Str} {k : Nat} {ws : Nat → WS} {dV kV doc pm ct oc : Value} {an od : Option Addr} {osl : Array (Option Value)} {fd : FuncData}
structure FunC (K : PySem.W.Frag) (nm qual : Str) (st : Stmt) (f c : Addr) (fd : FuncData) : Prop where
  ex : ∃ (dV kV doc pm ct oc : Value) (an od : Option Addr) (osl : Array (Option Value)), fd = PySem.W.fnOf nm qual (defArgs st) (defBody st) (defScope st) dV kV doc pm an (.ref c) ct ∧ K.lookup f = some ⟨oc, od, .func fd, osl⟩ ∧ PySem.W.codeIn K (.ref c) qual = true
end
section
variable {P : Program} {w : World} {K : PySem.W.Frag} {mg mb : Str → Option Value} {a c Tp : Addr} {s : Shared} {vs : List Value} {H : Hp}
end
end Dl
namespace Dl
open PySem L2 PySem.Spec PyProof.Rows
end Dl
namespace Dl
open PySem L2
section
variable {X : Cx} {T : Tab} {W : WX} {y : Str} {p pos : Pos} {kws : List Keyword} {f : Addr} {k : Nat} {fd : FuncData} {ps : List Str} {sp : Sp} {t : TA} {c : Ct} {wK : WpA}
end
end Dl
namespace Dl
open PySem L2
section
variable {X : Cx} {T : Tab} {W : WX} {n : Nat} {e it tg : Expr} {pos : Pos} {w : WpE} {body : List Stmt} {pa : Pat}
end
end Dl
namespace L2
open PySem PySem.Spec PyProof.Rows
section
variable {X : Cx} {a b c e : Expr} {ta : TA} {p p2 pos pos2 : Pos}
end
end L2
namespace Dl
open PySem L2
section
variable {X : Cx} {T : Tab} {W : WX} {a b c : Expr} {wA : WpA} {p p2 pos pos2 : Pos}
end
end Dl
namespace Dl
open PySem L2
section
variable {X : Cx} {T : Tab} {W : WX} {e o : Expr} {wa we wo : WpE} {pos apos p2 : Pos}
def slcSW (s1 : Sl) (l u : Option Int) (cs : List Cell) (R : RV) : Prop := match s1 with
  | .dat (.str x) => x.length ≤ sizeLine ∧ R (.dat (.str (cutS x l u))) cs
  | s1 => slcW s1 l u cs R
theorem reps_strs {K : PySem.W.Frag} {M : Addr → Prop} {H : Hp} : ∀ {ys : List Str} {vs : List V}, Reps T K M H vs (ys.map D.str) → vs = ys.map V.str
  | [], _, .nil => rfl
  | _ :: ys, _, .cons h t => by cases h; rw [reps_strs t]; rfl
def isStr (s : Sl) : Bool := match s with
  | .dat (.str _) => true
  | _ => false
def joiW (s d : Sl) (cs : List Cell) (R : RV) : Prop := match s, d with
  | .dat (.str a), .dat (.lst ds) => ∃ ys : List Str, ds = ys.map D.str ∧ (ys.map (·.length)).sum + ys.length * a.length ≤ 16777216 ∧ R (.dat (.str (Txt.join a ys))) cs
  | _, _ => False
def wM1 (w2 : W2) (wo we : WpE) : WpE := fun sl cs R Rx => wo sl cs (fun s c1 => isStr s = true ∧ we sl c1 (fun d c2 => w2 s d c2 R) Rx) Rx
def M1D (X : Cx) (T : Tab) (r : V → List V → Hp → VK → Prop) (w2 : W2) : Prop := ∀ s d cs R, w2 s d cs R → ∃ z cs', (∀ ad F H v u (Q : VK), HoldC T X.K ad F H cs → SlRep T X.K ad F H v s → SlRep T X.K ad F H u d → (∀ y H' ad', Ext ad F H ad' H' → HoldC T X.K ad' F H' cs' → SlRep T X.K ad' F H' y z → Q y H') → r v [u] H Q) ∧ R z cs'
theorem je_m1 {id : String} {name : Str} {r : V → List V → Hp → VK → Prop} {w2 : W2} (hd : M1D X T r w2) (ho : JE X T W o wo) (he : JE X T W e we) (slot : Slot "str" name id) (ty : typeOf (.builtin id) = pure (.type "method_descriptor")) (rule : MtR X id r)
    (hs : starEach [e] X.env = [(false, eval e X.env)] := by rfl) (hbase : attributeBase o name X.env (eval o X.env) = eval o X.env := by rfl) (hline : (apos.endLine == pos.line) = true := by rfl) :
    JE X T W (.Call (.Attribute o name apos) [e] [] pos) (wM1 w2 wo we) :=
  weak (pe_m1 slot ty rule ho he hs hbase hline) fun σ H Q ⟨ad, F, sl, cs, R, Rx, h0, hw, q, qx⟩ => ⟨ad, F, sl, cs, _, Rx, h0, hw, fun s c1 v H1 ad1 hw1 x1 h1 r1 => by
    obtain ⟨hs1, hw1⟩ := hw1
    refine ⟨?_, ad1, F, sl, c1, _, Rx, h1, hw1, fun d c2 u H2 ad2 hw2 x2 h2 r2 => ?_, qx.on x1 h1⟩
    · unfold isStr at hs1
      split at hs1
      · cases r1
        exact ⟨_, rfl⟩
      · cases hs1
    · obtain ⟨z, cs', hr, hR⟩ := hd s d c2 R hw2
      exact hr ad2 F H2 v u Q h2.hc (r1.ext x2) r2 fun y H3 ad3 x3 k3 r3 => q z cs' y H3 ad3 hR (x1.trans h1.hc (x2.trans h2.hc x3)) (h2.to x3 k3) r3, qx⟩
theorem m1_join : M1D X T (fun x xs H Q => ∃ a p, ∃ ys : List Str, x = .str a ∧ xs = [.ref p] ∧ (SqL X.K H p (ys.map V.str) ∨ SqT X.K H p (ys.map V.str)) ∧ (ys.map (·.length)).sum + ys.length * a.length ≤ 16777216 ∧ Q (.str (Txt.join a ys)) H) joiW := fun s d cs R h => by
  unfold joiW at h
  split at h
  · obtain ⟨ys, rfl, h1, hR⟩ := h
    refine ⟨_, cs, fun ad F H v u Q c r1 r2 q => ?_, hR⟩
    cases r1
    cases r2 with
    | @lst a vs _ n e1 r =>
      have e := reps_strs r
      subst e
      exact ⟨_, a, ys, rfl, rfl, .inl (SqL.of e1), h1, q _ H ad .refl c Rep.str⟩
  · exact h.elim
theorem je_join (ho : JE X T W o wo) (he : JE X T W e we) (hs : starEach [e] X.env = [(false, eval e X.env)] := by rfl) (hbase : attributeBase o "join" X.env (eval o X.env) = eval o X.env := by rfl) (hline : (apos.endLine == pos.line) = true := by rfl) :
    JE X T W (.Call (.Attribute o "join" apos) [e] [] pos) (wM1 joiW wo we) := je_m1 m1_join ho he PySem.F.slot_str_join PySem.F.type_str_join mt_join hs hbase hline
inductive JP (X : Cx) (T : Tab) (W : WX) : List Expr → List WpE → Prop where
  | nil : JP X T W [] []
  | cons {e : Expr} {w : WpE} {es : List Expr} {ws : List WpE} (h : JE X T W e w) (r : JP X T W es ws) : JP X T W (e :: es) (w :: ws)
end
end Dl
namespace L2
open PySem PySem.Spec PyProof.Rows
section
variable {X : Cx} {e o : Expr} {es : List Expr} {st : Stmt} {rest : List Stmt} {t u : TS} {te to : TE} {ta : TA} {pos apos cp : Pos}
end
end L2
namespace Dl
open PySem L2
section
variable {X : Cx} {T : Tab} {W : WX} {n : Nat} {e o : Expr} {es : List Expr} {wA : WpA} {w we wo : WpE} {st : Stmt} {rest : List Stmt} {w1 w2 : WS} {pos apos cp lp p' : Pos} {x : Str}
end
end Dl
namespace L2
open PySem PySem.Spec PyProof.Rows
section
variable {X : Cx}
end
end L2
namespace Dl
open PySem L2
section
variable {X : Cx} {T : Tab} {W : WX} {n : Nat} {a b e o tg it : Expr} {es body : List Expr} {wa wb w we wo : WpE} {wA : WpA} {st : Stmt} {rest : List Stmt} {w1 w2 : WS} {pos apos cp lp p' : Pos} {x : Str} {pa : Pat} {wi : WpI}
end
end Dl
namespace Dl
open PySem L2
open PySem.W in
theorem kit_tyb {K : Frag} {C : Addr} {u : String} {b : Bool} (hm : kitMeta u = true) (h4 : subIn K (.ref C) (.type u) = some b) : kitOne K (.ref C) (.type u) = some b := by
  show (if ((Value.ref C) == .type u) = true then some true else (if kitMeta u = true then subIn K (.ref C) (.type u) else none)) = some b
  rw [show ((Value.ref C) == .type u) = false from rfl, if_neg (by decide), if_pos hm]
  exact h4
section
variable {X : Cx} {T : Tab} {a Ce : Addr} {oe : Obj} {d : Option Addr} {pn : List (Addr × Obj)} {e : Expr} {pos p p2 : Pos} {m : Nat} {w : WpE} {x : Str} {u : String}
end
end Dl
namespace Dl
open PySem L2 PySem.Spec PyProof.Rows PySem.W PySem.Calls PySem.HandSPX
inductive Tl (t : List Value) : List Value → Prop
  | base : Tl t t
  | ref {c : Addr} {r : List Value} : Tl t r → Tl t (.ref c :: r)
abbrev veT : List Value := [.type "ValueError", .type "Exception", .type "BaseException", .type "object"]
abbrev ieT : List Value := [.type "IndexError", .type "LookupError", .type "Exception", .type "BaseException", .type "object"]
abbrev keT : List Value := [.type "KeyError", .type "LookupError", .type "Exception", .type "BaseException", .type "object"]
structure TlF (t : List Value) (nid : String) : Prop where
  new : ∃ B iN bN, ExcBaseFacts B nid iN bN ∧ t.contains (.type B) = true
  noA : t.contains (.type "AttributeError") = false
  noN : t.contains (.type "NameError") = false
  obj : t.contains (.type "object") = true
  ne : t.isEmpty = false
  pass : ∀ self : Value, refuseLoop self "__setattr__" t = pure ()
theorem tlf_ve : TlF veT "ValueError.__new__" := ⟨⟨_, _, _, F.excBase_ValueError, by decide +kernel⟩, by decide +kernel, by decide +kernel, by decide +kernel, rfl, fun self => by kernel_rfl⟩
theorem tlf_ie : TlF ieT "IndexError.__new__" := ⟨⟨_, _, _, F.excBase_IndexError, by decide +kernel⟩, by decide +kernel, by decide +kernel, by decide +kernel, rfl, fun self => by kernel_rfl⟩
theorem tlf_ke : TlF keT "LookupError.__new__" := ⟨⟨_, _, _, F.excBase_LookupError, by decide +kernel⟩, by decide +kernel, by decide +kernel, by decide +kernel, rfl, fun self => by kernel_rfl⟩
theorem Tl.has {t l : List Value} (h : Tl t l) (X : String) : l.contains (.type X) = t.contains (.type X) := by
  induction h with
  | base => rfl
  | ref _ ih => rw [List.contains_cons, ih] <;> rfl
theorem Tl.full {t l : List Value} (h : Tl t l) (n : t.isEmpty = false) : l.isEmpty = false := by
  cases h with
  | base => exact n
  | ref _ => rfl
theorem Tl.goes {t l : List Value} (h : Tl t l) (p : ∀ self : Value, refuseLoop self "__setattr__" t = pure ()) (self : Value) : refuseLoop self "__setattr__" l = pure () := by
  induction h with
  | base => exact p self
  | ref _ ih => rw [refuseLoop_ref] <;> exact ih
structure IniF (B iid : String) : Prop where
  slot : Slot B "__init__" iid
  entry : entryFor table iid = some Builtin.«BaseException.__init__»
  split : splitId iid = some (B, "__init__")
  kind : builtinKind iid = some .slot
  row : Manifest.signature? iid = some ⟨.positional, "*", B, .self, [⟨"args", .varPos, false⟩]⟩
  star : (B != "*") = true
theorem ini_ve : IniF "ValueError" "ValueError.__init__" := ⟨F.excBase_ValueError.init, F.excBase_ValueError.initEntry, F.excBase_ValueError.initSplit, F.excBase_ValueError.initKind, F.excBase_ValueError.initRow, F.excBase_ValueError.noStar⟩
theorem ini_ie : IniF "IndexError" "IndexError.__init__" := ⟨F.excBase_IndexError.init, F.excBase_IndexError.initEntry, F.excBase_IndexError.initSplit, F.excBase_IndexError.initKind, F.excBase_IndexError.initRow, F.excBase_IndexError.noStar⟩
theorem ini_ke : IniF "KeyError" "KeyError.__init__" where
  slot := .of (owner := "KeyError") (n := "__init__") (by rw [typeLookup_type, builtinLookup_eq_fast] <;> kernel_rfl) (by decide +kernel) (by decide +kernel) (by decide +kernel)
    (by first | exact Or.inl (by decide +kernel) | exact Or.inr (by decide +kernel)) (by rw [isSubtype_type] <;> kernel_rfl)
  entry := entryFor_alias (id' := "BaseException.__init__") (by rw [fastTable_eq_tree] <;> kernel_rfl) (by first | rfl | decide +kernel) (by decide +kernel) (by rw [fastTable_eq_tree] <;> kernel_rfl)
  split := by kernel_rfl
  kind := by kernel_rfl
  row := by kernel_rfl
  star := by decide +kernel
section
variable {prog : Program} {w : World} {A : Around} {E : Value → Shared → Prop} {R : Result → Shared → Prop} {h : Heap} {g : Array GenState} {dr : Drawn} {tk : Nat} {os : OsState}
variable {nm q : Str} {C N : Addr} {bs bm t : List Value} {hdct : Bool} {sn : List Str} {sub : List Value} {ab : Bool} {col : Option Bool} {dd : Option Addr} {k0 k1 k2 k3 k5 : Option Value} {nid iid B : String}
theorem newB (T : TlF t nid) (l : Tl t bm) {rest : List Value} (hC : h.get? C = some (excClassObj nm q C N bs bm hdct sn sub ab col dd k0 k1 k2 k3 k5 nid)) (hr : rest.length ≤ sizeLine)
    (hq : R (.ok (.ret (.ref (h.objs.size + 1)))) ⟨(h.push (kdv_tup rest)).push (excO C h.objs.size), g, dr, tk, os⟩) : codeAny (model prog w) A (.builtin nid ⟨.ref C :: rest, []⟩) R ⟨h, g, dr, tk, os⟩ := by
  obtain ⟨Bn, iN, bN, Fn, hB⟩ := T.new
  have e0 := Fn.ends
  have e1 : (Value.ref C :: bm).contains (.type Bn) = true := by rw [List.contains_cons, l.has, hB, Bool.or_true]
  have e2 : (Value.ref C :: bm).contains (.type "AttributeError") = false := by rw [List.contains_cons, l.has, T.noA] <;> rfl
  have e3 : (Value.ref C :: bm).contains (.type "NameError") = false := by rw [List.contains_cons, l.has, T.noN] <;> rfl
  refine codeAny_builtinAt Fn.entry ?_
  unfold Builtin.«BaseException.__new__»
  refine PySem.wpAt_bind (show PySem.wpAt _ _ _ (stack >>= _) _ _ _ from PySem.wpAt_bind (PySem.wpAt_stack fun p below => PySem.wpAt_of_wpAny ?_))
  wp_walk
  rw [Fn.owner]
  refine PySem.wpAt_of_wpAny ?_
  repeat (first
    | with_reducible refine wpAny_madeHere_exc Fn.canon hC ?_
    | with_reducible refine wpAny_loadPart_at hC ?_
    | (with_reducible refine wpAny_isSubtype_exc hC ?_; first | rw [e1] | rw [e2] | rw [e3])
    | wp_step)
  show R _ _
  rw [Heap.size_push] <;> exact hq
theorem checkNewB (T : TlF t nid) (l : Tl t bm) {rest : List Value} {Q : Unit → Shared → Prop} (hC : h.get? C = some (excClassObj nm q C N bs bm hdct sn sub ab col dd k0 k1 k2 k3 k5 nid)) (hq : Q () ⟨h, g, dr, tk, os⟩) :
    wpAny (model prog w) A (checkBuiltinCall nid ⟨.ref C :: rest, []⟩) Q E ⟨h, g, dr, tk, os⟩ := by
  obtain ⟨Bn, iN, bN, Fn, hB⟩ := T.new
  have e1 : (Value.ref C :: bm).contains (.type Bn) = true := by rw [List.contains_cons, l.has, hB, Bool.or_true]
  have e0 := Fn.noStar
  simp only [checkBuiltinCall, Fn.newKind, Fn.newSplit, Fn.newRow]
  repeat (first
    | refine wpAny_loadPart_at hC ?_
    | (refine wpAny_isSubtype_exc hC ?_; rw [e1])
    | refine wpAny_staticBase_exc hC ?_
    | refine wpAny_madeBy_exc hC ?_
    | simp only [bne_self_eq_false, Bool.false_eq_true, if_false]
    | wp_step)
  exact hq
theorem typeCallB (T : TlF t nid) (l : Tl t bm) {rest : List Value} {fI : Addr} {Q : Fin → Shared → Prop} (hC : h.get? C = some (excClassObj nm q C N bs bm hdct sn sub ab col dd k0 k1 k2 k3 k5 nid))
    (hi : Looks (model prog w) h (typeLookup (.ref C) "__init__") (some (.ref fI))) (hb : ∀ self, Looks (model prog w) h (bindSpecial (.ref fI) self) (.ref fI, [self])) (hr : rest.length ≤ sizeLine)
    (hq : codeAny (model prog w) A (.call (.ref fI) ⟨.ref (h.objs.size + 1) :: rest, []⟩)
      (fun r s' => match r with | .ok (.ret v) => v = .none ∧ Q (.done (.ret (.ref (h.objs.size + 1)))) s' | .ok _ => False | .error e => E e s') ⟨(h.push (kdv_tup rest)).push (excO C h.objs.size), g, dr, tk, os⟩) :
    wpAny (model prog w) A (Builtin.«type.__call__» ⟨.ref C :: rest, []⟩) Q E ⟨h, g, dr, tk, os⟩ := by
  have ky : ∀ b o, h.get? b = some o → ((h.push (kdv_tup rest)).push (excO C h.objs.size)).get? b = some o := fun b o e => Heap.get?_push_of_some _ (Heap.get?_push_of_some _ e)
  have hget : ((h.push (kdv_tup rest)).push (excO C h.objs.size)).get? (h.objs.size + 1) = some (excO C h.objs.size) := by heap_get
  have self_ : (Value.ref C :: bm).contains (.ref C) = true := by simp
  have qu : nid.startsWith "lifetime." = false := let ⟨_, _, _, Fn, _⟩ := T.new; Fn.quiet
  repeat (first | with_reducible refine wpAny_loadPart_at hC ?_ | with_reducible refine wpAny_madeBy_exc hC ?_ | wp_step)
  refine codeAny_call_builtin_code (Code.quiet_builtin _ qu) (checkNewB T l hC (newB T l hC hr (show wpAny _ _ _ _ _ _ from ?_)))
  unfold isInstance
  repeat (first | with_reducible refine wpAny_loadPart_at hget ?_ | (with_reducible refine wpAny_isSubtype_exc (ky _ _ hC) ?_; rw [self_]) | wp_step)
  show wpAny _ _ (typeLookup (.ref C) _) _ _ _
  refine (hi.keeps ky).at (wpAny_holding (wpAny_bind (((hb (.ref (h.objs.size + 1))).keeps ky).at (wpAny_bind (wpAny_call (codeAny_mono hq fun r s' z => ?_))))))
  rcases r with e | (v | _ | _ | _) <;> first | exact z | exact z.elim | skip
  obtain ⟨rfl, z⟩ := z
  first
    | exact wpAny_pure (wpAny_pure z)
    | (wp_walk; exact z)
theorem callB (T : TlF t nid) (l : Tl t bm) {rest : List Value} {fI : Addr} (hC : h.get? C = some (excClassObj nm q C N bs bm hdct sn sub ab col dd k0 k1 k2 k3 k5 nid))
    (hi : Looks (model prog w) h (typeLookup (.ref C) "__init__") (some (.ref fI))) (hb : ∀ self, Looks (model prog w) h (bindSpecial (.ref fI) self) (.ref fI, [self])) (hr : rest.length ≤ sizeLine)
    (hq : codeAny (model prog w) (A.under (.builtin "type.__call__" ⟨.ref C :: rest, []⟩)) (.call (.ref fI) ⟨.ref (h.objs.size + 1) :: rest, []⟩) (InitBack (h.objs.size + 1) R) ⟨(h.push (kdv_tup rest)).push (excO C h.objs.size), g, dr, tk, os⟩) :
    codeAny (model prog w) A (.call (.ref C) ⟨rest, []⟩) R ⟨h, g, dr, tk, os⟩ := by
  have z0 : (⟨h, g, dr, tk, os⟩ : Shared).TypeIs (.ref C) "type" := ⟨_, hC, rfl⟩
  have z1 := tc_lookup
  have z2 := tc_bind (.ref C)
  refine codeAny_of_tree (show wpAny _ _ (callAny (.ref C) _) _ _ _ from ?_)
  repeat (any_goals (first
    | assumption
    | with_reducible refine wpAny_loadPart_at hC ?_
    | wp_step))
  refine ⟨rfl, codeAny_call_builtin_at (Code.quiet_builtin _ (by decide +kernel)) entry_typeCall (wpAny_check_type_call_sub hC (typeCallB T l hC hi hb hr (codeAny_mono hq fun r s' z => ?_)))⟩
  rcases r with e | (v | _ | _ | _) <;> exact z
theorem iniB (I : IniF B iid) (hB : bm.contains (.type B) = true) {e t0 : Addr} {rest : List Value} (hC : h.get? C = some (excClassObj nm q C N bs bm hdct sn sub ab col dd k0 k1 k2 k3 k5 nid)) (he : h.get? e = some (excO C t0)) (hr : rest.length ≤ sizeLine)
    (hq : ∀ h' t1, (∀ b o, b ≠ e → h.get? b = some o → h'.get? b = some o) → h'.get? e = some (excO C t1) → R (.ok (.ret .none)) ⟨h', g, dr, tk, os⟩) : codeAny (model prog w) A (.call (.builtin iid) ⟨.ref e :: rest, []⟩) R ⟨h, g, dr, tk, os⟩ := by
  have chk : ∀ {A : Around} {E : Value → Shared → Prop} {Q : Unit → Shared → Prop}, Q () ⟨h, g, dr, tk, os⟩ → wpAny (model prog w) A (checkBuiltinCall iid ⟨.ref e :: rest, []⟩) Q E ⟨h, g, dr, tk, os⟩ := by
    intro A E Q hq
    have e1 : (Value.ref C :: bm).contains (.type B) = true := by rw [List.contains_cons, hB, Bool.or_true]
    have e0 := I.star
    simp only [checkBuiltinCall, I.kind, I.split, I.row]
    repeat (first
      | with_reducible refine wpAny_loadPart_at he ?_
      | with_reducible refine wpAny_loadPart_at hC ?_
      | (with_reducible refine wpAny_isSubtype_exc hC ?_; rw [e1])
      | wp_step)
    refine wpAny_onRaise ?_
    rw [show ∀ (a b : String) (n : Nat), Bind.check ⟨.positional, "*", B, .self, [⟨"args", .varPos, false⟩]⟩ a b n (List.map (fun x => x.fst) ({ pos := Value.ref e :: rest } : Args).kw) = pure () from fun a b n => check_star_args _ _ _ _ _ _]
    exact wpAny_pure hq
  refine codeAny_call_builtin I.slot.plain I.entry (chk ?_)
  wp_walk
  refine hq _ h.objs.size (fun b o hb ho => ?_) ?_
  · rw [Heap.get?_update_other _ _ (Ne.symm hb)] <;> exact Heap.get?_push_of_some _ ho
  · rw [Heap.get?_update_self _ (Heap.get?_push_of_some _ he) rfl] <;> rfl
end
end Dl
namespace Dl
open PySem L2
structure OexB (K : PySem.W.Frag) (C : Addr) (t : List Value) (nid : String) : Prop where
  cls : ∃ nm q N bs bm sn sub ab col dd k0 k1 k2 k3 k5, K.lookup C = some (excClassObj nm q C N bs bm true sn sub ab col dd k0 k1 k2 k3 k5 nid) ∧ Tl t bm
  sa : PySem.W.findIn K (.ref C) "__setattr__" = some (some (.builtin "object.__setattr__"))
  exC : PySem.W.subIn K (.ref C) (.type "BaseException") = some true
  tyC : PySem.W.typeIn K (.ref C) = some (.type "type")
  kC : PySem.W.keepIn K (.ref C) = true
section
open Builtin Builtin.ObjectAttr PySem.W
variable {prog : Program} {w : World} {A : Around} {E : Value → Shared → Prop} {R : Result → Shared → Prop} {hp : Heap} {g : Array GenState} {dr : Drawn} {t : Nat} {os : OsState}
variable {K : Frag} {name : Str} {tk : Tok} {v : Value} {x C : Addr} {fv : Array Value} {cd : ClassData} {tl : List Value} {nid : String}
theorem osaB_new (T : TlF tl nid) (l : Tl tl cd.mro) (X : K.In hp) (hx : hp.get? x = some { cls := .ref C, data := .fields fv }) (hcd : clsIn K C = some cd) (hh : cd.hasDict = true) (ha : findIn K (.ref C) name = some none)
    (hq : ∀ h' tk' dx, (∀ b o, b ≠ x → hp.get? b = some o → h'.get? b = some o) → hp.objs.size ≤ dx → dx ≠ x → h'.get? x = some { cls := .ref C, dict := some dx, data := .fields fv } → h'.Ns1 dx (fun y => if y = name then some v else none) → R (.ok (.ret .none)) ⟨h', g, dr, tk', os⟩) :
    codeAny (model prog w) A (.call (.builtin "object.__setattr__") ⟨[.ref x, .str name tk, v], []⟩) R ⟨hp, g, dr, t, os⟩ := by
  have S := F.store_object
  have I : InstAt hp x { cls := .ref C, data := .fields fv } C none := ⟨hx, rfl, rfl, trivial⟩
  have xs : x ≠ hp.objs.size := Nat.ne_of_lt (Heap.lt_size hx)
  have hx1 : (hp.push { cls := .type "dict", data := .dict #[] }).get? x = some { cls := .ref C, data := .fields fv } :=
    Heap.get?_push_of_some _ hx
  have sb : Looks (model prog w) hp (isInstance (.ref x) (.type "object")) true := I.type.andThen (looks_mroIn X (by unfold mroIn; rw [hcd, Option.bind_some, if_neg (by rw [l.full T.ne] <;> decide), l.has, T.obj]))
  have lm : Looks (model prog w) hp (mroOf (.ref C)) cd.mro := (looks_clsIn X hcd).andThen .now
  have lt : Looks (model prog w) hp (storeTaker? none) none := .now
  have lc : Looks (model prog w) hp (classData C) cd := looks_clsIn X hcd
  refine codeAny_call_builtin S.slot.plain S.entry (@check_slot (model prog w) _ _ ⟨hp, g, dr, t, os⟩ "object.__setattr__" "object" "__setattr__" (.ref x) [.str name tk, v] [] _ S.kind S.split sb (S.args (.ref x) (.str name tk) v) ?_)
  rw [osa_eq, refuse_eq]
  refine wpAny_bind (wpAny_bind (I.type.at (wpAny_bind (lm.at ?_))))
  rw [l.goes T.pass]
  refine wpAny_pure (wpAny_bind (I.type.at (wpAny_bind ((looks_findIn X ha).at (wpAny_bind (lt.at (show wpAny _ _ (storeInOwnDict (.ref x) (.ref C) (.str name tk) name v false) _ _ _ from ?_)))))))
  obtain ⟨nm, bs, mro, ns, qn, hd, sn, sb2, ab, col, del⟩ := cd
  cases (show hd = true from hh)
  unfold storeInOwnDict ownDictForStores
  repeat (first
    | with_reducible refine PySem.HandSPX.store_in_new ?_ ?_
    | with_reducible refine wpAny_loadPart_at hx ?_
    | with_reducible refine lc.at ?_
    | wp_step)
  · exact ⟨_, #[], _, (Heap.get?_update_ne _ _ _ _ xs.symm).trans (Heap.get?_push_at rfl rfl), rfl, fun e he => absurd he (by simp), fun _ => rfl⟩
  · intro h' tk' hn' hs
    refine hq h' tk' hp.objs.size (fun b o hb ho => (hs.2 b (Nat.ne_of_lt (Heap.lt_size ho))).trans ((Heap.get?_update_ne _ _ _ _ hb).trans (Heap.get?_push_of_some _ ho))) (Nat.le_refl _) xs.symm ?_ hn'
    exact (hs.2 x xs).trans (Heap.get?_update_self _ hx1 rfl)
theorem osaB_old {dx : Addr} {m0 : Str → Option Value} {nl : List Str} (T : TlF tl nid) (l : Tl tl cd.mro) (X : K.In hp) (hx : hp.get? x = some { cls := .ref C, dict := some dx, data := .fields fv }) (hns : hp.Ns1 dx m0) (hw : Within m0 nl) (hz : nl.length ≤ 1000)
    (hcd : clsIn K C = some cd) (hh : cd.hasDict = true) (ha : findIn K (.ref C) name = some none) (hq : ∀ h' tk', (∀ b o, b ≠ dx → hp.get? b = some o → h'.get? b = some o) → h'.Ns1 dx (fun y => if y = name then some v else m0 y) → R (.ok (.ret .none)) ⟨h', g, dr, tk', os⟩) :
    codeAny (model prog w) A (.call (.builtin "object.__setattr__") ⟨[.ref x, .str name tk, v], []⟩) R ⟨hp, g, dr, t, os⟩ := by
  have S := F.store_object
  obtain ⟨oD, esD, epD, hoD, hdD, _⟩ := hns.count hw
  have I : InstAt hp x { cls := .ref C, dict := some dx, data := .fields fv } C (some oD) := ⟨hx, rfl, rfl, hoD⟩
  have sb : Looks (model prog w) hp (isInstance (.ref x) (.type "object")) true := I.type.andThen (looks_mroIn X (by unfold mroIn; rw [hcd, Option.bind_some, if_neg (by rw [l.full T.ne] <;> decide), l.has, T.obj]))
  have lm : Looks (model prog w) hp (mroOf (.ref C)) cd.mro := (looks_clsIn X hcd).andThen .now
  have lt : Looks (model prog w) hp (storeTaker? none) none := .now
  have lc : Looks (model prog w) hp (classData C) cd := looks_clsIn X hcd
  refine codeAny_call_builtin S.slot.plain S.entry (@check_slot (model prog w) _ _ ⟨hp, g, dr, t, os⟩ "object.__setattr__" "object" "__setattr__" (.ref x) [.str name tk, v] [] _ S.kind S.split sb (S.args (.ref x) (.str name tk) v) ?_)
  rw [osa_eq, refuse_eq]
  refine wpAny_bind (wpAny_bind (I.type.at (wpAny_bind (lm.at ?_))))
  rw [l.goes T.pass]
  refine wpAny_pure (wpAny_bind (I.type.at (wpAny_bind ((looks_findIn X ha).at (wpAny_bind (lt.at (show wpAny _ _ (storeInOwnDict (.ref x) (.ref C) (.str name tk) name v false) _ _ _ from ?_)))))))
  obtain ⟨nm, bs, mro, ns, qn, hd, sn, sb2, ab, col, del⟩ := cd
  cases (show hd = true from hh)
  unfold storeInOwnDict ownDictForStores
  repeat (first
    | with_reducible refine PySem.OEX.store_in_old hns hw hz ?_
    | with_reducible refine wpAny_loadPart_at hx ?_
    | with_reducible refine lc.at ?_
    | wp_step)
  exact fun h' tk' hn' hs => hq h' tk' (fun b o hb ho => (hs.2 b hb).trans ho) hn'
end
section
open PySem.Spec PyProof.Rows
variable {X : Cx} {pins : List (Addr × Obj)} {σ : L2.St} {H : Hp} {s : Shared} {a C dx : Addr} {f : Str} {y : V} {u : Value} {fs : List (Str × V)} {Q : Unit → Shared → Prop} {E : Value → Shared → Prop} {A : Around} {tl : List Value} {nid iid B : String}
theorem ostB_new (F : TlF tl nid) (T : OexB X.K C tl nid) (I : Inv X pins σ H s) (e : H a = some (exo a C none)) (hno : PySem.W.findIn X.K (.ref C) f = some none) (ry : RelV y u)
    (h : ∀ dx s', H dx = none → dx ≠ a → Inv X pins σ (upd (upd H dx (exd dx [(f, y)])) a (exo a C (some dx))) s' → Q () s') : wpAny (model X.prog X.w) A (setAttr (.ref a) f u) Q E s := by
  obtain ⟨nm, q, N, bs, bm, sn, sub, ab, col, dd, k0, k1, k2, k3, k5, hC, hl⟩ := T.cls
  obtain ⟨t1, ho⟩ := exo_at I.hok e
  obtain ⟨hp, g, d, t, os⟩ := s
  have cl : PySem.W.clsIn X.K C = some { name := nm, bases := bs, mro := .ref C :: bm, ns := N, qualname := q, hasDict := true, slotNames := sn, subclasses := sub, abstract := ab, collection := col, hasDel := false } := by unfold PySem.W.clsIn; rw [hC] <;> rfl
  refine PySem.W.set_plain I.kIn (ox := { cls := .ref C, dict := none, data := .fields #[.ref t1, .none, .none, .none, .bool false, .none] }) (od := none) ⟨ho, rfl, rfl, trivial⟩ T.sa (osaB_new F (show Tl tl (.ref C :: bm) from .ref hl) I.kIn ho cl rfl hno fun h' tk' dx k dn dne hx hn => ?_)
  have nd0 : H dx = none := I.hok.fresh dn
  have nd : ∀ {b : Addr} {o : Obj}, hp.get? b = some o → b ≠ dx := fun {b o} q => Nat.ne_of_lt (Nat.lt_of_lt_of_le (Heap.lt_size q) dn)
  have na : ∀ {b : Addr}, H b = none → b ≠ a := fun {b} n z => by rw [z, e] at n; cases n
  have U : Un X.fs [] H (upd (upd H dx (exd dx [(f, y)])) a (exo a C (some dx))) hp h' := {
    keep := fun b o q n _ _ => k b o (na n) q
    slot := fun b o q n _ _ => ⟨o.slots, k b o (na n) q⟩
    free := fun b o q n _ => by
      rw [upd_ne (na n), upd_ne (nd q)] <;> exact n
    there := fun b o q _ => by
      by_cases hb : b = a
      · exact ⟨_, hb ▸ hx⟩
      · exact ⟨o, k b o hb q⟩
    tups := fun b xs q => by
      rw [upd_ne (at_ne e q exo_tup), upd_ne (ne_of_none q nd0)] <;> exact q
    frzs := fun b o v q => by
      rw [upd_ne (at_ne e q exo_frz), upd_ne (ne_of_none q nd0)] <;> exact q
    tbls := fun b ps q => ⟨#[], by rw [upd_ne (at_ne e q exo_tbl), upd_ne (ne_of_none q nd0), q] <;> simp⟩ }
  refine h dx _ nd0 dne (I.un (t' := tk') U fun b o q => ?_)
  by_cases hb : b = a
  · subst hb
    rw [upd_same] at q
    cases q
    exact exo_ok hx
  rw [upd_ne hb] at q
  by_cases hd : b = dx
  · subst hd
    rw [upd_same] at q
    cases q
    exact exd_ok hn (relO_put (fs := []) ry fun g => True.intro)
  rw [upd_ne hd] at q
  refine (I.hok b o q).stay (fun c v hc z => k c v (fun z2 => ?_) z) (fun c hc => ?_) fun c xs hc => ?_
  · subst z2
    rcases hc with hc | hc
    · exact hb hc.symm
    · exact at_ne e hc exo_own rfl
  · rw [upd_ne (at_ne e hc exo_own), upd_ne (ne_of_none hc nd0)] <;> exact hc
  · rw [upd_ne (at_ne e hc exo_tup), upd_ne (ne_of_none hc nd0)] <;> exact hc
theorem ostB_old (F : TlF tl nid) (T : OexB X.K C tl nid) (I : Inv X pins σ H s) (e : H a = some (exo a C (some dx))) (ed : H dx = some (exd dx fs)) (hl : fs.length ≤ 900) (hno : PySem.W.findIn X.K (.ref C) f = some none) (ry : RelV y u)
    (h : ∀ s', Inv X pins σ (upd H dx (exd dx ((f, y) :: fs))) s' → Q () s') : wpAny (model X.prog X.w) A (setAttr (.ref a) f u) Q E s := by
  obtain ⟨nm, q, N, bs, bm, sn, sub, ab, col, dd, k0, k1, k2, k3, k5, hC, ht⟩ := T.cls
  obtain ⟨mA, hns, rel⟩ := exd_at I.hok ed
  obtain ⟨t1, ho⟩ := exo_at I.hok e
  obtain ⟨hp, g, d, t, os⟩ := s
  have hw := within_of rel
  have cl : PySem.W.clsIn X.K C = some { name := nm, bases := bs, mro := .ref C :: bm, ns := N, qualname := q, hasDict := true, slotNames := sn, subclasses := sub, abstract := ab, collection := col, hasDel := false } := by unfold PySem.W.clsIn; rw [hC] <;> rfl
  obtain ⟨oD, _, _, hoD, _, _⟩ := hns.count hw
  refine PySem.W.set_plain I.kIn (ox := { cls := .ref C, dict := some dx, data := .fields #[.ref t1, .none, .none, .none, .bool false, .none] }) (od := some oD) ⟨ho, rfl, rfl, hoD⟩ T.sa (osaB_old F (show Tl tl (.ref C :: bm) from .ref ht) I.kIn ho hns hw (by rw [List.length_map] <;> omega) cl rfl hno fun h' tk' k hn => ?_)
  have hd : ∃ o, h'.get? dx = some o := let ⟨o, _, _, e', _⟩ := hn; ⟨o, e'⟩
  exact h _ (I.write (t' := tk') (x := dx) (e := dx) (o := exd dx ((f, y) :: fs)) (by rw [ed] <;> trivial) (.inl rfl) k hd (exd_ok hn (relO_put ry rel)))
theorem oiniB {us : List Value} {Q : Value → Shared → Prop} (Fi : IniF B iid) (hB : tl.contains (.type B) = true) (T : OexB X.K C tl nid) (I : Inv X pins σ H s) (e : H a = some (exo a C none)) (hl : us.length ≤ sizeLine) (h : ∀ s', Inv X pins σ H s' → Q .none s') :
    wpAny (model X.prog X.w) A (call (.builtin iid) (.ref a :: us)) Q E s := by
  obtain ⟨nm, q, N, bs, bm, sn, sub, ab, col, dd, k0, k1, k2, k3, k5, hC, ht⟩ := T.cls
  obtain ⟨t1, ho⟩ := exo_at I.hok e
  obtain ⟨hp, g, d, t, os⟩ := s
  refine wpAny_call (iniB Fi ((ht.has B).trans hB) (I.kIn _ _ hC) ho hl fun h' t2 k hx => ?_)
  have J := I.write (t' := t) (x := a) (e := a) (o := exo a C none) (by rw [e] <;> trivial) (.inl rfl) k ⟨_, hx⟩ (exo_ok hx)
  rw [show upd H a (exo a C none) = H from funext fun b => by
    by_cases hb : b = a
    · rw [hb, upd_same, e]
    · rw [upd_ne hb]] at J
  exact h _ J
end
def tIniB (K : PySem.W.Frag) (tl : List Value) (nid : String) (ta : TA) : TE := fun σ H Q => ta σ H fun vs H1 => ∃ (a C : Addr) (ws : List V), vs = .ref a :: ws ∧ ws.length ≤ 1000 ∧ OexB K C tl nid ∧ H1 a = some (exo a C none) ∧ Q .non H1
def tOstB (K : PySem.W.Frag) (tl : List Value) (nid : String) (f : Str) (to te : TE) : TS := fun D σ H => te σ H fun y H1 => to σ H1 fun x H2 => ∃ a C : Addr, x = .ref a ∧ OexB K C tl nid ∧ PySem.W.findIn K (.ref C) f = some none ∧
  ((H2 a = some (exo a C none) ∧ ∀ dx, H2 dx = none → dx ≠ a → D.nx σ (upd (upd H2 dx (exd dx [(f, y)])) a (exo a C (some dx)))) ∨
    ∃ (dx : Addr) (fs : List (Str × V)), H2 a = some (exo a C (some dx)) ∧ H2 dx = some (exd dx fs) ∧ fs.length ≤ 900 ∧ D.nx σ (upd H2 dx (exd dx ((f, y) :: fs))))
def tMkB (C : Addr) (sp : Sp) (ta : TA) : L2.St → Hp → XK → Prop := fun σ H Q => ta σ H fun vs H1 => vs.length ≤ 1000 ∧ ∀ a, H1 a = none → sp (.ref a :: vs) (upd H1 a (exo a C none))
  (fun v H2 => v = .non ∧ ((∃ (d : Addr) (fs : List (Str × V)), H2 a = some (exo a C (some d)) ∧ H2 d = some (exd d fs) ∧ H1 d = none ∧ Q (.ref C) (some d) (upd (del H2 a) d (.xd fs))) ∨ (H2 a = some (exo a C none) ∧ Q (.ref C) none (del H2 a)))) (fun _ _ _ => False)
section
open PySem.Spec PyProof.Rows
variable {X : Cx} {o e : Expr} {es : List Expr} {to te : TE} {ta : TA} {f x : Str} {p p' p1 p2 pos : Pos} {tl : List Value} {nid iid B : String}
theorem ps_ostB (F : TlF tl nid) (ho : PE X o to) (he : PE X e te) (hs : swapsWith e (some (.Attribute o f p')) pos.line X.env = pure false := by rfl) : PS X (.Assign [.Attribute o f p'] e pos) (tOstB X.K tl nid f to te) := by
  refine ⟨fun pins s σ H D I h => plainObj_wpAny_Assign_Attribute (thn (he.run pins s σ H _ I h) fun v s1 ⟨y, H1, I1, r1, q1⟩ => thn (ho.run pins s1 σ H1 _ I1 q1) fun u s2 ⟨z, H2, I2, r2, a, C, ex, T, hno, q⟩ => ?_) hs⟩
  subst ex
  cases (show u = Value.ref a from r2)
  rcases q with ⟨ea, q⟩ | ⟨dx, fs, ea, ed, hl, q⟩
  · exact ostB_new F T I2 ea hno r1 fun dx s' n ne J => ⟨σ, _, J, q dx n ne⟩
  · exact ostB_old F T I2 ea ed hl hno r1 fun s' J => ⟨σ, _, J, q⟩
structure BiC (K : PySem.W.Frag) (x : Str) (B iid : String) : Prop where
  boot : bootBuiltins x = some (.type B)
  nm : x ≠ "__name__"
  db : (x == ("__debug__" : Str)) = false
  ty : typeOf (.type B) = pure (.type "type")
  st : Manifest.isStub B = false
  at_ : PySem.W.findCls K (.type B) (.type "type") "__init__" = some (.val (.builtin iid))
  hin : PySem.W.handedIn (.builtin iid) = true
theorem pe_biniB {pl : Sem Bool} (Fi : IniF B iid) (hB : tl.contains (.type B) = true) (hm : X.mg x = none) (bi : BiC X.K x B iid) (ha : PA X (e :: es) ta) (hg : Gl X x := by rfl)
    (ht : eval (.Call (.Attribute (.Name x p1) "__init__" p2) (e :: es) [] pos) X.env = (eval (.Name x p1) X.env >>= fun ov => standAt p2.atName >>= fun _ => holding [ov] (getMethod ov "__init__" pl) >>= fun fb => callWith pos fb.1 fb.2 (backTo pos (starEach (e :: es) X.env)) (backToKw pos (keywordEach [] X.env))) := by rfl)
    (he : starEach (e :: es) X.env = (false, eval e X.env) :: starEach es X.env := by rfl) (hpl : (backTo pos (starEach es X.env)).any (·.1) = false := by rfl) :
    PE X (.Call (.Attribute (.Name x p1) "__init__" p2) (e :: es) [] pos) (tIniB X.K tl nid ta) := by
  refine ⟨fun pins s σ H Q I h => PySem.W.methodCall_KW (ld_blt I hg hm bi.boot ?_ bi.nm bi.db) ht⟩
  obtain ⟨m, fr⟩ := I.fr
  refine PySem.W.method_type fr I.ok.mod.kin bi.ty bi.st bi.at_ bi.hin (show wpAny _ _ (callWith pos (Value.builtin iid) [] (backTo pos (starEach (e :: es) X.env)) []) _ _ _ from ?_)
  refine PyProof.Rows.callWith_method1 (thn (ha.run pos pins _ σ H _ (I.tok _) h) fun us s1 z => ?_) he hpl
  obtain ⟨vs, H1, I1, r1, a, C, ws, ev, hl, T, ea, q⟩ := z
  subst ev
  cases r1 with
  | @cons _ u0 _ ur ra rw' =>
    cases (show u0 = Value.ref a from ra)
    exact oiniB Fi hB T I1 ea (by rw [← Paired.length rw', sizeLine_eq]; omega) fun s' J => ⟨.non, H1, J, rfl, q⟩
theorem pe_ciniB {C0 : Addr} {pl : Sem Bool} (hm : X.mg x = some (.ref C0)) (c : CIn X.K C0) (ha : PA X (e :: es) ta) (hg : Gl X x := by rfl) (hdb : (x == ("__debug__" : Str)) = false := by decide)
    (ht : eval (.Call (.Attribute (.Name x p1) "__init__" p2) (e :: es) [] pos) X.env = (eval (.Name x p1) X.env >>= fun ov => standAt p2.atName >>= fun _ => holding [ov] (getMethod ov "__init__" pl) >>= fun fb => callWith pos fb.1 fb.2 (backTo pos (starEach (e :: es) X.env)) (backToKw pos (keywordEach [] X.env))) := by rfl)
    (he : starEach (e :: es) X.env = (false, eval e X.env) :: starEach es X.env := by rfl) (hpl : (backTo pos (starEach es X.env)).any (·.1) = false := by rfl) :
    PE X (.Call (.Attribute (.Name x p1) "__init__" p2) (e :: es) [] pos) (tIniB X.K veT nid ta) := by
  refine ⟨fun pins s σ H Q I h => ?_⟩
  obtain ⟨m, fr⟩ := I.fr
  refine PySem.W.methodCall_KW (ld_glob I hg hm (PySem.W.method_of_cls fr I.ok.mod.kin c.ga (PySem.W.cls_val fr I.ok.mod.kin c.ty c.rd c.at_ (by decide +kernel) (show wpAny _ _ (callWith pos (Value.builtin "ValueError.__init__") [] (backTo pos (starEach (e :: es) X.env)) []) _ _ _ from ?_))) hdb) ht
  refine PyProof.Rows.callWith_method1 (thn (ha.run pos pins _ σ H _ (I.tok _) h) fun us s1 z => ?_) he hpl
  obtain ⟨vs, H1, I1, r1, a, C, ws, ev, hl, T, ea, q⟩ := z
  subst ev
  cases r1 with
  | @cons _ u0 _ ur ra rw' =>
    cases (show u0 = Value.ref a from ra)
    exact oiniB ini_ve (by decide +kernel) T I1 ea (by rw [← Paired.length rw', sizeLine_eq]; omega) fun s' J => ⟨.non, H1, J, rfl, q⟩
theorem mk_endN {pins : List (Addr × Obj)} {σ : L2.St} {H1 H2 : Hp} {hp hp2 h2 : Heap} {g1 g2 : Array GenState} {d1 d2 : Drawn} {t1 t2 : Nat} {os1 os2 : OsState} {a C : Addr} {Q : XK} (T : Raises X (.ref C)) (I1 : Inv X pins σ H1 ⟨hp, g1, d1, t1, os1⟩)
    (ha : hp.objs.size ≤ a) (k : ∀ b o, hp.get? b = some o → hp2.get? b = some o) (un : Un (frs X.stack) [] (upd H1 a (exo a C none)) H2 hp2 h2) (hok : HOk X.prog X.w H2 h2) (ho : os2 = os1) (hb : AllBare g2) (ea : H2 a = some (exo a C none)) (q : Q (.ref C) none (del H2 a)) :
    MkP X pins σ Q (.ref a) ⟨h2, g2, d2, t2, os2⟩ := by
  obtain ⟨t0, hoe⟩ := exo_at hok ea
  have hn : H1 a = none := I1.hok.fresh ha
  obtain ⟨G, g1', g2'⟩ := restrict h2 fun b => decide (b ≠ a)
  have gk : ∀ b, b ≠ a → G.get? b = h2.get? b := fun b hb => g1' b (decide_eq_true hb)
  have ge : G.get? a = none := g2' a (by simp)
  have nha : ∀ {b : Addr} {o : Obj}, hp.get? b = some o → b ≠ a := fun {b o} z => Nat.ne_of_lt (Nat.lt_of_lt_of_le (Heap.lt_size z) ha)
  have up : ∀ {b : Addr}, b ≠ a → H1 b = none → upd H1 a (exo a C none) b = none := fun {b} hb n => by
    rw [upd_ne hb] <;> exact n
  have U : Un (frs X.stack) [] H1 (del H2 a) hp G := {
    keep := fun b o z n hf hx => (gk b (nha z)).trans (un.keep b o (k b o z) (up (nha z) n) hf hx)
    slot := fun b o z n hf hx => by
      rw [gk b (nha z)] <;> exact un.slot b o (k b o z) (up (nha z) n) hf hx
    free := fun b o z n hx => (del_ne (nha z)).trans (un.free b o (k b o z) (up (nha z) n) hx)
    there := fun b o z hx => by
      rw [gk b (nha z)] <;> exact un.there b o (k b o z) hx
    tups := fun b xs z => by
      rw [del_ne (ne_of_none z hn)] <;> exact un.tups b xs (by rw [upd_ne (ne_of_none z hn)] <;> exact z)
    frzs := fun b o v z => by
      rw [del_ne (ne_of_none z hn)] <;> exact un.frzs b o v (by rw [upd_ne (ne_of_none z hn)] <;> exact z)
    tbls := fun b ps z => by
      rw [del_ne (ne_of_none z hn)] <;> exact un.tbls b ps (by rw [upd_ne (ne_of_none z hn)] <;> exact z) }
  have hok3 : HOk X.prog X.w (del H2 a) G := fun b o z => by
    have hba : b ≠ a := fun e => by rw [e, del_same] at z; cases z
    rw [del_ne hba] at z
    have noa : ∀ {c : Addr}, H2 c = some (.own b) → c ≠ a := fun {c} hc => at_ne ea hc exo_own
    refine (hok b o z).stay (fun c v hc y => ?_) (fun c hc => (del_ne (noa hc)).trans hc) (fun c xs hc => (del_ne (at_ne ea hc exo_tup)).trans hc)
    have hca : c ≠ a := hc.elim (fun e => e ▸ hba) noa
    exact (gk c hca).trans y
  have J : Inv X pins σ (del H2 a) ⟨G, g2, d2, t2, os2⟩ := I1.call' (ch := []) ho U hok3 hb fun b z => absurd z (by simp)
  refine ⟨a, _, _, ⟨G, g2, d2, t2, os2⟩, _, .ref C, none, rfl, J, fun b o z => ?_, ge, hoe, ⟨rfl, rfl⟩, rfl, rfl, del_same, rfl, hb, T, q⟩
  by_cases hba : b = a
  · rw [hba, ge] at z
    cases z
  · exact (gk b hba).symm.trans z
theorem mkB_run {k : Nat} {C fI : Addr} {fd : FuncData} {ps : List Str} {sp : Sp} {pins : List (Addr × Obj)} {σ : L2.St} {H1 : Hp} {Q : XK} {vs : List V} {us : List Value} {s1 : Shared} (F : TlF tl nid) (T : OexB X.K C tl nid) (iC : PySem.W.findIn X.K (.ref C) "__init__" = some (some (.ref fI))) (tI : PySem.W.typeIn X.K (.ref fI) = some (.type "function"))
    (F1 : FnOk X.prog X.w X.K X.mg X.base CX0 k fI fd ps sp) (hr : Room (k + 1) X.A) (hb : Binds X.K fd ps []) (I1 : Inv X pins σ H1 s1) (r1 : Vals vs us) (hz : vs.length ≤ 1000)
    (q1 : ∀ a, H1 a = none → sp (.ref a :: vs) (upd H1 a (exo a C none)) (fun v H2 => v = .non ∧ ((∃ (d : Addr) (fs : List (Str × V)), H2 a = some (exo a C (some d)) ∧ H2 d = some (exd d fs) ∧ H1 d = none ∧ Q (.ref C) (some d) (upd (del H2 a) d (.xd fs))) ∨ (H2 a = some (exo a C none) ∧ Q (.ref C) none (del H2 a)))) (fun _ _ _ => False)) :
    wpAny (model X.prog X.w) X.A (call (.ref C) us) (MkP X pins σ Q) X.xe s1 := by
  obtain ⟨nm, q, N, bs, bm, sn, sub, ab, col, dd, k0, k1, k2, k3, k5, hC, ht⟩ := T.cls
  obtain ⟨hp, g, dr, tk, os⟩ := s1
  have hsz : hp.objs.size ≤ hp.objs.size + 1 := Nat.le_succ _
  have hq := q1 (hp.objs.size + 1) (I1.hok.fresh hsz)
  have kk : ∀ b o, hp.get? b = some o → ((hp.push (PySem.W.kdv_tup us)).push (PySem.HandSPX.excO C hp.objs.size)).get? b = some o := fun b o e => Heap.get?_push_of_some _ (Heap.get?_push_of_some _ e)
  have hget : ((hp.push (PySem.W.kdv_tup us)).push (PySem.HandSPX.excO C hp.objs.size)).get? (hp.objs.size + 1) = some (PySem.HandSPX.excO C hp.objs.size) := by heap_get
  have I2 := I1.laid (t' := tk) (a := hp.objs.size + 1) (o := exo (hp.objs.size + 1) C none) kk hsz (exo_ok hget)
  have r2 : Vals (V.ref (hp.objs.size + 1) :: vs) (Value.ref (hp.objs.size + 1) :: us) := .cons rfl r1
  have hl : (Value.ref (hp.objs.size + 1) :: us ++ []).length = ps.length := by
    rw [List.append_nil, ← F1.len _ _ _ _ hq] <;> exact r2.length.symm
  have hus : us.length ≤ sizeLine := by rw [← Paired.length r1, sizeLine_eq]; omega
  refine wpAny_call (callB F ht (I1.kIn _ _ hC) (PySem.W.looks_findIn I1.kIn iC) (fun self => PySem.W.bind_fn I1.kIn self tI) hus (codeAny_mono (F1.run _ X.stack _ _ ⟨Value.ref (hp.objs.size + 1) :: us, []⟩ (Value.ref (hp.objs.size + 1) :: us) _ _ (fun _ _ _ => False)
    (hr.make C us []) (I2.env0.make C us []) (by have b := hb _ (Value.ref (hp.objs.size + 1) :: us) I2.kIn hl; rw [List.append_nil] at b; exact b) r2 hq) fun r s' hq' => ?_))
  cases r with
  | error er => exact pass0 pins σ _ _ er s' I2 hq'
  | ok fl =>
    cases fl with
    | ret u =>
      obtain ⟨v, H2, os2, bare2, un2, hok2, rv, ev, hh⟩ := hq'
      subst ev
      obtain ⟨h2, g2, d2, t2, os'⟩ := s'
      rcases hh with ⟨d, fs, ea, ed, hd1, q2⟩ | ⟨ea, q2⟩
      · exact ⟨rv, mk_end (raises_own T.exC T.tyC) I1 hsz kk un2 hok2 os2 bare2 ea ed hd1 q2⟩
      · exact ⟨rv, mk_endN (raises_own T.exC T.tyC) I1 hsz kk un2 hok2 os2 bare2 ea q2⟩
    | next => exact False.elim hq'
    | brk => exact False.elim hq'
    | cont => exact False.elim hq'
theorem pmkB {k : Nat} {C fI : Addr} {fd : FuncData} {ps : List Str} {sp : Sp} (F : TlF tl nid) (T : OexB X.K C tl nid) (iC : PySem.W.findIn X.K (.ref C) "__init__" = some (some (.ref fI))) (tI : PySem.W.typeIn X.K (.ref fI) = some (.type "function")) (F1 : FnOk X.prog X.w X.K X.mg X.base CX0 k fI fd ps sp)
    (hr : Room (k + 1) X.A) (hb : Binds X.K fd ps []) (hm : X.mg x = some (.ref C)) (ha : PA X (e :: es) ta) (hg : Gl X x := by rfl) (hdb : (x == ("__debug__" : Str)) = false := by decide) (he : starEach (e :: es) X.env = (false, eval e X.env) :: starEach es X.env := by rfl) (hpl : (backTo pos (starEach es X.env)).any (·.1) = false := by rfl) :
    PMk X (.Call (.Name x p) (e :: es) [] pos) (tMkB C sp ta) := by
  intro pins s σ H Q I h
  refine wpAny_Call_Name_kw (ld_glob I hg hm (PySem.W.callWith_K (h₀ := X.base) I.ok.mod.kin T.kC (thn (ha.run pos pins s σ H _ I h) fun us s1 z => ?_) he hpl) hdb)
  obtain ⟨vs, H1, I1, r1, hz, q1⟩ := z
  exact ⟨I1.kIn, mkB_run F T iC tI F1 hr hb I1 r1 hz q1⟩
theorem pmkB0 {k : Nat} {C fI : Addr} {fd : FuncData} {ps : List Str} {sp : Sp} (F : TlF tl nid) (T : OexB X.K C tl nid) (iC : PySem.W.findIn X.K (.ref C) "__init__" = some (some (.ref fI))) (tI : PySem.W.typeIn X.K (.ref fI) = some (.type "function")) (F1 : FnOk X.prog X.w X.K X.mg X.base CX0 k fI fd ps sp)
    (hr : Room (k + 1) X.A) (hb : Binds X.K fd ps []) (hm : X.mg x = some (.ref C)) (hg : Gl X x := by rfl) (hdb : (x == ("__debug__" : Str)) = false := by decide) : PMk X (.Call (.Name x p) [] [] pos) (tMkB C sp (fun _ H Q => Q [] H)) := by
  intro pins s σ H Q I h
  refine wpAny_Call_Name_kw (ld_glob I hg hm (PySem.W.callWith_K0 (I.kIn) T.kC ?_) hdb)
  exact mkB_run F T iC tI F1 hr hb I .nil h.1 h.2
end
end Dl
namespace Dl
open PySem L2
def spEn (C : Addr) (fs : List Str) : Sp := fun vs H Q _ => ∃ (a : Addr) (ws : List V), vs = .ref a :: ws ∧ ws.length = fs.length ∧ H a = some (exo a C none) ∧ (fs = [] → Q .non H) ∧
  (fs ≠ [] → ∀ dx, H dx = none → dx ≠ a → Q .non (upd (upd H dx (exd dx (fs.zip ws).reverse)) a (exo a C (some dx))))
theorem upd_two {H : Hp} {a dx : Addr} {o1 o2 o3 : HO} (ne : dx ≠ a) : upd (upd (upd H dx o1) a o3) dx o2 = upd (upd H dx o2) a o3 := by
  funext b
  by_cases h1 : b = dx
  · subst h1
    rw [upd_same, upd_ne ne, upd_same]
  · rw [upd_ne h1]
    by_cases h2 : b = a
    · subst h2
      rw [upd_same, upd_same]
    · rw [upd_ne h2, upd_ne h2, upd_ne h1, upd_ne h1]
theorem del_made {H : Hp} {a dx : Addr} {o1 o3 o4 : HO} {o0 : HO} (na : H a = none) : upd (del (upd (upd (upd H a o0) dx o1) a o3) a) dx o4 = upd H dx o4 := by
  funext b
  by_cases h1 : b = dx
  · subst h1
    rw [upd_same, upd_same]
  · rw [upd_ne h1, upd_ne h1]
    by_cases h2 : b = a
    · subst h2
      rw [del_same, na]
    · rw [del_ne h2, upd_ne h2, upd_ne h1, upd_ne h2]
theorem del_new {H : Hp} {a : Addr} {o : HO} (na : H a = none) : del (upd H a o) a = H := by
  funext b
  by_cases h2 : b = a
  · subst h2
    rw [del_same, na]
  · rw [del_ne h2, upd_ne h2]
theorem rev_zip {α β : Type} : ∀ {l : List α} {m : List β}, l.length = m.length → (l.zip m).reverse = l.reverse.zip m.reverse
  | [], [], _ => rfl
  | a :: l, b :: m, h => by
    have h : l.length = m.length := Nat.succ.inj h
    rw [List.zip_cons_cons, List.reverse_cons, List.reverse_cons, List.reverse_cons, rev_zip h, List.zip_append (by rw [List.length_reverse, List.length_reverse, h])]
    rfl
def wRaiseN (m n : Nat) (wA : WpA) : WS := fun S P => wA S.sl S.cs (fun ss c => wDats ss fun ds => ds.length = n ∧ P.ex ⟨m, ds.reverse⟩ ⟨S.sl, c⟩) (fun x c => P.ex x ⟨S.sl, c⟩)
section
variable {X : Cx} {T : Tab} {W : WX} {x : Str} {C fI : Addr} {m k n : Nat} {fd : FuncData} {fs ps : List Str} {tl : List Value} {nid : String} {e : Expr} {es : List Expr} {p pos pos2 : Pos} {wA : WpA}
theorem made_to {S : Sta} {P : Post} {ad ad1 : List Addr} {F : Addr → Prop} {σ : L2.St} {H H1 : Hp} {vs : List V} {ds : List D} {c1 : List Cell} (hT : T m = some (C, fs.reverse)) (hn : n ≤ ad.length) (x1 : Ext ad F H ad1 H1) (h0 : Hold T X.K S ad F σ H) (h1 : Hold T X.K ⟨S.sl, c1⟩ ad1 F σ H1)
    (r1 : Reps T X.K (Mm ad1 F) H1 vs ds) (hl : ds.length = fs.length) (q5 : ∀ (y : Exc) (S' : Sta) (cls : Value) (d : Option Addr) (σ' : L2.St) (H' : Hp) (ad' : List Addr), ExtS n ad F H ad' H' → n ≤ ad'.length → Hold T X.K S' ad' F σ' H' → ExRep T X.K (Mm ad' F) H' cls d y → P.ex y S' → P.W cls d σ' H')
    (h : P.ex ⟨m, ds.reverse⟩ ⟨S.sl, c1⟩) (a : Addr) (na : H1 a = none) :
    spEn C fs (.ref a :: vs) (upd H1 a (exo a C none)) (fun v H2 => v = .non ∧ ((∃ (d : Addr) (gs : List (Str × V)), H2 a = some (exo a C (some d)) ∧ H2 d = some (exd d gs) ∧ H1 d = none ∧ P.W (.ref C) (some d) σ (upd (del H2 a) d (.xd gs))) ∨ (H2 a = some (exo a C none) ∧ P.W (.ref C) none σ (del H2 a)))) (fun _ _ _ => False) := by
  have hvl : vs.length = fs.length := r1.length.trans hl
  have hn1 := x1.le hn
  refine ⟨a, vs, rfl, hvl, upd_same, fun e0 => ⟨rfl, .inr ⟨upd_same, ?_⟩⟩, fun e0 dx ndx ne => ⟨rfl, .inl ⟨dx, _, upd_same, by rw [upd_ne ne, upd_same], ?_, ?_⟩⟩⟩
  · rw [del_new na]
    subst e0
    have : ds = [] := List.length_eq_zero_iff.mp hl
    subst this
    exact q5 ⟨m, []⟩ ⟨S.sl, c1⟩ (.ref C) none σ _ ad1 (x1.s hn) hn1 h1 ⟨C, [], hT, rfl, .inl ⟨rfl, rfl, rfl⟩⟩ h
  · rw [upd_ne ne] at ndx
    exact ndx
  · have n1 : H1 dx = none := by rw [upd_ne ne] at ndx; exact ndx
    rw [del_made na]
    obtain ⟨c3, x3⟩ := h1.hc.newo (o := .xd (fs.zip vs).reverse) n1
    refine q5 ⟨m, ds.reverse⟩ ⟨S.sl, c1⟩ (.ref C) (some dx) σ _ ad1 ((x1.trans h1.hc x3).s hn) hn1 (h1.to x3 c3) ⟨C, fs.reverse, hT, rfl, .inr ⟨dx, vs.reverse, rfl, h1.hc.new n1, ?_, by rw [List.length_reverse, List.length_reverse, hvl], (Reps.kp x3.kp r1).rev⟩⟩ h
    rw [upd_same, rev_zip hvl.symm]
theorem js_raiseN (tk : Takes X W) (F0 : TlF tl nid) (oc : OexB X.K C tl nid) (iC : PySem.W.findIn X.K (.ref C) "__init__" = some (some (.ref fI))) (tI : PySem.W.typeIn X.K (.ref fI) = some (.type "function")) (F1 : FnOk X.prog X.w X.K X.mg X.base CX0 k fI fd ps (spEn C fs)) (hr : Room (k + 1) X.A) (hb : Binds X.K fd ps []) (hm : X.mg x = some (.ref C))
    (hT : T m = some (C, fs.reverse)) (hl : fs.length = N) (ha : JA X T W (e :: es) wA) (hz : fs.length ≤ 1000 := by decide) (hc : X.calm = true := by rfl) (hg : Gl X x := by rfl) (hdb : (x == ("__debug__" : Str)) = false := by decide)
    (he : starEach (e :: es) X.env = (false, eval e X.env) :: starEach es X.env := by rfl) (hpl : (backTo pos (starEach es X.env)).any (·.1) = false := by rfl) : JS X T W n (.Raise (some (.Call (.Name x p) (e :: es) [] pos)) none pos2) (wRaiseN m N wA) := fun S P h =>
  weakS (ps_raise hc tk (pmkB F0 oc iC tI F1 hr hb hm ha hg hdb he hpl)) fun D σ H ⟨ad, F, hn, h0, q1, q2, q3, q4, q5⟩ => ⟨ad, F, S.sl, S.cs, (fun ss c => wDats ss fun ds => ds.length = N ∧ P.ex ⟨m, ds.reverse⟩ ⟨S.sl, c⟩), (fun x c => P.ex x ⟨S.sl, c⟩), h0, h, fun ss c1 vs H1 ad1 hR x1 h1 r1 => by
    obtain ⟨ds, rfl, hK⟩ := wDats_of hR
    have hd : ds.length = fs.length := hK.1.trans hl.symm
    refine ⟨by rw [r1.dats.length, hd]; exact hz, fun a na => made_to hT hn x1 h0 h1 r1.dats hd q5 hK.2 a na⟩, raz_of hn q5⟩
theorem js_raise0 (tk : Takes X W) (F0 : TlF tl nid) (oc : OexB X.K C tl nid) (iC : PySem.W.findIn X.K (.ref C) "__init__" = some (some (.ref fI))) (tI : PySem.W.typeIn X.K (.ref fI) = some (.type "function")) (F1 : FnOk X.prog X.w X.K X.mg X.base CX0 k fI fd ps (spEn C [])) (hr : Room (k + 1) X.A) (hb : Binds X.K fd ps []) (hm : X.mg x = some (.ref C))
    (hT : T m = some (C, [])) (hc : X.calm = true := by rfl) (hg : Gl X x := by rfl) (hdb : (x == ("__debug__" : Str)) = false := by decide) : JS X T W n (.Raise (some (.Call (.Name x p) [] [] pos)) none pos2) (wRaiseN m 0 wNil) := fun S P h =>
  weakS (ps_raise hc tk (pmkB0 F0 oc iC tI F1 hr hb hm hg hdb)) fun D σ H ⟨ad, F, hn, h0, q1, q2, q3, q4, q5⟩ =>
    ⟨Nat.zero_le _, fun a na => made_to (vs := []) (ds := []) (fs := []) hT hn .refl h0 h0 .nil rfl q5 h.2 a na⟩
end
end Dl
namespace Dl
open PySem L2
theorem bic_ie {K : PySem.W.Frag} (h : PySem.W.findCls K (.type "IndexError") (.type "type") "__init__" = some (.val (.builtin "IndexError.__init__"))) : BiC K "IndexError" "IndexError" "IndexError.__init__" := ⟨by decide +kernel, by decide, by decide, by kernel_rfl, by decide +kernel, h, by decide +kernel⟩
theorem bic_ke {K : PySem.W.Frag} (h : PySem.W.findCls K (.type "KeyError") (.type "type") "__init__" = some (.val (.builtin "KeyError.__init__"))) : BiC K "KeyError" "KeyError" "KeyError.__init__" := ⟨by decide +kernel, by decide, by decide, by kernel_rfl, by decide +kernel, h, by decide +kernel⟩
end Dl
namespace Dl
open PySem L2
section
variable {X : Cx} {T : Tab} {W : WX} {kws : List Keyword} {pos p : Pos} {wK : WpA} {c : Ct} {cx : CtX} {k : Nat} {fd : FuncData} {ps ks : List Str} {y : Str} {C g : Addr} {fn : List Str} {cn : Nat} {gg : List Value → List Value → List Value} {gV : List V → List V → List V} {fu : List D → List D → List D}
end
end Dl
namespace Dl
open PySem L2
section
variable {X : Cx} {T : Tab} {W : WX} {C g : Addr} {fd : FuncData} {ps : List Str} {k cn : Nat} {c : Ct} {fn : List Str} {e : Expr} {w : WpE}
end
end Dl
namespace Dl
open PySem L2
section
variable {X : Cx} {T : Tab} {W : WX} {n : Nat} {x : Str} {cv : Value} {body suite : List Stmt} {b0 : Stmt} {np pos pos' : Pos} {mt : Nat → Option Bool} {wb ws : WS}
end
section
variable {X : Cx} {T : Tab} {W : WX} {o e : Expr} {wo we : WpE} {pos apos p : Pos}
end
end Dl
namespace Dl
open PySem L2
section
variable {X : Cx} {pins : List (Addr × Obj)} {σ : St} {H : Hp} {s : Shared} {T : Tab} {M : Addr → Prop}
def KeyAt (K : PySem.W.Frag) (H : Hp) (v : V) (k : NestedKey) : Prop := ∀ (X : Cx) (pins : List (Addr × Obj)) (σ : St) (s : Shared) (u : Value), X.K = K → Inv X pins σ H s → RelV v u → NestedIs s.heap k u
mutual
theorem nk_is (I : Inv X pins σ H s) : ∀ (d : D) {v : V} {u : Value} {k : NestedKey}, Rep T X.K M H v d → nkD d = some k → RelV v u → NestedIs s.heap k u
  | .int i, v, u, k, r, h, rv => by
    cases r
    obtain ⟨t, e⟩ := (show ∃ t, u = Value.int i t from rv)
    cases h
    subst e
    exact .int i t
  | .tup ds, v, u, k, r, h, rv => by
    cases r with
    | @tup a vs _ h1 h2 =>
      cases (show u = Value.ref a from rv)
      obtain ⟨its, rl, ⟨o, z1, z2, n, z3⟩, _⟩ := I.tuple h1.sq
      cases hg : nkD.go ds with
      | none =>
        have h : (nkD.go ds).map NestedKey.tup = some k := h
        rw [hg] at h
        cases h
      | some ks =>
        have h : (nkD.go ds).map NestedKey.tup = some k := h
        rw [hg] at h
        cases h
        exact .tup z1 z2 z3 (nks_is I ds h2 hg rl)
  | .non, _, _, _, _, h, _ => nomatch h
  | .bl _, _, _, _, _, h, _ => nomatch h
  | .str _, _, _, _, _, h, _ => nomatch h
  | .lst _, _, _, _, _, h, _ => nomatch h
  | .obj _ _, _, _, _, _, h, _ => nomatch h
  | .scr _, _, _, _, _, h, _ => nomatch h
  | .err _ _ _ _, _, _, _, _, h, _ => nomatch h
  | .cls _, _, _, _, _, h, _ => nomatch h
  | .dct _ _, _, _, _, _, h, _ => nomatch h
  | .fn _ _, _, _, _, _, h, _ => nomatch h
  | .dcn _ _, _, _, _, _, h, _ => nomatch h
theorem nks_is (I : Inv X pins σ H s) : ∀ (ds : List D) {vs : List V} {us : List Value} {ks : List NestedKey}, Reps T X.K M H vs ds → nkD.go ds = some ks → Vals vs us → NestedAll s.heap ks us
  | [], vs, us, ks, r, h, rv => by
    cases r
    cases h
    cases rv
    exact .nil
  | d :: ds, vs, us, ks, r, h, rv => by
    cases r with
    | cons r1 r2 =>
      cases rv with
      | cons v1 v2 =>
        cases h1 : nkD d with
        | none => simp [nkD.go, h1] at h
        | some k =>
          cases h2 : nkD.go ds with
          | none => simp [nkD.go, h1, h2] at h
          | some l =>
            simp [nkD.go, h1, h2] at h
            subst h
            exact .cons (nk_is I d r1 h1 v1) (nks_is I ds r2 h2 v2)
end
theorem KeyAt.of {K : PySem.W.Frag} {v : V} {d : D} {k : NestedKey} (r : Rep T K M H v d) (h : nkD d = some k) : KeyAt K H v k := fun X pins σ s u e I rv => by
  subst e
  exact nk_is I d r h rv
end
section
variable {X : Cx} {pins : List (Addr × Obj)} {σ : St} {H : Hp} {s : Shared} {a b : Addr} {o : Obj} {xs : List (NestedKey × Addr × Value)} {k : NestedKey}
abbrev KeysAt (K : PySem.W.Frag) (H : Hp) (xs : List (NestedKey × Addr × Value)) : Prop := ∀ x ∈ xs, KeyAt K H (.ref x.2.1) x.1
end
section
variable {X : Cx} {e f o : Expr} {pos apos cpos : Pos} {td ty tx : TE}
end
end Dl
namespace Dl
open PySem L2
section
variable {X : Cx} {kx vx tg iter : Expr} {ifs : List Expr} {scope : Scope} {own : List (Str × Nat)} {pos : Pos} {wi : TI} {g : TG} {tt : TT} {tk tv : TE}
end
end Dl
namespace Dl
open PySem L2
def getN (kds : List (D × D)) (k : NestedKey) : Option D := (kds.find? fun p => decide (nkD p.1 = some k)).map (·.2)
section
variable {T : Tab} {K : PySem.W.Frag} {M M' : Addr → Prop} {H H' : Hp} {a b : Addr} {o : Obj} {kds : List (D × D)} {xs : List (NestedKey × Addr × Value)} {k : NestedKey} {v : V} {u : Value} {d kd : D}
abbrev NR1 (T : Tab) (K : PySem.W.Frag) (M : Addr → Prop) (H : Hp) (p : D × D) (x : NestedKey × Addr × Value) : Prop := Rep T K M H (.ref x.2.1) p.1 ∧ nkD p.1 = some x.1 ∧ ∃ v, RelV v x.2.2 ∧ Rep T K M H v p.2
abbrev NR (T : Tab) (K : PySem.W.Frag) (M : Addr → Prop) (H : Hp) : List (D × D) → List (NestedKey × Addr × Value) → Prop := Paired (NR1 T K M H)
theorem NR.kp (x : Kp M H M' H') (h : NR T K M H kds xs) : NR T K M' H' kds xs := by
  induction h with
  | nil => exact .nil
  | cons h t ih => exact .cons ⟨h.1.kp x, h.2.1, h.2.2.elim fun v z => ⟨v, z.1, z.2.kp x⟩⟩ ih
theorem NR.of : ∀ {xs : List (NestedKey × Addr × Value)} {kds : List (D × D)} {vs : List V}, Reps T K M H (xs.map fun x => V.ref x.2.1) (kds.map (·.1)) → (kds.map (·.1)).map nkD = xs.map (fun x => some x.1) → Vals vs (xs.map fun x => x.2.2) → Reps T K M H vs (kds.map (·.2)) → NR T K M H kds xs
  | [], [], _, _, _, _, _ => .nil
  | [], _ :: _, _, h, _, _, _ => by cases h
  | _ :: _, [], _, h, _, _, _ => by cases h
  | x :: xs, p :: kds, vs, h1, h2, h3, h4 => by
    cases h1 with
    | cons a1 a2 =>
      cases h3 with
      | cons b1 b2 =>
        cases h4 with
        | cons c1 c2 =>
          rw [List.map_cons, List.map_cons, List.map_cons] at h2
          injection h2 with e1 e2
          exact .cons ⟨a1, e1, _, b1, c1⟩ (NR.of a2 e2 b2 c2)
theorem NR.to : ∀ {xs : List (NestedKey × Addr × Value)} {kds : List (D × D)}, NR T K M H kds xs → Reps T K M H (xs.map fun x => V.ref x.2.1) (kds.map (·.1)) ∧ (kds.map (·.1)).map nkD = xs.map (fun x => some x.1) ∧ ∃ vs, Vals vs (xs.map fun x => x.2.2) ∧ Reps T K M H vs (kds.map (·.2)) := fun {xs kds} h => by
  induction h with
  | nil => exact ⟨.nil, rfl, [], .nil, .nil⟩
  | cons h t ih =>
    obtain ⟨i1, i2, vs, i3, i4⟩ := ih
    obtain ⟨h1, h2, v, h3, h4⟩ := h
    exact ⟨.cons h1 i1, by rw [List.map_cons, List.map_cons, List.map_cons, h2, i2], v :: vs, .cons h3 i3, .cons h4 i4⟩
theorem NR.keys (h : NR T K M H kds xs) : KeysAt K H xs := by
  induction h with
  | nil => exact fun _ z => nomatch z
  | cons h t ih =>
    intro x hx
    rcases List.mem_cons.mp hx with e | hx
    · rw [e]; exact KeyAt.of h.1 h.2.1
    · exact ih x hx
theorem NR.any (h : NR T K M H kds xs) : (kds.any fun p => decide (nkD p.1 = some k)) = (atKey xs k).isSome := by
  induction h with
  | nil => rfl
  | @cons p x ps xs h t ih =>
    by_cases e : x.1 = k
    · simp [atKey, h.2.1, e]
    · simpa [atKey, h.2.1, e] using ih
theorem NR.get (h : NR T K M H kds xs) : (getN kds k = none → atKey xs k = none) ∧ ∀ d, getN kds k = some d → ∃ b u v, atKey xs k = some (b, u) ∧ RelV v u ∧ Rep T K M H v d := by
  induction h with
  | nil => exact ⟨fun _ => rfl, fun d z => nomatch z⟩
  | @cons p x ps xs h t ih =>
    by_cases e : x.1 = k
    · have g : getN (p :: ps) k = some p.2 := by simp [getN, h.2.1, e]
      have g2 : atKey (x :: xs) k = some x.2 := by simp [atKey, e]
      rw [g, g2]
      obtain ⟨_, _, v, h3, h4⟩ := h
      exact ⟨(fun z => nomatch z), fun d z => by cases z; exact ⟨_, _, v, rfl, h3, h4⟩⟩
    · have g : getN (p :: ps) k = getN ps k := by simp [getN, h.2.1, e]
      have g2 : atKey (x :: xs) k = atKey xs k := by simp [atKey, e]
      rw [g, g2]
      exact ih
theorem NR.len (h : NR T K M H kds xs) : kds.length = xs.length := Paired.length h
end
section
variable {X : Cx} {T : Tab} {W : WX} {n : Nat} {e o i f ix : Expr} {pos p' apos cpos : Pos} {we wo wi wx wf : WpE}
end
section
variable {T : Tab} {K : PySem.W.Frag} {F : Addr → Prop} {ad : List Addr} {H : Hp} {a : Addr} {o od : Obj} {xs : List (NestedKey × Addr × Value)} {vs : List V} {ks ds : List D}
end
section
variable {X : Cx} {T : Tab} {W : WX} {e : Expr} {w : WpE} {elts : List Expr} {kk : Nat} {tpos apos cpos : Pos}
end
end Dl
namespace Dl
open PySem L2
section
variable {T : Tab} {K : PySem.W.Frag} {W : WX} {p : Pat} {wi : WpI} {wt : WpT} {wk wv : WpE} {own : List Nat}
end
section
variable {X : Cx} {T : Tab} {W : WX} {n : Nat} {kx vx tg iter : Expr} {ifs : List Expr} {scope : Scope} {own : List (Str × Nat)} {p : Pat} {wi : WpI} {wt : WpT} {wk wv : WpE} {pos : Pos} {y : Str}
structure JDCN (X : Cx) (T : Tab) (W : WX) (kx vx tg iter : Expr) (ifs : List Expr) (scope : Scope) (own : List (Str × Nat)) (wi : WpI) (p : Pat) (wt : WpT) (wk wv : WpE) : Prop where
  hi : JI X T W tg iter wi
  ok : BlkOk X.N X.env.scope scope own
  hg : InB X scope fun X' => DG X' T tg p
  ht : InB X scope fun X' => JTs X' T W0 ifs wt
  hk : InB X scope fun X' => JE X' T W0 kx wk
  he : InB X scope fun X' => JE X' T W0 vx wv
  hp : ∀ i ∈ slotsP p, i ∈ own.map (·.2)
end
section
variable {X : Cx} {T : Tab} {W : WX} {n : Nat}
end
end Dl
namespace Dl
open PySem L2
section
variable {X : Cx} {T : Tab} {W : WX} {e : Expr} {we : WpE} {pos p : Pos} {c : Ct} {k : Nat} {fd : FuncData} {ps : List Str} {y : Str} {C g : Addr} {fn : List Str} {cn : Nat}
end
end Dl
namespace Dl
open PySem L2
def lkS (kds : List (Str × D)) (x : Str) : Option D := (kds.find? fun p => decide (p.1 = x)).map (·.2)
def StD (K : PySem.W.Frag) (v : V) (d : D) : Prop := ∀ T M H, Rep T K M H v d
structure KD (K : PySem.W.Frag) (w : World) (a : Addr) (kds : List (Str × D)) : Prop where
  dict : ∃ es n, KDict K w a es n
  vals : ∀ x, (∀ d, lkS kds x = some d → ∃ u v, PySem.W.nsIn K a x = some (some u) ∧ RelV v u ∧ StD K v d) ∧ (lkS kds x = none → PySem.W.nsIn K a x = some none)
section
variable {X : Cx} {T : Tab} {W : WX} {o e f : Expr} {wo we wf : WpE} {pos p apos cpos : Pos} {y : Str} {a : Addr} {kds : List (Str × D)} {es : Array DictEntry} {n : Nat}
end
inductive JDs (X : Cx) (T : Tab) (W : WX) : List Str → List (Option Expr) → List Expr → WpA → Prop where
  | nil : JDs X T W [] [] [] wNil
  | cons {x : Str} {k : Nat} {pos : Pos} {e : Expr} {we : WpE} {xs : List Str} {ks : List (Option Expr)} {es : List Expr} {wA : WpA} : JE X T W e we → JDs X T W xs ks es wA → JDs X T W (x :: xs) (some (.Constant (.str x) k pos) :: ks) (e :: es) (wCons we wA)
theorem JDs.len {X : Cx} {T : Tab} {W : WX} {xs : List Str} {ks : List (Option Expr)} {es : List Expr} {wA : WpA} (h : JDs X T W xs ks es wA) : ks.length = es.length ∧ ks.all (·.isSome) = true ∧ ks.length = xs.length := by
  induction h with
  | nil => exact ⟨rfl, rfl, rfl⟩
  | cons he hr ih => exact ⟨by rw [List.length_cons, List.length_cons, ih.1], by rw [List.all_cons, ih.2.1]; rfl, by rw [List.length_cons, List.length_cons, ih.2.2]⟩
section
variable {X : Cx} {T : Tab} {W : WX} {pos : Pos} {xs : List Str} {ks : List (Option Expr)} {es : List Expr} {wA : WpA}
end
end Dl
namespace Dl
open PySem L2
section
open PySem.SeqAt
open MeetsSeq MeetsSeq2 MeetsSeq3 SeqRoads2
variable {prog : Program} {w : World} {A : Around} {R : Result → Shared → Prop}
variable {E : Value → Shared → Prop} {s : Shared}
end
inductive EqL (E : D → D → Bool → Prop) : List D → List D → Bool → Prop where
  | nil : EqL E [] [] true
  | nilc {y : D} {ys : List D} : EqL E [] (y :: ys) false
  | cnil {x : D} {xs : List D} : EqL E (x :: xs) [] false
  | ne {x y : D} {xs ys : List D} : E x y false → EqL E (x :: xs) (y :: ys) false
  | cons {x y : D} {xs ys : List D} {b : Bool} : E x y true → EqL E xs ys b → EqL E (x :: xs) (y :: ys) b
section
variable {X : Cx} {T : Tab} {C g : Addr} {fd : FuncData} {ps : List Str} {k n m : Nat} {c : Ct} {fn : List Str} {E : D → D → Bool → Prop}
end
end Dl
namespace L2
open PySem PySem.Spec PyProof.Rows
section
variable {X : Cx} {x n : Str} {c : Value} {i : Nat} {body suite rest : List Stmt} {b₀ : Stmt} {np pos pos' : Pos} {tb : WX → TS} {ts t1 : Addr → Value → Option Addr → TS} {t0 : TS} {Wout : WX} {pins : List (Addr × Obj)} {σ : St} {H : Hp} {s : Shared}
end
end L2
namespace Dl
open PySem L2
section
variable {X : Cx} {T : Tab} {W : WX} {n : Nat} {x y : Str} {cv : Value} {body suite rest : List Stmt} {b0 : Stmt} {np pos pos' : Pos} {mt : Nat → Option Bool} {i : Nat} {wb wr : WS} {ws wx : Nat → Addr → Option Addr → WS}
end
section
variable {X : Cx} {T : Tab} {W : WX} {a C Ce : Addr} {oe : Obj} {d : Option Addr} {e e2 : Expr} {es : List Expr} {pos p p2 tp : Pos} {m kk : Nat} {fn : List Str} {w w2 : WpE} {f x : Str} {Cs : List Addr} {kb : Option Bool}
end
section
variable {X : Cx} {T : Tab} {W : WX} {e : Expr} {we : WpE}
end
def cNo : Ct := fun _ _ _ _ => False
theorem fnOk_no {P : Program} {w : World} {K : PySem.W.Frag} {mg : Str → Option Value} {base : Heap} {CX : CXT} {k : Nat} {f : Addr} {fd : FuncData} {ps : List Str} {T : Tab} : FnOk P w K mg base CX k f fd ps (spC T K cNo) :=
  ⟨fun vs H Q E ⟨_, _, _, _, _, _, _, _, z, _⟩ => z.elim, fun A outer s H args us vs Q E hr he hb hv ⟨_, _, _, _, _, _, _, _, z, _⟩ => z.elim⟩
end Dl
namespace Dl
open PySem L2
section
variable {X : Cx} {T : Tab} {cs : List Cell} {s1 : Sl} {ds : List D} {w2 : W2}
end
end Dl
namespace Dl
open PySem L2
section
variable {X : Cx} {T : Tab} {W : WX} {e e2 : Expr} {wA : WpA} {pos p tpos : Pos} {elts : List Expr} {kk : Nat}
end
end Dl
namespace Dl
open PySem L2
section
open PySem.SeqAt
open MeetsSeq MeetsSeq2 MeetsSeq3 SeqRoads2
end
section
open PySem.Spec PyProof.Rows
variable {X : Cx}
end
section
variable {X : Cx} {T : Tab} {W : WX} {o e : Expr} {wo we : WpE} {pos apos : Pos}
end
end Dl
namespace Dl
open PySem L2 PySem.Spec
open PyProof.Rows hiding St
abbrev Hdl := Value × Option Nat × (Addr → Value → Option Addr → TS)
def endsU (o : Option Nat) (D : Ends) : Ends := match o with
  | none => D
  | some i => { nx := fun σ' H' => D.nx (σ'.set i none) H', rt := D.rt, bk := fun σ' H' => D.bk (σ'.set i none) H', ct := fun σ' H' => D.ct (σ'.set i none) H' }
def stU (o : Option Nat) (a : Addr) (σ : St) : St := match o with
  | none => σ
  | some i => σ.set i (some (.ref a))
def wMix (K : PySem.W.Frag) (Wout : WX) (D : Ends) : List Hdl → WX
  | [] => Wout
  | (c, o, ts) :: r => fun cls d σ H => ∃ b, PySem.W.exmOne K cls c = some b ∧ (b = true → ∀ a, H a = none → ts a cls d (endsU o D) (stU o a σ) H) ∧ (b = false → wMix K Wout D r cls d σ H)
inductive HdsM (X : Cx) : List ExceptHandler → List Hdl → Prop
  | nil : HdsM X [] []
  | anon {x : Str} {c : Value} {ts : Addr → Value → Option Addr → TS} {b₀ : Stmt} {suite : List Stmt} {np pos' : Pos} {hds : List ExceptHandler} {l : List Hdl} (hc : Names X x c)
      (hsu : ∀ (a : Addr) (oe : Obj) (cls : Value) (d : Option Addr) (pn : List (Addr × Obj)), Zc cls d oe → (∃ vs, oe.data = .fields vs) → PSs (X.suite a ((a, oe) :: pn)) (b₀ :: suite) (ts a cls d)) (r : HdsM X hds l) :
      HdsM X (.ExceptHandler (some (.Name x np)) none (b₀ :: suite) pos' :: hds) ((c, none, ts) :: l)
  | named {x n : Str} {i : Nat} {c : Value} {ts : Addr → Value → Option Addr → TS} {b₀ : Stmt} {suite : List Stmt} {np pos' : Pos} {hds : List ExceptHandler} {l : List Hdl} (hc : Names X x c) (hi : X.N[i]? = some n) (hln : X.env.kindOf n = some .local)
      (hsu : ∀ (a : Addr) (oe : Obj) (cls : Value) (d : Option Addr) (pn : List (Addr × Obj)), Zc cls d oe → (∃ vs, oe.data = .fields vs) → PSs (X.suite a ((a, oe) :: pn)) (b₀ :: suite) (ts a cls d)) (r : HdsM X hds l) :
      HdsM X (.ExceptHandler (some (.Name x np)) (some n) (b₀ :: suite) pos' :: hds) ((c, some i, ts) :: l)
section
variable {X : Cx} {body : List Stmt} {h₀ : ExceptHandler} {hds : List ExceptHandler} {l : List Hdl} {pos : Pos} {tb : WX → TS} {Wout : WX}
theorem ps_try_mix (hs : X.stack = X.env :: X.outer) (hf : X.env.frame = some X.env.locals) (hN : X.N.Nodup) (tk : Takes X Wout)
    (hb : ∀ (W : WX) (pn : List (Addr × Obj)) (xe : Value → Shared → Prop), Takes (X.tr pn xe) W → PassesOwn (model X.prog X.w) X.A X.env xe → PSs (X.tr pn xe) body (tb W))
    (hh : HdsM X (h₀ :: hds) l) : PS X (.Try body (h₀ :: hds) [] [] pos) (fun D σ H => tb (wMix X.K Wout D l) D σ H) := by
  refine ⟨fun pins s σ H D I h => ?_⟩
  have ok := I.ok
  have hfr : X.A.frames = some (X.env :: X.outer) := by rw [ok.frames, hs]
  refine wpAny_Try_except ?_
  refine wpAny_mono ((hb (wMix X.K Wout D l) (X.pn ++ pins) (fun e s₁ => wpAny (model X.prog X.w) X.A (noteFrame e X.env) (fun _ s₂ => wpAny (model X.prog X.w) X.A (setFlight e none) (fun _ s₃ =>
    wpAny (model X.prog X.w) X.A (handleBy e X.env (h₀ :: hds)) (SP X pins D) X.xe s₃) X.xe s₂) X.xe s₁) (fun u s' xx => ?_) PassesOwn.looking).run [] s σ H D (I.toTry _) h) (fun f s1 hsp => ?_) (fun e s1 he => he)
  · -- the catch
    obtain ⟨a, B, sI, pins', σ', H', cls, d, rfl, J', nb, up, sky, na, os, ag, w⟩ := xx
    have J : Inv X pins σ' H' sI := J'.ofTry ok
    have sky' : Sky B (X.env :: X.outer) a (Zc cls d) X.env.locals s'.heap := by rw [← hs]; exact sky
    show wpAny (model X.prog X.w) X.A (noteFrame (.ref a) X.env) _ _ _
    refine Sky.land Zc.steady hfr hf sky' fun h3 fl3 up3 => ?_
    have J3 : Inv X pins σ' H' { s' with heap := h3 } := J.landed nb fl3.1 (up.trans up3) os ag
    obtain ⟨oe3, vs3, he3, hz3, hd3⟩ := fl3.there
    have notFr : ∀ {h : Heap} {o : Obj} {vs : Array Value}, h.FunFrames B (X.env :: X.outer) → h.get? a = some o → o.data = .fields vs → a ∉ frs (X.env :: X.outer) := fun {h o vs} ff e dd hm => by
      obtain ⟨_, o', e', hnf⟩ := ff.mem hm
      rw [e] at e'; cases e'
      exact hnf _ dd
    have nfr := notFr fl3.2.2.1 he3 hd3
    have nL : a ≠ X.env.locals := fun z => nfr (List.mem_filterMap.mpr ⟨X.env, List.mem_cons_self, by rw [hf, z]⟩)
    have nF : a ∉ X.fs := fun hm => by
      obtain ⟨e, he, q⟩ := List.mem_filterMap.mp hm
      exact nfr (List.mem_filterMap.mpr ⟨e, List.mem_cons_of_mem _ he, q⟩)
    have S3 := J3.suite he3 hd3 na nL nF
    have go : ∀ {hds' : List ExceptHandler} {l' : List Hdl}, HdsM X hds' l' → wMix X.K Wout D l' cls d σ' H' →
        wpAny (model X.prog X.w) X.A (handleBy (.ref a) X.env hds') (SP X pins D) X.xe { s' with heap := h3 } := by
      intro hds' l' hk
      have LT : PySem.W.Looks (model X.prog X.w) h3 (typeOf (.ref a)) cls := fun A Q E s k q => wpAny_typeOf_ref (k _ _ he3) (by rw [hz3.1]; exact q)
      induction hk with
      | nil =>
        intro w
        refine wpAny_handleBy_nil ?_
        obtain ⟨k1, k2, k3, oe, vs, T, oT, ts', he, hz, hd, h1, hr⟩ := id fl3
        unfold PySem.passOn
        refine wpAny_bind (wpAny_field he hd h1 ?_)
        rw [if_neg (show ¬ ((Value.ref T == Value.none) = true) from by simp)]
        have fin : wpAny (model X.prog X.w) X.A (setFlight (.ref a) X.env.frame) (fun _ s4 => wpAny (model X.prog X.w) X.A (throw (.ref a) : Sem Flow) (SP X pins D) X.xe s4) X.xe { s' with heap := h3 } := by
          rw [hf]
          refine HandSPX.setFlight_upZ fl3 fun h4 hh4 up4 => wpAny_throw (tk _ _ ?_)
          exact ⟨a, B, sI, pins, σ', H', cls, d, rfl, J, nb, (up.trans up3).trans up4, .inr (.inr (by rw [hs]; exact hh4)), na, os, ag, w⟩
        first
          | exact wpAny_bind (wpAny_pure (wpAny_bind fin))
          | exact wpAny_bind fin
      | @anon x c ts b₀ suite np pos' hds2 l2 hc hsu r ih =>
        intro w
        obtain ⟨b, hb1, hyes, hno⟩ := w
        refine wpAny_handleBy_cons (codeAny_handlers_test ?_) (by intro q; cases q)
        have LM := PySem.W.exm_one (M := model X.prog X.w) (J3.kIn) LT hb1
        have test : ∀ {Q : Value → Shared → Prop} {E : Value → Shared → Prop}, Q c { s' with heap := h3 } → wpAny (model X.prog X.w) (X.A.mark (some (.ref a))) (eval (.Name x np) X.env) Q E { s' with heap := h3 } := fun {Q E} q => by
          obtain ⟨hg, hdbg, hm | ⟨hm, hv, hnn⟩⟩ := hc
          · exact ld_glob (X := X.suite a ((a, oe3) :: (X.pn ++ pins))) S3 hg hm q hdbg
          · exact ld_blt (X := X.suite a ((a, oe3) :: (X.pn ++ pins))) S3 hg hm hv q hnn hdbg
        refine test (LM.here ?_)
        cases b with
        | true =>
          refine codeAny_handlers_suite ?_
          refine HandSPX.lands_againZ fl3 fun h4 fl4 up4 => ?_
          have J4 : Inv X pins σ' H' { s' with heap := h4 } := J.landed nb fl4.1 ((up.trans up3).trans up4) os ag
          obtain ⟨oe4, vs4, he4, hz4, hd4⟩ := fl4.there
          have S4 := J4.suite he4 hd4 na nL nF
          refine wpAny_mono ((hsu a oe4 cls d (X.pn ++ pins) hz4 ⟨_, hd4⟩).run [] _ _ H' _ S4 (hyes rfl a na)) (fun f s6 hsp => ?_) (fun _ _ z => False.elim z)
          cases f with
          | next =>
            obtain ⟨σ6, H6, S6, q6⟩ := hsp
            exact ⟨_, _, S6.unsuite ok, q6⟩
          | brk =>
            obtain ⟨σ6, H6, S6, q6⟩ := hsp
            exact ⟨_, _, S6.unsuite ok, q6⟩
          | cont =>
            obtain ⟨σ6, H6, S6, q6⟩ := hsp
            exact ⟨_, _, S6.unsuite ok, q6⟩
          | ret u =>
            obtain ⟨v6, σ6, H6, S6, r6, q6⟩ := hsp
            exact ⟨_, _, _, S6.unsuite ok, r6, q6⟩
        | false =>
          show wpAny _ X.A (handleBy (.ref a) X.env hds2) _ _ _
          exact ih (hno rfl)
      | @named x n i c ts b₀ suite np pos' hds2 l2 hc hi hln hsu r ih =>
        intro w
        have hloc : Loc X.env.scope n := .inl hln
        obtain ⟨b, hb1, hyes, hno⟩ := w
        refine wpAny_handleBy_cons (codeAny_handlers_test ?_) (by intro q; cases q)
        have LM := PySem.W.exm_one (M := model X.prog X.w) (J3.kIn) LT hb1
        have test : ∀ {Q : Value → Shared → Prop} {E : Value → Shared → Prop}, Q c { s' with heap := h3 } → wpAny (model X.prog X.w) (X.A.mark (some (.ref a))) (eval (.Name x np) X.env) Q E { s' with heap := h3 } := fun {Q E} q => by
          obtain ⟨hg, hdbg, hm | ⟨hm, hv, hnn⟩⟩ := hc
          · exact ld_glob (X := X.suite a ((a, oe3) :: (X.pn ++ pins))) S3 hg hm q hdbg
          · exact ld_blt (X := X.suite a ((a, oe3) :: (X.pn ++ pins))) S3 hg hm hv q hnn hdbg
        refine test (LM.here ?_)
        cases b with
        | true =>
          refine codeAny_handlers_suite_as ?_
          refine HandSPX.lands_againZ fl3 fun h4 fl4 up4 => ?_
          have J4 : Inv X pins σ' H' { s' with heap := h4 } := J.landed nb fl4.1 ((up.trans up3).trans up4) os ag
          obtain ⟨oe4, vs4, he4, hz4, hd4⟩ := fl4.there
          have S4 := J4.suite he4 hd4 na nL nF
          refine store_ok (X := X.suite a ((a, oe4) :: (X.pn ++ pins))) (v := .ref a) S4 hN hi hloc rfl (fun s5 S5 => ?_) (.inr hln)
          refine wpAny_mono ((hsu a oe4 cls d (X.pn ++ pins) hz4 ⟨_, hd4⟩).run [] s5 _ H' _ S5 (hyes rfl a na)) (fun f s6 hsp => ?_) (fun _ _ z => False.elim z)
          have end_ : ∀ {σ6 : St} {H6 : Hp} {Q : Shared → Prop}, Inv (X.suite a ((a, oe4) :: (X.pn ++ pins))) [] σ6 H6 s6 → (∀ s7, Inv X pins (σ6.set i none) H6 s7 → Q s7) →
              wpAny (model X.prog X.w) X.A (do bindName X.env n .none; unbindBehindTheSuite X.env n pos') (fun _ s7 => Q s7) X.xe s6 := fun {σ6 H6 Q} S6 hq => gone_ok (S6.unsuite ok) hN hi hln hq
          cases f with
          | next =>
            obtain ⟨σ6, H6, S6, q6⟩ := hsp
            exact end_ S6 fun s7 J7 => ⟨_, _, J7, q6⟩
          | brk =>
            obtain ⟨σ6, H6, S6, q6⟩ := hsp
            exact end_ S6 fun s7 J7 => ⟨_, _, J7, q6⟩
          | cont =>
            obtain ⟨σ6, H6, S6, q6⟩ := hsp
            exact end_ S6 fun s7 J7 => ⟨_, _, J7, q6⟩
          | ret u =>
            obtain ⟨v6, σ6, H6, S6, r6, q6⟩ := hsp
            exact end_ S6 fun s7 J7 => ⟨_, _, _, J7, r6, q6⟩
        | false =>
          show wpAny _ X.A (handleBy (.ref a) X.env hds2) _ _ _
          exact ih (hno rfl)
    exact go hh w
  · cases f with
    | next =>
      obtain ⟨σ', H', J', q⟩ := hsp
      exact wpAny_execs_nil ⟨σ', H', J'.ofTry ok, q⟩
    | brk =>
      obtain ⟨σ', H', J', q⟩ := hsp
      exact ⟨σ', H', J'.ofTry ok, q⟩
    | cont =>
      obtain ⟨σ', H', J', q⟩ := hsp
      exact ⟨σ', H', J'.ofTry ok, q⟩
    | ret u =>
      obtain ⟨v, σ', H', J', r, q⟩ := hsp
      exact ⟨v, σ', H', J'.ofTry ok, r, q⟩
end
abbrev HdW := (Nat → Option Bool) × Option Nat × (Nat → Addr → Option Addr → WS)
def sufM (o : Option Nat) (P : PJ) : PJ := match o with
  | none => { nx := P.nx, rt := P.rt, bk := P.bk, ct := P.ct }
  | some i => sufJ i P
def stM (o : Option Nat) (m : Nat) (a : Addr) (d : Option Addr) (fs : List D) (S : Sta) : Sta := match o with
  | none => S
  | some i => ⟨S.sl.set i (some (.dat (.err m a d fs))), S.cs⟩
def hdW (x : Exc) (S : Sta) (P : PJ) : List HdW → Prop
  | [] => P.ex x S
  | (mt, o, ws) :: r => match mt x.n with
    | some true => ∀ a d, ws x.n a d (stM o x.n a d x.fs S) (sufM o P)
    | some false => hdW x S P r
    | none => False
def wTryM (l : List HdW) (wb : WS) : WS := fun S P => wb S { P with ex := fun x S' => hdW x S' P l }
inductive HdsJ (X : Cx) (T : Tab) (n : Nat) : List ExceptHandler → List HdW → Prop
  | nil : HdsJ X T n [] []
  | anon {x : Str} {cv : Value} {mt : Nat → Option Bool} {ws : Nat → Addr → Option Addr → WS} {b0 : Stmt} {suite : List Stmt} {np pos' : Pos} {hds : List ExceptHandler} {l : List HdW} (hc : Names X x cv)
      (hmt : ∀ m b, mt m = some b → ∀ C fn, T m = some (C, fn) → PySem.W.exmOne X.K (.ref C) cv = some b)
      (hsu : ∀ (m : Nat) (a : Addr) (oe : Obj) (d : Option Addr) (C : Addr) (fn : List Str) (pn : List (Addr × Obj)), mt m = some true → T m = some (C, fn) → Zc (.ref C) d oe → (∃ vs, oe.data = .fields vs) → JSs (X.suite a ((a, oe) :: pn)) T W0 n (b0 :: suite) (ws m a d)) (r : HdsJ X T n hds l) :
      HdsJ X T n (.ExceptHandler (some (.Name x np)) none (b0 :: suite) pos' :: hds) ((mt, none, ws) :: l)
  | named {x y : Str} {i : Nat} {cv : Value} {mt : Nat → Option Bool} {ws : Nat → Addr → Option Addr → WS} {b0 : Stmt} {suite : List Stmt} {np pos' : Pos} {hds : List ExceptHandler} {l : List HdW} (hc : Names X x cv)
      (hmt : ∀ m b, mt m = some b → ∀ C fn, T m = some (C, fn) → PySem.W.exmOne X.K (.ref C) cv = some b) (hi : X.N[i]? = some y) (hln : X.env.kindOf y = some .local)
      (hsu : ∀ (m : Nat) (a : Addr) (oe : Obj) (d : Option Addr) (C : Addr) (fn : List Str) (pn : List (Addr × Obj)), mt m = some true → T m = some (C, fn) → Zc (.ref C) d oe → (∃ vs, oe.data = .fields vs) → JSs (X.suite a ((a, oe) :: pn)) T W0 n (b0 :: suite) (ws m a d)) (r : HdsJ X T n hds l) :
      HdsJ X T n (.ExceptHandler (some (.Name x np)) (some y) (b0 :: suite) pos' :: hds) ((mt, some i, ws) :: l)
section
variable {X : Cx} {T : Tab} {W : WX} {n : Nat} {body : List Stmt} {h0 : ExceptHandler} {hds : List ExceptHandler} {l : List HdW} {pos : Pos} {wb : WS}
inductive MixOf (X : Cx) (T : Tab) (n : Nat) : List HdW → List Hdl → Prop
  | nil : MixOf X T n [] []
  | cons {mt : Nat → Option Bool} {o : Option Nat} {ws : Nat → Addr → Option Addr → WS} {cv : Value} {l : List HdW} {k : List Hdl} (hmt : ∀ m b, mt m = some b → ∀ C fn, T m = some (C, fn) → PySem.W.exmOne X.K (.ref C) cv = some b) (r : MixOf X T n l k) :
      MixOf X T n ((mt, o, ws) :: l) ((cv, o, fun a cls d D σ H => ∃ m C fn S1 P1, cls = .ref C ∧ mt m = some true ∧ T m = some (C, fn) ∧ ws m a d S1 P1 ∧ tDS T X.K n S1 (P1.to W0) D σ H) :: k)
theorem HdsJ.mix (h : HdsJ X T n hds l) : ∃ k, HdsM X hds k ∧ MixOf X T n l k := by
  induction h with
  | nil => exact ⟨[], .nil, .nil⟩
  | anon hc hmt hsu r ih =>
    obtain ⟨k, h1, h2⟩ := ih
    refine ⟨_, .anon hc (fun a oe cls d pn hz hv => ⟨fun pins s σ H D I z => ?_⟩) h1, .cons hmt h2⟩
    obtain ⟨m, C, fn, S1, P1, rfl, e1, e2, h3, z⟩ := z
    exact (hsu m a oe d C fn pn e1 e2 hz hv S1 P1 h3).run pins s σ H D I z
  | named hc hmt hi hln hsu r ih =>
    obtain ⟨k, h1, h2⟩ := ih
    refine ⟨_, .named hc hi hln (fun a oe cls d pn hz hv => ⟨fun pins s σ H D I z => ?_⟩) h1, .cons hmt h2⟩
    obtain ⟨m, C, fn, S1, P1, rfl, e1, e2, h3, z⟩ := z
    exact (hsu m a oe d C fn pn e1 e2 hz hv S1 P1 h3).run pins s σ H D I z
theorem js_tryM (tk : Takes X W) (hN : X.N.Nodup)
    (hb : ∀ (V : WX) (pn : List (Addr × Obj)) (xe : Value → Shared → Prop), Takes (X.tr pn xe) V → PassesOwn (model X.prog X.w) X.A X.env xe → JSs (X.tr pn xe) T V n body wb)
    (hh : HdsJ X T n (h0 :: hds) l) (hs : X.stack = X.env :: X.outer := by rfl) (hf : X.env.frame = some X.env.locals := by rfl) : JS X T W n (.Try body (h0 :: hds) [] [] pos) (wTryM l wb) := fun S P h => by
  obtain ⟨k, hk, hm⟩ := hh.mix
  let tb : WX → TS := fun V D σ H => ∃ S1 P1, wb S1 P1 ∧ tDS T X.K n S1 (P1.to V) D σ H
  have hb' : ∀ (V : WX) (pn : List (Addr × Obj)) (xe : Value → Shared → Prop), Takes (X.tr pn xe) V → PassesOwn (model X.prog X.w) X.A X.env xe → PSs (X.tr pn xe) body (tb V) := fun V pn xe t po => ⟨fun pins s σ H D I z => by
    obtain ⟨S1, P1, h1, z⟩ := z
    exact (hb V pn xe t po S1 P1 h1).run pins s σ H D I z⟩
  refine weakS (ps_try_mix (tb := tb) hs hf hN tk hb' hk) fun D σ H ⟨ad, F, hn, h0', q1, q2, q3, q4, q5⟩ => ?_
  refine ⟨S, _, h, ad, F, hn, h0', q1, q2, q3, q4, ?_⟩
  intro x0 S2 cls d σ' H' ad' x' hn' h' er hx
  obtain ⟨C, fn, e1, e2, er'⟩ := id er
  have hx : hdW x0 S2 P l := hx
  show wMix X.K W D k cls d σ' H'
  clear hk hh h
  induction hm with
  | nil => exact q5 x0 S2 cls d σ' H' ad' x' hn' h' er hx
  | @cons mt o ws cv l k hmt r ih =>
    have hx : match mt x0.n with
      | some true => ∀ a d, ws x0.n a d (stM o x0.n a d x0.fs S2) (sufM o P)
      | some false => hdW x0 S2 P l
      | none => False := hx
    split at hx
    · rename_i hm
      refine ⟨true, by rw [e2]; exact hmt _ _ hm C fn e1, fun _ a na => ⟨x0.n, C, fn, _, sufM o P, e2, hm, e1, hx a d, ?_⟩, fun z => nomatch z⟩
      have rp : Rep T X.K (Mm ad' F) H' (.ref a) (.err x0.n a d x0.fs) := by
        rcases er' with ⟨f1, f2, f3⟩ | ⟨dd, vs, a1, a2, a3, a4, a5⟩
        · rw [f2, f3]
          subst f1
          exact .err (vs := []) e1 (.inl ⟨rfl, rfl, rfl⟩) .nil
        · exact .err e1 (.inr ⟨dd, a1, a2, a3, a4⟩) a5
      cases o with
      | none =>
        refine ⟨ad', F, hn', h', ?_, ?_, ?_, ?_, fun _ _ _ _ _ _ _ _ _ _ _ z => z.elim⟩
        · exact fun S3 σ3 H3 ad3 x3 hn3 h3 p => q1 _ _ H3 ad3 (x'.trans x3) hn3 h3 p
        · exact fun s cs3 v H3 ad3 x3 hn3 c3 r3 p => q2 s cs3 v H3 ad3 (x'.trans x3) hn3 c3 r3 p
        · exact fun S3 σ3 H3 ad3 x3 hn3 h3 p => q3 _ _ H3 ad3 (x'.trans x3) hn3 h3 p
        · exact fun S3 σ3 H3 ad3 x3 hn3 h3 p => q4 _ _ H3 ad3 (x'.trans x3) hn3 h3 p
      | some i =>
        have hh := h'.set (s := .dat (.err x0.n a d x0.fs)) rp i
        refine ⟨ad', F, hn', hh, ?_, ?_, ?_, ?_, fun _ _ _ _ _ _ _ _ _ _ _ z => z.elim⟩
        · exact fun S3 σ3 H3 ad3 x3 hn3 h3 p => q1 _ _ H3 ad3 (x'.trans x3) hn3 (h3.unset i) p
        · exact fun s cs3 v H3 ad3 x3 hn3 c3 r3 p => q2 s cs3 v H3 ad3 (x'.trans x3) hn3 c3 r3 p
        · exact fun S3 σ3 H3 ad3 x3 hn3 h3 p => q3 _ _ H3 ad3 (x'.trans x3) hn3 (h3.unset i) p
        · exact fun S3 σ3 H3 ad3 x3 hn3 h3 p => q4 _ _ H3 ad3 (x'.trans x3) hn3 (h3.unset i) p
    · rename_i hm
      exact ⟨false, by rw [e2]; exact hmt _ _ hm C fn e1, (fun z => nomatch z), fun _ => ih hx hx⟩
    · exact hx.elim
end
end Dl
namespace Dl
open PySem L2
section
variable {X : Cx} {T : Tab} {W : WX} {a b c : Expr} {pos : Pos} {wa wb wc : WpE} {op op' : CmpOp} {v1 v2 : W2}
end
section
variable {X : Cx} {CX : CXT} {T : Tab} {W : WX} {a b : Expr} {pos : Pos} {wa wb : WpE} {ta tb : TE} {C g : Addr} {fd : FuncData} {ps : List Str} {k cn : Nat} {sp : Sp} {E : St → XK} {c : Ct} {cx : CtX} {fn : List Str}
end
end Dl
namespace Dl
open PySem L2
section
open PySem.SeqAt
open AutoSeq1 (wpAny_loadPart')
open MeetsSeq MeetsSeq2 MeetsSeq3 SeqRoads2
variable {prog : Program} {w : World} {A : Around} {R : Result → Shared → Prop}
variable {E : Value → Shared → Prop} {s : Shared}
end
section
variable {X : Cx} {T : Tab} {C g : Addr} {fd : FuncData} {ps : List Str} {k n m : Nat} {c : Ct} {fn : List Str} {E : D → D → Bool → Prop}
end
end Dl
namespace Dl
open PySem L2
section
open PySem.Spec
open PyProof.Rows hiding St
end
section
variable {X : Cx} {T : Tab} {ds : List D} {cs : List Cell}
end
end Dl
namespace Dl
open PySem L2 PySem.Spec
open PyProof.Rows hiding St
section
open PySem.W
variable {prog : Program} {w : World} {A : Around} {E : Value → Shared → Prop} {s : Shared} {env : Env} {elts : List Expr} {k : Nat} {pos : Pos}
end
section
variable {X : Cx} {x y : Str} {p1 p2 p3 p4 pos : Pos} {i j k : Nat}
end
end Dl
namespace Dl
open PySem L2
section
variable {X : Cx} {T : Tab} {W : WX} {a b : Expr} {rest : List Expr} {pos : Pos} {wa wb : WpE}
end
end Dl
namespace Dl
open PySem L2
section
variable {X : Cx} {T : Tab}
theorem call_reprS : CallR X (.builtin "repr") (fun xs H Q => ∃ a, xs = [.str a] ∧ (PySem.reprText a).length ≤ sizeLine ∧ Q (.str (PySem.reprText a)) H) := by
  intro pins s σ H xs us Q I r h
  obtain ⟨a, rfl, hz, q⟩ := h
  obtain ⟨u, rfl, t, rfl⟩ := vals1 r
  exact PySem.P.repr_of_str ⟨.str _, H, I.tok _, ⟨_, rfl⟩, q⟩ hz
theorem cb_reprS {x : Str} {cs : List Cell} (hl : (PySem.reprText x).length ≤ sizeLine) : CalB X T "repr" [.dat (.str x)] cs (.dat (.str (PySem.reprText x))) cs := ⟨_, _, by decide +kernel, .inl ⟨_, rfl⟩, call_reprS, fun ad F H vs Q c r q => by
  match vs, r with
  | [v], r =>
    have r1 := r.1
    cases r1
    exact ⟨x, rfl, hl, q _ H ad .refl c Rep.str⟩⟩
def reprW3 : WC := fun ss cs R => match ss with
  | [.dat (.str x)] => (PySem.reprText x).length ≤ sizeLine ∧ R (.dat (.str (PySem.reprText x))) cs
  | ss => reprW2 ss cs R
theorem jc_repr3 (hG : X.A.guards = some []) (hu : X.A.units + 64 < cLine) : JCall X T "repr" reprW3 := ⟨⟨.builtin "repr", by decide +kernel, .inl ⟨_, rfl⟩⟩, fun ss cs R h => by
  unfold reprW3 at h
  split at h
  · exact ⟨_, _, cb_reprS h.1, h.2⟩
  · exact (jc_repr2 hG hu).run _ _ _ h⟩
end
end Dl
namespace Dl
open PySem L2
section
variable {X : Cx} {T : Tab} {W : WX} {e : Expr} {es fs : List Expr} {lp cp : Pos} {wA wB : WpA}
end
end Dl
namespace Dl
open PySem L2
section
variable {X : Cx} {T : Tab} {W : WX} {e e2 : Expr} {wA : WpA} {pos p tpos : Pos} {elts : List Expr} {kk : Nat}
end
end Dl
namespace Dl
open PySem L2
section
variable {X : Cx} {T : Tab}
variable {d : D} {ds : List D} {cs : List Cell}
def okI (d : D) (ds : List D) : Prop := (d.plain = true ∧ D.plains ds = true) ∧ d.py.plain = true ∧ PyData.plainAll (D.pys ds) = true ∧ d.py.depth ≤ 60
end
end Dl
namespace Dl
open PySem L2
section
variable {X : Cx} {T : Tab} {W : WX} {e : Expr} {wa : WpE} {pos p1 p2 p3 : Pos} {k : Nat}
end
end Dl
namespace Dl
open PySem L2
section
variable {T : Tab} {P : Program} {w : World} {K : PySem.W.Frag} {mg : Str → Option Value} {base : Heap} {x qual : Str} {st : Stmt} {f : Addr} {fd : FuncData} {N ps : List Str} {k : Nat} {ws : Nat → WS} {c : Ct} {cx : CtX}
end
section
variable {X : Cx} {T : Tab} {W : WX} {e : Expr} {es : List Expr} {kws : List Keyword} {pos p : Pos} {wA wK : WpA} {c : Ct} {cx : CtX} {k pn : Nat} {f : Addr} {fd : FuncData} {ps ks : List Str} {y : Str} {C g : Addr} {fn : List Str} {cn : Nat} {gV : List V → List V → List V} {fu : List D → List D → List D}
end
section
variable {X : Cx} {C fI : Addr} {k : Nat} {fd : FuncData} {f g : Str} {pins : List (Addr × Obj)} {σ : St} {H : Hp} {s : Shared} {Q : XK} {u : Value} {v : V}
end
section
variable {X : Cx} {T : Tab} {W : WX} {n m k : Nat} {e : Expr} {te : TE} {pos pos2 p : Pos} {x f g : Str} {C fI : Addr} {fd : FuncData} {w : WpE}
end
section
variable {P : Program} {w : World} {K : PySem.W.Frag} {mg : Str → Option Value} {base : Heap} {x qual : Str} {st : Stmt} {f : Addr} {fd : FuncData} {N ps : List Str} {k : Nat} {sp : Sp}
end
end Dl
namespace Dl
open PySem L2
abbrev blkE (X : Cx) (s : Shared) (H : Hp) (scope : Scope) (ce : Env) (fp : List Addr) (E : Value → Shared → Prop) : Cx := (X.blk s H scope ce fp).wish E
section
variable {X : Cx} {W : WX} {pins pins' : List (Addr × Obj)} {σ σ' : St} {H3 H' : Hp} {s3 s s' : Shared} {scope : Scope} {ce : Env} {fp : List Addr} {u : Value}
end
section
variable {B : Cx} {elt tg iter : Expr} {ifs : List Expr} {scope : Scope} {pos : Pos} {g : TG} {tt : TT} {te : TE} {fp : List Addr} {it D : Addr} {J : It} {tn : Nat → Heap → Prop} {σb : St} {vs : List Nat} {R : Result → Shared → Prop} {Qe : Hp → Prop}
end
section
variable {X : Cx} {W : WX} {elt tg iter : Expr} {ifs : List Expr} {scope : Scope} {own : List (Str × Nat)} {pos : Pos} {wi : TI} {g : TG} {tt : TT} {te : St → TE}
end
end Dl
namespace Dl
open PySem L2
section
variable {T : Tab} {K : PySem.W.Frag} {W : WX} {p : Pat} {wi : WpI} {wt : WpT} {we : WpE} {own : List Nat}
end
section
variable {X : Cx} {T : Tab} {W : WX} {elt tg iter : Expr} {ifs : List Expr} {scope : Scope} {own : List (Str × Nat)} {p : Pat} {wi : WpI} {wt : WpT} {we : WpE} {pos : Pos}
structure JLCX (X : Cx) (T : Tab) (W : WX) (elt tg iter : Expr) (ifs : List Expr) (scope : Scope) (own : List (Str × Nat)) (wi : WpI) (p : Pat) (wt : WpT) (we : WpE) : Prop where
  hi : JI X T W tg iter wi
  ok : BlkOk X.N X.env.scope scope own
  hg : InB X scope fun X' => DG X' T tg p
  ht : InB X scope fun X' => JTs X' T W0 ifs wt
  he : ∀ (σ0 : St) (s : Shared) (H : Hp) (C : Addr) (cl : List (Str × Addr)) (fp : List Addr) (E : Value → Shared → Prop), (∀ σ, PassesAt (L2N.CX X.prog X.w) (blkE X s H scope (compEnvC scope cl C X.env) fp E) σ (WE (fun cls d _ H => W cls d σ0 H) σ)) →
    JE (blkE X s H scope (compEnvC scope cl C X.env) fp E) T (fun cls d _ H => W cls d σ0 H) elt we
  hp : ∀ i ∈ slotsP p, i ∈ own.map (·.2)
end
end Dl
namespace Dl
open PySem L2
section
variable {X : Cx} {T : Tab} {W : WX} {n : Nat} {o e a b i j o1 o2 : Expr} {es : List Expr} {wo we wi wj wo1 wo2 : WpE} {wA : WpA} {pos apos p p1 p2 kp : Pos}
end
end Dl
namespace Dl
open PySem L2 PySem.Spec
open PyProof.Rows hiding St
section
open PySem.W
variable {prog : Program} {w : World} {A : Around} {E : Value → Shared → Prop} {s : Shared}
end
section
variable {X : Cx} {x y : Str} {p1 p2 p3 p4 pos : Pos} {i j k : Nat}
end
section
end
end Dl
namespace Dl
open PySem L2
section
variable {X : Cx} {T : Tab} {d : D} {ds : List D} {cs : List Cell}
end
end Dl
namespace Dl
open PySem L2
def vwC : Cell → Cell
  | .lstA _ ds => .lst ds
  | .dctA _ kvs => .dct kvs
  | .insA _ n fs => .ins n fs
  | c => c
def reC : Cell → Cell → Cell
  | .lstA p _, .lst ds => .lstA p ds
  | .dctA p _, .dct kvs => .dctA p kvs
  | .insA p _ _, .ins n fs => .insA p n fs
  | _, c => c
def rew : List Cell → List Cell → List Cell
  | c :: cs, d :: ds => reC c d :: rew cs ds
  | _, ds => ds
def adrC : Cell → Option Addr
  | .lstA p _ => some p
  | .dctA p _ => some p
  | .insA p _ _ => some p
  | .exA p _ _ => some p
  | _ => none
section
variable {T : Tab} {K : PySem.W.Frag} {M M' : Addr → Prop} {H H' : Hp} {a p : Addr} {c d : Cell} {cs ds : List Cell} {ad ad' : List Addr} {F : Addr → Prop} {k j : Nat} {s s' : Sl} {v : V}
theorem rew_len : ∀ {cs ds : List Cell}, (rew cs ds).length = ds.length
  | [], _ => by unfold rew; rfl
  | _ :: _, [] => rfl
  | c :: cs, d :: ds => by
    show (rew cs ds).length + 1 = ds.length + 1
    rw [rew_len]
theorem rew_at : ∀ {cs ds : List Cell} {k : Nat} {d : Cell}, ds[k]? = some d → (rew cs ds)[k]? = some (match cs[k]? with | some c => reC c d | none => d)
  | [], ds, k, d, h => by unfold rew; simpa using h
  | _ :: _, [], k, d, h => by simp at h
  | c :: cs, e :: ds, 0, d, h => by
    have h : e = d := by simpa using h
    rw [h]
    rfl
  | c :: cs, e :: ds, k + 1, d, h => by
    have := rew_at (cs := cs) (ds := ds) (k := k) (d := d) (by simpa using h)
    show (rew cs ds)[k]? = _
    rw [this]
    simp
theorem CellAt.vw (h : CellAt T K M H a c) : CellAt T K M H a (vwC c) := by
  cases c with
  | lstA p ds => obtain ⟨vs, h, _⟩ := h; exact ⟨vs, h⟩
  | dctA p kvs => obtain ⟨vs, h, _⟩ := h; exact ⟨vs, h⟩
  | insA p n fs => obtain ⟨C, fn, dx, vs, h, _⟩ := h; exact ⟨C, fn, dx, vs, h⟩
  | exA _ _ _ => exact h
  | lst _ => exact h
  | dct _ => exact h
  | ins _ _ => exact h
  | dcn _ => exact h
theorem CellAt.adr (h : CellAt T K M H a c) (e : adrC c = Option.some p) : p = a := by
  cases c with
  | lstA q ds => cases e; obtain ⟨_, _, h⟩ := h; exact h
  | dctA q kvs => cases e; obtain ⟨_, _, h⟩ := h; exact h
  | insA q n fs => cases e; obtain ⟨_, _, _, _, _, h⟩ := h; exact h
  | exA q n fs => cases e; obtain ⟨_, _, _, _, _, h⟩ := h; exact h
  | lst _ => cases e
  | dct _ => cases e
  | ins _ _ => cases e
  | dcn _ => cases e
theorem CellAt.re (h : CellAt T K M H a c) (h' : CellAt T K M' H' a d) : CellAt T K M' H' a (reC c d) := by
  cases c with
  | lstA q ds =>
    cases d with
    | lst _ => obtain ⟨vs, g⟩ := h'; exact ⟨vs, g, h.adr rfl⟩
    | dct _ => exact h'
    | ins _ _ => exact h'
    | dcn _ => exact h'
    | lstA _ _ => exact h'
    | dctA _ _ => exact h'
    | insA _ _ _ => exact h'
    | exA _ _ _ => exact h'
  | dctA q kvs =>
    cases d with
    | dct _ => obtain ⟨vs, g⟩ := h'; exact ⟨vs, g, h.adr rfl⟩
    | lst _ => exact h'
    | ins _ _ => exact h'
    | dcn _ => exact h'
    | lstA _ _ => exact h'
    | dctA _ _ => exact h'
    | insA _ _ _ => exact h'
    | exA _ _ _ => exact h'
  | insA q n fs =>
    cases d with
    | ins _ _ => obtain ⟨C, fn, dx, vs, g⟩ := h'; exact ⟨C, fn, dx, vs, g, h.adr rfl⟩
    | dct _ => exact h'
    | lst _ => exact h'
    | dcn _ => exact h'
    | lstA _ _ => exact h'
    | dctA _ _ => exact h'
    | insA _ _ _ => exact h'
    | exA _ _ _ => exact h'
  | exA _ _ _ => exact h'
  | lst _ => exact h'
  | dct _ => exact h'
  | ins _ _ => exact h'
  | dcn _ => exact h'
theorem HoldC.vw (h : HoldC T K ad F H cs) : HoldC T K ad F H (cs.map vwC) := ⟨h.nd, h.fr, h.al, h.tb, by rw [List.length_map]; exact h.ln, fun k a c h1 h2 => by
  rw [List.getElem?_map] at h2
  cases e : cs[k]? with
  | none => rw [e] at h2; cases h2
  | some c0 =>
    rw [e] at h2
    cases h2
    exact (h.ce k a c0 h1 e).vw⟩
theorem HoldC.re (h : HoldC T K ad F H cs) (x : Ext ad F H ad' H') (h' : HoldC T K ad' F H' ds) : HoldC T K ad' F H' (rew cs ds) := ⟨h'.nd, h'.fr, h'.al, h'.tb, by rw [rew_len]; exact h'.ln, fun k a c h1 h2 => by
  obtain ⟨t, ht, _⟩ := x.pre
  have kl : k < ds.length := by rw [← h'.ln]; exact (List.getElem?_eq_some_iff.mp h1).1
  have e1 : ds[k]? = some ds[k] := List.getElem?_eq_getElem kl
  rw [rew_at e1] at h2
  have c1 := h'.ce k a _ h1 e1
  cases e : cs[k]? with
  | none =>
    rw [e] at h2
    cases h2
    exact c1
  | some c0 =>
    rw [e] at h2
    cases h2
    have k0 : k < ad.length := by rw [h.ln]; exact (List.getElem?_eq_some_iff.mp e).1
    rw [ht, List.getElem?_append_left k0] at h1
    exact (h.ce k a c0 h1 e).re c1⟩
inductive DeR (cs : List Cell) : Sl → Sl → Prop
  | id {s : Sl} : DeR cs s s
  | de {p : Addr} {j : Nat} {c : Cell} : cs[j]? = some c → adrC c = some p → DeR cs (.dat (.cls p)) (.cel j)
theorem SlRep.de (h : HoldC T K ad F H cs) (r : SlRep T K ad F H v s) (e : DeR cs s s') : SlRep T K ad F H v s' := by
  cases e with
  | id => exact r
  | de h1 h2 =>
    rename_i p j c
    have r : Rep T K (Mm ad F) H v (.cls p) := r
    cases r
    have jl : j < ad.length := by rw [h.ln]; exact (List.getElem?_eq_some_iff.mp h1).1
    have e := List.getElem?_eq_getElem jl
    exact ⟨_, e, congrArg V.ref ((h.ce j _ c e h1).adr h2)⟩
inductive DeRs (cs : List Cell) : List Sl → List Sl → Prop
  | nil : DeRs cs [] []
  | cons {s s' : Sl} {ss ss' : List Sl} : DeR cs s s' → DeRs cs ss ss' → DeRs cs (s :: ss) (s' :: ss')
theorem SlReps.de (h : HoldC T K ad F H cs) : ∀ {vs : List V} {ss ss' : List Sl}, SlReps T K ad F H vs ss → DeRs cs ss ss' → SlReps T K ad F H vs ss'
  | [], [], _, _, .nil => trivial
  | _ :: _, _ :: _, _, r, .cons e es => ⟨r.1.de h e, SlReps.de h r.2 es⟩
theorem R2D.li {r : R2} {s1 s2 s1' s2' s : Sl} (e1 : DeR cs s1 s1') (e2 : DeR cs s2 s2') (h : R2D T K r s1' s2' (cs.map vwC) s ds) : R2D T K r s1 s2 cs s (rew cs ds) := fun ad F H v w Q hc r1 r2 q =>
  h ad F H v w Q hc.vw (r1.de hc e1) (r2.de hc e2) fun z H' ad' x k rz => q z H' ad' x (hc.re x k) rz
theorem R1.li {r : V → Hp → VK → Prop} {s1 s1' s : Sl} (e1 : DeR cs s1 s1') (h : R1 T K r s1' (cs.map vwC) s ds) : R1 T K r s1 cs s (rew cs ds) := fun ad F H v Q hc r1 q =>
  h ad F H v Q hc.vw (r1.de hc e1) fun z H' ad' x k rz => q z H' ad' x (hc.re x k) rz
def liW2 (o : W2) : W2 := fun s1 s2 cs R => ∃ s1' s2', DeR cs s1 s1' ∧ DeR cs s2 s2' ∧ o s1' s2' (cs.map vwC) fun s c => R s (rew cs c)
def liW1 (o : W1) : W1 := fun s1 cs R => ∃ s1', DeR cs s1 s1' ∧ o s1' (cs.map vwC) fun s c => R s (rew cs c)
def liWC (o : WC) : WC := fun ss cs R => ∃ ss', DeRs cs ss ss' ∧ o ss' (cs.map vwC) fun s c => R s (rew cs c)
end
section
variable {X : Cx} {T : Tab} {op : Operator} {cop : CmpOp} {uop : UnaryOp} {w : W2}
theorem jb_li (h : JBin X T op w) : JBin X T op (liW2 w) := fun s1 s2 cs R ⟨s1', s2', e1, e2, hw⟩ => by
  obtain ⟨s, c, ⟨r, o, q⟩, hR⟩ := h _ _ _ _ hw
  exact ⟨s, _, ⟨r, o, R2D.li e1 e2 q⟩, hR⟩
theorem jc_li (h : JCmp X T cop w) : JCmp X T cop (liW2 w) := fun s1 s2 cs R ⟨s1', s2', e1, e2, hw⟩ => by
  obtain ⟨s, c, ⟨r, o, q⟩, hR⟩ := h _ _ _ _ hw
  exact ⟨s, _, ⟨r, o, R2D.li e1 e2 q⟩, hR⟩
theorem ji_li (h : JIx X T w) : JIx X T (liW2 w) := fun s1 s2 cs R ⟨s1', s2', e1, e2, hw⟩ => by
  obtain ⟨s, c, ⟨r, o, q⟩, hR⟩ := h _ _ _ _ hw
  exact ⟨s, _, ⟨r, o, R2D.li e1 e2 q⟩, hR⟩
theorem RCD.li {r : List V → Hp → VK → Prop} {ss ss' : List Sl} {s : Sl} {cs ds : List Cell} {K : PySem.W.Frag} (e : DeRs cs ss ss') (h : RCD T K r ss' (cs.map vwC) s ds) : RCD T K r ss cs s (rew cs ds) := fun ad F H vs Q hc rr q =>
  h ad F H vs Q hc.vw (rr.de hc e) fun z H' ad' x k rz => q z H' ad' x (hc.re x k) rz
theorem jk_li {x : Str} {w : WC} (h : JCall X T x w) : JCall X T x (liWC w) := ⟨h.bo, fun ss cs R ⟨ss', e, hw⟩ => by
  obtain ⟨s, c, ⟨u, r, b1, b2, o, q⟩, hR⟩ := h.run _ _ _ hw
  exact ⟨s, _, ⟨u, r, b1, b2, o, RCD.li e q⟩, hR⟩⟩
end
end Dl
namespace Dl
open PySem L2
abbrev CtG := List Sl → List Cell → RV → Prop
def spG (T : Tab) (K : PySem.W.Frag) (c : CtG) : Sp := fun vs H Q _ => ∃ ad F args cs R, HoldC T K ad F H cs ∧ SlReps T K ad F H vs args ∧ c args cs R ∧
  ∀ s cs' v H' ad', R s cs' → ExtS cs.length ad F H ad' H' → cs.length ≤ ad'.length → HoldC T K ad' F H' cs' → SlRep T K ad' F H' v s → Q v H'
abbrev endG (R : RV) : PJ := { nx := fun S => R (.dat .non) S.cs, rt := R }
def cgOf (N ps : List Str) (ws : Nat → WS) : CtG := fun args cs R => args.length = ps.length ∧ ws cs.length (st0 N args cs) (endG R)
section
variable {T : Tab} {P : Program} {w : World} {K : PySem.W.Frag} {mg : Str → Option Value} {base : Heap} {x qual : Str} {st : Stmt} {f : Addr} {fd : FuncData} {N ps : List Str} {k : Nat} {ws : Nat → WS}
theorem lenG {c : Nat → WS} {vs : List V} {H : Hp} {Q : VK} {E : XK} (h : spG T K (cgOf N ps c) vs H Q E) : vs.length = ps.length := by
  obtain ⟨ad, F', args, cs, R, _, r, hc, _⟩ := h
  rw [r.len, hc.1]
theorem fn_G (F : Fun K x qual st f fd) (Sc : FnScope N ps (defScope st))
    (body : ∀ cdv A outer sh H E, Room k (cx0 P w K mg base N qual st f cdv A outer sh H E).A → ∀ n, JSs (cx0 P w K mg base N qual st f cdv A outer sh H E) T W0 n (defBody st) (ws n)) : FnOk P w K mg base CX0 (k + 1) f fd ps (spG T K (cgOf N ps ws)) := by
  refine F.ok Sc (fun vs H Q E h => lenG h) (fun cdv A outer s H vs Q E hr h => ?_)
  obtain ⟨ad, F', args, cs, R, hc, r, ⟨_, h⟩, q⟩ := h
  refine ⟨_, body cdv A outer s H E hr cs.length _ _ h, ad, F', Nat.le_of_eq hc.ln.symm, start_hold hc r, ?_, ?_, fun _ _ _ _ _ _ _ z => z.elim, fun _ _ _ _ _ _ _ z => z.elim, fun _ _ _ _ _ _ _ _ _ _ _ z => z.elim⟩
  · exact fun S' σ' H' ad' x hn h' hR => q _ _ .non H' ad' hR x hn h'.hc Rep.non
  · exact fun s2 cs2 v H' ad' x hn c2 r2 hR => q _ _ v H' ad' hR x hn c2 r2
theorem ExtS.ext {ad ad' : List Addr} {F : Addr → Prop} {H H' : Hp} {cs cs' : List Cell} (h : HoldC T K ad F H cs) (x : ExtS cs.length ad F H ad' H') (h' : HoldC T K ad' F H' cs') : Ext ad F H ad' H' := by
  have e : ad'.take ad.length = ad := by
    have := x.pre
    rw [← h.ln, List.take_length] at this
    exact this
  have e2 : ad' = ad ++ ad'.drop ad.length := by
    have := List.take_append_drop ad.length ad'
    rw [e] at this
    exact this.symm
  refine ⟨⟨ad'.drop ad.length, e2, fun a ha => ?_⟩, x.keep, x.frm⟩
  have nd := h'.nd
  rw [e2, List.nodup_append] at nd
  rcases x.sub a (List.mem_of_mem_drop ha) with z | z
  · exact absurd rfl (nd.2.2 a z a ha)
  · exact z
theorem callG_then {c : CtG} {ad : List Addr} {F : Addr → Prop} {H : Hp} {cs : List Cell} {vs : List V} {ss : List Sl} {R : RV} {Q : VK} {E : XK} (h : HoldC T K ad F H cs) (r : SlReps T K ad F H vs ss) (hw : c ss cs R)
    (q : ∀ s c' v H' ad', R s c' → Ext ad F H ad' H' → HoldC T K ad' F H' c' → SlRep T K ad' F H' v s → Q v H') : spG T K c vs H Q E :=
  ⟨ad, F, ss, cs, R, h, r, hw, fun s cs' v H' ad' hR x hn h' r' => q s cs' v H' ad' hR (ExtS.ext h x h') h' r'⟩
end
section
variable {X : Cx} {T : Tab} {W : WX} {n : Nat} {e : Expr} {es : List Expr} {pos p : Pos} {w : WpE} {wA : WpA} {c : CtG} {k : Nat} {f : Addr} {fd : FuncData} {ps : List Str} {y : Str}
def wRetG (w : WpE) : WS := fun S P => w S.sl S.cs (fun s c => P.rt s c) (fun x c => P.ex x ⟨S.sl, c⟩)
theorem js_retG (he : JE X T W e w) : JS X T W n (.Return (some e) pos) (wRetG w) := fun S P h =>
  weakS (ps_ret he) fun D σ H ⟨ad, F, hn, h0, q1, q2, q3, q4, q5⟩ => ⟨ad, F, S.sl, S.cs, _, _, h0, h, fun s c v H1 ad1 hR x1 h1 r1 => q2 s c v H1 ad1 (x1.s hn) (x1.le hn) h1.hc r1 hR, raz_of hn q5⟩
def wFnG (c : CtG) (wA : WpA) : WpE := fun sl cs R Rx => wA sl cs (fun ss c1 => c ss c1 R) Rx
theorem je_callHp (G : FnOk X.prog X.w X.K X.mg X.base CX0 k f fd ps (spG T X.K c)) (hr : Room k X.A) (hm : X.mg y = some (.ref f)) (hk : PySem.W.keepIn X.K (.ref f) = true) (hb : Binds X.K fd ps []) (ha : JA X T W (e :: es) wA) (hg : Gl X y := by rfl) (hdb : (y == ("__debug__" : Str)) = false := by decide)
    (he : starEach (e :: es) X.env = (false, eval e X.env) :: starEach es X.env := by rfl) (hpl : (backTo pos (starEach es X.env)).any (·.1) = false := by rfl) : JE X T W (.Call (.Name y p) (e :: es) [] pos) (wFnG c wA) :=
  weak (pe_call G hr hg hm hk hb .nil pass0 ha hdb he hpl) fun σ H Q ⟨ad, F, sl, cs, R, Rx, h0, hw, q, qx⟩ => ⟨ad, F, sl, cs, _, Rx, h0, hw, fun ss c1 vs H1 ad1 hw1 x1 h1 r1 => by
    show spG T X.K c (vs ++ []) H1 Q E0
    rw [List.append_nil]
    exact callG_then h1.hc r1 hw1 fun s c' v H' ad' hR x2 c2 r2 => q s c' v H' ad' hR (x1.trans h1.hc x2) (h1.to x2 c2) r2, qx⟩
def tgC (p : Addr) : Cell → Cell
  | .lst ds => .lstA p ds
  | .dct kvs => .dctA p kvs
  | .ins n fs => .insA p n fs
  | c => c
theorem CellAt.tg {K : PySem.W.Frag} {M : Addr → Prop} {H : Hp} {a : Addr} {c : Cell} (h : CellAt T K M H a c) : CellAt T K M H a (tgC a c) := by
  cases c with
  | lst ds => obtain ⟨vs, h⟩ := h; exact ⟨vs, h, rfl⟩
  | dct kvs => obtain ⟨vs, h⟩ := h; exact ⟨vs, h, rfl⟩
  | ins n fs => obtain ⟨C, fn, dx, vs, h⟩ := h; exact ⟨C, fn, dx, vs, h, rfl⟩
  | lstA _ _ => exact h
  | dctA _ _ => exact h
  | insA _ _ _ => exact h
  | exA _ _ _ => exact h
  | dcn _ => exact h
theorem HoldC.tg {K : PySem.W.Frag} {ad : List Addr} {F : Addr → Prop} {H : Hp} {cs : List Cell} {j : Nat} {a : Addr} {c : Cell} (h : HoldC T K ad F H cs) (ha : ad[j]? = some a) (hc : cs[j]? = some c) : HoldC T K ad F H (cs.set j (tgC a c)) := ⟨h.nd, h.fr, h.al, h.tb, by rw [List.length_set]; exact h.ln, fun k b d h1 h2 => by
  by_cases e : j = k
  · subst e
    rw [ha] at h1
    cases h1
    rw [List.getElem?_set_self (List.getElem?_eq_some_iff.mp hc).1] at h2
    cases h2
    exact (h.ce j a c ha hc).tg
  · rw [List.getElem?_set_ne e] at h2
    exact h.ce k b d h1 h2⟩
def tagW (s : Sl) (cs : List Cell) (R : RV) : Prop := match s with
  | .cel j => match cs[j]? with
    | some c => ∀ p : Addr, R (.dat (.cls p)) (cs.set j (tgC p c))
    | none => False
  | .dat d => R (.dat d) cs
def wTag (w : WpE) : WpE := fun sl cs R Rx => w sl cs (fun s c => tagW s c R) Rx
theorem je_tag (h : JE X T W e w) : JE X T W e (wTag w) := weak h fun σ H Q ⟨ad, F, sl, cs, R, Rx, h0, hw, q, qx⟩ => ⟨ad, F, sl, cs, _, Rx, h0, hw, fun s c v H1 ad1 hR x1 h1 r1 => by
  unfold tagW at hR
  split at hR
  · split at hR
    · rename_i j c0 e0
      obtain ⟨a, ha, rfl⟩ := r1
      exact q _ _ (.ref a) H1 ad1 (hR a) x1 ⟨h1.hc.tg ha e0, h1.sz, h1.sl⟩ Rep.cls
    · exact hR.elim
  · exact q _ _ v H1 ad1 hR x1 h1 r1, qx⟩
end
end Dl
namespace Dl
open PySem L2
section
variable {T : Tab} {K : PySem.W.Frag} {ad : List Addr} {F : Addr → Prop} {H : Hp} {cs : List Cell} {j cn : Nat} {p C : Addr} {fn : List Str} {fs : List (Str × D)} {v : V} {s : Sl}
theorem HoldC.insA (h : HoldC T K ad F H cs) (hT : T cn = some (C, fn)) (hc : cs[j]? = some (.insA p cn fs)) : ∃ dx vs, ad[j]? = some p ∧ H p = some (.ins C dx ((fs.map (·.1)).zip vs)) ∧ vs.length = fs.length ∧ Reps T K (Mm ad F) H vs (fs.map (·.2)) := by
  have jl : j < ad.length := by rw [h.ln]; exact (List.getElem?_eq_some_iff.mp hc).1
  have e := List.getElem?_eq_getElem jl
  obtain ⟨C', fn', dx, vs, ⟨ht, e1, hl, r⟩, e2⟩ := h.ce j _ _ e hc
  rw [hT] at ht
  cases ht
  rw [← e2] at e e1
  exact ⟨dx, vs, e, e1, hl, r⟩
def putA (f : Str) (d : D) : List (Str × D) → List (Str × D)
  | [] => [(f, d)]
  | (g, x) :: r => if g = f then (g, d) :: r else (g, x) :: putA f d r
end
section
variable {X : Cx} {T : Tab} {W : WX} {n : Nat} {e o : Expr} {es : List Expr} {pos p p' apos : Pos} {w we wo : WpE} {wA : WpA} {c : CtG} {k cn : Nat} {f g C : Addr} {fd : FuncData} {ps fn : List Str} {y m fl : Str}
def refI (cn : Nat) (s : Sl) (cs : List Cell) (k : Addr → Nat → List (Str × D) → Prop) : Prop := ∃ p j fs, s = .dat (.cls p) ∧ cs[j]? = some (.insA p cn fs) ∧ k p j fs
def wFldA (cn : Nat) (m : Str) (w : WpE) : WpE := fun sl cs R Rx => w sl cs (fun s c => refI cn s c fun _ _ fs => ∃ d, fs.lookup m = some d ∧ R (.dat d) c) Rx
def wSetFA (cn : Nat) (fl : Str) (we wo : WpE) : WS := fun S P => we S.sl S.cs (fun d c1 => wo S.sl c1 (fun s c2 => ∃ dd, d = .dat dd ∧ refI cn s c2 fun p j fs => fs.length < 1000 ∧ P.nx ⟨S.sl, c2.set j (.insA p cn (putA fl dd fs))⟩) (fun x c => P.ex x ⟨S.sl, c⟩)) (fun x c => P.ex x ⟨S.sl, c⟩)
def wMethA0 (cn : Nat) (m : Str) (c : CtG) (wo : WpE) : WpE := fun sl cs R Rx => wo sl cs (fun s c1 => (refI cn s c1 fun _ _ fs => fIdx (fs.map (·.1)) m = none) ∧ c [s] c1 R) Rx
end
end Dl
namespace Dl
open PySem L2
abbrev CtGX := List Sl → List Cell → RV → RX → Prop
section
variable {T : Tab} {P : Program} {w : World} {K : PySem.W.Frag} {mg : Str → Option Value} {base : Heap} {x qual : Str} {st : Stmt} {f : Addr} {fd : FuncData} {N ps : List Str} {k : Nat} {ws : Nat → WS}
end
section
variable {X : Cx} {T : Tab} {W : WX} {n : Nat} {e o : Expr} {es : List Expr} {kws : List Keyword} {pos p apos : Pos} {w wo : WpE} {wA wK : WpA} {c : CtGX} {k cn pn : Nat} {f g C : Addr} {fd : FuncData} {ps ks fn : List Str} {y m : Str} {gV : List V → List V → List V} {fu : List D → List D → List D}
end
end Dl
namespace Dl
open PySem L2
def RP2 (T : Tab) (K : PySem.W.Frag) (r : R2) (s1 s2 : Sl) (cs : List Cell) (R : RV) : Prop :=
  ∀ ad F H v w (Q : VK), HoldC T K ad F H cs → SlRep T K ad F H v s1 → SlRep T K ad F H w s2 → (∀ s c z H' ad', R s c → Ext ad F H ad' H' → HoldC T K ad' F H' c → SlRep T K ad' F H' z s → Q z H') → r v w H Q
def RP1 (T : Tab) (K : PySem.W.Frag) (r : V → Hp → VK → Prop) (s1 : Sl) (cs : List Cell) (R : RV) : Prop :=
  ∀ ad F H v (Q : VK), HoldC T K ad F H cs → SlRep T K ad F H v s1 → (∀ s c z H' ad', R s c → Ext ad F H ad' H' → HoldC T K ad' F H' c → SlRep T K ad' F H' z s → Q z H') → r v H Q
def JBinP (X : Cx) (T : Tab) (op : Operator) (w : W2) : Prop := ∀ s1 s2 cs R, w s1 s2 cs R → ∃ r, OpR X (binaryOp op) r ∧ RP2 T X.K r s1 s2 cs R
def JCmpP (X : Cx) (T : Tab) (op : CmpOp) (w : W2) : Prop := ∀ s1 s2 cs R, w s1 s2 cs R → ∃ r, OpR X (compareOp op) r ∧ RP2 T X.K r s1 s2 cs R
def JUnP (X : Cx) (T : Tab) (op : UnaryOp) (w : W1) : Prop := ∀ s1 cs R, w s1 cs R → ∃ r, UnR X (unaryOp op) r ∧ RP1 T X.K r s1 cs R
section
variable {X : Cx} {T : Tab} {W : WX} {op : Operator} {cop : CmpOp} {uop : UnaryOp} {w v : W2} {a b : Expr} {pos : Pos} {wa wb : WpE}
theorem RP2.of {K : PySem.W.Frag} {r : R2} {s1 s2 s : Sl} {cs cs' : List Cell} {R : RV} (h : R2D T K r s1 s2 cs s cs') (hR : R s cs') : RP2 T K r s1 s2 cs R := fun ad F H v w Q c r1 r2 q => h ad F H v w Q c r1 r2 fun z H' ad' x k rz => q s cs' z H' ad' hR x k rz
theorem JBin.P (h : JBin X T op w) : JBinP X T op w := fun s1 s2 cs R hw => by
  obtain ⟨s, c, ⟨r, o1, o2⟩, hR⟩ := h _ _ _ _ hw
  exact ⟨r, o1, RP2.of o2 hR⟩
theorem JCmp.P (h : JCmp X T cop w) : JCmpP X T cop w := fun s1 s2 cs R hw => by
  obtain ⟨s, c, ⟨r, o1, o2⟩, hR⟩ := h _ _ _ _ hw
  exact ⟨r, o1, RP2.of o2 hR⟩
theorem JUn.P {w : W1} (h : JUn X T uop w) : JUnP X T uop w := fun s1 cs R hw => by
  obtain ⟨s, c, ⟨r, o1, o2⟩, hR⟩ := h _ _ _ hw
  exact ⟨r, o1, fun ad F H v Q k r1 q => o2 ad F H v Q k r1 fun z H' ad' x k rz => q s c z H' ad' hR x k rz⟩
theorem je_binP (ho : JBinP X T op w) (ha : JE X T W a wa) (hb : JE X T W b wb) : JE X T W (.BinOp a op b pos) (wTwo wa wb w) :=
  weak (pe_op opAll ha hb) fun σ H Q ⟨ad, F, sl, cs, R, Rx, h0, hw, q, qx⟩ => ⟨ad, F, sl, cs, _, Rx, h0, hw, fun s1 c1 v H1 ad1 hw1 x1 h1 r1 => ⟨ad1, F, sl, c1, _, Rx, h1, hw1, fun s2 c2 v2 H2 ad2 hw2 x2 h2 r2 => by
    obtain ⟨r, o1, o2⟩ := ho _ _ _ _ hw2
    exact ⟨r, o1, o2 ad2 F H2 v v2 Q h2.hc (r1.ext x2) r2 fun s c3 z H3 ad3 hR x3 k3 r3 => q s c3 z H3 ad3 hR (x1.trans h1.hc (x2.trans h2.hc x3)) (h2.to x3 k3) r3⟩, qx.on x1 h1⟩, qx⟩
theorem je_cmpP (ho : JCmpP X T cop w) (ha : JE X T W a wa) (hb : JE X T W b wb) (hm : behindInMarks cop b = false := by first | exact nomark _ | rfl) : JE X T W (.Compare a [cop] [b] pos) (wTwo wa wb w) :=
  weak (pe_cmpR opAll ha hb hm) fun σ H Q ⟨ad, F, sl, cs, R, Rx, h0, hw, q, qx⟩ => ⟨ad, F, sl, cs, _, Rx, h0, hw, fun s1 c1 v H1 ad1 hw1 x1 h1 r1 => ⟨ad1, F, sl, c1, _, Rx, h1, hw1, fun s2 c2 v2 H2 ad2 hw2 x2 h2 r2 => by
    obtain ⟨r, o1, o2⟩ := ho _ _ _ _ hw2
    exact ⟨r, o1, o2 ad2 F H2 v v2 Q h2.hc (r1.ext x2) r2 fun s c3 z H3 ad3 hR x3 k3 r3 => q s c3 z H3 ad3 hR (x1.trans h1.hc (x2.trans h2.hc x3)) (h2.to x3 k3) r3⟩, qx.on x1 h1⟩, qx⟩
theorem jt_cmpP (ho : JCmpP X T cop w) (ha : JE X T W a wa) (hb : JE X T W b wb) (hm : behindInMarks cop b = false := by first | exact nomark _ | rfl) : JT X T W (.Compare a [cop] [b] pos) (wBl (wTwo wa wb w)) :=
  weakT (pt_cmpR opAll ha hb hm) fun σ H Q ⟨ad, F, sl, cs, R, Rx, h0, hw, q, qx⟩ => ⟨ad, F, sl, cs, _, Rx, h0, hw, fun s1 c1 v H1 ad1 hw1 x1 h1 r1 => ⟨ad1, F, sl, c1, _, Rx, h1, hw1, fun s2 c2 v2 H2 ad2 hw2 x2 h2 r2 => by
    obtain ⟨r, o1, o2⟩ := ho _ _ _ _ hw2
    refine ⟨r, o1, o2 ad2 F H2 v v2 _ h2.hc (r1.ext x2) r2 fun s c3 z H3 ad3 hR x3 k3 r3 => ?_⟩
    obtain ⟨k, rfl, hR⟩ := isB_of hR
    cases r3
    exact ⟨k, rfl, q k c3 H3 ad3 hR (x1.trans h1.hc (x2.trans h2.hc x3)) (h2.to x3 k3)⟩, qx.on x1 h1⟩, qx⟩
end
section
variable {X : Cx} {T : Tab} {op : Operator} {cop : CmpOp} {cn k : Nat} {C g : Addr} {fn ps : List Str} {fd : FuncData} {c : CtG}
def isRf (cn : Nat) (s : Sl) (cs : List Cell) : Prop := refI cn s cs fun _ _ _ => True
end
end Dl
namespace Dl
open PySem L2
section
variable {X : Cx} {T : Tab} {W : WX} {n : Nat} {a b e o ix : Expr} {pos p' : Pos} {wa wb we wo wx w : WpE} {C g : Addr} {fd : FuncData} {ps fn : List Str} {k cn : Nat} {c : CtG} {op : Operator} {x : Str}
def wSubA (cn : Nat) (c : CtG) (wa wb : WpE) : WpE := fun sl cs R Rx => wa sl cs (fun s c1 => wb sl c1 (fun s2 c2 => isRf cn s c2 ∧ c [s, s2] c2 R) Rx) Rx
def wSetA (cn : Nat) (c : CtG) (we wo wx : WpE) : WS := fun S P => we S.sl S.cs (fun d c1 => wo S.sl c1 (fun s c2 => wx S.sl c2 (fun i c3 => isRf cn s c3 ∧ c [s, i, d] c3 fun _ c4 => P.nx ⟨S.sl, c4⟩) (fun x c => P.ex x ⟨S.sl, c⟩)) (fun x c => P.ex x ⟨S.sl, c⟩)) (fun x c => P.ex x ⟨S.sl, c⟩)
structure InpC (K : PySem.W.Frag) (C : Addr) (op : Operator) (g : Addr) : Prop where
  sf : PySem.W.selfFirst K C = true
  at_ : PySem.W.findIn K (.ref C) (dunderI op.info.2) = some (some (.ref g))
  fn : PySem.W.isFn K (.ref g) = true
def JIopP (X : Cx) (T : Tab) (op : Operator) (w : W2) : Prop := ∀ s1 s2 cs R, w s1 s2 cs R → ∃ r, OpR X (inplaceOp op) r ∧ RP2 T X.K r s1 s2 cs R
theorem JIop.P {w : W2} (h : JIop X T op w) : JIopP X T op w := fun s1 s2 cs R hw => by
  obtain ⟨s, c, ⟨r, o1, o2⟩, hR⟩ := h _ _ _ _ hw
  exact ⟨r, o1, RP2.of o2 hR⟩
def wSetLA (we wo wx : WpE) : WS := fun S P => we S.sl S.cs (fun d c1 => wo S.sl c1 (fun s c2 => wx S.sl c2 (fun i c3 => ∃ dd ii p j ds m, (d = .dat dd ∧ i = .dat (.int ii) ∧ s = .dat (.cls p)) ∧ c3[j]? = some (.lstA p ds) ∧ ixN ds.length ii = some m ∧ P.nx ⟨S.sl, c3.set j (.lstA p (ds.set m dd))⟩) (fun x c => P.ex x ⟨S.sl, c⟩)) (fun x c => P.ex x ⟨S.sl, c⟩)) (fun x c => P.ex x ⟨S.sl, c⟩)
theorem HoldC.lstA {K : PySem.W.Frag} {ad : List Addr} {F : Addr → Prop} {H : Hp} {cs : List Cell} {j : Nat} {p : Addr} {ds : List D} (h : HoldC T K ad F H cs) (hc : cs[j]? = some (.lstA p ds)) : ∃ vs, ad[j]? = some p ∧ H p = some (.lst vs) ∧ Reps T K (Mm ad F) H vs ds := by
  have jl : j < ad.length := by rw [h.ln]; exact (List.getElem?_eq_some_iff.mp hc).1
  have e := List.getElem?_eq_getElem jl
  obtain ⟨vs, ⟨e1, r⟩, e2⟩ := h.ce j _ _ e hc
  rw [← e2] at e e1
  exact ⟨vs, e, e1, r⟩
end
end Dl
namespace Dl
open PySem L2
inductive DeSl (cs : List Cell) : Sls → Sls → Prop
  | nil : DeSl cs [] []
  | none {sl sl' : Sls} : DeSl cs sl sl' → DeSl cs (Option.none :: sl) (Option.none :: sl')
  | some {s s' : Sl} {sl sl' : Sls} : DeR cs s s' → DeSl cs sl sl' → DeSl cs (Option.some s :: sl) (Option.some s' :: sl')
theorem DeSl.len {cs : List Cell} {sl sl' : Sls} (h : DeSl cs sl sl') : sl'.length = sl.length := by
  induction h with
  | nil => rfl
  | none _ ih => simp [ih]
  | some _ _ ih => simp [ih]
theorem DeSl.at {cs : List Cell} {sl sl' : Sls} (h : DeSl cs sl sl') : ∀ {i : Nat} {s' : Sl}, sl'[i]? = Option.some (Option.some s') → ∃ s, sl[i]? = Option.some (Option.some s) ∧ DeR cs s s' := by
  induction h with
  | nil => intro i s' e; simp at e
  | none _ ih => intro i s' e; cases i with
    | zero => simp at e
    | succ i => simpa using ih (i := i) (s' := s') (by simpa using e)
  | some r _ ih => intro i s' e; cases i with
    | zero => simp at e; subst e; exact ⟨_, rfl, r⟩
    | succ i => simpa using ih (i := i) (s' := s') (by simpa using e)
section
variable {X : Cx} {T : Tab} {W : WX} {e : Expr} {w : WpE}
def liSl (s1 : Sl) (l u : Option Int) (cs : List Cell) (R : RV) : Prop := ∃ s1', DeR cs s1 s1' ∧ slcSW s1' l u (cs.map vwC) fun s c => R s (rew cs c)
def wSlcA (wa : WpE) (wl wu : WpO) : WpE := fun sl cs R Rx => wa sl cs (fun s1 c1 => wl sl c1 (fun l c2 => wu sl c2 (fun u c3 => liSl s1 l u c3 R) Rx) Rx) Rx
def eqLW (neg : Bool) : W2 := fun s1 s2 cs R => wL cs s1 fun ds => wL cs s2 fun es => okD (.lst ds) = true ∧ okD (.lst es) = true ∧ R (.dat (.bl (neg.xor (eqD (.lst ds) (.lst es))))) cs
theorem lst_dp {K : PySem.W.Frag} {ad : List Addr} {F : Addr → Prop} {H : Hp} {cs : List Cell} {v : V} {s : Sl} {ds : List D} (h : isLst cs ds s) (c : HoldC T K ad F H cs) (r : SlRep T K ad F H v s) (ok : okD (.lst ds) = true) : Dp K H v (D.lst ds).py ∧ SeqAt.shaped (D.lst ds).py = true := by
  obtain ⟨a, vs, rfl, e, rs⟩ := rd_lst h c r
  have a1 := Bool.and_eq_true_iff.mp ok
  exact ⟨.lst (SqL.of e) (rs.dp a1.1), a1.2⟩
theorem jc_neL (hu : X.A.units + 64 < cLine) : JCmp X T .NotEq (eqLW true) := fun s1 s2 cs R h => by
  unfold eqLW at h
  obtain ⟨ds, h1, h⟩ := wL_of h
  obtain ⟨es, h2, o1, o2, hR⟩ := wL_of h
  exact ⟨.dat (.bl (!eqD (.lst ds) (.lst es))), cs, ⟨_, op_neD hu, fun ad F H v w Q c r1 r2 q => ⟨_, _, (lst_dp h1 c r1 o1).1, (lst_dp h2 c r2 o2).1, (lst_dp h1 c r1 o1).2, (lst_dp h2 c r2 o2).2, q _ H ad .refl c Rep.bl⟩⟩, by rw [Bool.true_xor] at hR; exact hR⟩
end
end Dl
namespace Dl
open PySem L2
section
variable {T : Tab} {P : Program} {w : World} {K : PySem.W.Frag} {mg : Str → Option Value} {base : Heap} {x qual : Str} {st : Stmt} {f : Addr} {fd : FuncData} {N ps : List Str} {k : Nat} {ws : Nat → WS}
theorem fn_HG (F : Fun K x qual st f fd) (Sc : FnScope N ps (defScope st))
    (body : ∀ cdv A outer sh H E, A.guards = some [] → Room k (cx0 P w K mg base N qual st f cdv A outer sh H E).A → ∀ n, JSs (cx0 P w K mg base N qual st f cdv A outer sh H E) T W0 n (defBody st) (ws n)) : FnG P w K mg base CX0 (k + 1) f fd ps (spG T K (cgOf N ps ws)) := by
  obtain ⟨oc, od, kV, doc, pm, an, cdv, ct, osl, rfl, l1, l2⟩ := F.ex
  refine fn_g l1 l2 Sc (fun h => lenG h) fun A fs s H vs Q E g hr h => ?_
  obtain ⟨ad, F', args, cs, R, hc, r, ⟨_, h⟩, q⟩ := h
  refine ⟨_, PSs.nox (body cdv A fs s H E g hr cs.length _ _ h), ad, F', Nat.le_of_eq hc.ln.symm, start_hold hc r, ?_, ?_, fun _ _ _ _ _ _ _ z => z.elim, fun _ _ _ _ _ _ _ z => z.elim, fun _ _ _ _ _ _ _ _ _ _ _ z => z.elim⟩
  · exact fun S' σ' H' ad' x hn h' hR => q _ _ .non H' ad' hR x hn h'.hc Rep.non
  · exact fun s2 cs2 v H' ad' x hn c2 r2 hR => q _ _ v H' ad' hR x hn c2 r2
end
section
variable {X : Cx} {T : Tab} {W : WX} {e : Expr} {es : List Expr} {pos p : Pos} {wA : WpA} {c : CtG} {k cn : Nat} {f g C : Addr} {fd : FuncData} {ps fn : List Str} {y : Str}
def reprLW : WC := fun ss cs R => match ss with
  | [s] => match lstOf cs s with
    | some ds => okR (.lst ds) = true ∧ (rprD (.lst ds)).length ≤ sizeLine ∧ R (.dat (.str (rprD (.lst ds)))) cs
    | none => reprW3 [s] cs R
  | _ => False
theorem jc_reprL (hG : X.A.guards = some []) (hu : X.A.units + 64 < cLine) : JCall X T "repr" reprLW := ⟨⟨.builtin "repr", by decide +kernel, .inl ⟨_, rfl⟩⟩, fun ss cs R h => by
  unfold reprLW at h
  split at h
  · rename_i s
    split at h
    · rename_i ds hl
      obtain ⟨ho, hn, hR⟩ := h
      have hl := lstOf_is hl
      refine ⟨_, cs, ⟨_, _, by decide +kernel, .inl ⟨_, rfl⟩, call_reprD hG hu, fun ad F H vs Q c r q => ?_⟩, hR⟩
      match vs, r with
      | [v], r =>
        unfold okR at ho
        simp only [Bool.and_eq_true, Bool.not_eq_true', decide_eq_true_eq] at ho
        obtain ⟨a, ws, rfl, e1, rs⟩ := rd_lst hl c r.1
        exact ⟨.ref a, (D.lst ds).py, rfl, .lst (SqL.of e1) (rs.dp ho.1.1.1), rfl, ho.1.1.2, ho.1.2, ho.2, hn, q _ H ad .refl c Rep.str⟩
    · exact (jc_repr3 hG hu).run _ _ _ h
  · exact h.elim⟩
end
end Dl
namespace Dl
open PySem L2
def ctH (c : CtG) : Ct := fun args cs s cs' => (∃ d, s = .dat d) ∧ c args cs fun s0 c0 => s0 = s ∧ c0.take cs.length = cs'
section
variable {T : Tab} {P : Program} {w : World} {K : PySem.W.Frag} {mg : Str → Option Value} {base : Heap} {f : Addr} {fd : FuncData} {ps : List Str} {k : Nat} {c : CtG}
theorem spG_of {vs : List V} {H : Hp} {Q : VK} {E : XK} (h : spC T K (ctH c) vs H Q E) : spG T K c vs H Q E := by
  obtain ⟨ad, F, args, cs, s, cs', hc, r, ⟨⟨d, rfl⟩, hw⟩, q⟩ := h
  refine ⟨ad, F, args, cs, _, hc, r, hw, fun s0 c0 v H' ad' hR x hn h' r' => ?_⟩
  obtain ⟨rfl, rfl⟩ := hR
  have kp : Kp (Mm ad' F) H' (Mm (ad'.take cs.length) F) H' := fun a o e z => ⟨e, fun y => z (y.imp List.mem_of_mem_take id)⟩
  exact q v H' (ad'.take cs.length) (ext_take x) (by rw [List.length_take]; omega) (h'.take _) (Rep.kp kp r')
theorem FnG.toC (F : FnG P w K mg base CX0 k f fd ps (spG T K c)) : FnG P w K mg base CX0 k f fd ps (spC T K (ctH c)) := F.to fun _ _ _ _ h => spG_of h
theorem FnOk.toC (F : FnOk P w K mg base CX0 k f fd ps (spG T K c)) : FnOk P w K mg base CX0 k f fd ps (spC T K (ctH c)) := ⟨fun _ _ _ _ h => F.len _ _ _ _ (spG_of h), fun _ _ _ _ _ _ _ _ _ hr e b v h => F.run _ _ _ _ _ _ _ _ _ hr e b v (spG_of h)⟩
end
section
variable {X : Cx} {T : Tab} {W : WX} {n : Nat} {pos p : Pos}
end
end Dl
namespace Dl
open PySem L2 PyProof.Rows
section
variable {X : Cx} {e : Expr} {te : TE} {lo hi st : Option Expr} {tl th ts : TO} {p2 pos : Pos}
end
section
variable {X : Cx} {T : Tab} {W : WX} {e : Expr} {wa : WpE} {lo hi st : Option Expr} {wl wu ws : WpO} {p2 pos : Pos}
end
end Dl
namespace Dl
open PySem L2
section
variable {X : Cx} {T : Tab} {cn cm k : Nat} {C C2 g : Addr} {fn fm ps : List Str} {fd : FuncData} {c : CtG}
end
end Dl
namespace Dl
open PySem L2
section
variable {X : Cx} {T : Tab}
end
end Dl
namespace Dl
open PySem L2
section
variable {X : Cx} {T : Tab} {M : Addr → Prop} {H : Hp} {pins : List (Addr × Obj)} {σ : L2.St} {s : Shared} {A : Around}
end
section
variable {X : Cx} {T : Tab}
end
end Dl
namespace Dl
open PySem L2
section
variable {T : Tab} {K : PySem.W.Frag} {M M' : Addr → Prop} {H : Hp} {a : Addr} {od : Obj} {kvs : List (Key × V)} {u : HO}
end
section
variable {T : Tab} {K : PySem.W.Frag} {W : WX} {p : Pat} {wi : WpI} {wt : WpT} {wk wv wE : WpE} {own : List Nat} {ad : List Addr} {F : Addr → Prop} {H : Hp} {cs : List Cell} {j : Nat} {pa : Addr} {kvs : List (Key × V)} {sl : Sls} {σ : St} {od : Obj}
end
section
variable {X : Cx} {T : Tab} {W : WX} {n : Nat} {kx vx tg iter e : Expr} {elts : List Expr} {kk : Nat} {tpos apos cpos : Pos} {ifs : List Expr} {scope : Scope} {own : List (Str × Nat)} {p : Pat} {wi : WpI} {wt : WpT} {wk wv wE : WpE} {pos : Pos} {y : Str}
structure JDF (X : Cx) (T : Tab) (W : WX) (kx vx tg : Expr) (ifs : List Expr) (scope : Scope) (own : List (Str × Nat)) (p : Pat) (wt : WpT) (wk wv : WpE) : Prop where
  ok : BlkOk X.N X.env.scope scope own
  hg : InB X scope fun X' => DG X' T tg p
  ht : InB X scope fun X' => JTs X' T W0 ifs wt
  hk : InB X scope fun X' => JE X' T W0 kx wk
  he : InB X scope fun X' => JE X' T W0 vx wv
  hp : ∀ i ∈ slotsP p, i ∈ own.map (·.2)
end
end Dl
namespace Dl
open PySem L2
section
variable {X : Cx} {e : Expr} {te : TE} {p p2 apos cpos pos pos2 : Pos}
end
section
variable {X : Cx} {T : Tab} {W : WX} {n : Nat} {e o i ix : Expr} {p p2 p' apos cpos pos pos2 : Pos} {we wo wi wx : WpE}
def kdA (cs : List Cell) (s : Sl) (k : List (Key × D) → Prop) : Prop := ∃ s' kds, DeR cs s s' ∧ kdOf (cs.map vwC) s' = some kds ∧ k kds
theorem HoldC.dctA {K : PySem.W.Frag} {ad : List Addr} {F : Addr → Prop} {H : Hp} {cs : List Cell} {j : Nat} {p : Addr} {kds : List (Key × D)} (h : HoldC T K ad F H cs) (hc : cs[j]? = some (.dctA p kds)) : ∃ kvs, ad[j]? = some p ∧ H p = some (.dK kvs) ∧ KR T K (Mm ad F) H kvs kds := by
  have jl : j < ad.length := by rw [h.ln]; exact (List.getElem?_eq_some_iff.mp hc).1
  have e := List.getElem?_eq_getElem jl
  obtain ⟨kvs, ⟨e1, r⟩, e2⟩ := h.ce j _ _ e hc
  rw [← e2] at e e1
  exact ⟨kvs, e, e1, r⟩
end
end Dl
namespace Dl
open PySem L2
section
variable {T : Tab} {P : Program} {w : World} {K : PySem.W.Frag} {mg : Str → Option Value} {base : Heap} {x qual : Str} {st : Stmt} {f : Addr} {fd : FuncData} {N ps : List Str} {k : Nat} {ws : Nat → WS}
end
section
variable {X : Cx} {T : Tab} {W : WX} {n : Nat} {a b e o ix : Expr} {es : List Expr} {kws : List Keyword} {pos p p' apos : Pos} {wa wb we wo wx w : WpE} {wA wK : WpA} {C g : Addr} {fd : FuncData} {ps fn ks : List Str} {k cn pn : Nat} {c : CtGX} {y m : Str} {gg : List Value → List Value → List Value} {gV : List V → List V → List V} {fu : List D → List D → List D}
end
end Dl
namespace Dl
open PySem L2
section
variable {X : Cx} {CX : CXT} {T : Tab} {W : WX} {n i : Nat} {e o : Expr} {es : List Expr} {kws : List Keyword} {pos p apos : Pos} {wo w : WpE} {wA wK : WpA} {C g q : Addr} {mc : Value} {fd : FuncData} {ps fn ks : List Str} {k cn pn : Nat} {c : CtGX} {y m : Str} {gg : List Value → List Value → List Value} {gV : List V → List V → List V} {fu : List D → List D → List D} {sp : Sp} {E : St → XK} {ta : TE} {t tk' : TA} {pins : List (Addr × Obj)} {σ : St} {H : Hp} {sh : Shared} {Q : VK} {us ws : List Value} {vs zs : List V}
end
section
variable {X : Cx} {T : Tab} {W : WX} {cn cm k : Nat} {C C2 g : Addr} {fn fm ps : List Str} {fd : FuncData} {c : CtG} {e : Expr} {w : WpE}
end
end Dl
namespace Dl
open PySem L2
section
variable {X : Cx} {T : Tab} {W : WX} {e : Expr} {w : WpE}
end
end Dl
namespace Dl
open PySem L2
section
variable {X : Cx} {T : Tab} {W : WX} {e : Expr}
end
section
variable {X : Cx} {T : Tab} {W : WX} {e o : Expr} {wo wi : WpE} {apos cpos : Pos}
end
section
variable {X : Cx} {T : Tab} {W : WX} {e : Expr} {es : List Expr} {wA : WpA} {c : CtGX} {k : Nat} {f : Addr} {fd : FuncData} {ps : List Str} {y : Str} {pos p : Pos} {dvs : List V} {dds : List D}
end
end Dl
namespace Dl
open PySem L2
section
variable {X : Cx} {T : Tab} {W : WX} {n : Nat} {e o : Expr} {es : List Expr} {kws : List Keyword} {pos apos p : Pos} {wo we : WpE} {wA wK : WpA} {y : Str} {k pn : Nat} {f : Addr} {fd : FuncData} {ps ks : List Str} {c : CtGX} {gV : List V → List V → List V} {fu : List D → List D → List D}
def wAppA (wo we : WpE) : WpE := fun sl cs R Rx => wo sl cs (fun s c1 => (∃ (p : Addr) (j : Nat) (ds : List D), s = .dat (.cls p) ∧ c1[j]? = some (.lstA p ds)) ∧ we sl c1 (fun d c2 => ∃ (p : Addr) (j : Nat) (ds : List D) (dd : D), (s = .dat (.cls p) ∧ d = .dat dd) ∧ c2[j]? = some (.lstA p ds) ∧ ds.length < sizeLine ∧ R (.dat .non) (c2.set j (.lstA p (ds ++ [dd])))) Rx) Rx
theorem je_appA (ho : JE X T W o wo) (he : JE X T W e we) (hb : attributeBase o "append" X.env (eval o X.env) = eval o X.env := by rfl) (hfew : ((backTo pos (starEach [e] X.env)).all (fun x => !x.1) && (backToKw pos (keywordEach [] X.env)).all (fun x => x.1.isSome) && decide (([e] : List Expr).length + ([] : List Keyword).length + (if ([] : List Keyword).isEmpty then 0 else 1) < 30)) = true := by rfl)
    (hl : (apos.endLine == pos.line) = true := by rfl) (hs : starEach [e] X.env = (false, eval e X.env) :: starEach [] X.env := by rfl) (hpl : (backTo pos (starEach [] X.env)).any (·.1) = false := by rfl) : JE X T W (.Call (.Attribute o "append" apos) [e] [] pos) (wAppA wo we) :=
  weak (pe_bm PySem.F.plainAttrs_list PySem.F.slot_list_append PySem.F.type_list_append mt_append ho (ja_cons he ja_nil hs) hb hfew hl hs hpl) fun σ H Q ⟨ad, F, sl, cs, R, Rx, h0, hw, q, qx⟩ => ⟨ad, F, sl, cs, _, Rx, h0, hw, fun s c1 v H1 ad1 hw1 x1 h1 r1 => by
    obtain ⟨⟨l, j0, ds0, rfl, hk0⟩, hw1⟩ := hw1
    have r1 : Rep T X.K (Mm ad1 F) H1 v (.cls l) := r1
    cases r1
    obtain ⟨vs0, el, e0, q0⟩ := h1.hc.lstA hk0
    refine ⟨.inl ⟨rfl, vs0, SqL.of e0⟩, ad1, F, sl, c1, (fun ss c2 => match ss with
      | [d] => ∃ (p : Addr) (j : Nat) (ds : List D) (dd : D), (Sl.dat (.cls l) = .dat (.cls p) ∧ d = .dat dd) ∧ c2[j]? = some (.lstA p ds) ∧ ds.length < sizeLine ∧ R (.dat .non) (c2.set j (.lstA p (ds ++ [dd])))
      | _ => False), Rx, h1, hw1, fun ss c2 ws H2 ad2 hw2 x2 h2 r2 => ?_, qx.on x1 h1⟩
    match ss, ws, r2 with
    | [s2], [y], r2 =>
      have hw2 : ∃ (p : Addr) (j : Nat) (ds : List D) (dd : D), (Sl.dat (.cls l) = .dat (.cls p) ∧ s2 = .dat dd) ∧ c2[j]? = some (.lstA p ds) ∧ ds.length < sizeLine ∧ R (.dat .non) (c2.set j (.lstA p (ds ++ [dd]))) := hw2
      obtain ⟨p, j, ds, d, ⟨ep, rfl⟩, hk, hl, hR⟩ := hw2
      cases ep
      obtain ⟨vs, el2, e1, q1⟩ := h2.hc.lstA hk
      refine ⟨l, vs, y, rfl, rfl, e1, by rw [q1.length]; exact hl, ?_⟩
      have kp : Kp (Mm ad2 F) H2 (Mm ad2 F) (upd H2 l (.lst (vs ++ [y]))) := fun b o e nn => ⟨by rw [upd_ne (fun z => nn (.inl (by rw [z]; exact List.mem_of_getElem? el2)))]; exact e, nn⟩
      obtain ⟨k4, x4⟩ := h2.hc.setc (o := .lst (vs ++ [y])) (c := .lstA l (ds ++ [d])) el2 ⟨_, ⟨upd_same, (q1.append (.cons r2.1 .nil)).kp kp⟩, rfl⟩
      exact q _ _ .non _ ad2 hR (x1.trans h1.hc (x2.trans h2.hc x4)) (h2.to x4 k4) Rep.non, qx⟩
end
end Dl
namespace L2
open PySem PySem.Spec PyProof.Rows
structure ZpSt (h : Heap) (z TI TO i1 i2 l1 l2 S : Addr) (xs ys : Array Value) (i : Nat) : Prop where
  pr : IsPair h TI (.ref i1) (.ref i2)
  t1 : h.IsListIter i1 l1 i
  t2 : h.IsListIter i2 l2 i
  a1 : h.IsList l1 xs
  a2 : h.IsList l2 ys
  zz : (IsZip h z TI TO .none ∧ ∃ a b, IsPair h TO a b) ∨ ∃ U f oU, IsZipHeld h z TI TO U f ∧ h.get? U = some oU ∧ U ≠ z ∧ U ≠ i1 ∧ U ≠ i2 ∧ U ≠ S
section
variable {P : Program} {w : World} {A : Around} {s : Shared} {z TI TO i1 i2 l1 l2 S : Addr} {xs ys : Array Value} {i : Nat}
theorem ZpSt.on {h h' : Heap} (st : ZpSt h z TI TO i1 i2 l1 l2 S xs ys i) (off : ∀ c ∈ [z, TI, TO, i1, i2, l1, l2], c ≠ S) (k : ∀ c o, c ≠ S → h.get? c = some o → h'.get? c = some o) : ZpSt h' z TI TO i1 i2 l1 l2 S xs ys i := by
  have k' : ∀ c ∈ [z, TI, TO, i1, i2, l1, l2], ∀ o, h.get? c = some o → h'.get? c = some o := fun c hc o e => k c o (off c hc) e
  refine ⟨k' _ (by simp) _ st.pr, st.t1.at (k' _ (by simp)), st.t2.at (k' _ (by simp)), st.a1.at (k' _ (by simp)), st.a2.at (k' _ (by simp)), ?_⟩
  rcases st.zz with ⟨hz, a, b, hTO⟩ | ⟨U, f, oU, hz, hU, r1, r2, r3, r4⟩
  · exact .inl ⟨k' _ (by simp) _ hz, a, b, k' _ (by simp) _ hTO⟩
  · exact .inr ⟨U, f, oU, k' _ (by simp) _ hz, k U oU r4 hU, r1, r2, r3, r4⟩
structure ZpG (xs ys : Array Value) (lo : Addr) (h : Heap) (as : List Addr) : Prop where
  up : as.Pairwise (· < ·)
  lo : ∀ a ∈ as, lo < a
  at_ : ∀ (j : Nat) (a : Addr), as[j]? = some a → ∃ x y, (xs[j]? = some x ∧ ys[j]? = some y) ∧ IsPair h a x y
end
end L2
namespace L2
open PySem PySem.Spec PyProof.Rows
section
variable {P : Program} {w : World} {A : Around} {s : Shared} {z TI TO i1 i2 l1 l2 : Addr} {xs ys : Array Value}
end
section
variable {P : Program} {w : World} {H : Hp} {h h' : Heap}
end
section
variable {X : Cx} {e1 e2 : Expr} {ta : TA} {p p2 pos pos2 : Pos}
end
end L2
namespace Dl
open PySem L2
section
variable {T : Tab} {K : PySem.W.Frag} {ad : List Addr} {F : Addr → Prop} {cs : List Cell}
end
section
variable {X : Cx} {T : Tab} {W : WX} {e1 e2 : Expr} {wA : WpA} {p p2 pos pos2 : Pos}
end
end Dl
namespace Dl
open PySem L2 PySem.Spec PyProof.Rows
section
variable {T : Tab} {P : Program} {w : World} {K : PySem.W.Frag} {mg : Str → Option Value} {base : Heap} {x qual : Str} {st : Stmt} {f : Addr} {fd : FuncData} {N ps : List Str} {k : Nat} {ws : Nat → WS}
end
section
variable {X : Cx} {T : Tab} {W : WX} {e : Expr} {es : List Expr} {kws : List Keyword} {pos p : Pos} {wA wK : WpA} {c : CtGX} {k pn : Nat} {f : Addr} {fd : FuncData} {ps ks : List Str} {y : Str} {sp : Sp} {ds : List Value} {dvs : List V} {dds : List D} {gV : List V → List V → List V} {fu : List D → List D → List D}
end
structure LamG (P : Program) (w : World) (K : PySem.W.Frag) (mg : Str → Option Value) (base : Heap) (k : Nat) (n : Nat) (F : LamF) (sp : Sp) : Prop where
  ln : ∀ {vs : List V} {H : Hp} {Q : VK} {E : XK}, sp vs H Q E → vs.length = n
  go : ∀ {A : Around} {fs : List Env} {s : Shared} {H : Hp} {us : List Value} {vs : List V} {Q : VK} {f c : Addr}, A.guards = some [] → Room k A → Env0 P w K mg base A fs s H → H f = some (LamO f F c) → H c = some (LamX.CodeO c F.q) → Vals vs us → sp vs H Q E0 →
    codeAny (model P w) A (.call (.ref f) ⟨us, []⟩) (CR CX0 fs P w H s Q E0) s
section
variable {T : Tab} {P : Program} {w : World} {K : PySem.W.Frag} {mg : Str → Option Value} {base : Heap} {k : Nat} {ps N : List Str} {sp : Sp} {F : LamF} {we : WpE}
end
section
variable {X : Cx} {T : Tab} {W : WX} {x : Str} {p pos : Pos} {e : Expr} {es : List Expr} {n k : Nat} {wo : WpE} {wA : WpA} {lf : Nat → LamF} {cl : Nat → Ct}
end
section
variable {T : Tab} {P : Program} {w : World} {K : PySem.W.Frag} {mg : Str → Option Value} {base : Heap} {nm qual : Str} {st : Stmt} {f c : Addr} {N ps : List Str} {k : Nat} {ws : Nat → WS} {fd : FuncData}
end
section
variable {X : Cx} {T : Tab} {W : WX} {a b : Expr} {rest : List Expr} {pos : Pos} {wa wb : WpE}
end
end Dl
namespace Dl
open PySem L2
end Dl
namespace Dl
open PySem L2
section
variable {X : Cx} {T : Tab} {M M2 : Addr → Prop} {H : Hp} {pins : List (Addr × Obj)} {σ : L2.St} {s : Shared} {A : Around}
end
section
variable {X : Cx} {T : Tab}
end
end Dl
namespace Dl
open PySem L2
end Dl
namespace Dl
open PySem L2 PySem.Spec PyProof.Rows PySem.W PySem.Calls PySem.HandSPX
section
variable {prog : Program} {w : World} {A : Around} {E : Value → Shared → Prop} {R : Result → Shared → Prop} {h : Heap} {g : Array GenState} {dr : Drawn} {tk : Nat} {os : OsState}
variable {nm q : Str} {C N : Addr} {bs bm t : List Value} {hdct : Bool} {sn : List Str} {sub : List Value} {ab : Bool} {col : Option Bool} {dd : Option Addr} {k0 k1 k2 k3 k5 : Option Value} {nid iid B : String} {kws : List (Str × Value)}
theorem newBk (T : TlF t nid) (l : Tl t bm) {rest : List Value} (hC : h.get? C = some (excClassObj nm q C N bs bm hdct sn sub ab col dd k0 k1 k2 k3 k5 nid)) (hr : rest.length ≤ sizeLine)
    (hq : R (.ok (.ret (.ref (h.objs.size + 1)))) ⟨(h.push (kdv_tup rest)).push (excO C h.objs.size), g, dr, tk, os⟩) : codeAny (model prog w) A (.builtin nid ⟨.ref C :: rest, kws⟩) R ⟨h, g, dr, tk, os⟩ := by
  obtain ⟨Bn, iN, bN, Fn, hB⟩ := T.new
  have e0 := Fn.ends
  have e1 : (Value.ref C :: bm).contains (.type Bn) = true := by rw [List.contains_cons, l.has, hB, Bool.or_true]
  have e2 : (Value.ref C :: bm).contains (.type "AttributeError") = false := by rw [List.contains_cons, l.has, T.noA] <;> rfl
  have e3 : (Value.ref C :: bm).contains (.type "NameError") = false := by rw [List.contains_cons, l.has, T.noN] <;> rfl
  refine codeAny_builtinAt Fn.entry ?_
  unfold Builtin.«BaseException.__new__»
  refine PySem.wpAt_bind (show PySem.wpAt _ _ _ (stack >>= _) _ _ _ from PySem.wpAt_bind (PySem.wpAt_stack fun p below => PySem.wpAt_of_wpAny ?_))
  wp_walk
  rw [Fn.owner]
  refine PySem.wpAt_of_wpAny ?_
  repeat (first
    | with_reducible refine wpAny_madeHere_exc Fn.canon hC ?_
    | with_reducible refine wpAny_loadPart_at hC ?_
    | (with_reducible refine wpAny_isSubtype_exc hC ?_; first | rw [e1] | rw [e2] | rw [e3])
    | wp_step)
  show R _ _
  rw [Heap.size_push] <;> exact hq
theorem checkNewBk (T : TlF t nid) (l : Tl t bm) {rest : List Value} {Q : Unit → Shared → Prop} (hC : h.get? C = some (excClassObj nm q C N bs bm hdct sn sub ab col dd k0 k1 k2 k3 k5 nid)) (hq : Q () ⟨h, g, dr, tk, os⟩) :
    wpAny (model prog w) A (checkBuiltinCall nid ⟨.ref C :: rest, kws⟩) Q E ⟨h, g, dr, tk, os⟩ := by
  obtain ⟨Bn, iN, bN, Fn, hB⟩ := T.new
  have e1 : (Value.ref C :: bm).contains (.type Bn) = true := by rw [List.contains_cons, l.has, hB, Bool.or_true]
  have e0 := Fn.noStar
  simp only [checkBuiltinCall, Fn.newKind, Fn.newSplit, Fn.newRow]
  repeat (first
    | refine wpAny_loadPart_at hC ?_
    | (refine wpAny_isSubtype_exc hC ?_; rw [e1])
    | refine wpAny_staticBase_exc hC ?_
    | refine wpAny_madeBy_exc hC ?_
    | simp only [bne_self_eq_false, Bool.false_eq_true, if_false]
    | wp_step)
  exact hq
theorem typeCallBk (T : TlF t nid) (l : Tl t bm) {rest : List Value} {fI : Addr} {Q : Fin → Shared → Prop} (hC : h.get? C = some (excClassObj nm q C N bs bm hdct sn sub ab col dd k0 k1 k2 k3 k5 nid))
    (hi : Looks (model prog w) h (typeLookup (.ref C) "__init__") (some (.ref fI))) (hb : ∀ self, Looks (model prog w) h (bindSpecial (.ref fI) self) (.ref fI, [self])) (hr : rest.length ≤ sizeLine)
    (hq : codeAny (model prog w) A (.call (.ref fI) ⟨.ref (h.objs.size + 1) :: rest, kws⟩)
      (fun r s' => match r with | .ok (.ret v) => v = .none ∧ Q (.done (.ret (.ref (h.objs.size + 1)))) s' | .ok _ => False | .error e => E e s') ⟨(h.push (kdv_tup rest)).push (excO C h.objs.size), g, dr, tk, os⟩) :
    wpAny (model prog w) A (Builtin.«type.__call__» ⟨.ref C :: rest, kws⟩) Q E ⟨h, g, dr, tk, os⟩ := by
  have ky : ∀ b o, h.get? b = some o → ((h.push (kdv_tup rest)).push (excO C h.objs.size)).get? b = some o := fun b o e => Heap.get?_push_of_some _ (Heap.get?_push_of_some _ e)
  have hget : ((h.push (kdv_tup rest)).push (excO C h.objs.size)).get? (h.objs.size + 1) = some (excO C h.objs.size) := by heap_get
  have self_ : (Value.ref C :: bm).contains (.ref C) = true := by simp
  have qu : nid.startsWith "lifetime." = false := let ⟨_, _, _, Fn, _⟩ := T.new; Fn.quiet
  repeat (first | with_reducible refine wpAny_loadPart_at hC ?_ | with_reducible refine wpAny_madeBy_exc hC ?_ | wp_step)
  refine codeAny_call_builtin_code (Code.quiet_builtin _ qu) (checkNewBk T l hC (newBk T l hC hr (show wpAny _ _ _ _ _ _ from ?_)))
  unfold isInstance
  repeat (first | with_reducible refine wpAny_loadPart_at hget ?_ | (with_reducible refine wpAny_isSubtype_exc (ky _ _ hC) ?_; rw [self_]) | wp_step)
  show wpAny _ _ (typeLookup (.ref C) _) _ _ _
  refine (hi.keeps ky).at (wpAny_holding (wpAny_bind (((hb (.ref (h.objs.size + 1))).keeps ky).at (wpAny_bind (wpAny_call (codeAny_mono hq fun r s' z => ?_))))))
  rcases r with e | (v | _ | _ | _) <;> first | exact z | exact z.elim | skip
  obtain ⟨rfl, z⟩ := z
  first
    | exact wpAny_pure (wpAny_pure z)
    | (wp_walk; exact z)
theorem callBk (T : TlF t nid) (l : Tl t bm) {rest : List Value} {fI : Addr} (hC : h.get? C = some (excClassObj nm q C N bs bm hdct sn sub ab col dd k0 k1 k2 k3 k5 nid))
    (hi : Looks (model prog w) h (typeLookup (.ref C) "__init__") (some (.ref fI))) (hb : ∀ self, Looks (model prog w) h (bindSpecial (.ref fI) self) (.ref fI, [self])) (hr : rest.length ≤ sizeLine)
    (hq : codeAny (model prog w) (A.under (.builtin "type.__call__" ⟨.ref C :: rest, kws⟩)) (.call (.ref fI) ⟨.ref (h.objs.size + 1) :: rest, kws⟩) (InitBack (h.objs.size + 1) R) ⟨(h.push (kdv_tup rest)).push (excO C h.objs.size), g, dr, tk, os⟩) :
    codeAny (model prog w) A (.call (.ref C) ⟨rest, kws⟩) R ⟨h, g, dr, tk, os⟩ := by
  have z0 : (⟨h, g, dr, tk, os⟩ : Shared).TypeIs (.ref C) "type" := ⟨_, hC, rfl⟩
  have z1 := tc_lookup
  have z2 := tc_bind (.ref C)
  refine codeAny_of_tree (show wpAny _ _ (callAny (.ref C) _) _ _ _ from ?_)
  repeat (any_goals (first
    | assumption
    | with_reducible refine wpAny_loadPart_at hC ?_
    | wp_step))
  refine ⟨rfl, codeAny_call_builtin_at (Code.quiet_builtin _ (by decide +kernel)) entry_typeCall (wpAny_check_type_call_sub hC (typeCallBk T l hC hi hb hr (codeAny_mono hq fun r s' z => ?_)))⟩
  rcases r with e | (v | _ | _ | _) <;> exact z
end
section
variable {X : Cx} {tl : List Value} {nid : String} {k pn : Nat} {C fI : Addr} {fd : FuncData} {ps ks : List Str} {sp : Sp} {pins : List (Addr × Obj)} {σ : L2.St} {H1 : Hp} {Q : VK} {vs zs : List V} {us wz : List Value} {s1 : Shared} {gg : List Value → List Value → List Value} {gV : List V → List V → List V}
theorem mkV_run (F : TlF tl nid) (T : OexB X.K C tl nid) (iC : PySem.W.findIn X.K (.ref C) "__init__" = some (some (.ref fI))) (tI : PySem.W.typeIn X.K (.ref fI) = some (.type "function"))
    (F1 : FnOk X.prog X.w X.K X.mg X.base CX0 k fI fd ps sp) (hr : Room (k + 1) X.A) (hb : Binds X.K fd ps []) (I1 : Inv X pins σ H1 s1) (r1 : Vals vs us) (hz : vs.length ≤ 1000)
    (q1 : ∀ a, H1 a = none → sp (.ref a :: vs) (upd H1 a (exo a C none)) (fun v H2 => v = .non ∧ Q (.ref a) H2) (fun _ _ _ => False)) :
    wpAny (model X.prog X.w) X.A (call (.ref C) us) (EP X pins σ Q) X.xe s1 := by
  obtain ⟨nm, q, N, bs, bm, sn, sub, ab, col, dd, k0, k1, k2, k3, k5, hC, ht⟩ := T.cls
  obtain ⟨hp, g, dr, tk, os⟩ := s1
  have hsz : hp.objs.size ≤ hp.objs.size + 1 := Nat.le_succ _
  have hq := q1 (hp.objs.size + 1) (I1.hok.fresh hsz)
  have kk : ∀ b o, hp.get? b = some o → ((hp.push (PySem.W.kdv_tup us)).push (PySem.HandSPX.excO C hp.objs.size)).get? b = some o := fun b o e => Heap.get?_push_of_some _ (Heap.get?_push_of_some _ e)
  have hget : ((hp.push (PySem.W.kdv_tup us)).push (PySem.HandSPX.excO C hp.objs.size)).get? (hp.objs.size + 1) = some (PySem.HandSPX.excO C hp.objs.size) := by heap_get
  have I2 := I1.laid (t' := tk) (a := hp.objs.size + 1) (o := exo (hp.objs.size + 1) C none) kk hsz (exo_ok hget)
  have r2 : Vals (V.ref (hp.objs.size + 1) :: vs) (Value.ref (hp.objs.size + 1) :: us) := .cons rfl r1
  have hl : (Value.ref (hp.objs.size + 1) :: us ++ []).length = ps.length := by
    rw [List.append_nil, ← F1.len _ _ _ _ hq] <;> exact r2.length.symm
  have hus : us.length ≤ sizeLine := by rw [← Paired.length r1, sizeLine_eq]; omega
  refine wpAny_call (callB F ht (I1.kIn _ _ hC) (PySem.W.looks_findIn I1.kIn iC) (fun self => PySem.W.bind_fn I1.kIn self tI) hus (codeAny_mono (F1.run _ X.stack _ _ ⟨Value.ref (hp.objs.size + 1) :: us, []⟩ (Value.ref (hp.objs.size + 1) :: us) _ _ (fun _ _ _ => False)
    (hr.make C us []) (I2.env0.make C us []) (by have b := hb _ (Value.ref (hp.objs.size + 1) :: us) I2.kIn hl; rw [List.append_nil] at b; exact b) r2 hq) fun r s' hq' => ?_))
  cases r with
  | error er => exact pass0 pins σ _ _ er s' I2 hq'
  | ok fl =>
    cases fl with
    | ret u =>
      obtain ⟨v, H2, os2, bare2, un2, hok2, rv, ev, hh⟩ := hq'
      subst ev
      exact ⟨rv, .ref (hp.objs.size + 1), H2, I2.call' (ch := []) os2 un2 hok2 bare2 (fun b z => absurd z (by simp)), rfl, hh⟩
    | next => exact False.elim hq'
    | brk => exact False.elim hq'
    | cont => exact False.elim hq'
theorem mkVk_run (F : TlF tl nid) (T : OexB X.K C tl nid) (iC : PySem.W.findIn X.K (.ref C) "__init__" = some (some (.ref fI))) (tI : PySem.W.typeIn X.K (.ref fI) = some (.type "function"))
    (F1 : FnOk X.prog X.w X.K X.mg X.base CX0 k fI fd ps sp) (hr : Room (k + 1) X.A) (hb : KBn X.K fd ps (pn + 1) ks gg gV) (I1 : Inv X pins σ H1 s1) (r1 : Vals vs us) (rz : Vals zs wz) (l1 : vs.length = pn) (l2 : zs.length = ks.length) (hz : vs.length ≤ 1000)
    (q1 : ∀ a, H1 a = none → sp (gV (.ref a :: vs) zs) (upd H1 a (exo a C none)) (fun v H2 => v = .non ∧ Q (.ref a) H2) (fun _ _ _ => False)) :
    wpAny (model X.prog X.w) X.A (call (.ref C) us (ks.zip wz)) (EP X pins σ Q) X.xe s1 := by
  obtain ⟨nm, q, N, bs, bm, sn, sub, ab, col, dd, k0, k1, k2, k3, k5, hC, ht⟩ := T.cls
  obtain ⟨hp, g, dr, tk, os⟩ := s1
  have hsz : hp.objs.size ≤ hp.objs.size + 1 := Nat.le_succ _
  have hq := q1 (hp.objs.size + 1) (I1.hok.fresh hsz)
  have kk : ∀ b o, hp.get? b = some o → ((hp.push (PySem.W.kdv_tup us)).push (PySem.HandSPX.excO C hp.objs.size)).get? b = some o := fun b o e => Heap.get?_push_of_some _ (Heap.get?_push_of_some _ e)
  have hget : ((hp.push (PySem.W.kdv_tup us)).push (PySem.HandSPX.excO C hp.objs.size)).get? (hp.objs.size + 1) = some (PySem.HandSPX.excO C hp.objs.size) := by heap_get
  have I2 := I1.laid (t' := tk) (a := hp.objs.size + 1) (o := exo (hp.objs.size + 1) C none) kk hsz (exo_ok hget)
  have r2 : Vals (V.ref (hp.objs.size + 1) :: vs) (Value.ref (hp.objs.size + 1) :: us) := .cons rfl r1
  have hus : us.length ≤ sizeLine := by rw [← Paired.length r1, sizeLine_eq]; omega
  have lu : (Value.ref (hp.objs.size + 1) :: us).length = pn + 1 := by rw [List.length_cons, ← Paired.length r1, l1]
  refine wpAny_call (callBk F ht (I1.kIn _ _ hC) (PySem.W.looks_findIn I1.kIn iC) (fun self => PySem.W.bind_fn I1.kIn self tI) hus (codeAny_mono (F1.run _ X.stack _ _ ⟨Value.ref (hp.objs.size + 1) :: us, ks.zip wz⟩ (gg (Value.ref (hp.objs.size + 1) :: us) wz) _ _ (fun _ _ _ => False)
    (hr.make C us (ks.zip wz)) (I2.env0.make C us (ks.zip wz)) (hb.to _ (Value.ref (hp.objs.size + 1) :: us) wz I2.kIn lu (rz.length.symm.trans l2)) (hb.rel r2 rz) hq) fun r s' hq' => ?_))
  cases r with
  | error er => exact pass0 pins σ _ _ er s' I2 hq'
  | ok fl =>
    cases fl with
    | ret u =>
      obtain ⟨v, H2, os2, bare2, un2, hok2, rv, ev, hh⟩ := hq'
      subst ev
      exact ⟨rv, .ref (hp.objs.size + 1), H2, I2.call' (ch := []) os2 un2 hok2 bare2 (fun b z => absurd z (by simp)), rfl, hh⟩
    | next => exact False.elim hq'
    | brk => exact False.elim hq'
    | cont => exact False.elim hq'
end
def tMkV (C : Addr) (sp : Sp) (ta : TA) : TE := fun σ H Q => ta σ H fun vs H1 => vs.length ≤ 1000 ∧ ∀ a, H1 a = none → sp (.ref a :: vs) (upd H1 a (exo a C none)) (fun v H2 => v = .non ∧ Q (.ref a) H2) (fun _ _ _ => False)
def tMkVk (C : Addr) (sp : Sp) (kn : Nat) (gV : List V → List V → List V) (tk : TA) : TE := fun σ H Q => tk σ H fun zs H1 => zs.length = kn ∧ ∀ a, H1 a = none → sp (gV [.ref a] zs) (upd H1 a (exo a C none)) (fun v H2 => v = .non ∧ Q (.ref a) H2) (fun _ _ _ => False)
section
variable {X : Cx} {e : Expr} {es : List Expr} {kws : List Keyword} {ta tk : TA} {x : Str} {p pos : Pos} {tl : List Value} {nid : String} {k : Nat} {C fI : Addr} {fd : FuncData} {ps ks : List Str} {sp : Sp} {gg : List Value → List Value → List Value} {gV : List V → List V → List V}
theorem pe_mkV (F : TlF tl nid) (T : OexB X.K C tl nid) (iC : PySem.W.findIn X.K (.ref C) "__init__" = some (some (.ref fI))) (tI : PySem.W.typeIn X.K (.ref fI) = some (.type "function")) (F1 : FnOk X.prog X.w X.K X.mg X.base CX0 k fI fd ps sp)
    (hr : Room (k + 1) X.A) (hb : Binds X.K fd ps []) (hm : X.mg x = some (.ref C)) (ha : PA X (e :: es) ta) (hg : Gl X x := by rfl) (hdb : (x == ("__debug__" : Str)) = false := by decide) (he : starEach (e :: es) X.env = (false, eval e X.env) :: starEach es X.env := by rfl) (hpl : (backTo pos (starEach es X.env)).any (·.1) = false := by rfl) :
    PE X (.Call (.Name x p) (e :: es) [] pos) (tMkV C sp ta) := ⟨fun pins s σ H Q I h => by
  refine wpAny_Call_Name_kw (ld_glob I hg hm (PySem.W.callWith_K (h₀ := X.base) I.ok.mod.kin T.kC (thn (ha.run pos pins s σ H _ I h) fun us s1 z => ?_) he hpl) hdb)
  obtain ⟨vs, H1, I1, r1, hz, q1⟩ := z
  exact ⟨I1.kIn, mkV_run F T iC tI F1 hr hb I1 r1 hz q1⟩⟩
theorem pe_mkV0 (F : TlF tl nid) (T : OexB X.K C tl nid) (iC : PySem.W.findIn X.K (.ref C) "__init__" = some (some (.ref fI))) (tI : PySem.W.typeIn X.K (.ref fI) = some (.type "function")) (F1 : FnOk X.prog X.w X.K X.mg X.base CX0 k fI fd ps sp)
    (hr : Room (k + 1) X.A) (hb : Binds X.K fd ps []) (hm : X.mg x = some (.ref C)) (hg : Gl X x := by rfl) (hdb : (x == ("__debug__" : Str)) = false := by decide) : PE X (.Call (.Name x p) [] [] pos) (tMkV C sp (fun _ H Q => Q [] H)) := ⟨fun pins s σ H Q I h => by
  refine wpAny_Call_Name_kw (ld_glob I hg hm (PySem.W.callWith_K0 (I.kIn) T.kC ?_) hdb)
  exact mkV_run F T iC tI F1 hr hb I .nil h.1 h.2⟩
theorem pe_mkVk (F : TlF tl nid) (T : OexB X.K C tl nid) (iC : PySem.W.findIn X.K (.ref C) "__init__" = some (some (.ref fI))) (tI : PySem.W.typeIn X.K (.ref fI) = some (.type "function")) (F1 : FnOk X.prog X.w X.K X.mg X.base CX0 k fI fd ps sp)
    (hr : Room (k + 1) X.A) (hb : KBn X.K fd ps 1 ks gg gV) (hm : X.mg x = some (.ref C)) (hkw : PK X kws tk) (hg : Gl X x := by rfl) (hdb : (x == ("__debug__" : Str)) = false := by decide)
    (hall : (backToKw pos (keywordEach kws X.env)).all (·.1.isSome) = true := by rfl) (hks : (backToKw pos (keywordEach kws X.env)).filterMap (·.1) = ks := by rfl)
    (hpl : ((backTo pos (starEach [] X.env)).any (·.1) || (backToKw pos (keywordEach kws X.env)).any (·.1.isNone)) = false := by rfl) :
    PE X (.Call (.Name x p) [] kws pos) (tMkVk C sp ks.length gV tk) := ⟨fun pins s σ H Q I h => by
  refine wpAny_Call_Name_kw (ld_glob I hg hm (PySem.W.callWith_KW0 (first := []) (h₀ := X.base) I.ok.mod.kin T.kC hall (thn (hkw.run pos pins s σ H _ I h) fun ws s3 z => ?_) hpl) hdb)
  obtain ⟨zs, H3, I3, rz, l2, q⟩ := z
  refine ⟨I3.kIn, ?_⟩
  rw [hks]
  exact mkVk_run (us := []) (vs := []) F T iC tI F1 hr hb I3 .nil rz rfl l2 (Nat.zero_le _) q⟩
end
end Dl
namespace Dl
open PySem L2 PySem.Spec PyProof.Rows
section
variable {T : Tab} {K : PySem.W.Frag} {ad : List Addr} {F : Addr → Prop} {H : Hp} {cs : List Cell} {j m : Nat} {p a C : Addr} {fn fs : List Str} {gs : List (Str × D)} {vs : List V} {ds : List D} {Q : VK}
theorem HoldC.exA (h : HoldC T K ad F H cs) (hT : T m = some (C, fn)) (hc : cs[j]? = some (.exA p m gs)) : ∃ dd vs, H p = some (exo p C dd) ∧ ExDt (Mm ad F) H dd ((gs.map (·.1)).zip vs) ∧ vs.length = gs.length ∧ Reps T K (Mm ad F) H vs (gs.map (·.2)) := by
  have jl : j < ad.length := by rw [h.ln]; exact (List.getElem?_eq_some_iff.mp hc).1
  have e := List.getElem?_eq_getElem jl
  obtain ⟨C', fn', dd, vs, ⟨ht, e1, hd, hl, r⟩, e2⟩ := h.ce j _ _ e hc
  rw [hT] at ht
  cases ht
  rw [← e2] at e1
  exact ⟨dd, vs, e1, hd, hl, r⟩
theorem zip_names : ∀ {fs : List Str} {ds : List D}, ds.length = fs.length → (fs.zip ds).map (·.1) = fs ∧ (fs.zip ds).map (·.2) = ds
  | [], [], _ => ⟨rfl, rfl⟩
  | f :: fs, d :: ds, h => by
    have h := zip_names (fs := fs) (ds := ds) (Nat.succ.inj h)
    exact ⟨congrArg (f :: ·) h.1, congrArg (d :: ·) h.2⟩
theorem upd_three {H : Hp} {a dx : Addr} {o0 o1 o3 : HO} (ne : dx ≠ a) : upd (upd (upd H a o0) dx o1) a o3 = upd (upd H dx o1) a o3 := by
  funext b
  by_cases h2 : b = a
  · subst h2
    rw [upd_same, upd_same]
  · rw [upd_ne h2, upd_ne h2]
    by_cases h1 : b = dx
    · subst h1
      rw [upd_same, upd_same]
    · rw [upd_ne h1, upd_ne h1, upd_ne h2]
theorem kp_add {o : HO} (na : H a = none) : Kp (Mm ad F) H (Mm (ad ++ [a]) F) (upd H a o) := fun b o' h n => ⟨by rw [upd_ne (ne_of_none h na)]; exact h, fun z => by
  rcases z with z | z
  · rcases List.mem_append.mp z with z | z
    · exact n (.inl z)
    · exact ne_of_none h na (List.mem_singleton.mp z)
  · exact n (.inr z)⟩
theorem made_val (hT : T m = some (C, fn)) (h : HoldC T K ad F H cs) (r : Reps T K (Mm ad F) H vs ds) (hl : ds.length = fs.length) (na : H a = none)
    (q : ∀ H' ad', Ext ad F H ad' H' → HoldC T K ad' F H' (cs ++ [.exA a m (fs.zip ds).reverse]) → Q (.ref a) H') :
    spEn C fs (.ref a :: vs) (upd H a (exo a C none)) (fun v H2 => v = .non ∧ Q (.ref a) H2) (fun _ _ _ => False) := by
  have hvl : vs.length = fs.length := r.length.trans hl
  obtain ⟨z1, z2⟩ := zip_names hl
  have len : (fs.zip ds).reverse.length = fs.length := by rw [List.length_reverse, List.length_zip, hl]; exact Nat.min_self _
  refine ⟨a, vs, rfl, hvl, upd_same, fun e0 => ⟨rfl, ?_⟩, fun e0 dx ndx ne => ⟨rfl, ?_⟩⟩
  · subst e0
    have hd : ds = [] := List.length_eq_zero_iff.mp hl
    subst hd
    obtain ⟨h2, x2⟩ := h.cell (c := .exA a m []) (o := exo a C none) na ⟨C, fn, none, [], ⟨hT, upd_same, .inl ⟨rfl, rfl⟩, rfl, .nil⟩, rfl⟩
    exact q _ _ x2 h2
  · have n1 : H dx = none := by rw [upd_ne ne] at ndx; exact ndx
    rw [upd_three ne]
    obtain ⟨h1, x1⟩ := h.newo (o := exd dx (fs.zip vs).reverse) n1
    have na1 : upd H dx (exd dx (fs.zip vs).reverse) a = none := by rw [upd_ne ne.symm]; exact na
    have nm : ¬ Mm (ad ++ [a]) F dx := fun z => by
      rcases z with z | z
      · rcases List.mem_append.mp z with z | z
        · exact h.new n1 (.inl z)
        · exact ne (List.mem_singleton.mp z)
      · exact h.new n1 (.inr z)
    have kv : ((fs.zip ds).reverse.map (·.1)).zip vs.reverse = (fs.zip vs).reverse := by
      rw [List.map_reverse, z1, rev_zip hvl.symm]
    obtain ⟨h2, x2⟩ := h1.cell (c := .exA a m (fs.zip ds).reverse) (o := exo a C (some dx)) na1 ⟨C, fn, some dx, vs.reverse, ⟨hT, upd_same, .inr ⟨dx, rfl, nm, by rw [upd_ne ne, upd_same, kv]⟩, by rw [List.length_reverse, len, hvl], by
      rw [List.map_reverse, z2]
      exact ((r.kp x1.kp).kp (kp_add na1)).rev⟩, rfl⟩
    exact q _ _ (x1.trans h1 x2) h2
end
def wMkE (m n : Nat) (fs : List Str) (wA : WpA) : WpE := fun sl cs R Rx => wA sl cs (fun ss c => wDats ss fun ds => ds.length = n ∧ ∀ x : Addr, R (.dat (.cls x)) (c ++ [.exA x m (fs.zip ds).reverse])) Rx
def wMkEk (m n : Nat) (fs : List Str) (fu : List D → List D) (wK : WpA) : WpE := fun sl cs R Rx => wK sl cs (fun ss c => wDats ss fun ds => ds.length = n ∧ ∀ x : Addr, R (.dat (.cls x)) (c ++ [.exA x m (fs.zip (fu ds)).reverse])) Rx
section
variable {X : Cx} {T : Tab} {W : WX} {x f : Str} {C C2 fI : Addr} {m k n : Nat} {fd : FuncData} {fs ps ks : List Str} {tl : List Value} {nid : String} {e : Expr} {es : List Expr} {kws : List Keyword} {p p2 pos : Pos} {w : WpE} {wA wK : WpA} {fnr : List Str} {gV : List V → List V → List V} {f2 : List D → List D → List D}
theorem je_mkE (F0 : TlF tl nid) (oc : OexB X.K C tl nid) (iC : PySem.W.findIn X.K (.ref C) "__init__" = some (some (.ref fI))) (tI : PySem.W.typeIn X.K (.ref fI) = some (.type "function")) (F1 : FnOk X.prog X.w X.K X.mg X.base CX0 k fI fd ps (spEn C fs)) (hr : Room (k + 1) X.A) (hb : Binds X.K fd ps []) (hm : X.mg x = some (.ref C))
    (hT : T m = some (C, fnr)) (hl : fs.length = n) (ha : JA X T W (e :: es) wA) (hz : fs.length ≤ 1000 := by decide) (hg : Gl X x := by rfl) (hdb : (x == ("__debug__" : Str)) = false := by decide)
    (he : starEach (e :: es) X.env = (false, eval e X.env) :: starEach es X.env := by rfl) (hpl : (backTo pos (starEach es X.env)).any (·.1) = false := by rfl) : JE X T W (.Call (.Name x p) (e :: es) [] pos) (wMkE m n fs wA) :=
  weak (pe_mkV F0 oc iC tI F1 hr hb hm ha hg hdb he hpl) fun σ H Q ⟨ad, F, sl, cs, R, Rx, h0, hw, q, qx⟩ => ⟨ad, F, sl, cs, _, Rx, h0, hw, fun ss c1 vs H1 ad1 hR x1 h1 r1 => by
    obtain ⟨ds, rfl, hd, hK⟩ := wDats_of hR
    have hd' : ds.length = fs.length := hd.trans hl.symm
    refine ⟨by rw [r1.dats.length, hd']; exact hz, fun a na => made_val hT h1.hc r1.dats hd' na fun H' ad' x2 h2 => ?_⟩
    exact q _ _ (.ref a) H' ad' (hK a) (x1.trans h1.hc x2) (h1.to x2 h2) Rep.cls, qx⟩
theorem je_mkE0 (F0 : TlF tl nid) (oc : OexB X.K C tl nid) (iC : PySem.W.findIn X.K (.ref C) "__init__" = some (some (.ref fI))) (tI : PySem.W.typeIn X.K (.ref fI) = some (.type "function")) (F1 : FnOk X.prog X.w X.K X.mg X.base CX0 k fI fd ps (spEn C [])) (hr : Room (k + 1) X.A) (hb : Binds X.K fd ps []) (hm : X.mg x = some (.ref C))
    (hT : T m = some (C, fnr)) (hg : Gl X x := by rfl) (hdb : (x == ("__debug__" : Str)) = false := by decide) : JE X T W (.Call (.Name x p) [] [] pos) (wMkE m 0 [] wNil) :=
  weak (pe_mkV0 F0 oc iC tI F1 hr hb hm hg hdb) fun σ H Q ⟨ad, F, sl, cs, R, Rx, h0, hw, q, qx⟩ => by
    refine ⟨Nat.zero_le _, fun a na => made_val (ds := []) hT h0.hc .nil rfl na fun H' ad' x2 h2 => ?_⟩
    exact q _ _ (.ref a) H' ad' (hw.2 a) x2 (h0.to x2 h2) Rep.cls
theorem je_mkEk (F0 : TlF tl nid) (oc : OexB X.K C tl nid) (iC : PySem.W.findIn X.K (.ref C) "__init__" = some (some (.ref fI))) (tI : PySem.W.typeIn X.K (.ref fI) = some (.type "function")) (F1 : FnOk X.prog X.w X.K X.mg X.base CX0 k fI fd ps (spEn C fs)) (hr : Room (k + 1) X.A) (hb : ∃ gg, KBn X.K fd ps 1 ks gg gV) (hm : X.mg x = some (.ref C))
    (hT : T m = some (C, fnr)) (hl : fs.length = n) (hk : ks.length = n) (hp : ∀ vs zs : List D, vs.length = 0 → zs.length = ks.length → Put X.K gV vs zs (f2 vs zs)) (hu : ∀ ds, ds.length = n → (f2 [] ds).length = n) (hkw : JK X T W kws wK) (hg : Gl X x := by rfl) (hdb : (x == ("__debug__" : Str)) = false := by decide)
    (hall : (backToKw pos (keywordEach kws X.env)).all (·.1.isSome) = true := by rfl) (hks : (backToKw pos (keywordEach kws X.env)).filterMap (·.1) = ks := by rfl)
    (hpl : ((backTo pos (starEach [] X.env)).any (·.1) || (backToKw pos (keywordEach kws X.env)).any (·.1.isNone)) = false := by rfl) : JE X T W (.Call (.Name x p) [] kws pos) (wMkEk m n fs (f2 []) wK) := by
  obtain ⟨gg, hb⟩ := hb
  exact weak (pe_mkVk F0 oc iC tI F1 hr hb hm hkw hg hdb hall hks hpl) fun σ H Q ⟨ad, F, sl, cs, R, Rx, h0, hw, q, qx⟩ => ⟨ad, F, sl, cs, _, Rx, h0, hw, fun ss c1 zs H1 ad1 hR x1 h1 r1 => by
    obtain ⟨ds, rfl, hd, hK⟩ := wDats_of hR
    have rd := r1.dats
    refine ⟨by rw [rd.length, hd, hk], fun a na => ?_⟩
    obtain ⟨ws, e1, e2⟩ := hp [] ds rfl (hd.trans hk.symm) (.ref a) [] zs rfl rd.length
    rw [e1]
    refine made_val hT h1.hc (e2 _ _ _ .nil rd) ((hu ds hd).trans hl.symm) na fun H' ad' x2 h2 => ?_
    exact q _ _ (.ref a) H' ad' (hK a) (x1.trans h1.hc x2) (h1.to x2 h2) Rep.cls, qx⟩
def refX (ns : List Nat) (s : Sl) (cs : List Cell) (k : Nat → List (Str × D) → Prop)   : Prop := ∃ (p : Addr) (j m : Nat) (fs : List (Str × D)), (s = Sl.dat (.cls p) ∧ cs[j]? = some (Cell.exA p m fs) ∧ m ∈ ns) ∧ k m fs
def wFldX (ns : List Nat) (f : Str) (w : WpE) : WpE := fun sl cs R Rx => w sl cs (fun s c => refX ns s c fun _ fs => ∃ d, fs.lookup f = some d ∧ R (.dat d) c) Rx
def tFldX (K : PySem.W.Frag) (f : Str) (te : TE) : TE := fun σ H Q => te σ H fun x H1 => ∃ a C dd kvs v, x = .ref a ∧ H1 a = some (exo a C (some dd)) ∧ H1 dd = some (exd dd kvs) ∧ (XfC K C ∧ PySem.W.findIn K (.ref C) f = some none) ∧ kvs.lookup f = some v ∧ Q v H1
theorem pe_fldX {te : TE} (he : PE X e te) (hb : attributeBase e f X.env (eval e X.env) = eval e X.env := by rfl) : PE X (.Attribute e f pos) (tFldX X.K f te) := by
  refine ⟨fun pins s σ H Q I h => ?_⟩
  refine attr_of hb (thn (he.run pins s σ H _ I h) fun u s1 hh => ?_)
  obtain ⟨x, H1, I1, rx, a, C, dd, kvs, v, ex, ea, ed, ⟨TT, hno⟩, l, q⟩ := hh
  subst ex
  obtain rfl : u = Value.ref a := rx
  obtain ⟨t1, ha⟩ := exo_at I1.hok ea
  obtain ⟨mA, hns, hr⟩ := exd_at I1.hok ed
  obtain ⟨od, ho, hl⟩ := lookIn_ns hns
  obtain ⟨u, hu, ru⟩ := RelO.some_of (v := v) (o := mA f) (by rw [← l]; exact hr f)
  have J : PySem.W.InstAt s1.heap a _ C (some od) := ⟨ha, rfl, rfl, ho⟩
  exact HandSPX.exc_get I1.kIn J TT.ga TT.gg TT.exC (PySem.W.findObj_own TT.hdC hno rfl (by rw [hl, hu])) (handed_of ru) ⟨v, H1, I1.tok _, ru, q⟩
theorem refX_of {K : PySem.W.Frag} {ad : List Addr} {F : Addr → Prop} {H : Hp} {cs : List Cell} {ns : List Nat} {s : Sl} {v : V} {kk : Nat → List (Str × D) → Prop} (h : refX ns s cs kk) (hc : HoldC T K ad F H cs) (r : SlRep T K ad F H v s) (hn : ∀ m ∈ ns, ∃ C fn, T m = some (C, fn)) :
    ∃ a m C fn fs dd vs, v = .ref a ∧ m ∈ ns ∧ T m = some (C, fn) ∧ H a = some (exo a C dd) ∧ ExDt (Mm ad F) H dd ((fs.map (·.1)).zip vs) ∧ vs.length = fs.length ∧ Reps T K (Mm ad F) H vs (fs.map (·.2)) ∧ kk m fs := by
  obtain ⟨p, j, m, fs, ⟨rfl, e0, hm⟩, hk⟩ := h
  have r : Rep T K (Mm ad F) H v (.cls p) := r
  cases r
  obtain ⟨C, fn, hT⟩ := hn m hm
  obtain ⟨dd, vs, e1, e2, e3, e4⟩ := hc.exA hT e0
  exact ⟨p, m, C, fn, fs, dd, vs, rfl, hm, hT, e1, e2, e3, e4, hk⟩
theorem je_fldX {ns : List Nat} (hx : ∀ m ∈ ns, ∃ C fn, T m = some (C, fn) ∧ XfC X.K C ∧ PySem.W.findIn X.K (.ref C) f = some none) (he : JE X T W e w) (hb : attributeBase e f X.env (eval e X.env) = eval e X.env := by rfl) : JE X T W (.Attribute e f pos) (wFldX ns f w) :=
  weak (pe_fldX he hb) fun σ H Q ⟨ad, F, sl, cs, R, Rx, h0, hw, q, qx⟩ => ⟨ad, F, sl, cs, _, Rx, h0, hw, fun s c1 v H1 ad1 hw1 x1 h1 r1 => by
    obtain ⟨a, m, C, fn, fs, dd, vs, rfl, hm, hT, e1, e2, hl, rr, d, hd, hR⟩ := refX_of hw1 h1.hc r1 fun m hm => let ⟨C, fn, hT, _⟩ := hx m hm; ⟨C, fn, hT⟩
    obtain ⟨C', fn', hT', xc, hno⟩ := hx m hm
    rw [hT] at hT'
    cases hT'
    obtain ⟨w, g1, g2⟩ := look_zip hd rr
    rcases e2 with ⟨z, _⟩ | ⟨dx, rfl, _, e3⟩
    · rw [z] at g1
      cases g1
    · exact ⟨a, C, dx, _, w, rfl, e1, e3, ⟨xc, hno⟩, g1, q _ c1 w H1 ad1 hR x1 h1 g2⟩, qx⟩
def rIsV (K : PySem.W.Frag) : List V → Hp → VK → Prop := fun xs H Q => ∃ (a C : Addr) (dd : Option Addr), H a = some (exo a C dd) ∧ ExcC K C ∧ (dd = none ∨ ∃ d fs, dd = some d ∧ H d = some (exd d fs)) ∧
  ((∃ C2 b, xs = [.ref a, .ref C2] ∧ PySem.W.kitOne K (.ref C) (.ref C2) = some b ∧ Q (.bl b) H) ∨ (∃ (tp : Addr) (cs : List Addr) (b : Bool), xs = [.ref a, .ref tp] ∧ SqT K H tp (cs.map V.ref) ∧ PySem.W.kitAny K (.ref C) (cs.map Value.ref) = some b ∧ Q (.bl b) H) ∨
    ∃ (u : String) (b : Bool), xs = [.ref a, .ty u] ∧ PySem.W.kitOne K (.ref C) (.type u) = some b ∧ Q (.bl b) H)
theorem call_isV : CallR X (.builtin "isinstance") (rIsV X.K) := by
  intro pins s σ H xs us Q I r h
  obtain ⟨a, Ce, dd, ea, c, hd, h⟩ := h
  obtain ⟨t1, hget⟩ := exo_at I.hok ea
  have J : ∃ od, PySem.W.InstAt s.heap a { cls := .ref Ce, dict := dd, data := .fields #[.ref t1, .none, .none, .none, .bool false, .none] } Ce od := by
    rcases hd with rfl | ⟨d, fs, rfl, e⟩
    · exact ⟨none, hget, rfl, rfl, trivial⟩
    · obtain ⟨mA, hns, _⟩ := exd_at I.hok e
      obtain ⟨od, ho, _⟩ := lookIn_ns hns
      exact ⟨some od, hget, rfl, rfl, ho⟩
  obtain ⟨od, J⟩ := J
  rcases h with ⟨C, b, rfl, e, q⟩ | ⟨tp, cs, b, rfl, ht, e, q⟩ | ⟨u, b, rfl, e, q⟩
  · obtain ⟨u1, u2, rfl, r1, r2⟩ := vals2 r
    cases (show u1 = Value.ref a from r1)
    cases (show u2 = Value.ref C from r2)
    exact PySem.W.kia_one (kit_exc c) I.kIn J e (fun z => nomatch z) fun tk => ⟨.bl b, H, I.tok tk, rfl, q⟩
  · obtain ⟨u1, u2, rfl, r1, r2⟩ := vals2 r
    cases (show u1 = Value.ref a from r1)
    cases (show u2 = Value.ref tp from r2)
    obtain ⟨its, rv, ⟨o, h1, h2, m, h3⟩, _⟩ := I.tuple ht
    have e3 := refs_of rv
    subst e3
    obtain ⟨oc, od', dt, sl⟩ := o
    simp only at h2 h3
    subst h2 h3
    exact PySem.W.kia_tup (kit_exc c) I.kIn J h1 e (fun z => nomatch z) fun tk => ⟨.bl b, H, I.tok tk, rfl, q⟩
  · obtain ⟨u1, u2, rfl, r1, r2⟩ := vals2 r
    cases (show u1 = Value.ref a from r1)
    cases (show u2 = Value.type u from r2)
    exact PySem.W.kia_one (kit_exc c) I.kIn J e (fun z => nomatch z) fun tk => ⟨.bl b, H, I.tok tk, rfl, q⟩
theorem exdt_or {M : Addr → Prop} {H : Hp} {dd : Option Addr} {kvs : List (Str × V)} (h : ExDt M H dd kvs) : dd = none ∨ ∃ d fs, dd = some d ∧ H d = some (exd d fs) := by
  rcases h with ⟨_, h⟩ | ⟨d, h1, _, h2⟩
  · exact .inl h
  · exact .inr ⟨d, _, h1, h2⟩
def wIsiX (ns : List Nat) (kb : Nat → Option Bool) (w : WpE) : WpE := fun sl cs R Rx => w sl cs (fun s c => refX ns s c fun m _ => optW (kb m) fun b => R (.dat (.bl b)) c) Rx
section
variable {ns : List Nat} {kb : Nat → Option Bool} {Cs : List Addr} {kk : Pos} {tp : Pos} {u : String} {k2 : Nat}
theorem je_isiX (hi : X.mg "isinstance" = none) (hm : X.mg x = some (.ref C2)) (hk : ∀ m ∈ ns, ∃ C fn, T m = some (C, fn) ∧ ExcC X.K C ∧ ∀ b, kb m = some b → PySem.W.kitOne X.K (.ref C) (.ref C2) = some b) (he : JE X T W e w) (hg : Gl X "isinstance" := by rfl) (hg2 : Gl X x := by rfl) (hdb : (x == ("__debug__" : Str)) = false := by decide)
    (h1 : starEach [e, .Name x p2] X.env = (false, eval e X.env) :: starEach [.Name x p2] X.env := by rfl) (h2 : starEach [.Name x p2] X.env = (false, eval (.Name x p2) X.env) :: starEach [] X.env := by rfl) (hpl : (backTo pos (starEach [.Name x p2] X.env)).any (·.1) = false := by rfl) :
    JE X T W (.Call (.Name "isinstance" p) [e, .Name x p2] [] pos) (wIsiX ns kb w) :=
  weak (pe_callB call_isV hg hi (by decide +kernel) (pa_cons he (pa_cons (pe_glob (v := .ref C2) hg2 hm rfl hdb) pa_nil h2) h1) (by decide) (by decide) h1 hpl) fun σ H Q ⟨ad, F, sl, cs, R, Rx, h0, hw, q, qx⟩ => ⟨ad, F, sl, cs, _, Rx, h0, hw, fun s c1 v H1 ad1 hw1 x1 h1 r1 => by
    obtain ⟨a, m, C, fn, fs, dd, vs, rfl, hm', hT, e1, e2, hl, rr, hK⟩ := refX_of hw1 h1.hc r1 fun m hm => let ⟨C, fn, hT, _⟩ := hk m hm; ⟨C, fn, hT⟩
    obtain ⟨C', fn', hT', xc, hno⟩ := hk m hm'
    rw [hT] at hT'
    cases hT'
    obtain ⟨b, hkb, hR⟩ := optW_of hK
    exact ⟨a, C, dd, e1, xc, exdt_or e2, .inl ⟨C2, b, rfl, hno _ hkb, q _ c1 _ H1 ad1 hR x1 h1 Rep.bl⟩⟩, qx⟩
theorem je_isiXB (hi : X.mg "isinstance" = none) (hm : X.mg x = none) (hv : bootBuiltins x = some (.type u)) (hk : ∀ m ∈ ns, ∃ C fn, T m = some (C, fn) ∧ ExcC X.K C ∧ ∀ b, kb m = some b → PySem.W.kitOne X.K (.ref C) (.type u) = some b) (he : JE X T W e w) (hg : Gl X "isinstance" := by rfl) (hg2 : Gl X x := by rfl) (hn : x ≠ "__name__" := by decide) (hdb : (x == ("__debug__" : Str)) = false := by decide)
    (h1 : starEach [e, .Name x p2] X.env = (false, eval e X.env) :: starEach [.Name x p2] X.env := by rfl) (h2 : starEach [.Name x p2] X.env = (false, eval (.Name x p2) X.env) :: starEach [] X.env := by rfl) (hpl : (backTo pos (starEach [.Name x p2] X.env)).any (·.1) = false := by rfl) :
    JE X T W (.Call (.Name "isinstance" p) [e, .Name x p2] [] pos) (wIsiX ns kb w) :=
  weak (pe_callB call_isV hg hi (by decide +kernel) (pa_cons he (pa_cons (pe_bltn (v := .ty u) hg2 hm hv rfl hn hdb) pa_nil h2) h1) (by decide) (by decide) h1 hpl) fun σ H Q ⟨ad, F, sl, cs, R, Rx, h0, hw, q, qx⟩ => ⟨ad, F, sl, cs, _, Rx, h0, hw, fun s c1 v H1 ad1 hw1 x1 h1 r1 => by
    obtain ⟨a, m, C, fn, fs, dd, vs, rfl, hm', hT, e1, e2, hl, rr, hK⟩ := refX_of hw1 h1.hc r1 fun m hm => let ⟨C, fn, hT, _⟩ := hk m hm; ⟨C, fn, hT⟩
    obtain ⟨C', fn', hT', xc, hno⟩ := hk m hm'
    rw [hT] at hT'
    cases hT'
    obtain ⟨b, hkb, hR⟩ := optW_of hK
    exact ⟨a, C, dd, e1, xc, exdt_or e2, .inr (.inr ⟨u, b, rfl, hno _ hkb, q _ c1 _ H1 ad1 hR x1 h1 Rep.bl⟩)⟩, qx⟩
theorem je_isiXT {kt : Nat} {xs : List Expr} (hi : X.mg "isinstance" = none) (hcs : PA X xs (tCs Cs)) (hl : Cs.length ≤ sizeLine) (hk : ∀ m ∈ ns, ∃ C fn, T m = some (C, fn) ∧ ExcC X.K C ∧ ∀ b, kb m = some b → PySem.W.kitAny X.K (.ref C) (Cs.map Value.ref) = some b) (he : JE X T W e w) (hg : Gl X "isinstance" := by rfl)
    (h1 : starEach [e, .Tuple xs kt tp] X.env = (false, eval e X.env) :: starEach [.Tuple xs kt tp] X.env := by rfl) (h2 : starEach [.Tuple xs kt tp] X.env = (false, eval (.Tuple xs kt tp) X.env) :: starEach [] X.env := by rfl) (hpl : (backTo pos (starEach [.Tuple xs kt tp] X.env)).any (·.1) = false := by rfl) :
    JE X T W (.Call (.Name "isinstance" p) [e, .Tuple xs kt tp] [] pos) (wIsiX ns kb w) :=
  weak (pe_callB call_isV hg hi (by decide +kernel) (pa_cons he (pa_cons (pe_tup hcs) pa_nil h2) h1) (by decide) (by decide) h1 hpl) fun σ H Q ⟨ad, F, sl, cs, R, Rx, h0, hw, q, qx⟩ => ⟨ad, F, sl, cs, _, Rx, h0, hw, fun s c1 v H1 ad1 hw1 x1 h1 r1 => by
    obtain ⟨a, m, C, fn, fs, dd, vs, rfl, hm', hT, e1, e2, hv, rr, hK⟩ := refX_of hw1 h1.hc r1 fun m hm => let ⟨C, fn, hT, _⟩ := hk m hm; ⟨C, fn, hT⟩
    obtain ⟨C', fn', hT', xc, hno⟩ := hk m hm'
    rw [hT] at hT'
    cases hT'
    obtain ⟨b, hkb, hR⟩ := optW_of hK
    refine ⟨by rw [List.length_map]; exact hl, fun tp' hp => ?_⟩
    obtain ⟨c2, x2⟩ := h1.hc.newo (o := .tup (Cs.map V.ref)) hp
    have at_ : ∀ {b : Addr} {o : HO}, H1 b = some o → upd H1 tp' (.tup (Cs.map V.ref)) b = some o := fun {b o} e => by rw [upd_ne (ne_of_none e hp)]; exact e
    refine ⟨a, C, dd, at_ e1, xc, ?_, .inr (.inl ⟨tp', Cs, b, rfl, .inl (.inl upd_same), hno _ hkb, q _ c1 _ _ ad1 hR (x1.trans h1.hc x2) (h1.to x2 c2) Rep.bl⟩)⟩
    rcases exdt_or e2 with z | ⟨d, fs', z, e3⟩
    · exact .inl z
    · exact .inr ⟨d, fs', z, at_ e3⟩, qx⟩
end
end
end Dl
namespace Dl
open PySem PySem.Spec PyProof.Rows L2
theorem Fun.kbnK {K : PySem.W.Frag} {x qual : Str} {st : Stmt} {f : Addr} {fd : FuncData} {ps : List Str} (F : L2.Fun K x qual st f fd) (n : Nat) (ks : List Str) (g : {α : Type} → List α → List α → List α)
    (hrel : ∀ {vs zs : List V} {us ws : List Value}, Vals vs us → Vals zs ws → Vals (g vs zs) (g us ws))
    (h : ∀ (kV doc pm : Value) (an : Option Addr) (cdv ct : Value) (us ws : List Value), us.length = n → ws.length = ks.length → bindArgs (PySem.W.fnOf x qual (defArgs st) (defBody st) (defScope st) .none kV doc pm an cdv ct) ⟨us, ks.zip ws⟩ = pure (ps.zip (g us ws))) :
    KBn K fd ps n ks (fun us ws => g us ws) (fun us ws => g us ws) := by
  obtain ⟨oc, od, kV, doc, pm, an, cdv, ct, osl, rfl, lk, hcd⟩ := F.ex
  exact ⟨fun s us ws _ l1 l2 => .of_eq (h kV doc pm an cdv ct us ws l1 l2), fun r1 r2 => hrel r1 r2⟩
end Dl
namespace Dl
open PySem L2 PySem.Spec PyProof.Rows
class Chk (p : Prop) where
  b : Bool
  ok : b = true → p
instance (priority := low) chkDec {p : Prop} [d : Decidable p] : Chk p := ⟨@decide p d, fun h => of_decide_eq_true h⟩
instance chkAnd {p q : Prop} [c : Chk p] [d : Chk q] : Chk (p ∧ q) := ⟨c.b && d.b, fun h => ⟨c.ok (Bool.and_eq_true_iff.mp h).1, d.ok (Bool.and_eq_true_iff.mp h).2⟩⟩
instance chkBT {b : Bool} : Chk (b = true) := ⟨b, id⟩
theorem b2 {a b : Bool} (h : (a && b) = true) : a = true ∧ b = true := Bool.and_eq_true_iff.mp h
section
variable {K : PySem.W.Frag} {C g p : Addr} {op : Operator} {m : Str}
instance chkCIn : Chk (CIn K C) := ⟨Chk.b (PySem.W.typeIn K (.ref C) = some (.type "type") ∧ PySem.W.readsIn K C (.type "type") = true ∧ PySem.W.specialIn K (.ref C) "__getattribute__" = some (some (.builtin "type.__getattribute__"))) && (match PySem.W.findCls K (.ref C) (.type "type") "__init__" with
    | some (.val (.builtin i)) => decide (i = "ValueError.__init__")
    | _ => false), fun h => by
  obtain ⟨h1, h2⟩ := b2 h
  obtain ⟨x1, x2, x3⟩ := Chk.ok h1
  refine ⟨x1, x2, x3, ?_⟩
  split at h2
  · rename_i i e
    rw [of_decide_eq_true h2] at e
    exact e
  · cases h2⟩
instance chkExcC : Chk (ExcC K C) := ⟨Chk.b (PySem.W.findIn K (.ref C) "__getattribute__" = some (some (.builtin "BaseException.__getattribute__")) ∧ PySem.W.findIn K (.ref C) "__getattr__" = some none ∧ PySem.W.subIn K (.ref C) (.type "BaseException") = some true ∧ PySem.W.hasDictIn K C = true ∧ PySem.W.findIn K (.ref C) "__class__" = some (some (.builtin "object.__class__")) ∧ PySem.W.specialIn K (.builtin "object.__class__") "__get__" = some (some (.builtin "getset_descriptor.__get__")) ∧ PySem.W.takesIn K (.builtin "object.__class__") = some true ∧ PySem.W.mroIn K C (.type "object") = some true), fun h =>
  let ⟨x1, x2, x3, x4, x5, x6, x7, x8⟩ := Chk.ok h
  ⟨x1, x2, x3, x4, x5, x6, x7, x8⟩⟩
instance chkXfC : Chk (XfC K C) := ⟨xfB K C, xfB_ok⟩
def excB (K : PySem.W.Frag) (C : Addr) (r : List Value → Bool) (nid : String) : Bool := match K.lookup C with
  | some ⟨.type "type", _, .cls cd, sl⟩ => (match cd.mro, sl.toList with
    | .ref C' :: bm, [_, _, _, _, some (.builtin n), _] => C' == C && n == nid && !cd.hasDel && cd.hasDict && r bm
    | _, _ => false)
  | _ => false
theorem excB_ok {r : List Value → Bool} {nid : String} (q : excB K C r nid = true) : ∃ nm qn N bs bm sn sub ab col dd k0 k1 k2 k3 k5, K.lookup C = some (excClassObj nm qn C N bs bm true sn sub ab col dd k0 k1 k2 k3 k5 nid) ∧ r bm = true := by
  unfold excB at q
  split at q
  · rename_i dd cd sl ho
    split at q
    · rename_i C' bm k0 k1 k2 k3 n k5 hm hs
      simp only [Bool.and_eq_true, beq_iff_eq, Bool.not_eq_true'] at q
      obtain ⟨⟨⟨⟨e1, e2⟩, e3⟩, e4⟩, hr⟩ := q
      subst e1 e2
      obtain ⟨nm, bs, mro, ns, qn, hd, sn, sub, ab, col, del⟩ := cd
      dsimp only at hm e3 e4
      subst hm e3 e4
      have hsl : sl = #[k0, k1, k2, k3, some (.builtin n), k5] := by
        obtain ⟨l⟩ := sl
        exact congrArg Array.mk hs
      subst hsl
      exact ⟨nm, qn, ns, bs, bm, sn, sub, ab, col, dd, k0, k1, k2, k3, k5, ho, hr⟩
    · cases q
  · cases q
instance chkOexC : Chk (OexC K C) := ⟨excB K C PySem.HandSPX.refsVE "ValueError.__new__" && Chk.b (PySem.W.findIn K (.ref C) "__setattr__" = some (some (.builtin "object.__setattr__")) ∧ PySem.W.subIn K (.ref C) (.type "BaseException") = some true ∧ PySem.W.typeIn K (.ref C) = some (.type "type") ∧ PySem.W.keepIn K (.ref C) = true), fun h => by
  obtain ⟨h1, h2⟩ := b2 h
  obtain ⟨x1, x2, x3, x4⟩ := Chk.ok h2
  obtain ⟨nm, qn, N, bs, bm, sn, sub, ab, col, dd, k0, k1, k2, k3, k5, e, r⟩ := excB_ok h1
  exact ⟨⟨nm, qn, N, bs, bm, sn, sub, ab, col, dd, k0, k1, k2, k3, k5, e, r⟩, x1, x2, x3, x4⟩⟩
def tlB (t : List Value) : List Value → Bool
  | .ref c :: r => decide (Value.ref c :: r = t) || tlB t r
  | l => decide (l = t)
theorem tlB_ok {t : List Value} : ∀ {l : List Value}, tlB t l = true → Tl t l
  | l, h => by
    unfold tlB at h
    split at h
    · rename_i c r
      rcases Bool.or_eq_true_iff.mp h with h | h
      · rw [of_decide_eq_true h]; exact .base
      · exact .ref (tlB_ok h)
    · rw [of_decide_eq_true h]; exact .base
instance chkOexB {t : List Value} {nid : String} : Chk (OexB K C t nid) := ⟨excB K C (tlB t) nid && Chk.b (PySem.W.findIn K (.ref C) "__setattr__" = some (some (.builtin "object.__setattr__")) ∧ PySem.W.subIn K (.ref C) (.type "BaseException") = some true ∧ PySem.W.typeIn K (.ref C) = some (.type "type") ∧ PySem.W.keepIn K (.ref C) = true), fun h => by
  obtain ⟨h1, h2⟩ := b2 h
  obtain ⟨x1, x2, x3, x4⟩ := Chk.ok h2
  obtain ⟨nm, qn, N, bs, bm, sn, sub, ab, col, dd, k0, k1, k2, k3, k5, e, r⟩ := excB_ok h1
  exact ⟨⟨nm, qn, N, bs, bm, sn, sub, ab, col, dd, k0, k1, k2, k3, k5, e, tlB_ok r⟩, x1, x2, x3, x4⟩⟩
instance chkNeC : Chk (NeC K C) := ⟨Chk.b (PySem.W.mroIn K C (.type "object") = some true ∧ PySem.W.findIn K (.ref C) "__ne__" = some (some (.builtin "object.__ne__"))), fun h => let ⟨x1, x2⟩ := Chk.ok h; ⟨x1, x2⟩⟩
instance chkOthC : Chk (OthC K C) := ⟨Chk.b (PySem.W.subIn K (.type "NoneType") (.ref C) = some false ∧ PySem.W.subIn K (.type "bool") (.ref C) = some false ∧ PySem.W.subIn K (.type "int") (.ref C) = some false ∧ PySem.W.subIn K (.type "str") (.ref C) = some false ∧ PySem.W.subIn K (.type "tuple") (.ref C) = some false ∧ PySem.W.subIn K (.type "list") (.ref C) = some false), fun h => let ⟨x1, x2, x3, x4, x5, x6⟩ := Chk.ok h; ⟨x1, x2, x3, x4, x5, x6⟩⟩
instance chkNoIn : Chk (NoIn K C op) := ⟨(match PySem.W.clsIn K C with
    | some cd => decide (cd.mro = [.ref C, .type "object"])
    | none => false) && Chk.b (PySem.W.findIn K (.ref C) (dunderI op.info.2) = some none ∧ PySem.W.findIn K (.type "object") (dunderI op.info.2) = some none), fun h => by
  obtain ⟨h1, h2⟩ := b2 h
  obtain ⟨x1, x2⟩ := Chk.ok h2
  refine ⟨?_, x1, x2⟩
  split at h1
  · rename_i cd e
    exact ⟨cd, e, of_decide_eq_true h1⟩
  · cases h1⟩
instance chkOpC : Chk (OpC K C op g) := ⟨Chk.b (PySem.W.selfFirst K C = true ∧ PySem.W.findIn K (.ref C) (PySem.dunder op.info.2) = some (some (.ref g)) ∧ PySem.W.isFn K (.ref g) = true ∧ PySem.W.subIn K (.type "int") (.ref C) = some false) && ((match PySem.W.findIn K (.ref C) (dunderR op.info.2) with
    | some none => true
    | some (some (.ref _)) => true
    | _ => false) && ((PySem.W.findIn K (.type "int") (PySem.dunder op.info.2)).isSome && (PySem.W.findIn K (.type "int") (dunderR op.info.2)).isSome)), fun h => by
  obtain ⟨h1, h⟩ := b2 h
  obtain ⟨h2, h⟩ := b2 h
  obtain ⟨h3, h4⟩ := b2 h
  obtain ⟨x1, x2, x3, x4⟩ := Chk.ok h1
  refine ⟨x1, x2, x3, ?_, Option.isSome_iff_exists.mp h3, Option.isSome_iff_exists.mp h4, x4⟩
  split at h2
  · rename_i e; exact ⟨_, e, .inl rfl⟩
  · rename_i e; exact ⟨_, e, .inr ⟨_, rfl⟩⟩
  · cases h2⟩
instance chkOpR : Chk (OpR' K C op g) := ⟨Chk.b (PySem.W.selfFirst K C = true ∧ PySem.W.findIn K (.ref C) (dunderR op.info.2) = some (some (.ref g)) ∧ PySem.W.isFn K (.ref g) = true ∧ PySem.W.subIn K (.ref C) (.type "int") = some false) && ((match PySem.W.findIn K (.ref C) (PySem.dunder op.info.2) with
    | some (some (.ref _)) => true
    | _ => false) && (match PySem.W.findIn K (.type "int") (PySem.dunder op.info.2), PySem.W.findIn K (.type "int") (dunderR op.info.2) with
    | some fo, some ro => ((fo.isSome && !isSeqSlot fo) || (ro.isSome && !isSeqSlot ro))
    | _, _ => false)), fun h => by
  obtain ⟨h1, h⟩ := b2 h
  obtain ⟨h2, h3⟩ := b2 h
  obtain ⟨x1, x2, x3, x4⟩ := Chk.ok h1
  refine ⟨x1, ?_, x2, x3, ?_, x4⟩
  · split at h2
    · rename_i e; exact ⟨_, e⟩
    · cases h2
  · split at h3
    · rename_i fo ro e1 e2; exact ⟨fo, ro, e1, e2, h3⟩
    · cases h3⟩
instance chkProp : Chk (PropOf K C m p g) := ⟨Chk.b (PySem.W.findIn K (.ref C) m = some (some (.ref p)) ∧ PySem.W.specialIn K (.ref p) "__get__" = some (some (.builtin "property.__get__")) ∧ PySem.W.takesIn K (.ref p) = some true) && (match PySem.W.recIn K p "property" with
    | some (.ref f :: _) => decide (f = g)
    | _ => false), fun h => by
  obtain ⟨h1, h2⟩ := b2 h
  obtain ⟨x1, x2, x3⟩ := Chk.ok h1
  refine ⟨x1, x2, x3, ?_⟩
  split at h2
  · rename_i f r e
    rw [of_decide_eq_true h2] at e
    exact ⟨r, e⟩
  · cases h2⟩
instance chkSmC : Chk (SmC K C m p g) := ⟨Chk.b (PySem.W.specialIn K (.ref C) "__getattribute__" = some (some (.builtin "type.__getattribute__")) ∧ PySem.W.typeIn K (.ref C) = some (.type "type") ∧ PySem.W.readsIn K C (.type "type") = true) && ((match PySem.W.findCls K (.ref C) (.type "type") m with
    | some (.get (.builtin i) (.ref p') .none (.ref C')) => decide (i = "staticmethod.__get__") && (decide (p' = p) && decide (C' = C))
    | _ => false) && (match PySem.W.recIn K p "staticmethod" with
    | some (.ref f :: _) => decide (f = g)
    | _ => false)), fun h => by
  obtain ⟨h1, h⟩ := b2 h
  obtain ⟨h2, h3⟩ := b2 h
  obtain ⟨x1, x2, x3⟩ := Chk.ok h1
  refine ⟨x1, x2, x3, ?_, ?_⟩
  · split at h2
    · rename_i i p' C' e
      obtain ⟨y1, y⟩ := b2 h2
      obtain ⟨y2, y3⟩ := b2 y
      rw [of_decide_eq_true y1, of_decide_eq_true y2, of_decide_eq_true y3] at e
      exact e
    · cases h2
  · split at h3
    · rename_i f r e
      rw [of_decide_eq_true h3] at e
      exact ⟨r, e⟩
    · cases h3⟩
instance chkGint {x : Str} {i : Int} : Chk (∃ t, PySem.W.nsIn K mainGlobals x = some (some (.int i t))) := ⟨(match PySem.W.nsIn K mainGlobals x with
    | some (some (.int j _)) => decide (j = i)
    | _ => false), fun h => by
  split at h
  · rename_i j t e
    rw [of_decide_eq_true h] at e
    exact ⟨t, e⟩
  · cases h⟩
instance chkGstr {x y : Str} : Chk (∃ t, PySem.W.nsIn K mainGlobals x = some (some (.str y t))) := ⟨(match PySem.W.nsIn K mainGlobals x with
    | some (some (.str z _)) => decide (z = y)
    | _ => false), fun h => by
  split at h
  · rename_i j t e
    rw [of_decide_eq_true h] at e
    exact ⟨t, e⟩
  · cases h⟩
def tupAt (K : PySem.W.Frag) (a : Addr) (vs : List V) : Bool := match K.lookup a with
  | some ⟨.type c, _, .seq its _, _⟩ => decide (c = "tuple") && (decide (its.size ≤ sizeLine) && He.relAll vs its.toList)
  | _ => false
theorem tupAt_ok {a : Addr} {vs : List V} (h : tupAt K a vs = true) : SqT K (fun _ => none) a vs := by
  unfold tupAt at h
  split at h
  · rename_i c od its n sl e
    obtain ⟨h1, h⟩ := b2 h
    obtain ⟨h2, h3⟩ := b2 h
    exact .inr ⟨_, its, n, e, congrArg Value.type (of_decide_eq_true h1), rfl, of_decide_eq_true h2, He.relAll_ok h3⟩
  · cases h
instance chkSqT {a : Addr} {vs : List V} : Chk (SqT K (fun _ => none) a vs) := ⟨tupAt K a vs, tupAt_ok⟩
instance chkKitB {u : String} {b : Bool} : Chk (PySem.W.kitOne K (.ref C) (.type u) = some b) := ⟨PySem.W.kitMeta u && Chk.b (PySem.W.subIn K (.ref C) (.type u) = some b), fun h => kit_tyb (b2 h).1 (Chk.ok (b2 h).2)⟩
instance chkKitC {t : Value} {b : Bool} : Chk (PySem.W.kitOne K t (.ref C) = some b) := ⟨!(t == .ref C) && Chk.b (PySem.W.hasDictIn K C = true ∧ PySem.W.typeIn K (.ref C) = some (.type "type") ∧ PySem.W.subIn K t (.ref C) = some b), fun h => by
  obtain ⟨h1, h2⟩ := b2 h
  obtain ⟨x1, x2, x3⟩ := Chk.ok h2
  exact kit_cls (by simpa using h1) x1 x2 x3⟩
instance chkExm {t : Value} {b : Bool} : Chk (PySem.W.exmOne K t (.ref C) = some b) := ⟨Chk.b (PySem.W.subIn K (.ref C) (.type "BaseException") = some true ∧ PySem.W.hasDictIn K C = true ∧ PySem.W.typeIn K (.ref C) = some (.type "type") ∧ PySem.W.subIn K t (.ref C) = some b), fun h => let ⟨x1, x2, x3, x4⟩ := Chk.ok h; PySem.W.exm_ref x1 x2 x3 x4⟩
instance chkBi {B : String} {n : Str} {i : String} : Chk (PySem.W.findCls K (.type B) (.type "type") n = some (.val (.builtin i))) := ⟨(match PySem.W.findCls K (.type B) (.type "type") n with
    | some (.val (.builtin j)) => decide (j = i)
    | _ => false), fun h => by
  split at h
  · rename_i j e
    rw [of_decide_eq_true h] at e
    exact e
  · cases h⟩
end
abbrev Pa := PySem.W.Frag → Addr
def gP (x : Str) : Pa := fun K => He.ga K x
def mP (c : Pa) (m : Str) : Pa := fun K => He.ma K (c K) m
structure DefX where
  at_ : Pa
  name : Str
  qual : Str
  params : Arguments
  body : List Stmt
  scope : Scope
  dfl : List He.Dv := []
  kwd : List (Str × He.Dv) := []
def DefX.val (d : DefX) : He.FnW := some (d.name, d.qual, d.params, .stmts d.body, d.scope, mainGlobals, [], builtinsNs)
def DefX.dvs (K : PySem.W.Frag) (d : DefX) : List V := d.dfl.map (He.Dv.v K)
def DefX.kws (K : PySem.W.Frag) (d : DefX) : List (Str × V) := d.kwd.map fun q => (q.1, q.2.v K)
def fnX (K : PySem.W.Frag) (a : Addr) : He.FnW := match K.lookup a with
  | some ⟨_, _, .func fd, _⟩ => some (fd.name, fd.qualname, fd.params, fd.body, fd.scope, fd.globals, fd.closure, fd.builtins)
  | _ => none
def DefX.ok (K : PySem.W.Frag) (d : DefX) : Bool := PySem.W.keepIn K (.ref (d.at_ K)) && (match K.lookup (d.at_ K) with
  | some ⟨_, _, .func fd, _⟩ => PySem.W.codeIn K fd.code d.qual && (He.dflB K fd.defaults (d.dvs K) && He.kwdB K fd.kwdefaults (d.kws K))
  | _ => false)
theorem DefX.funD {K : PySem.W.Frag} {d : DefX} (e : fnX K (d.at_ K) = d.val) (c : d.ok K = true) : ∃ fd, FunD K d.name d.qual d.params d.body d.scope (d.dvs K) (d.kws K) (d.at_ K) fd := by
  obtain ⟨kp, c2⟩ := b2 c
  unfold fnX at e
  split at e
  · rename_i oc od fd osl q
    rw [q] at c2
    obtain ⟨n1, n2, n3, n4, n5, n6, n7, n8, n9, n10, n11, n12, n13, n14, n15⟩ := fd
    have e2 : (some (n1, n2, n3, n4, n5, n6, n7, n15) : He.FnW) = some (d.name, d.qual, d.params, .stmts d.body, d.scope, mainGlobals, [], builtinsNs) := e
    simp only [Option.some.injEq, Prod.mk.injEq] at e2
    obtain ⟨h1, h2, h3, h4, h5, h6, h7, h8⟩ := e2
    subst h1 h2 h3 h4 h5 h6 h7 h8
    have c3 : (PySem.W.codeIn K n13 d.qual && (He.dflB K n8 (d.dvs K) && He.kwdB K n9 (d.kws K))) = true := c2
    obtain ⟨k1, k2⟩ := b2 c3
    obtain ⟨k3, k4⟩ := b2 k2
    exact ⟨_, ⟨oc, od, n8, n9, n10, n11, n12, n13, n14, osl, rfl, q, k1, He.dflB_ok k3, He.kwdB_ok k4⟩, kp⟩
  · cases e
theorem toFun {K : PySem.W.Frag} {x qual : Str} {st : Stmt} {f : Addr} {fd : FuncData} (h : FunD K x qual (defArgs st) (defBody st) (defScope st) [] [] f fd) : L2.Fun K x qual st f fd := by
  obtain ⟨oc, od, dV, kV, doc, pm, an, cdv, ct, osl, e, lk, hcd, hd, hk⟩ := h.ex
  rcases hd with ⟨_, rfl⟩ | ⟨z, _⟩
  · exact ⟨⟨oc, od, kV, doc, pm, an, cdv, ct, osl, e, lk, hcd⟩, h.kp⟩
  · exact absurd rfl z
structure Pc where
  p : PySem.W.Frag → Prop
  c : ∀ K, Chk (p K)
abbrev AlX : Type := Bool × List He.FnW
def obsX (fl : List Pc) (fn : List DefX) (K : PySem.W.Frag) : AlX := ((fl.all fun f => (f.c K).b) && fn.all fun d => d.ok K, fn.map fun d => fnX K (d.at_ K))
def valX (fn : List DefX) : AlX := (true, fn.map DefX.val)
def SaysX (fl : List Pc) (fn : List DefX) (K : PySem.W.Frag) : Prop := obsX fl fn K = valX fn
def reachT (g : Addr → Option Obj) : Nat → Nat → List (Addr × Obj) → List Addr → List (Addr × Obj)
  | 0, _, acc, _ => acc
  | n + 1, t, acc, front => match step front t acc [] with
    | (t', acc', nf) => reachT g n t' acc' nf
where step : List Addr → Nat → List (Addr × Obj) → List Addr → Nat × List (Addr × Obj) × List Addr
  | [], t, acc, nf => (t, acc, nf)
  | a :: as, t, acc, nf => match Nat.beq (Nat.land (Nat.shiftRight t a) 1) 0 with
    | false => step as t acc nf
    | true => match g a with
      | some o => step as (Nat.lor t (Nat.shiftLeft 1 a)) ((a, o) :: acc) (He.refsD o ++ nf)
      | none => step as t acc nf
def KX (g : Addr → Option Obj) (n : Nat) : PySem.W.Frag := (reachT g n 0 [] [mainGlobals, cStatics]).reverse
theorem reach_step {g : Addr → Option Obj} : ∀ {as : List Addr} {t : Nat} {acc : List (Addr × Obj)} {nf : List Addr}, (∀ q ∈ acc, g q.1 = some q.2) → ∀ q ∈ (reachT.step g as t acc nf).2.1, g q.1 = some q.2
  | [], t, acc, nf, h => h
  | a :: as, t, acc, nf, h => by
    unfold reachT.step
    split
    · exact reach_step h
    · split
      · rename_i o e
        exact reach_step fun q hq => by
          rcases List.mem_cons.mp hq with rfl | hq
          · exact e
          · exact h q hq
      · exact reach_step h
theorem reach_ok {g : Addr → Option Obj} : ∀ {n : Nat} {t : Nat} {acc : List (Addr × Obj)} {front : List Addr}, (∀ q ∈ acc, g q.1 = some q.2) → ∀ q ∈ reachT g n t acc front, g q.1 = some q.2
  | 0, _, _, _, h => h
  | n + 1, t, acc, front, h => by
    unfold reachT
    exact reach_ok (reach_step h)
theorem KX_in {h : Heap} {n : Nat} : (KX h.get? n).In h := fun a o e => by
  have hm : (a, o) ∈ KX h.get? n := by
    have : ∀ {l : PySem.W.Frag}, l.lookup a = some o → (a, o) ∈ l := by
      intro l
      induction l with
      | nil => intro e; cases e
      | cons p l ih =>
        intro e
        obtain ⟨b, ob⟩ := p
        rw [List.lookup_cons] at e
        cases q : a == b with
        | true =>
          rw [q] at e
          cases e
          rw [beq_iff_eq.mp q]
          exact List.mem_cons_self
        | false =>
          rw [q] at e
          exact List.mem_cons_of_mem _ (ih e)
    exact this e
  exact reach_ok (g := h.get?) (fun q hq => by cases hq) (a, o) (List.mem_reverse.mp hm)
def hookX (n : Nat) (fl : List Pc) (fn : List DefX) : PySem.W.Hook where
  α := AlX
  obs := fun s => obsX fl fn (KX s.heap.get? n)
  val := fun _ => valX fn
  says := fun _ h => ∃ K : PySem.W.Frag, K.In h ∧ SaysX fl fn K
  of := fun _ _ e => ⟨_, KX_in, e⟩
  keeps := fun _ _ _ ⟨K, hK, c⟩ k => ⟨K, PySem.W.Frag.In.keeps hK k, c⟩
def obX (n : Nat) (fl : List Pc) (fn : List DefX) (s : PySem.W.SharedT) : AlX := obsX fl fn (KX (HandSHeadRun.getT s) n)
theorem obX_eq (n : Nat) (fl : List Pc) (fn : List DefX) (s : PySem.W.SharedT) : obX n fl fn s = (hookX n fl fn).obs s.abs := by
  have e : HandSHeadRun.getT s = s.abs.heap.get? := funext (HandSHeadRun.getT_eq s)
  unfold obX
  rw [e]
  rfl
section
variable {fl : List Pc} {fn : List DefX} {K : PySem.W.Frag}
theorem SaysX.fact (c : SaysX fl fn K) (i : Nat) {f : Pc} (h : fl[i]? = some f := by rfl) : f.p K := by
  have c1 := (b2 (show ((fl.all fun f => (f.c K).b) && fn.all fun d => d.ok K) = true from congrArg (fun z : AlX => z.1) c)).1
  exact (f.c K).ok (List.all_eq_true.mp c1 f (List.mem_of_getElem? h))
theorem SaysX.def_ (c : SaysX fl fn K) (i : Nat) {d : DefX} (h : fn[i]? = some d := by rfl) : ∃ fd, FunD K d.name d.qual d.params d.body d.scope (d.dvs K) (d.kws K) (d.at_ K) fd := by
  have c2 := (b2 (show ((fl.all fun f => (f.c K).b) && fn.all fun d => d.ok K) = true from congrArg (fun z : AlX => z.1) c)).2
  have e : fn.map (fun d => fnX K (d.at_ K)) = fn.map DefX.val := congrArg (fun z : AlX => z.2) c
  have e2 : (fn.map fun d => fnX K (d.at_ K))[i]? = (fn.map DefX.val)[i]? := by rw [e]
  rw [List.getElem?_map, List.getElem?_map, h] at e2
  exact DefX.funD (Option.some.inj e2) (List.all_eq_true.mp c2 d (List.mem_of_getElem? h))
end
def Run1 {α : Type} (r : PySem.W.OpenRow) (M : Nat) (f : PySem.W.SharedT → α) (a : α) (w : World) : Prop := ∀ os : OsState, (HandSHeadRun.endF (HandSHeadRun.stepQ (HandSHeadRun.denQ HandSHeadRun.tabQ) r.prog w) M r.prog w os).map f = some a
theorem run3 {r : PySem.W.OpenRow} {q : Program} {H : PySem.W.Hook} {ob : PySem.W.SharedT → H.α} {M : Nat} {loose : List Str} {w : World} (h1 : Run1 r M (fun s => HandSHeadRun.looksF r.prog (PySem.W.boot_heap w.params) s.abs) true w)
    (h2 : Run1 r M (fun s => HandSHeadRun.seenQ q loose (importedModules r.prog.main.body) (fun s => PySem.W.xlAt q [] s && PySem.W.recOk r.toRowW.records s) s.abs) (PySem.W.openGood q loose) w) (h3 : Run1 r M ob (H.val w) w) : HandSHeadRun.RunEq r q H ob M loose w := fun os => by
  have a1 := h1 os
  have a2 := h2 os
  have a3 := h3 os
  cases e : HandSHeadRun.endF (HandSHeadRun.stepQ (HandSHeadRun.denQ HandSHeadRun.tabQ) r.prog w) M r.prog w os with
  | none => rw [e] at a1; cases a1
  | some s =>
    rw [e] at a1 a2 a3
    have b1 := Option.some.inj a1
    have b2 := Option.some.inj a2
    have b3 := Option.some.inj a3
    show some (_, _, _) = some _
    exact congrArg some (Prod.ext b1 (Prod.ext b2 b3))
theorem walk_xG {l : PySem.W.OpenLaw} {n k : Nat} {q : Program} {loose : List Str} {XP : (Str → Option Value) → Heap → Prop} {YP : World → Heap → Prop} {d : DefRec} {x : Str} (hn : l.most = some n) (hn2 : n ≤ sizeLine) (hdf : d.params.defaults = []) (hr : Room k callerA)
    (F : ∀ (w : World) (mg : Str → Option Value) (fa : Addr) (h : Heap), YP w h → h.Ns mainGlobals mg → mg d.name = some (.ref fa) → ∃ (K : PySem.W.Frag) (fd : FuncData), K.In h ∧ (∀ (s : Shared) (u : Value), BindsTo s fd ⟨[u], []⟩ [(x, u)]) ∧ ∀ base : Heap, K.In base → base.Ns mainGlobals mg → FnG l.prog w K mg base CX0 k fa fd [x] (spL K))
    (h63 : n ≤ 63) : PySem.W.WalkO q loose XP YP l.row.toRowW d [] (fun f vs => PySem.call f vs) := by
  refine Att.attach_callB hn hdf fun w s₀ s₁ mg mb fa o pm cd doc a vs ns G Y ho hd hcd hmg h1 h2 h3 h4 h5 => ?_
  obtain ⟨K, fd, KX, hb, hF⟩ := F w mg fa _ Y G.T.g hmg
  exact law_g KX G.T.g G.T.b G.T.builtins G.T.nolimit h5 h1 h2 (Nat.le_trans h3 hn2) hr hF hb fun H hO hS => Dl.spL_of H a ns (Nat.le_trans h3 h63) h4 hO hS
end Dl
namespace K
open PySem L2 Dl
def top (i : Nat) : Stmt := PySem.Challenge.pw_clashcounts_k01_errors.main.body.getD i (.Pass ⟨0, 0, 0, 0⟩)
abbrev FD (K : PySem.W.Frag) (x qual : Str) (st : Stmt) (dvs : List V) (kws : List (Str × V)) (f : Addr) (fd : FuncData) : Prop := FunD K x qual (defArgs st) (defBody st) (defScope st) dvs kws f fd
abbrev s__law_feed : Stmt := top 14
theorem sc__law_feed : FnScope ["_law_script", "_law_k", "_law_cell", "_law_seed"] ["_law_script", "_law_k"] (defScope s__law_feed) := ⟨rfl, rfl, rfl, by decide +kernel, rfl, by decide +kernel, by decide +kernel⟩
abbrev s_InvalidText___init__ : Stmt := inClass (top 3) 0
theorem sc_InvalidText___init__ : FnScope ["self", "line"] ["self", "line"] (defScope s_InvalidText___init__) := ⟨rfl, rfl, rfl, by decide +kernel, rfl, by decide +kernel, by decide +kernel⟩
abbrev s__law_take : Stmt := top 15
theorem sc__law_take : FnScope ["_law_box", "_law_many", "_law_digit", "_law_one"] ["_law_box", "_law_many"] (defScope s__law_take) := ⟨rfl, rfl, rfl, by decide +kernel, rfl, by decide +kernel, by decide +kernel⟩
abbrev s__law_value : Stmt := top 16
theorem sc__law_value : FnScope ["_law_box", "_law_deep", "_law_form", "_law_k", "_law_some"] ["_law_box", "_law_deep"] (defScope s__law_value) := ⟨rfl, rfl, rfl, by decide +kernel, rfl, by decide +kernel, by decide +kernel⟩
abbrev s_InvalidForm___init__ : Stmt := inClass (top 2) 0
theorem sc_InvalidForm___init__ : FnScope ["self"] ["self"] (defScope s_InvalidForm___init__) := ⟨rfl, rfl, rfl, by decide +kernel, rfl, by decide +kernel, by decide +kernel⟩
abbrev s_InvalidPiece___init__ : Stmt := inClass (top 4) 0
theorem sc_InvalidPiece___init__ : FnScope ["self", "word", "at"] ["self", "word", "at"] (defScope s_InvalidPiece___init__) := ⟨rfl, rfl, rfl, by decide +kernel, rfl, by decide +kernel, by decide +kernel⟩
abbrev s_InvalidCount___init__ : Stmt := inClass (top 5) 0
theorem sc_InvalidCount___init__ : FnScope ["self", "word"] ["self", "word"] (defScope s_InvalidCount___init__) := ⟨rfl, rfl, rfl, by decide +kernel, rfl, by decide +kernel, by decide +kernel⟩
abbrev s_InvalidSizes___init__ : Stmt := inClass (top 6) 0
theorem sc_InvalidSizes___init__ : FnScope ["self", "word"] ["self", "word"] (defScope s_InvalidSizes___init__) := ⟨rfl, rfl, rfl, by decide +kernel, rfl, by decide +kernel, by decide +kernel⟩
abbrev s_InvalidSize___init__ : Stmt := inClass (top 7) 0
theorem sc_InvalidSize___init__ : FnScope ["self", "size"] ["self", "size"] (defScope s_InvalidSize___init__) := ⟨rfl, rfl, rfl, by decide +kernel, rfl, by decide +kernel, by decide +kernel⟩
abbrev s_NotReversible___init__ : Stmt := inClass (top 8) 0
theorem sc_NotReversible___init__ : FnScope ["self", "at"] ["self", "at"] (defScope s_NotReversible___init__) := ⟨rfl, rfl, rfl, by decide +kernel, rfl, by decide +kernel, by decide +kernel⟩
abbrev s_InvalidCommand___init__ : Stmt := inClass (top 9) 0
theorem sc_InvalidCommand___init__ : FnScope ["self"] ["self"] (defScope s_InvalidCommand___init__) := ⟨rfl, rfl, rfl, by decide +kernel, rfl, by decide +kernel, by decide +kernel⟩
abbrev s_Refused___init__ : Stmt := inClass (top 10) 0
theorem sc_Refused___init__ : FnScope ["self", "at"] ["self", "at"] (defScope s_Refused___init__) := ⟨rfl, rfl, rfl, by decide +kernel, rfl, by decide +kernel, by decide +kernel⟩
abbrev s_NoDeed___init__ : Stmt := inClass (top 11) 0
theorem sc_NoDeed___init__ : FnScope ["self", "at"] ["self", "at"] (defScope s_NoDeed___init__) := ⟨rfl, rfl, rfl, by decide +kernel, rfl, by decide +kernel, by decide +kernel⟩
abbrev s_UnknownName___init__ : Stmt := inClass (top 12) 0
theorem sc_UnknownName___init__ : FnScope ["self", "name"] ["self", "name"] (defScope s_UnknownName___init__) := ⟨rfl, rfl, rfl, by decide +kernel, rfl, by decide +kernel, by decide +kernel⟩
abbrev s__law_errors : Stmt := top 17
theorem sc__law_errors : FnScope ["_law_a", "_law_b", "_law_found"] ["_law_a", "_law_b"] (defScope s__law_errors) := ⟨rfl, rfl, rfl, by decide +kernel, rfl, by decide +kernel, by decide +kernel⟩
abbrev s__law_named : Stmt := top 18
theorem sc__law_named : FnScope ["_law_a", "_law_b", "_law_found"] ["_law_a", "_law_b"] (defScope s__law_named) := ⟨rfl, rfl, rfl, by decide +kernel, rfl, by decide +kernel, by decide +kernel⟩
abbrev s__law_caught : Stmt := top 21
theorem sc__law_caught : FnScope ["_law_number", "_law_a", "_law_b", "_law_found", "_law_e"] ["_law_number", "_law_a", "_law_b"] (defScope s__law_caught) := ⟨rfl, rfl, rfl, by decide +kernel, rfl, by decide +kernel, by decide +kernel⟩
abbrev s__law_classes : Stmt := top 20
theorem sc__law_classes : FnScope ["_law_e", "_law_found"] ["_law_e"] (defScope s__law_classes) := ⟨rfl, rfl, rfl, by decide +kernel, rfl, by decide +kernel, by decide +kernel⟩
abbrev s__law_kept : Stmt := top 19
theorem sc__law_kept : FnScope ["_law_e"] ["_law_e"] (defScope s__law_kept) := ⟨rfl, rfl, rfl, by decide +kernel, rfl, by decide +kernel, by decide +kernel⟩
abbrev s_law : Stmt := top 22
theorem sc_law : FnScope ["_law_script", "_law_k", "_law_box", "_law_a", "_law_b", "_law_rows", "_law_others", "_law_spot", "_law_e", "_law_due", "_law_own", "_law_other", "_law_under", "_law_one", "_law_given"] ["_law_script"] (defScope s_law) := ⟨rfl, rfl, rfl, by decide +kernel, rfl, by decide +kernel, by decide +kernel⟩
structure Tx (T : Tab) (K : PySem.W.Frag) (mg : Str → Option Value) where
  c_ClashError : Addr
  m_ClashError : mg "ClashError" = some (.ref c_ClashError)
  ci_ClashError : CIn K c_ClashError
  bs_ClashError : PySem.W.subIn K (.ref c_ClashError) (.type "BaseException") = some true
  hd_ClashError : PySem.W.hasDictIn K c_ClashError = true
  c_InvalidForm : Addr
  T_InvalidForm : T 2 = some (c_InvalidForm, ([] : List Str))
  m_InvalidForm : mg "InvalidForm" = some (.ref c_InvalidForm)
  o_InvalidForm : OexB K c_InvalidForm veT "ValueError.__new__"
  x_InvalidForm : ExcC K c_InvalidForm
  xf_InvalidForm : XfC K c_InvalidForm
  c_InvalidText : Addr
  T_InvalidText : T 3 = some (c_InvalidText, (["line"] : List Str))
  m_InvalidText : mg "InvalidText" = some (.ref c_InvalidText)
  o_InvalidText : OexB K c_InvalidText veT "ValueError.__new__"
  x_InvalidText : ExcC K c_InvalidText
  xf_InvalidText : XfC K c_InvalidText
  no_InvalidText_line : PySem.W.findIn K (.ref c_InvalidText) "line" = some none
  c_InvalidPiece : Addr
  T_InvalidPiece : T 4 = some (c_InvalidPiece, (["at", "word"] : List Str))
  m_InvalidPiece : mg "InvalidPiece" = some (.ref c_InvalidPiece)
  o_InvalidPiece : OexB K c_InvalidPiece veT "ValueError.__new__"
  x_InvalidPiece : ExcC K c_InvalidPiece
  xf_InvalidPiece : XfC K c_InvalidPiece
  no_InvalidPiece_at : PySem.W.findIn K (.ref c_InvalidPiece) "at" = some none
  no_InvalidPiece_word : PySem.W.findIn K (.ref c_InvalidPiece) "word" = some none
  c_InvalidCount : Addr
  T_InvalidCount : T 5 = some (c_InvalidCount, (["word"] : List Str))
  m_InvalidCount : mg "InvalidCount" = some (.ref c_InvalidCount)
  o_InvalidCount : OexB K c_InvalidCount veT "ValueError.__new__"
  x_InvalidCount : ExcC K c_InvalidCount
  xf_InvalidCount : XfC K c_InvalidCount
  no_InvalidCount_word : PySem.W.findIn K (.ref c_InvalidCount) "word" = some none
  c_InvalidSizes : Addr
  T_InvalidSizes : T 6 = some (c_InvalidSizes, (["word"] : List Str))
  m_InvalidSizes : mg "InvalidSizes" = some (.ref c_InvalidSizes)
  o_InvalidSizes : OexB K c_InvalidSizes veT "ValueError.__new__"
  x_InvalidSizes : ExcC K c_InvalidSizes
  xf_InvalidSizes : XfC K c_InvalidSizes
  no_InvalidSizes_word : PySem.W.findIn K (.ref c_InvalidSizes) "word" = some none
  c_InvalidSize : Addr
  T_InvalidSize : T 7 = some (c_InvalidSize, (["size"] : List Str))
  m_InvalidSize : mg "InvalidSize" = some (.ref c_InvalidSize)
  o_InvalidSize : OexB K c_InvalidSize veT "ValueError.__new__"
  x_InvalidSize : ExcC K c_InvalidSize
  xf_InvalidSize : XfC K c_InvalidSize
  no_InvalidSize_size : PySem.W.findIn K (.ref c_InvalidSize) "size" = some none
  c_NotReversible : Addr
  T_NotReversible : T 8 = some (c_NotReversible, (["at"] : List Str))
  m_NotReversible : mg "NotReversible" = some (.ref c_NotReversible)
  o_NotReversible : OexB K c_NotReversible veT "ValueError.__new__"
  x_NotReversible : ExcC K c_NotReversible
  xf_NotReversible : XfC K c_NotReversible
  no_NotReversible_at : PySem.W.findIn K (.ref c_NotReversible) "at" = some none
  c_InvalidCommand : Addr
  T_InvalidCommand : T 9 = some (c_InvalidCommand, ([] : List Str))
  m_InvalidCommand : mg "InvalidCommand" = some (.ref c_InvalidCommand)
  o_InvalidCommand : OexB K c_InvalidCommand veT "ValueError.__new__"
  x_InvalidCommand : ExcC K c_InvalidCommand
  xf_InvalidCommand : XfC K c_InvalidCommand
  c_Refused : Addr
  T_Refused : T 10 = some (c_Refused, (["at"] : List Str))
  m_Refused : mg "Refused" = some (.ref c_Refused)
  o_Refused : OexB K c_Refused veT "ValueError.__new__"
  x_Refused : ExcC K c_Refused
  xf_Refused : XfC K c_Refused
  no_Refused_at : PySem.W.findIn K (.ref c_Refused) "at" = some none
  c_NoDeed : Addr
  T_NoDeed : T 11 = some (c_NoDeed, (["at"] : List Str))
  m_NoDeed : mg "NoDeed" = some (.ref c_NoDeed)
  o_NoDeed : OexB K c_NoDeed ieT "IndexError.__new__"
  x_NoDeed : ExcC K c_NoDeed
  xf_NoDeed : XfC K c_NoDeed
  no_NoDeed_at : PySem.W.findIn K (.ref c_NoDeed) "at" = some none
  c_UnknownName : Addr
  T_UnknownName : T 12 = some (c_UnknownName, (["name"] : List Str))
  m_UnknownName : mg "UnknownName" = some (.ref c_UnknownName)
  o_UnknownName : OexB K c_UnknownName keT "LookupError.__new__"
  x_UnknownName : ExcC K c_UnknownName
  xf_UnknownName : XfC K c_UnknownName
  no_UnknownName_name : PySem.W.findIn K (.ref c_UnknownName) "name" = some none
  z_IndexError : mg "IndexError" = none
  z_KeyError : mg "KeyError" = none
  z_ValueError : mg "ValueError" = none
  z_enumerate : mg "enumerate" = none
  z_int : mg "int" = none
  z_isinstance : mg "isinstance" = none
  z_len : mg "len" = none
  z_max : mg "max" = none
  z_min : mg "min" = none
  z_range : mg "range" = none
  z_repr : mg "repr" = none
  z_tuple : mg "tuple" = none
  a__law_feed : Addr
  fd__law_feed : FuncData
  F__law_feed : Fun K "_law_feed" "_law_feed" s__law_feed a__law_feed fd__law_feed
  b__law_feed : Binds K fd__law_feed ["_law_script", "_law_k"] []
  m__law_feed : mg "_law_feed" = some (.ref a__law_feed)
  a_InvalidText___init__ : Addr
  fd_InvalidText___init__ : FuncData
  F_InvalidText___init__ : Fun K "__init__" "InvalidText.__init__" s_InvalidText___init__ a_InvalidText___init__ fd_InvalidText___init__
  b_InvalidText___init__ : Binds K fd_InvalidText___init__ ["self", "line"] []
  at_InvalidText___init__ : PySem.W.findIn K (.ref c_InvalidText) "__init__" = some (some (.ref a_InvalidText___init__))
  ty_InvalidText___init__ : PySem.W.typeIn K (.ref a_InvalidText___init__) = some (.type "function")
  a__law_take : Addr
  fd__law_take : FuncData
  F__law_take : Fun K "_law_take" "_law_take" s__law_take a__law_take fd__law_take
  b__law_take : Binds K fd__law_take ["_law_box", "_law_many"] []
  m__law_take : mg "_law_take" = some (.ref a__law_take)
  a__law_value : Addr
  fd__law_value : FuncData
  F__law_value : Fun K "_law_value" "_law_value" s__law_value a__law_value fd__law_value
  b__law_value : Binds K fd__law_value ["_law_box", "_law_deep"] []
  m__law_value : mg "_law_value" = some (.ref a__law_value)
  a_InvalidForm___init__ : Addr
  fd_InvalidForm___init__ : FuncData
  F_InvalidForm___init__ : Fun K "__init__" "InvalidForm.__init__" s_InvalidForm___init__ a_InvalidForm___init__ fd_InvalidForm___init__
  b_InvalidForm___init__ : Binds K fd_InvalidForm___init__ ["self"] []
  at_InvalidForm___init__ : PySem.W.findIn K (.ref c_InvalidForm) "__init__" = some (some (.ref a_InvalidForm___init__))
  ty_InvalidForm___init__ : PySem.W.typeIn K (.ref a_InvalidForm___init__) = some (.type "function")
  a_InvalidPiece___init__ : Addr
  fd_InvalidPiece___init__ : FuncData
  F_InvalidPiece___init__ : Fun K "__init__" "InvalidPiece.__init__" s_InvalidPiece___init__ a_InvalidPiece___init__ fd_InvalidPiece___init__
  b_InvalidPiece___init__ : Binds K fd_InvalidPiece___init__ ["self", "word", "at"] []
  at_InvalidPiece___init__ : PySem.W.findIn K (.ref c_InvalidPiece) "__init__" = some (some (.ref a_InvalidPiece___init__))
  ty_InvalidPiece___init__ : PySem.W.typeIn K (.ref a_InvalidPiece___init__) = some (.type "function")
  a_InvalidCount___init__ : Addr
  fd_InvalidCount___init__ : FuncData
  F_InvalidCount___init__ : Fun K "__init__" "InvalidCount.__init__" s_InvalidCount___init__ a_InvalidCount___init__ fd_InvalidCount___init__
  b_InvalidCount___init__ : Binds K fd_InvalidCount___init__ ["self", "word"] []
  at_InvalidCount___init__ : PySem.W.findIn K (.ref c_InvalidCount) "__init__" = some (some (.ref a_InvalidCount___init__))
  ty_InvalidCount___init__ : PySem.W.typeIn K (.ref a_InvalidCount___init__) = some (.type "function")
  a_InvalidSizes___init__ : Addr
  fd_InvalidSizes___init__ : FuncData
  F_InvalidSizes___init__ : Fun K "__init__" "InvalidSizes.__init__" s_InvalidSizes___init__ a_InvalidSizes___init__ fd_InvalidSizes___init__
  b_InvalidSizes___init__ : Binds K fd_InvalidSizes___init__ ["self", "word"] []
  at_InvalidSizes___init__ : PySem.W.findIn K (.ref c_InvalidSizes) "__init__" = some (some (.ref a_InvalidSizes___init__))
  ty_InvalidSizes___init__ : PySem.W.typeIn K (.ref a_InvalidSizes___init__) = some (.type "function")
  a_InvalidSize___init__ : Addr
  fd_InvalidSize___init__ : FuncData
  F_InvalidSize___init__ : Fun K "__init__" "InvalidSize.__init__" s_InvalidSize___init__ a_InvalidSize___init__ fd_InvalidSize___init__
  b_InvalidSize___init__ : Binds K fd_InvalidSize___init__ ["self", "size"] []
  at_InvalidSize___init__ : PySem.W.findIn K (.ref c_InvalidSize) "__init__" = some (some (.ref a_InvalidSize___init__))
  ty_InvalidSize___init__ : PySem.W.typeIn K (.ref a_InvalidSize___init__) = some (.type "function")
  a_NotReversible___init__ : Addr
  fd_NotReversible___init__ : FuncData
  F_NotReversible___init__ : Fun K "__init__" "NotReversible.__init__" s_NotReversible___init__ a_NotReversible___init__ fd_NotReversible___init__
  b_NotReversible___init__ : Binds K fd_NotReversible___init__ ["self", "at"] []
  at_NotReversible___init__ : PySem.W.findIn K (.ref c_NotReversible) "__init__" = some (some (.ref a_NotReversible___init__))
  ty_NotReversible___init__ : PySem.W.typeIn K (.ref a_NotReversible___init__) = some (.type "function")
  a_InvalidCommand___init__ : Addr
  fd_InvalidCommand___init__ : FuncData
  F_InvalidCommand___init__ : Fun K "__init__" "InvalidCommand.__init__" s_InvalidCommand___init__ a_InvalidCommand___init__ fd_InvalidCommand___init__
  b_InvalidCommand___init__ : Binds K fd_InvalidCommand___init__ ["self"] []
  at_InvalidCommand___init__ : PySem.W.findIn K (.ref c_InvalidCommand) "__init__" = some (some (.ref a_InvalidCommand___init__))
  ty_InvalidCommand___init__ : PySem.W.typeIn K (.ref a_InvalidCommand___init__) = some (.type "function")
  a_Refused___init__ : Addr
  fd_Refused___init__ : FuncData
  F_Refused___init__ : Fun K "__init__" "Refused.__init__" s_Refused___init__ a_Refused___init__ fd_Refused___init__
  b_Refused___init__ : Binds K fd_Refused___init__ ["self", "at"] []
  at_Refused___init__ : PySem.W.findIn K (.ref c_Refused) "__init__" = some (some (.ref a_Refused___init__))
  ty_Refused___init__ : PySem.W.typeIn K (.ref a_Refused___init__) = some (.type "function")
  a_NoDeed___init__ : Addr
  fd_NoDeed___init__ : FuncData
  F_NoDeed___init__ : Fun K "__init__" "NoDeed.__init__" s_NoDeed___init__ a_NoDeed___init__ fd_NoDeed___init__
  b_NoDeed___init__ : Binds K fd_NoDeed___init__ ["self", "at"] []
  at_NoDeed___init__ : PySem.W.findIn K (.ref c_NoDeed) "__init__" = some (some (.ref a_NoDeed___init__))
  ty_NoDeed___init__ : PySem.W.typeIn K (.ref a_NoDeed___init__) = some (.type "function")
  a_UnknownName___init__ : Addr
  fd_UnknownName___init__ : FuncData
  F_UnknownName___init__ : Fun K "__init__" "UnknownName.__init__" s_UnknownName___init__ a_UnknownName___init__ fd_UnknownName___init__
  b_UnknownName___init__ : Binds K fd_UnknownName___init__ ["self", "name"] []
  at_UnknownName___init__ : PySem.W.findIn K (.ref c_UnknownName) "__init__" = some (some (.ref a_UnknownName___init__))
  ty_UnknownName___init__ : PySem.W.typeIn K (.ref a_UnknownName___init__) = some (.type "function")
  a__law_errors : Addr
  fd__law_errors : FuncData
  F__law_errors : Fun K "_law_errors" "_law_errors" s__law_errors a__law_errors fd__law_errors
  b__law_errors : Binds K fd__law_errors ["_law_a", "_law_b"] []
  m__law_errors : mg "_law_errors" = some (.ref a__law_errors)
  a__law_named : Addr
  fd__law_named : FuncData
  F__law_named : Fun K "_law_named" "_law_named" s__law_named a__law_named fd__law_named
  b__law_named : Binds K fd__law_named ["_law_a", "_law_b"] []
  m__law_named : mg "_law_named" = some (.ref a__law_named)
  a__law_caught : Addr
  fd__law_caught : FuncData
  F__law_caught : Fun K "_law_caught" "_law_caught" s__law_caught a__law_caught fd__law_caught
  b__law_caught : Binds K fd__law_caught ["_law_number", "_law_a", "_law_b"] []
  m__law_caught : mg "_law_caught" = some (.ref a__law_caught)
  a__law_classes : Addr
  fd__law_classes : FuncData
  F__law_classes : Fun K "_law_classes" "_law_classes" s__law_classes a__law_classes fd__law_classes
  b__law_classes : Binds K fd__law_classes ["_law_e"] []
  m__law_classes : mg "_law_classes" = some (.ref a__law_classes)
  a__law_kept : Addr
  fd__law_kept : FuncData
  F__law_kept : Fun K "_law_kept" "_law_kept" s__law_kept a__law_kept fd__law_kept
  b__law_kept : Binds K fd__law_kept ["_law_e"] []
  m__law_kept : mg "_law_kept" = some (.ref a__law_kept)
  a_law : Addr
  fd_law : FuncData
  F_law : Fun K "law" "law" s_law a_law fd_law
  b_law : Binds K fd_law ["_law_script"] []
  m_law : mg "law" = some (.ref a_law)
  ex_InvalidForm_ClashError : PySem.W.exmOne K (.ref c_InvalidForm) (.ref c_ClashError) = some true
  ex_InvalidText_ClashError : PySem.W.exmOne K (.ref c_InvalidText) (.ref c_ClashError) = some true
  ex_InvalidPiece_ClashError : PySem.W.exmOne K (.ref c_InvalidPiece) (.ref c_ClashError) = some true
  ex_InvalidCount_ClashError : PySem.W.exmOne K (.ref c_InvalidCount) (.ref c_ClashError) = some true
  ex_InvalidSizes_ClashError : PySem.W.exmOne K (.ref c_InvalidSizes) (.ref c_ClashError) = some true
  ex_InvalidSize_ClashError : PySem.W.exmOne K (.ref c_InvalidSize) (.ref c_ClashError) = some true
  ex_NotReversible_ClashError : PySem.W.exmOne K (.ref c_NotReversible) (.ref c_ClashError) = some true
  ex_InvalidCommand_ClashError : PySem.W.exmOne K (.ref c_InvalidCommand) (.ref c_ClashError) = some true
  ex_Refused_ClashError : PySem.W.exmOne K (.ref c_Refused) (.ref c_ClashError) = some true
  ex_NoDeed_ClashError : PySem.W.exmOne K (.ref c_NoDeed) (.ref c_ClashError) = some false
  ex_UnknownName_ClashError : PySem.W.exmOne K (.ref c_UnknownName) (.ref c_ClashError) = some false
  ex_InvalidForm_KeyError : PySem.W.exmOne K (.ref c_InvalidForm) (.type "KeyError") = some false
  ex_InvalidText_KeyError : PySem.W.exmOne K (.ref c_InvalidText) (.type "KeyError") = some false
  ex_InvalidPiece_KeyError : PySem.W.exmOne K (.ref c_InvalidPiece) (.type "KeyError") = some false
  ex_InvalidCount_KeyError : PySem.W.exmOne K (.ref c_InvalidCount) (.type "KeyError") = some false
  ex_InvalidSizes_KeyError : PySem.W.exmOne K (.ref c_InvalidSizes) (.type "KeyError") = some false
  ex_InvalidSize_KeyError : PySem.W.exmOne K (.ref c_InvalidSize) (.type "KeyError") = some false
  ex_NotReversible_KeyError : PySem.W.exmOne K (.ref c_NotReversible) (.type "KeyError") = some false
  ex_InvalidCommand_KeyError : PySem.W.exmOne K (.ref c_InvalidCommand) (.type "KeyError") = some false
  ex_Refused_KeyError : PySem.W.exmOne K (.ref c_Refused) (.type "KeyError") = some false
  ex_NoDeed_KeyError : PySem.W.exmOne K (.ref c_NoDeed) (.type "KeyError") = some false
  ex_UnknownName_KeyError : PySem.W.exmOne K (.ref c_UnknownName) (.type "KeyError") = some true
  ex_InvalidForm_NoDeed : PySem.W.exmOne K (.ref c_InvalidForm) (.ref c_NoDeed) = some false
  ex_InvalidText_NoDeed : PySem.W.exmOne K (.ref c_InvalidText) (.ref c_NoDeed) = some false
  ex_InvalidPiece_NoDeed : PySem.W.exmOne K (.ref c_InvalidPiece) (.ref c_NoDeed) = some false
  ex_InvalidCount_NoDeed : PySem.W.exmOne K (.ref c_InvalidCount) (.ref c_NoDeed) = some false
  ex_InvalidSizes_NoDeed : PySem.W.exmOne K (.ref c_InvalidSizes) (.ref c_NoDeed) = some false
  ex_InvalidSize_NoDeed : PySem.W.exmOne K (.ref c_InvalidSize) (.ref c_NoDeed) = some false
  ex_NotReversible_NoDeed : PySem.W.exmOne K (.ref c_NotReversible) (.ref c_NoDeed) = some false
  ex_InvalidCommand_NoDeed : PySem.W.exmOne K (.ref c_InvalidCommand) (.ref c_NoDeed) = some false
  ex_Refused_NoDeed : PySem.W.exmOne K (.ref c_Refused) (.ref c_NoDeed) = some false
  ex_NoDeed_NoDeed : PySem.W.exmOne K (.ref c_NoDeed) (.ref c_NoDeed) = some true
  ex_UnknownName_NoDeed : PySem.W.exmOne K (.ref c_UnknownName) (.ref c_NoDeed) = some false
  no_InvalidForm_at : PySem.W.findIn K (.ref c_InvalidForm) "at" = some none
  no_InvalidText_at : PySem.W.findIn K (.ref c_InvalidText) "at" = some none
  no_InvalidCount_at : PySem.W.findIn K (.ref c_InvalidCount) "at" = some none
  no_InvalidSizes_at : PySem.W.findIn K (.ref c_InvalidSizes) "at" = some none
  no_InvalidSize_at : PySem.W.findIn K (.ref c_InvalidSize) "at" = some none
  no_InvalidCommand_at : PySem.W.findIn K (.ref c_InvalidCommand) "at" = some none
  no_UnknownName_at : PySem.W.findIn K (.ref c_UnknownName) "at" = some none
  no_InvalidForm_line : PySem.W.findIn K (.ref c_InvalidForm) "line" = some none
  no_InvalidPiece_line : PySem.W.findIn K (.ref c_InvalidPiece) "line" = some none
  no_InvalidCount_line : PySem.W.findIn K (.ref c_InvalidCount) "line" = some none
  no_InvalidSizes_line : PySem.W.findIn K (.ref c_InvalidSizes) "line" = some none
  no_InvalidSize_line : PySem.W.findIn K (.ref c_InvalidSize) "line" = some none
  no_NotReversible_line : PySem.W.findIn K (.ref c_NotReversible) "line" = some none
  no_InvalidCommand_line : PySem.W.findIn K (.ref c_InvalidCommand) "line" = some none
  no_Refused_line : PySem.W.findIn K (.ref c_Refused) "line" = some none
  no_NoDeed_line : PySem.W.findIn K (.ref c_NoDeed) "line" = some none
  no_UnknownName_line : PySem.W.findIn K (.ref c_UnknownName) "line" = some none
  no_InvalidForm_name : PySem.W.findIn K (.ref c_InvalidForm) "name" = some none
  no_InvalidText_name : PySem.W.findIn K (.ref c_InvalidText) "name" = some none
  no_InvalidPiece_name : PySem.W.findIn K (.ref c_InvalidPiece) "name" = some none
  no_InvalidCount_name : PySem.W.findIn K (.ref c_InvalidCount) "name" = some none
  no_InvalidSizes_name : PySem.W.findIn K (.ref c_InvalidSizes) "name" = some none
  no_InvalidSize_name : PySem.W.findIn K (.ref c_InvalidSize) "name" = some none
  no_NotReversible_name : PySem.W.findIn K (.ref c_NotReversible) "name" = some none
  no_InvalidCommand_name : PySem.W.findIn K (.ref c_InvalidCommand) "name" = some none
  no_Refused_name : PySem.W.findIn K (.ref c_Refused) "name" = some none
  no_NoDeed_name : PySem.W.findIn K (.ref c_NoDeed) "name" = some none
  no_InvalidForm_size : PySem.W.findIn K (.ref c_InvalidForm) "size" = some none
  no_InvalidText_size : PySem.W.findIn K (.ref c_InvalidText) "size" = some none
  no_InvalidPiece_size : PySem.W.findIn K (.ref c_InvalidPiece) "size" = some none
  no_InvalidCount_size : PySem.W.findIn K (.ref c_InvalidCount) "size" = some none
  no_InvalidSizes_size : PySem.W.findIn K (.ref c_InvalidSizes) "size" = some none
  no_NotReversible_size : PySem.W.findIn K (.ref c_NotReversible) "size" = some none
  no_InvalidCommand_size : PySem.W.findIn K (.ref c_InvalidCommand) "size" = some none
  no_Refused_size : PySem.W.findIn K (.ref c_Refused) "size" = some none
  no_NoDeed_size : PySem.W.findIn K (.ref c_NoDeed) "size" = some none
  no_UnknownName_size : PySem.W.findIn K (.ref c_UnknownName) "size" = some none
  no_InvalidForm_word : PySem.W.findIn K (.ref c_InvalidForm) "word" = some none
  no_InvalidText_word : PySem.W.findIn K (.ref c_InvalidText) "word" = some none
  no_InvalidSize_word : PySem.W.findIn K (.ref c_InvalidSize) "word" = some none
  no_NotReversible_word : PySem.W.findIn K (.ref c_NotReversible) "word" = some none
  no_InvalidCommand_word : PySem.W.findIn K (.ref c_InvalidCommand) "word" = some none
  no_Refused_word : PySem.W.findIn K (.ref c_Refused) "word" = some none
  no_NoDeed_word : PySem.W.findIn K (.ref c_NoDeed) "word" = some none
  no_UnknownName_word : PySem.W.findIn K (.ref c_UnknownName) "word" = some none
  kt_InvalidForm_ClashError : PySem.W.kitOne K (.ref c_InvalidForm) (.ref c_ClashError) = some true
  kt_InvalidText_ClashError : PySem.W.kitOne K (.ref c_InvalidText) (.ref c_ClashError) = some true
  kt_InvalidPiece_ClashError : PySem.W.kitOne K (.ref c_InvalidPiece) (.ref c_ClashError) = some true
  kt_InvalidCount_ClashError : PySem.W.kitOne K (.ref c_InvalidCount) (.ref c_ClashError) = some true
  kt_InvalidSizes_ClashError : PySem.W.kitOne K (.ref c_InvalidSizes) (.ref c_ClashError) = some true
  kt_InvalidSize_ClashError : PySem.W.kitOne K (.ref c_InvalidSize) (.ref c_ClashError) = some true
  kt_NotReversible_ClashError : PySem.W.kitOne K (.ref c_NotReversible) (.ref c_ClashError) = some true
  kt_InvalidCommand_ClashError : PySem.W.kitOne K (.ref c_InvalidCommand) (.ref c_ClashError) = some true
  kt_Refused_ClashError : PySem.W.kitOne K (.ref c_Refused) (.ref c_ClashError) = some true
  kt_NoDeed_ClashError : PySem.W.kitOne K (.ref c_NoDeed) (.ref c_ClashError) = some false
  kt_UnknownName_ClashError : PySem.W.kitOne K (.ref c_UnknownName) (.ref c_ClashError) = some false
  kt_InvalidForm_IndexError : PySem.W.kitOne K (.ref c_InvalidForm) (.type "IndexError") = some false
  kt_InvalidText_IndexError : PySem.W.kitOne K (.ref c_InvalidText) (.type "IndexError") = some false
  kt_InvalidPiece_IndexError : PySem.W.kitOne K (.ref c_InvalidPiece) (.type "IndexError") = some false
  kt_InvalidCount_IndexError : PySem.W.kitOne K (.ref c_InvalidCount) (.type "IndexError") = some false
  kt_InvalidSizes_IndexError : PySem.W.kitOne K (.ref c_InvalidSizes) (.type "IndexError") = some false
  kt_InvalidSize_IndexError : PySem.W.kitOne K (.ref c_InvalidSize) (.type "IndexError") = some false
  kt_NotReversible_IndexError : PySem.W.kitOne K (.ref c_NotReversible) (.type "IndexError") = some false
  kt_InvalidCommand_IndexError : PySem.W.kitOne K (.ref c_InvalidCommand) (.type "IndexError") = some false
  kt_Refused_IndexError : PySem.W.kitOne K (.ref c_Refused) (.type "IndexError") = some false
  kt_NoDeed_IndexError : PySem.W.kitOne K (.ref c_NoDeed) (.type "IndexError") = some true
  kt_UnknownName_IndexError : PySem.W.kitOne K (.ref c_UnknownName) (.type "IndexError") = some false
  kt_InvalidForm_InvalidCommand : PySem.W.kitOne K (.ref c_InvalidForm) (.ref c_InvalidCommand) = some false
  kt_InvalidText_InvalidCommand : PySem.W.kitOne K (.ref c_InvalidText) (.ref c_InvalidCommand) = some false
  kt_InvalidPiece_InvalidCommand : PySem.W.kitOne K (.ref c_InvalidPiece) (.ref c_InvalidCommand) = some false
  kt_InvalidCount_InvalidCommand : PySem.W.kitOne K (.ref c_InvalidCount) (.ref c_InvalidCommand) = some false
  kt_InvalidSizes_InvalidCommand : PySem.W.kitOne K (.ref c_InvalidSizes) (.ref c_InvalidCommand) = some false
  kt_InvalidSize_InvalidCommand : PySem.W.kitOne K (.ref c_InvalidSize) (.ref c_InvalidCommand) = some false
  kt_NotReversible_InvalidCommand : PySem.W.kitOne K (.ref c_NotReversible) (.ref c_InvalidCommand) = some false
  kt_Refused_InvalidCommand : PySem.W.kitOne K (.ref c_Refused) (.ref c_InvalidCommand) = some false
  kt_NoDeed_InvalidCommand : PySem.W.kitOne K (.ref c_NoDeed) (.ref c_InvalidCommand) = some false
  kt_UnknownName_InvalidCommand : PySem.W.kitOne K (.ref c_UnknownName) (.ref c_InvalidCommand) = some false
  kt_InvalidForm_InvalidCount : PySem.W.kitOne K (.ref c_InvalidForm) (.ref c_InvalidCount) = some false
  kt_InvalidText_InvalidCount : PySem.W.kitOne K (.ref c_InvalidText) (.ref c_InvalidCount) = some false
  kt_InvalidPiece_InvalidCount : PySem.W.kitOne K (.ref c_InvalidPiece) (.ref c_InvalidCount) = some false
  kt_InvalidSizes_InvalidCount : PySem.W.kitOne K (.ref c_InvalidSizes) (.ref c_InvalidCount) = some false
  kt_InvalidSize_InvalidCount : PySem.W.kitOne K (.ref c_InvalidSize) (.ref c_InvalidCount) = some false
  kt_NotReversible_InvalidCount : PySem.W.kitOne K (.ref c_NotReversible) (.ref c_InvalidCount) = some false
  kt_InvalidCommand_InvalidCount : PySem.W.kitOne K (.ref c_InvalidCommand) (.ref c_InvalidCount) = some false
  kt_Refused_InvalidCount : PySem.W.kitOne K (.ref c_Refused) (.ref c_InvalidCount) = some false
  kt_NoDeed_InvalidCount : PySem.W.kitOne K (.ref c_NoDeed) (.ref c_InvalidCount) = some false
  kt_UnknownName_InvalidCount : PySem.W.kitOne K (.ref c_UnknownName) (.ref c_InvalidCount) = some false
  kt_InvalidForm_InvalidSizes : PySem.W.kitOne K (.ref c_InvalidForm) (.ref c_InvalidSizes) = some false
  kt_InvalidText_InvalidSizes : PySem.W.kitOne K (.ref c_InvalidText) (.ref c_InvalidSizes) = some false
  kt_InvalidPiece_InvalidSizes : PySem.W.kitOne K (.ref c_InvalidPiece) (.ref c_InvalidSizes) = some false
  kt_InvalidCount_InvalidSizes : PySem.W.kitOne K (.ref c_InvalidCount) (.ref c_InvalidSizes) = some false
  kt_InvalidSize_InvalidSizes : PySem.W.kitOne K (.ref c_InvalidSize) (.ref c_InvalidSizes) = some false
  kt_NotReversible_InvalidSizes : PySem.W.kitOne K (.ref c_NotReversible) (.ref c_InvalidSizes) = some false
  kt_InvalidCommand_InvalidSizes : PySem.W.kitOne K (.ref c_InvalidCommand) (.ref c_InvalidSizes) = some false
  kt_Refused_InvalidSizes : PySem.W.kitOne K (.ref c_Refused) (.ref c_InvalidSizes) = some false
  kt_NoDeed_InvalidSizes : PySem.W.kitOne K (.ref c_NoDeed) (.ref c_InvalidSizes) = some false
  kt_UnknownName_InvalidSizes : PySem.W.kitOne K (.ref c_UnknownName) (.ref c_InvalidSizes) = some false
  kt_InvalidText_InvalidForm : PySem.W.kitOne K (.ref c_InvalidText) (.ref c_InvalidForm) = some false
  kt_InvalidPiece_InvalidForm : PySem.W.kitOne K (.ref c_InvalidPiece) (.ref c_InvalidForm) = some false
  kt_InvalidCount_InvalidForm : PySem.W.kitOne K (.ref c_InvalidCount) (.ref c_InvalidForm) = some false
  kt_InvalidSizes_InvalidForm : PySem.W.kitOne K (.ref c_InvalidSizes) (.ref c_InvalidForm) = some false
  kt_InvalidSize_InvalidForm : PySem.W.kitOne K (.ref c_InvalidSize) (.ref c_InvalidForm) = some false
  kt_NotReversible_InvalidForm : PySem.W.kitOne K (.ref c_NotReversible) (.ref c_InvalidForm) = some false
  kt_InvalidCommand_InvalidForm : PySem.W.kitOne K (.ref c_InvalidCommand) (.ref c_InvalidForm) = some false
  kt_Refused_InvalidForm : PySem.W.kitOne K (.ref c_Refused) (.ref c_InvalidForm) = some false
  kt_NoDeed_InvalidForm : PySem.W.kitOne K (.ref c_NoDeed) (.ref c_InvalidForm) = some false
  kt_UnknownName_InvalidForm : PySem.W.kitOne K (.ref c_UnknownName) (.ref c_InvalidForm) = some false
  kt_InvalidForm_InvalidPiece : PySem.W.kitOne K (.ref c_InvalidForm) (.ref c_InvalidPiece) = some false
  kt_InvalidText_InvalidPiece : PySem.W.kitOne K (.ref c_InvalidText) (.ref c_InvalidPiece) = some false
  kt_InvalidCount_InvalidPiece : PySem.W.kitOne K (.ref c_InvalidCount) (.ref c_InvalidPiece) = some false
  kt_InvalidSizes_InvalidPiece : PySem.W.kitOne K (.ref c_InvalidSizes) (.ref c_InvalidPiece) = some false
  kt_InvalidSize_InvalidPiece : PySem.W.kitOne K (.ref c_InvalidSize) (.ref c_InvalidPiece) = some false
  kt_NotReversible_InvalidPiece : PySem.W.kitOne K (.ref c_NotReversible) (.ref c_InvalidPiece) = some false
  kt_InvalidCommand_InvalidPiece : PySem.W.kitOne K (.ref c_InvalidCommand) (.ref c_InvalidPiece) = some false
  kt_Refused_InvalidPiece : PySem.W.kitOne K (.ref c_Refused) (.ref c_InvalidPiece) = some false
  kt_NoDeed_InvalidPiece : PySem.W.kitOne K (.ref c_NoDeed) (.ref c_InvalidPiece) = some false
  kt_UnknownName_InvalidPiece : PySem.W.kitOne K (.ref c_UnknownName) (.ref c_InvalidPiece) = some false
  kt_InvalidForm_InvalidSize : PySem.W.kitOne K (.ref c_InvalidForm) (.ref c_InvalidSize) = some false
  kt_InvalidText_InvalidSize : PySem.W.kitOne K (.ref c_InvalidText) (.ref c_InvalidSize) = some false
  kt_InvalidPiece_InvalidSize : PySem.W.kitOne K (.ref c_InvalidPiece) (.ref c_InvalidSize) = some false
  kt_InvalidCount_InvalidSize : PySem.W.kitOne K (.ref c_InvalidCount) (.ref c_InvalidSize) = some false
  kt_InvalidSizes_InvalidSize : PySem.W.kitOne K (.ref c_InvalidSizes) (.ref c_InvalidSize) = some false
  kt_NotReversible_InvalidSize : PySem.W.kitOne K (.ref c_NotReversible) (.ref c_InvalidSize) = some false
  kt_InvalidCommand_InvalidSize : PySem.W.kitOne K (.ref c_InvalidCommand) (.ref c_InvalidSize) = some false
  kt_Refused_InvalidSize : PySem.W.kitOne K (.ref c_Refused) (.ref c_InvalidSize) = some false
  kt_NoDeed_InvalidSize : PySem.W.kitOne K (.ref c_NoDeed) (.ref c_InvalidSize) = some false
  kt_UnknownName_InvalidSize : PySem.W.kitOne K (.ref c_UnknownName) (.ref c_InvalidSize) = some false
  kt_InvalidForm_InvalidText : PySem.W.kitOne K (.ref c_InvalidForm) (.ref c_InvalidText) = some false
  kt_InvalidPiece_InvalidText : PySem.W.kitOne K (.ref c_InvalidPiece) (.ref c_InvalidText) = some false
  kt_InvalidCount_InvalidText : PySem.W.kitOne K (.ref c_InvalidCount) (.ref c_InvalidText) = some false
  kt_InvalidSizes_InvalidText : PySem.W.kitOne K (.ref c_InvalidSizes) (.ref c_InvalidText) = some false
  kt_InvalidSize_InvalidText : PySem.W.kitOne K (.ref c_InvalidSize) (.ref c_InvalidText) = some false
  kt_NotReversible_InvalidText : PySem.W.kitOne K (.ref c_NotReversible) (.ref c_InvalidText) = some false
  kt_InvalidCommand_InvalidText : PySem.W.kitOne K (.ref c_InvalidCommand) (.ref c_InvalidText) = some false
  kt_Refused_InvalidText : PySem.W.kitOne K (.ref c_Refused) (.ref c_InvalidText) = some false
  kt_NoDeed_InvalidText : PySem.W.kitOne K (.ref c_NoDeed) (.ref c_InvalidText) = some false
  kt_UnknownName_InvalidText : PySem.W.kitOne K (.ref c_UnknownName) (.ref c_InvalidText) = some false
  kt_InvalidForm_KeyError : PySem.W.kitOne K (.ref c_InvalidForm) (.type "KeyError") = some false
  kt_InvalidText_KeyError : PySem.W.kitOne K (.ref c_InvalidText) (.type "KeyError") = some false
  kt_InvalidPiece_KeyError : PySem.W.kitOne K (.ref c_InvalidPiece) (.type "KeyError") = some false
  kt_InvalidCount_KeyError : PySem.W.kitOne K (.ref c_InvalidCount) (.type "KeyError") = some false
  kt_InvalidSizes_KeyError : PySem.W.kitOne K (.ref c_InvalidSizes) (.type "KeyError") = some false
  kt_InvalidSize_KeyError : PySem.W.kitOne K (.ref c_InvalidSize) (.type "KeyError") = some false
  kt_NotReversible_KeyError : PySem.W.kitOne K (.ref c_NotReversible) (.type "KeyError") = some false
  kt_InvalidCommand_KeyError : PySem.W.kitOne K (.ref c_InvalidCommand) (.type "KeyError") = some false
  kt_Refused_KeyError : PySem.W.kitOne K (.ref c_Refused) (.type "KeyError") = some false
  kt_NoDeed_KeyError : PySem.W.kitOne K (.ref c_NoDeed) (.type "KeyError") = some false
  kt_UnknownName_KeyError : PySem.W.kitOne K (.ref c_UnknownName) (.type "KeyError") = some true
  kt_InvalidForm_NoDeed : PySem.W.kitOne K (.ref c_InvalidForm) (.ref c_NoDeed) = some false
  kt_InvalidText_NoDeed : PySem.W.kitOne K (.ref c_InvalidText) (.ref c_NoDeed) = some false
  kt_InvalidPiece_NoDeed : PySem.W.kitOne K (.ref c_InvalidPiece) (.ref c_NoDeed) = some false
  kt_InvalidCount_NoDeed : PySem.W.kitOne K (.ref c_InvalidCount) (.ref c_NoDeed) = some false
  kt_InvalidSizes_NoDeed : PySem.W.kitOne K (.ref c_InvalidSizes) (.ref c_NoDeed) = some false
  kt_InvalidSize_NoDeed : PySem.W.kitOne K (.ref c_InvalidSize) (.ref c_NoDeed) = some false
  kt_NotReversible_NoDeed : PySem.W.kitOne K (.ref c_NotReversible) (.ref c_NoDeed) = some false
  kt_InvalidCommand_NoDeed : PySem.W.kitOne K (.ref c_InvalidCommand) (.ref c_NoDeed) = some false
  kt_Refused_NoDeed : PySem.W.kitOne K (.ref c_Refused) (.ref c_NoDeed) = some false
  kt_UnknownName_NoDeed : PySem.W.kitOne K (.ref c_UnknownName) (.ref c_NoDeed) = some false
  kt_InvalidForm_NotReversible : PySem.W.kitOne K (.ref c_InvalidForm) (.ref c_NotReversible) = some false
  kt_InvalidText_NotReversible : PySem.W.kitOne K (.ref c_InvalidText) (.ref c_NotReversible) = some false
  kt_InvalidPiece_NotReversible : PySem.W.kitOne K (.ref c_InvalidPiece) (.ref c_NotReversible) = some false
  kt_InvalidCount_NotReversible : PySem.W.kitOne K (.ref c_InvalidCount) (.ref c_NotReversible) = some false
  kt_InvalidSizes_NotReversible : PySem.W.kitOne K (.ref c_InvalidSizes) (.ref c_NotReversible) = some false
  kt_InvalidSize_NotReversible : PySem.W.kitOne K (.ref c_InvalidSize) (.ref c_NotReversible) = some false
  kt_InvalidCommand_NotReversible : PySem.W.kitOne K (.ref c_InvalidCommand) (.ref c_NotReversible) = some false
  kt_Refused_NotReversible : PySem.W.kitOne K (.ref c_Refused) (.ref c_NotReversible) = some false
  kt_NoDeed_NotReversible : PySem.W.kitOne K (.ref c_NoDeed) (.ref c_NotReversible) = some false
  kt_UnknownName_NotReversible : PySem.W.kitOne K (.ref c_UnknownName) (.ref c_NotReversible) = some false
  kt_InvalidForm_Refused : PySem.W.kitOne K (.ref c_InvalidForm) (.ref c_Refused) = some false
  kt_InvalidText_Refused : PySem.W.kitOne K (.ref c_InvalidText) (.ref c_Refused) = some false
  kt_InvalidPiece_Refused : PySem.W.kitOne K (.ref c_InvalidPiece) (.ref c_Refused) = some false
  kt_InvalidCount_Refused : PySem.W.kitOne K (.ref c_InvalidCount) (.ref c_Refused) = some false
  kt_InvalidSizes_Refused : PySem.W.kitOne K (.ref c_InvalidSizes) (.ref c_Refused) = some false
  kt_InvalidSize_Refused : PySem.W.kitOne K (.ref c_InvalidSize) (.ref c_Refused) = some false
  kt_NotReversible_Refused : PySem.W.kitOne K (.ref c_NotReversible) (.ref c_Refused) = some false
  kt_InvalidCommand_Refused : PySem.W.kitOne K (.ref c_InvalidCommand) (.ref c_Refused) = some false
  kt_NoDeed_Refused : PySem.W.kitOne K (.ref c_NoDeed) (.ref c_Refused) = some false
  kt_UnknownName_Refused : PySem.W.kitOne K (.ref c_UnknownName) (.ref c_Refused) = some false
  kt_InvalidForm_UnknownName : PySem.W.kitOne K (.ref c_InvalidForm) (.ref c_UnknownName) = some false
  kt_InvalidText_UnknownName : PySem.W.kitOne K (.ref c_InvalidText) (.ref c_UnknownName) = some false
  kt_InvalidPiece_UnknownName : PySem.W.kitOne K (.ref c_InvalidPiece) (.ref c_UnknownName) = some false
  kt_InvalidCount_UnknownName : PySem.W.kitOne K (.ref c_InvalidCount) (.ref c_UnknownName) = some false
  kt_InvalidSizes_UnknownName : PySem.W.kitOne K (.ref c_InvalidSizes) (.ref c_UnknownName) = some false
  kt_InvalidSize_UnknownName : PySem.W.kitOne K (.ref c_InvalidSize) (.ref c_UnknownName) = some false
  kt_NotReversible_UnknownName : PySem.W.kitOne K (.ref c_NotReversible) (.ref c_UnknownName) = some false
  kt_InvalidCommand_UnknownName : PySem.W.kitOne K (.ref c_InvalidCommand) (.ref c_UnknownName) = some false
  kt_Refused_UnknownName : PySem.W.kitOne K (.ref c_Refused) (.ref c_UnknownName) = some false
  kt_NoDeed_UnknownName : PySem.W.kitOne K (.ref c_NoDeed) (.ref c_UnknownName) = some false
  kt_InvalidForm_ValueError : PySem.W.kitOne K (.ref c_InvalidForm) (.type "ValueError") = some true
  kt_InvalidText_ValueError : PySem.W.kitOne K (.ref c_InvalidText) (.type "ValueError") = some true
  kt_InvalidPiece_ValueError : PySem.W.kitOne K (.ref c_InvalidPiece) (.type "ValueError") = some true
  kt_InvalidCount_ValueError : PySem.W.kitOne K (.ref c_InvalidCount) (.type "ValueError") = some true
  kt_InvalidSizes_ValueError : PySem.W.kitOne K (.ref c_InvalidSizes) (.type "ValueError") = some true
  kt_InvalidSize_ValueError : PySem.W.kitOne K (.ref c_InvalidSize) (.type "ValueError") = some true
  kt_NotReversible_ValueError : PySem.W.kitOne K (.ref c_NotReversible) (.type "ValueError") = some true
  kt_InvalidCommand_ValueError : PySem.W.kitOne K (.ref c_InvalidCommand) (.type "ValueError") = some true
  kt_Refused_ValueError : PySem.W.kitOne K (.ref c_Refused) (.type "ValueError") = some true
  kt_NoDeed_ValueError : PySem.W.kitOne K (.ref c_NoDeed) (.type "ValueError") = some false
  kt_UnknownName_ValueError : PySem.W.kitOne K (.ref c_UnknownName) (.type "ValueError") = some false
  bi_IndexError : PySem.W.findCls K (.type "IndexError") (.type "type") "__init__" = some (.val (.builtin "IndexError.__init__"))
  bi_KeyError : PySem.W.findCls K (.type "KeyError") (.type "type") "__init__" = some (.val (.builtin "KeyError.__init__"))
/-! ### deeds, as data -/
inductive So where
  | flat | rnd | wrd | bdy | arr | reg | fnc | off
def So.ps : So → Str
  | .flat => "flat" | .rnd => "round" | .wrd => "word" | .bdy => "body" | .arr => "array" | .reg => "register" | .fnc => "function" | .off => "offset"
def So.ls : So → Str
  | .flat => "flat" | .rnd => "round" | .wrd => "word" | .bdy => "tuple" | .arr => "array" | .reg => "name" | .fnc => "call" | .off => "offset"
def aV : List V := [.str "A", .str "B", .str "C"]
def rV : List V := [.str "r", .str "s", .str "t"]
def fV : List V := [.str "f", .str "g", .str "h"]
def oV : List V := [.str "i", .str "j"]
def nmB (l : List V) : D → Bool
  | .str x => inV (.str x) l
  | _ => false
def intB : D → Bool
  | .int _ => true
  | _ => false
def tupB : D → Bool
  | .tup _ => true
  | _ => false
/-- a form: its numbers of i, j, p and the constant -/
abbrev fmD (a b p c : Int) : D := .obj 0 [.tup [.int a, .int b, .int p, .int c]]
def flatB : D → Bool
  | .obj 0 [.tup [.int _, .int _, .int p, .int _]] => decide (p = 0)
  | _ => false
def rndB : D → Bool
  | .obj 0 [.tup [.int _, .int _, .int p, .int _]] => decide (p = 1) || decide (p = -1)
  | _ => false
def fitB : So → D → Bool
  | .flat, x => flatB x
  | .rnd, x => rndB x
  | .wrd, x => intB x || nmB rV x
  | .bdy, x => tupB x
  | .arr, x => nmB aV x
  | .reg, x => nmB rV x
  | .fnc, x => nmB fV x
  | .off, x => nmB oV x
def sorts : List (Str × List So) := [("store", [.arr, .flat, .wrd]), ("load", [.reg, .arr, .flat]), ("set", [.reg, .wrd]), ("trade", [.arr, .flat, .arr, .flat]), ("make", [.reg, .fnc, .wrd, .wrd]), ("move", [.off, .flat]), ("spread", [.arr, .arr, .rnd]), ("blend", [.arr, .fnc, .arr, .rnd, .arr, .rnd]), ("when", [.flat, .flat, .bdy, .bdy])]
def sortsOf (x : Str) : Option (List So) := (sorts.find? fun p => decide (p.1 = x)).map (·.2)
def fitsB (ds : List D) (ss : List So) : Bool := decide (ds.length = ss.length) && (ds.zip ss).all fun q => fitB q.2 q.1
/-- a deed, whatever stands in its bodies -/
def deedB : D → Bool
  | .tup (.str x :: ds) => match sortsOf x with
    | some ss => fitsB ds ss
    | none => false
  | _ => false
/-- data of any kind, forms among them -/
inductive Gf : D → Prop
  | non : Gf .non
  | bl (b : Bool) : Gf (.bl b)
  | int (i : Int) : Gf (.int i)
  | str (s : Str) : Gf (.str s)
  | form (a b p c : Int) : Gf (fmD a b p c)
  | tup {ds : List D} : ds.length ≤ 1000 → (∀ d ∈ ds, Gf d) → Gf (.tup ds)
  | lst {ds : List D} : ds.length ≤ 1000 → (∀ d ∈ ds, Gf d) → Gf (.lst ds)
def whenB : D → Bool
  | .tup (.str x :: _) => decide (x = "when")
  | _ => false
def inner : D → List D
  | .tup [.str x, _, _, .tup a, .tup b] => if x = "when" then a ++ b else []
  | _ => []
/-- the first wrong deed within one, from a place on -/
def firstI : Nat → List D → Option (Str × Nat)
  | _, [] => none
  | n, d :: ds => if deedB d = false then some ("form", n) else if whenB d = true then some ("nested", n) else firstI (n + 1) ds
/-- the word and the place of the first wrong deed -/
def firstW : Nat → List D → Option (Str × Nat)
  | _, [] => none
  | n, d :: ds => if deedB d = false then some ("form", n) else match firstI (n + 1) (inner d) with
    | some r => some r
    | none => firstW (n + 1 + (inner d).length) ds
theorem inner_of {d : D} (h : deedB d = true) (w : whenB d = true) : ∃ x y a b, d = .tup [.str "when", x, y, .tup a, .tup b] := by
  unfold whenB at w
  split at w
  · rename_i x ds
    have e : x = "when" := of_decide_eq_true w
    subst e
    have e2 : sortsOf "when" = some [.flat, .flat, .bdy, .bdy] := by kernel_rfl
    have h : (match sortsOf "when" with
      | some ss => fitsB ds ss
      | none => false) = true := h
    rw [e2] at h
    obtain ⟨h1, h2⟩ := Bool.and_eq_true_iff.mp h
    have h1 : ds.length = 4 := of_decide_eq_true h1
    match ds, h1, h2 with
    | [p, q, r, s], _, h2 =>
      have z : ∀ {d : D}, tupB d = true → ∃ a, d = .tup a := fun {d} h => by
        unfold tupB at h
        split at h
        · exact ⟨_, rfl⟩
        · cases h
      have h3 : (fitB .flat p && (fitB .flat q && (tupB r && (tupB s && true)))) = true := h2
      obtain ⟨_, h3⟩ := Bool.and_eq_true_iff.mp h3
      obtain ⟨_, h3⟩ := Bool.and_eq_true_iff.mp h3
      obtain ⟨h4, h3⟩ := Bool.and_eq_true_iff.mp h3
      obtain ⟨h5, _⟩ := Bool.and_eq_true_iff.mp h3
      obtain ⟨a, rfl⟩ := z h4
      obtain ⟨b, rfl⟩ := z h5
      exact ⟨p, q, a, b, rfl⟩
  · cases w
theorem deed_of {d : D} (h : deedB d = true) : ∃ x ds ss, d = .tup (.str x :: ds) ∧ sortsOf x = some ss ∧ ds.length = ss.length := by
  unfold deedB at h
  split at h
  · rename_i x ds
    split at h
    · rename_i ss e
      obtain ⟨h1, _⟩ := Bool.and_eq_true_iff.mp h
      exact ⟨x, ds, ss, rfl, e, of_decide_eq_true h1⟩
    · cases h
  · cases h
theorem inner_no {d : D} (w : whenB d = false) : inner d = [] := by
  unfold inner
  split
  · rename_i x y z a b
    have w : decide (x = "when") = false := w
    rw [if_neg (of_decide_eq_false w)]
  · rfl
/-! ### the law's deeds: rows for forms -/
def gvP : D → D
  | .tup [.int a, .int b, .int p, .int c] => fmD a b p c
  | d => d
/-- numbers of drawn forms -/
def Bd4 (a b p c : Int) : Prop := a.natAbs ≤ 1000 ∧ b.natAbs ≤ 1000 ∧ p.natAbs ≤ 1 ∧ c.natAbs ≤ 1000
def RowD (d : D) : Prop := ∃ a b p c : Int, d = .tup [.int a, .int b, .int p, .int c] ∧ Bd4 a b p c
/-- a part of a law's deed -/
def Pt (d : D) : Prop := (∃ s, d = .str s) ∨ (∃ i, d = .int i ∧ i.natAbs ≤ 10 ^ 12) ∨ RowD d
def gvd : D → D
  | .tup ds => .tup (ds.map gvP)
  | d => d
inductive Parts : List So → List D → Prop
  | nil : Parts [] []
  | cons {so : So} {x : D} {ss : List So} {ds : List D} : Pt x → fitB so (gvP x) = true → Parts ss ds → Parts (so :: ss) (x :: ds)
theorem Parts.len {ss : List So} {ds : List D} (h : Parts ss ds) : ds.length = ss.length := by
  induction h with
  | nil => rfl
  | cons _ _ _ ih => rw [List.length_cons, List.length_cons, ih]
theorem Parts.all {ss : List So} {ds : List D} (h : Parts ss ds) : ∀ x ∈ ds, Pt x := by
  induction h with
  | nil => exact fun _ z => nomatch z
  | cons a _ _ ih => exact fun x hx => (List.mem_cons.mp hx).elim (fun e => e ▸ a) (ih x)
theorem Parts.fits {ss : List So} {ds : List D} (h : Parts ss ds) : ((ds.map gvP).zip ss).all (fun q => fitB q.2 q.1) = true := by
  induction h with
  | nil => rfl
  | cons _ b _ ih =>
    rw [List.map_cons, List.zip_cons_cons, List.all_cons, b, ih]
    rfl
/-- a plain deed of the law -/
def Lp (d : D) : Prop := ∃ w ds ss, d = .tup (.str w :: ds) ∧ w ≠ "when" ∧ sortsOf w = some ss ∧ ss.length ≤ 8 ∧ Parts ss ds
def FlatR (d : D) : Prop := ∃ a b c : Int, d = .tup [.int a, .int b, .int 0, .int c] ∧ Bd4 a b 0 c
/-- a when of the law -/
def Lw (d : D) : Prop := ∃ x y a b, d = .tup [.str "when", x, y, .tup a, .tup b] ∧ FlatR x ∧ FlatR y ∧ a.length ≤ 2 ∧ b.length ≤ 2 ∧ (∀ z ∈ a, Lp z) ∧ ∀ z ∈ b, Lp z
def Ld (d : D) : Prop := Lp d ∨ Lw d
def gvD : D → D
  | .tup [.str s, x, y, .tup a, .tup b] => if s = "when" then .tup [.str "when", gvP x, gvP y, .tup (a.map gvd), .tup (b.map gvd)] else gvd (.tup [.str s, x, y, .tup a, .tup b])
  | d => gvd d
theorem Gf.part {x : D} (h : Pt x) : Gf (gvP x) := by
  rcases h with ⟨s, rfl⟩ | ⟨i, rfl, _⟩ | ⟨a, b, p, c, rfl, _⟩
  · exact .str s
  · exact .int i
  · exact .form a b p c
theorem gvd_p {d : D} (h : Lp d) : deedB (gvd d) = true ∧ whenB (gvd d) = false ∧ Gf (gvd d) := by
  obtain ⟨w, ds, ss, rfl, hw, hs, hl, hp⟩ := h
  have e : gvd (.tup (.str w :: ds)) = .tup (.str w :: ds.map gvP) := rfl
  rw [e]
  refine ⟨?_, decide_eq_false hw, .tup ?_ fun d hd => ?_⟩
  · show (match sortsOf w with
      | some ss => fitsB (ds.map gvP) ss
      | none => false) = true
    rw [hs]
    show fitsB (ds.map gvP) ss = true
    unfold fitsB
    rw [hp.fits, List.length_map, hp.len, decide_eq_true rfl]
    rfl
  · rw [List.length_cons, List.length_map, hp.len]
    omega
  · rcases List.mem_cons.mp hd with rfl | hd
    · exact .str w
    · obtain ⟨x, hx, rfl⟩ := List.mem_map.mp hd
      exact Gf.part (hp.all x hx)
theorem gvD_p {d : D} (h : Lp d) : gvD d = gvd d := by
  obtain ⟨w, ds, ss, rfl, hw, hs, hl, hp⟩ := h
  unfold gvD
  split
  · rename_i s x y a b e
    injection e with e
    injection e with e e2
    injection e with e
    subst e
    rw [if_neg hw, e2]
  · rfl
theorem gvD_w {x y : D} {a b : List D} : gvD (.tup [.str "when", x, y, .tup a, .tup b]) = .tup [.str "when", gvP x, gvP y, .tup (a.map gvd), .tup (b.map gvd)] := by
  unfold gvD
  exact if_pos rfl
theorem FlatR.gv {x : D} (h : FlatR x) : flatB (gvP x) = true ∧ Gf (gvP x) ∧ Pt x := by
  obtain ⟨a, b, c, rfl, hb⟩ := h
  exact ⟨rfl, .form a b 0 c, .inr (.inr ⟨a, b, 0, c, rfl, hb⟩)⟩
/-- a law's deed given as one of the package: it is one, its inner deeds are, none of them a when -/
theorem gvD_ok {d : D} (h : Ld d) : deedB (gvD d) = true ∧ Gf (gvD d) ∧ ∀ x ∈ inner (gvD d), deedB x = true ∧ whenB x = false ∧ Gf x := by
  rcases h with h | ⟨x, y, a, b, rfl, hx, hy, la, lb, ha, hb⟩
  · obtain ⟨h1, h2, h3⟩ := gvd_p h
    rw [gvD_p h]
    refine ⟨h1, h3, ?_⟩
    rw [inner_no h2]
    exact fun _ z => nomatch z
  · rw [gvD_w]
    have all : ∀ z ∈ a.map gvd ++ b.map gvd, deedB z = true ∧ whenB z = false ∧ Gf z := fun z hz => by
      rcases List.mem_append.mp hz with hz | hz
      · obtain ⟨q, hq, rfl⟩ := List.mem_map.mp hz
        exact gvd_p (ha q hq)
      · obtain ⟨q, hq, rfl⟩ := List.mem_map.mp hz
        exact gvd_p (hb q hq)
    refine ⟨?_, ?_, all⟩
    · have e2 : sortsOf "when" = some [.flat, .flat, .bdy, .bdy] := by kernel_rfl
      show (match sortsOf "when" with
        | some ss => fitsB [gvP x, gvP y, .tup (a.map gvd), .tup (b.map gvd)] ss
        | none => false) = true
      rw [e2]
      show (fitB .flat (gvP x) && (fitB .flat (gvP y) && (tupB (.tup (a.map gvd)) && (tupB (.tup (b.map gvd)) && true)))) = true
      rw [show fitB .flat (gvP x) = true from hx.gv.1, show fitB .flat (gvP y) = true from hy.gv.1]
      rfl
    · refine .tup (show (5 : Nat) ≤ 1000 by decide) fun z hz => ?_
      simp only [List.mem_cons, List.not_mem_nil, or_false] at hz
      rcases hz with rfl | rfl | rfl | rfl | rfl
      · exact .str _
      · exact hx.gv.2.1
      · exact hy.gv.2.1
      · exact .tup (by rw [List.length_map]; omega) fun z hz => (all z (List.mem_append_left _ hz)).2.2
      · exact .tup (by rw [List.length_map]; omega) fun z hz => (all z (List.mem_append_right _ hz)).2.2
theorem firstI_ok : ∀ {ds : List D} {n : Nat}, (∀ x ∈ ds, deedB x = true ∧ whenB x = false ∧ Gf x) → firstI n ds = none
  | [], _, _ => rfl
  | d :: ds, n, h => by
    obtain ⟨h1, h2, _⟩ := h d List.mem_cons_self
    rw [firstI, if_neg (by rw [h1]; decide), if_neg (by rw [h2]; decide)]
    exact firstI_ok fun x hx => h x (List.mem_cons_of_mem _ hx)
theorem firstW_ok : ∀ {ds : List D} {n : Nat}, (∀ x ∈ ds, Ld x) → firstW n (ds.map gvD) = none
  | [], _, _ => rfl
  | d :: ds, n, h => by
    obtain ⟨h1, _, h3⟩ := gvD_ok (h d List.mem_cons_self)
    rw [List.map_cons, firstW, if_neg (by rw [h1]; decide), firstI_ok h3]
    exact firstW_ok fun x hx => h x (List.mem_cons_of_mem _ hx)
/-- all deeds in the order of the text -/
def allL (ds : List D) : List D := ds.flatMap fun d => d :: inner d
theorem allL_cons (d : D) (ds : List D) : allL (d :: ds) = d :: inner d ++ allL ds := rfl
theorem allL_app (xs ys : List D) : allL (xs ++ ys) = allL xs ++ allL ys := List.flatMap_append
theorem inner_p {d : D} (h : Lp d) : inner d = [] := by
  obtain ⟨w, ds, ss, rfl, hw, _⟩ := h
  unfold inner
  split
  · rename_i x y z a b e
    injection e with e
    injection e with e _
    injection e with e
    subst e
    rw [if_neg hw]
  · rfl
theorem inner_len {d : D} (h : Ld d) : (inner d).length ≤ 4 ∧ ∀ x ∈ inner d, Lp x := by
  rcases h with h | ⟨x, y, a, b, rfl, _, _, la, lb, ha, hb⟩
  · rw [inner_p h]
    exact ⟨Nat.zero_le _, fun _ z => nomatch z⟩
  · have e : inner (.tup [.str "when", x, y, .tup a, .tup b]) = a ++ b := by
      unfold inner
      exact if_pos rfl
    rw [e, List.length_append]
    exact ⟨by omega, fun z hz => (List.mem_append.mp hz).elim (ha z) (hb z)⟩
theorem allL_len : ∀ {ds : List D}, (∀ d ∈ ds, Ld d) → (allL ds).length ≤ 5 * ds.length ∧ ∀ x ∈ allL ds, Ld x
  | [], _ => ⟨Nat.le_refl _, fun _ z => nomatch z⟩
  | d :: ds, h => by
    obtain ⟨h1, h2⟩ := inner_len (h d List.mem_cons_self)
    obtain ⟨h3, h4⟩ := allL_len fun x hx => h x (List.mem_cons_of_mem _ hx)
    rw [allL_cons]
    refine ⟨by simp only [List.length_append, List.length_cons]; omega, fun x hx => ?_⟩
    rcases List.mem_append.mp hx with hx | hx
    · rcases List.mem_cons.mp hx with rfl | hx
      · exact h x List.mem_cons_self
      · exact .inl (h2 x hx)
    · exact h4 x hx
theorem inner_gv {d : D} (h : Ld d) : (inner (gvD d)).length = (inner d).length := by
  rcases h with h | ⟨x, y, a, b, rfl, _, _, la, lb, ha, hb⟩
  · rw [inner_p h, gvD_p h, inner_no (gvd_p h).2.1]
  · rw [gvD_w]
    have e : ∀ (p q : D) (r s : List D), inner (.tup [.str "when", p, q, .tup r, .tup s]) = r ++ s := fun p q r s => by
      unfold inner
      exact if_pos rfl
    rw [e, e, List.length_append, List.length_append, List.length_map, List.length_map]
theorem allL_gv : ∀ {ds : List D}, (∀ d ∈ ds, Ld d) → (allL (ds.map gvD)).length = (allL ds).length
  | [], _ => rfl
  | d :: ds, h => by
    rw [List.map_cons, allL_cons, allL_cons]
    simp only [List.length_append, List.length_cons]
    rw [inner_gv (h d List.mem_cons_self), allL_gv fun x hx => h x (List.mem_cons_of_mem _ hx)]

theorem Tx.kb_InvalidCount___init___0_word {T : Tab} {K : PySem.W.Frag} {mg : Str → Option Value} (t : Tx T K mg) : ∃ gg, KBn K t.fd_InvalidCount___init__ ["self", "word"] 1 ["word"] gg (fun us ws => us ++ ((ws.drop 0).take 1)) := by
  exact ⟨_, Fun.kbnK t.F_InvalidCount___init__ (ps := ["self", "word"]) 1 ["word"] (fun us ws => us ++ ((ws.drop 0).take 1)) (fun a b => (a.append ((b.drop 0).take 1))) fun _ _ _ _ _ _ us ws l1 l2 => match us, ws, l1, l2 with | [_], [_], _, _ => rfl⟩
def fu_InvalidCount___init___0_word (vs zs : List D) : List D := match vs, zs with | [], [e0] => [e0] | _, _ => []
theorem Tx.put_InvalidCount___init___0_word {T : Tab} {K : PySem.W.Frag} {mg : Str → Option Value} (t : Tx T K mg) : ∀ vs zs : List D, vs.length = 0 → zs.length = (["word"] : List Str).length → Put K (fun us ws => us ++ ((ws.drop 0).take 1)) vs zs (fu_InvalidCount___init___0_word vs zs)
  | [], [e0], _, _ => fun x ws zs h1 h2 => match ws, zs, h1, h2 with | [], [z0], _, _ => ⟨[z0], rfl, fun _ _ _ r1 r2 => match r1, r2 with | .nil, .cons b0 .nil => .cons b0 .nil⟩
theorem Tx.kb_InvalidPiece___init___0_at_word {T : Tab} {K : PySem.W.Frag} {mg : Str → Option Value} (t : Tx T K mg) : ∃ gg, KBn K t.fd_InvalidPiece___init__ ["self", "word", "at"] 1 ["at", "word"] gg (fun us ws => us ++ ((ws.drop 1).take 1) ++ ((ws.drop 0).take 1)) := by
  exact ⟨_, Fun.kbnK t.F_InvalidPiece___init__ (ps := ["self", "word", "at"]) 1 ["at", "word"] (fun us ws => us ++ ((ws.drop 1).take 1) ++ ((ws.drop 0).take 1)) (fun a b => ((a.append ((b.drop 1).take 1)).append ((b.drop 0).take 1))) fun _ _ _ _ _ _ us ws l1 l2 => match us, ws, l1, l2 with | [_], [_, _], _, _ => rfl⟩
def fu_InvalidPiece___init___0_at_word (vs zs : List D) : List D := match vs, zs with | [], [e0, e1] => [e1, e0] | _, _ => []
theorem Tx.put_InvalidPiece___init___0_at_word {T : Tab} {K : PySem.W.Frag} {mg : Str → Option Value} (t : Tx T K mg) : ∀ vs zs : List D, vs.length = 0 → zs.length = (["at", "word"] : List Str).length → Put K (fun us ws => us ++ ((ws.drop 1).take 1) ++ ((ws.drop 0).take 1)) vs zs (fu_InvalidPiece___init___0_at_word vs zs)
  | [], [e0, e1], _, _ => fun x ws zs h1 h2 => match ws, zs, h1, h2 with | [], [z0, z1], _, _ => ⟨[z1, z0], rfl, fun _ _ _ r1 r2 => match r1, r2 with | .nil, .cons b0 (.cons b1 .nil) => .cons b1 (.cons b0 .nil)⟩
theorem Tx.kb_InvalidSize___init___0_size {T : Tab} {K : PySem.W.Frag} {mg : Str → Option Value} (t : Tx T K mg) : ∃ gg, KBn K t.fd_InvalidSize___init__ ["self", "size"] 1 ["size"] gg (fun us ws => us ++ ((ws.drop 0).take 1)) := by
  exact ⟨_, Fun.kbnK t.F_InvalidSize___init__ (ps := ["self", "size"]) 1 ["size"] (fun us ws => us ++ ((ws.drop 0).take 1)) (fun a b => (a.append ((b.drop 0).take 1))) fun _ _ _ _ _ _ us ws l1 l2 => match us, ws, l1, l2 with | [_], [_], _, _ => rfl⟩
def fu_InvalidSize___init___0_size (vs zs : List D) : List D := match vs, zs with | [], [e0] => [e0] | _, _ => []
theorem Tx.put_InvalidSize___init___0_size {T : Tab} {K : PySem.W.Frag} {mg : Str → Option Value} (t : Tx T K mg) : ∀ vs zs : List D, vs.length = 0 → zs.length = (["size"] : List Str).length → Put K (fun us ws => us ++ ((ws.drop 0).take 1)) vs zs (fu_InvalidSize___init___0_size vs zs)
  | [], [e0], _, _ => fun x ws zs h1 h2 => match ws, zs, h1, h2 with | [], [z0], _, _ => ⟨[z0], rfl, fun _ _ _ r1 r2 => match r1, r2 with | .nil, .cons b0 .nil => .cons b0 .nil⟩
theorem Tx.kb_InvalidSizes___init___0_word {T : Tab} {K : PySem.W.Frag} {mg : Str → Option Value} (t : Tx T K mg) : ∃ gg, KBn K t.fd_InvalidSizes___init__ ["self", "word"] 1 ["word"] gg (fun us ws => us ++ ((ws.drop 0).take 1)) := by
  exact ⟨_, Fun.kbnK t.F_InvalidSizes___init__ (ps := ["self", "word"]) 1 ["word"] (fun us ws => us ++ ((ws.drop 0).take 1)) (fun a b => (a.append ((b.drop 0).take 1))) fun _ _ _ _ _ _ us ws l1 l2 => match us, ws, l1, l2 with | [_], [_], _, _ => rfl⟩
def fu_InvalidSizes___init___0_word (vs zs : List D) : List D := match vs, zs with | [], [e0] => [e0] | _, _ => []
theorem Tx.put_InvalidSizes___init___0_word {T : Tab} {K : PySem.W.Frag} {mg : Str → Option Value} (t : Tx T K mg) : ∀ vs zs : List D, vs.length = 0 → zs.length = (["word"] : List Str).length → Put K (fun us ws => us ++ ((ws.drop 0).take 1)) vs zs (fu_InvalidSizes___init___0_word vs zs)
  | [], [e0], _, _ => fun x ws zs h1 h2 => match ws, zs, h1, h2 with | [], [z0], _, _ => ⟨[z0], rfl, fun _ _ _ r1 r2 => match r1, r2 with | .nil, .cons b0 .nil => .cons b0 .nil⟩
theorem Tx.kb_InvalidText___init___0_line {T : Tab} {K : PySem.W.Frag} {mg : Str → Option Value} (t : Tx T K mg) : ∃ gg, KBn K t.fd_InvalidText___init__ ["self", "line"] 1 ["line"] gg (fun us ws => us ++ ((ws.drop 0).take 1)) := by
  exact ⟨_, Fun.kbnK t.F_InvalidText___init__ (ps := ["self", "line"]) 1 ["line"] (fun us ws => us ++ ((ws.drop 0).take 1)) (fun a b => (a.append ((b.drop 0).take 1))) fun _ _ _ _ _ _ us ws l1 l2 => match us, ws, l1, l2 with | [_], [_], _, _ => rfl⟩
def fu_InvalidText___init___0_line (vs zs : List D) : List D := match vs, zs with | [], [e0] => [e0] | _, _ => []
theorem Tx.put_InvalidText___init___0_line {T : Tab} {K : PySem.W.Frag} {mg : Str → Option Value} (t : Tx T K mg) : ∀ vs zs : List D, vs.length = 0 → zs.length = (["line"] : List Str).length → Put K (fun us ws => us ++ ((ws.drop 0).take 1)) vs zs (fu_InvalidText___init___0_line vs zs)
  | [], [e0], _, _ => fun x ws zs h1 h2 => match ws, zs, h1, h2 with | [], [z0], _, _ => ⟨[z0], rfl, fun _ _ _ r1 r2 => match r1, r2 with | .nil, .cons b0 .nil => .cons b0 .nil⟩
theorem Tx.kb_NoDeed___init___0_at {T : Tab} {K : PySem.W.Frag} {mg : Str → Option Value} (t : Tx T K mg) : ∃ gg, KBn K t.fd_NoDeed___init__ ["self", "at"] 1 ["at"] gg (fun us ws => us ++ ((ws.drop 0).take 1)) := by
  exact ⟨_, Fun.kbnK t.F_NoDeed___init__ (ps := ["self", "at"]) 1 ["at"] (fun us ws => us ++ ((ws.drop 0).take 1)) (fun a b => (a.append ((b.drop 0).take 1))) fun _ _ _ _ _ _ us ws l1 l2 => match us, ws, l1, l2 with | [_], [_], _, _ => rfl⟩
def fu_NoDeed___init___0_at (vs zs : List D) : List D := match vs, zs with | [], [e0] => [e0] | _, _ => []
theorem Tx.put_NoDeed___init___0_at {T : Tab} {K : PySem.W.Frag} {mg : Str → Option Value} (t : Tx T K mg) : ∀ vs zs : List D, vs.length = 0 → zs.length = (["at"] : List Str).length → Put K (fun us ws => us ++ ((ws.drop 0).take 1)) vs zs (fu_NoDeed___init___0_at vs zs)
  | [], [e0], _, _ => fun x ws zs h1 h2 => match ws, zs, h1, h2 with | [], [z0], _, _ => ⟨[z0], rfl, fun _ _ _ r1 r2 => match r1, r2 with | .nil, .cons b0 .nil => .cons b0 .nil⟩
theorem Tx.kb_NotReversible___init___0_at {T : Tab} {K : PySem.W.Frag} {mg : Str → Option Value} (t : Tx T K mg) : ∃ gg, KBn K t.fd_NotReversible___init__ ["self", "at"] 1 ["at"] gg (fun us ws => us ++ ((ws.drop 0).take 1)) := by
  exact ⟨_, Fun.kbnK t.F_NotReversible___init__ (ps := ["self", "at"]) 1 ["at"] (fun us ws => us ++ ((ws.drop 0).take 1)) (fun a b => (a.append ((b.drop 0).take 1))) fun _ _ _ _ _ _ us ws l1 l2 => match us, ws, l1, l2 with | [_], [_], _, _ => rfl⟩
def fu_NotReversible___init___0_at (vs zs : List D) : List D := match vs, zs with | [], [e0] => [e0] | _, _ => []
theorem Tx.put_NotReversible___init___0_at {T : Tab} {K : PySem.W.Frag} {mg : Str → Option Value} (t : Tx T K mg) : ∀ vs zs : List D, vs.length = 0 → zs.length = (["at"] : List Str).length → Put K (fun us ws => us ++ ((ws.drop 0).take 1)) vs zs (fu_NotReversible___init___0_at vs zs)
  | [], [e0], _, _ => fun x ws zs h1 h2 => match ws, zs, h1, h2 with | [], [z0], _, _ => ⟨[z0], rfl, fun _ _ _ r1 r2 => match r1, r2 with | .nil, .cons b0 .nil => .cons b0 .nil⟩
theorem Tx.kb_Refused___init___0_at {T : Tab} {K : PySem.W.Frag} {mg : Str → Option Value} (t : Tx T K mg) : ∃ gg, KBn K t.fd_Refused___init__ ["self", "at"] 1 ["at"] gg (fun us ws => us ++ ((ws.drop 0).take 1)) := by
  exact ⟨_, Fun.kbnK t.F_Refused___init__ (ps := ["self", "at"]) 1 ["at"] (fun us ws => us ++ ((ws.drop 0).take 1)) (fun a b => (a.append ((b.drop 0).take 1))) fun _ _ _ _ _ _ us ws l1 l2 => match us, ws, l1, l2 with | [_], [_], _, _ => rfl⟩
def fu_Refused___init___0_at (vs zs : List D) : List D := match vs, zs with | [], [e0] => [e0] | _, _ => []
theorem Tx.put_Refused___init___0_at {T : Tab} {K : PySem.W.Frag} {mg : Str → Option Value} (t : Tx T K mg) : ∀ vs zs : List D, vs.length = 0 → zs.length = (["at"] : List Str).length → Put K (fun us ws => us ++ ((ws.drop 0).take 1)) vs zs (fu_Refused___init___0_at vs zs)
  | [], [e0], _, _ => fun x ws zs h1 h2 => match ws, zs, h1, h2 with | [], [z0], _, _ => ⟨[z0], rfl, fun _ _ _ r1 r2 => match r1, r2 with | .nil, .cons b0 .nil => .cons b0 .nil⟩
theorem Tx.kb_UnknownName___init___0_name {T : Tab} {K : PySem.W.Frag} {mg : Str → Option Value} (t : Tx T K mg) : ∃ gg, KBn K t.fd_UnknownName___init__ ["self", "name"] 1 ["name"] gg (fun us ws => us ++ ((ws.drop 0).take 1)) := by
  exact ⟨_, Fun.kbnK t.F_UnknownName___init__ (ps := ["self", "name"]) 1 ["name"] (fun us ws => us ++ ((ws.drop 0).take 1)) (fun a b => (a.append ((b.drop 0).take 1))) fun _ _ _ _ _ _ us ws l1 l2 => match us, ws, l1, l2 with | [_], [_], _, _ => rfl⟩
def fu_UnknownName___init___0_name (vs zs : List D) : List D := match vs, zs with | [], [e0] => [e0] | _, _ => []
theorem Tx.put_UnknownName___init___0_name {T : Tab} {K : PySem.W.Frag} {mg : Str → Option Value} (t : Tx T K mg) : ∀ vs zs : List D, vs.length = 0 → zs.length = (["name"] : List Str).length → Put K (fun us ws => us ++ ((ws.drop 0).take 1)) vs zs (fu_UnknownName___init___0_name vs zs)
  | [], [e0], _, _ => fun x ws zs h1 h2 => match ws, zs, h1, h2 with | [], [z0], _, _ => ⟨[z0], rfl, fun _ _ _ r1 r2 => match r1, r2 with | .nil, .cons b0 .nil => .cons b0 .nil⟩
def xfn (n : Nat) : List Str := match n with | 2 => [] | 3 => ["line"] | 4 => ["at", "word"] | 5 => ["word"] | 6 => ["word"] | 7 => ["size"] | 8 => ["at"] | 9 => [] | 10 => ["at"] | 11 => ["at"] | 12 => ["name"] | _ => []
def isErr (n : Nat) : Bool := match n with | 2 => true | 3 => true | 4 => true | 5 => true | 6 => true | 7 => true | 8 => true | 9 => true | 10 => true | 11 => true | 12 => true | _ => false
def mt_ClashError (n : Nat) : Option Bool := match n with | 2 => some true | 3 => some true | 4 => some true | 5 => some true | 6 => some true | 7 => some true | 8 => some true | 9 => some true | 10 => some true | 11 => some false | 12 => some false | _ => none
theorem Tx.nm_ClashError {X : Cx} {T : Tab} (t : Tx T X.K X.mg) (hg : Gl X "ClashError") : Names X "ClashError" (.ref t.c_ClashError) := ⟨hg, by decide, .inl t.m_ClashError⟩
theorem Tx.mt_of_ClashError {T : Tab} {K : PySem.W.Frag} {mg : Str → Option Value} (t : Tx T K mg) : ∀ m b, mt_ClashError m = some b → ∀ C fn, T m = some (C, fn) → PySem.W.exmOne K (.ref C) (.ref t.c_ClashError) = some b := fun m b h C fn hT => by
  unfold mt_ClashError at h
  split at h
  · cases h; have := t.T_InvalidForm; rw [hT] at this; cases this; exact t.ex_InvalidForm_ClashError
  · cases h; have := t.T_InvalidText; rw [hT] at this; cases this; exact t.ex_InvalidText_ClashError
  · cases h; have := t.T_InvalidPiece; rw [hT] at this; cases this; exact t.ex_InvalidPiece_ClashError
  · cases h; have := t.T_InvalidCount; rw [hT] at this; cases this; exact t.ex_InvalidCount_ClashError
  · cases h; have := t.T_InvalidSizes; rw [hT] at this; cases this; exact t.ex_InvalidSizes_ClashError
  · cases h; have := t.T_InvalidSize; rw [hT] at this; cases this; exact t.ex_InvalidSize_ClashError
  · cases h; have := t.T_NotReversible; rw [hT] at this; cases this; exact t.ex_NotReversible_ClashError
  · cases h; have := t.T_InvalidCommand; rw [hT] at this; cases this; exact t.ex_InvalidCommand_ClashError
  · cases h; have := t.T_Refused; rw [hT] at this; cases this; exact t.ex_Refused_ClashError
  · cases h; have := t.T_NoDeed; rw [hT] at this; cases this; exact t.ex_NoDeed_ClashError
  · cases h; have := t.T_UnknownName; rw [hT] at this; cases this; exact t.ex_UnknownName_ClashError
  · cases h
theorem mt_err_ClashError {m : Nat} (h : mt_ClashError m = some true) : isErr m = true := by
  unfold mt_ClashError at h
  split at h
  · rfl
  · rfl
  · rfl
  · rfl
  · rfl
  · rfl
  · rfl
  · rfl
  · rfl
  · cases h
  · cases h
  · cases h
def mt_KeyError (n : Nat) : Option Bool := match n with | 2 => some false | 3 => some false | 4 => some false | 5 => some false | 6 => some false | 7 => some false | 8 => some false | 9 => some false | 10 => some false | 11 => some false | 12 => some true | _ => none
theorem Tx.mt_of_KeyError {T : Tab} {K : PySem.W.Frag} {mg : Str → Option Value} (t : Tx T K mg) : ∀ m b, mt_KeyError m = some b → ∀ C fn, T m = some (C, fn) → PySem.W.exmOne K (.ref C) (.type "KeyError") = some b := fun m b h C fn hT => by
  unfold mt_KeyError at h
  split at h
  · cases h; have := t.T_InvalidForm; rw [hT] at this; cases this; exact t.ex_InvalidForm_KeyError
  · cases h; have := t.T_InvalidText; rw [hT] at this; cases this; exact t.ex_InvalidText_KeyError
  · cases h; have := t.T_InvalidPiece; rw [hT] at this; cases this; exact t.ex_InvalidPiece_KeyError
  · cases h; have := t.T_InvalidCount; rw [hT] at this; cases this; exact t.ex_InvalidCount_KeyError
  · cases h; have := t.T_InvalidSizes; rw [hT] at this; cases this; exact t.ex_InvalidSizes_KeyError
  · cases h; have := t.T_InvalidSize; rw [hT] at this; cases this; exact t.ex_InvalidSize_KeyError
  · cases h; have := t.T_NotReversible; rw [hT] at this; cases this; exact t.ex_NotReversible_KeyError
  · cases h; have := t.T_InvalidCommand; rw [hT] at this; cases this; exact t.ex_InvalidCommand_KeyError
  · cases h; have := t.T_Refused; rw [hT] at this; cases this; exact t.ex_Refused_KeyError
  · cases h; have := t.T_NoDeed; rw [hT] at this; cases this; exact t.ex_NoDeed_KeyError
  · cases h; have := t.T_UnknownName; rw [hT] at this; cases this; exact t.ex_UnknownName_KeyError
  · cases h
theorem mt_err_KeyError {m : Nat} (h : mt_KeyError m = some true) : isErr m = true := by
  unfold mt_KeyError at h
  split at h
  · cases h
  · cases h
  · cases h
  · cases h
  · cases h
  · cases h
  · cases h
  · cases h
  · cases h
  · cases h
  · rfl
  · cases h
def mt_NoDeed (n : Nat) : Option Bool := match n with | 2 => some false | 3 => some false | 4 => some false | 5 => some false | 6 => some false | 7 => some false | 8 => some false | 9 => some false | 10 => some false | 11 => some true | 12 => some false | _ => none
theorem Tx.nm_NoDeed {X : Cx} {T : Tab} (t : Tx T X.K X.mg) (hg : Gl X "NoDeed") : Names X "NoDeed" (.ref t.c_NoDeed) := ⟨hg, by decide, .inl t.m_NoDeed⟩
theorem Tx.mt_of_NoDeed {T : Tab} {K : PySem.W.Frag} {mg : Str → Option Value} (t : Tx T K mg) : ∀ m b, mt_NoDeed m = some b → ∀ C fn, T m = some (C, fn) → PySem.W.exmOne K (.ref C) (.ref t.c_NoDeed) = some b := fun m b h C fn hT => by
  unfold mt_NoDeed at h
  split at h
  · cases h; have := t.T_InvalidForm; rw [hT] at this; cases this; exact t.ex_InvalidForm_NoDeed
  · cases h; have := t.T_InvalidText; rw [hT] at this; cases this; exact t.ex_InvalidText_NoDeed
  · cases h; have := t.T_InvalidPiece; rw [hT] at this; cases this; exact t.ex_InvalidPiece_NoDeed
  · cases h; have := t.T_InvalidCount; rw [hT] at this; cases this; exact t.ex_InvalidCount_NoDeed
  · cases h; have := t.T_InvalidSizes; rw [hT] at this; cases this; exact t.ex_InvalidSizes_NoDeed
  · cases h; have := t.T_InvalidSize; rw [hT] at this; cases this; exact t.ex_InvalidSize_NoDeed
  · cases h; have := t.T_NotReversible; rw [hT] at this; cases this; exact t.ex_NotReversible_NoDeed
  · cases h; have := t.T_InvalidCommand; rw [hT] at this; cases this; exact t.ex_InvalidCommand_NoDeed
  · cases h; have := t.T_Refused; rw [hT] at this; cases this; exact t.ex_Refused_NoDeed
  · cases h; have := t.T_NoDeed; rw [hT] at this; cases this; exact t.ex_NoDeed_NoDeed
  · cases h; have := t.T_UnknownName; rw [hT] at this; cases this; exact t.ex_UnknownName_NoDeed
  · cases h
theorem mt_err_NoDeed {m : Nat} (h : mt_NoDeed m = some true) : isErr m = true := by
  unfold mt_NoDeed at h
  split at h
  · cases h
  · cases h
  · cases h
  · cases h
  · cases h
  · cases h
  · cases h
  · cases h
  · cases h
  · rfl
  · cases h
  · cases h
theorem Tx.exc_of_ClashError {T : Tab} {K : PySem.W.Frag} {mg : Str → Option Value} {m : Nat} {Ce : Addr} {fn : List Str} (t : Tx T K mg) (hm : mt_ClashError m = some true) (hT : T m = some (Ce, fn)) : ExcC K Ce := by
  have he := mt_err_ClashError hm
  unfold isErr at he
  split at he
  · have := t.T_InvalidForm; rw [hT] at this; cases this; exact t.x_InvalidForm
  · have := t.T_InvalidText; rw [hT] at this; cases this; exact t.x_InvalidText
  · have := t.T_InvalidPiece; rw [hT] at this; cases this; exact t.x_InvalidPiece
  · have := t.T_InvalidCount; rw [hT] at this; cases this; exact t.x_InvalidCount
  · have := t.T_InvalidSizes; rw [hT] at this; cases this; exact t.x_InvalidSizes
  · have := t.T_InvalidSize; rw [hT] at this; cases this; exact t.x_InvalidSize
  · have := t.T_NotReversible; rw [hT] at this; cases this; exact t.x_NotReversible
  · have := t.T_InvalidCommand; rw [hT] at this; cases this; exact t.x_InvalidCommand
  · have := t.T_Refused; rw [hT] at this; cases this; exact t.x_Refused
  · have := t.T_NoDeed; rw [hT] at this; cases this; exact t.x_NoDeed
  · have := t.T_UnknownName; rw [hT] at this; cases this; exact t.x_UnknownName
  · cases he
theorem Tx.err_of_ClashError {X : Cx} {T : Tab} {m : Nat} {Ce : Addr} {fn : List Str} {a : Addr} {oe : Obj} {d : Option Addr} (t : Tx T X.K X.mg) (hm : mt_ClashError m = some true) (hT : T m = some (Ce, fn)) (hz : Zc (.ref Ce) d oe) (hv : ∃ vs, oe.data = .fields vs) : Err X T m a d Ce oe := ⟨t.exc_of_ClashError hm hT, hz, hv, _, hT⟩
theorem Tx.xf_of_ClashError {T : Tab} {K : PySem.W.Frag} {mg : Str → Option Value} {m : Nat} {Ce : Addr} {fn : List Str} (t : Tx T K mg) (hm : mt_ClashError m = some true) (hT : T m = some (Ce, fn)) : XfC K Ce := by
  have he := mt_err_ClashError hm
  unfold isErr at he
  split at he
  · have := t.T_InvalidForm; rw [hT] at this; cases this; exact t.xf_InvalidForm
  · have := t.T_InvalidText; rw [hT] at this; cases this; exact t.xf_InvalidText
  · have := t.T_InvalidPiece; rw [hT] at this; cases this; exact t.xf_InvalidPiece
  · have := t.T_InvalidCount; rw [hT] at this; cases this; exact t.xf_InvalidCount
  · have := t.T_InvalidSizes; rw [hT] at this; cases this; exact t.xf_InvalidSizes
  · have := t.T_InvalidSize; rw [hT] at this; cases this; exact t.xf_InvalidSize
  · have := t.T_NotReversible; rw [hT] at this; cases this; exact t.xf_NotReversible
  · have := t.T_InvalidCommand; rw [hT] at this; cases this; exact t.xf_InvalidCommand
  · have := t.T_Refused; rw [hT] at this; cases this; exact t.xf_Refused
  · have := t.T_NoDeed; rw [hT] at this; cases this; exact t.xf_NoDeed
  · have := t.T_UnknownName; rw [hT] at this; cases this; exact t.xf_UnknownName
  · cases he
theorem Tx.T_of_ClashError {T : Tab} {K : PySem.W.Frag} {mg : Str → Option Value} {m : Nat} {Ce : Addr} {fn : List Str} (t : Tx T K mg) (hm : mt_ClashError m = some true) (hT : T m = some (Ce, fn)) : T m = some (Ce, xfn m) := by
  have he := mt_err_ClashError hm
  unfold isErr at he
  split at he
  · have := t.T_InvalidForm; rw [hT] at this; cases this; exact t.T_InvalidForm
  · have := t.T_InvalidText; rw [hT] at this; cases this; exact t.T_InvalidText
  · have := t.T_InvalidPiece; rw [hT] at this; cases this; exact t.T_InvalidPiece
  · have := t.T_InvalidCount; rw [hT] at this; cases this; exact t.T_InvalidCount
  · have := t.T_InvalidSizes; rw [hT] at this; cases this; exact t.T_InvalidSizes
  · have := t.T_InvalidSize; rw [hT] at this; cases this; exact t.T_InvalidSize
  · have := t.T_NotReversible; rw [hT] at this; cases this; exact t.T_NotReversible
  · have := t.T_InvalidCommand; rw [hT] at this; cases this; exact t.T_InvalidCommand
  · have := t.T_Refused; rw [hT] at this; cases this; exact t.T_Refused
  · have := t.T_NoDeed; rw [hT] at this; cases this; exact t.T_NoDeed
  · have := t.T_UnknownName; rw [hT] at this; cases this; exact t.T_UnknownName
  · cases he
theorem Tx.no_of_ClashError_at {T : Tab} {K : PySem.W.Frag} {mg : Str → Option Value} {m : Nat} {Ce : Addr} {fn : List Str} (t : Tx T K mg) (hm : mt_ClashError m = some true) (hT : T m = some (Ce, fn)) : PySem.W.findIn K (.ref Ce) "at" = some none := by
  have he := mt_err_ClashError hm
  unfold isErr at he
  split at he
  · have := t.T_InvalidForm; rw [hT] at this; cases this; exact t.no_InvalidForm_at
  · have := t.T_InvalidText; rw [hT] at this; cases this; exact t.no_InvalidText_at
  · have := t.T_InvalidPiece; rw [hT] at this; cases this; exact t.no_InvalidPiece_at
  · have := t.T_InvalidCount; rw [hT] at this; cases this; exact t.no_InvalidCount_at
  · have := t.T_InvalidSizes; rw [hT] at this; cases this; exact t.no_InvalidSizes_at
  · have := t.T_InvalidSize; rw [hT] at this; cases this; exact t.no_InvalidSize_at
  · have := t.T_NotReversible; rw [hT] at this; cases this; exact t.no_NotReversible_at
  · have := t.T_InvalidCommand; rw [hT] at this; cases this; exact t.no_InvalidCommand_at
  · have := t.T_Refused; rw [hT] at this; cases this; exact t.no_Refused_at
  · have := t.T_NoDeed; rw [hT] at this; cases this; exact t.no_NoDeed_at
  · have := t.T_UnknownName; rw [hT] at this; cases this; exact t.no_UnknownName_at
  · cases he
theorem Tx.no_of_ClashError_line {T : Tab} {K : PySem.W.Frag} {mg : Str → Option Value} {m : Nat} {Ce : Addr} {fn : List Str} (t : Tx T K mg) (hm : mt_ClashError m = some true) (hT : T m = some (Ce, fn)) : PySem.W.findIn K (.ref Ce) "line" = some none := by
  have he := mt_err_ClashError hm
  unfold isErr at he
  split at he
  · have := t.T_InvalidForm; rw [hT] at this; cases this; exact t.no_InvalidForm_line
  · have := t.T_InvalidText; rw [hT] at this; cases this; exact t.no_InvalidText_line
  · have := t.T_InvalidPiece; rw [hT] at this; cases this; exact t.no_InvalidPiece_line
  · have := t.T_InvalidCount; rw [hT] at this; cases this; exact t.no_InvalidCount_line
  · have := t.T_InvalidSizes; rw [hT] at this; cases this; exact t.no_InvalidSizes_line
  · have := t.T_InvalidSize; rw [hT] at this; cases this; exact t.no_InvalidSize_line
  · have := t.T_NotReversible; rw [hT] at this; cases this; exact t.no_NotReversible_line
  · have := t.T_InvalidCommand; rw [hT] at this; cases this; exact t.no_InvalidCommand_line
  · have := t.T_Refused; rw [hT] at this; cases this; exact t.no_Refused_line
  · have := t.T_NoDeed; rw [hT] at this; cases this; exact t.no_NoDeed_line
  · have := t.T_UnknownName; rw [hT] at this; cases this; exact t.no_UnknownName_line
  · cases he
theorem Tx.no_of_ClashError_name {T : Tab} {K : PySem.W.Frag} {mg : Str → Option Value} {m : Nat} {Ce : Addr} {fn : List Str} (t : Tx T K mg) (hm : mt_ClashError m = some true) (hT : T m = some (Ce, fn)) : PySem.W.findIn K (.ref Ce) "name" = some none := by
  have he := mt_err_ClashError hm
  unfold isErr at he
  split at he
  · have := t.T_InvalidForm; rw [hT] at this; cases this; exact t.no_InvalidForm_name
  · have := t.T_InvalidText; rw [hT] at this; cases this; exact t.no_InvalidText_name
  · have := t.T_InvalidPiece; rw [hT] at this; cases this; exact t.no_InvalidPiece_name
  · have := t.T_InvalidCount; rw [hT] at this; cases this; exact t.no_InvalidCount_name
  · have := t.T_InvalidSizes; rw [hT] at this; cases this; exact t.no_InvalidSizes_name
  · have := t.T_InvalidSize; rw [hT] at this; cases this; exact t.no_InvalidSize_name
  · have := t.T_NotReversible; rw [hT] at this; cases this; exact t.no_NotReversible_name
  · have := t.T_InvalidCommand; rw [hT] at this; cases this; exact t.no_InvalidCommand_name
  · have := t.T_Refused; rw [hT] at this; cases this; exact t.no_Refused_name
  · have := t.T_NoDeed; rw [hT] at this; cases this; exact t.no_NoDeed_name
  · have := t.T_UnknownName; rw [hT] at this; cases this; exact t.no_UnknownName_name
  · cases he
theorem Tx.no_of_ClashError_size {T : Tab} {K : PySem.W.Frag} {mg : Str → Option Value} {m : Nat} {Ce : Addr} {fn : List Str} (t : Tx T K mg) (hm : mt_ClashError m = some true) (hT : T m = some (Ce, fn)) : PySem.W.findIn K (.ref Ce) "size" = some none := by
  have he := mt_err_ClashError hm
  unfold isErr at he
  split at he
  · have := t.T_InvalidForm; rw [hT] at this; cases this; exact t.no_InvalidForm_size
  · have := t.T_InvalidText; rw [hT] at this; cases this; exact t.no_InvalidText_size
  · have := t.T_InvalidPiece; rw [hT] at this; cases this; exact t.no_InvalidPiece_size
  · have := t.T_InvalidCount; rw [hT] at this; cases this; exact t.no_InvalidCount_size
  · have := t.T_InvalidSizes; rw [hT] at this; cases this; exact t.no_InvalidSizes_size
  · have := t.T_InvalidSize; rw [hT] at this; cases this; exact t.no_InvalidSize_size
  · have := t.T_NotReversible; rw [hT] at this; cases this; exact t.no_NotReversible_size
  · have := t.T_InvalidCommand; rw [hT] at this; cases this; exact t.no_InvalidCommand_size
  · have := t.T_Refused; rw [hT] at this; cases this; exact t.no_Refused_size
  · have := t.T_NoDeed; rw [hT] at this; cases this; exact t.no_NoDeed_size
  · have := t.T_UnknownName; rw [hT] at this; cases this; exact t.no_UnknownName_size
  · cases he
theorem Tx.no_of_ClashError_word {T : Tab} {K : PySem.W.Frag} {mg : Str → Option Value} {m : Nat} {Ce : Addr} {fn : List Str} (t : Tx T K mg) (hm : mt_ClashError m = some true) (hT : T m = some (Ce, fn)) : PySem.W.findIn K (.ref Ce) "word" = some none := by
  have he := mt_err_ClashError hm
  unfold isErr at he
  split at he
  · have := t.T_InvalidForm; rw [hT] at this; cases this; exact t.no_InvalidForm_word
  · have := t.T_InvalidText; rw [hT] at this; cases this; exact t.no_InvalidText_word
  · have := t.T_InvalidPiece; rw [hT] at this; cases this; exact t.no_InvalidPiece_word
  · have := t.T_InvalidCount; rw [hT] at this; cases this; exact t.no_InvalidCount_word
  · have := t.T_InvalidSizes; rw [hT] at this; cases this; exact t.no_InvalidSizes_word
  · have := t.T_InvalidSize; rw [hT] at this; cases this; exact t.no_InvalidSize_word
  · have := t.T_NotReversible; rw [hT] at this; cases this; exact t.no_NotReversible_word
  · have := t.T_InvalidCommand; rw [hT] at this; cases this; exact t.no_InvalidCommand_word
  · have := t.T_Refused; rw [hT] at this; cases this; exact t.no_Refused_word
  · have := t.T_NoDeed; rw [hT] at this; cases this; exact t.no_NoDeed_word
  · have := t.T_UnknownName; rw [hT] at this; cases this; exact t.no_UnknownName_word
  · cases he
theorem Tx.exc_of_KeyError {T : Tab} {K : PySem.W.Frag} {mg : Str → Option Value} {m : Nat} {Ce : Addr} {fn : List Str} (t : Tx T K mg) (hm : mt_KeyError m = some true) (hT : T m = some (Ce, fn)) : ExcC K Ce := by
  have he := mt_err_KeyError hm
  unfold isErr at he
  split at he
  · have := t.T_InvalidForm; rw [hT] at this; cases this; exact t.x_InvalidForm
  · have := t.T_InvalidText; rw [hT] at this; cases this; exact t.x_InvalidText
  · have := t.T_InvalidPiece; rw [hT] at this; cases this; exact t.x_InvalidPiece
  · have := t.T_InvalidCount; rw [hT] at this; cases this; exact t.x_InvalidCount
  · have := t.T_InvalidSizes; rw [hT] at this; cases this; exact t.x_InvalidSizes
  · have := t.T_InvalidSize; rw [hT] at this; cases this; exact t.x_InvalidSize
  · have := t.T_NotReversible; rw [hT] at this; cases this; exact t.x_NotReversible
  · have := t.T_InvalidCommand; rw [hT] at this; cases this; exact t.x_InvalidCommand
  · have := t.T_Refused; rw [hT] at this; cases this; exact t.x_Refused
  · have := t.T_NoDeed; rw [hT] at this; cases this; exact t.x_NoDeed
  · have := t.T_UnknownName; rw [hT] at this; cases this; exact t.x_UnknownName
  · cases he
theorem Tx.err_of_KeyError {X : Cx} {T : Tab} {m : Nat} {Ce : Addr} {fn : List Str} {a : Addr} {oe : Obj} {d : Option Addr} (t : Tx T X.K X.mg) (hm : mt_KeyError m = some true) (hT : T m = some (Ce, fn)) (hz : Zc (.ref Ce) d oe) (hv : ∃ vs, oe.data = .fields vs) : Err X T m a d Ce oe := ⟨t.exc_of_KeyError hm hT, hz, hv, _, hT⟩
theorem Tx.xf_of_KeyError {T : Tab} {K : PySem.W.Frag} {mg : Str → Option Value} {m : Nat} {Ce : Addr} {fn : List Str} (t : Tx T K mg) (hm : mt_KeyError m = some true) (hT : T m = some (Ce, fn)) : XfC K Ce := by
  have he := mt_err_KeyError hm
  unfold isErr at he
  split at he
  · have := t.T_InvalidForm; rw [hT] at this; cases this; exact t.xf_InvalidForm
  · have := t.T_InvalidText; rw [hT] at this; cases this; exact t.xf_InvalidText
  · have := t.T_InvalidPiece; rw [hT] at this; cases this; exact t.xf_InvalidPiece
  · have := t.T_InvalidCount; rw [hT] at this; cases this; exact t.xf_InvalidCount
  · have := t.T_InvalidSizes; rw [hT] at this; cases this; exact t.xf_InvalidSizes
  · have := t.T_InvalidSize; rw [hT] at this; cases this; exact t.xf_InvalidSize
  · have := t.T_NotReversible; rw [hT] at this; cases this; exact t.xf_NotReversible
  · have := t.T_InvalidCommand; rw [hT] at this; cases this; exact t.xf_InvalidCommand
  · have := t.T_Refused; rw [hT] at this; cases this; exact t.xf_Refused
  · have := t.T_NoDeed; rw [hT] at this; cases this; exact t.xf_NoDeed
  · have := t.T_UnknownName; rw [hT] at this; cases this; exact t.xf_UnknownName
  · cases he
theorem Tx.T_of_KeyError {T : Tab} {K : PySem.W.Frag} {mg : Str → Option Value} {m : Nat} {Ce : Addr} {fn : List Str} (t : Tx T K mg) (hm : mt_KeyError m = some true) (hT : T m = some (Ce, fn)) : T m = some (Ce, xfn m) := by
  have he := mt_err_KeyError hm
  unfold isErr at he
  split at he
  · have := t.T_InvalidForm; rw [hT] at this; cases this; exact t.T_InvalidForm
  · have := t.T_InvalidText; rw [hT] at this; cases this; exact t.T_InvalidText
  · have := t.T_InvalidPiece; rw [hT] at this; cases this; exact t.T_InvalidPiece
  · have := t.T_InvalidCount; rw [hT] at this; cases this; exact t.T_InvalidCount
  · have := t.T_InvalidSizes; rw [hT] at this; cases this; exact t.T_InvalidSizes
  · have := t.T_InvalidSize; rw [hT] at this; cases this; exact t.T_InvalidSize
  · have := t.T_NotReversible; rw [hT] at this; cases this; exact t.T_NotReversible
  · have := t.T_InvalidCommand; rw [hT] at this; cases this; exact t.T_InvalidCommand
  · have := t.T_Refused; rw [hT] at this; cases this; exact t.T_Refused
  · have := t.T_NoDeed; rw [hT] at this; cases this; exact t.T_NoDeed
  · have := t.T_UnknownName; rw [hT] at this; cases this; exact t.T_UnknownName
  · cases he
theorem Tx.no_of_KeyError_at {T : Tab} {K : PySem.W.Frag} {mg : Str → Option Value} {m : Nat} {Ce : Addr} {fn : List Str} (t : Tx T K mg) (hm : mt_KeyError m = some true) (hT : T m = some (Ce, fn)) : PySem.W.findIn K (.ref Ce) "at" = some none := by
  have he := mt_err_KeyError hm
  unfold isErr at he
  split at he
  · have := t.T_InvalidForm; rw [hT] at this; cases this; exact t.no_InvalidForm_at
  · have := t.T_InvalidText; rw [hT] at this; cases this; exact t.no_InvalidText_at
  · have := t.T_InvalidPiece; rw [hT] at this; cases this; exact t.no_InvalidPiece_at
  · have := t.T_InvalidCount; rw [hT] at this; cases this; exact t.no_InvalidCount_at
  · have := t.T_InvalidSizes; rw [hT] at this; cases this; exact t.no_InvalidSizes_at
  · have := t.T_InvalidSize; rw [hT] at this; cases this; exact t.no_InvalidSize_at
  · have := t.T_NotReversible; rw [hT] at this; cases this; exact t.no_NotReversible_at
  · have := t.T_InvalidCommand; rw [hT] at this; cases this; exact t.no_InvalidCommand_at
  · have := t.T_Refused; rw [hT] at this; cases this; exact t.no_Refused_at
  · have := t.T_NoDeed; rw [hT] at this; cases this; exact t.no_NoDeed_at
  · have := t.T_UnknownName; rw [hT] at this; cases this; exact t.no_UnknownName_at
  · cases he
theorem Tx.no_of_KeyError_line {T : Tab} {K : PySem.W.Frag} {mg : Str → Option Value} {m : Nat} {Ce : Addr} {fn : List Str} (t : Tx T K mg) (hm : mt_KeyError m = some true) (hT : T m = some (Ce, fn)) : PySem.W.findIn K (.ref Ce) "line" = some none := by
  have he := mt_err_KeyError hm
  unfold isErr at he
  split at he
  · have := t.T_InvalidForm; rw [hT] at this; cases this; exact t.no_InvalidForm_line
  · have := t.T_InvalidText; rw [hT] at this; cases this; exact t.no_InvalidText_line
  · have := t.T_InvalidPiece; rw [hT] at this; cases this; exact t.no_InvalidPiece_line
  · have := t.T_InvalidCount; rw [hT] at this; cases this; exact t.no_InvalidCount_line
  · have := t.T_InvalidSizes; rw [hT] at this; cases this; exact t.no_InvalidSizes_line
  · have := t.T_InvalidSize; rw [hT] at this; cases this; exact t.no_InvalidSize_line
  · have := t.T_NotReversible; rw [hT] at this; cases this; exact t.no_NotReversible_line
  · have := t.T_InvalidCommand; rw [hT] at this; cases this; exact t.no_InvalidCommand_line
  · have := t.T_Refused; rw [hT] at this; cases this; exact t.no_Refused_line
  · have := t.T_NoDeed; rw [hT] at this; cases this; exact t.no_NoDeed_line
  · have := t.T_UnknownName; rw [hT] at this; cases this; exact t.no_UnknownName_line
  · cases he
theorem Tx.no_of_KeyError_name {T : Tab} {K : PySem.W.Frag} {mg : Str → Option Value} {m : Nat} {Ce : Addr} {fn : List Str} (t : Tx T K mg) (hm : mt_KeyError m = some true) (hT : T m = some (Ce, fn)) : PySem.W.findIn K (.ref Ce) "name" = some none := by
  have he := mt_err_KeyError hm
  unfold isErr at he
  split at he
  · have := t.T_InvalidForm; rw [hT] at this; cases this; exact t.no_InvalidForm_name
  · have := t.T_InvalidText; rw [hT] at this; cases this; exact t.no_InvalidText_name
  · have := t.T_InvalidPiece; rw [hT] at this; cases this; exact t.no_InvalidPiece_name
  · have := t.T_InvalidCount; rw [hT] at this; cases this; exact t.no_InvalidCount_name
  · have := t.T_InvalidSizes; rw [hT] at this; cases this; exact t.no_InvalidSizes_name
  · have := t.T_InvalidSize; rw [hT] at this; cases this; exact t.no_InvalidSize_name
  · have := t.T_NotReversible; rw [hT] at this; cases this; exact t.no_NotReversible_name
  · have := t.T_InvalidCommand; rw [hT] at this; cases this; exact t.no_InvalidCommand_name
  · have := t.T_Refused; rw [hT] at this; cases this; exact t.no_Refused_name
  · have := t.T_NoDeed; rw [hT] at this; cases this; exact t.no_NoDeed_name
  · have := t.T_UnknownName; rw [hT] at this; cases this; exact t.no_UnknownName_name
  · cases he
theorem Tx.no_of_KeyError_size {T : Tab} {K : PySem.W.Frag} {mg : Str → Option Value} {m : Nat} {Ce : Addr} {fn : List Str} (t : Tx T K mg) (hm : mt_KeyError m = some true) (hT : T m = some (Ce, fn)) : PySem.W.findIn K (.ref Ce) "size" = some none := by
  have he := mt_err_KeyError hm
  unfold isErr at he
  split at he
  · have := t.T_InvalidForm; rw [hT] at this; cases this; exact t.no_InvalidForm_size
  · have := t.T_InvalidText; rw [hT] at this; cases this; exact t.no_InvalidText_size
  · have := t.T_InvalidPiece; rw [hT] at this; cases this; exact t.no_InvalidPiece_size
  · have := t.T_InvalidCount; rw [hT] at this; cases this; exact t.no_InvalidCount_size
  · have := t.T_InvalidSizes; rw [hT] at this; cases this; exact t.no_InvalidSizes_size
  · have := t.T_InvalidSize; rw [hT] at this; cases this; exact t.no_InvalidSize_size
  · have := t.T_NotReversible; rw [hT] at this; cases this; exact t.no_NotReversible_size
  · have := t.T_InvalidCommand; rw [hT] at this; cases this; exact t.no_InvalidCommand_size
  · have := t.T_Refused; rw [hT] at this; cases this; exact t.no_Refused_size
  · have := t.T_NoDeed; rw [hT] at this; cases this; exact t.no_NoDeed_size
  · have := t.T_UnknownName; rw [hT] at this; cases this; exact t.no_UnknownName_size
  · cases he
theorem Tx.no_of_KeyError_word {T : Tab} {K : PySem.W.Frag} {mg : Str → Option Value} {m : Nat} {Ce : Addr} {fn : List Str} (t : Tx T K mg) (hm : mt_KeyError m = some true) (hT : T m = some (Ce, fn)) : PySem.W.findIn K (.ref Ce) "word" = some none := by
  have he := mt_err_KeyError hm
  unfold isErr at he
  split at he
  · have := t.T_InvalidForm; rw [hT] at this; cases this; exact t.no_InvalidForm_word
  · have := t.T_InvalidText; rw [hT] at this; cases this; exact t.no_InvalidText_word
  · have := t.T_InvalidPiece; rw [hT] at this; cases this; exact t.no_InvalidPiece_word
  · have := t.T_InvalidCount; rw [hT] at this; cases this; exact t.no_InvalidCount_word
  · have := t.T_InvalidSizes; rw [hT] at this; cases this; exact t.no_InvalidSizes_word
  · have := t.T_InvalidSize; rw [hT] at this; cases this; exact t.no_InvalidSize_word
  · have := t.T_NotReversible; rw [hT] at this; cases this; exact t.no_NotReversible_word
  · have := t.T_InvalidCommand; rw [hT] at this; cases this; exact t.no_InvalidCommand_word
  · have := t.T_Refused; rw [hT] at this; cases this; exact t.no_Refused_word
  · have := t.T_NoDeed; rw [hT] at this; cases this; exact t.no_NoDeed_word
  · have := t.T_UnknownName; rw [hT] at this; cases this; exact t.no_UnknownName_word
  · cases he
theorem Tx.exc_of_NoDeed {T : Tab} {K : PySem.W.Frag} {mg : Str → Option Value} {m : Nat} {Ce : Addr} {fn : List Str} (t : Tx T K mg) (hm : mt_NoDeed m = some true) (hT : T m = some (Ce, fn)) : ExcC K Ce := by
  have he := mt_err_NoDeed hm
  unfold isErr at he
  split at he
  · have := t.T_InvalidForm; rw [hT] at this; cases this; exact t.x_InvalidForm
  · have := t.T_InvalidText; rw [hT] at this; cases this; exact t.x_InvalidText
  · have := t.T_InvalidPiece; rw [hT] at this; cases this; exact t.x_InvalidPiece
  · have := t.T_InvalidCount; rw [hT] at this; cases this; exact t.x_InvalidCount
  · have := t.T_InvalidSizes; rw [hT] at this; cases this; exact t.x_InvalidSizes
  · have := t.T_InvalidSize; rw [hT] at this; cases this; exact t.x_InvalidSize
  · have := t.T_NotReversible; rw [hT] at this; cases this; exact t.x_NotReversible
  · have := t.T_InvalidCommand; rw [hT] at this; cases this; exact t.x_InvalidCommand
  · have := t.T_Refused; rw [hT] at this; cases this; exact t.x_Refused
  · have := t.T_NoDeed; rw [hT] at this; cases this; exact t.x_NoDeed
  · have := t.T_UnknownName; rw [hT] at this; cases this; exact t.x_UnknownName
  · cases he
theorem Tx.err_of_NoDeed {X : Cx} {T : Tab} {m : Nat} {Ce : Addr} {fn : List Str} {a : Addr} {oe : Obj} {d : Option Addr} (t : Tx T X.K X.mg) (hm : mt_NoDeed m = some true) (hT : T m = some (Ce, fn)) (hz : Zc (.ref Ce) d oe) (hv : ∃ vs, oe.data = .fields vs) : Err X T m a d Ce oe := ⟨t.exc_of_NoDeed hm hT, hz, hv, _, hT⟩
theorem Tx.xf_of_NoDeed {T : Tab} {K : PySem.W.Frag} {mg : Str → Option Value} {m : Nat} {Ce : Addr} {fn : List Str} (t : Tx T K mg) (hm : mt_NoDeed m = some true) (hT : T m = some (Ce, fn)) : XfC K Ce := by
  have he := mt_err_NoDeed hm
  unfold isErr at he
  split at he
  · have := t.T_InvalidForm; rw [hT] at this; cases this; exact t.xf_InvalidForm
  · have := t.T_InvalidText; rw [hT] at this; cases this; exact t.xf_InvalidText
  · have := t.T_InvalidPiece; rw [hT] at this; cases this; exact t.xf_InvalidPiece
  · have := t.T_InvalidCount; rw [hT] at this; cases this; exact t.xf_InvalidCount
  · have := t.T_InvalidSizes; rw [hT] at this; cases this; exact t.xf_InvalidSizes
  · have := t.T_InvalidSize; rw [hT] at this; cases this; exact t.xf_InvalidSize
  · have := t.T_NotReversible; rw [hT] at this; cases this; exact t.xf_NotReversible
  · have := t.T_InvalidCommand; rw [hT] at this; cases this; exact t.xf_InvalidCommand
  · have := t.T_Refused; rw [hT] at this; cases this; exact t.xf_Refused
  · have := t.T_NoDeed; rw [hT] at this; cases this; exact t.xf_NoDeed
  · have := t.T_UnknownName; rw [hT] at this; cases this; exact t.xf_UnknownName
  · cases he
theorem Tx.T_of_NoDeed {T : Tab} {K : PySem.W.Frag} {mg : Str → Option Value} {m : Nat} {Ce : Addr} {fn : List Str} (t : Tx T K mg) (hm : mt_NoDeed m = some true) (hT : T m = some (Ce, fn)) : T m = some (Ce, xfn m) := by
  have he := mt_err_NoDeed hm
  unfold isErr at he
  split at he
  · have := t.T_InvalidForm; rw [hT] at this; cases this; exact t.T_InvalidForm
  · have := t.T_InvalidText; rw [hT] at this; cases this; exact t.T_InvalidText
  · have := t.T_InvalidPiece; rw [hT] at this; cases this; exact t.T_InvalidPiece
  · have := t.T_InvalidCount; rw [hT] at this; cases this; exact t.T_InvalidCount
  · have := t.T_InvalidSizes; rw [hT] at this; cases this; exact t.T_InvalidSizes
  · have := t.T_InvalidSize; rw [hT] at this; cases this; exact t.T_InvalidSize
  · have := t.T_NotReversible; rw [hT] at this; cases this; exact t.T_NotReversible
  · have := t.T_InvalidCommand; rw [hT] at this; cases this; exact t.T_InvalidCommand
  · have := t.T_Refused; rw [hT] at this; cases this; exact t.T_Refused
  · have := t.T_NoDeed; rw [hT] at this; cases this; exact t.T_NoDeed
  · have := t.T_UnknownName; rw [hT] at this; cases this; exact t.T_UnknownName
  · cases he
theorem Tx.no_of_NoDeed_at {T : Tab} {K : PySem.W.Frag} {mg : Str → Option Value} {m : Nat} {Ce : Addr} {fn : List Str} (t : Tx T K mg) (hm : mt_NoDeed m = some true) (hT : T m = some (Ce, fn)) : PySem.W.findIn K (.ref Ce) "at" = some none := by
  have he := mt_err_NoDeed hm
  unfold isErr at he
  split at he
  · have := t.T_InvalidForm; rw [hT] at this; cases this; exact t.no_InvalidForm_at
  · have := t.T_InvalidText; rw [hT] at this; cases this; exact t.no_InvalidText_at
  · have := t.T_InvalidPiece; rw [hT] at this; cases this; exact t.no_InvalidPiece_at
  · have := t.T_InvalidCount; rw [hT] at this; cases this; exact t.no_InvalidCount_at
  · have := t.T_InvalidSizes; rw [hT] at this; cases this; exact t.no_InvalidSizes_at
  · have := t.T_InvalidSize; rw [hT] at this; cases this; exact t.no_InvalidSize_at
  · have := t.T_NotReversible; rw [hT] at this; cases this; exact t.no_NotReversible_at
  · have := t.T_InvalidCommand; rw [hT] at this; cases this; exact t.no_InvalidCommand_at
  · have := t.T_Refused; rw [hT] at this; cases this; exact t.no_Refused_at
  · have := t.T_NoDeed; rw [hT] at this; cases this; exact t.no_NoDeed_at
  · have := t.T_UnknownName; rw [hT] at this; cases this; exact t.no_UnknownName_at
  · cases he
theorem Tx.no_of_NoDeed_line {T : Tab} {K : PySem.W.Frag} {mg : Str → Option Value} {m : Nat} {Ce : Addr} {fn : List Str} (t : Tx T K mg) (hm : mt_NoDeed m = some true) (hT : T m = some (Ce, fn)) : PySem.W.findIn K (.ref Ce) "line" = some none := by
  have he := mt_err_NoDeed hm
  unfold isErr at he
  split at he
  · have := t.T_InvalidForm; rw [hT] at this; cases this; exact t.no_InvalidForm_line
  · have := t.T_InvalidText; rw [hT] at this; cases this; exact t.no_InvalidText_line
  · have := t.T_InvalidPiece; rw [hT] at this; cases this; exact t.no_InvalidPiece_line
  · have := t.T_InvalidCount; rw [hT] at this; cases this; exact t.no_InvalidCount_line
  · have := t.T_InvalidSizes; rw [hT] at this; cases this; exact t.no_InvalidSizes_line
  · have := t.T_InvalidSize; rw [hT] at this; cases this; exact t.no_InvalidSize_line
  · have := t.T_NotReversible; rw [hT] at this; cases this; exact t.no_NotReversible_line
  · have := t.T_InvalidCommand; rw [hT] at this; cases this; exact t.no_InvalidCommand_line
  · have := t.T_Refused; rw [hT] at this; cases this; exact t.no_Refused_line
  · have := t.T_NoDeed; rw [hT] at this; cases this; exact t.no_NoDeed_line
  · have := t.T_UnknownName; rw [hT] at this; cases this; exact t.no_UnknownName_line
  · cases he
theorem Tx.no_of_NoDeed_name {T : Tab} {K : PySem.W.Frag} {mg : Str → Option Value} {m : Nat} {Ce : Addr} {fn : List Str} (t : Tx T K mg) (hm : mt_NoDeed m = some true) (hT : T m = some (Ce, fn)) : PySem.W.findIn K (.ref Ce) "name" = some none := by
  have he := mt_err_NoDeed hm
  unfold isErr at he
  split at he
  · have := t.T_InvalidForm; rw [hT] at this; cases this; exact t.no_InvalidForm_name
  · have := t.T_InvalidText; rw [hT] at this; cases this; exact t.no_InvalidText_name
  · have := t.T_InvalidPiece; rw [hT] at this; cases this; exact t.no_InvalidPiece_name
  · have := t.T_InvalidCount; rw [hT] at this; cases this; exact t.no_InvalidCount_name
  · have := t.T_InvalidSizes; rw [hT] at this; cases this; exact t.no_InvalidSizes_name
  · have := t.T_InvalidSize; rw [hT] at this; cases this; exact t.no_InvalidSize_name
  · have := t.T_NotReversible; rw [hT] at this; cases this; exact t.no_NotReversible_name
  · have := t.T_InvalidCommand; rw [hT] at this; cases this; exact t.no_InvalidCommand_name
  · have := t.T_Refused; rw [hT] at this; cases this; exact t.no_Refused_name
  · have := t.T_NoDeed; rw [hT] at this; cases this; exact t.no_NoDeed_name
  · have := t.T_UnknownName; rw [hT] at this; cases this; exact t.no_UnknownName_name
  · cases he
theorem Tx.no_of_NoDeed_size {T : Tab} {K : PySem.W.Frag} {mg : Str → Option Value} {m : Nat} {Ce : Addr} {fn : List Str} (t : Tx T K mg) (hm : mt_NoDeed m = some true) (hT : T m = some (Ce, fn)) : PySem.W.findIn K (.ref Ce) "size" = some none := by
  have he := mt_err_NoDeed hm
  unfold isErr at he
  split at he
  · have := t.T_InvalidForm; rw [hT] at this; cases this; exact t.no_InvalidForm_size
  · have := t.T_InvalidText; rw [hT] at this; cases this; exact t.no_InvalidText_size
  · have := t.T_InvalidPiece; rw [hT] at this; cases this; exact t.no_InvalidPiece_size
  · have := t.T_InvalidCount; rw [hT] at this; cases this; exact t.no_InvalidCount_size
  · have := t.T_InvalidSizes; rw [hT] at this; cases this; exact t.no_InvalidSizes_size
  · have := t.T_InvalidSize; rw [hT] at this; cases this; exact t.no_InvalidSize_size
  · have := t.T_NotReversible; rw [hT] at this; cases this; exact t.no_NotReversible_size
  · have := t.T_InvalidCommand; rw [hT] at this; cases this; exact t.no_InvalidCommand_size
  · have := t.T_Refused; rw [hT] at this; cases this; exact t.no_Refused_size
  · have := t.T_NoDeed; rw [hT] at this; cases this; exact t.no_NoDeed_size
  · have := t.T_UnknownName; rw [hT] at this; cases this; exact t.no_UnknownName_size
  · cases he
theorem Tx.no_of_NoDeed_word {T : Tab} {K : PySem.W.Frag} {mg : Str → Option Value} {m : Nat} {Ce : Addr} {fn : List Str} (t : Tx T K mg) (hm : mt_NoDeed m = some true) (hT : T m = some (Ce, fn)) : PySem.W.findIn K (.ref Ce) "word" = some none := by
  have he := mt_err_NoDeed hm
  unfold isErr at he
  split at he
  · have := t.T_InvalidForm; rw [hT] at this; cases this; exact t.no_InvalidForm_word
  · have := t.T_InvalidText; rw [hT] at this; cases this; exact t.no_InvalidText_word
  · have := t.T_InvalidPiece; rw [hT] at this; cases this; exact t.no_InvalidPiece_word
  · have := t.T_InvalidCount; rw [hT] at this; cases this; exact t.no_InvalidCount_word
  · have := t.T_InvalidSizes; rw [hT] at this; cases this; exact t.no_InvalidSizes_word
  · have := t.T_InvalidSize; rw [hT] at this; cases this; exact t.no_InvalidSize_word
  · have := t.T_NotReversible; rw [hT] at this; cases this; exact t.no_NotReversible_word
  · have := t.T_InvalidCommand; rw [hT] at this; cases this; exact t.no_InvalidCommand_word
  · have := t.T_Refused; rw [hT] at this; cases this; exact t.no_Refused_word
  · have := t.T_NoDeed; rw [hT] at this; cases this; exact t.no_NoDeed_word
  · have := t.T_UnknownName; rw [hT] at this; cases this; exact t.no_UnknownName_word
  · cases he
def ns_at : List Nat := [4, 8, 10, 11]
theorem Tx.hx_at {T : Tab} {K : PySem.W.Frag} {mg : Str → Option Value} (t : Tx T K mg) : ∀ m ∈ ns_at, ∃ C fn, T m = some (C, fn) ∧ XfC K C ∧ PySem.W.findIn K (.ref C) "at" = some none := by
  unfold ns_at
  exact by
    intro m hm
    simp only [List.mem_cons, List.not_mem_nil, or_false] at hm
    rcases hm with rfl | rfl | rfl | rfl
    · exact ⟨_, _, t.T_InvalidPiece, t.xf_InvalidPiece, t.no_InvalidPiece_at⟩
    · exact ⟨_, _, t.T_NotReversible, t.xf_NotReversible, t.no_NotReversible_at⟩
    · exact ⟨_, _, t.T_Refused, t.xf_Refused, t.no_Refused_at⟩
    · exact ⟨_, _, t.T_NoDeed, t.xf_NoDeed, t.no_NoDeed_at⟩
def ns_line : List Nat := [3]
theorem Tx.hx_line {T : Tab} {K : PySem.W.Frag} {mg : Str → Option Value} (t : Tx T K mg) : ∀ m ∈ ns_line, ∃ C fn, T m = some (C, fn) ∧ XfC K C ∧ PySem.W.findIn K (.ref C) "line" = some none := by
  unfold ns_line
  exact by
    intro m hm
    simp only [List.mem_cons, List.not_mem_nil, or_false] at hm
    subst hm
    · exact ⟨_, _, t.T_InvalidText, t.xf_InvalidText, t.no_InvalidText_line⟩
def ns_name : List Nat := [12]
theorem Tx.hx_name {T : Tab} {K : PySem.W.Frag} {mg : Str → Option Value} (t : Tx T K mg) : ∀ m ∈ ns_name, ∃ C fn, T m = some (C, fn) ∧ XfC K C ∧ PySem.W.findIn K (.ref C) "name" = some none := by
  unfold ns_name
  exact by
    intro m hm
    simp only [List.mem_cons, List.not_mem_nil, or_false] at hm
    subst hm
    · exact ⟨_, _, t.T_UnknownName, t.xf_UnknownName, t.no_UnknownName_name⟩
def ns_size : List Nat := [7]
theorem Tx.hx_size {T : Tab} {K : PySem.W.Frag} {mg : Str → Option Value} (t : Tx T K mg) : ∀ m ∈ ns_size, ∃ C fn, T m = some (C, fn) ∧ XfC K C ∧ PySem.W.findIn K (.ref C) "size" = some none := by
  unfold ns_size
  exact by
    intro m hm
    simp only [List.mem_cons, List.not_mem_nil, or_false] at hm
    subst hm
    · exact ⟨_, _, t.T_InvalidSize, t.xf_InvalidSize, t.no_InvalidSize_size⟩
def ns_word : List Nat := [4, 5, 6]
theorem Tx.hx_word {T : Tab} {K : PySem.W.Frag} {mg : Str → Option Value} (t : Tx T K mg) : ∀ m ∈ ns_word, ∃ C fn, T m = some (C, fn) ∧ XfC K C ∧ PySem.W.findIn K (.ref C) "word" = some none := by
  unfold ns_word
  exact by
    intro m hm
    simp only [List.mem_cons, List.not_mem_nil, or_false] at hm
    rcases hm with rfl | rfl | rfl
    · exact ⟨_, _, t.T_InvalidPiece, t.xf_InvalidPiece, t.no_InvalidPiece_word⟩
    · exact ⟨_, _, t.T_InvalidCount, t.xf_InvalidCount, t.no_InvalidCount_word⟩
    · exact ⟨_, _, t.T_InvalidSizes, t.xf_InvalidSizes, t.no_InvalidSizes_word⟩
def ns_all : List Nat := [2, 3, 4, 5, 6, 7, 8, 9, 10, 11, 12]
def kt_ClashError (n : Nat) : Option Bool := match n with | 2 => some true | 3 => some true | 4 => some true | 5 => some true | 6 => some true | 7 => some true | 8 => some true | 9 => some true | 10 => some true | 11 => some false | 12 => some false | _ => none
theorem Tx.hk_ClashError {T : Tab} {K : PySem.W.Frag} {mg : Str → Option Value} (t : Tx T K mg) : ∀ m ∈ ns_all, ∃ C fn, T m = some (C, fn) ∧ ExcC K C ∧ ∀ b, kt_ClashError m = some b → PySem.W.kitOne K (.ref C) (.ref t.c_ClashError) = some b := by
  unfold ns_all
  exact by
    intro m hm
    simp only [List.mem_cons, List.not_mem_nil, or_false] at hm
    rcases hm with rfl | rfl | rfl | rfl | rfl | rfl | rfl | rfl | rfl | rfl | rfl
    · exact ⟨_, _, t.T_InvalidForm, t.x_InvalidForm, fun b h => by cases h; exact t.kt_InvalidForm_ClashError⟩
    · exact ⟨_, _, t.T_InvalidText, t.x_InvalidText, fun b h => by cases h; exact t.kt_InvalidText_ClashError⟩
    · exact ⟨_, _, t.T_InvalidPiece, t.x_InvalidPiece, fun b h => by cases h; exact t.kt_InvalidPiece_ClashError⟩
    · exact ⟨_, _, t.T_InvalidCount, t.x_InvalidCount, fun b h => by cases h; exact t.kt_InvalidCount_ClashError⟩
    · exact ⟨_, _, t.T_InvalidSizes, t.x_InvalidSizes, fun b h => by cases h; exact t.kt_InvalidSizes_ClashError⟩
    · exact ⟨_, _, t.T_InvalidSize, t.x_InvalidSize, fun b h => by cases h; exact t.kt_InvalidSize_ClashError⟩
    · exact ⟨_, _, t.T_NotReversible, t.x_NotReversible, fun b h => by cases h; exact t.kt_NotReversible_ClashError⟩
    · exact ⟨_, _, t.T_InvalidCommand, t.x_InvalidCommand, fun b h => by cases h; exact t.kt_InvalidCommand_ClashError⟩
    · exact ⟨_, _, t.T_Refused, t.x_Refused, fun b h => by cases h; exact t.kt_Refused_ClashError⟩
    · exact ⟨_, _, t.T_NoDeed, t.x_NoDeed, fun b h => by cases h; exact t.kt_NoDeed_ClashError⟩
    · exact ⟨_, _, t.T_UnknownName, t.x_UnknownName, fun b h => by cases h; exact t.kt_UnknownName_ClashError⟩
def kt_IndexError (n : Nat) : Option Bool := match n with | 2 => some false | 3 => some false | 4 => some false | 5 => some false | 6 => some false | 7 => some false | 8 => some false | 9 => some false | 10 => some false | 11 => some true | 12 => some false | _ => none
theorem Tx.hk_IndexError {T : Tab} {K : PySem.W.Frag} {mg : Str → Option Value} (t : Tx T K mg) : ∀ m ∈ ns_all, ∃ C fn, T m = some (C, fn) ∧ ExcC K C ∧ ∀ b, kt_IndexError m = some b → PySem.W.kitOne K (.ref C) (.type "IndexError") = some b := by
  unfold ns_all
  exact by
    intro m hm
    simp only [List.mem_cons, List.not_mem_nil, or_false] at hm
    rcases hm with rfl | rfl | rfl | rfl | rfl | rfl | rfl | rfl | rfl | rfl | rfl
    · exact ⟨_, _, t.T_InvalidForm, t.x_InvalidForm, fun b h => by cases h; exact t.kt_InvalidForm_IndexError⟩
    · exact ⟨_, _, t.T_InvalidText, t.x_InvalidText, fun b h => by cases h; exact t.kt_InvalidText_IndexError⟩
    · exact ⟨_, _, t.T_InvalidPiece, t.x_InvalidPiece, fun b h => by cases h; exact t.kt_InvalidPiece_IndexError⟩
    · exact ⟨_, _, t.T_InvalidCount, t.x_InvalidCount, fun b h => by cases h; exact t.kt_InvalidCount_IndexError⟩
    · exact ⟨_, _, t.T_InvalidSizes, t.x_InvalidSizes, fun b h => by cases h; exact t.kt_InvalidSizes_IndexError⟩
    · exact ⟨_, _, t.T_InvalidSize, t.x_InvalidSize, fun b h => by cases h; exact t.kt_InvalidSize_IndexError⟩
    · exact ⟨_, _, t.T_NotReversible, t.x_NotReversible, fun b h => by cases h; exact t.kt_NotReversible_IndexError⟩
    · exact ⟨_, _, t.T_InvalidCommand, t.x_InvalidCommand, fun b h => by cases h; exact t.kt_InvalidCommand_IndexError⟩
    · exact ⟨_, _, t.T_Refused, t.x_Refused, fun b h => by cases h; exact t.kt_Refused_IndexError⟩
    · exact ⟨_, _, t.T_NoDeed, t.x_NoDeed, fun b h => by cases h; exact t.kt_NoDeed_IndexError⟩
    · exact ⟨_, _, t.T_UnknownName, t.x_UnknownName, fun b h => by cases h; exact t.kt_UnknownName_IndexError⟩
def kt_InvalidCommand (n : Nat) : Option Bool := match n with | 2 => some false | 3 => some false | 4 => some false | 5 => some false | 6 => some false | 7 => some false | 8 => some false | 9 => some true | 10 => some false | 11 => some false | 12 => some false | _ => none
theorem Tx.hk_InvalidCommand {T : Tab} {K : PySem.W.Frag} {mg : Str → Option Value} (t : Tx T K mg) : ∀ m ∈ ns_all, ∃ C fn, T m = some (C, fn) ∧ ExcC K C ∧ ∀ b, kt_InvalidCommand m = some b → PySem.W.kitOne K (.ref C) (.ref t.c_InvalidCommand) = some b := by
  unfold ns_all
  exact by
    intro m hm
    simp only [List.mem_cons, List.not_mem_nil, or_false] at hm
    rcases hm with rfl | rfl | rfl | rfl | rfl | rfl | rfl | rfl | rfl | rfl | rfl
    · exact ⟨_, _, t.T_InvalidForm, t.x_InvalidForm, fun b h => by cases h; exact t.kt_InvalidForm_InvalidCommand⟩
    · exact ⟨_, _, t.T_InvalidText, t.x_InvalidText, fun b h => by cases h; exact t.kt_InvalidText_InvalidCommand⟩
    · exact ⟨_, _, t.T_InvalidPiece, t.x_InvalidPiece, fun b h => by cases h; exact t.kt_InvalidPiece_InvalidCommand⟩
    · exact ⟨_, _, t.T_InvalidCount, t.x_InvalidCount, fun b h => by cases h; exact t.kt_InvalidCount_InvalidCommand⟩
    · exact ⟨_, _, t.T_InvalidSizes, t.x_InvalidSizes, fun b h => by cases h; exact t.kt_InvalidSizes_InvalidCommand⟩
    · exact ⟨_, _, t.T_InvalidSize, t.x_InvalidSize, fun b h => by cases h; exact t.kt_InvalidSize_InvalidCommand⟩
    · exact ⟨_, _, t.T_NotReversible, t.x_NotReversible, fun b h => by cases h; exact t.kt_NotReversible_InvalidCommand⟩
    · exact ⟨_, _, t.T_InvalidCommand, t.x_InvalidCommand, fun b h => by cases h; exact kit_self⟩
    · exact ⟨_, _, t.T_Refused, t.x_Refused, fun b h => by cases h; exact t.kt_Refused_InvalidCommand⟩
    · exact ⟨_, _, t.T_NoDeed, t.x_NoDeed, fun b h => by cases h; exact t.kt_NoDeed_InvalidCommand⟩
    · exact ⟨_, _, t.T_UnknownName, t.x_UnknownName, fun b h => by cases h; exact t.kt_UnknownName_InvalidCommand⟩
def kt_InvalidCount (n : Nat) : Option Bool := match n with | 2 => some false | 3 => some false | 4 => some false | 5 => some true | 6 => some false | 7 => some false | 8 => some false | 9 => some false | 10 => some false | 11 => some false | 12 => some false | _ => none
theorem Tx.hk_InvalidCount {T : Tab} {K : PySem.W.Frag} {mg : Str → Option Value} (t : Tx T K mg) : ∀ m ∈ ns_all, ∃ C fn, T m = some (C, fn) ∧ ExcC K C ∧ ∀ b, kt_InvalidCount m = some b → PySem.W.kitOne K (.ref C) (.ref t.c_InvalidCount) = some b := by
  unfold ns_all
  exact by
    intro m hm
    simp only [List.mem_cons, List.not_mem_nil, or_false] at hm
    rcases hm with rfl | rfl | rfl | rfl | rfl | rfl | rfl | rfl | rfl | rfl | rfl
    · exact ⟨_, _, t.T_InvalidForm, t.x_InvalidForm, fun b h => by cases h; exact t.kt_InvalidForm_InvalidCount⟩
    · exact ⟨_, _, t.T_InvalidText, t.x_InvalidText, fun b h => by cases h; exact t.kt_InvalidText_InvalidCount⟩
    · exact ⟨_, _, t.T_InvalidPiece, t.x_InvalidPiece, fun b h => by cases h; exact t.kt_InvalidPiece_InvalidCount⟩
    · exact ⟨_, _, t.T_InvalidCount, t.x_InvalidCount, fun b h => by cases h; exact kit_self⟩
    · exact ⟨_, _, t.T_InvalidSizes, t.x_InvalidSizes, fun b h => by cases h; exact t.kt_InvalidSizes_InvalidCount⟩
    · exact ⟨_, _, t.T_InvalidSize, t.x_InvalidSize, fun b h => by cases h; exact t.kt_InvalidSize_InvalidCount⟩
    · exact ⟨_, _, t.T_NotReversible, t.x_NotReversible, fun b h => by cases h; exact t.kt_NotReversible_InvalidCount⟩
    · exact ⟨_, _, t.T_InvalidCommand, t.x_InvalidCommand, fun b h => by cases h; exact t.kt_InvalidCommand_InvalidCount⟩
    · exact ⟨_, _, t.T_Refused, t.x_Refused, fun b h => by cases h; exact t.kt_Refused_InvalidCount⟩
    · exact ⟨_, _, t.T_NoDeed, t.x_NoDeed, fun b h => by cases h; exact t.kt_NoDeed_InvalidCount⟩
    · exact ⟨_, _, t.T_UnknownName, t.x_UnknownName, fun b h => by cases h; exact t.kt_UnknownName_InvalidCount⟩
def kt_InvalidCount_or_InvalidSizes (n : Nat) : Option Bool := match n with | 2 => some false | 3 => some false | 4 => some false | 5 => some true | 6 => some true | 7 => some false | 8 => some false | 9 => some false | 10 => some false | 11 => some false | 12 => some false | _ => none
theorem Tx.hk_InvalidCount_or_InvalidSizes {T : Tab} {K : PySem.W.Frag} {mg : Str → Option Value} (t : Tx T K mg) : ∀ m ∈ ns_all, ∃ C fn, T m = some (C, fn) ∧ ExcC K C ∧ ∀ b, kt_InvalidCount_or_InvalidSizes m = some b → PySem.W.kitAny K (.ref C) (([t.c_InvalidCount, t.c_InvalidSizes] : List Addr).map Value.ref) = some b := by
  unfold ns_all
  exact by
    intro m hm
    simp only [List.mem_cons, List.not_mem_nil, or_false] at hm
    rcases hm with rfl | rfl | rfl | rfl | rfl | rfl | rfl | rfl | rfl | rfl | rfl
    · exact ⟨_, _, t.T_InvalidForm, t.x_InvalidForm, fun b h => by cases h; exact (by simp only [List.map, PySem.W.kitAny, t.kt_InvalidForm_InvalidCount, t.kt_InvalidForm_InvalidSizes])⟩
    · exact ⟨_, _, t.T_InvalidText, t.x_InvalidText, fun b h => by cases h; exact (by simp only [List.map, PySem.W.kitAny, t.kt_InvalidText_InvalidCount, t.kt_InvalidText_InvalidSizes])⟩
    · exact ⟨_, _, t.T_InvalidPiece, t.x_InvalidPiece, fun b h => by cases h; exact (by simp only [List.map, PySem.W.kitAny, t.kt_InvalidPiece_InvalidCount, t.kt_InvalidPiece_InvalidSizes])⟩
    · exact ⟨_, _, t.T_InvalidCount, t.x_InvalidCount, fun b h => by cases h; exact (by simp only [List.map, PySem.W.kitAny, kit_self, t.kt_InvalidCount_InvalidSizes])⟩
    · exact ⟨_, _, t.T_InvalidSizes, t.x_InvalidSizes, fun b h => by cases h; exact (by simp only [List.map, PySem.W.kitAny, t.kt_InvalidSizes_InvalidCount, kit_self])⟩
    · exact ⟨_, _, t.T_InvalidSize, t.x_InvalidSize, fun b h => by cases h; exact (by simp only [List.map, PySem.W.kitAny, t.kt_InvalidSize_InvalidCount, t.kt_InvalidSize_InvalidSizes])⟩
    · exact ⟨_, _, t.T_NotReversible, t.x_NotReversible, fun b h => by cases h; exact (by simp only [List.map, PySem.W.kitAny, t.kt_NotReversible_InvalidCount, t.kt_NotReversible_InvalidSizes])⟩
    · exact ⟨_, _, t.T_InvalidCommand, t.x_InvalidCommand, fun b h => by cases h; exact (by simp only [List.map, PySem.W.kitAny, t.kt_InvalidCommand_InvalidCount, t.kt_InvalidCommand_InvalidSizes])⟩
    · exact ⟨_, _, t.T_Refused, t.x_Refused, fun b h => by cases h; exact (by simp only [List.map, PySem.W.kitAny, t.kt_Refused_InvalidCount, t.kt_Refused_InvalidSizes])⟩
    · exact ⟨_, _, t.T_NoDeed, t.x_NoDeed, fun b h => by cases h; exact (by simp only [List.map, PySem.W.kitAny, t.kt_NoDeed_InvalidCount, t.kt_NoDeed_InvalidSizes])⟩
    · exact ⟨_, _, t.T_UnknownName, t.x_UnknownName, fun b h => by cases h; exact (by simp only [List.map, PySem.W.kitAny, t.kt_UnknownName_InvalidCount, t.kt_UnknownName_InvalidSizes])⟩
def kt_InvalidForm (n : Nat) : Option Bool := match n with | 2 => some true | 3 => some false | 4 => some false | 5 => some false | 6 => some false | 7 => some false | 8 => some false | 9 => some false | 10 => some false | 11 => some false | 12 => some false | _ => none
theorem Tx.hk_InvalidForm {T : Tab} {K : PySem.W.Frag} {mg : Str → Option Value} (t : Tx T K mg) : ∀ m ∈ ns_all, ∃ C fn, T m = some (C, fn) ∧ ExcC K C ∧ ∀ b, kt_InvalidForm m = some b → PySem.W.kitOne K (.ref C) (.ref t.c_InvalidForm) = some b := by
  unfold ns_all
  exact by
    intro m hm
    simp only [List.mem_cons, List.not_mem_nil, or_false] at hm
    rcases hm with rfl | rfl | rfl | rfl | rfl | rfl | rfl | rfl | rfl | rfl | rfl
    · exact ⟨_, _, t.T_InvalidForm, t.x_InvalidForm, fun b h => by cases h; exact kit_self⟩
    · exact ⟨_, _, t.T_InvalidText, t.x_InvalidText, fun b h => by cases h; exact t.kt_InvalidText_InvalidForm⟩
    · exact ⟨_, _, t.T_InvalidPiece, t.x_InvalidPiece, fun b h => by cases h; exact t.kt_InvalidPiece_InvalidForm⟩
    · exact ⟨_, _, t.T_InvalidCount, t.x_InvalidCount, fun b h => by cases h; exact t.kt_InvalidCount_InvalidForm⟩
    · exact ⟨_, _, t.T_InvalidSizes, t.x_InvalidSizes, fun b h => by cases h; exact t.kt_InvalidSizes_InvalidForm⟩
    · exact ⟨_, _, t.T_InvalidSize, t.x_InvalidSize, fun b h => by cases h; exact t.kt_InvalidSize_InvalidForm⟩
    · exact ⟨_, _, t.T_NotReversible, t.x_NotReversible, fun b h => by cases h; exact t.kt_NotReversible_InvalidForm⟩
    · exact ⟨_, _, t.T_InvalidCommand, t.x_InvalidCommand, fun b h => by cases h; exact t.kt_InvalidCommand_InvalidForm⟩
    · exact ⟨_, _, t.T_Refused, t.x_Refused, fun b h => by cases h; exact t.kt_Refused_InvalidForm⟩
    · exact ⟨_, _, t.T_NoDeed, t.x_NoDeed, fun b h => by cases h; exact t.kt_NoDeed_InvalidForm⟩
    · exact ⟨_, _, t.T_UnknownName, t.x_UnknownName, fun b h => by cases h; exact t.kt_UnknownName_InvalidForm⟩
def kt_InvalidPiece (n : Nat) : Option Bool := match n with | 2 => some false | 3 => some false | 4 => some true | 5 => some false | 6 => some false | 7 => some false | 8 => some false | 9 => some false | 10 => some false | 11 => some false | 12 => some false | _ => none
theorem Tx.hk_InvalidPiece {T : Tab} {K : PySem.W.Frag} {mg : Str → Option Value} (t : Tx T K mg) : ∀ m ∈ ns_all, ∃ C fn, T m = some (C, fn) ∧ ExcC K C ∧ ∀ b, kt_InvalidPiece m = some b → PySem.W.kitOne K (.ref C) (.ref t.c_InvalidPiece) = some b := by
  unfold ns_all
  exact by
    intro m hm
    simp only [List.mem_cons, List.not_mem_nil, or_false] at hm
    rcases hm with rfl | rfl | rfl | rfl | rfl | rfl | rfl | rfl | rfl | rfl | rfl
    · exact ⟨_, _, t.T_InvalidForm, t.x_InvalidForm, fun b h => by cases h; exact t.kt_InvalidForm_InvalidPiece⟩
    · exact ⟨_, _, t.T_InvalidText, t.x_InvalidText, fun b h => by cases h; exact t.kt_InvalidText_InvalidPiece⟩
    · exact ⟨_, _, t.T_InvalidPiece, t.x_InvalidPiece, fun b h => by cases h; exact kit_self⟩
    · exact ⟨_, _, t.T_InvalidCount, t.x_InvalidCount, fun b h => by cases h; exact t.kt_InvalidCount_InvalidPiece⟩
    · exact ⟨_, _, t.T_InvalidSizes, t.x_InvalidSizes, fun b h => by cases h; exact t.kt_InvalidSizes_InvalidPiece⟩
    · exact ⟨_, _, t.T_InvalidSize, t.x_InvalidSize, fun b h => by cases h; exact t.kt_InvalidSize_InvalidPiece⟩
    · exact ⟨_, _, t.T_NotReversible, t.x_NotReversible, fun b h => by cases h; exact t.kt_NotReversible_InvalidPiece⟩
    · exact ⟨_, _, t.T_InvalidCommand, t.x_InvalidCommand, fun b h => by cases h; exact t.kt_InvalidCommand_InvalidPiece⟩
    · exact ⟨_, _, t.T_Refused, t.x_Refused, fun b h => by cases h; exact t.kt_Refused_InvalidPiece⟩
    · exact ⟨_, _, t.T_NoDeed, t.x_NoDeed, fun b h => by cases h; exact t.kt_NoDeed_InvalidPiece⟩
    · exact ⟨_, _, t.T_UnknownName, t.x_UnknownName, fun b h => by cases h; exact t.kt_UnknownName_InvalidPiece⟩
def kt_InvalidSize (n : Nat) : Option Bool := match n with | 2 => some false | 3 => some false | 4 => some false | 5 => some false | 6 => some false | 7 => some true | 8 => some false | 9 => some false | 10 => some false | 11 => some false | 12 => some false | _ => none
theorem Tx.hk_InvalidSize {T : Tab} {K : PySem.W.Frag} {mg : Str → Option Value} (t : Tx T K mg) : ∀ m ∈ ns_all, ∃ C fn, T m = some (C, fn) ∧ ExcC K C ∧ ∀ b, kt_InvalidSize m = some b → PySem.W.kitOne K (.ref C) (.ref t.c_InvalidSize) = some b := by
  unfold ns_all
  exact by
    intro m hm
    simp only [List.mem_cons, List.not_mem_nil, or_false] at hm
    rcases hm with rfl | rfl | rfl | rfl | rfl | rfl | rfl | rfl | rfl | rfl | rfl
    · exact ⟨_, _, t.T_InvalidForm, t.x_InvalidForm, fun b h => by cases h; exact t.kt_InvalidForm_InvalidSize⟩
    · exact ⟨_, _, t.T_InvalidText, t.x_InvalidText, fun b h => by cases h; exact t.kt_InvalidText_InvalidSize⟩
    · exact ⟨_, _, t.T_InvalidPiece, t.x_InvalidPiece, fun b h => by cases h; exact t.kt_InvalidPiece_InvalidSize⟩
    · exact ⟨_, _, t.T_InvalidCount, t.x_InvalidCount, fun b h => by cases h; exact t.kt_InvalidCount_InvalidSize⟩
    · exact ⟨_, _, t.T_InvalidSizes, t.x_InvalidSizes, fun b h => by cases h; exact t.kt_InvalidSizes_InvalidSize⟩
    · exact ⟨_, _, t.T_InvalidSize, t.x_InvalidSize, fun b h => by cases h; exact kit_self⟩
    · exact ⟨_, _, t.T_NotReversible, t.x_NotReversible, fun b h => by cases h; exact t.kt_NotReversible_InvalidSize⟩
    · exact ⟨_, _, t.T_InvalidCommand, t.x_InvalidCommand, fun b h => by cases h; exact t.kt_InvalidCommand_InvalidSize⟩
    · exact ⟨_, _, t.T_Refused, t.x_Refused, fun b h => by cases h; exact t.kt_Refused_InvalidSize⟩
    · exact ⟨_, _, t.T_NoDeed, t.x_NoDeed, fun b h => by cases h; exact t.kt_NoDeed_InvalidSize⟩
    · exact ⟨_, _, t.T_UnknownName, t.x_UnknownName, fun b h => by cases h; exact t.kt_UnknownName_InvalidSize⟩
def kt_InvalidSizes (n : Nat) : Option Bool := match n with | 2 => some false | 3 => some false | 4 => some false | 5 => some false | 6 => some true | 7 => some false | 8 => some false | 9 => some false | 10 => some false | 11 => some false | 12 => some false | _ => none
theorem Tx.hk_InvalidSizes {T : Tab} {K : PySem.W.Frag} {mg : Str → Option Value} (t : Tx T K mg) : ∀ m ∈ ns_all, ∃ C fn, T m = some (C, fn) ∧ ExcC K C ∧ ∀ b, kt_InvalidSizes m = some b → PySem.W.kitOne K (.ref C) (.ref t.c_InvalidSizes) = some b := by
  unfold ns_all
  exact by
    intro m hm
    simp only [List.mem_cons, List.not_mem_nil, or_false] at hm
    rcases hm with rfl | rfl | rfl | rfl | rfl | rfl | rfl | rfl | rfl | rfl | rfl
    · exact ⟨_, _, t.T_InvalidForm, t.x_InvalidForm, fun b h => by cases h; exact t.kt_InvalidForm_InvalidSizes⟩
    · exact ⟨_, _, t.T_InvalidText, t.x_InvalidText, fun b h => by cases h; exact t.kt_InvalidText_InvalidSizes⟩
    · exact ⟨_, _, t.T_InvalidPiece, t.x_InvalidPiece, fun b h => by cases h; exact t.kt_InvalidPiece_InvalidSizes⟩
    · exact ⟨_, _, t.T_InvalidCount, t.x_InvalidCount, fun b h => by cases h; exact t.kt_InvalidCount_InvalidSizes⟩
    · exact ⟨_, _, t.T_InvalidSizes, t.x_InvalidSizes, fun b h => by cases h; exact kit_self⟩
    · exact ⟨_, _, t.T_InvalidSize, t.x_InvalidSize, fun b h => by cases h; exact t.kt_InvalidSize_InvalidSizes⟩
    · exact ⟨_, _, t.T_NotReversible, t.x_NotReversible, fun b h => by cases h; exact t.kt_NotReversible_InvalidSizes⟩
    · exact ⟨_, _, t.T_InvalidCommand, t.x_InvalidCommand, fun b h => by cases h; exact t.kt_InvalidCommand_InvalidSizes⟩
    · exact ⟨_, _, t.T_Refused, t.x_Refused, fun b h => by cases h; exact t.kt_Refused_InvalidSizes⟩
    · exact ⟨_, _, t.T_NoDeed, t.x_NoDeed, fun b h => by cases h; exact t.kt_NoDeed_InvalidSizes⟩
    · exact ⟨_, _, t.T_UnknownName, t.x_UnknownName, fun b h => by cases h; exact t.kt_UnknownName_InvalidSizes⟩
def kt_InvalidText (n : Nat) : Option Bool := match n with | 2 => some false | 3 => some true | 4 => some false | 5 => some false | 6 => some false | 7 => some false | 8 => some false | 9 => some false | 10 => some false | 11 => some false | 12 => some false | _ => none
theorem Tx.hk_InvalidText {T : Tab} {K : PySem.W.Frag} {mg : Str → Option Value} (t : Tx T K mg) : ∀ m ∈ ns_all, ∃ C fn, T m = some (C, fn) ∧ ExcC K C ∧ ∀ b, kt_InvalidText m = some b → PySem.W.kitOne K (.ref C) (.ref t.c_InvalidText) = some b := by
  unfold ns_all
  exact by
    intro m hm
    simp only [List.mem_cons, List.not_mem_nil, or_false] at hm
    rcases hm with rfl | rfl | rfl | rfl | rfl | rfl | rfl | rfl | rfl | rfl | rfl
    · exact ⟨_, _, t.T_InvalidForm, t.x_InvalidForm, fun b h => by cases h; exact t.kt_InvalidForm_InvalidText⟩
    · exact ⟨_, _, t.T_InvalidText, t.x_InvalidText, fun b h => by cases h; exact kit_self⟩
    · exact ⟨_, _, t.T_InvalidPiece, t.x_InvalidPiece, fun b h => by cases h; exact t.kt_InvalidPiece_InvalidText⟩
    · exact ⟨_, _, t.T_InvalidCount, t.x_InvalidCount, fun b h => by cases h; exact t.kt_InvalidCount_InvalidText⟩
    · exact ⟨_, _, t.T_InvalidSizes, t.x_InvalidSizes, fun b h => by cases h; exact t.kt_InvalidSizes_InvalidText⟩
    · exact ⟨_, _, t.T_InvalidSize, t.x_InvalidSize, fun b h => by cases h; exact t.kt_InvalidSize_InvalidText⟩
    · exact ⟨_, _, t.T_NotReversible, t.x_NotReversible, fun b h => by cases h; exact t.kt_NotReversible_InvalidText⟩
    · exact ⟨_, _, t.T_InvalidCommand, t.x_InvalidCommand, fun b h => by cases h; exact t.kt_InvalidCommand_InvalidText⟩
    · exact ⟨_, _, t.T_Refused, t.x_Refused, fun b h => by cases h; exact t.kt_Refused_InvalidText⟩
    · exact ⟨_, _, t.T_NoDeed, t.x_NoDeed, fun b h => by cases h; exact t.kt_NoDeed_InvalidText⟩
    · exact ⟨_, _, t.T_UnknownName, t.x_UnknownName, fun b h => by cases h; exact t.kt_UnknownName_InvalidText⟩
def kt_KeyError (n : Nat) : Option Bool := match n with | 2 => some false | 3 => some false | 4 => some false | 5 => some false | 6 => some false | 7 => some false | 8 => some false | 9 => some false | 10 => some false | 11 => some false | 12 => some true | _ => none
theorem Tx.hk_KeyError {T : Tab} {K : PySem.W.Frag} {mg : Str → Option Value} (t : Tx T K mg) : ∀ m ∈ ns_all, ∃ C fn, T m = some (C, fn) ∧ ExcC K C ∧ ∀ b, kt_KeyError m = some b → PySem.W.kitOne K (.ref C) (.type "KeyError") = some b := by
  unfold ns_all
  exact by
    intro m hm
    simp only [List.mem_cons, List.not_mem_nil, or_false] at hm
    rcases hm with rfl | rfl | rfl | rfl | rfl | rfl | rfl | rfl | rfl | rfl | rfl
    · exact ⟨_, _, t.T_InvalidForm, t.x_InvalidForm, fun b h => by cases h; exact t.kt_InvalidForm_KeyError⟩
    · exact ⟨_, _, t.T_InvalidText, t.x_InvalidText, fun b h => by cases h; exact t.kt_InvalidText_KeyError⟩
    · exact ⟨_, _, t.T_InvalidPiece, t.x_InvalidPiece, fun b h => by cases h; exact t.kt_InvalidPiece_KeyError⟩
    · exact ⟨_, _, t.T_InvalidCount, t.x_InvalidCount, fun b h => by cases h; exact t.kt_InvalidCount_KeyError⟩
    · exact ⟨_, _, t.T_InvalidSizes, t.x_InvalidSizes, fun b h => by cases h; exact t.kt_InvalidSizes_KeyError⟩
    · exact ⟨_, _, t.T_InvalidSize, t.x_InvalidSize, fun b h => by cases h; exact t.kt_InvalidSize_KeyError⟩
    · exact ⟨_, _, t.T_NotReversible, t.x_NotReversible, fun b h => by cases h; exact t.kt_NotReversible_KeyError⟩
    · exact ⟨_, _, t.T_InvalidCommand, t.x_InvalidCommand, fun b h => by cases h; exact t.kt_InvalidCommand_KeyError⟩
    · exact ⟨_, _, t.T_Refused, t.x_Refused, fun b h => by cases h; exact t.kt_Refused_KeyError⟩
    · exact ⟨_, _, t.T_NoDeed, t.x_NoDeed, fun b h => by cases h; exact t.kt_NoDeed_KeyError⟩
    · exact ⟨_, _, t.T_UnknownName, t.x_UnknownName, fun b h => by cases h; exact t.kt_UnknownName_KeyError⟩
def kt_NoDeed (n : Nat) : Option Bool := match n with | 2 => some false | 3 => some false | 4 => some false | 5 => some false | 6 => some false | 7 => some false | 8 => some false | 9 => some false | 10 => some false | 11 => some true | 12 => some false | _ => none
theorem Tx.hk_NoDeed {T : Tab} {K : PySem.W.Frag} {mg : Str → Option Value} (t : Tx T K mg) : ∀ m ∈ ns_all, ∃ C fn, T m = some (C, fn) ∧ ExcC K C ∧ ∀ b, kt_NoDeed m = some b → PySem.W.kitOne K (.ref C) (.ref t.c_NoDeed) = some b := by
  unfold ns_all
  exact by
    intro m hm
    simp only [List.mem_cons, List.not_mem_nil, or_false] at hm
    rcases hm with rfl | rfl | rfl | rfl | rfl | rfl | rfl | rfl | rfl | rfl | rfl
    · exact ⟨_, _, t.T_InvalidForm, t.x_InvalidForm, fun b h => by cases h; exact t.kt_InvalidForm_NoDeed⟩
    · exact ⟨_, _, t.T_InvalidText, t.x_InvalidText, fun b h => by cases h; exact t.kt_InvalidText_NoDeed⟩
    · exact ⟨_, _, t.T_InvalidPiece, t.x_InvalidPiece, fun b h => by cases h; exact t.kt_InvalidPiece_NoDeed⟩
    · exact ⟨_, _, t.T_InvalidCount, t.x_InvalidCount, fun b h => by cases h; exact t.kt_InvalidCount_NoDeed⟩
    · exact ⟨_, _, t.T_InvalidSizes, t.x_InvalidSizes, fun b h => by cases h; exact t.kt_InvalidSizes_NoDeed⟩
    · exact ⟨_, _, t.T_InvalidSize, t.x_InvalidSize, fun b h => by cases h; exact t.kt_InvalidSize_NoDeed⟩
    · exact ⟨_, _, t.T_NotReversible, t.x_NotReversible, fun b h => by cases h; exact t.kt_NotReversible_NoDeed⟩
    · exact ⟨_, _, t.T_InvalidCommand, t.x_InvalidCommand, fun b h => by cases h; exact t.kt_InvalidCommand_NoDeed⟩
    · exact ⟨_, _, t.T_Refused, t.x_Refused, fun b h => by cases h; exact t.kt_Refused_NoDeed⟩
    · exact ⟨_, _, t.T_NoDeed, t.x_NoDeed, fun b h => by cases h; exact kit_self⟩
    · exact ⟨_, _, t.T_UnknownName, t.x_UnknownName, fun b h => by cases h; exact t.kt_UnknownName_NoDeed⟩
def kt_NotReversible (n : Nat) : Option Bool := match n with | 2 => some false | 3 => some false | 4 => some false | 5 => some false | 6 => some false | 7 => some false | 8 => some true | 9 => some false | 10 => some false | 11 => some false | 12 => some false | _ => none
theorem Tx.hk_NotReversible {T : Tab} {K : PySem.W.Frag} {mg : Str → Option Value} (t : Tx T K mg) : ∀ m ∈ ns_all, ∃ C fn, T m = some (C, fn) ∧ ExcC K C ∧ ∀ b, kt_NotReversible m = some b → PySem.W.kitOne K (.ref C) (.ref t.c_NotReversible) = some b := by
  unfold ns_all
  exact by
    intro m hm
    simp only [List.mem_cons, List.not_mem_nil, or_false] at hm
    rcases hm with rfl | rfl | rfl | rfl | rfl | rfl | rfl | rfl | rfl | rfl | rfl
    · exact ⟨_, _, t.T_InvalidForm, t.x_InvalidForm, fun b h => by cases h; exact t.kt_InvalidForm_NotReversible⟩
    · exact ⟨_, _, t.T_InvalidText, t.x_InvalidText, fun b h => by cases h; exact t.kt_InvalidText_NotReversible⟩
    · exact ⟨_, _, t.T_InvalidPiece, t.x_InvalidPiece, fun b h => by cases h; exact t.kt_InvalidPiece_NotReversible⟩
    · exact ⟨_, _, t.T_InvalidCount, t.x_InvalidCount, fun b h => by cases h; exact t.kt_InvalidCount_NotReversible⟩
    · exact ⟨_, _, t.T_InvalidSizes, t.x_InvalidSizes, fun b h => by cases h; exact t.kt_InvalidSizes_NotReversible⟩
    · exact ⟨_, _, t.T_InvalidSize, t.x_InvalidSize, fun b h => by cases h; exact t.kt_InvalidSize_NotReversible⟩
    · exact ⟨_, _, t.T_NotReversible, t.x_NotReversible, fun b h => by cases h; exact kit_self⟩
    · exact ⟨_, _, t.T_InvalidCommand, t.x_InvalidCommand, fun b h => by cases h; exact t.kt_InvalidCommand_NotReversible⟩
    · exact ⟨_, _, t.T_Refused, t.x_Refused, fun b h => by cases h; exact t.kt_Refused_NotReversible⟩
    · exact ⟨_, _, t.T_NoDeed, t.x_NoDeed, fun b h => by cases h; exact t.kt_NoDeed_NotReversible⟩
    · exact ⟨_, _, t.T_UnknownName, t.x_UnknownName, fun b h => by cases h; exact t.kt_UnknownName_NotReversible⟩
def kt_NotReversible_Refused_NoDeed (n : Nat) : Option Bool := match n with | 2 => some false | 3 => some false | 4 => some false | 5 => some false | 6 => some false | 7 => some false | 8 => some true | 9 => some false | 10 => some true | 11 => some true | 12 => some false | _ => none
theorem Tx.hk_NotReversible_Refused_NoDeed {T : Tab} {K : PySem.W.Frag} {mg : Str → Option Value} (t : Tx T K mg) : ∀ m ∈ ns_all, ∃ C fn, T m = some (C, fn) ∧ ExcC K C ∧ ∀ b, kt_NotReversible_Refused_NoDeed m = some b → PySem.W.kitAny K (.ref C) (([t.c_NotReversible, t.c_Refused, t.c_NoDeed] : List Addr).map Value.ref) = some b := by
  unfold ns_all
  exact by
    intro m hm
    simp only [List.mem_cons, List.not_mem_nil, or_false] at hm
    rcases hm with rfl | rfl | rfl | rfl | rfl | rfl | rfl | rfl | rfl | rfl | rfl
    · exact ⟨_, _, t.T_InvalidForm, t.x_InvalidForm, fun b h => by cases h; exact (by simp only [List.map, PySem.W.kitAny, t.kt_InvalidForm_NotReversible, t.kt_InvalidForm_Refused, t.kt_InvalidForm_NoDeed])⟩
    · exact ⟨_, _, t.T_InvalidText, t.x_InvalidText, fun b h => by cases h; exact (by simp only [List.map, PySem.W.kitAny, t.kt_InvalidText_NotReversible, t.kt_InvalidText_Refused, t.kt_InvalidText_NoDeed])⟩
    · exact ⟨_, _, t.T_InvalidPiece, t.x_InvalidPiece, fun b h => by cases h; exact (by simp only [List.map, PySem.W.kitAny, t.kt_InvalidPiece_NotReversible, t.kt_InvalidPiece_Refused, t.kt_InvalidPiece_NoDeed])⟩
    · exact ⟨_, _, t.T_InvalidCount, t.x_InvalidCount, fun b h => by cases h; exact (by simp only [List.map, PySem.W.kitAny, t.kt_InvalidCount_NotReversible, t.kt_InvalidCount_Refused, t.kt_InvalidCount_NoDeed])⟩
    · exact ⟨_, _, t.T_InvalidSizes, t.x_InvalidSizes, fun b h => by cases h; exact (by simp only [List.map, PySem.W.kitAny, t.kt_InvalidSizes_NotReversible, t.kt_InvalidSizes_Refused, t.kt_InvalidSizes_NoDeed])⟩
    · exact ⟨_, _, t.T_InvalidSize, t.x_InvalidSize, fun b h => by cases h; exact (by simp only [List.map, PySem.W.kitAny, t.kt_InvalidSize_NotReversible, t.kt_InvalidSize_Refused, t.kt_InvalidSize_NoDeed])⟩
    · exact ⟨_, _, t.T_NotReversible, t.x_NotReversible, fun b h => by cases h; exact (by simp only [List.map, PySem.W.kitAny, kit_self, t.kt_NotReversible_Refused, t.kt_NotReversible_NoDeed])⟩
    · exact ⟨_, _, t.T_InvalidCommand, t.x_InvalidCommand, fun b h => by cases h; exact (by simp only [List.map, PySem.W.kitAny, t.kt_InvalidCommand_NotReversible, t.kt_InvalidCommand_Refused, t.kt_InvalidCommand_NoDeed])⟩
    · exact ⟨_, _, t.T_Refused, t.x_Refused, fun b h => by cases h; exact (by simp only [List.map, PySem.W.kitAny, t.kt_Refused_NotReversible, kit_self, t.kt_Refused_NoDeed])⟩
    · exact ⟨_, _, t.T_NoDeed, t.x_NoDeed, fun b h => by cases h; exact (by simp only [List.map, PySem.W.kitAny, t.kt_NoDeed_NotReversible, t.kt_NoDeed_Refused, kit_self])⟩
    · exact ⟨_, _, t.T_UnknownName, t.x_UnknownName, fun b h => by cases h; exact (by simp only [List.map, PySem.W.kitAny, t.kt_UnknownName_NotReversible, t.kt_UnknownName_Refused, t.kt_UnknownName_NoDeed])⟩
def kt_Refused (n : Nat) : Option Bool := match n with | 2 => some false | 3 => some false | 4 => some false | 5 => some false | 6 => some false | 7 => some false | 8 => some false | 9 => some false | 10 => some true | 11 => some false | 12 => some false | _ => none
theorem Tx.hk_Refused {T : Tab} {K : PySem.W.Frag} {mg : Str → Option Value} (t : Tx T K mg) : ∀ m ∈ ns_all, ∃ C fn, T m = some (C, fn) ∧ ExcC K C ∧ ∀ b, kt_Refused m = some b → PySem.W.kitOne K (.ref C) (.ref t.c_Refused) = some b := by
  unfold ns_all
  exact by
    intro m hm
    simp only [List.mem_cons, List.not_mem_nil, or_false] at hm
    rcases hm with rfl | rfl | rfl | rfl | rfl | rfl | rfl | rfl | rfl | rfl | rfl
    · exact ⟨_, _, t.T_InvalidForm, t.x_InvalidForm, fun b h => by cases h; exact t.kt_InvalidForm_Refused⟩
    · exact ⟨_, _, t.T_InvalidText, t.x_InvalidText, fun b h => by cases h; exact t.kt_InvalidText_Refused⟩
    · exact ⟨_, _, t.T_InvalidPiece, t.x_InvalidPiece, fun b h => by cases h; exact t.kt_InvalidPiece_Refused⟩
    · exact ⟨_, _, t.T_InvalidCount, t.x_InvalidCount, fun b h => by cases h; exact t.kt_InvalidCount_Refused⟩
    · exact ⟨_, _, t.T_InvalidSizes, t.x_InvalidSizes, fun b h => by cases h; exact t.kt_InvalidSizes_Refused⟩
    · exact ⟨_, _, t.T_InvalidSize, t.x_InvalidSize, fun b h => by cases h; exact t.kt_InvalidSize_Refused⟩
    · exact ⟨_, _, t.T_NotReversible, t.x_NotReversible, fun b h => by cases h; exact t.kt_NotReversible_Refused⟩
    · exact ⟨_, _, t.T_InvalidCommand, t.x_InvalidCommand, fun b h => by cases h; exact t.kt_InvalidCommand_Refused⟩
    · exact ⟨_, _, t.T_Refused, t.x_Refused, fun b h => by cases h; exact kit_self⟩
    · exact ⟨_, _, t.T_NoDeed, t.x_NoDeed, fun b h => by cases h; exact t.kt_NoDeed_Refused⟩
    · exact ⟨_, _, t.T_UnknownName, t.x_UnknownName, fun b h => by cases h; exact t.kt_UnknownName_Refused⟩
def kt_UnknownName (n : Nat) : Option Bool := match n with | 2 => some false | 3 => some false | 4 => some false | 5 => some false | 6 => some false | 7 => some false | 8 => some false | 9 => some false | 10 => some false | 11 => some false | 12 => some true | _ => none
theorem Tx.hk_UnknownName {T : Tab} {K : PySem.W.Frag} {mg : Str → Option Value} (t : Tx T K mg) : ∀ m ∈ ns_all, ∃ C fn, T m = some (C, fn) ∧ ExcC K C ∧ ∀ b, kt_UnknownName m = some b → PySem.W.kitOne K (.ref C) (.ref t.c_UnknownName) = some b := by
  unfold ns_all
  exact by
    intro m hm
    simp only [List.mem_cons, List.not_mem_nil, or_false] at hm
    rcases hm with rfl | rfl | rfl | rfl | rfl | rfl | rfl | rfl | rfl | rfl | rfl
    · exact ⟨_, _, t.T_InvalidForm, t.x_InvalidForm, fun b h => by cases h; exact t.kt_InvalidForm_UnknownName⟩
    · exact ⟨_, _, t.T_InvalidText, t.x_InvalidText, fun b h => by cases h; exact t.kt_InvalidText_UnknownName⟩
    · exact ⟨_, _, t.T_InvalidPiece, t.x_InvalidPiece, fun b h => by cases h; exact t.kt_InvalidPiece_UnknownName⟩
    · exact ⟨_, _, t.T_InvalidCount, t.x_InvalidCount, fun b h => by cases h; exact t.kt_InvalidCount_UnknownName⟩
    · exact ⟨_, _, t.T_InvalidSizes, t.x_InvalidSizes, fun b h => by cases h; exact t.kt_InvalidSizes_UnknownName⟩
    · exact ⟨_, _, t.T_InvalidSize, t.x_InvalidSize, fun b h => by cases h; exact t.kt_InvalidSize_UnknownName⟩
    · exact ⟨_, _, t.T_NotReversible, t.x_NotReversible, fun b h => by cases h; exact t.kt_NotReversible_UnknownName⟩
    · exact ⟨_, _, t.T_InvalidCommand, t.x_InvalidCommand, fun b h => by cases h; exact t.kt_InvalidCommand_UnknownName⟩
    · exact ⟨_, _, t.T_Refused, t.x_Refused, fun b h => by cases h; exact t.kt_Refused_UnknownName⟩
    · exact ⟨_, _, t.T_NoDeed, t.x_NoDeed, fun b h => by cases h; exact t.kt_NoDeed_UnknownName⟩
    · exact ⟨_, _, t.T_UnknownName, t.x_UnknownName, fun b h => by cases h; exact kit_self⟩
def kt_ValueError (n : Nat) : Option Bool := match n with | 2 => some true | 3 => some true | 4 => some true | 5 => some true | 6 => some true | 7 => some true | 8 => some true | 9 => some true | 10 => some true | 11 => some false | 12 => some false | _ => none
theorem Tx.hk_ValueError {T : Tab} {K : PySem.W.Frag} {mg : Str → Option Value} (t : Tx T K mg) : ∀ m ∈ ns_all, ∃ C fn, T m = some (C, fn) ∧ ExcC K C ∧ ∀ b, kt_ValueError m = some b → PySem.W.kitOne K (.ref C) (.type "ValueError") = some b := by
  unfold ns_all
  exact by
    intro m hm
    simp only [List.mem_cons, List.not_mem_nil, or_false] at hm
    rcases hm with rfl | rfl | rfl | rfl | rfl | rfl | rfl | rfl | rfl | rfl | rfl
    · exact ⟨_, _, t.T_InvalidForm, t.x_InvalidForm, fun b h => by cases h; exact t.kt_InvalidForm_ValueError⟩
    · exact ⟨_, _, t.T_InvalidText, t.x_InvalidText, fun b h => by cases h; exact t.kt_InvalidText_ValueError⟩
    · exact ⟨_, _, t.T_InvalidPiece, t.x_InvalidPiece, fun b h => by cases h; exact t.kt_InvalidPiece_ValueError⟩
    · exact ⟨_, _, t.T_InvalidCount, t.x_InvalidCount, fun b h => by cases h; exact t.kt_InvalidCount_ValueError⟩
    · exact ⟨_, _, t.T_InvalidSizes, t.x_InvalidSizes, fun b h => by cases h; exact t.kt_InvalidSizes_ValueError⟩
    · exact ⟨_, _, t.T_InvalidSize, t.x_InvalidSize, fun b h => by cases h; exact t.kt_InvalidSize_ValueError⟩
    · exact ⟨_, _, t.T_NotReversible, t.x_NotReversible, fun b h => by cases h; exact t.kt_NotReversible_ValueError⟩
    · exact ⟨_, _, t.T_InvalidCommand, t.x_InvalidCommand, fun b h => by cases h; exact t.kt_InvalidCommand_ValueError⟩
    · exact ⟨_, _, t.T_Refused, t.x_Refused, fun b h => by cases h; exact t.kt_Refused_ValueError⟩
    · exact ⟨_, _, t.T_NoDeed, t.x_NoDeed, fun b h => by cases h; exact t.kt_NoDeed_ValueError⟩
    · exact ⟨_, _, t.T_UnknownName, t.x_UnknownName, fun b h => by cases h; exact t.kt_UnknownName_ValueError⟩

def w__law_feed (n : Nat) : WS := (wConsS (wAsg 2 (wTwo (wTwo (wCon (.int 7919)) (wName 1) mulW) (wCon (.int 11)) addW))
  (wConsS (wIfS (wBl (wTwo (wName 1) (wCb (wCons (wName 0) wNil) lenW) ltW))
  (wConsS (wAsg 2 (wTwo (wName 0) (wName 1) ixW))
  wNilS)
  (wConsS (wIfS (wBl (wTwo (wCb (wCons (wName 0) wNil) lenW) (wCon (.int 0)) gtW))
  (wConsS (wAsg 2 (wTwo (wName 2) (wTwo (wTwo (wCb (wCons (wTwo (wName 0) (wTwo (wName 1) (wCb (wCons (wName 0) wNil) lenW) modW) ixW) wNil) intW1) (wCon (.int 2147483629)) modW) (wCon (.int 69623)) mulW) addW))
  wNilS)
  wNilS)
  wNilS))
  (wConsS (wAsg 3 (wTwo (wTwo (wTwo (wTwo (wTwo (wCb (wCons (wName 2) wNil) intW1) (wCon (.int 2147483629)) modW) (wTwo (wCon (.int 104729)) (wName 1) mulW) addW) (wCon (.int 1)) addW) (wCon (.int 5)) powW) (wCon (.int 2147483647)) modW))
  (wConsS (wRetC n (wLstC (wCons (wTwo (wLst (wCons (wCon (.int 0)) (wCons (wName 2) wNil))) (wCb (wCons (wTwo (wName 2) (wTwo (wCon (.int 10)) (wCon (.int 18)) powW) geW) wNil) intW1) ixW) (wCons (wTwo (wTwo (wCb (wCons (wName 3) wNil) intW1) (wCon (.int 2147483646)) modW) (wCon (.int 1)) addW) wNil))))
  wNilS))))
def c__law_feed : Ct := ctOf ["_law_script", "_law_k", "_law_cell", "_law_seed"] ["_law_script", "_law_k"] (w__law_feed)
section
variable {T : Tab} {P : Program} {w : World} {K : PySem.W.Frag} {mg : Str → Option Value} {base : Heap}
theorem Tx.ok__law_feed (t : Tx T K mg) : FnOk P w K mg base CX0 1 t.a__law_feed t.fd__law_feed ["_law_script", "_law_k"] (spC T K c__law_feed) := by
  have nd := sc__law_feed.nd
  exact fn_J t.F__law_feed sc__law_feed fun cdv A outer sh H E hr n => (jss_cons (js_asg 2 nd (je_bin jb_add (je_bin jb_mul je_int (je_name 1)) je_int))
  (jss_cons (js_if (jt_cmp jc_lt (je_name 1) (je_cb t.z_len jc_len (ja_cons (je_name 0) ja_nil)))
  (jss_cons (js_asg 2 nd (je_sub ji_ix (je_name 0) (je_name 1)))
  jss_nil)
  (jss_cons (js_if (jt_cmp jc_gt (je_cb t.z_len jc_len (ja_cons (je_name 0) ja_nil)) je_int)
  (jss_cons (js_asg 2 nd (je_bin jb_add (je_name 2) (je_bin jb_mul (je_bin jb_mod (je_cb t.z_int jc_int (ja_cons (je_sub ji_ix (je_name 0) (je_bin jb_mod (je_name 1) (je_cb t.z_len jc_len (ja_cons (je_name 0) ja_nil)))) ja_nil)) je_int) je_int)))
  jss_nil)
  jss_nil)
  jss_nil))
  (jss_cons (js_asg 3 nd (je_bin jb_mod (je_bin jb_pow (je_bin jb_add (je_bin jb_add (je_bin jb_mod (je_cb t.z_int jc_int (ja_cons (je_name 2) ja_nil)) je_int) (je_bin jb_mul je_int (je_name 1))) je_int) je_int) je_int))
  (jss_cons (js_retC (je_lstC (ja_cons (je_sub ji_ix (je_lst (ja_cons je_int (ja_cons (je_name 2) ja_nil))) (je_cb t.z_int jc_int (ja_cons (je_cmp jc_ge (je_name 2) (je_bin jb_pow je_int je_int)) ja_nil))) (ja_cons (je_bin jb_add (je_bin jb_mod (je_cb t.z_int jc_int (ja_cons (je_name 3) ja_nil)) je_int) je_int) ja_nil))))
  jss_nil))))
end

section
variable {T : Tab} {P : Program} {w : World} {K : PySem.W.Frag} {mg : Str → Option Value} {base : Heap}
theorem Tx.ok_InvalidText___init__ (t : Tx T K mg) : FnOk P w K mg base CX0 1 t.a_InvalidText___init__ t.fd_InvalidText___init__ ["self", "line"] (spEn t.c_InvalidText ["line"]) := by
  refine t.F_InvalidText___init__.ok sc_InvalidText___init__ (fun vs H Q E h => ?_) (fun cdv A outer s H vs Q E hr h => ⟨_, (pss_cons (ps_expr (pe_ciniB (nid := "ValueError.__new__") t.m_ClashError t.ci_ClashError (pa_cons (pv 0) (pa_cons pe_str pa_nil)))) (pss_one (ps_ostB tlf_ve (pv 0) (pv 1)))), ?_⟩)
  · obtain ⟨a, ws, rfl, hl, _⟩ := h
    rw [List.length_cons, hl] <;> rfl
  · obtain ⟨a, ws, rfl, hl, e, q0, q1⟩ := h
    match ws, hl with
    | [v0], _ => exact ⟨_, rfl, a, t.c_InvalidText, [_], rfl, by decide, t.o_InvalidText, e, _, rfl, _, rfl, a, t.c_InvalidText, rfl, t.o_InvalidText, t.no_InvalidText_line, .inl ⟨e, fun dx n1 n2 => q1 (by decide) dx n1 n2⟩⟩
end

def w__law_take (n : Nat) : WS := (wConsS (wIfS (wBl (wTwo (wTwo (wName 0) (wCon (.int 0)) ixW) (wCon (.int 0)) gtW))
  (wConsS (wAsg 2 (wTwo (wCb (wCons (wTwo (wName 0) (wCon (.int 0)) ixW) wNil) intW1) (wName 1) modW))
  (wConsS (wSetL (wTwo (wTwo (wName 0) (wCon (.int 0)) ixW) (wName 1) fdivW) (wName 0) (wCon (.int 0)))
  (wConsS (wRet n (wName 2))
  wNilS)))
  wNilS)
  (wConsS (wAsg 3 (wTwo (wCb (wCons (wTwo (wTwo (wName 0) (wCon (.int 1)) ixW) (wCon (.int 69623)) mulW) wNil) intW1) (wCon (.int 2147483647)) modW))
  (wConsS (wSetL (wTwo (wTwo (wCb (wCons (wTwo (wTwo (wName 3) (wCon (.int 48271)) mulW) (wCon (.int 30103)) addW) wNil) intW1) (wCon (.int 2147483629)) modW) (wCon (.int 1)) addW) (wName 0) (wCon (.int 1)))
  (wConsS (wRet n (wTwo (wCb (wCons (wTwo (wTwo (wTwo (wName 3) (wCon (.int 2147483647)) mulW) (wTwo (wName 0) (wCon (.int 1)) ixW) addW) (wCon (.int 8191)) fdivW) wNil) intW1) (wName 1) modW))
  wNilS))))
def c__law_take : Ct := ctOf ["_law_box", "_law_many", "_law_digit", "_law_one"] ["_law_box", "_law_many"] (w__law_take)
section
variable {T : Tab} {P : Program} {w : World} {K : PySem.W.Frag} {mg : Str → Option Value} {base : Heap}
theorem Tx.ok__law_take (t : Tx T K mg) : FnOk P w K mg base CX0 1 t.a__law_take t.fd__law_take ["_law_box", "_law_many"] (spC T K c__law_take) := by
  have nd := sc__law_take.nd
  exact fn_J t.F__law_take sc__law_take fun cdv A outer sh H E hr n => (jss_cons (js_if (jt_cmp jc_gt (je_sub ji_ix (je_name 0) je_int) je_int)
  (jss_cons (js_asg 2 nd (je_bin jb_mod (je_cb t.z_int jc_int (ja_cons (je_sub ji_ix (je_name 0) je_int) ja_nil)) (je_name 1)))
  (jss_cons (js_setL (je_bin jb_fdiv (je_sub ji_ix (je_name 0) je_int) (je_name 1)) (je_name 0) je_int)
  (jss_cons (js_ret (je_name 2))
  jss_nil)))
  jss_nil)
  (jss_cons (js_asg 3 nd (je_bin jb_mod (je_cb t.z_int jc_int (ja_cons (je_bin jb_mul (je_sub ji_ix (je_name 0) je_int) je_int) ja_nil)) je_int))
  (jss_cons (js_setL (je_bin jb_add (je_bin jb_mod (je_cb t.z_int jc_int (ja_cons (je_bin jb_add (je_bin jb_mul (je_name 3) je_int) je_int) ja_nil)) je_int) je_int) (je_name 0) je_int)
  (jss_cons (js_ret (je_bin jb_mod (je_cb t.z_int jc_int (ja_cons (je_bin jb_fdiv (je_bin jb_add (je_bin jb_mul (je_name 3) je_int) (je_sub ji_ix (je_name 0) je_int)) je_int) ja_nil)) (je_name 1)))
  jss_nil))))
end

def w__law_value (rc_ : Ct) (n : Nat) : WS := (wConsS (wAsg 2 (wFn c__law_take (wCons (wName 0) (wCons (wTwo (wCon (.int 7)) (wTwo (wCon (.int 2)) (wCb (wCons (wTwo (wName 1) (wCon (.int 0)) (eqW false)) wNil) intW1) mulW) subW) wNil))))
  (wConsS (wIfS (wBl (wTwo (wName 2) (wCon (.int 0)) (eqW false)))
  (wConsS (wRet n (wTwo (wFn c__law_take (wCons (wName 0) (wCons (wTwo (wCon (.int 10)) (wCon (.int 6)) powW) wNil))) (wCon (.int 500000)) subW))
  wNilS)
  wNilS)
  (wConsS (wIfS (wBl (wTwo (wName 2) (wCon (.int 1)) (eqW false)))
  (wConsS (wRet n (wM1 joiW (wCon (.str "")) (wLc (wRng1 (wCons (wFn c__law_take (wCons (wName 0) (wCons (wCon (.int 5)) wNil))) wNil)) (.nm 3) wYes (wTwo (wCon (.str "aZ 9-")) (wFn c__law_take (wCons (wName 0) (wCons (wCon (.int 5)) wNil))) ixW) [3])))
  wNilS)
  wNilS)
  (wConsS (wIfS (wBl (wTwo (wName 2) (wCon (.int 2)) (eqW false)))
  (wConsS (wRet n (wTwo (wLst (wCons (wCon .non) (wCons (wCon (.bl true)) (wCons (wCon (.bl false)) wNil)))) (wFn c__law_take (wCons (wName 0) (wCons (wCon (.int 3)) wNil))) ixW))
  wNilS)
  wNilS)
  (wConsS (wIfS (wBl (wTwo (wName 2) (wCon (.int 3)) (eqW false)))
  (wConsS (wRet n (wCb (wCons (wTwo (wCon (.str "9")) (wTwo (wCon (.str "0")) (wFn c__law_take (wCons (wName 0) (wCons (wCon (.int 40)) wNil))) mulW) addW) wNil) intW1))
  wNilS)
  wNilS)
  (wConsS (wIfS (wBl (wTwo (wName 2) (wCon (.int 4)) (eqW false)))
  (wConsS (wRet n (wTwo (wCon (.int 0)) (wFn c__law_take (wCons (wName 0) (wCons (wCon (.int 99)) wNil))) subW))
  wNilS)
  wNilS)
  (wConsS (wAsg 4 (wLc (wRng1 (wCons (wFn c__law_take (wCons (wName 0) (wCons (wCon (.int 3)) wNil))) wNil)) (.nm 3) wYes (wFn rc_ (wCons (wName 0) (wCons (wTwo (wName 1) (wCon (.int 1)) subW) wNil))) [3]))
  (wConsS (wRet n (wTwo (wLst (wCons (wName 4) (wCons (wCb (wCons (wName 4) wNil) tupleW) wNil))) (wTwo (wName 2) (wCon (.int 5)) subW) ixW))
  wNilS))))))))
def c__law_value_ : Nat → Ct
  | 0 => cNo
  | k + 1 => ctOf ["_law_box", "_law_deep", "_law_form", "_law_k", "_law_some"] ["_law_box", "_law_deep"] (w__law_value (c__law_value_ k))
def c__law_value : Ct := c__law_value_ 3
section
variable {T : Tab} {P : Program} {w : World} {K : PySem.W.Frag} {mg : Str → Option Value} {base : Heap}
theorem Tx.okr__law_value (t : Tx T K mg) : ∀ k, FnOk P w K mg base CX0 (2 + k) t.a__law_value t.fd__law_value ["_law_box", "_law_deep"] (spC T K (c__law_value_ k))
  | 0 => fnOk_no
  | k + 1 => by
    have nd := sc__law_value.nd
    have ih := Tx.okr__law_value t k
    show FnOk P w K mg base CX0 ((2 + k) + 1) t.a__law_value t.fd__law_value ["_law_box", "_law_deep"] (spC T K (ctOf ["_law_box", "_law_deep", "_law_form", "_law_k", "_law_some"] ["_law_box", "_law_deep"] (w__law_value (c__law_value_ k))))
    exact fn_J t.F__law_value sc__law_value fun cdv A outer sh H E hr n => (jss_cons (js_asg 2 nd (je_call t.ok__law_take (hr.mono (by first | decide | omega)) t.m__law_take t.F__law_take.kp t.b__law_take (ja_cons (je_name 0) (ja_cons (je_bin jb_sub je_int (je_bin jb_mul je_int (je_cb t.z_int jc_int (ja_cons (je_cmp (jc_eq hr.units) (je_name 1) je_int) ja_nil)))) ja_nil))))
  (jss_cons (js_if (jt_cmp (jc_eq hr.units) (je_name 2) je_int)
  (jss_cons (js_ret (je_bin jb_sub (je_call t.ok__law_take (hr.mono (by first | decide | omega)) t.m__law_take t.F__law_take.kp t.b__law_take (ja_cons (je_name 0) (ja_cons (je_bin jb_pow je_int je_int) ja_nil))) je_int))
  jss_nil)
  jss_nil)
  (jss_cons (js_if (jt_cmp (jc_eq hr.units) (je_name 2) je_int)
  (jss_cons (js_ret (je_join je_str (je_lc nd ⟨(ji_range1 t.z_range (ja_cons (je_call t.ok__law_take (hr.mono (by first | decide | omega)) t.m__law_take t.F__law_take.kp t.b__law_take (ja_cons (je_name 0) (ja_cons je_int ja_nil))) ja_nil)), blkOk_by (own := [("_law_k", 3)]) (by kernel_rfl), fun _ _ _ _ _ => (dg_name 3 nd), fun _ _ _ _ _ => jts_nil, fun _ _ _ _ _ => (je_sub ji_ix je_str (je_call t.ok__law_take (hr.mono (by first | decide | omega)) t.m__law_take t.F__law_take.kp t.b__law_take (ja_cons (je_name 0) (ja_cons je_int ja_nil)))), by decide⟩)))
  jss_nil)
  jss_nil)
  (jss_cons (js_if (jt_cmp (jc_eq hr.units) (je_name 2) je_int)
  (jss_cons (js_ret (je_sub ji_ix (je_lst (ja_cons je_non (ja_cons je_bl (ja_cons je_bl ja_nil)))) (je_call t.ok__law_take (hr.mono (by first | decide | omega)) t.m__law_take t.F__law_take.kp t.b__law_take (ja_cons (je_name 0) (ja_cons je_int ja_nil)))))
  jss_nil)
  jss_nil)
  (jss_cons (js_if (jt_cmp (jc_eq hr.units) (je_name 2) je_int)
  (jss_cons (js_ret (je_cb t.z_int jc_int (ja_cons (je_bin jb_add je_str (je_bin jb_mul je_str (je_call t.ok__law_take (hr.mono (by first | decide | omega)) t.m__law_take t.F__law_take.kp t.b__law_take (ja_cons (je_name 0) (ja_cons je_int ja_nil))))) ja_nil)))
  jss_nil)
  jss_nil)
  (jss_cons (js_if (jt_cmp (jc_eq hr.units) (je_name 2) je_int)
  (jss_cons (js_ret (je_bin jb_sub je_int (je_call t.ok__law_take (hr.mono (by first | decide | omega)) t.m__law_take t.F__law_take.kp t.b__law_take (ja_cons (je_name 0) (ja_cons je_int ja_nil)))))
  jss_nil)
  jss_nil)
  (jss_cons (js_lc 4 nd ⟨(ji_range1 t.z_range (ja_cons (je_call t.ok__law_take (hr.mono (by first | decide | omega)) t.m__law_take t.F__law_take.kp t.b__law_take (ja_cons (je_name 0) (ja_cons je_int ja_nil))) ja_nil)), blkOk_by (own := [("_law_k", 3)]) (by kernel_rfl), fun _ _ _ _ _ => (dg_name 3 nd), fun _ _ _ _ _ => jts_nil, fun _ _ _ _ _ => (je_call ih (hr.mono (by first | decide | omega)) t.m__law_value t.F__law_value.kp t.b__law_value (ja_cons (je_name 0) (ja_cons (je_bin jb_sub (je_name 1) je_int) ja_nil))), by decide⟩)
  (jss_cons (js_ret (je_sub ji_ix (je_lst (ja_cons (je_name 4) (ja_cons (je_cb t.z_tuple jc_tuple (ja_cons (je_name 4) ja_nil)) ja_nil))) (je_bin jb_sub (je_name 2) je_int)))
  jss_nil))))))))
theorem Tx.ok__law_value (t : Tx T K mg) : FnOk P w K mg base CX0 5 t.a__law_value t.fd__law_value ["_law_box", "_law_deep"] (spC T K c__law_value) := Tx.okr__law_value t 3
end

section
variable {T : Tab} {P : Program} {w : World} {K : PySem.W.Frag} {mg : Str → Option Value} {base : Heap}
theorem Tx.ok_InvalidForm___init__ (t : Tx T K mg) : FnOk P w K mg base CX0 1 t.a_InvalidForm___init__ t.fd_InvalidForm___init__ ["self"] (spEn t.c_InvalidForm []) := by
  refine t.F_InvalidForm___init__.ok sc_InvalidForm___init__ (fun vs H Q E h => ?_) (fun cdv A outer s H vs Q E hr h => ⟨_, (pss_one (ps_expr (pe_ciniB (nid := "ValueError.__new__") t.m_ClashError t.ci_ClashError (pa_cons (pv 0) (pa_cons pe_str pa_nil))))), ?_⟩)
  · obtain ⟨a, ws, rfl, hl, _⟩ := h
    rw [List.length_cons, hl] <;> rfl
  · obtain ⟨a, ws, rfl, hl, e, q0, q1⟩ := h
    match ws, hl with
    | [], _ => exact ⟨_, rfl, a, t.c_InvalidForm, [_], rfl, by decide, t.o_InvalidForm, e, q0 rfl⟩
end

section
variable {T : Tab} {P : Program} {w : World} {K : PySem.W.Frag} {mg : Str → Option Value} {base : Heap}
theorem Tx.ok_InvalidPiece___init__ (t : Tx T K mg) : FnOk P w K mg base CX0 1 t.a_InvalidPiece___init__ t.fd_InvalidPiece___init__ ["self", "word", "at"] (spEn t.c_InvalidPiece ["word", "at"]) := by
  refine t.F_InvalidPiece___init__.ok sc_InvalidPiece___init__ (fun vs H Q E h => ?_) (fun cdv A outer s H vs Q E hr h => ⟨_, (pss_cons (ps_expr (pe_ciniB (nid := "ValueError.__new__") t.m_ClashError t.ci_ClashError (pa_cons (pv 0) (pa_cons pe_str pa_nil)))) (pss_cons (ps_ostB tlf_ve (pv 0) (pv 1)) (pss_one (ps_ostB tlf_ve (pv 0) (pv 2))))), ?_⟩)
  · obtain ⟨a, ws, rfl, hl, _⟩ := h
    rw [List.length_cons, hl] <;> rfl
  · obtain ⟨a, ws, rfl, hl, e, q0, q1⟩ := h
    match ws, hl with
    | [v0, v1], _ => exact ⟨_, rfl, a, t.c_InvalidPiece, [_], rfl, by decide, t.o_InvalidPiece, e, _, rfl, _, rfl, a, t.c_InvalidPiece, rfl, t.o_InvalidPiece, t.no_InvalidPiece_word, .inl ⟨e, fun dx n1 n2 => ⟨_, rfl, _, rfl, a, t.c_InvalidPiece, rfl, t.o_InvalidPiece, t.no_InvalidPiece_at, .inr ⟨dx, [("word", v0)], upd_same, by rw [upd_ne n2, upd_same], Nat.le_of_ble_eq_true rfl, by rw [upd_two n2]; exact q1 (by decide) dx n1 n2⟩⟩⟩⟩
end

section
variable {T : Tab} {P : Program} {w : World} {K : PySem.W.Frag} {mg : Str → Option Value} {base : Heap}
theorem Tx.ok_InvalidCount___init__ (t : Tx T K mg) : FnOk P w K mg base CX0 1 t.a_InvalidCount___init__ t.fd_InvalidCount___init__ ["self", "word"] (spEn t.c_InvalidCount ["word"]) := by
  refine t.F_InvalidCount___init__.ok sc_InvalidCount___init__ (fun vs H Q E h => ?_) (fun cdv A outer s H vs Q E hr h => ⟨_, (pss_cons (ps_expr (pe_ciniB (nid := "ValueError.__new__") t.m_ClashError t.ci_ClashError (pa_cons (pv 0) (pa_cons pe_str pa_nil)))) (pss_one (ps_ostB tlf_ve (pv 0) (pv 1)))), ?_⟩)
  · obtain ⟨a, ws, rfl, hl, _⟩ := h
    rw [List.length_cons, hl] <;> rfl
  · obtain ⟨a, ws, rfl, hl, e, q0, q1⟩ := h
    match ws, hl with
    | [v0], _ => exact ⟨_, rfl, a, t.c_InvalidCount, [_], rfl, by decide, t.o_InvalidCount, e, _, rfl, _, rfl, a, t.c_InvalidCount, rfl, t.o_InvalidCount, t.no_InvalidCount_word, .inl ⟨e, fun dx n1 n2 => q1 (by decide) dx n1 n2⟩⟩
end

section
variable {T : Tab} {P : Program} {w : World} {K : PySem.W.Frag} {mg : Str → Option Value} {base : Heap}
theorem Tx.ok_InvalidSizes___init__ (t : Tx T K mg) : FnOk P w K mg base CX0 1 t.a_InvalidSizes___init__ t.fd_InvalidSizes___init__ ["self", "word"] (spEn t.c_InvalidSizes ["word"]) := by
  refine t.F_InvalidSizes___init__.ok sc_InvalidSizes___init__ (fun vs H Q E h => ?_) (fun cdv A outer s H vs Q E hr h => ⟨_, (pss_cons (ps_expr (pe_ciniB (nid := "ValueError.__new__") t.m_ClashError t.ci_ClashError (pa_cons (pv 0) (pa_cons pe_str pa_nil)))) (pss_one (ps_ostB tlf_ve (pv 0) (pv 1)))), ?_⟩)
  · obtain ⟨a, ws, rfl, hl, _⟩ := h
    rw [List.length_cons, hl] <;> rfl
  · obtain ⟨a, ws, rfl, hl, e, q0, q1⟩ := h
    match ws, hl with
    | [v0], _ => exact ⟨_, rfl, a, t.c_InvalidSizes, [_], rfl, by decide, t.o_InvalidSizes, e, _, rfl, _, rfl, a, t.c_InvalidSizes, rfl, t.o_InvalidSizes, t.no_InvalidSizes_word, .inl ⟨e, fun dx n1 n2 => q1 (by decide) dx n1 n2⟩⟩
end

section
variable {T : Tab} {P : Program} {w : World} {K : PySem.W.Frag} {mg : Str → Option Value} {base : Heap}
theorem Tx.ok_InvalidSize___init__ (t : Tx T K mg) : FnOk P w K mg base CX0 1 t.a_InvalidSize___init__ t.fd_InvalidSize___init__ ["self", "size"] (spEn t.c_InvalidSize ["size"]) := by
  refine t.F_InvalidSize___init__.ok sc_InvalidSize___init__ (fun vs H Q E h => ?_) (fun cdv A outer s H vs Q E hr h => ⟨_, (pss_cons (ps_expr (pe_ciniB (nid := "ValueError.__new__") t.m_ClashError t.ci_ClashError (pa_cons (pv 0) (pa_cons pe_str pa_nil)))) (pss_one (ps_ostB tlf_ve (pv 0) (pv 1)))), ?_⟩)
  · obtain ⟨a, ws, rfl, hl, _⟩ := h
    rw [List.length_cons, hl] <;> rfl
  · obtain ⟨a, ws, rfl, hl, e, q0, q1⟩ := h
    match ws, hl with
    | [v0], _ => exact ⟨_, rfl, a, t.c_InvalidSize, [_], rfl, by decide, t.o_InvalidSize, e, _, rfl, _, rfl, a, t.c_InvalidSize, rfl, t.o_InvalidSize, t.no_InvalidSize_size, .inl ⟨e, fun dx n1 n2 => q1 (by decide) dx n1 n2⟩⟩
end

section
variable {T : Tab} {P : Program} {w : World} {K : PySem.W.Frag} {mg : Str → Option Value} {base : Heap}
theorem Tx.ok_NotReversible___init__ (t : Tx T K mg) : FnOk P w K mg base CX0 1 t.a_NotReversible___init__ t.fd_NotReversible___init__ ["self", "at"] (spEn t.c_NotReversible ["at"]) := by
  refine t.F_NotReversible___init__.ok sc_NotReversible___init__ (fun vs H Q E h => ?_) (fun cdv A outer s H vs Q E hr h => ⟨_, (pss_cons (ps_expr (pe_ciniB (nid := "ValueError.__new__") t.m_ClashError t.ci_ClashError (pa_cons (pv 0) (pa_cons pe_str pa_nil)))) (pss_one (ps_ostB tlf_ve (pv 0) (pv 1)))), ?_⟩)
  · obtain ⟨a, ws, rfl, hl, _⟩ := h
    rw [List.length_cons, hl] <;> rfl
  · obtain ⟨a, ws, rfl, hl, e, q0, q1⟩ := h
    match ws, hl with
    | [v0], _ => exact ⟨_, rfl, a, t.c_NotReversible, [_], rfl, by decide, t.o_NotReversible, e, _, rfl, _, rfl, a, t.c_NotReversible, rfl, t.o_NotReversible, t.no_NotReversible_at, .inl ⟨e, fun dx n1 n2 => q1 (by decide) dx n1 n2⟩⟩
end

section
variable {T : Tab} {P : Program} {w : World} {K : PySem.W.Frag} {mg : Str → Option Value} {base : Heap}
theorem Tx.ok_InvalidCommand___init__ (t : Tx T K mg) : FnOk P w K mg base CX0 1 t.a_InvalidCommand___init__ t.fd_InvalidCommand___init__ ["self"] (spEn t.c_InvalidCommand []) := by
  refine t.F_InvalidCommand___init__.ok sc_InvalidCommand___init__ (fun vs H Q E h => ?_) (fun cdv A outer s H vs Q E hr h => ⟨_, (pss_one (ps_expr (pe_ciniB (nid := "ValueError.__new__") t.m_ClashError t.ci_ClashError (pa_cons (pv 0) (pa_cons pe_str pa_nil))))), ?_⟩)
  · obtain ⟨a, ws, rfl, hl, _⟩ := h
    rw [List.length_cons, hl] <;> rfl
  · obtain ⟨a, ws, rfl, hl, e, q0, q1⟩ := h
    match ws, hl with
    | [], _ => exact ⟨_, rfl, a, t.c_InvalidCommand, [_], rfl, by decide, t.o_InvalidCommand, e, q0 rfl⟩
end

section
variable {T : Tab} {P : Program} {w : World} {K : PySem.W.Frag} {mg : Str → Option Value} {base : Heap}
theorem Tx.ok_Refused___init__ (t : Tx T K mg) : FnOk P w K mg base CX0 1 t.a_Refused___init__ t.fd_Refused___init__ ["self", "at"] (spEn t.c_Refused ["at"]) := by
  refine t.F_Refused___init__.ok sc_Refused___init__ (fun vs H Q E h => ?_) (fun cdv A outer s H vs Q E hr h => ⟨_, (pss_cons (ps_expr (pe_ciniB (nid := "ValueError.__new__") t.m_ClashError t.ci_ClashError (pa_cons (pv 0) (pa_cons pe_str pa_nil)))) (pss_one (ps_ostB tlf_ve (pv 0) (pv 1)))), ?_⟩)
  · obtain ⟨a, ws, rfl, hl, _⟩ := h
    rw [List.length_cons, hl] <;> rfl
  · obtain ⟨a, ws, rfl, hl, e, q0, q1⟩ := h
    match ws, hl with
    | [v0], _ => exact ⟨_, rfl, a, t.c_Refused, [_], rfl, by decide, t.o_Refused, e, _, rfl, _, rfl, a, t.c_Refused, rfl, t.o_Refused, t.no_Refused_at, .inl ⟨e, fun dx n1 n2 => q1 (by decide) dx n1 n2⟩⟩
end

section
variable {T : Tab} {P : Program} {w : World} {K : PySem.W.Frag} {mg : Str → Option Value} {base : Heap}
theorem Tx.ok_NoDeed___init__ (t : Tx T K mg) : FnOk P w K mg base CX0 1 t.a_NoDeed___init__ t.fd_NoDeed___init__ ["self", "at"] (spEn t.c_NoDeed ["at"]) := by
  refine t.F_NoDeed___init__.ok sc_NoDeed___init__ (fun vs H Q E h => ?_) (fun cdv A outer s H vs Q E hr h => ⟨_, (pss_cons (ps_expr (pe_biniB (tl := ieT) (nid := "IndexError.__new__") ini_ie (by decide +kernel) t.z_IndexError (bic_ie t.bi_IndexError) (pa_cons (pv 0) (pa_cons pe_str pa_nil)))) (pss_one (ps_ostB tlf_ie (pv 0) (pv 1)))), ?_⟩)
  · obtain ⟨a, ws, rfl, hl, _⟩ := h
    rw [List.length_cons, hl] <;> rfl
  · obtain ⟨a, ws, rfl, hl, e, q0, q1⟩ := h
    match ws, hl with
    | [v0], _ => exact ⟨_, rfl, a, t.c_NoDeed, [_], rfl, by decide, t.o_NoDeed, e, _, rfl, _, rfl, a, t.c_NoDeed, rfl, t.o_NoDeed, t.no_NoDeed_at, .inl ⟨e, fun dx n1 n2 => q1 (by decide) dx n1 n2⟩⟩
end

section
variable {T : Tab} {P : Program} {w : World} {K : PySem.W.Frag} {mg : Str → Option Value} {base : Heap}
theorem Tx.ok_UnknownName___init__ (t : Tx T K mg) : FnOk P w K mg base CX0 1 t.a_UnknownName___init__ t.fd_UnknownName___init__ ["self", "name"] (spEn t.c_UnknownName ["name"]) := by
  refine t.F_UnknownName___init__.ok sc_UnknownName___init__ (fun vs H Q E h => ?_) (fun cdv A outer s H vs Q E hr h => ⟨_, (pss_cons (ps_expr (pe_biniB (tl := keT) (nid := "LookupError.__new__") ini_ke (by decide +kernel) t.z_KeyError (bic_ke t.bi_KeyError) (pa_cons (pv 0) (pa_cons pe_str pa_nil)))) (pss_one (ps_ostB tlf_ke (pv 0) (pv 1)))), ?_⟩)
  · obtain ⟨a, ws, rfl, hl, _⟩ := h
    rw [List.length_cons, hl] <;> rfl
  · obtain ⟨a, ws, rfl, hl, e, q0, q1⟩ := h
    match ws, hl with
    | [v0], _ => exact ⟨_, rfl, a, t.c_UnknownName, [_], rfl, by decide, t.o_UnknownName, e, _, rfl, _, rfl, a, t.c_UnknownName, rfl, t.o_UnknownName, t.no_UnknownName_name, .inl ⟨e, fun dx n1 n2 => q1 (by decide) dx n1 n2⟩⟩
end

def w__law_errors (n : Nat) : WS := (wConsS (wAsg 2 (wLst (wCons (wTup (wCons (wMkE 2 0 [] wNil) (wCons (wTup wNil) wNil))) (wCons (wTup (wCons (wMkE 3 1 ["line"] (wCons (wName 0) wNil)) (wCons (wTup (wCons (wCon (.str "line")) (wCons (wName 0) wNil))) wNil))) (wCons (wTup (wCons (wMkE 4 2 ["word", "at"] (wCons (wName 0) (wCons (wName 1) wNil))) (wCons (wTup (wCons (wCon (.str "word")) (wCons (wName 0) (wCons (wCon (.str "at")) (wCons (wName 1) wNil))))) wNil))) wNil)))))
  (wConsS (wAsg 2 (wTwo (wName 2) (wLst (wCons (wTup (wCons (wMkE 5 1 ["word"] (wCons (wName 0) wNil)) (wCons (wTup (wCons (wCon (.str "word")) (wCons (wName 0) wNil))) wNil))) (wCons (wTup (wCons (wMkE 6 1 ["word"] (wCons (wName 1) wNil)) (wCons (wTup (wCons (wCon (.str "word")) (wCons (wName 1) wNil))) wNil))) (wCons (wTup (wCons (wMkE 7 1 ["size"] (wCons (wName 0) wNil)) (wCons (wTup (wCons (wCon (.str "size")) (wCons (wName 0) wNil))) wNil))) wNil)))) (liW2 addW)))
  (wConsS (wAsg 2 (wTwo (wName 2) (wLst (wCons (wTup (wCons (wMkE 8 1 ["at"] (wCons (wName 1) wNil)) (wCons (wTup (wCons (wCon (.str "at")) (wCons (wName 1) wNil))) wNil))) (wCons (wTup (wCons (wMkE 9 0 [] wNil) (wCons (wTup wNil) wNil))) (wCons (wTup (wCons (wMkE 10 1 ["at"] (wCons (wName 0) wNil)) (wCons (wTup (wCons (wCon (.str "at")) (wCons (wName 0) wNil))) wNil))) wNil)))) (liW2 addW)))
  (wConsS (wRetG (wTwo (wName 2) (wLst (wCons (wTup (wCons (wMkE 11 1 ["at"] (wCons (wName 0) wNil)) (wCons (wTup (wCons (wCon (.str "at")) (wCons (wName 0) wNil))) wNil))) (wCons (wTup (wCons (wMkE 12 1 ["name"] (wCons (wName 1) wNil)) (wCons (wTup (wCons (wCon (.str "name")) (wCons (wName 1) wNil))) wNil))) wNil))) (liW2 addW)))
  wNilS))))
def c__law_errors : CtG := cgOf ["_law_a", "_law_b", "_law_found"] ["_law_a", "_law_b"] (w__law_errors)
section
variable {T : Tab} {P : Program} {w : World} {K : PySem.W.Frag} {mg : Str → Option Value} {base : Heap}
theorem Tx.ok__law_errors (t : Tx T K mg) : FnOk P w K mg base CX0 3 t.a__law_errors t.fd__law_errors ["_law_a", "_law_b"] (spG T K c__law_errors) := by
  have nd := sc__law_errors.nd
  exact fn_G t.F__law_errors sc__law_errors fun cdv A outer sh H E hr n => (jss_cons (js_asg 2 nd (je_lst (ja_cons (je_tup (ja_cons (je_mkE0 tlf_ve t.o_InvalidForm t.at_InvalidForm___init__ t.ty_InvalidForm___init__ t.ok_InvalidForm___init__ (hr.mono (by decide)) t.b_InvalidForm___init__ t.m_InvalidForm t.T_InvalidForm) (ja_cons (je_tup ja_nil) ja_nil))) (ja_cons (je_tup (ja_cons (je_mkE tlf_ve t.o_InvalidText t.at_InvalidText___init__ t.ty_InvalidText___init__ t.ok_InvalidText___init__ (hr.mono (by decide)) t.b_InvalidText___init__ t.m_InvalidText t.T_InvalidText rfl (ja_cons (je_name 0) ja_nil)) (ja_cons (je_tup (ja_cons je_str (ja_cons (je_name 0) ja_nil))) ja_nil))) (ja_cons (je_tup (ja_cons (je_mkE tlf_ve t.o_InvalidPiece t.at_InvalidPiece___init__ t.ty_InvalidPiece___init__ t.ok_InvalidPiece___init__ (hr.mono (by decide)) t.b_InvalidPiece___init__ t.m_InvalidPiece t.T_InvalidPiece rfl (ja_cons (je_name 0) (ja_cons (je_name 1) ja_nil))) (ja_cons (je_tup (ja_cons je_str (ja_cons (je_name 0) (ja_cons je_str (ja_cons (je_name 1) ja_nil))))) ja_nil))) ja_nil)))))
  (jss_cons (js_asg 2 nd (je_binP (JBin.P (jb_li jb_add)) (je_name 2) (je_lst (ja_cons (je_tup (ja_cons (je_mkE tlf_ve t.o_InvalidCount t.at_InvalidCount___init__ t.ty_InvalidCount___init__ t.ok_InvalidCount___init__ (hr.mono (by decide)) t.b_InvalidCount___init__ t.m_InvalidCount t.T_InvalidCount rfl (ja_cons (je_name 0) ja_nil)) (ja_cons (je_tup (ja_cons je_str (ja_cons (je_name 0) ja_nil))) ja_nil))) (ja_cons (je_tup (ja_cons (je_mkE tlf_ve t.o_InvalidSizes t.at_InvalidSizes___init__ t.ty_InvalidSizes___init__ t.ok_InvalidSizes___init__ (hr.mono (by decide)) t.b_InvalidSizes___init__ t.m_InvalidSizes t.T_InvalidSizes rfl (ja_cons (je_name 1) ja_nil)) (ja_cons (je_tup (ja_cons je_str (ja_cons (je_name 1) ja_nil))) ja_nil))) (ja_cons (je_tup (ja_cons (je_mkE tlf_ve t.o_InvalidSize t.at_InvalidSize___init__ t.ty_InvalidSize___init__ t.ok_InvalidSize___init__ (hr.mono (by decide)) t.b_InvalidSize___init__ t.m_InvalidSize t.T_InvalidSize rfl (ja_cons (je_name 0) ja_nil)) (ja_cons (je_tup (ja_cons je_str (ja_cons (je_name 0) ja_nil))) ja_nil))) ja_nil))))))
  (jss_cons (js_asg 2 nd (je_binP (JBin.P (jb_li jb_add)) (je_name 2) (je_lst (ja_cons (je_tup (ja_cons (je_mkE tlf_ve t.o_NotReversible t.at_NotReversible___init__ t.ty_NotReversible___init__ t.ok_NotReversible___init__ (hr.mono (by decide)) t.b_NotReversible___init__ t.m_NotReversible t.T_NotReversible rfl (ja_cons (je_name 1) ja_nil)) (ja_cons (je_tup (ja_cons je_str (ja_cons (je_name 1) ja_nil))) ja_nil))) (ja_cons (je_tup (ja_cons (je_mkE0 tlf_ve t.o_InvalidCommand t.at_InvalidCommand___init__ t.ty_InvalidCommand___init__ t.ok_InvalidCommand___init__ (hr.mono (by decide)) t.b_InvalidCommand___init__ t.m_InvalidCommand t.T_InvalidCommand) (ja_cons (je_tup ja_nil) ja_nil))) (ja_cons (je_tup (ja_cons (je_mkE tlf_ve t.o_Refused t.at_Refused___init__ t.ty_Refused___init__ t.ok_Refused___init__ (hr.mono (by decide)) t.b_Refused___init__ t.m_Refused t.T_Refused rfl (ja_cons (je_name 0) ja_nil)) (ja_cons (je_tup (ja_cons je_str (ja_cons (je_name 0) ja_nil))) ja_nil))) ja_nil))))))
  (jss_cons (js_retG (je_binP (JBin.P (jb_li jb_add)) (je_name 2) (je_lst (ja_cons (je_tup (ja_cons (je_mkE tlf_ie t.o_NoDeed t.at_NoDeed___init__ t.ty_NoDeed___init__ t.ok_NoDeed___init__ (hr.mono (by decide)) t.b_NoDeed___init__ t.m_NoDeed t.T_NoDeed rfl (ja_cons (je_name 0) ja_nil)) (ja_cons (je_tup (ja_cons je_str (ja_cons (je_name 0) ja_nil))) ja_nil))) (ja_cons (je_tup (ja_cons (je_mkE tlf_ke t.o_UnknownName t.at_UnknownName___init__ t.ty_UnknownName___init__ t.ok_UnknownName___init__ (hr.mono (by decide)) t.b_UnknownName___init__ t.m_UnknownName t.T_UnknownName rfl (ja_cons (je_name 1) ja_nil)) (ja_cons (je_tup (ja_cons je_str (ja_cons (je_name 1) ja_nil))) ja_nil))) ja_nil)))))
  jss_nil))))
end

def w__law_named (n : Nat) : WS := (wConsS (wAsg 2 (wLst (wCons (wMkE 2 0 [] wNil) (wCons (wMkEk 3 1 ["line"] (fu_InvalidText___init___0_line []) (wCons (wName 0) wNil)) (wCons (wMkEk 4 2 ["word", "at"] (fu_InvalidPiece___init___0_at_word []) (wCons (wName 1) (wCons (wName 0) wNil))) (wCons (wMkEk 5 1 ["word"] (fu_InvalidCount___init___0_word []) (wCons (wName 0) wNil)) wNil))))))
  (wConsS (wAsg 2 (wTwo (wName 2) (wLst (wCons (wMkEk 6 1 ["word"] (fu_InvalidSizes___init___0_word []) (wCons (wName 1) wNil)) (wCons (wMkEk 7 1 ["size"] (fu_InvalidSize___init___0_size []) (wCons (wName 0) wNil)) (wCons (wMkEk 8 1 ["at"] (fu_NotReversible___init___0_at []) (wCons (wName 1) wNil)) (wCons (wMkE 9 0 [] wNil) wNil))))) (liW2 addW)))
  (wConsS (wRetG (wTwo (wName 2) (wLst (wCons (wMkEk 10 1 ["at"] (fu_Refused___init___0_at []) (wCons (wName 0) wNil)) (wCons (wMkEk 11 1 ["at"] (fu_NoDeed___init___0_at []) (wCons (wName 0) wNil)) (wCons (wMkEk 12 1 ["name"] (fu_UnknownName___init___0_name []) (wCons (wName 1) wNil)) wNil)))) (liW2 addW)))
  wNilS)))
def c__law_named : CtG := cgOf ["_law_a", "_law_b", "_law_found"] ["_law_a", "_law_b"] (w__law_named)
section
variable {T : Tab} {P : Program} {w : World} {K : PySem.W.Frag} {mg : Str → Option Value} {base : Heap}
theorem Tx.ok__law_named (t : Tx T K mg) : FnOk P w K mg base CX0 3 t.a__law_named t.fd__law_named ["_law_a", "_law_b"] (spG T K c__law_named) := by
  have nd := sc__law_named.nd
  exact fn_G t.F__law_named sc__law_named fun cdv A outer sh H E hr n => (jss_cons (js_asg 2 nd (je_lst (ja_cons (je_mkE0 tlf_ve t.o_InvalidForm t.at_InvalidForm___init__ t.ty_InvalidForm___init__ t.ok_InvalidForm___init__ (hr.mono (by decide)) t.b_InvalidForm___init__ t.m_InvalidForm t.T_InvalidForm) (ja_cons (je_mkEk tlf_ve t.o_InvalidText t.at_InvalidText___init__ t.ty_InvalidText___init__ t.ok_InvalidText___init__ (hr.mono (by decide)) t.kb_InvalidText___init___0_line t.m_InvalidText t.T_InvalidText rfl rfl t.put_InvalidText___init___0_line (fun ds h => match ds, h with | [_], _ => rfl) (jk_cons (je_name 0) jk_nil)) (ja_cons (je_mkEk tlf_ve t.o_InvalidPiece t.at_InvalidPiece___init__ t.ty_InvalidPiece___init__ t.ok_InvalidPiece___init__ (hr.mono (by decide)) t.kb_InvalidPiece___init___0_at_word t.m_InvalidPiece t.T_InvalidPiece rfl rfl t.put_InvalidPiece___init___0_at_word (fun ds h => match ds, h with | [_, _], _ => rfl) (jk_cons (je_name 1) (jk_cons (je_name 0) jk_nil))) (ja_cons (je_mkEk tlf_ve t.o_InvalidCount t.at_InvalidCount___init__ t.ty_InvalidCount___init__ t.ok_InvalidCount___init__ (hr.mono (by decide)) t.kb_InvalidCount___init___0_word t.m_InvalidCount t.T_InvalidCount rfl rfl t.put_InvalidCount___init___0_word (fun ds h => match ds, h with | [_], _ => rfl) (jk_cons (je_name 0) jk_nil)) ja_nil))))))
  (jss_cons (js_asg 2 nd (je_binP (JBin.P (jb_li jb_add)) (je_name 2) (je_lst (ja_cons (je_mkEk tlf_ve t.o_InvalidSizes t.at_InvalidSizes___init__ t.ty_InvalidSizes___init__ t.ok_InvalidSizes___init__ (hr.mono (by decide)) t.kb_InvalidSizes___init___0_word t.m_InvalidSizes t.T_InvalidSizes rfl rfl t.put_InvalidSizes___init___0_word (fun ds h => match ds, h with | [_], _ => rfl) (jk_cons (je_name 1) jk_nil)) (ja_cons (je_mkEk tlf_ve t.o_InvalidSize t.at_InvalidSize___init__ t.ty_InvalidSize___init__ t.ok_InvalidSize___init__ (hr.mono (by decide)) t.kb_InvalidSize___init___0_size t.m_InvalidSize t.T_InvalidSize rfl rfl t.put_InvalidSize___init___0_size (fun ds h => match ds, h with | [_], _ => rfl) (jk_cons (je_name 0) jk_nil)) (ja_cons (je_mkEk tlf_ve t.o_NotReversible t.at_NotReversible___init__ t.ty_NotReversible___init__ t.ok_NotReversible___init__ (hr.mono (by decide)) t.kb_NotReversible___init___0_at t.m_NotReversible t.T_NotReversible rfl rfl t.put_NotReversible___init___0_at (fun ds h => match ds, h with | [_], _ => rfl) (jk_cons (je_name 1) jk_nil)) (ja_cons (je_mkE0 tlf_ve t.o_InvalidCommand t.at_InvalidCommand___init__ t.ty_InvalidCommand___init__ t.ok_InvalidCommand___init__ (hr.mono (by decide)) t.b_InvalidCommand___init__ t.m_InvalidCommand t.T_InvalidCommand) ja_nil)))))))
  (jss_cons (js_retG (je_binP (JBin.P (jb_li jb_add)) (je_name 2) (je_lst (ja_cons (je_mkEk tlf_ve t.o_Refused t.at_Refused___init__ t.ty_Refused___init__ t.ok_Refused___init__ (hr.mono (by decide)) t.kb_Refused___init___0_at t.m_Refused t.T_Refused rfl rfl t.put_Refused___init___0_at (fun ds h => match ds, h with | [_], _ => rfl) (jk_cons (je_name 0) jk_nil)) (ja_cons (je_mkEk tlf_ie t.o_NoDeed t.at_NoDeed___init__ t.ty_NoDeed___init__ t.ok_NoDeed___init__ (hr.mono (by decide)) t.kb_NoDeed___init___0_at t.m_NoDeed t.T_NoDeed rfl rfl t.put_NoDeed___init___0_at (fun ds h => match ds, h with | [_], _ => rfl) (jk_cons (je_name 0) jk_nil)) (ja_cons (je_mkEk tlf_ke t.o_UnknownName t.at_UnknownName___init__ t.ty_UnknownName___init__ t.ok_UnknownName___init__ (hr.mono (by decide)) t.kb_UnknownName___init___0_name t.m_UnknownName t.T_UnknownName rfl rfl t.put_UnknownName___init___0_name (fun ds h => match ds, h with | [_], _ => rfl) (jk_cons (je_name 1) jk_nil)) ja_nil))))))
  jss_nil)))
end

def w__law_caught (n : Nat) : WS := (wConsS (wAsg 3 (wCon (.str "none")))
  (wConsS (wTryM [(mt_ClashError, some 4, fun m_ a_ d_ => (wConsS (wAsg 3 (wCon (.str "clash")))
  wNilS)), (mt_NoDeed, some 4, fun m_ a_ d_ => (wConsS (wAsg 3 (wCon (.str "deed")))
  wNilS)), (mt_KeyError, some 4, fun m_ a_ d_ => (wConsS (wAsg 3 (wCon (.str "key")))
  wNilS))] (wConsS (wIfS (wBl (wTwo (wName 0) (wCon (.int 0)) (eqW false)))
  (wConsS (wRaiseN 2 0 wNil)
  wNilS)
  wNilS)
  (wConsS (wIfS (wBl (wTwo (wName 0) (wCon (.int 1)) (eqW false)))
  (wConsS (wRaiseN 3 1 (wCons (wName 1) wNil))
  wNilS)
  wNilS)
  (wConsS (wIfS (wBl (wTwo (wName 0) (wCon (.int 2)) (eqW false)))
  (wConsS (wRaiseN 4 2 (wCons (wName 1) (wCons (wName 2) wNil)))
  wNilS)
  wNilS)
  (wConsS (wIfS (wBl (wTwo (wName 0) (wCon (.int 3)) (eqW false)))
  (wConsS (wRaiseN 5 1 (wCons (wName 1) wNil))
  wNilS)
  wNilS)
  (wConsS (wIfS (wBl (wTwo (wName 0) (wCon (.int 4)) (eqW false)))
  (wConsS (wRaiseN 6 1 (wCons (wName 1) wNil))
  wNilS)
  wNilS)
  (wConsS (wIfS (wBl (wTwo (wName 0) (wCon (.int 5)) (eqW false)))
  (wConsS (wRaiseN 7 1 (wCons (wName 1) wNil))
  wNilS)
  wNilS)
  (wConsS (wIfS (wBl (wTwo (wName 0) (wCon (.int 6)) (eqW false)))
  (wConsS (wRaiseN 8 1 (wCons (wName 1) wNil))
  wNilS)
  wNilS)
  (wConsS (wIfS (wBl (wTwo (wName 0) (wCon (.int 7)) (eqW false)))
  (wConsS (wRaiseN 9 0 wNil)
  wNilS)
  wNilS)
  (wConsS (wIfS (wBl (wTwo (wName 0) (wCon (.int 8)) (eqW false)))
  (wConsS (wRaiseN 10 1 (wCons (wName 1) wNil))
  wNilS)
  wNilS)
  (wConsS (wIfS (wBl (wTwo (wName 0) (wCon (.int 9)) (eqW false)))
  (wConsS (wRaiseN 11 1 (wCons (wName 1) wNil))
  wNilS)
  wNilS)
  (wConsS (wRaiseN 12 1 (wCons (wName 2) wNil))
  wNilS))))))))))))
  (wConsS (wRet n (wName 3))
  wNilS)))
def c__law_caught : Ct := ctOf ["_law_number", "_law_a", "_law_b", "_law_found", "_law_e"] ["_law_number", "_law_a", "_law_b"] (w__law_caught)
def c__law_caughtX : CtX := ctXOf ["_law_number", "_law_a", "_law_b", "_law_found", "_law_e"] ["_law_number", "_law_a", "_law_b"] (w__law_caught)
section
variable {T : Tab} {P : Program} {w : World} {K : PySem.W.Frag} {mg : Str → Option Value} {base : Heap}
theorem Tx.ok__law_caught (t : Tx T K mg) : FnOk P w K mg base (L2.CX P w) 3 t.a__law_caught t.fd__law_caught ["_law_number", "_law_a", "_law_b"] (spX T K c__law_caught c__law_caughtX) := by
  have nd := sc__law_caught.nd
  exact fn_JX t.F__law_caught sc__law_caught (fun cdv A outer sh H E hr n => (jss_cons (js_asg 3 nd je_str)
  (jss_cons (js_tryM tk0 nd (fun V_ pn_ xe_ tk_ po_ => (jss_cons (js_if (jt_cmp (jc_eq hr.units) (je_name 0) je_int)
  (jss_cons (js_raise0 tk_ tlf_ve t.o_InvalidForm t.at_InvalidForm___init__ t.ty_InvalidForm___init__ t.ok_InvalidForm___init__ (hr.mono (by decide)) t.b_InvalidForm___init__ t.m_InvalidForm t.T_InvalidForm)
  jss_nil)
  jss_nil)
  (jss_cons (js_if (jt_cmp (jc_eq hr.units) (je_name 0) je_int)
  (jss_cons (js_raiseN tk_ tlf_ve t.o_InvalidText t.at_InvalidText___init__ t.ty_InvalidText___init__ t.ok_InvalidText___init__ (hr.mono (by decide)) t.b_InvalidText___init__ t.m_InvalidText t.T_InvalidText rfl (ja_cons (je_name 1) ja_nil))
  jss_nil)
  jss_nil)
  (jss_cons (js_if (jt_cmp (jc_eq hr.units) (je_name 0) je_int)
  (jss_cons (js_raiseN tk_ tlf_ve t.o_InvalidPiece t.at_InvalidPiece___init__ t.ty_InvalidPiece___init__ t.ok_InvalidPiece___init__ (hr.mono (by decide)) t.b_InvalidPiece___init__ t.m_InvalidPiece t.T_InvalidPiece rfl (ja_cons (je_name 1) (ja_cons (je_name 2) ja_nil)))
  jss_nil)
  jss_nil)
  (jss_cons (js_if (jt_cmp (jc_eq hr.units) (je_name 0) je_int)
  (jss_cons (js_raiseN tk_ tlf_ve t.o_InvalidCount t.at_InvalidCount___init__ t.ty_InvalidCount___init__ t.ok_InvalidCount___init__ (hr.mono (by decide)) t.b_InvalidCount___init__ t.m_InvalidCount t.T_InvalidCount rfl (ja_cons (je_name 1) ja_nil))
  jss_nil)
  jss_nil)
  (jss_cons (js_if (jt_cmp (jc_eq hr.units) (je_name 0) je_int)
  (jss_cons (js_raiseN tk_ tlf_ve t.o_InvalidSizes t.at_InvalidSizes___init__ t.ty_InvalidSizes___init__ t.ok_InvalidSizes___init__ (hr.mono (by decide)) t.b_InvalidSizes___init__ t.m_InvalidSizes t.T_InvalidSizes rfl (ja_cons (je_name 1) ja_nil))
  jss_nil)
  jss_nil)
  (jss_cons (js_if (jt_cmp (jc_eq hr.units) (je_name 0) je_int)
  (jss_cons (js_raiseN tk_ tlf_ve t.o_InvalidSize t.at_InvalidSize___init__ t.ty_InvalidSize___init__ t.ok_InvalidSize___init__ (hr.mono (by decide)) t.b_InvalidSize___init__ t.m_InvalidSize t.T_InvalidSize rfl (ja_cons (je_name 1) ja_nil))
  jss_nil)
  jss_nil)
  (jss_cons (js_if (jt_cmp (jc_eq hr.units) (je_name 0) je_int)
  (jss_cons (js_raiseN tk_ tlf_ve t.o_NotReversible t.at_NotReversible___init__ t.ty_NotReversible___init__ t.ok_NotReversible___init__ (hr.mono (by decide)) t.b_NotReversible___init__ t.m_NotReversible t.T_NotReversible rfl (ja_cons (je_name 1) ja_nil))
  jss_nil)
  jss_nil)
  (jss_cons (js_if (jt_cmp (jc_eq hr.units) (je_name 0) je_int)
  (jss_cons (js_raise0 tk_ tlf_ve t.o_InvalidCommand t.at_InvalidCommand___init__ t.ty_InvalidCommand___init__ t.ok_InvalidCommand___init__ (hr.mono (by decide)) t.b_InvalidCommand___init__ t.m_InvalidCommand t.T_InvalidCommand)
  jss_nil)
  jss_nil)
  (jss_cons (js_if (jt_cmp (jc_eq hr.units) (je_name 0) je_int)
  (jss_cons (js_raiseN tk_ tlf_ve t.o_Refused t.at_Refused___init__ t.ty_Refused___init__ t.ok_Refused___init__ (hr.mono (by decide)) t.b_Refused___init__ t.m_Refused t.T_Refused rfl (ja_cons (je_name 1) ja_nil))
  jss_nil)
  jss_nil)
  (jss_cons (js_if (jt_cmp (jc_eq hr.units) (je_name 0) je_int)
  (jss_cons (js_raiseN tk_ tlf_ie t.o_NoDeed t.at_NoDeed___init__ t.ty_NoDeed___init__ t.ok_NoDeed___init__ (hr.mono (by decide)) t.b_NoDeed___init__ t.m_NoDeed t.T_NoDeed rfl (ja_cons (je_name 1) ja_nil))
  jss_nil)
  jss_nil)
  (jss_cons (js_raiseN tk_ tlf_ke t.o_UnknownName t.at_UnknownName___init__ t.ty_UnknownName___init__ t.ok_UnknownName___init__ (hr.mono (by decide)) t.b_UnknownName___init__ t.m_UnknownName t.T_UnknownName rfl (ja_cons (je_name 2) ja_nil))
  jss_nil))))))))))))
  (.named (And.intro rfl (And.intro (by decide) (Or.inl t.m_ClashError))) t.mt_of_ClashError rfl rfl (fun m_ a_ oe_ d_ C_ fn_ pn_ hm_ hT_ hz_ hv_ => (jss_cons (js_asg 3 nd je_str)
  jss_nil)) (.named (And.intro rfl (And.intro (by decide) (Or.inl t.m_NoDeed))) t.mt_of_NoDeed rfl rfl (fun m_ a_ oe_ d_ C_ fn_ pn_ hm_ hT_ hz_ hv_ => (jss_cons (js_asg 3 nd je_str)
  jss_nil)) (.named (And.intro rfl (And.intro (by decide) (Or.inr ⟨t.z_KeyError, by rfl, by decide⟩))) t.mt_of_KeyError rfl rfl (fun m_ a_ oe_ d_ C_ fn_ pn_ hm_ hT_ hz_ hv_ => (jss_cons (js_asg 3 nd je_str)
  jss_nil)) .nil))))
  (jss_cons (js_ret (je_name 3))
  jss_nil)))) (fun cdv A outer sh H E hr tk n => (jss_cons (js_asg 3 nd je_str)
  (jss_cons (js_tryM tk nd (fun V_ pn_ xe_ tk_ po_ => (jss_cons (js_if (jt_cmp (jc_eq hr.units) (je_name 0) je_int)
  (jss_cons (js_raise0 tk_ tlf_ve t.o_InvalidForm t.at_InvalidForm___init__ t.ty_InvalidForm___init__ t.ok_InvalidForm___init__ (hr.mono (by decide)) t.b_InvalidForm___init__ t.m_InvalidForm t.T_InvalidForm)
  jss_nil)
  jss_nil)
  (jss_cons (js_if (jt_cmp (jc_eq hr.units) (je_name 0) je_int)
  (jss_cons (js_raiseN tk_ tlf_ve t.o_InvalidText t.at_InvalidText___init__ t.ty_InvalidText___init__ t.ok_InvalidText___init__ (hr.mono (by decide)) t.b_InvalidText___init__ t.m_InvalidText t.T_InvalidText rfl (ja_cons (je_name 1) ja_nil))
  jss_nil)
  jss_nil)
  (jss_cons (js_if (jt_cmp (jc_eq hr.units) (je_name 0) je_int)
  (jss_cons (js_raiseN tk_ tlf_ve t.o_InvalidPiece t.at_InvalidPiece___init__ t.ty_InvalidPiece___init__ t.ok_InvalidPiece___init__ (hr.mono (by decide)) t.b_InvalidPiece___init__ t.m_InvalidPiece t.T_InvalidPiece rfl (ja_cons (je_name 1) (ja_cons (je_name 2) ja_nil)))
  jss_nil)
  jss_nil)
  (jss_cons (js_if (jt_cmp (jc_eq hr.units) (je_name 0) je_int)
  (jss_cons (js_raiseN tk_ tlf_ve t.o_InvalidCount t.at_InvalidCount___init__ t.ty_InvalidCount___init__ t.ok_InvalidCount___init__ (hr.mono (by decide)) t.b_InvalidCount___init__ t.m_InvalidCount t.T_InvalidCount rfl (ja_cons (je_name 1) ja_nil))
  jss_nil)
  jss_nil)
  (jss_cons (js_if (jt_cmp (jc_eq hr.units) (je_name 0) je_int)
  (jss_cons (js_raiseN tk_ tlf_ve t.o_InvalidSizes t.at_InvalidSizes___init__ t.ty_InvalidSizes___init__ t.ok_InvalidSizes___init__ (hr.mono (by decide)) t.b_InvalidSizes___init__ t.m_InvalidSizes t.T_InvalidSizes rfl (ja_cons (je_name 1) ja_nil))
  jss_nil)
  jss_nil)
  (jss_cons (js_if (jt_cmp (jc_eq hr.units) (je_name 0) je_int)
  (jss_cons (js_raiseN tk_ tlf_ve t.o_InvalidSize t.at_InvalidSize___init__ t.ty_InvalidSize___init__ t.ok_InvalidSize___init__ (hr.mono (by decide)) t.b_InvalidSize___init__ t.m_InvalidSize t.T_InvalidSize rfl (ja_cons (je_name 1) ja_nil))
  jss_nil)
  jss_nil)
  (jss_cons (js_if (jt_cmp (jc_eq hr.units) (je_name 0) je_int)
  (jss_cons (js_raiseN tk_ tlf_ve t.o_NotReversible t.at_NotReversible___init__ t.ty_NotReversible___init__ t.ok_NotReversible___init__ (hr.mono (by decide)) t.b_NotReversible___init__ t.m_NotReversible t.T_NotReversible rfl (ja_cons (je_name 1) ja_nil))
  jss_nil)
  jss_nil)
  (jss_cons (js_if (jt_cmp (jc_eq hr.units) (je_name 0) je_int)
  (jss_cons (js_raise0 tk_ tlf_ve t.o_InvalidCommand t.at_InvalidCommand___init__ t.ty_InvalidCommand___init__ t.ok_InvalidCommand___init__ (hr.mono (by decide)) t.b_InvalidCommand___init__ t.m_InvalidCommand t.T_InvalidCommand)
  jss_nil)
  jss_nil)
  (jss_cons (js_if (jt_cmp (jc_eq hr.units) (je_name 0) je_int)
  (jss_cons (js_raiseN tk_ tlf_ve t.o_Refused t.at_Refused___init__ t.ty_Refused___init__ t.ok_Refused___init__ (hr.mono (by decide)) t.b_Refused___init__ t.m_Refused t.T_Refused rfl (ja_cons (je_name 1) ja_nil))
  jss_nil)
  jss_nil)
  (jss_cons (js_if (jt_cmp (jc_eq hr.units) (je_name 0) je_int)
  (jss_cons (js_raiseN tk_ tlf_ie t.o_NoDeed t.at_NoDeed___init__ t.ty_NoDeed___init__ t.ok_NoDeed___init__ (hr.mono (by decide)) t.b_NoDeed___init__ t.m_NoDeed t.T_NoDeed rfl (ja_cons (je_name 1) ja_nil))
  jss_nil)
  jss_nil)
  (jss_cons (js_raiseN tk_ tlf_ke t.o_UnknownName t.at_UnknownName___init__ t.ty_UnknownName___init__ t.ok_UnknownName___init__ (hr.mono (by decide)) t.b_UnknownName___init__ t.m_UnknownName t.T_UnknownName rfl (ja_cons (je_name 2) ja_nil))
  jss_nil))))))))))))
  (.named (And.intro rfl (And.intro (by decide) (Or.inl t.m_ClashError))) t.mt_of_ClashError rfl rfl (fun m_ a_ oe_ d_ C_ fn_ pn_ hm_ hT_ hz_ hv_ => (jss_cons (js_asg 3 nd je_str)
  jss_nil)) (.named (And.intro rfl (And.intro (by decide) (Or.inl t.m_NoDeed))) t.mt_of_NoDeed rfl rfl (fun m_ a_ oe_ d_ C_ fn_ pn_ hm_ hT_ hz_ hv_ => (jss_cons (js_asg 3 nd je_str)
  jss_nil)) (.named (And.intro rfl (And.intro (by decide) (Or.inr ⟨t.z_KeyError, by rfl, by decide⟩))) t.mt_of_KeyError rfl rfl (fun m_ a_ oe_ d_ C_ fn_ pn_ hm_ hT_ hz_ hv_ => (jss_cons (js_asg 3 nd je_str)
  jss_nil)) .nil))))
  (jss_cons (js_ret (je_name 3))
  jss_nil))))
end

def w__law_classes (n : Nat) : WS := (wConsS (wAsg 1 (wLst (wCons (wIsiX ns_all kt_InvalidForm (wName 0)) (wCons (wIsiX ns_all kt_InvalidText (wName 0)) (wCons (wIsiX ns_all kt_InvalidPiece (wName 0)) wNil)))))
  (wConsS (wAsg 1 (wTwo (wName 1) (wLst (wCons (wIsiX ns_all kt_InvalidCount (wName 0)) (wCons (wIsiX ns_all kt_InvalidSizes (wName 0)) (wCons (wIsiX ns_all kt_InvalidSize (wName 0)) wNil)))) (liW2 addW)))
  (wConsS (wAsg 1 (wTwo (wName 1) (wLst (wCons (wIsiX ns_all kt_NotReversible (wName 0)) (wCons (wIsiX ns_all kt_InvalidCommand (wName 0)) (wCons (wIsiX ns_all kt_Refused (wName 0)) wNil)))) (liW2 addW)))
  (wConsS (wAsg 1 (wTwo (wName 1) (wLst (wCons (wIsiX ns_all kt_NoDeed (wName 0)) (wCons (wIsiX ns_all kt_UnknownName (wName 0)) wNil))) (liW2 addW)))
  (wConsS (wAsg 1 (wTwo (wName 1) (wLst (wCons (wIsiX ns_all kt_ClashError (wName 0)) (wCons (wIsiX ns_all kt_ValueError (wName 0)) wNil))) (liW2 addW)))
  (wConsS (wRetG (wTwo (wName 1) (wLst (wCons (wIsiX ns_all kt_IndexError (wName 0)) (wCons (wIsiX ns_all kt_KeyError (wName 0)) wNil))) (liW2 addW)))
  wNilS))))))
def c__law_classes : CtG := cgOf ["_law_e", "_law_found"] ["_law_e"] (w__law_classes)
section
variable {T : Tab} {P : Program} {w : World} {K : PySem.W.Frag} {mg : Str → Option Value} {base : Heap}
theorem Tx.ok__law_classes (t : Tx T K mg) : FnOk P w K mg base CX0 1 t.a__law_classes t.fd__law_classes ["_law_e"] (spG T K c__law_classes) := by
  have nd := sc__law_classes.nd
  exact fn_G t.F__law_classes sc__law_classes fun cdv A outer sh H E hr n => (jss_cons (js_asg 1 nd (je_lst (ja_cons (je_isiX t.z_isinstance t.m_InvalidForm t.hk_InvalidForm (je_name 0)) (ja_cons (je_isiX t.z_isinstance t.m_InvalidText t.hk_InvalidText (je_name 0)) (ja_cons (je_isiX t.z_isinstance t.m_InvalidPiece t.hk_InvalidPiece (je_name 0)) ja_nil)))))
  (jss_cons (js_asg 1 nd (je_binP (JBin.P (jb_li jb_add)) (je_name 1) (je_lst (ja_cons (je_isiX t.z_isinstance t.m_InvalidCount t.hk_InvalidCount (je_name 0)) (ja_cons (je_isiX t.z_isinstance t.m_InvalidSizes t.hk_InvalidSizes (je_name 0)) (ja_cons (je_isiX t.z_isinstance t.m_InvalidSize t.hk_InvalidSize (je_name 0)) ja_nil))))))
  (jss_cons (js_asg 1 nd (je_binP (JBin.P (jb_li jb_add)) (je_name 1) (je_lst (ja_cons (je_isiX t.z_isinstance t.m_NotReversible t.hk_NotReversible (je_name 0)) (ja_cons (je_isiX t.z_isinstance t.m_InvalidCommand t.hk_InvalidCommand (je_name 0)) (ja_cons (je_isiX t.z_isinstance t.m_Refused t.hk_Refused (je_name 0)) ja_nil))))))
  (jss_cons (js_asg 1 nd (je_binP (JBin.P (jb_li jb_add)) (je_name 1) (je_lst (ja_cons (je_isiX t.z_isinstance t.m_NoDeed t.hk_NoDeed (je_name 0)) (ja_cons (je_isiX t.z_isinstance t.m_UnknownName t.hk_UnknownName (je_name 0)) ja_nil)))))
  (jss_cons (js_asg 1 nd (je_binP (JBin.P (jb_li jb_add)) (je_name 1) (je_lst (ja_cons (je_isiX t.z_isinstance t.m_ClashError t.hk_ClashError (je_name 0)) (ja_cons (je_isiXB t.z_isinstance t.z_ValueError (by rfl) t.hk_ValueError (je_name 0)) ja_nil)))))
  (jss_cons (js_retG (je_binP (JBin.P (jb_li jb_add)) (je_name 1) (je_lst (ja_cons (je_isiXB t.z_isinstance t.z_IndexError (by rfl) t.hk_IndexError (je_name 0)) (ja_cons (je_isiXB t.z_isinstance t.z_KeyError (by rfl) t.hk_KeyError (je_name 0)) ja_nil)))))
  jss_nil))))))
end

def w__law_kept (n : Nat) : WS := (wConsS (wIfS (wTru (wIsiX ns_all kt_InvalidPiece (wName 0)))
  (wConsS (wRetG (wTup (wCons (wCon (.str "word")) (wCons (wFldX ns_word "word" (wName 0)) (wCons (wCon (.str "at")) (wCons (wFldX ns_at "at" (wName 0)) wNil))))))
  wNilS)
  wNilS)
  (wConsS (wIfS (wTru (wIsiX ns_all kt_InvalidText (wName 0)))
  (wConsS (wRetG (wTup (wCons (wCon (.str "line")) (wCons (wFldX ns_line "line" (wName 0)) wNil))))
  wNilS)
  wNilS)
  (wConsS (wIfS (wTru (wIsiX ns_all kt_InvalidCount_or_InvalidSizes (wName 0)))
  (wConsS (wRetG (wTup (wCons (wCon (.str "word")) (wCons (wFldX ns_word "word" (wName 0)) wNil))))
  wNilS)
  wNilS)
  (wConsS (wIfS (wTru (wIsiX ns_all kt_InvalidSize (wName 0)))
  (wConsS (wRetG (wTup (wCons (wCon (.str "size")) (wCons (wFldX ns_size "size" (wName 0)) wNil))))
  wNilS)
  wNilS)
  (wConsS (wIfS (wTru (wIsiX ns_all kt_NotReversible_Refused_NoDeed (wName 0)))
  (wConsS (wRetG (wTup (wCons (wCon (.str "at")) (wCons (wFldX ns_at "at" (wName 0)) wNil))))
  wNilS)
  wNilS)
  (wConsS (wRetG (wIf (wTru (wIsiX ns_all kt_UnknownName (wName 0))) (wTup (wCons (wCon (.str "name")) (wCons (wFldX ns_name "name" (wName 0)) wNil))) (wTup wNil)))
  wNilS))))))
def c__law_kept : CtG := cgOf ["_law_e"] ["_law_e"] (w__law_kept)
section
variable {T : Tab} {P : Program} {w : World} {K : PySem.W.Frag} {mg : Str → Option Value} {base : Heap}
theorem Tx.ok__law_kept (t : Tx T K mg) : FnOk P w K mg base CX0 1 t.a__law_kept t.fd__law_kept ["_law_e"] (spG T K c__law_kept) := by
  have nd := sc__law_kept.nd
  exact fn_G t.F__law_kept sc__law_kept fun cdv A outer sh H E hr n => (jss_cons (js_if (jt_val (je_isiX t.z_isinstance t.m_InvalidPiece t.hk_InvalidPiece (je_name 0)))
  (jss_cons (js_retG (je_tup (ja_cons je_str (ja_cons (je_fldX t.hx_word (je_name 0)) (ja_cons je_str (ja_cons (je_fldX t.hx_at (je_name 0)) ja_nil))))))
  jss_nil)
  jss_nil)
  (jss_cons (js_if (jt_val (je_isiX t.z_isinstance t.m_InvalidText t.hk_InvalidText (je_name 0)))
  (jss_cons (js_retG (je_tup (ja_cons je_str (ja_cons (je_fldX t.hx_line (je_name 0)) ja_nil))))
  jss_nil)
  jss_nil)
  (jss_cons (js_if (jt_val (je_isiXT t.z_isinstance (pa_cs t.m_InvalidCount (pa_cs t.m_InvalidSizes pa_cs0)) (by show (2 : Nat) ≤ sizeLine; decide) t.hk_InvalidCount_or_InvalidSizes (je_name 0)))
  (jss_cons (js_retG (je_tup (ja_cons je_str (ja_cons (je_fldX t.hx_word (je_name 0)) ja_nil))))
  jss_nil)
  jss_nil)
  (jss_cons (js_if (jt_val (je_isiX t.z_isinstance t.m_InvalidSize t.hk_InvalidSize (je_name 0)))
  (jss_cons (js_retG (je_tup (ja_cons je_str (ja_cons (je_fldX t.hx_size (je_name 0)) ja_nil))))
  jss_nil)
  jss_nil)
  (jss_cons (js_if (jt_val (je_isiXT t.z_isinstance (pa_cs t.m_NotReversible (pa_cs t.m_Refused (pa_cs t.m_NoDeed pa_cs0))) (by show (3 : Nat) ≤ sizeLine; decide) t.hk_NotReversible_Refused_NoDeed (je_name 0)))
  (jss_cons (js_retG (je_tup (ja_cons je_str (ja_cons (je_fldX t.hx_at (je_name 0)) ja_nil))))
  jss_nil)
  jss_nil)
  (jss_cons (js_retG (je_if (jt_val (je_isiX t.z_isinstance t.m_UnknownName t.hk_UnknownName (je_name 0))) (je_tup (ja_cons je_str (ja_cons (je_fldX t.hx_name (je_name 0)) ja_nil))) (je_tup ja_nil)))
  jss_nil))))))
end

def w_law_given (n : Nat) : WS := (wConsS (wAsg 14 (wTag (wLstC (wCons (wName 3) wNil))))
  (wConsS (wAsg 8 (wMkE 3 1 ["line"] (wCons (wName 14) wNil)))
  (wConsS (wExpr (wAppA (wName 14) (wName 4)))
  (wConsS (wIfS (wOrT (wBl (wTwo (wFldX ns_line "line" (wName 8)) (wName 14) (liW2 (eqLW true)))) (wBl (wTwo (wCb (wCons (wFldX ns_line "line" (wName 8)) wNil) (liWC lenW)) (wCon (.int 2)) (liW2 (eqW true)))))
  (wConsS (wRetG (wCon (.bl false)))
  wNilS)
  wNilS)
  wNilS))))
def w_law_spot (n : Nat) : WS := (wConsS (wAsg 10 (wLc (wRng1 (wCons (wCb (wCons (wName 5) wNil) (liWC lenW)) wNil)) (.nm 11) wYes (wTwo (wName 7) (wName 11) (liW2 (eqW false))) [11]))
  (wConsS (wAsg 12 (wLst (wCons (wTwo (wName 7) (wCon (.int 9)) (liW2 ltW)) (wCons (wTwo (wName 7) (wCon (.int 9)) (liW2 ltW)) (wCons (wTwo (wName 7) (wCon (.int 9)) (liW2 (eqW false))) (wCons (wTwo (wName 7) (wCon (.int 10)) (liW2 (eqW false))) wNil))))))
  (wConsS (wFor (wItems (wTup (wCons (wName 8) (wCons (wTwo (wName 6) (wName 7) (liW2 ixW)) wNil)))) (.nm 13)
  (wConsS (wIfS (wOrT (wBl (wTwo (wCb (wCons (wFnG c__law_kept (wCons (wName 13) wNil)) wNil) (liWC reprLW)) (wCb (wCons (wName 9) wNil) (liWC reprLW)) (liW2 (eqW true)))) (wBl (wTwo (wFnG c__law_classes (wCons (wName 13) wNil)) (wTwo (wName 10) (wName 12) (liW2 addW)) (liW2 (eqW true)))))
  (wConsS (wRetG (wCon (.bl false)))
  wNilS)
  wNilS)
  wNilS))
  (wConsS (wIfS (wBl (wTwo (wFnX c__law_caught c__law_caughtX (wCons (wName 7) (wCons (wName 3) (wCons (wName 4) wNil)))) (wTwo (wTwo (wTwo (wLst (wCons (wCon (.str "clash")) wNil)) (wCon (.int 9)) (liW2 mulW)) (wLst (wCons (wCon (.str "deed")) (wCons (wCon (.str "key")) wNil))) (liW2 addW)) (wName 7) (liW2 ixW)) (liW2 (eqW true))))
  (wConsS (wRetG (wCon (.bl false)))
  wNilS)
  wNilS)
  wNilS))))
def w_law_spots (n : Nat) : WS := (wConsS (wFor (wEnum (wCons (wName 5) wNil)) (.tp [(.nm 7), (.tp [(.nm 8), (.nm 9)])])
  (w_law_spot n))
  (w_law_given n))
def w_law_rows (n : Nat) : WS := (wConsS (wPar2 5 6 (wCons (wFnG c__law_errors (wCons (wName 3) (wCons (wName 4) wNil))) (wCons (wFnG c__law_named (wCons (wName 3) (wCons (wName 4) wNil))) wNil)))
  (w_law_spots n))
def w_law_turn (n : Nat) : WS := (wConsS (wAsg 2 (wFn c__law_feed (wCons (wName 0) (wCons (wName 1) wNil))))
  (wConsS (wPar2 3 4 (wCons (wFn c__law_value (wCons (wName 2) (wCons (wCon (.int 2)) wNil))) (wCons (wFn c__law_value (wCons (wName 2) (wCons (wCon (.int 2)) wNil))) wNil)))
  (w_law_rows n)))
def w_law (n : Nat) : WS := (wConsS (wFor (wRng1 (wCons (wCb (wCons (wCon (.int 2)) (wCons (wCb (wCons (wCon (.int 5)) (wCons (wCb (wCons (wName 0) wNil) (liWC lenW)) wNil)) (liWC minW2)) wNil)) (liWC maxW2)) wNil)) (.nm 1)
  (w_law_turn n))
  (wConsS (wRetG (wCon (.bl true)))
  wNilS))
def ch_law : CtG := cgOf ["_law_script", "_law_k", "_law_box", "_law_a", "_law_b", "_law_rows", "_law_others", "_law_spot", "_law_e", "_law_due", "_law_own", "_law_other", "_law_under", "_law_one", "_law_given"] ["_law_script"] (w_law)
def c_law : Ct := ctH ch_law
section
variable {T : Tab} {P : Program} {w : World} {K : PySem.W.Frag} {mg : Str → Option Value} {base : Heap}
theorem Tx.ok_law (t : Tx T K mg) : FnG P w K mg base CX0 6 t.a_law t.fd_law ["_law_script"] (spC T K c_law) := by
  have nd := sc_law.nd
  exact (fn_HG t.F_law sc_law fun cdv A outer sh H E hG hr n => (jss_cons (js_for PassesOwn.never (ji_range1 t.z_range (ja_cons (je_cb t.z_max (jk_li (jc_max2 rfl)) (ja_cons je_int (ja_cons (je_cb t.z_min (jk_li (jc_min2 rfl)) (ja_cons je_int (ja_cons (je_cb t.z_len (jk_li jc_len) (ja_cons (je_name 0) ja_nil)) ja_nil))) ja_nil))) ja_nil)) (dg_name 1 nd)
  (jss_cons (js_asg 2 nd (je_call t.ok__law_feed (hr.mono (by decide)) t.m__law_feed t.F__law_feed.kp t.b__law_feed (ja_cons (je_name 0) (ja_cons (je_name 1) ja_nil))))
  (jss_cons (js_par2 3 4 nd (ja_cons (je_call t.ok__law_value (hr.mono (by decide)) t.m__law_value t.F__law_value.kp t.b__law_value (ja_cons (je_name 2) (ja_cons je_int ja_nil))) (ja_cons (je_call t.ok__law_value (hr.mono (by decide)) t.m__law_value t.F__law_value.kp t.b__law_value (ja_cons (je_name 2) (ja_cons je_int ja_nil))) ja_nil)))
  (jss_cons (js_par2 5 6 nd (ja_cons (je_callHp t.ok__law_errors (hr.mono (by decide)) t.m__law_errors t.F__law_errors.kp t.b__law_errors (ja_cons (je_name 3) (ja_cons (je_name 4) ja_nil))) (ja_cons (je_callHp t.ok__law_named (hr.mono (by decide)) t.m__law_named t.F__law_named.kp t.b__law_named (ja_cons (je_name 3) (ja_cons (je_name 4) ja_nil))) ja_nil)))
  (jss_cons (js_for PassesOwn.never (ji_enum t.z_enumerate (ja_cons (je_name 5) ja_nil)) (dg_tup rfl (dgs_cons (dg_name 7 nd) (dgs_cons (dg_tup rfl (dgs_cons (dg_name 8 nd) (dgs_cons (dg_name 9 nd) dgs_nil))) dgs_nil)))
  (jss_cons (js_lc 10 nd ⟨(ji_range1 t.z_range (ja_cons (je_cb t.z_len (jk_li jc_len) (ja_cons (je_name 5) ja_nil)) ja_nil)), blkOk_by (own := [("_law_other", 11)]) (by kernel_rfl), fun _ _ _ _ _ => (dg_name 11 nd), fun _ _ _ _ _ => jts_nil, fun _ _ _ _ _ => (je_cmpP (JCmp.P (jc_li (jc_eq hr.units))) (je_name 7) (je_name 11)), by decide⟩)
  (jss_cons (js_asg 12 nd (je_lst (ja_cons (je_cmpP (JCmp.P (jc_li jc_lt)) (je_name 7) je_int) (ja_cons (je_cmpP (JCmp.P (jc_li jc_lt)) (je_name 7) je_int) (ja_cons (je_cmpP (JCmp.P (jc_li (jc_eq hr.units))) (je_name 7) je_int) (ja_cons (je_cmpP (JCmp.P (jc_li (jc_eq hr.units))) (je_name 7) je_int) ja_nil))))))
  (jss_cons (js_for PassesOwn.never (ji_val (je_tup (ja_cons (je_name 8) (ja_cons (je_sub (ji_li ji_ix) (je_name 6) (je_name 7)) ja_nil)))) (dg_name 13 nd)
  (jss_cons (js_if (JW.jt (jw_or (jt_cmpP (JCmp.P (jc_li (jc_ne hr.units))) (je_cb t.z_repr (jk_li (jc_reprL hG hr.units)) (ja_cons (je_callHp t.ok__law_kept (hr.mono (by decide)) t.m__law_kept t.F__law_kept.kp t.b__law_kept (ja_cons (je_name 13) ja_nil)) ja_nil)) (je_cb t.z_repr (jk_li (jc_reprL hG hr.units)) (ja_cons (je_name 9) ja_nil))) (jw_or1 (jt_cmpP (JCmp.P (jc_li (jc_ne hr.units))) (je_callHp t.ok__law_classes (hr.mono (by decide)) t.m__law_classes t.F__law_classes.kp t.b__law_classes (ja_cons (je_name 13) ja_nil)) (je_binP (JBin.P (jb_li jb_add)) (je_name 10) (je_name 12))))))
  (jss_cons (js_retG je_bl)
  jss_nil)
  jss_nil)
  jss_nil))
  (jss_cons (js_if (jt_cmpP (JCmp.P (jc_li (jc_ne hr.units))) (je_callX tk0 t.ok__law_caught (hr.mono (by decide)) t.m__law_caught t.F__law_caught.kp t.b__law_caught (ja_cons (je_name 7) (ja_cons (je_name 3) (ja_cons (je_name 4) ja_nil)))) (je_sub (ji_li ji_ix) (je_binP (JBin.P (jb_li jb_add)) (je_binP (JBin.P (jb_li jb_mul)) (je_lst (ja_cons je_str ja_nil)) je_int) (je_lst (ja_cons je_str (ja_cons je_str ja_nil)))) (je_name 7)))
  (jss_cons (js_retG je_bl)
  jss_nil)
  jss_nil)
  jss_nil)))))
  (jss_cons (js_asg 14 nd (je_tag (je_lstC (ja_cons (je_name 3) ja_nil))))
  (jss_cons (js_asg 8 nd (je_mkE tlf_ve t.o_InvalidText t.at_InvalidText___init__ t.ty_InvalidText___init__ t.ok_InvalidText___init__ (hr.mono (by decide)) t.b_InvalidText___init__ t.m_InvalidText t.T_InvalidText rfl (ja_cons (je_name 14) ja_nil)))
  (jss_cons (js_expr (je_appA (je_name 14) (je_name 4)))
  (jss_cons (js_if (JW.jt (jw_or (jt_cmpP (JCmp.P (jc_li (jc_neL hr.units))) (je_fldX t.hx_line (je_name 8)) (je_name 14)) (jw_or1 (jt_cmpP (JCmp.P (jc_li (jc_ne hr.units))) (je_cb t.z_len (jk_li jc_len) (ja_cons (je_fldX t.hx_line (je_name 8)) ja_nil)) je_int))))
  (jss_cons (js_retG je_bl)
  jss_nil)
  jss_nil)
  jss_nil)))))))))
  (jss_cons (js_retG je_bl)
  jss_nil))).toC
end

/-! ### lists, truths -/
theorem len60 {ds : List D} (h : ds.length ≤ 1000) : ds.length < sizeLine := Nat.lt_of_le_of_lt h (by decide)
theorem allF {α : Type} (f : α → Bool) (l : List α) {R : RV} {cs : List Cell} (h : R (.dat (.bl (l.all f))) cs) : allW [.dat (.lst (l.map fun x => D.bl (f x)))] cs R := by
  have e : (l.map fun x => D.bl (f x)) = (l.map f).map D.bl := by rw [List.map_map]; rfl
  have e2 : (l.map f).all id = l.all f := by rw [List.all_map]; rfl
  rw [e]
  refine blsW_i (ns := l.map f) ?_
  rw [e2]
  exact h
theorem lcW_go {h : D → D} {p : Pat} {we : WpE} {sl : Sls} {ds : List D} {cs : List Cell} {R : List D → List Cell → Prop} (hx : ∀ x ∈ ds, ∃ sl', asgP p x sl = some sl' ∧ ∀ R' : RV, R' (.dat (h x)) cs → we sl' cs R' noX) (hR : R (ds.map h) cs) : lcW p wYes we sl ds cs R := by
  have := lcW_map (xs := ds) (fun x : D => x) h hx hR
  rwa [List.map_id'] at this

/-! ### take, feed -/
theorem take_c {b : B} {m : Int} (hm : 0 < m) (hm2 : m < 2 ^ 200) (hb : Ok b) : c__law_take [.cel 0, .dat (.int m)] [bx b] (.dat (.int (tk b m))) [bx (nx b m)] := by
  refine ⟨rfl, ?_⟩
  refine Br.dec (fun h => ?_) (fun h => ?_)
  · refine And.intro hm (And.intro ⟨hm, lg hm hm2⟩ (And.intro ?_ ?_))
    · rw [tk_p h]
    · rw [nx_p h]; rfl
  · obtain ⟨hy, hy2⟩ := hb
    refine And.intro (Dl.mul_l (by omega) (by omega)) (And.intro (pos_ (by decide)) ?_)
    refine And.intro (Dl.mul_l (by omega) (by omega)) (And.intro (pos_ (by decide)) ?_)
    refine And.intro (Dl.mul_l (by omega) (by omega)) (And.intro ⟨by decide, by decide⟩ (And.intro hm (And.intro ?_ ?_)))
    · rw [tk_n h]
    · rw [nx_n h]; rfl

theorem feed_c {ns : List Int} {k : Nat} (hk : k < 100) : c__law_feed [.dat (scD ns), .dat (.int k)] [] (.cel 0) [bx (feedB ns k)] := by
  refine ⟨rfl, ?_⟩
  have tail : ∀ c : Int, c = feedC ns k → wConsS (wAsg 3 (wTwo (wTwo (wTwo (wTwo (wTwo (wCb (wCons (wName 2) wNil) intW1) (wCon (.int 2147483629)) modW) (wTwo (wCon (.int 104729)) (wName 1) mulW) addW) (wCon (.int 1)) addW) (wCon (.int 5)) powW) (wCon (.int 2147483647)) modW))
      (wConsS (wRetC 0 (wLstC (wCons (wTwo (wLst (wCons (wCon (.int 0)) (wCons (wName 2) wNil))) (wCb (wCons (wTwo (wName 2) (wTwo (wCon (.int 10)) (wCon (.int 18)) powW) geW) wNil) intW1) ixW) (wCons (wTwo (wTwo (wCb (wCons (wName 3) wNil) intW1) (wCon (.int 2147483646)) modW) (wCon (.int 1)) addW) wNil)))) wNilS)
      ⟨[some (.dat (scD ns)), some (.dat (.int k)), some (.dat (.int c)), none], []⟩ (endJ 0 (.cel 0) [bx (feedB ns k)]) := by
    rintro c rfl
    refine And.intro (pos_ (by decide)) (And.intro (Dl.mul_l (by decide) (by decide)) (And.intro ⟨by decide, by decide, by omega⟩ (And.intro (pos_ (by decide)) ?_)))
    refine And.intro (szk 2) (And.intro ⟨by decide, by decide, by decide⟩ ?_)
    have e : atI [D.int 0, D.int (feedC ns k)] (if decide ((10 : Int) ^ 18 ≤ feedC ns k) = true then 1 else 0) = some (.int (if 10 ^ 18 ≤ feedC ns k then feedC ns k else 0)) := by
      by_cases h : (10 : Int) ^ 18 ≤ feedC ns k
      · rw [if_pos h, if_pos (decide_eq_true h)]; rfl
      · rw [if_neg h, if_neg (by simpa using h)]; rfl
    refine atW_i e ?_
    exact And.intro (pos_ (by decide)) (And.intro (szk 2) (And.intro rfl (And.intro rfl rfl)))
  refine And.intro (Dl.mul_l (by decide) (by decide)) ?_
  refine Br.dec (fun hc => ?_) (fun hc => ?_)
  · have hc : k < ns.length := by simpa using hc
    exact atW_i (atI_scr hc) (tail _ (by unfold feedC; rw [if_pos hc]))
  · have hc : ¬ k < ns.length := by simpa using hc
    refine Br.dec (fun hd => ?_) (fun hd => ?_)
    · have hd : 0 < ns.length := by simpa using hd
      have hm : ((k : Nat) : Int) % (((ns.map D.int).length : Nat) : Int) = ((k % ns.length : Nat) : Int) := by rw [List.length_map]; exact (Int.natCast_emod k ns.length).symm
      refine And.intro (pos_ (by rw [List.length_map]; omega)) ?_
      refine atW_i (d := .int (ns.getD (k % ns.length) 0)) (by rw [hm]; exact atI_scr (Nat.mod_lt _ hd)) ?_
      refine And.intro (pos_ (by decide)) (And.intro (Dl.mul_l (by omega) (by omega)) ?_)
      exact tail _ (by unfold feedC; rw [if_neg hc, if_pos hd])
    · have hd : ¬ 0 < ns.length := by simpa using hd
      exact tail _ (by unfold feedC; rw [if_neg hc, if_neg hd])

theorem six_nat (n d k : Nat) : HT.sIx n d (some (k : Int)) = min k n := HT.sIx_nat n d k
theorem cut_take (ds : List D) (k : Nat) : cutD ds none (some (k : Int)) = ds.take k := by
  unfold cutD
  rw [six_nat]
  show (ds.drop 0).take (min k ds.length - 0) = _
  rw [List.drop_zero, Nat.sub_zero]
  exact (List.take_eq_take_min).symm
theorem cut_drop (ds : List D) (k : Nat) : cutD ds (some (k : Int)) none = ds.drop k := by
  unfold cutD
  rw [six_nat]
  show (ds.drop (min k ds.length)).take (ds.length - min k ds.length) = _
  rw [List.take_of_length_le (by rw [List.length_drop]; exact Nat.le_refl _)]
  rcases Nat.le_total k ds.length with h | h
  · rw [Nat.min_eq_left h]
  · rw [Nat.min_eq_right h, List.drop_of_length_le (Nat.le_refl _), List.drop_of_length_le h]

/-- one statement with what comes behind kept apart -/
theorem consS_i {w1 w2 : WS} {S S' : Sta} {P : PJ} (h1 : ∀ P' : PJ, P'.nx S' → w1 S P') (h2 : w2 S' P) : wConsS w1 w2 S P := h1 _ h2

/-! ### readings over references, of plain data; cells that stay (out of rg1, rg2, st1, st2, ..: for laws without rings and states) -/
theorem fvs_str : ∀ xs : List Str, fvs (xs.map D.str) = some (xs.map V.str)
  | [] => rfl
  | x :: xs => by
    show ((fv (.str x)).bind fun v => (fvs (xs.map D.str)).map (v :: ·)) = _
    rw [fvs_str xs]
    rfl
theorem rew_vw : ∀ cs : List Cell, rew cs (cs.map vwC) = cs
  | [] => by unfold rew; rfl
  | c :: cs => by
    show reC c (vwC c) :: rew cs (cs.map vwC) = c :: cs
    rw [rew_vw cs]
    congr 1
    cases c <;> rfl
theorem vw_at {cs : List Cell} {j : Nat} {c : Cell} (h : cs[j]? = some c) : (cs.map vwC)[j]? = some (vwC c) := by
  rw [List.getElem?_map, h]
  rfl
theorem rew_app : ∀ (cs ds : List Cell), rew cs (cs.map vwC ++ ds) = cs ++ ds
  | [], ds => by unfold rew; rfl
  | c :: cs, ds => by
    show reC c (vwC c) :: rew cs (cs.map vwC ++ ds) = c :: (cs ++ ds)
    rw [rew_app cs ds]
    congr 1
    cases c <;> rfl
theorem tag_new {cs : List Cell} {c : Cell} {n : Nat} {R : RV} (hn : n = cs.length) (q : ∀ p : Addr, R (.dat (.cls p)) (cs ++ [tgC p c])) : tagW (.cel n) (cs ++ [c]) R := by
  subst hn
  show (match (cs ++ [c])[cs.length]? with
    | some c' => ∀ p : Addr, R (.dat (.cls p)) ((cs ++ [c]).set cs.length (tgC p c'))
    | none => False)
  rw [List.getElem?_append_right (Nat.le_refl _), Nat.sub_self]
  intro p
  rw [List.set_append_right _ _ (Nat.le_refl _), Nat.sub_self]
  exact q p
def itm (ds : List D) (m : Int) : D := ds.getD (m % (ds.length : Int)).toNat .non
theorem atI_get {ds : List D} {m : Int} {j : Nat} {d : D} (hm : m = (j : Int)) (h : ds[j]? = some d) : atI ds m = some d := by subst hm; exact atI_nat (j := j) h
theorem itm_lt {ds : List D} (h0 : 0 < ds.length) (m : Int) : (m % (ds.length : Int)).toNat < ds.length := by
  have a := Int.emod_nonneg m (show (ds.length : Int) ≠ 0 by omega)
  have b := Int.emod_lt_of_pos m (show 0 < (ds.length : Int) by omega)
  omega
theorem itm_at {ds : List D} (h0 : 0 < ds.length) (m : Int) : atI ds (m % (ds.length : Int)) = some (itm ds m) := by
  have a := Int.emod_nonneg m (show (ds.length : Int) ≠ 0 by omega)
  refine atI_get (j := (m % (ds.length : Int)).toNat) (by omega) ?_
  unfold itm
  rw [List.getD_eq_getElem?_getD, List.getElem?_eq_getElem (itm_lt h0 m)]
  rfl
theorem itm_mem {ds : List D} (h0 : 0 < ds.length) (m : Int) : itm ds m ∈ ds := by
  unfold itm
  rw [List.getD_eq_getElem?_getD, List.getElem?_eq_getElem (itm_lt h0 m)]
  exact List.getElem_mem _
def Kept (X : List Nat) (cs cs' : List Cell) : Prop := ∀ k c, k ∉ X → cs[k]? = some c → cs'[k]? = some c
section
variable {cs cs' ts : List Cell} {i j o k n : Nat} {ds : List D} {R : RV} {Rx : RX} {s s1 s2 : Sl} {d e v : D} {X : List Nat} {x y z w y0 : Cell} {r p : Addr} {b b' : B} {w : Ct}
theorem rw_ {P : List Cell → Prop} (q : P cs) : P (rew cs (cs.map vwC)) := by rw [rew_vw]; exact q
theorem li1 {W : WC} (h : ∀ Q : RV, Q s2 (cs.map vwC) → W [s1] (cs.map vwC) Q) (q : R s2 cs) : liWC W [s1] cs R := ⟨_, .cons .id .nil, h _ (rw_ (P := R s2) q)⟩
theorem li2 {W : W2} {s3 : Sl} (h : ∀ Q : RV, Q s3 (cs.map vwC) → W s1 s2 (cs.map vwC) Q) (q : R s3 cs) : liW2 W s1 s2 cs R := ⟨_, _, .id, .id, h _ (rw_ (P := R s3) q)⟩
theorem liU {W : W1} (h : ∀ Q : RV, Q s2 (cs.map vwC) → W s1 (cs.map vwC) Q) (q : R s2 cs) : liW1 W s1 cs R := ⟨_, .id, h _ (rw_ (P := R s2) q)⟩
def Ls (cs : List Cell) (s : Sl) (ds : List D) : Prop := ∃ s', DeR cs s s' ∧ lstOf (cs.map vwC) s' = some ds
theorem ls_d : Ls cs (.dat (.lst ds)) ds := ⟨_, .id, rfl⟩
theorem ls_a {p : Addr} (h : cs[j]? = some (.lstA p ds)) : Ls cs (.dat (.cls p)) ds := ⟨.cel j, .de h rfl, by
  show (match (cs.map vwC)[j]? with
    | some (.lst ds) => some ds
    | _ => none) = some ds
  rw [vw_at h]
  rfl⟩
theorem wL_l {s' : Sl} {k : List D → Prop} (h : lstOf (cs.map vwC) s' = some ds) (q : k ds) : wL (cs.map vwC) s' k := by
  unfold wL
  rw [h]
  exact q
theorem lenW_l {s' : Sl} {Q : RV} (h : lstOf (cs.map vwC) s' = some ds) (q : Q (.dat (.int ds.length)) (cs.map vwC)) : lenW [s'] (cs.map vwC) Q := by
  match s', h with
  | .dat (.lst es), h => exact wL_l (k := fun es => Q (.dat (.int es.length)) (cs.map vwC)) h q
  | .cel k, h => exact wL_l (k := fun es => Q (.dat (.int es.length)) (cs.map vwC)) h q
theorem len_l {s : Sl} (h : Ls cs s ds) (q : R (.dat (.int ds.length)) cs) : liWC lenW [s] cs R := by
  obtain ⟨s', d, e⟩ := h
  refine ⟨[s'], .cons d .nil, lenW_l e ?_⟩
  show R (.dat (.int ds.length)) (rew cs (cs.map vwC))
  rw [rew_vw]
  exact q
theorem lmod {m n : Int} (h : 0 < n) (q : R (.dat (.int (m % n))) cs) : liW2 modW (.dat (.int m)) (.dat (.int n)) cs R := li2 (fun _ q => And.intro h q) q
theorem ladd {m n : Int} (q : R (.dat (.int (m + n))) cs) : liW2 addW (.dat (.int m)) (.dat (.int n)) cs R := li2 (fun _ q => q) q
theorem lsub {m n : Int} (q : R (.dat (.int (m - n))) cs) : liW2 subW (.dat (.int m)) (.dat (.int n)) cs R := li2 (fun _ q => q) q
theorem lneg {m : Int} (q : R (.dat (.int (-m))) cs) : liW1 negW (.dat (.int m)) cs R := liU (fun _ q => q) q
theorem lint {m : Int} (q : R (.dat (.int m)) cs) : liWC intW1 [.dat (.int m)] cs R := li1 (fun _ q => q) q
theorem leqI {b : Bool} {m n : Int} (q : R (.dat (.bl (b.xor (decide (m = n))))) cs) : liW2 (eqW b) (.dat (.int m)) (.dat (.int n)) cs R := li2 (fun _ q => q) q
theorem leqS {b : Bool} {m n : Str} (q : R (.dat (.bl (b.xor (decide (m = n))))) cs) : liW2 (eqW b) (.dat (.str m)) (.dat (.str n)) cs R := li2 (fun _ q => q) q
theorem leqB {b m n : Bool} (q : R (.dat (.bl (b.xor (m == n)))) cs) : liW2 (eqW b) (.dat (.bl m)) (.dat (.bl n)) cs R := li2 (fun _ q => q) q
theorem lix {xs : List D} {k : Int} (e : atI xs k = some d) (q : R (.dat d) cs) : liW2 ixW (.dat (.lst xs)) (.dat (.int k)) cs R := li2 (fun Q q => (atW_i (k := fun d => Q (.dat d) (cs.map vwC)) e q)) q
theorem list_l (h : Ls cs s ds) (q : ∀ p : Addr, R (.dat (.cls p)) (cs ++ [.lstA p ds])) : liWC listWC [s] cs fun s c => tagW s c R := by
  obtain ⟨s', d, e⟩ := h
  refine ⟨[s'], .cons d .nil, ?_⟩
  have key : tagW (.cel (cs.map vwC).length) (rew cs (cs.map vwC ++ [.lst ds])) R := by
    rw [rew_app]
    exact tag_new (by rw [List.length_map]) q
  match s', e with
  | .dat (.lst es), e => exact wL_l (k := fun es => tagW (.cel (cs.map vwC).length) (rew cs (cs.map vwC ++ [.lst es])) R) e key
  | .cel k, e => exact wL_l (k := fun es => tagW (.cel (cs.map vwC).length) (rew cs (cs.map vwC ++ [.lst es])) R) e key
theorem lsd_l (h : Ls cs s ds) (q : R (.dat (.lst ds)) cs) : liWC listW [s] cs R := by
  obtain ⟨s', d, e⟩ := h
  refine ⟨[s'], .cons d .nil, ?_⟩
  have q2 : R (.dat (.lst ds)) (rew cs (cs.map vwC)) := rw_ (P := R (.dat (.lst ds))) q
  match s', e with
  | .dat (.lst es), e => exact wL_l (k := fun es => R (.dat (.lst es)) (rew cs (cs.map vwC))) e q2
  | .cel k, e => exact wL_l (k := fun es => R (.dat (.lst es)) (rew cs (cs.map vwC))) e q2
theorem kd_at {p : Addr} {k : Nat} {kds : List (Key × D)} {P : List (Key × D) → Prop} (e : cs[k]? = some (.dctA p kds)) (q : P kds) : kdA cs (.dat (.cls p)) P := by
  refine ⟨.cel k, kds, .de e rfl, ?_, q⟩
  have e' : (cs.map vwC)[k]? = some (.dct kds) := vw_at e
  show (match (cs.map vwC)[k]? with
    | some (.dct kds) => some kds
    | _ => none) = some kds
  rw [e']
theorem tin {x : Str} {xs : List Str} {b : Bool} (hb : (false.xor (inV (V.str x) (xs.map V.str))) = b) (q : R (.dat (.bl b)) cs) : liW2 (selW PDc (inDW false) (inW' false)) (.dat (.str x)) (.dat (.tup (xs.map D.str))) cs R := by
  refine li2 (s3 := .dat (.bl b)) (fun Q q => ?_) q
  show (match fv (.str x), fvs (xs.map D.str) with
    | some v, some ws => Q (.dat (.bl (false.xor (inV v ws)))) (cs.map vwC)
    | _, _ => False)
  rw [fvs_str]
  show Q (.dat (.bl (false.xor (inV (V.str x) (xs.map V.str))))) (cs.map vwC)
  rw [hb]
  exact q
theorem wN_i {i : Nat} {sl : Sls} {cs : List Cell} {R : RV} {Rx : RX} {s : Sl} (e : sl[i]? = some (some s)) (h : R s cs) : wName i sl cs R Rx := by unfold wName; rw [e]; exact h
theorem dc_i {p : Pat} {wk wv : WpE} {sl sl' : Sls} {e : D} {es : List D} {acc : List (Key × D)} {R : List (Key × D) → List Cell → Prop} (h : asgP p e sl = some sl') (q : wk sl' cs (fun s1 c2 => wv sl' c2 (fun s2 c3 => isKey s1 fun k => isDat s2 fun e => dcW p wYes wk wv sl es (putD acc k e) c3 R) noX) noX) : dcW p wYes wk wv sl (e :: es) acc cs R := asgW_i h (Br.tt rfl q)
theorem tag_d {kds : List (Key × D)} (q : ∀ p : Addr, R (.dat (.cls p)) (cs ++ [.dctA p kds])) : tagW (.cel cs.length) (cs ++ [.dct kds]) R := tag_new rfl q
theorem Kept.app : Kept X cs (cs ++ ts) := fun k c _ e => by rw [List.getElem?_append_left (List.getElem?_eq_some_iff.mp e).1]; exact e
theorem Kept.refl : Kept X cs cs := fun _ _ _ e => e
theorem Kept.trans {cs2 : List Cell} (x : Kept X cs cs') (y : Kept X cs' cs2) : Kept X cs cs2 := fun k c n e => y k c n (x k c n e)
theorem Kept.set {k : Nat} {v : Cell} (hk : k ∈ X) : Kept X cs (cs.set k v) := fun j c n e => by
  rw [List.getElem?_set_ne (fun z => n (by rw [← z]; exact hk))]
  exact e
theorem Kept.mono {Y : List Nat} (x : Kept X cs cs') (h : ∀ k ∈ X, k ∈ Y) : Kept Y cs cs' := fun k c n e => x k c (fun z => n (h k z)) e
theorem Kept.as (x : Kept [] cs cs') (ho : cs.length ≤ o) {y : Cell} {ts : List Cell} : Kept [] cs ((cs' ++ ts).set o y) := fun k c _ e => by
  have lk := (List.getElem?_eq_some_iff.mp e).1
  rw [List.getElem?_set_ne (by omega)]
  exact (x.trans Kept.app) k c (by simp) e
theorem Kept.len (x : Kept [] cs cs') : cs.length ≤ cs'.length := by
  rcases Nat.eq_zero_or_pos cs.length with z | z
  · omega
  · have e : cs[cs.length - 1]? = some cs[cs.length - 1] := List.getElem?_eq_getElem (by omega)
    have := (List.getElem?_eq_some_iff.mp (x _ _ (by simp) e)).1
    omega
theorem rngD_len {lo : Int} {n : Nat} : (rangeD lo n).length = n := by unfold rangeD; rw [List.length_map, List.length_range]
theorem set_last {cs : List Cell} {x y : Cell} : (cs ++ [x]).set cs.length y = cs ++ [y] := by
  rw [List.set_append_right _ _ (Nat.le_refl _), Nat.sub_self]
  rfl
theorem at_last {cs : List Cell} {x : Cell} : (cs ++ [x])[cs.length]? = some x := by
  rw [List.getElem?_append_right (Nat.le_refl _), Nat.sub_self]
  rfl
theorem kl_lt {α : Type} {xs : List α} {k : Nat} (h : xs.length = k) (hk : k ≤ 1000) : xs.length < sizeLine := by
  rw [h]
  exact Nat.lt_of_le_of_lt hk (by decide)
theorem put_len {kds : List (Key × D)} {k : Key} {d : D} {m : Nat} (h : kds.length ≤ m) : (putD kds k d).length ≤ m + 1 := Nat.le_trans (putD_len kds k d) (Nat.add_le_add_right h 1)
theorem kl_le {α : Type} {xs : List α} {k : Nat} (h : xs.length ≤ k) (hk : k ≤ 1000) : xs.length < sizeLine := Nat.lt_of_le_of_lt (Nat.le_trans h hk) (by decide)
theorem lixT {xs : List D} {k : Int} {d : D} (e : atI xs k = some d) (q : R (.dat d) cs) : liW2 ixW (.dat (.tup xs)) (.dat (.int k)) cs R := li2 (fun Q q => (atW_i (k := fun d => Q (.dat d) (cs.map vwC)) e q)) q
theorem lmul {m n : Int} (hm : MulC m n) (h : R (.dat (.int (m * n))) cs) : liW2 mulW (.dat (.int m)) (.dat (.int n)) cs R := li2 (s3 := .dat (.int (m * n))) (fun Q q => And.intro hm q) h
theorem Kept.new (x : Kept X cs cs') (hj : cs.length ≤ j) : Kept X cs (cs'.set j y0) := fun k c n e => by
  have lk := (List.getElem?_eq_some_iff.mp e).1
  rw [List.getElem?_set_ne (by omega)]
  exact x k c n e
theorem Kept.more (x : Kept X cs cs') : Kept X cs (cs' ++ ts) := x.trans Kept.app
theorem ixN_mod {m : Int} {n : Nat} (h0 : 0 < n) : ixN n (m % (n : Int)) = some (m % (n : Int)).toNat := by
  have e := Int.emod_nonneg m (show (n : Int) ≠ 0 by omega)
  obtain ⟨f, hf⟩ : ∃ f : Nat, m % (n : Int) = (f : Int) := ⟨_, (Int.toNat_of_nonneg e).symm⟩
  have b := Int.emod_lt_of_pos m (show 0 < (n : Int) by omega)
  rw [hf, Int.toNat_natCast]
  simp only [ixN, show (0 : Int) ≤ (f : Int) by omega, show (f : Int) < (n : Int) by omega, if_true, Int.toNat_natCast]
theorem lixA {v : D} (h : cs[j]? = some (.lstA r ds)) (e : atI ds k = some v) (hr : R (.dat v) cs) : liW2 ixW (.dat (.cls r)) (.dat (.int k)) cs R := by
  refine ⟨_, _, .de h rfl, .id, ?_⟩
  show (match (cs.map vwC)[j]? with
    | some (.lst es) => atW es k fun d => R (.dat d) (rew cs (cs.map vwC))
    | _ => False)
  rw [vw_at h, rew_vw]
  exact atW_i e hr
theorem for3 {P : PJ} {d1 d2 d3 : D} {x : Pat} {body rest : WS} {S : Sta} (h : forW x body [d1, d2, d3] S { P with nx := fun S' => rest S' P }) : wConsS (wFor (wItems (wTup (wCons (wCon d1) (wCons (wCon d2) (wCons (wCon d3) wNil))))) x body) rest S P := And.intro (szk 3) h
theorem for5 {P : PJ} {d1 d2 d3 d4 d5 : D} {x : Pat} {body rest : WS} {S : Sta} (h : forW x body [d1, d2, d3, d4, d5] S { P with nx := fun S' => rest S' P }) : wConsS (wFor (wItems (wTup (wCons (wCon d1) (wCons (wCon d2) (wCons (wCon d3) (wCons (wCon d4) (wCons (wCon d5) wNil))))))) x body) rest S P := And.intro (szk 5) h
theorem forW_i {P : PJ} {x : Pat} {wb : WS} {e : D} {es : List D} {S : Sta} {sl' : Sls} (hx : asgP x e S.sl = some sl') (h : wb ⟨sl', S.cs⟩ { P with nx := fun S' => forW x wb es S' P, ct := fun S' => forW x wb es S' P, bk := P.nx }) : forW x wb (e :: es) S P := asgW_i hx h
theorem consS_q {α : Type} {Q : α → Prop} {w1 w2 : WS} {S : Sta} {S' : α → Sta} {P : PJ} (h1 : ∀ P' : PJ, (∀ x, Q x → P'.nx (S' x)) → w1 S P') (h2 : ∀ x, Q x → w2 (S' x) P) : wConsS w1 w2 S P := h1 _ h2
theorem tag_l (q : ∀ r : Addr, R (.dat (.cls r)) (cs ++ [.lstA r ds])) : tagW (.cel cs.length) (cs ++ [.lst ds]) R := tag_new rfl q
theorem rep_n {k : Int} (h : k.natAbs < 2 ^ 40) (q : R (.dat (.str (toString k))) cs) : liWC reprLW [.dat (.int k)] cs R := li1 (s2 := .dat (.str (toString k))) (fun Q q => And.intro (by
  rcases Nat.eq_zero_or_pos k.natAbs with z | z
  · rw [z]; decide
  · exact Nat.lt_trans ((Nat.log2_lt (k := 40) (by omega)).mpr h) (by decide)) q) q
theorem lmax2 {i j : Int} (q : R (.dat (.int (if j > i then j else i))) cs) : liWC maxW2 [.dat (.int i), .dat (.int j)] cs R := ⟨_, .cons .id (.cons .id .nil), rw_ (P := R (.dat (.int (if j > i then j else i)))) q⟩
theorem lmin2 {i j : Int} (q : R (.dat (.int (if j < i then j else i))) cs) : liWC minW2 [.dat (.int i), .dat (.int j)] cs R := ⟨_, .cons .id (.cons .id .nil), rw_ (P := R (.dat (.int (if j < i then j else i)))) q⟩
end
section
variable {cs cs' ts : List Cell} {x y z w : Cell}
theorem at0 : (cs ++ x :: ts)[cs.length]? = some x := by
  rw [List.getElem?_append_right (Nat.le_refl _), Nat.sub_self]
  rfl
theorem at1 : (cs ++ x :: y :: ts)[cs.length + 1]? = some y := by
  rw [List.getElem?_append_right (by omega), Nat.add_sub_cancel_left]
  rfl
theorem at2 : (cs ++ x :: y :: z :: ts)[cs.length + 2]? = some z := by
  rw [List.getElem?_append_right (by omega), Nat.add_sub_cancel_left]
  rfl
theorem at3 : (cs ++ x :: y :: z :: w :: ts)[cs.length + 3]? = some w := by
  rw [List.getElem?_append_right (by omega), Nat.add_sub_cancel_left]
  rfl
theorem set0 : (cs ++ x :: ts).set cs.length y = cs ++ y :: ts := by
  rw [List.set_append_right _ _ (Nat.le_refl _), Nat.sub_self]
  rfl
end
section
variable {cs cs' : List Cell} {j : Nat} {e v : D} {R : RV} {Rx : RX} {b b' : B} {w : Ct} {s : Sl}
theorem bj_ (e : cs[j]? = some (bx b)) : Kept [j] cs (cs.set j (bx b')) ∧ (cs.set j (bx b'))[j]? = some (bx b') ∧ (cs.set j (bx b')).length = cs.length :=
  ⟨Kept.set (List.mem_singleton.mpr rfl), List.getElem?_set_self (List.getElem?_eq_some_iff.mp e).1, List.length_set⟩
theorem bj0 (hb : cs[j]? = some (bx b)) (hc : w [.cel 0] [bx b] (.dat v) [bx b']) (q : ∀ cs', Kept [j] cs cs' → cs'[j]? = some (bx b') → cs'.length = cs.length → R (.dat v) cs') : callW w [.cel j] cs R := by
  obtain ⟨e1, e2, e3⟩ := bj_ (b' := b') hb
  show (match cs[j]? with
    | some c0 => ∃ d c1, w [.cel 0] [c0] (.dat d) [c1] ∧ R (.dat d) (cs.set j c1)
    | none => False)
  rw [hb]
  exact ⟨v, bx b', hc, q _ e1 e2 e3⟩
theorem bj1 (hb : cs[j]? = some (bx b)) (hc : w [.cel 0, .dat e] [bx b] (.dat v) [bx b']) (q : ∀ cs', Kept [j] cs cs' → cs'[j]? = some (bx b') → cs'.length = cs.length → R (.dat v) cs') : callW w [.cel j, .dat e] cs R := by
  obtain ⟨e1, e2, e3⟩ := bj_ (b' := b') hb
  show (match cs[j]? with
    | some c0 => ∃ d c1, w [.cel 0, .dat e] [c0] (.dat d) [c1] ∧ R (.dat d) (cs.set j c1)
    | none => False)
  rw [hb]
  exact ⟨v, bx b', hc, q _ e1 e2 e3⟩
theorem wFnj {x : Nat} {sl : Sls} (e : sl[x]? = some (some s)) (h : callW w [s] cs R) : wFn w (wCons (wName x) wNil) sl cs R Rx := by
  unfold wFn wCons wNil
  exact wN_i (Rx := Rx) e h
theorem wFnj2 {x y : Nat} {sl : Sls} {s2 : Sl} (e : sl[x]? = some (some s)) (e2 : sl[y]? = some (some s2)) (h : callW w [s, s2] cs R) : wFn w (wCons (wName x) (wCons (wName y) wNil)) sl cs R Rx := by
  unfold wFn wCons wNil
  exact wN_i (Rx := Rx) e (wN_i (Rx := Rx) e2 h)
end

/-! ### what may be compared -/
def okN (k : Nat) (d : D) : Prop := d.plain = true ∧ d.py.canLay0 = true ∧ d.py.depth ≤ k
theorem okl_all {k : Nat} : ∀ {xs : List D}, (∀ d ∈ xs, okN k d) → D.plains xs = true ∧ PyData.canLayAll0 (D.pys xs) = true ∧ PyData.depthAll (D.pys xs) ≤ k
  | [], _ => ⟨rfl, by simp [D.pys, PyData.canLayAll0], by simp [D.pys, PyData.depthAll]⟩
  | x :: xs, h => by
    obtain ⟨a, b, c⟩ := h x List.mem_cons_self
    obtain ⟨d, e, f⟩ := okl_all fun y hy => h y (List.mem_cons_of_mem _ hy)
    refine ⟨by simp [D.plains, a, d], by simp [D.pys, PyData.canLayAll0, b, e], ?_⟩
    simp only [D.pys, PyData.depthAll]
    exact Nat.max_le.mpr ⟨c, f⟩
theorem ok_lst {k : Nat} {xs : List D} (h : ∀ d ∈ xs, okN k d) (hk : k < 64) : okD (.lst xs) = true := by
  obtain ⟨a, b, c⟩ := okl_all h
  have e : (D.lst xs).py.depth ≤ 64 := by
    show PyData.depth (.list (D.pys xs)) ≤ 64
    simp only [PyData.depth]
    omega
  simp only [okD, SeqAt.shaped, Bool.and_eq_true]
  exact ⟨a, by show PyData.canLay0 (.list (D.pys xs)) = true; simpa [PyData.canLay0] using b, decide_eq_true e⟩

theorem ok_tup {k : Nat} {xs : List D} (h : ∀ d ∈ xs, okN k d) (hk : k < 64) : okD (.tup xs) = true := by
  obtain ⟨a, b, c⟩ := okl_all h
  have e : (D.tup xs).py.depth ≤ 64 := by
    show PyData.depth (.tuple (D.pys xs)) ≤ 64
    simp only [PyData.depth]
    omega
  simp only [okD, SeqAt.shaped, Bool.and_eq_true]
  exact ⟨a, by show PyData.canLay0 (.tuple (D.pys xs)) = true; simpa [PyData.canLay0] using b, decide_eq_true e⟩

/-! ### loops by existence: what a loop leads to is chosen turn by turn -/
theorem forW_ex {p : Pat} {wb : WS} {α : Type} (g : α → D) (I : List α → List α → Sta → Prop) : ∀ (pre post : List α) (S : Sta), I pre post S →
    (∀ pre x post S, I pre (x :: post) S → ∃ S', I (pre ++ [x]) post S' ∧ ∀ P : PJ, P.nx S' → asgW p (g x) S.sl fun sl' => wb ⟨sl', S.cs⟩ P) → ∃ S', I (pre ++ post) [] S' ∧ ∀ P : PJ, P.nx S' → forW p wb (post.map g) S P
  | pre, [], S, h, _ => ⟨S, by rw [List.append_nil]; exact h, fun P q => q⟩
  | pre, x :: post, S, h, hs => by
    obtain ⟨S1, h1, q1⟩ := hs pre x post S h
    obtain ⟨S2, h2, q2⟩ := forW_ex g I (pre ++ [x]) post S1 h1 hs
    refine ⟨S2, by rw [List.append_assoc] at h2; exact h2, fun P q => ?_⟩
    exact q1 _ (q2 P q)
/-- [.. for .. in ..] with draws, by existence -/
theorem lcW_ex {p : Pat} {wt : WpT} {we : WpE} {sl : Sls} {α : Type} (g : α → D) (Q : α → D → Prop) : ∀ (xs : List α) (b : B), Ok b →
    (∀ x ∈ xs, ∀ b, Ok b → ∃ sl' b', asgP p (g x) sl = some sl' ∧ Ok b' ∧ ((∀ (R : RB), R false [bx b'] → wt sl' [bx b] R noX) ∨ ∃ d, Q x d ∧ ∃ b1, (∀ (R : RB), R true [bx b1] → wt sl' [bx b] R noX) ∧ ∀ (R : RV), R (.dat d) [bx b'] → we sl' [bx b1] R noX)) →
    ∃ (ys : List (α × D)) (b' : B), Ok b' ∧ List.Sublist (ys.map (·.1)) xs ∧ (∀ y ∈ ys, Q y.1 y.2) ∧ ∀ R : List D → List Cell → Prop, R (ys.map (·.2)) [bx b'] → lcW p wt we sl (xs.map g) [bx b] R
  | [], b, hb, _ => ⟨[], b, hb, List.Sublist.refl _, (fun _ z => nomatch z), fun R h => h⟩
  | x :: xs, b, hb, hx => by
    obtain ⟨sl', b', e, ok, h⟩ := hx x List.mem_cons_self b hb
    obtain ⟨ys, b2, o2, s2, q2, r2⟩ := lcW_ex g Q xs b' ok fun y hy => hx y (List.mem_cons_of_mem _ hy)
    rcases h with h | ⟨d, hq, b1, h1, h3⟩
    · exact ⟨ys, b2, o2, s2.cons x, q2, fun R hR => asgW_i e (h _ ⟨(fun z => nomatch z), fun _ => r2 R hR⟩)⟩
    · refine ⟨(x, d) :: ys, b2, o2, s2.cons₂ x, fun y hy => ?_, fun R hR => asgW_i e (h1 _ ⟨(fun _ => h3 _ (r2 _ hR)), (fun z => nomatch z)⟩)⟩
      rcases List.mem_cons.mp hy with rfl | hy
      · exact hq
      · exact q2 y hy

/-! ### values of any kind -/
def wd01 : Nat → Nat
  | 0 => 143
  | k + 1 => 2 * (wd01 k + 2) + 3
def fivS : List Str := [⟨#[97]⟩, ⟨#[90]⟩, ⟨#[32]⟩, ⟨#[57]⟩, ⟨#[45]⟩]
def words5 : Nat → List (List Str)
  | 0 => [[]]
  | n + 1 => (words5 n).flatMap fun l => fivS.map (· :: l)
theorem words5_mem : ∀ {l : List Str}, (∀ x ∈ l, x ∈ fivS) → l ∈ words5 l.length
  | [], _ => List.mem_singleton.mpr rfl
  | x :: l, h => List.mem_flatMap.mpr ⟨l, words5_mem fun y hy => h y (List.mem_cons_of_mem _ hy), List.mem_map.mpr ⟨x, h x List.mem_cons_self, rfl⟩⟩
theorem words5_ok : ∀ n < 5, ∀ l ∈ words5 n, (PySem.reprText (Txt.join "" l)).length ≤ 143 ∧ (D.str (Txt.join "" l)).py.canLay0 = true ∧ (l.map (·.length)).sum + l.length * ("" : Str).length ≤ 16777216 := by
  have h : ((List.range 5).all fun n => (words5 n).all fun l => decide ((PySem.reprText (Txt.join "" l)).length ≤ 143) && ((D.str (Txt.join "" l)).py.canLay0 && decide ((l.map (·.length)).sum + l.length * ("" : Str).length ≤ 16777216))) = true := by decide +kernel
  intro n hn l hl
  have a := List.all_eq_true.mp (List.all_eq_true.mp h n (List.mem_range.mpr hn)) l hl
  simp only [Bool.and_eq_true, decide_eq_true_eq] at a
  exact a
theorem zeros_ok : ∀ k : Fin 40, ("0" : Str).length ≤ 1000 ∧ (repS "0" ((k : Nat) : Int)).length ≤ 40 ∧ ("9" : Str).length ≤ 10 ∧ (("9" : Str) ++ repS "0" ((k : Nat) : Int)).length ≤ 640 ∧ PySem.intText? (("9" : Str) ++ repS "0" ((k : Nat) : Int)) = some (9 * 10 ^ (k : Nat)) := by decide +kernel
theorem nine_lt {k : Nat} (h : k < 40) : ((9 * 10 ^ k : Int)).natAbs < 2 ^ 140 := by
  have e : (10 : Nat) ^ k ≤ 10 ^ 39 := Nat.pow_le_pow_right (by decide) (by omega)
  have e2 : ((9 * 10 ^ k : Int)).natAbs = 9 * 10 ^ k := by
    rw [Int.natAbs_mul, Int.natAbs_pow]
    rfl
  rw [e2]
  have e3 : 9 * 10 ^ 39 < 2 ^ 140 := by decide +kernel
  omega

/-! ### _law_value -/
theorem xt {i j : Int} (h : i = j) : (false.xor (decide (i = j))) = true := by simp [h]
theorem xf {i j : Int} (h : i ≠ j) : (false.xor (decide (i = j))) = false := by simp [h]
theorem lcW_all {p : Pat} {we : WpE} {sl : Sls} {α : Type} (g : α → D) (Q : D → Prop) : ∀ (xs : List α) (b : B), Ok b →
    (∀ x ∈ xs, ∀ b, Ok b → ∃ sl' b' d, asgP p (g x) sl = some sl' ∧ Ok b' ∧ Q d ∧ ∀ R : RV, R (.dat d) [bx b'] → we sl' [bx b] R noX) →
    ∃ (ds : List D) (b' : B), Ok b' ∧ ds.length = xs.length ∧ (∀ d ∈ ds, Q d) ∧ ∀ R : List D → List Cell → Prop, R ds [bx b'] → lcW p wYes we sl (xs.map g) [bx b] R
  | [], b, hb, _ => ⟨[], b, hb, rfl, (fun _ z => nomatch z), fun R h => h⟩
  | x :: xs, b, hb, hx => by
    obtain ⟨sl', b', d, e, ok, hq, h3⟩ := hx x List.mem_cons_self b hb
    obtain ⟨ds, b2, o2, l2, q2, r2⟩ := lcW_all g Q xs b' ok fun y hy => hx y (List.mem_cons_of_mem _ hy)
    refine ⟨d :: ds, b2, o2, by rw [List.length_cons, List.length_cons, l2], fun y hy => ?_, fun R hR => asgW_i e ⟨(fun _ => h3 _ (r2 _ hR)), (fun z => nomatch z)⟩⟩
    rcases List.mem_cons.mp hy with rfl | hy
    · exact hq
    · exact q2 y hy
def mX (k : Int) : Int := 7 - 2 * (if (false.xor (decide (k = 0))) = true then 1 else 0)
theorem mX_or (k : Int) : (k = 0 ∧ mX k = 5) ∨ (k ≠ 0 ∧ mX k = 7) := by
  by_cases h : k = 0
  · exact .inl ⟨h, by subst h; decide⟩
  · exact .inr ⟨h, by unfold mX; rw [xf h]; rfl⟩
theorem chr5 {c : Int} (h0 : 0 ≤ c) (h : c < 5) : ∃ x, atI (("aZ 9-" : Str).cps.toList) c = some x ∧ (⟨#[x]⟩ : Str) ∈ fivS := by
  have e : ∀ i : Fin 5, ∃ x, atI (("aZ 9-" : Str).cps.toList) ((i : Nat) : Int) = some x ∧ (⟨#[x]⟩ : Str) ∈ fivS := by
    intro i
    match i with
    | 0 => exact ⟨97, by decide +kernel, by unfold fivS; simp⟩
    | 1 => exact ⟨90, by decide +kernel, by unfold fivS; simp⟩
    | 2 => exact ⟨32, by decide +kernel, by unfold fivS; simp⟩
    | 3 => exact ⟨57, by decide +kernel, by unfold fivS; simp⟩
    | 4 => exact ⟨45, by decide +kernel, by unfold fivS; simp⟩
  have := e ⟨c.toNat, by omega⟩
  rwa [show ((⟨c.toNat, by omega⟩ : Fin 5) : Nat) = c.toNat from rfl, show ((c.toNat : Nat) : Int) = c by omega] at this
theorem rnS {x : Str} (h : (PySem.reprText x).length ≤ 143) : RN 0 143 (.str x) := ⟨rfl, rfl, rfl, Nat.le_refl _, h⟩
structure Vq (k : Nat) (d : D) : Prop where
  rn : RN k (wd01 k) d
  lay : d.py.canLay0 = true
theorem Vq.okn {k : Nat} {d : D} (h : Vq k d) : okN k d := ⟨h.rn.pl, h.lay, h.rn.dp⟩
theorem wd_le (k : Nat) : 143 ≤ wd01 k := by
  induction k with
  | zero => exact Nat.le_refl _
  | succ k ih => show 143 ≤ 2 * (wd01 k + 2) + 3; omega
section
variable {b : B} {rc : Ct} {k : Nat}
theorem value_step (hk : k ≤ 2) (ok : Ok b) (ih : k ≠ 0 → ∀ b, Ok b → ∃ d b', Ok b' ∧ Vq (k - 1) d ∧ rc [.cel 0, .dat (.int ((k : Int) - 1))] [bx b] (.dat d) [bx b']) :
    ∃ d b', Ok b' ∧ Vq k d ∧ ctOf ["_law_box", "_law_deep", "_law_form", "_law_k", "_law_some"] ["_law_box", "_law_deep"] (w__law_value rc) [.cel 0, .dat (.int (k : Int))] [bx b] (.dat d) [bx b'] := by
  have hm : 0 < mX k ∧ mX k < 8 ∧ ((k : Int) = 0 → mX k = 5) ∧ mX k ≤ 7 := by
    rcases mX_or (k : Int) with ⟨h, e⟩ | ⟨h, e⟩
    · rw [e]; exact ⟨by decide, by decide, fun _ => rfl, by decide⟩
    · rw [e]; exact ⟨by decide, by decide, fun z => (h z).elim, by decide⟩
  obtain ⟨m0, m8, m5, m7⟩ := hm
  have m2 : mX k < 2 ^ 200 := Int.lt_trans m8 (by decide)
  have t0 := tk_lo (b := b) m0
  have t1 := tk_hi (b := b) m0
  have o1 := ok.nx (mX k)
  have hmul : MulC 2 (if (false.xor (decide ((k : Int) = 0))) = true then 1 else 0) := by
    by_cases h : (k : Int) = 0
    · rw [xt h]; exact Dl.mul_l (by decide) (by decide)
    · rw [xf h]; exact Dl.mul_l (by decide) (by decide)
  have up : ∀ {d : D}, RN 0 143 d → d.py.canLay0 = true → Vq k d := fun h l => ⟨h.mono (Nat.zero_le _) (wd_le k), l⟩
  have li : ∀ i : Int, (D.int i).py.canLay0 = true := fun i => by simp [D.py, PyData.canLay0]
  by_cases f0 : tk b (mX k) = 0
  · have s0 := tk_lo (b := nx b (mX k)) (m := 10 ^ 6) (by decide)
    have s1 := tk_hi (b := nx b (mX k)) (m := 10 ^ 6) (by decide)
    refine ⟨.int (tk (nx b (mX k)) (10 ^ 6) - 500000), _, o1.nx (10 ^ 6), up (RN.int (n := 140) ?_ (by decide)) (li _), rfl, And.intro hmul (call_ (take_c m0 m2 ok) (Br.tt (xt f0) ?_))⟩
    · refine Nat.lt_of_lt_of_le (show (tk (nx b (mX k)) (10 ^ 6) - 500000).natAbs < 2 ^ 30 by omega) (Nat.pow_le_pow_right (by decide) (by decide))
    · exact And.intro ⟨by decide, by decide, by decide⟩ (call_ (take_c (by decide) (by decide) o1) (And.intro rfl rfl))
  by_cases f1 : tk b (mX k) = 1
  · have s0 := tk_lo (b := nx b (mX k)) (m := 5) (by decide)
    have s1 := tk_hi (b := nx b (mX k)) (m := 5) (by decide)
    obtain ⟨ds, b', o', la, qa, h⟩ := lcW_all (p := .nm 3) (we := wTwo (wCon (.str "aZ 9-")) (wFn c__law_take (wCons (wName 0) (wCons (wCon (.int 5)) wNil))) ixW) (sl := [some (.cel 0), some (.dat (.int (k : Int))), some (.dat (.int (tk b (mX k)))), none, none]) (fun i : Nat => D.int (0 + (i : Int))) (fun d => ∃ x ∈ fivS, d = .str x) (List.range (tk (nx b (mX k)) 5).toNat) (nx (nx b (mX k)) 5) (o1.nx 5) (fun i _ b ok => by
      obtain ⟨x, e, hx⟩ := chr5 (tk_lo (b := b) (m := 5) (by decide)) (tk_hi (b := b) (m := 5) (by decide))
      exact ⟨_, nx b 5, .str ⟨#[x]⟩, rfl, ok.nx 5, ⟨_, hx, rfl⟩, fun R r => call_ (take_c (by decide) (by decide) ok) (And.intro (by decide +kernel) ⟨x, e, r⟩)⟩)
    rw [List.length_range] at la
    obtain ⟨ys, rfl, hy⟩ : ∃ ys : List Str, ds = ys.map D.str ∧ ∀ y ∈ ys, y ∈ fivS := by
      clear h la
      induction ds with
      | nil => exact ⟨[], rfl, (fun _ z => nomatch z)⟩
      | cons d ds ih =>
        obtain ⟨x, hx, rfl⟩ := qa d List.mem_cons_self
        obtain ⟨ys, rfl, hy⟩ := ih fun y hy => qa y (List.mem_cons_of_mem _ hy)
        exact ⟨x :: ys, rfl, fun y h => by
          rcases List.mem_cons.mp h with rfl | h
          · exact hx
          · exact hy y h⟩
    rw [List.length_map] at la
    obtain ⟨w1, w3, w2⟩ := words5_ok ys.length (by omega) ys (words5_mem hy)
    refine ⟨.str (Txt.join "" ys), b', o', up (rnS w1) w3, rfl, And.intro hmul (call_ (take_c m0 m2 ok) (Br.ff (xf f0) (Br.tt (xt f1) ?_)))⟩
    refine And.intro rfl (call_ (take_c (by decide) (by decide) o1) (And.intro (show SmI (tk (nx b (mX k)) 5) by unfold SmI; omega) (And.intro ?_ (h _ ?_))))
    · show ((List.range (tk (nx b (mX k)) 5).toNat).map fun i : Nat => D.int (0 + (i : Int))).length < sizeLine
      rw [List.length_map, List.length_range]
      exact Nat.lt_of_le_of_lt (show (tk (nx b (mX k)) 5).toNat ≤ 5 by omega) (by decide)
    · exact ⟨ys, rfl, w2, And.intro rfl rfl⟩
  by_cases f2 : tk b (mX k) = 2
  · have s0 := tk_lo (b := nx b (mX k)) (m := 3) (by decide)
    have s1 := tk_hi (b := nx b (mX k)) (m := 3) (by decide)
    obtain ⟨d, e, hd, hd2⟩ : ∃ d, atI [D.non, .bl true, .bl false] (tk (nx b (mX k)) 3) = some d ∧ RN 0 143 d ∧ d.py.canLay0 = true := by
      rcases (show tk (nx b (mX k)) 3 = 0 ∨ tk (nx b (mX k)) 3 = 1 ∨ tk (nx b (mX k)) 3 = 2 by omega) with e | e | e <;> rw [e]
      · exact ⟨.non, rfl, ⟨rfl, rfl, rfl, Nat.le_refl _, by decide⟩, by simp [D.py, PyData.canLay0]⟩
      · exact ⟨.bl true, rfl, ⟨rfl, rfl, rfl, Nat.le_refl _, by decide⟩, by simp [D.py, PyData.canLay0]⟩
      · exact ⟨.bl false, rfl, ⟨rfl, rfl, rfl, Nat.le_refl _, by decide⟩, by simp [D.py, PyData.canLay0]⟩
    refine ⟨d, _, o1.nx 3, up hd hd2, rfl, And.intro hmul (call_ (take_c m0 m2 ok) (Br.ff (xf f0) (Br.ff (xf f1) (Br.tt (xt f2) ?_))))⟩
    exact And.intro (szk 3) (call_ (take_c (by decide) (by decide) o1) (atW_i e (And.intro rfl rfl)))
  by_cases f3 : tk b (mX k) = 3
  · have s0 := tk_lo (b := nx b (mX k)) (m := 40) (by decide)
    have s1 := tk_hi (b := nx b (mX k)) (m := 40) (by decide)
    have z := zeros_ok ⟨(tk (nx b (mX k)) 40).toNat, by omega⟩
    dsimp only at z
    rw [show (((tk (nx b (mX k)) 40).toNat : Nat) : Int) = tk (nx b (mX k)) 40 by omega] at z
    obtain ⟨z1, z2, z3, z4, z5⟩ := z
    refine ⟨.int (9 * 10 ^ (tk (nx b (mX k)) 40).toNat), _, o1.nx 40, up (RN.int (n := 140) (nine_lt (by omega)) (by decide)) (li _), rfl, And.intro hmul (call_ (take_c m0 m2 ok) (Br.ff (xf f0) (Br.ff (xf f1) (Br.ff (xf f2) (Br.tt (xt f3) ?_)))))⟩
    refine call_ (take_c (by decide) (by decide) o1) (And.intro z1 (And.intro (show -1000 ≤ tk (nx b (mX k)) 40 ∧ tk (nx b (mX k)) 40 ≤ 1000 by omega) (And.intro (Nat.le_trans z2 (by decide)) (And.intro ?_ (And.intro z4 ⟨_, z5, And.intro rfl rfl⟩)))))
    exact Nat.le_trans (Nat.add_le_add z3 z2) (by decide)
  by_cases f4 : tk b (mX k) = 4
  · have s0 := tk_lo (b := nx b (mX k)) (m := 99) (by decide)
    have s1 := tk_hi (b := nx b (mX k)) (m := 99) (by decide)
    refine ⟨.int (0 - tk (nx b (mX k)) 99), _, o1.nx 99, up (RN.int (n := 140) ?_ (by decide)) (li _), rfl, And.intro hmul (call_ (take_c m0 m2 ok) (Br.ff (xf f0) (Br.ff (xf f1) (Br.ff (xf f2) (Br.ff (xf f3) (Br.tt (xt f4) ?_))))))⟩
    · refine Nat.lt_of_lt_of_le (show (0 - tk (nx b (mX k)) 99).natAbs < 2 ^ 30 by omega) (Nat.pow_le_pow_right (by decide) (by decide))
    · exact call_ (take_c (by decide) (by decide) o1) (And.intro rfl rfl)
  have hk0 : k ≠ 0 := fun z => by
    have := m5 (by omega)
    omega
  have s0 := tk_lo (b := nx b (mX k)) (m := 3) (by decide)
  have s1 := tk_hi (b := nx b (mX k)) (m := 3) (by decide)
  obtain ⟨ds, b', o', la, qa, h⟩ := lcW_all (p := .nm 3) (we := wFn rc (wCons (wName 0) (wCons (wTwo (wName 1) (wCon (.int 1)) subW) wNil))) (sl := [some (.cel 0), some (.dat (.int (k : Int))), some (.dat (.int (tk b (mX k)))), none, none]) (fun i : Nat => D.int (0 + (i : Int))) (fun d => Vq (k - 1) d) (List.range (tk (nx b (mX k)) 3).toNat) (nx (nx b (mX k)) 3) (o1.nx 3) (fun i _ b ok => by
    obtain ⟨d, b', o', hd, hc⟩ := ih hk0 b ok
    exact ⟨_, b', d, rfl, o', hd, fun R r => call_ hc r⟩)
  rw [List.length_range] at la
  have e1 : k = k - 1 + 1 := by omega
  obtain ⟨_, c2, _⟩ := okl_all fun d hd => (qa d hd).okn
  have rl : Vq k (.lst ds) := by
    have := RN.lst (m := 2) (fun d hd => (qa d hd).rn) (by omega)
    refine ⟨by rw [e1]; exact this, ?_⟩
    show PyData.canLay0 (.list (D.pys ds)) = true
    simpa [PyData.canLay0] using c2
  have rt : Vq k (.tup ds) := by
    have := RN.tup (m := 2) (fun d hd => (qa d hd).rn) (by omega)
    refine ⟨by rw [e1]; exact this, ?_⟩
    show PyData.canLay0 (.tuple (D.pys ds)) = true
    simpa [PyData.canLay0] using c2
  obtain ⟨d, e, hd⟩ : ∃ d, atI [D.lst ds, .tup ds] (tk b (mX k) - 5) = some d ∧ Vq k d := by
    rcases (show tk b (mX k) - 5 = 0 ∨ tk b (mX k) - 5 = 1 by omega) with e | e <;> rw [e]
    · exact ⟨_, rfl, rl⟩
    · exact ⟨_, rfl, rt⟩
  refine ⟨d, b', o', hd, rfl, And.intro hmul (call_ (take_c m0 m2 ok) (Br.ff (xf f0) (Br.ff (xf f1) (Br.ff (xf f2) (Br.ff (xf f3) (Br.ff (xf f4) ?_))))))⟩
  refine call_ (take_c (by decide) (by decide) o1) (And.intro (show SmI (tk (nx b (mX k)) 3) by unfold SmI; omega) (And.intro ?_ (h _ ?_)))
  · show ((List.range (tk (nx b (mX k)) 3).toNat).map fun i : Nat => D.int (0 + (i : Int))).length < sizeLine
    rw [List.length_map, List.length_range]
    exact Nat.lt_of_le_of_lt (show (tk (nx b (mX k)) 3).toNat ≤ 3 by omega) (by decide)
  · exact And.intro (szk 2) (atW_i e (And.intro rfl rfl))
end
theorem value0 {b : B} (ok : Ok b) : ∃ d b', Ok b' ∧ Vq 0 d ∧ c__law_value_ 1 [.cel 0, .dat (.int 0)] [bx b] (.dat d) [bx b'] := value_step (k := 0) (by decide) ok fun h => (h rfl).elim
theorem value1 {b : B} (ok : Ok b) : ∃ d b', Ok b' ∧ Vq 1 d ∧ c__law_value_ 2 [.cel 0, .dat (.int 1)] [bx b] (.dat d) [bx b'] := value_step (k := 1) (by decide) ok fun _ b ok => value0 ok
theorem value2 {b : B} (ok : Ok b) : ∃ d b', Ok b' ∧ Vq 2 d ∧ c__law_value [.cel 0, .dat (.int 2)] [bx b] (.dat d) [bx b'] := value_step (k := 2) (by decide) ok fun _ b ok => value1 ok

/-! ### errors made, kept, told apart -/
def captS (n : Nat) : Str := if n < 9 then "clash" else if n = 9 then "deed" else "key"
theorem caught_c (a b : D) : ∀ n : Fin 11, c__law_caught [.dat (.int ((n : Nat) : Int)), .dat a, .dat b] [] (.dat (.str (captS n))) []
  | ⟨0, _⟩ => ⟨rfl, Br.tt rfl (And.intro rfl fun _ _ => And.intro rfl rfl)⟩
  | ⟨1, _⟩ => ⟨rfl, Br.ff rfl (Br.tt rfl (And.intro rfl fun _ _ => And.intro rfl rfl))⟩
  | ⟨2, _⟩ => ⟨rfl, Br.ff rfl (Br.ff rfl (Br.tt rfl (And.intro rfl fun _ _ => And.intro rfl rfl)))⟩
  | ⟨3, _⟩ => ⟨rfl, Br.ff rfl (Br.ff rfl (Br.ff rfl (Br.tt rfl (And.intro rfl fun _ _ => And.intro rfl rfl))))⟩
  | ⟨4, _⟩ => ⟨rfl, Br.ff rfl (Br.ff rfl (Br.ff rfl (Br.ff rfl (Br.tt rfl (And.intro rfl fun _ _ => And.intro rfl rfl)))))⟩
  | ⟨5, _⟩ => ⟨rfl, Br.ff rfl (Br.ff rfl (Br.ff rfl (Br.ff rfl (Br.ff rfl (Br.tt rfl (And.intro rfl fun _ _ => And.intro rfl rfl))))))⟩
  | ⟨6, _⟩ => ⟨rfl, Br.ff rfl (Br.ff rfl (Br.ff rfl (Br.ff rfl (Br.ff rfl (Br.ff rfl (Br.tt rfl (And.intro rfl fun _ _ => And.intro rfl rfl)))))))⟩
  | ⟨7, _⟩ => ⟨rfl, Br.ff rfl (Br.ff rfl (Br.ff rfl (Br.ff rfl (Br.ff rfl (Br.ff rfl (Br.ff rfl (Br.tt rfl (And.intro rfl fun _ _ => And.intro rfl rfl))))))))⟩
  | ⟨8, _⟩ => ⟨rfl, Br.ff rfl (Br.ff rfl (Br.ff rfl (Br.ff rfl (Br.ff rfl (Br.ff rfl (Br.ff rfl (Br.ff rfl (Br.tt rfl (And.intro rfl fun _ _ => And.intro rfl rfl)))))))))⟩
  | ⟨9, _⟩ => ⟨rfl, Br.ff rfl (Br.ff rfl (Br.ff rfl (Br.ff rfl (Br.ff rfl (Br.ff rfl (Br.ff rfl (Br.ff rfl (Br.ff rfl (Br.tt rfl (And.intro rfl fun _ _ => And.intro rfl rfl))))))))))⟩
  | ⟨10, _⟩ => ⟨rfl, Br.ff rfl (Br.ff rfl (Br.ff rfl (Br.ff rfl (Br.ff rfl (Br.ff rfl (Br.ff rfl (Br.ff rfl (Br.ff rfl (Br.ff rfl (And.intro rfl fun _ _ => And.intro rfl rfl))))))))))⟩
def fdX (a b : D) : Nat → List (Str × D)
  | 1 => [("line", a)]
  | 2 => [("at", b), ("word", a)]
  | 3 => [("word", a)]
  | 4 => [("word", b)]
  | 5 => [("size", a)]
  | 6 => [("at", b)]
  | 8 => [("at", a)]
  | 9 => [("at", a)]
  | 10 => [("name", b)]
  | _ => []
def dueX (a b : D) : Nat → List D
  | 1 => [.str "line", a]
  | 2 => [.str "word", a, .str "at", b]
  | 3 => [.str "word", a]
  | 4 => [.str "word", b]
  | 5 => [.str "size", a]
  | 6 => [.str "at", b]
  | 8 => [.str "at", a]
  | 9 => [.str "at", a]
  | 10 => [.str "name", b]
  | _ => []
def clX (a b : D) (p : Nat → Addr) (i : Nat) : Cell := .exA (p i) (i + 2) (fdX a b i)
def csX (a b : D) (p : Nat → Addr) : List Cell := [clX a b p 0, clX a b p 1, clX a b p 2, clX a b p 3, clX a b p 4, clX a b p 5, clX a b p 6, clX a b p 7, clX a b p 8, clX a b p 9, clX a b p 10]
def rwX (a b : D) (p : Nat → Addr) (i : Nat) : D := .tup [.cls (p i), .tup (dueX a b i)]
def rsX (a b : D) (p : Nat → Addr) : List D := [rwX a b p 0, rwX a b p 1, rwX a b p 2, rwX a b p 3, rwX a b p 4, rwX a b p 5, rwX a b p 6, rwX a b p 7, rwX a b p 8, rwX a b p 9, rwX a b p 10]
def nsX (p : Nat → Addr) : List D := [.cls (p 0), .cls (p 1), .cls (p 2), .cls (p 3), .cls (p 4), .cls (p 5), .cls (p 6), .cls (p 7), .cls (p 8), .cls (p 9), .cls (p 10)]
section
variable {cs : List Cell} {R : RV} {a b : D} {ds es : List D}
theorem laddL (h : ds.length + es.length ≤ sizeLine) (q : R (.dat (.lst (ds ++ es))) cs) : liW2 addW (.dat (.lst ds)) (.dat (.lst es)) cs R := li2 (s3 := .dat (.lst (ds ++ es))) (fun _ q => And.intro h q) q
theorem errors_c (q : ∀ p : Nat → Addr, R (.dat (.lst (rsX a b p))) (cs ++ csX a b p)) : c__law_errors [.dat a, .dat b] cs R := by
  refine ⟨rfl, (?_ : w__law_errors _ ⟨[some (.dat a), some (.dat b), none], cs⟩ (endG R))⟩
  unfold w__law_errors wMkE
  try dsimp only [wConsS, wNilS, wAsg, wTwo, wOne, wName, wCon, wCb, wCons, wNil, wRetG, wTag, wSlcA, wO0, wO1, wIfS, wBl, wFn, wFnG, wSetFA, wFldA, wMethA0, wNotT, wOrT, wAndV, Dl.wTru, wLst, wTup, wDats, dats, isB, wSubA, wSetA, wSetLA, wExpr, wPar2, par2, wPar3, par3, wItems, itemsW, wRng1, wFor, endG, List.set_cons_zero, List.set_cons_succ, List.getElem?_cons_zero, List.getElem?_cons_succ, Option.map_some]
  refine ⟨rfl, fun x0 => ⟨szk 0, szk 2, rfl, fun x1 => ⟨szk 2, szk 2, rfl, fun x2 => ⟨szk 4, szk 2, szk 3, ?_⟩⟩⟩⟩
  refine ⟨rfl, fun x3 => ⟨szk 2, szk 2, rfl, fun x4 => ⟨szk 2, szk 2, rfl, fun x5 => ⟨szk 2, szk 2, szk 3, laddL (szk 6) ?_⟩⟩⟩⟩
  refine ⟨rfl, fun x6 => ⟨szk 2, szk 2, rfl, fun x7 => ⟨szk 0, szk 2, rfl, fun x8 => ⟨szk 2, szk 2, szk 3, laddL (szk 9) ?_⟩⟩⟩⟩
  refine ⟨rfl, fun x9 => ⟨szk 2, szk 2, rfl, fun x10 => ⟨szk 2, szk 2, szk 2, laddL (szk 11) ?_⟩⟩⟩
  have := q fun i => [x0, x1, x2, x3, x4, x5, x6, x7, x8, x9, x10].getD i 0
  simp only [List.append_assoc]
  exact this
end

/-! ### errors by name; what they keep; their classes -/
section
variable {cs : List Cell} {R : RV} {a b : D} {j : Nat} {p : Addr}
theorem named_c (q : ∀ p : Nat → Addr, R (.dat (.lst (nsX p))) (cs ++ csX a b p)) : c__law_named [.dat a, .dat b] cs R := by
  refine ⟨rfl, (?_ : w__law_named _ ⟨[some (.dat a), some (.dat b), none], cs⟩ (endG R))⟩
  unfold w__law_named wMkE wMkEk
  try dsimp only [wConsS, wNilS, wAsg, wTwo, wOne, wName, wCon, wCb, wCons, wNil, wRetG, wTag, wSlcA, wO0, wO1, wIfS, wBl, wFn, wFnG, wSetFA, wFldA, wMethA0, wNotT, wOrT, wAndV, Dl.wTru, wLst, wTup, wDats, dats, isB, wSubA, wSetA, wSetLA, wExpr, wPar2, par2, wPar3, par3, wItems, itemsW, wRng1, wFor, endG, List.set_cons_zero, List.set_cons_succ, List.getElem?_cons_zero, List.getElem?_cons_succ, Option.map_some]
  refine ⟨rfl, fun x0 => ⟨rfl, fun x1 => ⟨rfl, fun x2 => ⟨rfl, fun x3 => ⟨szk 4, ?_⟩⟩⟩⟩⟩
  refine ⟨rfl, fun x4 => ⟨rfl, fun x5 => ⟨rfl, fun x6 => ⟨rfl, fun x7 => ⟨szk 4, laddL (szk 8) ?_⟩⟩⟩⟩⟩
  refine ⟨rfl, fun x8 => ⟨rfl, fun x9 => ⟨rfl, fun x10 => ⟨szk 3, laddL (szk 11) ?_⟩⟩⟩⟩
  have := q fun i => [x0, x1, x2, x3, x4, x5, x6, x7, x8, x9, x10].getD i 0
  simp only [List.append_assoc]
  exact this
/-- isinstance, of an error that is known -/
theorem isX_l {m : Nat} {fs : List (Str × D)} {kb : Nat → Option Bool} {k : Bool} {w : WpE} {sl : Sls} {Rx : RX} (hc : cs[j]? = some (.exA p m fs)) (hm : m ∈ ns_all) (hk : kb m = some k) (hw : ∀ R' : RV, R' (.dat (.cls p)) cs → w sl cs R' Rx) (q : R (.dat (.bl k)) cs) : wIsiX ns_all kb w sl cs R Rx := by
  refine hw _ ⟨p, j, m, fs, ⟨rfl, hc, hm⟩, ?_⟩
  show optW (kb m) _
  rw [hk]
  exact q
theorem fldX_l {ns : List Nat} {f : Str} {m : Nat} {d : D} {fs : List (Str × D)} {w : WpE} {sl : Sls} {Rx : RX} (hc : cs[j]? = some (.exA p m fs)) (hm : m ∈ ns) (hk : fs.lookup f = some d) (hw : ∀ R' : RV, R' (.dat (.cls p)) cs → w sl cs R' Rx) (q : R (.dat d) cs) : wFldX ns f w sl cs R Rx :=
  hw _ ⟨p, j, m, fs, ⟨rfl, hc, hm⟩, d, hk, q⟩
theorem mem_all {i : Nat} (h : i < 11) : i + 2 ∈ ns_all := by
  unfold ns_all
  have : i = 0 ∨ i = 1 ∨ i = 2 ∨ i = 3 ∨ i = 4 ∨ i = 5 ∨ i = 6 ∨ i = 7 ∨ i = 8 ∨ i = 9 ∨ i = 10 := by omega
  rcases this with rfl | rfl | rfl | rfl | rfl | rfl | rfl | rfl | rfl | rfl | rfl <;> simp
def rowB (i : Nat) : List Bool := [decide (i = 0), decide (i = 1), decide (i = 2), decide (i = 3), decide (i = 4), decide (i = 5), decide (i = 6), decide (i = 7), decide (i = 8), decide (i = 9), decide (i = 10), decide (i < 9), decide (i < 9), decide (i = 9), decide (i = 10)]
theorem classes_c {i : Nat} {fs : List (Str × D)} (hi : i < 11) (hc : cs[j]? = some (.exA p (i + 2) fs)) (q : R (.dat (.lst ((rowB i).map D.bl))) cs) : c__law_classes [.dat (.cls p)] cs R := by
  refine ⟨rfl, (?_ : w__law_classes _ ⟨[some (.dat (.cls p)), none], cs⟩ (endG R))⟩
  have hm := mem_all hi
  have k : (kt_InvalidForm (i + 2) = some (decide (i = 0)) ∧ kt_InvalidText (i + 2) = some (decide (i = 1)) ∧ kt_InvalidPiece (i + 2) = some (decide (i = 2)) ∧ kt_InvalidCount (i + 2) = some (decide (i = 3)) ∧ kt_InvalidSizes (i + 2) = some (decide (i = 4)) ∧ kt_InvalidSize (i + 2) = some (decide (i = 5)))
      ∧ (kt_NotReversible (i + 2) = some (decide (i = 6)) ∧ kt_InvalidCommand (i + 2) = some (decide (i = 7)) ∧ kt_Refused (i + 2) = some (decide (i = 8)) ∧ kt_NoDeed (i + 2) = some (decide (i = 9)) ∧ kt_UnknownName (i + 2) = some (decide (i = 10)))
      ∧ kt_ClashError (i + 2) = some (decide (i < 9)) ∧ kt_ValueError (i + 2) = some (decide (i < 9)) ∧ kt_IndexError (i + 2) = some (decide (i = 9)) ∧ kt_KeyError (i + 2) = some (decide (i = 10)) := by
    have : i = 0 ∨ i = 1 ∨ i = 2 ∨ i = 3 ∨ i = 4 ∨ i = 5 ∨ i = 6 ∨ i = 7 ∨ i = 8 ∨ i = 9 ∨ i = 10 := by omega
    rcases this with rfl | rfl | rfl | rfl | rfl | rfl | rfl | rfl | rfl | rfl | rfl <;> decide
  obtain ⟨⟨k0, k1, k2, k3, k4, k5⟩, ⟨k6, k7, k8, k9, k10⟩, k11, k12, k13, k14⟩ := k
  unfold w__law_classes
  try dsimp only [wConsS, wNilS, wAsg, wTwo, wName, wCons, wNil, wRetG, wLst, wDats, dats, endG, List.set_cons_zero, List.set_cons_succ, List.getElem?_cons_zero, List.getElem?_cons_succ, Option.map_some]
  refine isX_l hc hm k0 (fun _ h => h) ?_
  refine isX_l hc hm k1 (fun _ h => h) ?_
  refine isX_l hc hm k2 (fun _ h => h) ?_
  refine ⟨szk 3, ?_⟩
  refine isX_l hc hm k3 (fun _ h => h) ?_
  refine isX_l hc hm k4 (fun _ h => h) ?_
  refine isX_l hc hm k5 (fun _ h => h) ?_
  refine ⟨szk 3, laddL (szk 6) ?_⟩
  refine isX_l hc hm k6 (fun _ h => h) ?_
  refine isX_l hc hm k7 (fun _ h => h) ?_
  refine isX_l hc hm k8 (fun _ h => h) ?_
  refine ⟨szk 3, laddL (szk 9) ?_⟩
  refine isX_l hc hm k9 (fun _ h => h) ?_
  refine isX_l hc hm k10 (fun _ h => h) ?_
  refine ⟨szk 2, laddL (szk 11) ?_⟩
  refine isX_l hc hm k11 (fun _ h => h) ?_
  refine isX_l hc hm k12 (fun _ h => h) ?_
  refine ⟨szk 2, laddL (szk 13) ?_⟩
  refine isX_l hc hm k13 (fun _ h => h) ?_
  refine isX_l hc hm k14 (fun _ h => h) ?_
  refine ⟨szk 2, laddL (szk 15) ?_⟩
  exact q
theorem kept_c {i : Nat} (hi : i < 11) (hc : cs[j]? = some (.exA p (i + 2) (fdX a b i))) (q : R (.dat (.tup (dueX a b i))) cs) : c__law_kept [.dat (.cls p)] cs R := by
  refine ⟨rfl, (?_ : w__law_kept _ ⟨[some (.dat (.cls p))], cs⟩ (endG R))⟩
  have hm := mem_all hi
  have k : kt_InvalidPiece (i + 2) = some (decide (i = 2)) ∧ kt_InvalidText (i + 2) = some (decide (i = 1)) ∧ kt_InvalidCount_or_InvalidSizes (i + 2) = some (decide (i = 3 ∨ i = 4)) ∧ kt_InvalidSize (i + 2) = some (decide (i = 5)) ∧ kt_NotReversible_Refused_NoDeed (i + 2) = some (decide (i = 6 ∨ i = 8 ∨ i = 9)) ∧ kt_UnknownName (i + 2) = some (decide (i = 10)) := by
    have : i = 0 ∨ i = 1 ∨ i = 2 ∨ i = 3 ∨ i = 4 ∨ i = 5 ∨ i = 6 ∨ i = 7 ∨ i = 8 ∨ i = 9 ∨ i = 10 := by omega
    rcases this with rfl | rfl | rfl | rfl | rfl | rfl | rfl | rfl | rfl | rfl | rfl <;> decide
  obtain ⟨k2, k1, k34, k5, k689, k10⟩ := k
  unfold w__law_kept wIf
  try dsimp only [wConsS, wNilS, wIfS, Dl.wTru, wTup, wCon, wCons, wNil, wRetG, wDats, dats, endG]
  refine isX_l hc hm k2 (fun _ h => h) ?_
  by_cases i2 : i = 2
  · subst i2
    refine Br.tt rfl (fldX_l hc (by unfold ns_word; simp) (d := a) rfl (fun _ h => h) ?_)
    exact fldX_l hc (by unfold ns_at; simp) (d := b) rfl (fun _ h => h) (And.intro (szk 4) q)
  refine Br.ff (decide_eq_false i2) (isX_l hc hm k1 (fun _ h => h) ?_)
  by_cases i1 : i = 1
  · subst i1
    exact Br.tt rfl (fldX_l hc (by unfold ns_line; simp) (d := a) rfl (fun _ h => h) (And.intro (szk 2) q))
  refine Br.ff (decide_eq_false i1) (isX_l hc hm k34 (fun _ h => h) ?_)
  by_cases i3 : i = 3 ∨ i = 4
  · refine Br.tt (decide_eq_true i3) ?_
    rcases i3 with rfl | rfl
    · exact fldX_l hc (by unfold ns_word; simp) (d := a) rfl (fun _ h => h) (And.intro (szk 2) q)
    · exact fldX_l hc (by unfold ns_word; simp) (d := b) rfl (fun _ h => h) (And.intro (szk 2) q)
  refine Br.ff (decide_eq_false i3) (isX_l hc hm k5 (fun _ h => h) ?_)
  by_cases i5 : i = 5
  · subst i5
    exact Br.tt rfl (fldX_l hc (by unfold ns_size; simp) (d := a) rfl (fun _ h => h) (And.intro (szk 2) q))
  refine Br.ff (decide_eq_false i5) (isX_l hc hm k689 (fun _ h => h) ?_)
  by_cases i6 : i = 6 ∨ i = 8 ∨ i = 9
  · refine Br.tt (decide_eq_true i6) ?_
    rcases i6 with rfl | rfl | rfl
    · exact fldX_l hc (by unfold ns_at; simp) (d := b) rfl (fun _ h => h) (And.intro (szk 2) q)
    · exact fldX_l hc (by unfold ns_at; simp) (d := a) rfl (fun _ h => h) (And.intro (szk 2) q)
    · exact fldX_l hc (by unfold ns_at; simp) (d := a) rfl (fun _ h => h) (And.intro (szk 2) q)
  refine Br.ff (decide_eq_false i6) (isX_l hc hm k10 (fun _ h => h) ?_)
  by_cases i10 : i = 10
  · subst i10
    exact Br.tt rfl (fldX_l hc (by unfold ns_name; simp) (d := b) rfl (fun _ h => h) (And.intro (szk 2) q))
  refine Br.ff (decide_eq_false i10) (And.intro (szk 0) ?_)
  have e : i = 0 ∨ i = 7 := by omega
  rcases e with rfl | rfl <;> exact q
end

/-! ### one error looked at; one row -/
theorem rsX_get {a b : D} {p : Nat → Addr} {k : Nat} {x : D} (h : (rsX a b p)[k]? = some x) : k < 11 ∧ x = rwX a b p k := by
  have l : k < 11 := (List.getElem?_eq_some_iff.mp h).1
  have : k = 0 ∨ k = 1 ∨ k = 2 ∨ k = 3 ∨ k = 4 ∨ k = 5 ∨ k = 6 ∨ k = 7 ∨ k = 8 ∨ k = 9 ∨ k = 10 := by omega
  refine ⟨l, ?_⟩
  rcases this with rfl | rfl | rfl | rfl | rfl | rfl | rfl | rfl | rfl | rfl | rfl <;> exact (Option.some.inj h).symm
theorem nsX_at {p : Nat → Addr} {k : Nat} (h : k < 11) : atI (nsX p) (k : Int) = some (.cls (p k)) := by
  have : k = 0 ∨ k = 1 ∨ k = 2 ∨ k = 3 ∨ k = 4 ∨ k = 5 ∨ k = 6 ∨ k = 7 ∨ k = 8 ∨ k = 9 ∨ k = 10 := by omega
  rcases this with rfl | rfl | rfl | rfl | rfl | rfl | rfl | rfl | rfl | rfl | rfl <;> rfl
theorem csX_at {a b : D} {p : Nat → Addr} {k : Nat} (h : k < 11) : (csX a b p)[k]? = some (clX a b p k) := by
  have : k = 0 ∨ k = 1 ∨ k = 2 ∨ k = 3 ∨ k = 4 ∨ k = 5 ∨ k = 6 ∨ k = 7 ∨ k = 8 ∨ k = 9 ∨ k = 10 := by omega
  rcases this with rfl | rfl | rfl | rfl | rfl | rfl | rfl | rfl | rfl | rfl | rfl <;> rfl
theorem capt_at {k : Nat} (h : k < 11) : atI ((List.replicate (9 : Int).toNat [D.str "clash"]).flatten ++ [.str "deed", .str "key"]) (k : Int) = some (.str (captS k)) := by
  have : k = 0 ∨ k = 1 ∨ k = 2 ∨ k = 3 ∨ k = 4 ∨ k = 5 ∨ k = 6 ∨ k = 7 ∨ k = 8 ∨ k = 9 ∨ k = 10 := by omega
  rcases this with rfl | rfl | rfl | rfl | rfl | rfl | rfl | rfl | rfl | rfl | rfl <;> rfl
def ownX (k : Nat) : List D := (List.range 11).map fun j : Nat => D.bl (false.xor (decide ((k : Int) = 0 + (j : Int))))
def undX (k : Nat) : List D := [.bl (decide ((k : Int) < 9)), .bl (decide ((k : Int) < 9)), .bl (false.xor (decide ((k : Int) = 9))), .bl (false.xor (decide ((k : Int) = 10)))]
theorem ownX_eq {k : Nat} (h : k < 11) : ownX k ++ undX k = (rowB k).map D.bl := by
  have : k = 0 ∨ k = 1 ∨ k = 2 ∨ k = 3 ∨ k = 4 ∨ k = 5 ∨ k = 6 ∨ k = 7 ∨ k = 8 ∨ k = 9 ∨ k = 10 := by omega
  rcases this with rfl | rfl | rfl | rfl | rfl | rfl | rfl | rfl | rfl | rfl | rfl <;> rfl
theorem okN_bl (b : Bool) : okN 0 (.bl b) := ⟨rfl, by simp [D.py, PyData.canLay0], Nat.le_refl _⟩
theorem ok_row (k : Nat) : okD (.lst ((rowB k).map D.bl)) = true := ok_lst (k := 0) (fun d hd => by
  obtain ⟨b, _, rfl⟩ := List.mem_map.mp hd
  exact okN_bl b) (by decide)
theorem due_rn {a b : D} (ha : Vq 2 a) (hb : Vq 2 b) (k : Nat) : RN 3 (4 * (wd01 2 + 2) + 3) (.tup (dueX a b k)) := by
  have st : ∀ {x : Str}, (PySem.reprText x).length ≤ 143 → RN 2 (wd01 2) (.str x) := fun h => (rnS h).mono (by decide) (wd_le 2)
  refine RN.tup (k := 2) (m := 4) (fun d hd => ?_) ?_
  · unfold dueX at hd
    split at hd <;> simp only [List.mem_cons, List.not_mem_nil, or_false] at hd
    · rcases hd with rfl | rfl; exact st (by decide +kernel); exact ha.rn
    · rcases hd with rfl | rfl | rfl | rfl; exact st (by decide +kernel); exact ha.rn; exact st (by decide +kernel); exact hb.rn
    · rcases hd with rfl | rfl; exact st (by decide +kernel); exact ha.rn
    · rcases hd with rfl | rfl; exact st (by decide +kernel); exact hb.rn
    · rcases hd with rfl | rfl; exact st (by decide +kernel); exact ha.rn
    · rcases hd with rfl | rfl; exact st (by decide +kernel); exact hb.rn
    · rcases hd with rfl | rfl; exact st (by decide +kernel); exact ha.rn
    · rcases hd with rfl | rfl; exact st (by decide +kernel); exact ha.rn
    · rcases hd with rfl | rfl; exact st (by decide +kernel); exact hb.rn
  · unfold dueX
    split <;> simp
section
variable {cs : List Cell} {R : RV} {a b : D} {j i : Nat} {p q : Nat → Addr} {P : PJ} {s0 s1 s2 s5 s6 s8 s9 s10 s11 s12 s13 s14 : Option Sl}
theorem repr_l {ds : List D} {k w : Nat} (h : RN k w (.tup ds)) (hk : k ≤ 60) (hw : w ≤ 16777216) (q : R (.dat (.str (rprD (.tup ds)))) cs) : liWC reprLW [.dat (.tup ds)] cs R :=
  li1 (s2 := .dat (.str (rprD (.tup ds)))) (fun _ q => ⟨h.ok hk, h.len hw, q⟩) q
theorem leqL {d1 d2 : D} {neg : Bool} {ds es : List D} (e1 : d1 = .lst ds) (e2 : d2 = .lst es) (h1 : okD d1 = true) (h2 : okD d2 = true) (q : R (.dat (.bl (neg.xor (eqD d1 d2)))) cs) : liW2 (eqW neg) (.dat d1) (.dat d2) cs R := by
  subst e1 e2
  exact li2 (s3 := .dat (.bl (neg.xor (eqD (.lst ds) (.lst es))))) (fun _ q => ⟨h1, h2, q⟩) q
theorem one_l (hi : i < 11) (ha : Vq 2 a) (hb : Vq 2 b) {r : Addr} (hc : cs[j]? = some (.exA r (i + 2) (fdX a b i)))
    (hq : P.nx ⟨[s0, s1, s2, some (.dat a), some (.dat b), s5, s6, some (.dat (.int (i : Int))), s8, some (.dat (.tup (dueX a b i))), some (.dat (.lst (ownX i))), s11, some (.dat (.lst (undX i))), some (.dat (.cls r)), s14], cs⟩) :
    wConsS (wIfS (wOrT (wBl (wTwo (wCb (wCons (wFnG c__law_kept (wCons (wName 13) wNil)) wNil) (liWC reprLW)) (wCb (wCons (wName 9) wNil) (liWC reprLW)) (liW2 (eqW true)))) (wBl (wTwo (wFnG c__law_classes (wCons (wName 13) wNil)) (wTwo (wName 10) (wName 12) (liW2 addW)) (liW2 (eqW true)))))
      (wConsS (wRetG (wCon (.bl false))) wNilS) wNilS) wNilS ⟨[s0, s1, s2, some (.dat a), some (.dat b), s5, s6, some (.dat (.int (i : Int))), s8, some (.dat (.tup (dueX a b i))), some (.dat (.lst (ownX i))), s11, some (.dat (.lst (undX i))), some (.dat (.cls r)), s14], cs⟩ P := by
  try dsimp only [wConsS, wNilS, wAsg, wTwo, wOne, wName, wCon, wCb, wCons, wNil, wRetG, wTag, wSlcA, wO0, wO1, wIfS, wBl, wFn, wFnG, wSetFA, wFldA, wMethA0, wNotT, wOrT, wAndV, Dl.wTru, wLst, wTup, wDats, dats, isB, wSubA, wSetA, wSetLA, wExpr, wPar2, par2, wPar3, par3, wItems, itemsW, wRng1, wFor, endG, List.set_cons_zero, List.set_cons_succ, List.getElem?_cons_zero, List.getElem?_cons_succ, Option.map_some]
  refine kept_c hi hc ?_
  have rn := due_rn ha hb i
  refine repr_l rn (by decide) (by decide) ?_
  refine repr_l rn (by decide) (by decide) ?_
  refine leqS ?_
  refine Br.ff (by simp) ?_
  refine classes_c hi hc ?_
  refine laddL (by unfold ownX; rw [List.length_map, List.length_range]; exact szk 15) ?_
  rw [ownX_eq hi]
  refine leqL rfl rfl (ok_row i) (ok_row i) ?_
  rw [eqD_refl (ok_row i)]
  exact Br.ff rfl hq
end

/-! ### a row -/
section
variable {cs : List Cell} {R : RV} {a b : D} {m i n1 n2 : Nat} {p q : Nat → Addr} {P : PJ} {s0 s1 s2 s5 s6 s7 s8 s9 s10 s11 s12 s13 s14 : Option Sl}
theorem spot_l (hi : i < 11) (ha : Vq 2 a) (hb : Vq 2 b) (h1 : ∀ k < 11, cs[n1 + k]? = some (clX a b p k)) (h2 : ∀ k < 11, cs[n2 + k]? = some (clX a b q k))
    (hq : ∀ s10 s11 s12 s13, P.nx ⟨[s0, s1, s2, some (.dat a), some (.dat b), some (.dat (.lst (rsX a b p))), some (.dat (.lst (nsX q))), some (.dat (.int (i : Int))), some (.dat (.cls (p i))), some (.dat (.tup (dueX a b i))), s10, s11, s12, s13, s14], cs⟩) :
    w_law_spot m ⟨[s0, s1, s2, some (.dat a), some (.dat b), some (.dat (.lst (rsX a b p))), some (.dat (.lst (nsX q))), some (.dat (.int (i : Int))), some (.dat (.cls (p i))), some (.dat (.tup (dueX a b i))), s10, s11, s12, s13, s14], cs⟩ P := by
  unfold w_law_spot
  refine consS_i (S' := ⟨[s0, s1, s2, some (.dat a), some (.dat b), some (.dat (.lst (rsX a b p))), some (.dat (.lst (nsX q))), some (.dat (.int (i : Int))), some (.dat (.cls (p i))), some (.dat (.tup (dueX a b i))), some (.dat (.lst (ownX i))), s11, s12, s13, s14], cs⟩) (fun P' hP => ?_) ?_
  · unfold wAsg wLc wRng1
    try dsimp only [wConsS, wNilS, wAsg, wTwo, wOne, wName, wCon, wCb, wCons, wNil, wRetG, wTag, wSlcA, wO0, wO1, wIfS, wBl, wFn, wFnG, wSetFA, wFldA, wMethA0, wNotT, wOrT, wAndV, Dl.wTru, wLst, wTup, wDats, dats, isB, wSubA, wSetA, wSetLA, wExpr, wPar2, par2, wPar3, par3, wItems, itemsW, wRng1, wFor, endG, List.set_cons_zero, List.set_cons_succ, List.getElem?_cons_zero, List.getElem?_cons_succ, Option.map_some]
    refine len_l ls_d ?_
    refine And.intro (show SmI (((rsX a b p).length : Nat) : Int) by unfold SmI rsX; simp) (And.intro ?_ ?_)
    · show ((List.range (((rsX a b p).length : Nat) : Int).toNat).map fun i : Nat => D.int (0 + (i : Int))).length < sizeLine
      rw [List.length_map, List.length_range]
      exact (show (11 : Nat) < 16777216 by decide)
    · show lcW (.nm 11) wYes _ _ ((List.range 11).map fun j : Nat => D.int (0 + (j : Int))) cs _
      exact lcW_map (fun j : Nat => D.int (0 + (j : Int))) (fun j : Nat => D.bl (false.xor (decide ((i : Int) = 0 + (j : Int))))) (fun j _ => ⟨_, rfl, fun R' h' => leqI h'⟩) hP
  refine consS_i (S' := ⟨[s0, s1, s2, some (.dat a), some (.dat b), some (.dat (.lst (rsX a b p))), some (.dat (.lst (nsX q))), some (.dat (.int (i : Int))), some (.dat (.cls (p i))), some (.dat (.tup (dueX a b i))), some (.dat (.lst (ownX i))), s11, some (.dat (.lst (undX i))), s13, s14], cs⟩) (fun P' hP => ?_) ?_
  · try dsimp only [wConsS, wNilS, wAsg, wTwo, wOne, wName, wCon, wCb, wCons, wNil, wRetG, wTag, wSlcA, wO0, wO1, wIfS, wBl, wFn, wFnG, wSetFA, wFldA, wMethA0, wNotT, wOrT, wAndV, Dl.wTru, wLst, wTup, wDats, dats, isB, wSubA, wSetA, wSetLA, wExpr, wPar2, par2, wPar3, par3, wItems, itemsW, wRng1, wFor, endG, List.set_cons_zero, List.set_cons_succ, List.getElem?_cons_zero, List.getElem?_cons_succ, Option.map_some]
    refine li2 (s3 := .dat (.bl (decide ((i : Int) < 9)))) (fun _ q => q) (li2 (s3 := .dat (.bl (decide ((i : Int) < 9)))) (fun _ q => q) (leqI (leqI ⟨szk 4, hP⟩)))
  refine consS_q (S' := fun z : Option Sl => ⟨[s0, s1, s2, some (.dat a), some (.dat b), some (.dat (.lst (rsX a b p))), some (.dat (.lst (nsX q))), some (.dat (.int (i : Int))), some (.dat (.cls (p i))), some (.dat (.tup (dueX a b i))), some (.dat (.lst (ownX i))), s11, some (.dat (.lst (undX i))), z, s14], cs⟩) (Q := fun _ => True) (fun P' hP => ?_) fun z _ => ?_
  · unfold wFor wItems wTup
    try dsimp only [wCons, wNil, wName, wTwo, wDats, dats, List.getElem?_cons_zero, List.getElem?_cons_succ, Option.map_some]
    refine lix (nsX_at hi) ⟨szk 2, ?_⟩
    refine forW_ind (fun S => ∃ z, S = ⟨[s0, s1, s2, some (.dat a), some (.dat b), some (.dat (.lst (rsX a b p))), some (.dat (.lst (nsX q))), some (.dat (.int (i : Int))), some (.dat (.cls (p i))), some (.dat (.tup (dueX a b i))), some (.dat (.lst (ownX i))), s11, some (.dat (.lst (undX i))), z, s14], cs⟩) [.cls (p i), .cls (q i)] ?_ (fun S hS => by
      obtain ⟨z, rfl⟩ := hS
      exact hP z trivial) _ ⟨s13, rfl⟩
    intro it hit S hS nx' hnx
    obtain ⟨z, rfl⟩ := hS
    rcases (show it = .cls (p i) ∨ it = .cls (q i) by simpa using hit) with rfl | rfl
    · refine asgW_i rfl ?_
      exact one_l (j := n1 + i) hi ha hb (h1 i hi) (hnx _ ⟨_, rfl⟩)
    · refine asgW_i rfl ?_
      exact one_l (j := n2 + i) hi ha hb (h2 i hi) (hnx _ ⟨_, rfl⟩)
  unfold wFnX
  try dsimp only [wConsS, wNilS, wAsg, wTwo, wOne, wName, wCon, wCb, wCons, wNil, wRetG, wTag, wSlcA, wO0, wO1, wIfS, wBl, wFn, wFnG, wSetFA, wFldA, wMethA0, wNotT, wOrT, wAndV, Dl.wTru, wLst, wTup, wDats, dats, isB, wSubA, wSetA, wSetLA, wExpr, wPar2, par2, wPar3, par3, wItems, itemsW, wRng1, wFor, endG, List.set_cons_zero, List.set_cons_succ, List.getElem?_cons_zero, List.getElem?_cons_succ, Option.map_some]
  refine .inl (call_ (caught_c a b ⟨i, hi⟩) ?_)
  unfold aft
  dsimp only
  refine And.intro (szk 1) ?_
  refine li2 (s3 := .dat (.lst (List.replicate (9 : Int).toNat [D.str "clash"]).flatten)) (fun _ q => ⟨⟨by decide, by decide, szk 9⟩, q⟩) ?_
  refine And.intro (szk 2) ?_
  refine laddL (szk 11) ?_
  refine lix (capt_at hi) ?_
  refine leqS ?_
  exact Br.ff (by simp) (hq _ _ _ _)
end

/-! ### the law of errors -/
section
variable {cs : List Cell} {R : RV} {a b : D} {j m i n1 n2 : Nat} {p q : Nat → Addr} {P : PJ} {s0 s1 s2 s3 s4 s5 s6 s7 s8 s9 s10 s11 s12 s13 s14 : Option Sl} {ns : List Int}
theorem leqA {r : Addr} {ds : List D} {neg : Bool} (h : cs[j]? = some (.lstA r ds)) (ok : okD (.lst ds) = true) (q : R (.dat (.bl (neg.xor (eqD (.lst ds) (.lst ds))))) cs) : liW2 (eqLW neg) (.dat (.cls r)) (.dat (.cls r)) cs R := by
  have e : lstOf (cs.map vwC) (.cel j) = some ds := by
    show (match (cs.map vwC)[j]? with
      | some (.lst ds) => some ds
      | _ => none) = some ds
    rw [vw_at h]
    rfl
  exact ⟨.cel j, .cel j, .de h rfl, .de h rfl, wL_l e (wL_l e ⟨ok, ok, rw_ (P := R (.dat (.bl (neg.xor (eqD (.lst ds) (.lst ds)))))) q⟩)⟩
theorem given_l (ha : Vq 2 a) (hb : Vq 2 b) (hq : ∀ cs' s8 s14, P.nx ⟨[s0, s1, s2, some (.dat a), some (.dat b), s5, s6, s7, s8, s9, s10, s11, s12, s13, s14], cs'⟩) :
    w_law_given m ⟨[s0, s1, s2, some (.dat a), some (.dat b), s5, s6, s7, s8, s9, s10, s11, s12, s13, s14], cs⟩ P := by
  have ok : okD (.lst [a, b]) = true := ok_lst (k := 2) (fun d hd => by
    rcases (show d = a ∨ d = b by simpa using hd) with rfl | rfl
    · exact ha.okn
    · exact hb.okn) (by decide)
  unfold w_law_given
  refine consS_q (S' := fun r : Addr => ⟨[s0, s1, s2, some (.dat a), some (.dat b), s5, s6, s7, s8, s9, s10, s11, s12, s13, some (.dat (.cls r))], cs ++ [.lstA r [a]]⟩) (Q := fun _ => True) (fun P' hP => ?_) fun r _ => ?_
  · unfold wLstC
    try dsimp only [wConsS, wNilS, wAsg, wTwo, wOne, wName, wCon, wCb, wCons, wNil, wRetG, wTag, wSlcA, wO0, wO1, wIfS, wBl, wFn, wFnG, wSetFA, wFldA, wMethA0, wNotT, wOrT, wAndV, Dl.wTru, wLst, wTup, wDats, dats, isB, wSubA, wSetA, wSetLA, wExpr, wPar2, par2, wPar3, par3, wItems, itemsW, wRng1, wFor, endG, List.set_cons_zero, List.set_cons_succ, List.getElem?_cons_zero, List.getElem?_cons_succ, Option.map_some]
    exact ⟨szk 1, tag_l fun r => hP r trivial⟩
  refine consS_q (S' := fun x : Addr => ⟨[s0, s1, s2, some (.dat a), some (.dat b), s5, s6, s7, some (.dat (.cls x)), s9, s10, s11, s12, s13, some (.dat (.cls r))], cs ++ [.lstA r [a], .exA x 3 [("line", .cls r)]]⟩) (Q := fun _ => True) (fun P' hP => ?_) fun x _ => ?_
  · unfold wMkE
    try dsimp only [wConsS, wNilS, wAsg, wTwo, wOne, wName, wCon, wCb, wCons, wNil, wRetG, wTag, wSlcA, wO0, wO1, wIfS, wBl, wFn, wFnG, wSetFA, wFldA, wMethA0, wNotT, wOrT, wAndV, Dl.wTru, wLst, wTup, wDats, dats, isB, wSubA, wSetA, wSetLA, wExpr, wPar2, par2, wPar3, par3, wItems, itemsW, wRng1, wFor, endG, List.set_cons_zero, List.set_cons_succ, List.getElem?_cons_zero, List.getElem?_cons_succ, Option.map_some]
    refine ⟨rfl, fun x => ?_⟩
    have := hP x trivial
    rw [List.append_assoc]
    exact this
  refine consS_i (S' := ⟨[s0, s1, s2, some (.dat a), some (.dat b), s5, s6, s7, some (.dat (.cls x)), s9, s10, s11, s12, s13, some (.dat (.cls r))], cs ++ [.lstA r [a, b], .exA x 3 [("line", .cls r)]]⟩) (fun P' hP => ?_) ?_
  · unfold wAppA
    try dsimp only [wConsS, wNilS, wAsg, wTwo, wOne, wName, wCon, wCb, wCons, wNil, wRetG, wTag, wSlcA, wO0, wO1, wIfS, wBl, wFn, wFnG, wSetFA, wFldA, wMethA0, wNotT, wOrT, wAndV, Dl.wTru, wLst, wTup, wDats, dats, isB, wSubA, wSetA, wSetLA, wExpr, wPar2, par2, wPar3, par3, wItems, itemsW, wRng1, wFor, endG, List.set_cons_zero, List.set_cons_succ, List.getElem?_cons_zero, List.getElem?_cons_succ, Option.map_some]
    refine ⟨⟨r, cs.length, [a], rfl, at0⟩, r, cs.length, [a], b, ⟨rfl, rfl⟩, at0, (show (1 : Nat) < 16777216 by decide), ?_⟩
    rw [set0]
    exact hP
  have e0 : (cs ++ [.lstA r [a, b], .exA x 3 [("line", .cls r)]])[cs.length]? = some (.lstA r [a, b]) := at0
  have e1 : (cs ++ [.lstA r [a, b], .exA x 3 [("line", .cls r)]])[cs.length + 1]? = some (.exA x 3 [("line", .cls r)]) := at1
  try dsimp only [wConsS, wNilS, wAsg, wTwo, wOne, wName, wCon, wCb, wCons, wNil, wRetG, wTag, wSlcA, wO0, wO1, wIfS, wBl, wFn, wFnG, wSetFA, wFldA, wMethA0, wNotT, wOrT, wAndV, Dl.wTru, wLst, wTup, wDats, dats, isB, wSubA, wSetA, wSetLA, wExpr, wPar2, par2, wPar3, par3, wItems, itemsW, wRng1, wFor, endG, List.set_cons_zero, List.set_cons_succ, List.getElem?_cons_zero, List.getElem?_cons_succ, Option.map_some]
  refine fldX_l e1 (by unfold ns_line; simp) (d := .cls r) rfl (fun _ h => h) ?_
  refine leqA e0 ok ?_
  rw [eqD_refl ok]
  refine Br.ff rfl ?_
  refine fldX_l e1 (by unfold ns_line; simp) (d := .cls r) rfl (fun _ h => h) ?_
  refine len_l (ls_a e0) ?_
  refine leqI ?_
  exact Br.ff rfl (hq _ _ _)
theorem spots_l (ha : Vq 2 a) (hb : Vq 2 b) (h1 : ∀ k < 11, cs[n1 + k]? = some (clX a b p k)) (h2 : ∀ k < 11, cs[n2 + k]? = some (clX a b q k))
    (hq : ∀ cs' s5 s6 s7 s8 s9 s10 s11 s12 s13 s14, P.nx ⟨[s0, s1, s2, some (.dat a), some (.dat b), s5, s6, s7, s8, s9, s10, s11, s12, s13, s14], cs'⟩) :
    w_law_spots m ⟨[s0, s1, s2, some (.dat a), some (.dat b), some (.dat (.lst (rsX a b p))), some (.dat (.lst (nsX q))), s7, s8, s9, s10, s11, s12, s13, s14], cs⟩ P := by
  unfold w_law_spots
  refine consS_q (S' := fun S : Sta => S) (Q := fun S => ∃ s7 s8 s9 s10 s11 s12 s13, S = ⟨[s0, s1, s2, some (.dat a), some (.dat b), some (.dat (.lst (rsX a b p))), some (.dat (.lst (nsX q))), s7, s8, s9, s10, s11, s12, s13, s14], cs⟩) (fun P' hP => ?_) fun S hS => ?_
  · unfold wFor wEnum
    try dsimp only [wCons, wNil, wName, List.getElem?_cons_zero, List.getElem?_cons_succ, Option.map_some]
    show forW _ _ (enumD 0 (rsX a b p)) _ _
    refine forW_ind (fun S => ∃ s7 s8 s9 s10 s11 s12 s13, S = ⟨[s0, s1, s2, some (.dat a), some (.dat b), some (.dat (.lst (rsX a b p))), some (.dat (.lst (nsX q))), s7, s8, s9, s10, s11, s12, s13, s14], cs⟩) (enumD 0 (rsX a b p)) ?_ (fun S hS => hP S hS) _ ⟨_, _, _, _, _, _, _, rfl⟩
    intro it hit S hS nx' hnx
    obtain ⟨s7, s8, s9, s10, s11, s12, s13, rfl⟩ := hS
    obtain ⟨k, hk⟩ := List.getElem?_of_mem hit
    obtain ⟨x, hx, rfl⟩ := enumD_get hk
    obtain ⟨k11, rfl⟩ := rsX_get hx
    rw [Nat.zero_add]
    refine asgW_i rfl ?_
    exact spot_l k11 ha hb h1 h2 fun t10 t11 t12 t13 => hnx _ ⟨_, _, _, _, _, _, _, rfl⟩
  · obtain ⟨s7, s8, s9, s10, s11, s12, s13, rfl⟩ := hS
    exact given_l ha hb fun cs' t8 t14 => hq _ _ _ _ _ _ _ _ _ _ _
theorem rows_l (ha : Vq 2 a) (hb : Vq 2 b)
    (hq : ∀ cs' s5 s6 s7 s8 s9 s10 s11 s12 s13 s14, P.nx ⟨[s0, s1, s2, some (.dat a), some (.dat b), s5, s6, s7, s8, s9, s10, s11, s12, s13, s14], cs'⟩) :
    w_law_rows m ⟨[s0, s1, s2, some (.dat a), some (.dat b), s5, s6, s7, s8, s9, s10, s11, s12, s13, s14], cs⟩ P := by
  unfold w_law_rows
  refine consS_q (S' := fun z : (Nat → Addr) × (Nat → Addr) => ⟨[s0, s1, s2, some (.dat a), some (.dat b), some (.dat (.lst (rsX a b z.1))), some (.dat (.lst (nsX z.2))), s7, s8, s9, s10, s11, s12, s13, s14], (cs ++ csX a b z.1) ++ csX a b z.2⟩) (Q := fun _ => True) (fun P' hP => ?_) fun z _ => ?_
  · try dsimp only [wConsS, wNilS, wAsg, wTwo, wOne, wName, wCon, wCb, wCons, wNil, wRetG, wTag, wSlcA, wO0, wO1, wIfS, wBl, wFn, wFnG, wSetFA, wFldA, wMethA0, wNotT, wOrT, wAndV, Dl.wTru, wLst, wTup, wDats, dats, isB, wSubA, wSetA, wSetLA, wExpr, wPar2, par2, wPar3, par3, wItems, itemsW, wRng1, wFor, endG, List.set_cons_zero, List.set_cons_succ, List.getElem?_cons_zero, List.getElem?_cons_succ, Option.map_some]
    exact errors_c fun p => named_c fun q => hP (p, q) trivial
  · refine spots_l (p := z.1) (q := z.2) (n1 := cs.length) (n2 := (cs ++ csX a b z.1).length) ha hb (fun k hk => ?_) (fun k hk => ?_) hq
    · rw [List.append_assoc, List.getElem?_append_right (Nat.le_add_right ..), Nat.add_sub_cancel_left, List.getElem?_append_left (by unfold csX; simpa using hk)]
      exact csX_at hk
    · rw [List.getElem?_append_right (Nat.le_add_right ..), Nat.add_sub_cancel_left]
      exact csX_at hk
theorem turn_l (hi : i < 100)
    (hq : ∀ cs' s2 s3 s4 s5 s6 s7 s8 s9 s10 s11 s12 s13 s14, P.nx ⟨[some (.dat (scD ns)), some (.dat (.int i)), s2, s3, s4, s5, s6, s7, s8, s9, s10, s11, s12, s13, s14], cs'⟩) :
    w_law_turn m ⟨[some (.dat (scD ns)), some (.dat (.int i)), s2, s3, s4, s5, s6, s7, s8, s9, s10, s11, s12, s13, s14], cs⟩ P := by
  have ok := feedB_ok ns i
  unfold w_law_turn
  refine consS_i (S' := ⟨[some (.dat (scD ns)), some (.dat (.int i)), some (.cel cs.length), s3, s4, s5, s6, s7, s8, s9, s10, s11, s12, s13, s14], cs ++ [bx (feedB ns i)]⟩) (fun P' hP => ?_) ?_
  · exact ⟨_, _, feed_c hi, hP⟩
  generalize feedB ns i = b0 at ok
  obtain ⟨a, b1, o1, ha, hc1⟩ := value2 ok
  obtain ⟨b, b2, o2, hb, hc2⟩ := value2 o1
  refine consS_q (S' := fun c : List Cell => ⟨[some (.dat (scD ns)), some (.dat (.int i)), some (.cel cs.length), some (.dat a), some (.dat b), s5, s6, s7, s8, s9, s10, s11, s12, s13, s14], c⟩) (Q := fun _ => True) (fun P' hP => ?_) fun c _ => ?_
  · try dsimp only [wConsS, wNilS, wAsg, wTwo, wOne, wName, wCon, wCb, wCons, wNil, wRetG, wTag, wSlcA, wO0, wO1, wIfS, wBl, wFn, wFnG, wSetFA, wFldA, wMethA0, wNotT, wOrT, wAndV, Dl.wTru, wLst, wTup, wDats, dats, isB, wSubA, wSetA, wSetLA, wExpr, wPar2, par2, wPar3, par3, wItems, itemsW, wRng1, wFor, endG, List.set_cons_zero, List.set_cons_succ, List.getElem?_cons_zero, List.getElem?_cons_succ, Option.map_some]
    refine bj1 at_last hc1 fun c1 k1 e1 l1 => ?_
    exact bj1 e1 hc2 fun c2 k2 e2 l2 => hP c2 trivial
  · exact rows_l ha hb fun cs' t5 t6 t7 t8 t9 t10 t11 t12 t13 t14 => hq _ _ _ _ _ _ _ _ _ _ _ _ _ _
end
theorem law_of (ns : List Int) (hl : ns.length ≤ 63) (hb : ∀ z ∈ ns, Builtin.Int.intBits z ≤ 1048576) : c_law [.dat (.scr (ns.map D.int))] [] (.dat (.bl true)) [] := by
  refine ⟨⟨_, rfl⟩, rfl, (?_ : w_law 0 ⟨[some (.dat (scD ns)), none, none, none, none, none, none, none, none, none, none, none, none, none, none], []⟩ (endG _))⟩
  unfold w_law
  refine consS_q (S' := fun S : Sta => S) (Q := fun _ => True) (fun P' hP => ?_) fun S _ => ?_
  · unfold wFor wRng1
    refine li1 (s2 := .dat (.int (ns.map D.int).length)) (fun Q q => q) ?_
    rw [List.length_map]
    refine lmin2 ?_
    refine lmax2 ?_
    generalize hM : (if (if (ns.length : Int) < 5 then (ns.length : Int) else 5) > 2 then (if (ns.length : Int) < 5 then (ns.length : Int) else 5) else 2) = M
    have m1 : 1 ≤ M ∧ M ≤ 5 := by
      rw [← hM]
      split <;> split <;> omega
    refine And.intro (show SmI M by unfold SmI; omega) ?_
    refine forW_ind (fun S => ∃ cs s1 s2 s3 s4 s5 s6 s7 s8 s9 s10 s11 s12 s13 s14, S = ⟨[some (.dat (scD ns)), s1, s2, s3, s4, s5, s6, s7, s8, s9, s10, s11, s12, s13, s14], cs⟩) _ ?_ (fun S _ => hP S trivial) _ ⟨_, _, _, _, _, _, _, _, _, _, _, _, _, _, _, rfl⟩
    intro it hit S hS nx' hnx
    obtain ⟨i, hi, rfl⟩ := mem_range hit
    obtain ⟨cs, s1, s2, s3, s4, s5, s6, s7, s8, s9, s10, s11, s12, s13, s14, rfl⟩ := hS
    rw [Int.zero_add]
    refine asgW_i rfl ?_
    exact turn_l (i := i) (by omega) fun cs' t2 t3 t4 t5 t6 t7 t8 t9 t10 t11 t12 t13 t14 => hnx _ ⟨_, _, _, _, _, _, _, _, _, _, _, _, _, _, _, rfl⟩
  · exact ⟨rfl, rfl⟩

def pp_c_ClashError : Pa := gP "ClashError"
def pp_c_InvalidForm : Pa := gP "InvalidForm"
def pp_c_InvalidText : Pa := gP "InvalidText"
def pp_c_InvalidPiece : Pa := gP "InvalidPiece"
def pp_c_InvalidCount : Pa := gP "InvalidCount"
def pp_c_InvalidSizes : Pa := gP "InvalidSizes"
def pp_c_InvalidSize : Pa := gP "InvalidSize"
def pp_c_NotReversible : Pa := gP "NotReversible"
def pp_c_InvalidCommand : Pa := gP "InvalidCommand"
def pp_c_Refused : Pa := gP "Refused"
def pp_c_NoDeed : Pa := gP "NoDeed"
def pp_c_UnknownName : Pa := gP "UnknownName"
def pp_a__law_feed : Pa := gP "_law_feed"
def pp_a_InvalidText___init__ : Pa := mP (pp_c_InvalidText) "__init__"
def pp_a__law_take : Pa := gP "_law_take"
def pp_a__law_value : Pa := gP "_law_value"
def pp_a_InvalidForm___init__ : Pa := mP (pp_c_InvalidForm) "__init__"
def pp_a_InvalidPiece___init__ : Pa := mP (pp_c_InvalidPiece) "__init__"
def pp_a_InvalidCount___init__ : Pa := mP (pp_c_InvalidCount) "__init__"
def pp_a_InvalidSizes___init__ : Pa := mP (pp_c_InvalidSizes) "__init__"
def pp_a_InvalidSize___init__ : Pa := mP (pp_c_InvalidSize) "__init__"
def pp_a_NotReversible___init__ : Pa := mP (pp_c_NotReversible) "__init__"
def pp_a_InvalidCommand___init__ : Pa := mP (pp_c_InvalidCommand) "__init__"
def pp_a_Refused___init__ : Pa := mP (pp_c_Refused) "__init__"
def pp_a_NoDeed___init__ : Pa := mP (pp_c_NoDeed) "__init__"
def pp_a_UnknownName___init__ : Pa := mP (pp_c_UnknownName) "__init__"
def pp_a__law_errors : Pa := gP "_law_errors"
def pp_a__law_named : Pa := gP "_law_named"
def pp_a__law_caught : Pa := gP "_law_caught"
def pp_a__law_classes : Pa := gP "_law_classes"
def pp_a__law_kept : Pa := gP "_law_kept"
def pp_a_law : Pa := gP "law"
def dd__law_feed : DefX := ⟨pp_a__law_feed, "_law_feed", "_law_feed", defArgs s__law_feed, defBody s__law_feed, defScope s__law_feed, [], []⟩
def dd_InvalidText___init__ : DefX := ⟨pp_a_InvalidText___init__, "__init__", "InvalidText.__init__", defArgs s_InvalidText___init__, defBody s_InvalidText___init__, defScope s_InvalidText___init__, [], []⟩
def dd__law_take : DefX := ⟨pp_a__law_take, "_law_take", "_law_take", defArgs s__law_take, defBody s__law_take, defScope s__law_take, [], []⟩
def dd__law_value : DefX := ⟨pp_a__law_value, "_law_value", "_law_value", defArgs s__law_value, defBody s__law_value, defScope s__law_value, [], []⟩
def dd_InvalidForm___init__ : DefX := ⟨pp_a_InvalidForm___init__, "__init__", "InvalidForm.__init__", defArgs s_InvalidForm___init__, defBody s_InvalidForm___init__, defScope s_InvalidForm___init__, [], []⟩
def dd_InvalidPiece___init__ : DefX := ⟨pp_a_InvalidPiece___init__, "__init__", "InvalidPiece.__init__", defArgs s_InvalidPiece___init__, defBody s_InvalidPiece___init__, defScope s_InvalidPiece___init__, [], []⟩
def dd_InvalidCount___init__ : DefX := ⟨pp_a_InvalidCount___init__, "__init__", "InvalidCount.__init__", defArgs s_InvalidCount___init__, defBody s_InvalidCount___init__, defScope s_InvalidCount___init__, [], []⟩
def dd_InvalidSizes___init__ : DefX := ⟨pp_a_InvalidSizes___init__, "__init__", "InvalidSizes.__init__", defArgs s_InvalidSizes___init__, defBody s_InvalidSizes___init__, defScope s_InvalidSizes___init__, [], []⟩
def dd_InvalidSize___init__ : DefX := ⟨pp_a_InvalidSize___init__, "__init__", "InvalidSize.__init__", defArgs s_InvalidSize___init__, defBody s_InvalidSize___init__, defScope s_InvalidSize___init__, [], []⟩
def dd_NotReversible___init__ : DefX := ⟨pp_a_NotReversible___init__, "__init__", "NotReversible.__init__", defArgs s_NotReversible___init__, defBody s_NotReversible___init__, defScope s_NotReversible___init__, [], []⟩
def dd_InvalidCommand___init__ : DefX := ⟨pp_a_InvalidCommand___init__, "__init__", "InvalidCommand.__init__", defArgs s_InvalidCommand___init__, defBody s_InvalidCommand___init__, defScope s_InvalidCommand___init__, [], []⟩
def dd_Refused___init__ : DefX := ⟨pp_a_Refused___init__, "__init__", "Refused.__init__", defArgs s_Refused___init__, defBody s_Refused___init__, defScope s_Refused___init__, [], []⟩
def dd_NoDeed___init__ : DefX := ⟨pp_a_NoDeed___init__, "__init__", "NoDeed.__init__", defArgs s_NoDeed___init__, defBody s_NoDeed___init__, defScope s_NoDeed___init__, [], []⟩
def dd_UnknownName___init__ : DefX := ⟨pp_a_UnknownName___init__, "__init__", "UnknownName.__init__", defArgs s_UnknownName___init__, defBody s_UnknownName___init__, defScope s_UnknownName___init__, [], []⟩
def dd__law_errors : DefX := ⟨pp_a__law_errors, "_law_errors", "_law_errors", defArgs s__law_errors, defBody s__law_errors, defScope s__law_errors, [], []⟩
def dd__law_named : DefX := ⟨pp_a__law_named, "_law_named", "_law_named", defArgs s__law_named, defBody s__law_named, defScope s__law_named, [], []⟩
def dd__law_caught : DefX := ⟨pp_a__law_caught, "_law_caught", "_law_caught", defArgs s__law_caught, defBody s__law_caught, defScope s__law_caught, [], []⟩
def dd__law_classes : DefX := ⟨pp_a__law_classes, "_law_classes", "_law_classes", defArgs s__law_classes, defBody s__law_classes, defScope s__law_classes, [], []⟩
def dd__law_kept : DefX := ⟨pp_a__law_kept, "_law_kept", "_law_kept", defArgs s__law_kept, defBody s__law_kept, defScope s__law_kept, [], []⟩
def dd_law : DefX := ⟨pp_a_law, "law", "law", defArgs s_law, defBody s_law, defScope s_law, [], []⟩
def fnl : List DefX := ([dd__law_feed, dd_InvalidText___init__, dd__law_take, dd__law_value, dd_InvalidForm___init__, dd_InvalidPiece___init__, dd_InvalidCount___init__, dd_InvalidSizes___init__, dd_InvalidSize___init__, dd_NotReversible___init__, dd_InvalidCommand___init__, dd_Refused___init__, dd_NoDeed___init__, dd_UnknownName___init__, dd__law_errors, dd__law_named, dd__law_caught, dd__law_classes, dd__law_kept, dd_law] : List DefX)
def fc_0 : List Pc := [
  ⟨fun K => PySem.W.nsIn K mainGlobals "ClashError" = some (some (.ref (pp_c_ClashError K))), fun K => inferInstance⟩,
  ⟨fun K => CIn K (pp_c_ClashError K), fun K => inferInstance⟩,
  ⟨fun K => PySem.W.subIn K (.ref (pp_c_ClashError K)) (.type "BaseException") = some true, fun K => inferInstance⟩,
  ⟨fun K => PySem.W.hasDictIn K (pp_c_ClashError K) = true, fun K => inferInstance⟩,
  ⟨fun K => PySem.W.nsIn K mainGlobals "InvalidForm" = some (some (.ref (pp_c_InvalidForm K))), fun K => inferInstance⟩,
  ⟨fun K => OexB K (pp_c_InvalidForm K) veT "ValueError.__new__", fun K => inferInstance⟩,
  ⟨fun K => ExcC K (pp_c_InvalidForm K), fun K => inferInstance⟩,
  ⟨fun K => XfC K (pp_c_InvalidForm K), fun K => inferInstance⟩,
  ⟨fun K => PySem.W.nsIn K mainGlobals "InvalidText" = some (some (.ref (pp_c_InvalidText K))), fun K => inferInstance⟩,
  ⟨fun K => OexB K (pp_c_InvalidText K) veT "ValueError.__new__", fun K => inferInstance⟩,
  ⟨fun K => ExcC K (pp_c_InvalidText K), fun K => inferInstance⟩,
  ⟨fun K => XfC K (pp_c_InvalidText K), fun K => inferInstance⟩,
  ⟨fun K => PySem.W.findIn K (.ref (pp_c_InvalidText K)) "line" = some none, fun K => inferInstance⟩,
  ⟨fun K => PySem.W.nsIn K mainGlobals "InvalidPiece" = some (some (.ref (pp_c_InvalidPiece K))), fun K => inferInstance⟩,
  ⟨fun K => OexB K (pp_c_InvalidPiece K) veT "ValueError.__new__", fun K => inferInstance⟩,
  ⟨fun K => ExcC K (pp_c_InvalidPiece K), fun K => inferInstance⟩,
  ⟨fun K => XfC K (pp_c_InvalidPiece K), fun K => inferInstance⟩,
  ⟨fun K => PySem.W.findIn K (.ref (pp_c_InvalidPiece K)) "at" = some none, fun K => inferInstance⟩,
  ⟨fun K => PySem.W.findIn K (.ref (pp_c_InvalidPiece K)) "word" = some none, fun K => inferInstance⟩,
  ⟨fun K => PySem.W.nsIn K mainGlobals "InvalidCount" = some (some (.ref (pp_c_InvalidCount K))), fun K => inferInstance⟩,
  ⟨fun K => OexB K (pp_c_InvalidCount K) veT "ValueError.__new__", fun K => inferInstance⟩,
  ⟨fun K => ExcC K (pp_c_InvalidCount K), fun K => inferInstance⟩,
  ⟨fun K => XfC K (pp_c_InvalidCount K), fun K => inferInstance⟩,
  ⟨fun K => PySem.W.findIn K (.ref (pp_c_InvalidCount K)) "word" = some none, fun K => inferInstance⟩,
  ⟨fun K => PySem.W.nsIn K mainGlobals "InvalidSizes" = some (some (.ref (pp_c_InvalidSizes K))), fun K => inferInstance⟩]
def fc_1 : List Pc := [
  ⟨fun K => OexB K (pp_c_InvalidSizes K) veT "ValueError.__new__", fun K => inferInstance⟩,
  ⟨fun K => ExcC K (pp_c_InvalidSizes K), fun K => inferInstance⟩,
  ⟨fun K => XfC K (pp_c_InvalidSizes K), fun K => inferInstance⟩,
  ⟨fun K => PySem.W.findIn K (.ref (pp_c_InvalidSizes K)) "word" = some none, fun K => inferInstance⟩,
  ⟨fun K => PySem.W.nsIn K mainGlobals "InvalidSize" = some (some (.ref (pp_c_InvalidSize K))), fun K => inferInstance⟩,
  ⟨fun K => OexB K (pp_c_InvalidSize K) veT "ValueError.__new__", fun K => inferInstance⟩,
  ⟨fun K => ExcC K (pp_c_InvalidSize K), fun K => inferInstance⟩,
  ⟨fun K => XfC K (pp_c_InvalidSize K), fun K => inferInstance⟩,
  ⟨fun K => PySem.W.findIn K (.ref (pp_c_InvalidSize K)) "size" = some none, fun K => inferInstance⟩,
  ⟨fun K => PySem.W.nsIn K mainGlobals "NotReversible" = some (some (.ref (pp_c_NotReversible K))), fun K => inferInstance⟩,
  ⟨fun K => OexB K (pp_c_NotReversible K) veT "ValueError.__new__", fun K => inferInstance⟩,
  ⟨fun K => ExcC K (pp_c_NotReversible K), fun K => inferInstance⟩,
  ⟨fun K => XfC K (pp_c_NotReversible K), fun K => inferInstance⟩,
  ⟨fun K => PySem.W.findIn K (.ref (pp_c_NotReversible K)) "at" = some none, fun K => inferInstance⟩,
  ⟨fun K => PySem.W.nsIn K mainGlobals "InvalidCommand" = some (some (.ref (pp_c_InvalidCommand K))), fun K => inferInstance⟩,
  ⟨fun K => OexB K (pp_c_InvalidCommand K) veT "ValueError.__new__", fun K => inferInstance⟩,
  ⟨fun K => ExcC K (pp_c_InvalidCommand K), fun K => inferInstance⟩,
  ⟨fun K => XfC K (pp_c_InvalidCommand K), fun K => inferInstance⟩,
  ⟨fun K => PySem.W.nsIn K mainGlobals "Refused" = some (some (.ref (pp_c_Refused K))), fun K => inferInstance⟩,
  ⟨fun K => OexB K (pp_c_Refused K) veT "ValueError.__new__", fun K => inferInstance⟩,
  ⟨fun K => ExcC K (pp_c_Refused K), fun K => inferInstance⟩,
  ⟨fun K => XfC K (pp_c_Refused K), fun K => inferInstance⟩,
  ⟨fun K => PySem.W.findIn K (.ref (pp_c_Refused K)) "at" = some none, fun K => inferInstance⟩,
  ⟨fun K => PySem.W.nsIn K mainGlobals "NoDeed" = some (some (.ref (pp_c_NoDeed K))), fun K => inferInstance⟩,
  ⟨fun K => OexB K (pp_c_NoDeed K) ieT "IndexError.__new__", fun K => inferInstance⟩]
def fc_2 : List Pc := [
  ⟨fun K => ExcC K (pp_c_NoDeed K), fun K => inferInstance⟩,
  ⟨fun K => XfC K (pp_c_NoDeed K), fun K => inferInstance⟩,
  ⟨fun K => PySem.W.findIn K (.ref (pp_c_NoDeed K)) "at" = some none, fun K => inferInstance⟩,
  ⟨fun K => PySem.W.nsIn K mainGlobals "UnknownName" = some (some (.ref (pp_c_UnknownName K))), fun K => inferInstance⟩,
  ⟨fun K => OexB K (pp_c_UnknownName K) keT "LookupError.__new__", fun K => inferInstance⟩,
  ⟨fun K => ExcC K (pp_c_UnknownName K), fun K => inferInstance⟩,
  ⟨fun K => XfC K (pp_c_UnknownName K), fun K => inferInstance⟩,
  ⟨fun K => PySem.W.findIn K (.ref (pp_c_UnknownName K)) "name" = some none, fun K => inferInstance⟩,
  ⟨fun K => PySem.W.nsIn K mainGlobals "IndexError" = some none, fun K => inferInstance⟩,
  ⟨fun K => PySem.W.nsIn K mainGlobals "KeyError" = some none, fun K => inferInstance⟩,
  ⟨fun K => PySem.W.nsIn K mainGlobals "ValueError" = some none, fun K => inferInstance⟩,
  ⟨fun K => PySem.W.nsIn K mainGlobals "enumerate" = some none, fun K => inferInstance⟩,
  ⟨fun K => PySem.W.nsIn K mainGlobals "int" = some none, fun K => inferInstance⟩,
  ⟨fun K => PySem.W.nsIn K mainGlobals "isinstance" = some none, fun K => inferInstance⟩,
  ⟨fun K => PySem.W.nsIn K mainGlobals "len" = some none, fun K => inferInstance⟩,
  ⟨fun K => PySem.W.nsIn K mainGlobals "max" = some none, fun K => inferInstance⟩,
  ⟨fun K => PySem.W.nsIn K mainGlobals "min" = some none, fun K => inferInstance⟩,
  ⟨fun K => PySem.W.nsIn K mainGlobals "range" = some none, fun K => inferInstance⟩,
  ⟨fun K => PySem.W.nsIn K mainGlobals "repr" = some none, fun K => inferInstance⟩,
  ⟨fun K => PySem.W.nsIn K mainGlobals "tuple" = some none, fun K => inferInstance⟩,
  ⟨fun K => PySem.W.nsIn K mainGlobals "_law_feed" = some (some (.ref (pp_a__law_feed K))), fun K => inferInstance⟩,
  ⟨fun K => PySem.W.findIn K (.ref (pp_c_InvalidText K)) "__init__" = some (some (.ref (pp_a_InvalidText___init__ K))), fun K => inferInstance⟩,
  ⟨fun K => PySem.W.typeIn K (.ref (pp_a_InvalidText___init__ K)) = some (.type "function"), fun K => inferInstance⟩,
  ⟨fun K => PySem.W.nsIn K mainGlobals "_law_take" = some (some (.ref (pp_a__law_take K))), fun K => inferInstance⟩,
  ⟨fun K => PySem.W.nsIn K mainGlobals "_law_value" = some (some (.ref (pp_a__law_value K))), fun K => inferInstance⟩]
def fc_3 : List Pc := [
  ⟨fun K => PySem.W.findIn K (.ref (pp_c_InvalidForm K)) "__init__" = some (some (.ref (pp_a_InvalidForm___init__ K))), fun K => inferInstance⟩,
  ⟨fun K => PySem.W.typeIn K (.ref (pp_a_InvalidForm___init__ K)) = some (.type "function"), fun K => inferInstance⟩,
  ⟨fun K => PySem.W.findIn K (.ref (pp_c_InvalidPiece K)) "__init__" = some (some (.ref (pp_a_InvalidPiece___init__ K))), fun K => inferInstance⟩,
  ⟨fun K => PySem.W.typeIn K (.ref (pp_a_InvalidPiece___init__ K)) = some (.type "function"), fun K => inferInstance⟩,
  ⟨fun K => PySem.W.findIn K (.ref (pp_c_InvalidCount K)) "__init__" = some (some (.ref (pp_a_InvalidCount___init__ K))), fun K => inferInstance⟩,
  ⟨fun K => PySem.W.typeIn K (.ref (pp_a_InvalidCount___init__ K)) = some (.type "function"), fun K => inferInstance⟩,
  ⟨fun K => PySem.W.findIn K (.ref (pp_c_InvalidSizes K)) "__init__" = some (some (.ref (pp_a_InvalidSizes___init__ K))), fun K => inferInstance⟩,
  ⟨fun K => PySem.W.typeIn K (.ref (pp_a_InvalidSizes___init__ K)) = some (.type "function"), fun K => inferInstance⟩,
  ⟨fun K => PySem.W.findIn K (.ref (pp_c_InvalidSize K)) "__init__" = some (some (.ref (pp_a_InvalidSize___init__ K))), fun K => inferInstance⟩,
  ⟨fun K => PySem.W.typeIn K (.ref (pp_a_InvalidSize___init__ K)) = some (.type "function"), fun K => inferInstance⟩,
  ⟨fun K => PySem.W.findIn K (.ref (pp_c_NotReversible K)) "__init__" = some (some (.ref (pp_a_NotReversible___init__ K))), fun K => inferInstance⟩,
  ⟨fun K => PySem.W.typeIn K (.ref (pp_a_NotReversible___init__ K)) = some (.type "function"), fun K => inferInstance⟩,
  ⟨fun K => PySem.W.findIn K (.ref (pp_c_InvalidCommand K)) "__init__" = some (some (.ref (pp_a_InvalidCommand___init__ K))), fun K => inferInstance⟩,
  ⟨fun K => PySem.W.typeIn K (.ref (pp_a_InvalidCommand___init__ K)) = some (.type "function"), fun K => inferInstance⟩,
  ⟨fun K => PySem.W.findIn K (.ref (pp_c_Refused K)) "__init__" = some (some (.ref (pp_a_Refused___init__ K))), fun K => inferInstance⟩,
  ⟨fun K => PySem.W.typeIn K (.ref (pp_a_Refused___init__ K)) = some (.type "function"), fun K => inferInstance⟩,
  ⟨fun K => PySem.W.findIn K (.ref (pp_c_NoDeed K)) "__init__" = some (some (.ref (pp_a_NoDeed___init__ K))), fun K => inferInstance⟩,
  ⟨fun K => PySem.W.typeIn K (.ref (pp_a_NoDeed___init__ K)) = some (.type "function"), fun K => inferInstance⟩,
  ⟨fun K => PySem.W.findIn K (.ref (pp_c_UnknownName K)) "__init__" = some (some (.ref (pp_a_UnknownName___init__ K))), fun K => inferInstance⟩,
  ⟨fun K => PySem.W.typeIn K (.ref (pp_a_UnknownName___init__ K)) = some (.type "function"), fun K => inferInstance⟩,
  ⟨fun K => PySem.W.nsIn K mainGlobals "_law_errors" = some (some (.ref (pp_a__law_errors K))), fun K => inferInstance⟩,
  ⟨fun K => PySem.W.nsIn K mainGlobals "_law_named" = some (some (.ref (pp_a__law_named K))), fun K => inferInstance⟩,
  ⟨fun K => PySem.W.nsIn K mainGlobals "_law_caught" = some (some (.ref (pp_a__law_caught K))), fun K => inferInstance⟩,
  ⟨fun K => PySem.W.nsIn K mainGlobals "_law_classes" = some (some (.ref (pp_a__law_classes K))), fun K => inferInstance⟩,
  ⟨fun K => PySem.W.nsIn K mainGlobals "_law_kept" = some (some (.ref (pp_a__law_kept K))), fun K => inferInstance⟩]
def fc_4 : List Pc := [
  ⟨fun K => PySem.W.nsIn K mainGlobals "law" = some (some (.ref (pp_a_law K))), fun K => inferInstance⟩,
  ⟨fun K => PySem.W.exmOne K (.ref (pp_c_InvalidForm K)) (.ref (pp_c_ClashError K)) = some true, fun K => inferInstance⟩,
  ⟨fun K => PySem.W.exmOne K (.ref (pp_c_InvalidText K)) (.ref (pp_c_ClashError K)) = some true, fun K => inferInstance⟩,
  ⟨fun K => PySem.W.exmOne K (.ref (pp_c_InvalidPiece K)) (.ref (pp_c_ClashError K)) = some true, fun K => inferInstance⟩,
  ⟨fun K => PySem.W.exmOne K (.ref (pp_c_InvalidCount K)) (.ref (pp_c_ClashError K)) = some true, fun K => inferInstance⟩,
  ⟨fun K => PySem.W.exmOne K (.ref (pp_c_InvalidSizes K)) (.ref (pp_c_ClashError K)) = some true, fun K => inferInstance⟩,
  ⟨fun K => PySem.W.exmOne K (.ref (pp_c_InvalidSize K)) (.ref (pp_c_ClashError K)) = some true, fun K => inferInstance⟩,
  ⟨fun K => PySem.W.exmOne K (.ref (pp_c_NotReversible K)) (.ref (pp_c_ClashError K)) = some true, fun K => inferInstance⟩,
  ⟨fun K => PySem.W.exmOne K (.ref (pp_c_InvalidCommand K)) (.ref (pp_c_ClashError K)) = some true, fun K => inferInstance⟩,
  ⟨fun K => PySem.W.exmOne K (.ref (pp_c_Refused K)) (.ref (pp_c_ClashError K)) = some true, fun K => inferInstance⟩,
  ⟨fun K => PySem.W.exmOne K (.ref (pp_c_NoDeed K)) (.ref (pp_c_ClashError K)) = some false, fun K => inferInstance⟩,
  ⟨fun K => PySem.W.exmOne K (.ref (pp_c_UnknownName K)) (.ref (pp_c_ClashError K)) = some false, fun K => inferInstance⟩,
  ⟨fun K => PySem.W.exmOne K (.ref (pp_c_InvalidForm K)) (.type "KeyError") = some false, fun K => inferInstance⟩,
  ⟨fun K => PySem.W.exmOne K (.ref (pp_c_InvalidText K)) (.type "KeyError") = some false, fun K => inferInstance⟩,
  ⟨fun K => PySem.W.exmOne K (.ref (pp_c_InvalidPiece K)) (.type "KeyError") = some false, fun K => inferInstance⟩,
  ⟨fun K => PySem.W.exmOne K (.ref (pp_c_InvalidCount K)) (.type "KeyError") = some false, fun K => inferInstance⟩,
  ⟨fun K => PySem.W.exmOne K (.ref (pp_c_InvalidSizes K)) (.type "KeyError") = some false, fun K => inferInstance⟩,
  ⟨fun K => PySem.W.exmOne K (.ref (pp_c_InvalidSize K)) (.type "KeyError") = some false, fun K => inferInstance⟩,
  ⟨fun K => PySem.W.exmOne K (.ref (pp_c_NotReversible K)) (.type "KeyError") = some false, fun K => inferInstance⟩,
  ⟨fun K => PySem.W.exmOne K (.ref (pp_c_InvalidCommand K)) (.type "KeyError") = some false, fun K => inferInstance⟩,
  ⟨fun K => PySem.W.exmOne K (.ref (pp_c_Refused K)) (.type "KeyError") = some false, fun K => inferInstance⟩,
  ⟨fun K => PySem.W.exmOne K (.ref (pp_c_NoDeed K)) (.type "KeyError") = some false, fun K => inferInstance⟩,
  ⟨fun K => PySem.W.exmOne K (.ref (pp_c_UnknownName K)) (.type "KeyError") = some true, fun K => inferInstance⟩,
  ⟨fun K => PySem.W.exmOne K (.ref (pp_c_InvalidForm K)) (.ref (pp_c_NoDeed K)) = some false, fun K => inferInstance⟩,
  ⟨fun K => PySem.W.exmOne K (.ref (pp_c_InvalidText K)) (.ref (pp_c_NoDeed K)) = some false, fun K => inferInstance⟩]
def fc_5 : List Pc := [
  ⟨fun K => PySem.W.exmOne K (.ref (pp_c_InvalidPiece K)) (.ref (pp_c_NoDeed K)) = some false, fun K => inferInstance⟩,
  ⟨fun K => PySem.W.exmOne K (.ref (pp_c_InvalidCount K)) (.ref (pp_c_NoDeed K)) = some false, fun K => inferInstance⟩,
  ⟨fun K => PySem.W.exmOne K (.ref (pp_c_InvalidSizes K)) (.ref (pp_c_NoDeed K)) = some false, fun K => inferInstance⟩,
  ⟨fun K => PySem.W.exmOne K (.ref (pp_c_InvalidSize K)) (.ref (pp_c_NoDeed K)) = some false, fun K => inferInstance⟩,
  ⟨fun K => PySem.W.exmOne K (.ref (pp_c_NotReversible K)) (.ref (pp_c_NoDeed K)) = some false, fun K => inferInstance⟩,
  ⟨fun K => PySem.W.exmOne K (.ref (pp_c_InvalidCommand K)) (.ref (pp_c_NoDeed K)) = some false, fun K => inferInstance⟩,
  ⟨fun K => PySem.W.exmOne K (.ref (pp_c_Refused K)) (.ref (pp_c_NoDeed K)) = some false, fun K => inferInstance⟩,
  ⟨fun K => PySem.W.exmOne K (.ref (pp_c_NoDeed K)) (.ref (pp_c_NoDeed K)) = some true, fun K => inferInstance⟩,
  ⟨fun K => PySem.W.exmOne K (.ref (pp_c_UnknownName K)) (.ref (pp_c_NoDeed K)) = some false, fun K => inferInstance⟩,
  ⟨fun K => PySem.W.findIn K (.ref (pp_c_InvalidForm K)) "at" = some none, fun K => inferInstance⟩,
  ⟨fun K => PySem.W.findIn K (.ref (pp_c_InvalidText K)) "at" = some none, fun K => inferInstance⟩,
  ⟨fun K => PySem.W.findIn K (.ref (pp_c_InvalidCount K)) "at" = some none, fun K => inferInstance⟩,
  ⟨fun K => PySem.W.findIn K (.ref (pp_c_InvalidSizes K)) "at" = some none, fun K => inferInstance⟩,
  ⟨fun K => PySem.W.findIn K (.ref (pp_c_InvalidSize K)) "at" = some none, fun K => inferInstance⟩,
  ⟨fun K => PySem.W.findIn K (.ref (pp_c_InvalidCommand K)) "at" = some none, fun K => inferInstance⟩,
  ⟨fun K => PySem.W.findIn K (.ref (pp_c_UnknownName K)) "at" = some none, fun K => inferInstance⟩,
  ⟨fun K => PySem.W.findIn K (.ref (pp_c_InvalidForm K)) "line" = some none, fun K => inferInstance⟩,
  ⟨fun K => PySem.W.findIn K (.ref (pp_c_InvalidPiece K)) "line" = some none, fun K => inferInstance⟩,
  ⟨fun K => PySem.W.findIn K (.ref (pp_c_InvalidCount K)) "line" = some none, fun K => inferInstance⟩,
  ⟨fun K => PySem.W.findIn K (.ref (pp_c_InvalidSizes K)) "line" = some none, fun K => inferInstance⟩,
  ⟨fun K => PySem.W.findIn K (.ref (pp_c_InvalidSize K)) "line" = some none, fun K => inferInstance⟩,
  ⟨fun K => PySem.W.findIn K (.ref (pp_c_NotReversible K)) "line" = some none, fun K => inferInstance⟩,
  ⟨fun K => PySem.W.findIn K (.ref (pp_c_InvalidCommand K)) "line" = some none, fun K => inferInstance⟩,
  ⟨fun K => PySem.W.findIn K (.ref (pp_c_Refused K)) "line" = some none, fun K => inferInstance⟩,
  ⟨fun K => PySem.W.findIn K (.ref (pp_c_NoDeed K)) "line" = some none, fun K => inferInstance⟩]
def fc_6 : List Pc := [
  ⟨fun K => PySem.W.findIn K (.ref (pp_c_UnknownName K)) "line" = some none, fun K => inferInstance⟩,
  ⟨fun K => PySem.W.findIn K (.ref (pp_c_InvalidForm K)) "name" = some none, fun K => inferInstance⟩,
  ⟨fun K => PySem.W.findIn K (.ref (pp_c_InvalidText K)) "name" = some none, fun K => inferInstance⟩,
  ⟨fun K => PySem.W.findIn K (.ref (pp_c_InvalidPiece K)) "name" = some none, fun K => inferInstance⟩,
  ⟨fun K => PySem.W.findIn K (.ref (pp_c_InvalidCount K)) "name" = some none, fun K => inferInstance⟩,
  ⟨fun K => PySem.W.findIn K (.ref (pp_c_InvalidSizes K)) "name" = some none, fun K => inferInstance⟩,
  ⟨fun K => PySem.W.findIn K (.ref (pp_c_InvalidSize K)) "name" = some none, fun K => inferInstance⟩,
  ⟨fun K => PySem.W.findIn K (.ref (pp_c_NotReversible K)) "name" = some none, fun K => inferInstance⟩,
  ⟨fun K => PySem.W.findIn K (.ref (pp_c_InvalidCommand K)) "name" = some none, fun K => inferInstance⟩,
  ⟨fun K => PySem.W.findIn K (.ref (pp_c_Refused K)) "name" = some none, fun K => inferInstance⟩,
  ⟨fun K => PySem.W.findIn K (.ref (pp_c_NoDeed K)) "name" = some none, fun K => inferInstance⟩,
  ⟨fun K => PySem.W.findIn K (.ref (pp_c_InvalidForm K)) "size" = some none, fun K => inferInstance⟩,
  ⟨fun K => PySem.W.findIn K (.ref (pp_c_InvalidText K)) "size" = some none, fun K => inferInstance⟩,
  ⟨fun K => PySem.W.findIn K (.ref (pp_c_InvalidPiece K)) "size" = some none, fun K => inferInstance⟩,
  ⟨fun K => PySem.W.findIn K (.ref (pp_c_InvalidCount K)) "size" = some none, fun K => inferInstance⟩,
  ⟨fun K => PySem.W.findIn K (.ref (pp_c_InvalidSizes K)) "size" = some none, fun K => inferInstance⟩,
  ⟨fun K => PySem.W.findIn K (.ref (pp_c_NotReversible K)) "size" = some none, fun K => inferInstance⟩,
  ⟨fun K => PySem.W.findIn K (.ref (pp_c_InvalidCommand K)) "size" = some none, fun K => inferInstance⟩,
  ⟨fun K => PySem.W.findIn K (.ref (pp_c_Refused K)) "size" = some none, fun K => inferInstance⟩,
  ⟨fun K => PySem.W.findIn K (.ref (pp_c_NoDeed K)) "size" = some none, fun K => inferInstance⟩,
  ⟨fun K => PySem.W.findIn K (.ref (pp_c_UnknownName K)) "size" = some none, fun K => inferInstance⟩,
  ⟨fun K => PySem.W.findIn K (.ref (pp_c_InvalidForm K)) "word" = some none, fun K => inferInstance⟩,
  ⟨fun K => PySem.W.findIn K (.ref (pp_c_InvalidText K)) "word" = some none, fun K => inferInstance⟩,
  ⟨fun K => PySem.W.findIn K (.ref (pp_c_InvalidSize K)) "word" = some none, fun K => inferInstance⟩,
  ⟨fun K => PySem.W.findIn K (.ref (pp_c_NotReversible K)) "word" = some none, fun K => inferInstance⟩]
def fc_7 : List Pc := [
  ⟨fun K => PySem.W.findIn K (.ref (pp_c_InvalidCommand K)) "word" = some none, fun K => inferInstance⟩,
  ⟨fun K => PySem.W.findIn K (.ref (pp_c_Refused K)) "word" = some none, fun K => inferInstance⟩,
  ⟨fun K => PySem.W.findIn K (.ref (pp_c_NoDeed K)) "word" = some none, fun K => inferInstance⟩,
  ⟨fun K => PySem.W.findIn K (.ref (pp_c_UnknownName K)) "word" = some none, fun K => inferInstance⟩,
  ⟨fun K => PySem.W.kitOne K (.ref (pp_c_InvalidForm K)) (.ref (pp_c_ClashError K)) = some true, fun K => inferInstance⟩,
  ⟨fun K => PySem.W.kitOne K (.ref (pp_c_InvalidText K)) (.ref (pp_c_ClashError K)) = some true, fun K => inferInstance⟩,
  ⟨fun K => PySem.W.kitOne K (.ref (pp_c_InvalidPiece K)) (.ref (pp_c_ClashError K)) = some true, fun K => inferInstance⟩,
  ⟨fun K => PySem.W.kitOne K (.ref (pp_c_InvalidCount K)) (.ref (pp_c_ClashError K)) = some true, fun K => inferInstance⟩,
  ⟨fun K => PySem.W.kitOne K (.ref (pp_c_InvalidSizes K)) (.ref (pp_c_ClashError K)) = some true, fun K => inferInstance⟩,
  ⟨fun K => PySem.W.kitOne K (.ref (pp_c_InvalidSize K)) (.ref (pp_c_ClashError K)) = some true, fun K => inferInstance⟩,
  ⟨fun K => PySem.W.kitOne K (.ref (pp_c_NotReversible K)) (.ref (pp_c_ClashError K)) = some true, fun K => inferInstance⟩,
  ⟨fun K => PySem.W.kitOne K (.ref (pp_c_InvalidCommand K)) (.ref (pp_c_ClashError K)) = some true, fun K => inferInstance⟩,
  ⟨fun K => PySem.W.kitOne K (.ref (pp_c_Refused K)) (.ref (pp_c_ClashError K)) = some true, fun K => inferInstance⟩,
  ⟨fun K => PySem.W.kitOne K (.ref (pp_c_NoDeed K)) (.ref (pp_c_ClashError K)) = some false, fun K => inferInstance⟩,
  ⟨fun K => PySem.W.kitOne K (.ref (pp_c_UnknownName K)) (.ref (pp_c_ClashError K)) = some false, fun K => inferInstance⟩,
  ⟨fun K => PySem.W.kitOne K (.ref (pp_c_InvalidForm K)) (.type "IndexError") = some false, fun K => inferInstance⟩,
  ⟨fun K => PySem.W.kitOne K (.ref (pp_c_InvalidText K)) (.type "IndexError") = some false, fun K => inferInstance⟩,
  ⟨fun K => PySem.W.kitOne K (.ref (pp_c_InvalidPiece K)) (.type "IndexError") = some false, fun K => inferInstance⟩,
  ⟨fun K => PySem.W.kitOne K (.ref (pp_c_InvalidCount K)) (.type "IndexError") = some false, fun K => inferInstance⟩,
  ⟨fun K => PySem.W.kitOne K (.ref (pp_c_InvalidSizes K)) (.type "IndexError") = some false, fun K => inferInstance⟩,
  ⟨fun K => PySem.W.kitOne K (.ref (pp_c_InvalidSize K)) (.type "IndexError") = some false, fun K => inferInstance⟩,
  ⟨fun K => PySem.W.kitOne K (.ref (pp_c_NotReversible K)) (.type "IndexError") = some false, fun K => inferInstance⟩,
  ⟨fun K => PySem.W.kitOne K (.ref (pp_c_InvalidCommand K)) (.type "IndexError") = some false, fun K => inferInstance⟩,
  ⟨fun K => PySem.W.kitOne K (.ref (pp_c_Refused K)) (.type "IndexError") = some false, fun K => inferInstance⟩,
  ⟨fun K => PySem.W.kitOne K (.ref (pp_c_NoDeed K)) (.type "IndexError") = some true, fun K => inferInstance⟩]
def fc_8 : List Pc := [
  ⟨fun K => PySem.W.kitOne K (.ref (pp_c_UnknownName K)) (.type "IndexError") = some false, fun K => inferInstance⟩,
  ⟨fun K => PySem.W.kitOne K (.ref (pp_c_InvalidForm K)) (.ref (pp_c_InvalidCommand K)) = some false, fun K => inferInstance⟩,
  ⟨fun K => PySem.W.kitOne K (.ref (pp_c_InvalidText K)) (.ref (pp_c_InvalidCommand K)) = some false, fun K => inferInstance⟩,
  ⟨fun K => PySem.W.kitOne K (.ref (pp_c_InvalidPiece K)) (.ref (pp_c_InvalidCommand K)) = some false, fun K => inferInstance⟩,
  ⟨fun K => PySem.W.kitOne K (.ref (pp_c_InvalidCount K)) (.ref (pp_c_InvalidCommand K)) = some false, fun K => inferInstance⟩,
  ⟨fun K => PySem.W.kitOne K (.ref (pp_c_InvalidSizes K)) (.ref (pp_c_InvalidCommand K)) = some false, fun K => inferInstance⟩,
  ⟨fun K => PySem.W.kitOne K (.ref (pp_c_InvalidSize K)) (.ref (pp_c_InvalidCommand K)) = some false, fun K => inferInstance⟩,
  ⟨fun K => PySem.W.kitOne K (.ref (pp_c_NotReversible K)) (.ref (pp_c_InvalidCommand K)) = some false, fun K => inferInstance⟩,
  ⟨fun K => PySem.W.kitOne K (.ref (pp_c_Refused K)) (.ref (pp_c_InvalidCommand K)) = some false, fun K => inferInstance⟩,
  ⟨fun K => PySem.W.kitOne K (.ref (pp_c_NoDeed K)) (.ref (pp_c_InvalidCommand K)) = some false, fun K => inferInstance⟩,
  ⟨fun K => PySem.W.kitOne K (.ref (pp_c_UnknownName K)) (.ref (pp_c_InvalidCommand K)) = some false, fun K => inferInstance⟩,
  ⟨fun K => PySem.W.kitOne K (.ref (pp_c_InvalidForm K)) (.ref (pp_c_InvalidCount K)) = some false, fun K => inferInstance⟩,
  ⟨fun K => PySem.W.kitOne K (.ref (pp_c_InvalidText K)) (.ref (pp_c_InvalidCount K)) = some false, fun K => inferInstance⟩,
  ⟨fun K => PySem.W.kitOne K (.ref (pp_c_InvalidPiece K)) (.ref (pp_c_InvalidCount K)) = some false, fun K => inferInstance⟩,
  ⟨fun K => PySem.W.kitOne K (.ref (pp_c_InvalidSizes K)) (.ref (pp_c_InvalidCount K)) = some false, fun K => inferInstance⟩,
  ⟨fun K => PySem.W.kitOne K (.ref (pp_c_InvalidSize K)) (.ref (pp_c_InvalidCount K)) = some false, fun K => inferInstance⟩,
  ⟨fun K => PySem.W.kitOne K (.ref (pp_c_NotReversible K)) (.ref (pp_c_InvalidCount K)) = some false, fun K => inferInstance⟩,
  ⟨fun K => PySem.W.kitOne K (.ref (pp_c_InvalidCommand K)) (.ref (pp_c_InvalidCount K)) = some false, fun K => inferInstance⟩,
  ⟨fun K => PySem.W.kitOne K (.ref (pp_c_Refused K)) (.ref (pp_c_InvalidCount K)) = some false, fun K => inferInstance⟩,
  ⟨fun K => PySem.W.kitOne K (.ref (pp_c_NoDeed K)) (.ref (pp_c_InvalidCount K)) = some false, fun K => inferInstance⟩,
  ⟨fun K => PySem.W.kitOne K (.ref (pp_c_UnknownName K)) (.ref (pp_c_InvalidCount K)) = some false, fun K => inferInstance⟩,
  ⟨fun K => PySem.W.kitOne K (.ref (pp_c_InvalidForm K)) (.ref (pp_c_InvalidSizes K)) = some false, fun K => inferInstance⟩,
  ⟨fun K => PySem.W.kitOne K (.ref (pp_c_InvalidText K)) (.ref (pp_c_InvalidSizes K)) = some false, fun K => inferInstance⟩,
  ⟨fun K => PySem.W.kitOne K (.ref (pp_c_InvalidPiece K)) (.ref (pp_c_InvalidSizes K)) = some false, fun K => inferInstance⟩,
  ⟨fun K => PySem.W.kitOne K (.ref (pp_c_InvalidCount K)) (.ref (pp_c_InvalidSizes K)) = some false, fun K => inferInstance⟩]
def fc_9 : List Pc := [
  ⟨fun K => PySem.W.kitOne K (.ref (pp_c_InvalidSize K)) (.ref (pp_c_InvalidSizes K)) = some false, fun K => inferInstance⟩,
  ⟨fun K => PySem.W.kitOne K (.ref (pp_c_NotReversible K)) (.ref (pp_c_InvalidSizes K)) = some false, fun K => inferInstance⟩,
  ⟨fun K => PySem.W.kitOne K (.ref (pp_c_InvalidCommand K)) (.ref (pp_c_InvalidSizes K)) = some false, fun K => inferInstance⟩,
  ⟨fun K => PySem.W.kitOne K (.ref (pp_c_Refused K)) (.ref (pp_c_InvalidSizes K)) = some false, fun K => inferInstance⟩,
  ⟨fun K => PySem.W.kitOne K (.ref (pp_c_NoDeed K)) (.ref (pp_c_InvalidSizes K)) = some false, fun K => inferInstance⟩,
  ⟨fun K => PySem.W.kitOne K (.ref (pp_c_UnknownName K)) (.ref (pp_c_InvalidSizes K)) = some false, fun K => inferInstance⟩,
  ⟨fun K => PySem.W.kitOne K (.ref (pp_c_InvalidText K)) (.ref (pp_c_InvalidForm K)) = some false, fun K => inferInstance⟩,
  ⟨fun K => PySem.W.kitOne K (.ref (pp_c_InvalidPiece K)) (.ref (pp_c_InvalidForm K)) = some false, fun K => inferInstance⟩,
  ⟨fun K => PySem.W.kitOne K (.ref (pp_c_InvalidCount K)) (.ref (pp_c_InvalidForm K)) = some false, fun K => inferInstance⟩,
  ⟨fun K => PySem.W.kitOne K (.ref (pp_c_InvalidSizes K)) (.ref (pp_c_InvalidForm K)) = some false, fun K => inferInstance⟩,
  ⟨fun K => PySem.W.kitOne K (.ref (pp_c_InvalidSize K)) (.ref (pp_c_InvalidForm K)) = some false, fun K => inferInstance⟩,
  ⟨fun K => PySem.W.kitOne K (.ref (pp_c_NotReversible K)) (.ref (pp_c_InvalidForm K)) = some false, fun K => inferInstance⟩,
  ⟨fun K => PySem.W.kitOne K (.ref (pp_c_InvalidCommand K)) (.ref (pp_c_InvalidForm K)) = some false, fun K => inferInstance⟩,
  ⟨fun K => PySem.W.kitOne K (.ref (pp_c_Refused K)) (.ref (pp_c_InvalidForm K)) = some false, fun K => inferInstance⟩,
  ⟨fun K => PySem.W.kitOne K (.ref (pp_c_NoDeed K)) (.ref (pp_c_InvalidForm K)) = some false, fun K => inferInstance⟩,
  ⟨fun K => PySem.W.kitOne K (.ref (pp_c_UnknownName K)) (.ref (pp_c_InvalidForm K)) = some false, fun K => inferInstance⟩,
  ⟨fun K => PySem.W.kitOne K (.ref (pp_c_InvalidForm K)) (.ref (pp_c_InvalidPiece K)) = some false, fun K => inferInstance⟩,
  ⟨fun K => PySem.W.kitOne K (.ref (pp_c_InvalidText K)) (.ref (pp_c_InvalidPiece K)) = some false, fun K => inferInstance⟩,
  ⟨fun K => PySem.W.kitOne K (.ref (pp_c_InvalidCount K)) (.ref (pp_c_InvalidPiece K)) = some false, fun K => inferInstance⟩,
  ⟨fun K => PySem.W.kitOne K (.ref (pp_c_InvalidSizes K)) (.ref (pp_c_InvalidPiece K)) = some false, fun K => inferInstance⟩,
  ⟨fun K => PySem.W.kitOne K (.ref (pp_c_InvalidSize K)) (.ref (pp_c_InvalidPiece K)) = some false, fun K => inferInstance⟩,
  ⟨fun K => PySem.W.kitOne K (.ref (pp_c_NotReversible K)) (.ref (pp_c_InvalidPiece K)) = some false, fun K => inferInstance⟩,
  ⟨fun K => PySem.W.kitOne K (.ref (pp_c_InvalidCommand K)) (.ref (pp_c_InvalidPiece K)) = some false, fun K => inferInstance⟩,
  ⟨fun K => PySem.W.kitOne K (.ref (pp_c_Refused K)) (.ref (pp_c_InvalidPiece K)) = some false, fun K => inferInstance⟩,
  ⟨fun K => PySem.W.kitOne K (.ref (pp_c_NoDeed K)) (.ref (pp_c_InvalidPiece K)) = some false, fun K => inferInstance⟩]
def fc_10 : List Pc := [
  ⟨fun K => PySem.W.kitOne K (.ref (pp_c_UnknownName K)) (.ref (pp_c_InvalidPiece K)) = some false, fun K => inferInstance⟩,
  ⟨fun K => PySem.W.kitOne K (.ref (pp_c_InvalidForm K)) (.ref (pp_c_InvalidSize K)) = some false, fun K => inferInstance⟩,
  ⟨fun K => PySem.W.kitOne K (.ref (pp_c_InvalidText K)) (.ref (pp_c_InvalidSize K)) = some false, fun K => inferInstance⟩,
  ⟨fun K => PySem.W.kitOne K (.ref (pp_c_InvalidPiece K)) (.ref (pp_c_InvalidSize K)) = some false, fun K => inferInstance⟩,
  ⟨fun K => PySem.W.kitOne K (.ref (pp_c_InvalidCount K)) (.ref (pp_c_InvalidSize K)) = some false, fun K => inferInstance⟩,
  ⟨fun K => PySem.W.kitOne K (.ref (pp_c_InvalidSizes K)) (.ref (pp_c_InvalidSize K)) = some false, fun K => inferInstance⟩,
  ⟨fun K => PySem.W.kitOne K (.ref (pp_c_NotReversible K)) (.ref (pp_c_InvalidSize K)) = some false, fun K => inferInstance⟩,
  ⟨fun K => PySem.W.kitOne K (.ref (pp_c_InvalidCommand K)) (.ref (pp_c_InvalidSize K)) = some false, fun K => inferInstance⟩,
  ⟨fun K => PySem.W.kitOne K (.ref (pp_c_Refused K)) (.ref (pp_c_InvalidSize K)) = some false, fun K => inferInstance⟩,
  ⟨fun K => PySem.W.kitOne K (.ref (pp_c_NoDeed K)) (.ref (pp_c_InvalidSize K)) = some false, fun K => inferInstance⟩,
  ⟨fun K => PySem.W.kitOne K (.ref (pp_c_UnknownName K)) (.ref (pp_c_InvalidSize K)) = some false, fun K => inferInstance⟩,
  ⟨fun K => PySem.W.kitOne K (.ref (pp_c_InvalidForm K)) (.ref (pp_c_InvalidText K)) = some false, fun K => inferInstance⟩,
  ⟨fun K => PySem.W.kitOne K (.ref (pp_c_InvalidPiece K)) (.ref (pp_c_InvalidText K)) = some false, fun K => inferInstance⟩,
  ⟨fun K => PySem.W.kitOne K (.ref (pp_c_InvalidCount K)) (.ref (pp_c_InvalidText K)) = some false, fun K => inferInstance⟩,
  ⟨fun K => PySem.W.kitOne K (.ref (pp_c_InvalidSizes K)) (.ref (pp_c_InvalidText K)) = some false, fun K => inferInstance⟩,
  ⟨fun K => PySem.W.kitOne K (.ref (pp_c_InvalidSize K)) (.ref (pp_c_InvalidText K)) = some false, fun K => inferInstance⟩,
  ⟨fun K => PySem.W.kitOne K (.ref (pp_c_NotReversible K)) (.ref (pp_c_InvalidText K)) = some false, fun K => inferInstance⟩,
  ⟨fun K => PySem.W.kitOne K (.ref (pp_c_InvalidCommand K)) (.ref (pp_c_InvalidText K)) = some false, fun K => inferInstance⟩,
  ⟨fun K => PySem.W.kitOne K (.ref (pp_c_Refused K)) (.ref (pp_c_InvalidText K)) = some false, fun K => inferInstance⟩,
  ⟨fun K => PySem.W.kitOne K (.ref (pp_c_NoDeed K)) (.ref (pp_c_InvalidText K)) = some false, fun K => inferInstance⟩,
  ⟨fun K => PySem.W.kitOne K (.ref (pp_c_UnknownName K)) (.ref (pp_c_InvalidText K)) = some false, fun K => inferInstance⟩,
  ⟨fun K => PySem.W.kitOne K (.ref (pp_c_InvalidForm K)) (.type "KeyError") = some false, fun K => inferInstance⟩,
  ⟨fun K => PySem.W.kitOne K (.ref (pp_c_InvalidText K)) (.type "KeyError") = some false, fun K => inferInstance⟩,
  ⟨fun K => PySem.W.kitOne K (.ref (pp_c_InvalidPiece K)) (.type "KeyError") = some false, fun K => inferInstance⟩,
  ⟨fun K => PySem.W.kitOne K (.ref (pp_c_InvalidCount K)) (.type "KeyError") = some false, fun K => inferInstance⟩]
def fc_11 : List Pc := [
  ⟨fun K => PySem.W.kitOne K (.ref (pp_c_InvalidSizes K)) (.type "KeyError") = some false, fun K => inferInstance⟩,
  ⟨fun K => PySem.W.kitOne K (.ref (pp_c_InvalidSize K)) (.type "KeyError") = some false, fun K => inferInstance⟩,
  ⟨fun K => PySem.W.kitOne K (.ref (pp_c_NotReversible K)) (.type "KeyError") = some false, fun K => inferInstance⟩,
  ⟨fun K => PySem.W.kitOne K (.ref (pp_c_InvalidCommand K)) (.type "KeyError") = some false, fun K => inferInstance⟩,
  ⟨fun K => PySem.W.kitOne K (.ref (pp_c_Refused K)) (.type "KeyError") = some false, fun K => inferInstance⟩,
  ⟨fun K => PySem.W.kitOne K (.ref (pp_c_NoDeed K)) (.type "KeyError") = some false, fun K => inferInstance⟩,
  ⟨fun K => PySem.W.kitOne K (.ref (pp_c_UnknownName K)) (.type "KeyError") = some true, fun K => inferInstance⟩,
  ⟨fun K => PySem.W.kitOne K (.ref (pp_c_InvalidForm K)) (.ref (pp_c_NoDeed K)) = some false, fun K => inferInstance⟩,
  ⟨fun K => PySem.W.kitOne K (.ref (pp_c_InvalidText K)) (.ref (pp_c_NoDeed K)) = some false, fun K => inferInstance⟩,
  ⟨fun K => PySem.W.kitOne K (.ref (pp_c_InvalidPiece K)) (.ref (pp_c_NoDeed K)) = some false, fun K => inferInstance⟩,
  ⟨fun K => PySem.W.kitOne K (.ref (pp_c_InvalidCount K)) (.ref (pp_c_NoDeed K)) = some false, fun K => inferInstance⟩,
  ⟨fun K => PySem.W.kitOne K (.ref (pp_c_InvalidSizes K)) (.ref (pp_c_NoDeed K)) = some false, fun K => inferInstance⟩,
  ⟨fun K => PySem.W.kitOne K (.ref (pp_c_InvalidSize K)) (.ref (pp_c_NoDeed K)) = some false, fun K => inferInstance⟩,
  ⟨fun K => PySem.W.kitOne K (.ref (pp_c_NotReversible K)) (.ref (pp_c_NoDeed K)) = some false, fun K => inferInstance⟩,
  ⟨fun K => PySem.W.kitOne K (.ref (pp_c_InvalidCommand K)) (.ref (pp_c_NoDeed K)) = some false, fun K => inferInstance⟩,
  ⟨fun K => PySem.W.kitOne K (.ref (pp_c_Refused K)) (.ref (pp_c_NoDeed K)) = some false, fun K => inferInstance⟩,
  ⟨fun K => PySem.W.kitOne K (.ref (pp_c_UnknownName K)) (.ref (pp_c_NoDeed K)) = some false, fun K => inferInstance⟩,
  ⟨fun K => PySem.W.kitOne K (.ref (pp_c_InvalidForm K)) (.ref (pp_c_NotReversible K)) = some false, fun K => inferInstance⟩,
  ⟨fun K => PySem.W.kitOne K (.ref (pp_c_InvalidText K)) (.ref (pp_c_NotReversible K)) = some false, fun K => inferInstance⟩,
  ⟨fun K => PySem.W.kitOne K (.ref (pp_c_InvalidPiece K)) (.ref (pp_c_NotReversible K)) = some false, fun K => inferInstance⟩,
  ⟨fun K => PySem.W.kitOne K (.ref (pp_c_InvalidCount K)) (.ref (pp_c_NotReversible K)) = some false, fun K => inferInstance⟩,
  ⟨fun K => PySem.W.kitOne K (.ref (pp_c_InvalidSizes K)) (.ref (pp_c_NotReversible K)) = some false, fun K => inferInstance⟩,
  ⟨fun K => PySem.W.kitOne K (.ref (pp_c_InvalidSize K)) (.ref (pp_c_NotReversible K)) = some false, fun K => inferInstance⟩,
  ⟨fun K => PySem.W.kitOne K (.ref (pp_c_InvalidCommand K)) (.ref (pp_c_NotReversible K)) = some false, fun K => inferInstance⟩,
  ⟨fun K => PySem.W.kitOne K (.ref (pp_c_Refused K)) (.ref (pp_c_NotReversible K)) = some false, fun K => inferInstance⟩]
def fc_12 : List Pc := [
  ⟨fun K => PySem.W.kitOne K (.ref (pp_c_NoDeed K)) (.ref (pp_c_NotReversible K)) = some false, fun K => inferInstance⟩,
  ⟨fun K => PySem.W.kitOne K (.ref (pp_c_UnknownName K)) (.ref (pp_c_NotReversible K)) = some false, fun K => inferInstance⟩,
  ⟨fun K => PySem.W.kitOne K (.ref (pp_c_InvalidForm K)) (.ref (pp_c_Refused K)) = some false, fun K => inferInstance⟩,
  ⟨fun K => PySem.W.kitOne K (.ref (pp_c_InvalidText K)) (.ref (pp_c_Refused K)) = some false, fun K => inferInstance⟩,
  ⟨fun K => PySem.W.kitOne K (.ref (pp_c_InvalidPiece K)) (.ref (pp_c_Refused K)) = some false, fun K => inferInstance⟩,
  ⟨fun K => PySem.W.kitOne K (.ref (pp_c_InvalidCount K)) (.ref (pp_c_Refused K)) = some false, fun K => inferInstance⟩,
  ⟨fun K => PySem.W.kitOne K (.ref (pp_c_InvalidSizes K)) (.ref (pp_c_Refused K)) = some false, fun K => inferInstance⟩,
  ⟨fun K => PySem.W.kitOne K (.ref (pp_c_InvalidSize K)) (.ref (pp_c_Refused K)) = some false, fun K => inferInstance⟩,
  ⟨fun K => PySem.W.kitOne K (.ref (pp_c_NotReversible K)) (.ref (pp_c_Refused K)) = some false, fun K => inferInstance⟩,
  ⟨fun K => PySem.W.kitOne K (.ref (pp_c_InvalidCommand K)) (.ref (pp_c_Refused K)) = some false, fun K => inferInstance⟩,
  ⟨fun K => PySem.W.kitOne K (.ref (pp_c_NoDeed K)) (.ref (pp_c_Refused K)) = some false, fun K => inferInstance⟩,
  ⟨fun K => PySem.W.kitOne K (.ref (pp_c_UnknownName K)) (.ref (pp_c_Refused K)) = some false, fun K => inferInstance⟩,
  ⟨fun K => PySem.W.kitOne K (.ref (pp_c_InvalidForm K)) (.ref (pp_c_UnknownName K)) = some false, fun K => inferInstance⟩,
  ⟨fun K => PySem.W.kitOne K (.ref (pp_c_InvalidText K)) (.ref (pp_c_UnknownName K)) = some false, fun K => inferInstance⟩,
  ⟨fun K => PySem.W.kitOne K (.ref (pp_c_InvalidPiece K)) (.ref (pp_c_UnknownName K)) = some false, fun K => inferInstance⟩,
  ⟨fun K => PySem.W.kitOne K (.ref (pp_c_InvalidCount K)) (.ref (pp_c_UnknownName K)) = some false, fun K => inferInstance⟩,
  ⟨fun K => PySem.W.kitOne K (.ref (pp_c_InvalidSizes K)) (.ref (pp_c_UnknownName K)) = some false, fun K => inferInstance⟩,
  ⟨fun K => PySem.W.kitOne K (.ref (pp_c_InvalidSize K)) (.ref (pp_c_UnknownName K)) = some false, fun K => inferInstance⟩,
  ⟨fun K => PySem.W.kitOne K (.ref (pp_c_NotReversible K)) (.ref (pp_c_UnknownName K)) = some false, fun K => inferInstance⟩,
  ⟨fun K => PySem.W.kitOne K (.ref (pp_c_InvalidCommand K)) (.ref (pp_c_UnknownName K)) = some false, fun K => inferInstance⟩,
  ⟨fun K => PySem.W.kitOne K (.ref (pp_c_Refused K)) (.ref (pp_c_UnknownName K)) = some false, fun K => inferInstance⟩,
  ⟨fun K => PySem.W.kitOne K (.ref (pp_c_NoDeed K)) (.ref (pp_c_UnknownName K)) = some false, fun K => inferInstance⟩,
  ⟨fun K => PySem.W.kitOne K (.ref (pp_c_InvalidForm K)) (.type "ValueError") = some true, fun K => inferInstance⟩,
  ⟨fun K => PySem.W.kitOne K (.ref (pp_c_InvalidText K)) (.type "ValueError") = some true, fun K => inferInstance⟩,
  ⟨fun K => PySem.W.kitOne K (.ref (pp_c_InvalidPiece K)) (.type "ValueError") = some true, fun K => inferInstance⟩]
def fc_13 : List Pc := [
  ⟨fun K => PySem.W.kitOne K (.ref (pp_c_InvalidCount K)) (.type "ValueError") = some true, fun K => inferInstance⟩,
  ⟨fun K => PySem.W.kitOne K (.ref (pp_c_InvalidSizes K)) (.type "ValueError") = some true, fun K => inferInstance⟩,
  ⟨fun K => PySem.W.kitOne K (.ref (pp_c_InvalidSize K)) (.type "ValueError") = some true, fun K => inferInstance⟩,
  ⟨fun K => PySem.W.kitOne K (.ref (pp_c_NotReversible K)) (.type "ValueError") = some true, fun K => inferInstance⟩,
  ⟨fun K => PySem.W.kitOne K (.ref (pp_c_InvalidCommand K)) (.type "ValueError") = some true, fun K => inferInstance⟩,
  ⟨fun K => PySem.W.kitOne K (.ref (pp_c_Refused K)) (.type "ValueError") = some true, fun K => inferInstance⟩,
  ⟨fun K => PySem.W.kitOne K (.ref (pp_c_NoDeed K)) (.type "ValueError") = some false, fun K => inferInstance⟩,
  ⟨fun K => PySem.W.kitOne K (.ref (pp_c_UnknownName K)) (.type "ValueError") = some false, fun K => inferInstance⟩,
  ⟨fun K => PySem.W.findCls K (.type "IndexError") (.type "type") "__init__" = some (.val (.builtin "IndexError.__init__")), fun K => inferInstance⟩,
  ⟨fun K => PySem.W.findCls K (.type "KeyError") (.type "type") "__init__" = some (.val (.builtin "KeyError.__init__")), fun K => inferInstance⟩]
def fcl : List Pc := fc_0 ++ fc_1 ++ fc_2 ++ fc_3 ++ fc_4 ++ fc_5 ++ fc_6 ++ fc_7 ++ fc_8 ++ fc_9 ++ fc_10 ++ fc_11 ++ fc_12 ++ fc_13
def tab (c_InvalidForm : Addr) (c_InvalidText : Addr) (c_InvalidPiece : Addr) (c_InvalidCount : Addr) (c_InvalidSizes : Addr) (c_InvalidSize : Addr) (c_NotReversible : Addr) (c_InvalidCommand : Addr) (c_Refused : Addr) (c_NoDeed : Addr) (c_UnknownName : Addr) : Tab := fun n => match n with | 2 => some (c_InvalidForm, ([] : List Str)) | 3 => some (c_InvalidText, (["line"] : List Str)) | 4 => some (c_InvalidPiece, (["at", "word"] : List Str)) | 5 => some (c_InvalidCount, (["word"] : List Str)) | 6 => some (c_InvalidSizes, (["word"] : List Str)) | 7 => some (c_InvalidSize, (["size"] : List Str)) | 8 => some (c_NotReversible, (["at"] : List Str)) | 9 => some (c_InvalidCommand, ([] : List Str)) | 10 => some (c_Refused, (["at"] : List Str)) | 11 => some (c_NoDeed, (["at"] : List Str)) | 12 => some (c_UnknownName, (["name"] : List Str)) | _ => none
set_option maxHeartbeats 0 in
theorem all_mk {P : Program} {w : World} {K : PySem.W.Frag} {h : Heap} {mg : Str → Option Value} {fa : Addr} (X : K.In h) (G : h.Ns mainGlobals mg) (hfa : mg "law" = some (.ref fa)) (c : SaysX fcl fnl K) : ∃ fd : FuncData, (∀ (s : Shared) (v : Value), BindsTo s fd ⟨[v], []⟩ [("_law_script", v)]) ∧ ∀ base : Heap, K.In base → base.Ns mainGlobals mg → FnG P w K mg base CX0 6 fa fd ["_law_script"] (spL K) := by
  have aC_ClashError : PySem.W.nsIn K mainGlobals "ClashError" = some (some (.ref (pp_c_ClashError K))) := c.fact 0
  have iX_ClashError : CIn K (pp_c_ClashError K) := c.fact 1
  have bs_ClashError : PySem.W.subIn K (.ref (pp_c_ClashError K)) (.type "BaseException") = some true := c.fact 2
  have hd_ClashError : PySem.W.hasDictIn K (pp_c_ClashError K) = true := c.fact 3
  have aC_InvalidForm : PySem.W.nsIn K mainGlobals "InvalidForm" = some (some (.ref (pp_c_InvalidForm K))) := c.fact 4
  have oX_InvalidForm : OexB K (pp_c_InvalidForm K) veT "ValueError.__new__" := c.fact 5
  have xX_InvalidForm : ExcC K (pp_c_InvalidForm K) := c.fact 6
  have fX_InvalidForm : XfC K (pp_c_InvalidForm K) := c.fact 7
  have aC_InvalidText : PySem.W.nsIn K mainGlobals "InvalidText" = some (some (.ref (pp_c_InvalidText K))) := c.fact 8
  have oX_InvalidText : OexB K (pp_c_InvalidText K) veT "ValueError.__new__" := c.fact 9
  have xX_InvalidText : ExcC K (pp_c_InvalidText K) := c.fact 10
  have fX_InvalidText : XfC K (pp_c_InvalidText K) := c.fact 11
  have no_InvalidText_line : PySem.W.findIn K (.ref (pp_c_InvalidText K)) "line" = some none := c.fact 12
  have aC_InvalidPiece : PySem.W.nsIn K mainGlobals "InvalidPiece" = some (some (.ref (pp_c_InvalidPiece K))) := c.fact 13
  have oX_InvalidPiece : OexB K (pp_c_InvalidPiece K) veT "ValueError.__new__" := c.fact 14
  have xX_InvalidPiece : ExcC K (pp_c_InvalidPiece K) := c.fact 15
  have fX_InvalidPiece : XfC K (pp_c_InvalidPiece K) := c.fact 16
  have no_InvalidPiece_at : PySem.W.findIn K (.ref (pp_c_InvalidPiece K)) "at" = some none := c.fact 17
  have no_InvalidPiece_word : PySem.W.findIn K (.ref (pp_c_InvalidPiece K)) "word" = some none := c.fact 18
  have aC_InvalidCount : PySem.W.nsIn K mainGlobals "InvalidCount" = some (some (.ref (pp_c_InvalidCount K))) := c.fact 19
  have oX_InvalidCount : OexB K (pp_c_InvalidCount K) veT "ValueError.__new__" := c.fact 20
  have xX_InvalidCount : ExcC K (pp_c_InvalidCount K) := c.fact 21
  have fX_InvalidCount : XfC K (pp_c_InvalidCount K) := c.fact 22
  have no_InvalidCount_word : PySem.W.findIn K (.ref (pp_c_InvalidCount K)) "word" = some none := c.fact 23
  have aC_InvalidSizes : PySem.W.nsIn K mainGlobals "InvalidSizes" = some (some (.ref (pp_c_InvalidSizes K))) := c.fact 24
  have oX_InvalidSizes : OexB K (pp_c_InvalidSizes K) veT "ValueError.__new__" := c.fact 25
  have xX_InvalidSizes : ExcC K (pp_c_InvalidSizes K) := c.fact 26
  have fX_InvalidSizes : XfC K (pp_c_InvalidSizes K) := c.fact 27
  have no_InvalidSizes_word : PySem.W.findIn K (.ref (pp_c_InvalidSizes K)) "word" = some none := c.fact 28
  have aC_InvalidSize : PySem.W.nsIn K mainGlobals "InvalidSize" = some (some (.ref (pp_c_InvalidSize K))) := c.fact 29
  have oX_InvalidSize : OexB K (pp_c_InvalidSize K) veT "ValueError.__new__" := c.fact 30
  have xX_InvalidSize : ExcC K (pp_c_InvalidSize K) := c.fact 31
  have fX_InvalidSize : XfC K (pp_c_InvalidSize K) := c.fact 32
  have no_InvalidSize_size : PySem.W.findIn K (.ref (pp_c_InvalidSize K)) "size" = some none := c.fact 33
  have aC_NotReversible : PySem.W.nsIn K mainGlobals "NotReversible" = some (some (.ref (pp_c_NotReversible K))) := c.fact 34
  have oX_NotReversible : OexB K (pp_c_NotReversible K) veT "ValueError.__new__" := c.fact 35
  have xX_NotReversible : ExcC K (pp_c_NotReversible K) := c.fact 36
  have fX_NotReversible : XfC K (pp_c_NotReversible K) := c.fact 37
  have no_NotReversible_at : PySem.W.findIn K (.ref (pp_c_NotReversible K)) "at" = some none := c.fact 38
  have aC_InvalidCommand : PySem.W.nsIn K mainGlobals "InvalidCommand" = some (some (.ref (pp_c_InvalidCommand K))) := c.fact 39
  have oX_InvalidCommand : OexB K (pp_c_InvalidCommand K) veT "ValueError.__new__" := c.fact 40
  have xX_InvalidCommand : ExcC K (pp_c_InvalidCommand K) := c.fact 41
  have fX_InvalidCommand : XfC K (pp_c_InvalidCommand K) := c.fact 42
  have aC_Refused : PySem.W.nsIn K mainGlobals "Refused" = some (some (.ref (pp_c_Refused K))) := c.fact 43
  have oX_Refused : OexB K (pp_c_Refused K) veT "ValueError.__new__" := c.fact 44
  have xX_Refused : ExcC K (pp_c_Refused K) := c.fact 45
  have fX_Refused : XfC K (pp_c_Refused K) := c.fact 46
  have no_Refused_at : PySem.W.findIn K (.ref (pp_c_Refused K)) "at" = some none := c.fact 47
  have aC_NoDeed : PySem.W.nsIn K mainGlobals "NoDeed" = some (some (.ref (pp_c_NoDeed K))) := c.fact 48
  have oX_NoDeed : OexB K (pp_c_NoDeed K) ieT "IndexError.__new__" := c.fact 49
  have xX_NoDeed : ExcC K (pp_c_NoDeed K) := c.fact 50
  have fX_NoDeed : XfC K (pp_c_NoDeed K) := c.fact 51
  have no_NoDeed_at : PySem.W.findIn K (.ref (pp_c_NoDeed K)) "at" = some none := c.fact 52
  have aC_UnknownName : PySem.W.nsIn K mainGlobals "UnknownName" = some (some (.ref (pp_c_UnknownName K))) := c.fact 53
  have oX_UnknownName : OexB K (pp_c_UnknownName K) keT "LookupError.__new__" := c.fact 54
  have xX_UnknownName : ExcC K (pp_c_UnknownName K) := c.fact 55
  have fX_UnknownName : XfC K (pp_c_UnknownName K) := c.fact 56
  have no_UnknownName_name : PySem.W.findIn K (.ref (pp_c_UnknownName K)) "name" = some none := c.fact 57
  have z_IndexError : PySem.W.nsIn K mainGlobals "IndexError" = some none := c.fact 58
  have z_KeyError : PySem.W.nsIn K mainGlobals "KeyError" = some none := c.fact 59
  have z_ValueError : PySem.W.nsIn K mainGlobals "ValueError" = some none := c.fact 60
  have z_enumerate : PySem.W.nsIn K mainGlobals "enumerate" = some none := c.fact 61
  have z_int : PySem.W.nsIn K mainGlobals "int" = some none := c.fact 62
  have z_isinstance : PySem.W.nsIn K mainGlobals "isinstance" = some none := c.fact 63
  have z_len : PySem.W.nsIn K mainGlobals "len" = some none := c.fact 64
  have z_max : PySem.W.nsIn K mainGlobals "max" = some none := c.fact 65
  have z_min : PySem.W.nsIn K mainGlobals "min" = some none := c.fact 66
  have z_range : PySem.W.nsIn K mainGlobals "range" = some none := c.fact 67
  have z_repr : PySem.W.nsIn K mainGlobals "repr" = some none := c.fact 68
  have z_tuple : PySem.W.nsIn K mainGlobals "tuple" = some none := c.fact 69
  have at__law_feed : PySem.W.nsIn K mainGlobals "_law_feed" = some (some (.ref (pp_a__law_feed K))) := c.fact 70
  have at_InvalidText___init__ : PySem.W.findIn K (.ref (pp_c_InvalidText K)) "__init__" = some (some (.ref (pp_a_InvalidText___init__ K))) := c.fact 71
  have ty_InvalidText___init__ : PySem.W.typeIn K (.ref (pp_a_InvalidText___init__ K)) = some (.type "function") := c.fact 72
  have at__law_take : PySem.W.nsIn K mainGlobals "_law_take" = some (some (.ref (pp_a__law_take K))) := c.fact 73
  have at__law_value : PySem.W.nsIn K mainGlobals "_law_value" = some (some (.ref (pp_a__law_value K))) := c.fact 74
  have at_InvalidForm___init__ : PySem.W.findIn K (.ref (pp_c_InvalidForm K)) "__init__" = some (some (.ref (pp_a_InvalidForm___init__ K))) := c.fact 75
  have ty_InvalidForm___init__ : PySem.W.typeIn K (.ref (pp_a_InvalidForm___init__ K)) = some (.type "function") := c.fact 76
  have at_InvalidPiece___init__ : PySem.W.findIn K (.ref (pp_c_InvalidPiece K)) "__init__" = some (some (.ref (pp_a_InvalidPiece___init__ K))) := c.fact 77
  have ty_InvalidPiece___init__ : PySem.W.typeIn K (.ref (pp_a_InvalidPiece___init__ K)) = some (.type "function") := c.fact 78
  have at_InvalidCount___init__ : PySem.W.findIn K (.ref (pp_c_InvalidCount K)) "__init__" = some (some (.ref (pp_a_InvalidCount___init__ K))) := c.fact 79
  have ty_InvalidCount___init__ : PySem.W.typeIn K (.ref (pp_a_InvalidCount___init__ K)) = some (.type "function") := c.fact 80
  have at_InvalidSizes___init__ : PySem.W.findIn K (.ref (pp_c_InvalidSizes K)) "__init__" = some (some (.ref (pp_a_InvalidSizes___init__ K))) := c.fact 81
  have ty_InvalidSizes___init__ : PySem.W.typeIn K (.ref (pp_a_InvalidSizes___init__ K)) = some (.type "function") := c.fact 82
  have at_InvalidSize___init__ : PySem.W.findIn K (.ref (pp_c_InvalidSize K)) "__init__" = some (some (.ref (pp_a_InvalidSize___init__ K))) := c.fact 83
  have ty_InvalidSize___init__ : PySem.W.typeIn K (.ref (pp_a_InvalidSize___init__ K)) = some (.type "function") := c.fact 84
  have at_NotReversible___init__ : PySem.W.findIn K (.ref (pp_c_NotReversible K)) "__init__" = some (some (.ref (pp_a_NotReversible___init__ K))) := c.fact 85
  have ty_NotReversible___init__ : PySem.W.typeIn K (.ref (pp_a_NotReversible___init__ K)) = some (.type "function") := c.fact 86
  have at_InvalidCommand___init__ : PySem.W.findIn K (.ref (pp_c_InvalidCommand K)) "__init__" = some (some (.ref (pp_a_InvalidCommand___init__ K))) := c.fact 87
  have ty_InvalidCommand___init__ : PySem.W.typeIn K (.ref (pp_a_InvalidCommand___init__ K)) = some (.type "function") := c.fact 88
  have at_Refused___init__ : PySem.W.findIn K (.ref (pp_c_Refused K)) "__init__" = some (some (.ref (pp_a_Refused___init__ K))) := c.fact 89
  have ty_Refused___init__ : PySem.W.typeIn K (.ref (pp_a_Refused___init__ K)) = some (.type "function") := c.fact 90
  have at_NoDeed___init__ : PySem.W.findIn K (.ref (pp_c_NoDeed K)) "__init__" = some (some (.ref (pp_a_NoDeed___init__ K))) := c.fact 91
  have ty_NoDeed___init__ : PySem.W.typeIn K (.ref (pp_a_NoDeed___init__ K)) = some (.type "function") := c.fact 92
  have at_UnknownName___init__ : PySem.W.findIn K (.ref (pp_c_UnknownName K)) "__init__" = some (some (.ref (pp_a_UnknownName___init__ K))) := c.fact 93
  have ty_UnknownName___init__ : PySem.W.typeIn K (.ref (pp_a_UnknownName___init__ K)) = some (.type "function") := c.fact 94
  have at__law_errors : PySem.W.nsIn K mainGlobals "_law_errors" = some (some (.ref (pp_a__law_errors K))) := c.fact 95
  have at__law_named : PySem.W.nsIn K mainGlobals "_law_named" = some (some (.ref (pp_a__law_named K))) := c.fact 96
  have at__law_caught : PySem.W.nsIn K mainGlobals "_law_caught" = some (some (.ref (pp_a__law_caught K))) := c.fact 97
  have at__law_classes : PySem.W.nsIn K mainGlobals "_law_classes" = some (some (.ref (pp_a__law_classes K))) := c.fact 98
  have at__law_kept : PySem.W.nsIn K mainGlobals "_law_kept" = some (some (.ref (pp_a__law_kept K))) := c.fact 99
  have at_law : PySem.W.nsIn K mainGlobals "law" = some (some (.ref (pp_a_law K))) := c.fact 100
  have ex_InvalidForm_ClashError : PySem.W.exmOne K (.ref (pp_c_InvalidForm K)) (.ref (pp_c_ClashError K)) = some true := c.fact 101
  have ex_InvalidText_ClashError : PySem.W.exmOne K (.ref (pp_c_InvalidText K)) (.ref (pp_c_ClashError K)) = some true := c.fact 102
  have ex_InvalidPiece_ClashError : PySem.W.exmOne K (.ref (pp_c_InvalidPiece K)) (.ref (pp_c_ClashError K)) = some true := c.fact 103
  have ex_InvalidCount_ClashError : PySem.W.exmOne K (.ref (pp_c_InvalidCount K)) (.ref (pp_c_ClashError K)) = some true := c.fact 104
  have ex_InvalidSizes_ClashError : PySem.W.exmOne K (.ref (pp_c_InvalidSizes K)) (.ref (pp_c_ClashError K)) = some true := c.fact 105
  have ex_InvalidSize_ClashError : PySem.W.exmOne K (.ref (pp_c_InvalidSize K)) (.ref (pp_c_ClashError K)) = some true := c.fact 106
  have ex_NotReversible_ClashError : PySem.W.exmOne K (.ref (pp_c_NotReversible K)) (.ref (pp_c_ClashError K)) = some true := c.fact 107
  have ex_InvalidCommand_ClashError : PySem.W.exmOne K (.ref (pp_c_InvalidCommand K)) (.ref (pp_c_ClashError K)) = some true := c.fact 108
  have ex_Refused_ClashError : PySem.W.exmOne K (.ref (pp_c_Refused K)) (.ref (pp_c_ClashError K)) = some true := c.fact 109
  have ex_NoDeed_ClashError : PySem.W.exmOne K (.ref (pp_c_NoDeed K)) (.ref (pp_c_ClashError K)) = some false := c.fact 110
  have ex_UnknownName_ClashError : PySem.W.exmOne K (.ref (pp_c_UnknownName K)) (.ref (pp_c_ClashError K)) = some false := c.fact 111
  have ex_InvalidForm_KeyError : PySem.W.exmOne K (.ref (pp_c_InvalidForm K)) (.type "KeyError") = some false := c.fact 112
  have ex_InvalidText_KeyError : PySem.W.exmOne K (.ref (pp_c_InvalidText K)) (.type "KeyError") = some false := c.fact 113
  have ex_InvalidPiece_KeyError : PySem.W.exmOne K (.ref (pp_c_InvalidPiece K)) (.type "KeyError") = some false := c.fact 114
  have ex_InvalidCount_KeyError : PySem.W.exmOne K (.ref (pp_c_InvalidCount K)) (.type "KeyError") = some false := c.fact 115
  have ex_InvalidSizes_KeyError : PySem.W.exmOne K (.ref (pp_c_InvalidSizes K)) (.type "KeyError") = some false := c.fact 116
  have ex_InvalidSize_KeyError : PySem.W.exmOne K (.ref (pp_c_InvalidSize K)) (.type "KeyError") = some false := c.fact 117
  have ex_NotReversible_KeyError : PySem.W.exmOne K (.ref (pp_c_NotReversible K)) (.type "KeyError") = some false := c.fact 118
  have ex_InvalidCommand_KeyError : PySem.W.exmOne K (.ref (pp_c_InvalidCommand K)) (.type "KeyError") = some false := c.fact 119
  have ex_Refused_KeyError : PySem.W.exmOne K (.ref (pp_c_Refused K)) (.type "KeyError") = some false := c.fact 120
  have ex_NoDeed_KeyError : PySem.W.exmOne K (.ref (pp_c_NoDeed K)) (.type "KeyError") = some false := c.fact 121
  have ex_UnknownName_KeyError : PySem.W.exmOne K (.ref (pp_c_UnknownName K)) (.type "KeyError") = some true := c.fact 122
  have ex_InvalidForm_NoDeed : PySem.W.exmOne K (.ref (pp_c_InvalidForm K)) (.ref (pp_c_NoDeed K)) = some false := c.fact 123
  have ex_InvalidText_NoDeed : PySem.W.exmOne K (.ref (pp_c_InvalidText K)) (.ref (pp_c_NoDeed K)) = some false := c.fact 124
  have ex_InvalidPiece_NoDeed : PySem.W.exmOne K (.ref (pp_c_InvalidPiece K)) (.ref (pp_c_NoDeed K)) = some false := c.fact 125
  have ex_InvalidCount_NoDeed : PySem.W.exmOne K (.ref (pp_c_InvalidCount K)) (.ref (pp_c_NoDeed K)) = some false := c.fact 126
  have ex_InvalidSizes_NoDeed : PySem.W.exmOne K (.ref (pp_c_InvalidSizes K)) (.ref (pp_c_NoDeed K)) = some false := c.fact 127
  have ex_InvalidSize_NoDeed : PySem.W.exmOne K (.ref (pp_c_InvalidSize K)) (.ref (pp_c_NoDeed K)) = some false := c.fact 128
  have ex_NotReversible_NoDeed : PySem.W.exmOne K (.ref (pp_c_NotReversible K)) (.ref (pp_c_NoDeed K)) = some false := c.fact 129
  have ex_InvalidCommand_NoDeed : PySem.W.exmOne K (.ref (pp_c_InvalidCommand K)) (.ref (pp_c_NoDeed K)) = some false := c.fact 130
  have ex_Refused_NoDeed : PySem.W.exmOne K (.ref (pp_c_Refused K)) (.ref (pp_c_NoDeed K)) = some false := c.fact 131
  have ex_NoDeed_NoDeed : PySem.W.exmOne K (.ref (pp_c_NoDeed K)) (.ref (pp_c_NoDeed K)) = some true := c.fact 132
  have ex_UnknownName_NoDeed : PySem.W.exmOne K (.ref (pp_c_UnknownName K)) (.ref (pp_c_NoDeed K)) = some false := c.fact 133
  have no_InvalidForm_at : PySem.W.findIn K (.ref (pp_c_InvalidForm K)) "at" = some none := c.fact 134
  have no_InvalidText_at : PySem.W.findIn K (.ref (pp_c_InvalidText K)) "at" = some none := c.fact 135
  have no_InvalidCount_at : PySem.W.findIn K (.ref (pp_c_InvalidCount K)) "at" = some none := c.fact 136
  have no_InvalidSizes_at : PySem.W.findIn K (.ref (pp_c_InvalidSizes K)) "at" = some none := c.fact 137
  have no_InvalidSize_at : PySem.W.findIn K (.ref (pp_c_InvalidSize K)) "at" = some none := c.fact 138
  have no_InvalidCommand_at : PySem.W.findIn K (.ref (pp_c_InvalidCommand K)) "at" = some none := c.fact 139
  have no_UnknownName_at : PySem.W.findIn K (.ref (pp_c_UnknownName K)) "at" = some none := c.fact 140
  have no_InvalidForm_line : PySem.W.findIn K (.ref (pp_c_InvalidForm K)) "line" = some none := c.fact 141
  have no_InvalidPiece_line : PySem.W.findIn K (.ref (pp_c_InvalidPiece K)) "line" = some none := c.fact 142
  have no_InvalidCount_line : PySem.W.findIn K (.ref (pp_c_InvalidCount K)) "line" = some none := c.fact 143
  have no_InvalidSizes_line : PySem.W.findIn K (.ref (pp_c_InvalidSizes K)) "line" = some none := c.fact 144
  have no_InvalidSize_line : PySem.W.findIn K (.ref (pp_c_InvalidSize K)) "line" = some none := c.fact 145
  have no_NotReversible_line : PySem.W.findIn K (.ref (pp_c_NotReversible K)) "line" = some none := c.fact 146
  have no_InvalidCommand_line : PySem.W.findIn K (.ref (pp_c_InvalidCommand K)) "line" = some none := c.fact 147
  have no_Refused_line : PySem.W.findIn K (.ref (pp_c_Refused K)) "line" = some none := c.fact 148
  have no_NoDeed_line : PySem.W.findIn K (.ref (pp_c_NoDeed K)) "line" = some none := c.fact 149
  have no_UnknownName_line : PySem.W.findIn K (.ref (pp_c_UnknownName K)) "line" = some none := c.fact 150
  have no_InvalidForm_name : PySem.W.findIn K (.ref (pp_c_InvalidForm K)) "name" = some none := c.fact 151
  have no_InvalidText_name : PySem.W.findIn K (.ref (pp_c_InvalidText K)) "name" = some none := c.fact 152
  have no_InvalidPiece_name : PySem.W.findIn K (.ref (pp_c_InvalidPiece K)) "name" = some none := c.fact 153
  have no_InvalidCount_name : PySem.W.findIn K (.ref (pp_c_InvalidCount K)) "name" = some none := c.fact 154
  have no_InvalidSizes_name : PySem.W.findIn K (.ref (pp_c_InvalidSizes K)) "name" = some none := c.fact 155
  have no_InvalidSize_name : PySem.W.findIn K (.ref (pp_c_InvalidSize K)) "name" = some none := c.fact 156
  have no_NotReversible_name : PySem.W.findIn K (.ref (pp_c_NotReversible K)) "name" = some none := c.fact 157
  have no_InvalidCommand_name : PySem.W.findIn K (.ref (pp_c_InvalidCommand K)) "name" = some none := c.fact 158
  have no_Refused_name : PySem.W.findIn K (.ref (pp_c_Refused K)) "name" = some none := c.fact 159
  have no_NoDeed_name : PySem.W.findIn K (.ref (pp_c_NoDeed K)) "name" = some none := c.fact 160
  have no_InvalidForm_size : PySem.W.findIn K (.ref (pp_c_InvalidForm K)) "size" = some none := c.fact 161
  have no_InvalidText_size : PySem.W.findIn K (.ref (pp_c_InvalidText K)) "size" = some none := c.fact 162
  have no_InvalidPiece_size : PySem.W.findIn K (.ref (pp_c_InvalidPiece K)) "size" = some none := c.fact 163
  have no_InvalidCount_size : PySem.W.findIn K (.ref (pp_c_InvalidCount K)) "size" = some none := c.fact 164
  have no_InvalidSizes_size : PySem.W.findIn K (.ref (pp_c_InvalidSizes K)) "size" = some none := c.fact 165
  have no_NotReversible_size : PySem.W.findIn K (.ref (pp_c_NotReversible K)) "size" = some none := c.fact 166
  have no_InvalidCommand_size : PySem.W.findIn K (.ref (pp_c_InvalidCommand K)) "size" = some none := c.fact 167
  have no_Refused_size : PySem.W.findIn K (.ref (pp_c_Refused K)) "size" = some none := c.fact 168
  have no_NoDeed_size : PySem.W.findIn K (.ref (pp_c_NoDeed K)) "size" = some none := c.fact 169
  have no_UnknownName_size : PySem.W.findIn K (.ref (pp_c_UnknownName K)) "size" = some none := c.fact 170
  have no_InvalidForm_word : PySem.W.findIn K (.ref (pp_c_InvalidForm K)) "word" = some none := c.fact 171
  have no_InvalidText_word : PySem.W.findIn K (.ref (pp_c_InvalidText K)) "word" = some none := c.fact 172
  have no_InvalidSize_word : PySem.W.findIn K (.ref (pp_c_InvalidSize K)) "word" = some none := c.fact 173
  have no_NotReversible_word : PySem.W.findIn K (.ref (pp_c_NotReversible K)) "word" = some none := c.fact 174
  have no_InvalidCommand_word : PySem.W.findIn K (.ref (pp_c_InvalidCommand K)) "word" = some none := c.fact 175
  have no_Refused_word : PySem.W.findIn K (.ref (pp_c_Refused K)) "word" = some none := c.fact 176
  have no_NoDeed_word : PySem.W.findIn K (.ref (pp_c_NoDeed K)) "word" = some none := c.fact 177
  have no_UnknownName_word : PySem.W.findIn K (.ref (pp_c_UnknownName K)) "word" = some none := c.fact 178
  have kt_InvalidForm_ClashError : PySem.W.kitOne K (.ref (pp_c_InvalidForm K)) (.ref (pp_c_ClashError K)) = some true := c.fact 179
  have kt_InvalidText_ClashError : PySem.W.kitOne K (.ref (pp_c_InvalidText K)) (.ref (pp_c_ClashError K)) = some true := c.fact 180
  have kt_InvalidPiece_ClashError : PySem.W.kitOne K (.ref (pp_c_InvalidPiece K)) (.ref (pp_c_ClashError K)) = some true := c.fact 181
  have kt_InvalidCount_ClashError : PySem.W.kitOne K (.ref (pp_c_InvalidCount K)) (.ref (pp_c_ClashError K)) = some true := c.fact 182
  have kt_InvalidSizes_ClashError : PySem.W.kitOne K (.ref (pp_c_InvalidSizes K)) (.ref (pp_c_ClashError K)) = some true := c.fact 183
  have kt_InvalidSize_ClashError : PySem.W.kitOne K (.ref (pp_c_InvalidSize K)) (.ref (pp_c_ClashError K)) = some true := c.fact 184
  have kt_NotReversible_ClashError : PySem.W.kitOne K (.ref (pp_c_NotReversible K)) (.ref (pp_c_ClashError K)) = some true := c.fact 185
  have kt_InvalidCommand_ClashError : PySem.W.kitOne K (.ref (pp_c_InvalidCommand K)) (.ref (pp_c_ClashError K)) = some true := c.fact 186
  have kt_Refused_ClashError : PySem.W.kitOne K (.ref (pp_c_Refused K)) (.ref (pp_c_ClashError K)) = some true := c.fact 187
  have kt_NoDeed_ClashError : PySem.W.kitOne K (.ref (pp_c_NoDeed K)) (.ref (pp_c_ClashError K)) = some false := c.fact 188
  have kt_UnknownName_ClashError : PySem.W.kitOne K (.ref (pp_c_UnknownName K)) (.ref (pp_c_ClashError K)) = some false := c.fact 189
  have kt_InvalidForm_IndexError : PySem.W.kitOne K (.ref (pp_c_InvalidForm K)) (.type "IndexError") = some false := c.fact 190
  have kt_InvalidText_IndexError : PySem.W.kitOne K (.ref (pp_c_InvalidText K)) (.type "IndexError") = some false := c.fact 191
  have kt_InvalidPiece_IndexError : PySem.W.kitOne K (.ref (pp_c_InvalidPiece K)) (.type "IndexError") = some false := c.fact 192
  have kt_InvalidCount_IndexError : PySem.W.kitOne K (.ref (pp_c_InvalidCount K)) (.type "IndexError") = some false := c.fact 193
  have kt_InvalidSizes_IndexError : PySem.W.kitOne K (.ref (pp_c_InvalidSizes K)) (.type "IndexError") = some false := c.fact 194
  have kt_InvalidSize_IndexError : PySem.W.kitOne K (.ref (pp_c_InvalidSize K)) (.type "IndexError") = some false := c.fact 195
  have kt_NotReversible_IndexError : PySem.W.kitOne K (.ref (pp_c_NotReversible K)) (.type "IndexError") = some false := c.fact 196
  have kt_InvalidCommand_IndexError : PySem.W.kitOne K (.ref (pp_c_InvalidCommand K)) (.type "IndexError") = some false := c.fact 197
  have kt_Refused_IndexError : PySem.W.kitOne K (.ref (pp_c_Refused K)) (.type "IndexError") = some false := c.fact 198
  have kt_NoDeed_IndexError : PySem.W.kitOne K (.ref (pp_c_NoDeed K)) (.type "IndexError") = some true := c.fact 199
  have kt_UnknownName_IndexError : PySem.W.kitOne K (.ref (pp_c_UnknownName K)) (.type "IndexError") = some false := c.fact 200
  have kt_InvalidForm_InvalidCommand : PySem.W.kitOne K (.ref (pp_c_InvalidForm K)) (.ref (pp_c_InvalidCommand K)) = some false := c.fact 201
  have kt_InvalidText_InvalidCommand : PySem.W.kitOne K (.ref (pp_c_InvalidText K)) (.ref (pp_c_InvalidCommand K)) = some false := c.fact 202
  have kt_InvalidPiece_InvalidCommand : PySem.W.kitOne K (.ref (pp_c_InvalidPiece K)) (.ref (pp_c_InvalidCommand K)) = some false := c.fact 203
  have kt_InvalidCount_InvalidCommand : PySem.W.kitOne K (.ref (pp_c_InvalidCount K)) (.ref (pp_c_InvalidCommand K)) = some false := c.fact 204
  have kt_InvalidSizes_InvalidCommand : PySem.W.kitOne K (.ref (pp_c_InvalidSizes K)) (.ref (pp_c_InvalidCommand K)) = some false := c.fact 205
  have kt_InvalidSize_InvalidCommand : PySem.W.kitOne K (.ref (pp_c_InvalidSize K)) (.ref (pp_c_InvalidCommand K)) = some false := c.fact 206
  have kt_NotReversible_InvalidCommand : PySem.W.kitOne K (.ref (pp_c_NotReversible K)) (.ref (pp_c_InvalidCommand K)) = some false := c.fact 207
  have kt_Refused_InvalidCommand : PySem.W.kitOne K (.ref (pp_c_Refused K)) (.ref (pp_c_InvalidCommand K)) = some false := c.fact 208
  have kt_NoDeed_InvalidCommand : PySem.W.kitOne K (.ref (pp_c_NoDeed K)) (.ref (pp_c_InvalidCommand K)) = some false := c.fact 209
  have kt_UnknownName_InvalidCommand : PySem.W.kitOne K (.ref (pp_c_UnknownName K)) (.ref (pp_c_InvalidCommand K)) = some false := c.fact 210
  have kt_InvalidForm_InvalidCount : PySem.W.kitOne K (.ref (pp_c_InvalidForm K)) (.ref (pp_c_InvalidCount K)) = some false := c.fact 211
  have kt_InvalidText_InvalidCount : PySem.W.kitOne K (.ref (pp_c_InvalidText K)) (.ref (pp_c_InvalidCount K)) = some false := c.fact 212
  have kt_InvalidPiece_InvalidCount : PySem.W.kitOne K (.ref (pp_c_InvalidPiece K)) (.ref (pp_c_InvalidCount K)) = some false := c.fact 213
  have kt_InvalidSizes_InvalidCount : PySem.W.kitOne K (.ref (pp_c_InvalidSizes K)) (.ref (pp_c_InvalidCount K)) = some false := c.fact 214
  have kt_InvalidSize_InvalidCount : PySem.W.kitOne K (.ref (pp_c_InvalidSize K)) (.ref (pp_c_InvalidCount K)) = some false := c.fact 215
  have kt_NotReversible_InvalidCount : PySem.W.kitOne K (.ref (pp_c_NotReversible K)) (.ref (pp_c_InvalidCount K)) = some false := c.fact 216
  have kt_InvalidCommand_InvalidCount : PySem.W.kitOne K (.ref (pp_c_InvalidCommand K)) (.ref (pp_c_InvalidCount K)) = some false := c.fact 217
  have kt_Refused_InvalidCount : PySem.W.kitOne K (.ref (pp_c_Refused K)) (.ref (pp_c_InvalidCount K)) = some false := c.fact 218
  have kt_NoDeed_InvalidCount : PySem.W.kitOne K (.ref (pp_c_NoDeed K)) (.ref (pp_c_InvalidCount K)) = some false := c.fact 219
  have kt_UnknownName_InvalidCount : PySem.W.kitOne K (.ref (pp_c_UnknownName K)) (.ref (pp_c_InvalidCount K)) = some false := c.fact 220
  have kt_InvalidForm_InvalidSizes : PySem.W.kitOne K (.ref (pp_c_InvalidForm K)) (.ref (pp_c_InvalidSizes K)) = some false := c.fact 221
  have kt_InvalidText_InvalidSizes : PySem.W.kitOne K (.ref (pp_c_InvalidText K)) (.ref (pp_c_InvalidSizes K)) = some false := c.fact 222
  have kt_InvalidPiece_InvalidSizes : PySem.W.kitOne K (.ref (pp_c_InvalidPiece K)) (.ref (pp_c_InvalidSizes K)) = some false := c.fact 223
  have kt_InvalidCount_InvalidSizes : PySem.W.kitOne K (.ref (pp_c_InvalidCount K)) (.ref (pp_c_InvalidSizes K)) = some false := c.fact 224
  have kt_InvalidSize_InvalidSizes : PySem.W.kitOne K (.ref (pp_c_InvalidSize K)) (.ref (pp_c_InvalidSizes K)) = some false := c.fact 225
  have kt_NotReversible_InvalidSizes : PySem.W.kitOne K (.ref (pp_c_NotReversible K)) (.ref (pp_c_InvalidSizes K)) = some false := c.fact 226
  have kt_InvalidCommand_InvalidSizes : PySem.W.kitOne K (.ref (pp_c_InvalidCommand K)) (.ref (pp_c_InvalidSizes K)) = some false := c.fact 227
  have kt_Refused_InvalidSizes : PySem.W.kitOne K (.ref (pp_c_Refused K)) (.ref (pp_c_InvalidSizes K)) = some false := c.fact 228
  have kt_NoDeed_InvalidSizes : PySem.W.kitOne K (.ref (pp_c_NoDeed K)) (.ref (pp_c_InvalidSizes K)) = some false := c.fact 229
  have kt_UnknownName_InvalidSizes : PySem.W.kitOne K (.ref (pp_c_UnknownName K)) (.ref (pp_c_InvalidSizes K)) = some false := c.fact 230
  have kt_InvalidText_InvalidForm : PySem.W.kitOne K (.ref (pp_c_InvalidText K)) (.ref (pp_c_InvalidForm K)) = some false := c.fact 231
  have kt_InvalidPiece_InvalidForm : PySem.W.kitOne K (.ref (pp_c_InvalidPiece K)) (.ref (pp_c_InvalidForm K)) = some false := c.fact 232
  have kt_InvalidCount_InvalidForm : PySem.W.kitOne K (.ref (pp_c_InvalidCount K)) (.ref (pp_c_InvalidForm K)) = some false := c.fact 233
  have kt_InvalidSizes_InvalidForm : PySem.W.kitOne K (.ref (pp_c_InvalidSizes K)) (.ref (pp_c_InvalidForm K)) = some false := c.fact 234
  have kt_InvalidSize_InvalidForm : PySem.W.kitOne K (.ref (pp_c_InvalidSize K)) (.ref (pp_c_InvalidForm K)) = some false := c.fact 235
  have kt_NotReversible_InvalidForm : PySem.W.kitOne K (.ref (pp_c_NotReversible K)) (.ref (pp_c_InvalidForm K)) = some false := c.fact 236
  have kt_InvalidCommand_InvalidForm : PySem.W.kitOne K (.ref (pp_c_InvalidCommand K)) (.ref (pp_c_InvalidForm K)) = some false := c.fact 237
  have kt_Refused_InvalidForm : PySem.W.kitOne K (.ref (pp_c_Refused K)) (.ref (pp_c_InvalidForm K)) = some false := c.fact 238
  have kt_NoDeed_InvalidForm : PySem.W.kitOne K (.ref (pp_c_NoDeed K)) (.ref (pp_c_InvalidForm K)) = some false := c.fact 239
  have kt_UnknownName_InvalidForm : PySem.W.kitOne K (.ref (pp_c_UnknownName K)) (.ref (pp_c_InvalidForm K)) = some false := c.fact 240
  have kt_InvalidForm_InvalidPiece : PySem.W.kitOne K (.ref (pp_c_InvalidForm K)) (.ref (pp_c_InvalidPiece K)) = some false := c.fact 241
  have kt_InvalidText_InvalidPiece : PySem.W.kitOne K (.ref (pp_c_InvalidText K)) (.ref (pp_c_InvalidPiece K)) = some false := c.fact 242
  have kt_InvalidCount_InvalidPiece : PySem.W.kitOne K (.ref (pp_c_InvalidCount K)) (.ref (pp_c_InvalidPiece K)) = some false := c.fact 243
  have kt_InvalidSizes_InvalidPiece : PySem.W.kitOne K (.ref (pp_c_InvalidSizes K)) (.ref (pp_c_InvalidPiece K)) = some false := c.fact 244
  have kt_InvalidSize_InvalidPiece : PySem.W.kitOne K (.ref (pp_c_InvalidSize K)) (.ref (pp_c_InvalidPiece K)) = some false := c.fact 245
  have kt_NotReversible_InvalidPiece : PySem.W.kitOne K (.ref (pp_c_NotReversible K)) (.ref (pp_c_InvalidPiece K)) = some false := c.fact 246
  have kt_InvalidCommand_InvalidPiece : PySem.W.kitOne K (.ref (pp_c_InvalidCommand K)) (.ref (pp_c_InvalidPiece K)) = some false := c.fact 247
  have kt_Refused_InvalidPiece : PySem.W.kitOne K (.ref (pp_c_Refused K)) (.ref (pp_c_InvalidPiece K)) = some false := c.fact 248
  have kt_NoDeed_InvalidPiece : PySem.W.kitOne K (.ref (pp_c_NoDeed K)) (.ref (pp_c_InvalidPiece K)) = some false := c.fact 249
  have kt_UnknownName_InvalidPiece : PySem.W.kitOne K (.ref (pp_c_UnknownName K)) (.ref (pp_c_InvalidPiece K)) = some false := c.fact 250
  have kt_InvalidForm_InvalidSize : PySem.W.kitOne K (.ref (pp_c_InvalidForm K)) (.ref (pp_c_InvalidSize K)) = some false := c.fact 251
  have kt_InvalidText_InvalidSize : PySem.W.kitOne K (.ref (pp_c_InvalidText K)) (.ref (pp_c_InvalidSize K)) = some false := c.fact 252
  have kt_InvalidPiece_InvalidSize : PySem.W.kitOne K (.ref (pp_c_InvalidPiece K)) (.ref (pp_c_InvalidSize K)) = some false := c.fact 253
  have kt_InvalidCount_InvalidSize : PySem.W.kitOne K (.ref (pp_c_InvalidCount K)) (.ref (pp_c_InvalidSize K)) = some false := c.fact 254
  have kt_InvalidSizes_InvalidSize : PySem.W.kitOne K (.ref (pp_c_InvalidSizes K)) (.ref (pp_c_InvalidSize K)) = some false := c.fact 255
  have kt_NotReversible_InvalidSize : PySem.W.kitOne K (.ref (pp_c_NotReversible K)) (.ref (pp_c_InvalidSize K)) = some false := c.fact 256
  have kt_InvalidCommand_InvalidSize : PySem.W.kitOne K (.ref (pp_c_InvalidCommand K)) (.ref (pp_c_InvalidSize K)) = some false := c.fact 257
  have kt_Refused_InvalidSize : PySem.W.kitOne K (.ref (pp_c_Refused K)) (.ref (pp_c_InvalidSize K)) = some false := c.fact 258
  have kt_NoDeed_InvalidSize : PySem.W.kitOne K (.ref (pp_c_NoDeed K)) (.ref (pp_c_InvalidSize K)) = some false := c.fact 259
  have kt_UnknownName_InvalidSize : PySem.W.kitOne K (.ref (pp_c_UnknownName K)) (.ref (pp_c_InvalidSize K)) = some false := c.fact 260
  have kt_InvalidForm_InvalidText : PySem.W.kitOne K (.ref (pp_c_InvalidForm K)) (.ref (pp_c_InvalidText K)) = some false := c.fact 261
  have kt_InvalidPiece_InvalidText : PySem.W.kitOne K (.ref (pp_c_InvalidPiece K)) (.ref (pp_c_InvalidText K)) = some false := c.fact 262
  have kt_InvalidCount_InvalidText : PySem.W.kitOne K (.ref (pp_c_InvalidCount K)) (.ref (pp_c_InvalidText K)) = some false := c.fact 263
  have kt_InvalidSizes_InvalidText : PySem.W.kitOne K (.ref (pp_c_InvalidSizes K)) (.ref (pp_c_InvalidText K)) = some false := c.fact 264
  have kt_InvalidSize_InvalidText : PySem.W.kitOne K (.ref (pp_c_InvalidSize K)) (.ref (pp_c_InvalidText K)) = some false := c.fact 265
  have kt_NotReversible_InvalidText : PySem.W.kitOne K (.ref (pp_c_NotReversible K)) (.ref (pp_c_InvalidText K)) = some false := c.fact 266
  have kt_InvalidCommand_InvalidText : PySem.W.kitOne K (.ref (pp_c_InvalidCommand K)) (.ref (pp_c_InvalidText K)) = some false := c.fact 267
  have kt_Refused_InvalidText : PySem.W.kitOne K (.ref (pp_c_Refused K)) (.ref (pp_c_InvalidText K)) = some false := c.fact 268
  have kt_NoDeed_InvalidText : PySem.W.kitOne K (.ref (pp_c_NoDeed K)) (.ref (pp_c_InvalidText K)) = some false := c.fact 269
  have kt_UnknownName_InvalidText : PySem.W.kitOne K (.ref (pp_c_UnknownName K)) (.ref (pp_c_InvalidText K)) = some false := c.fact 270
  have kt_InvalidForm_KeyError : PySem.W.kitOne K (.ref (pp_c_InvalidForm K)) (.type "KeyError") = some false := c.fact 271
  have kt_InvalidText_KeyError : PySem.W.kitOne K (.ref (pp_c_InvalidText K)) (.type "KeyError") = some false := c.fact 272
  have kt_InvalidPiece_KeyError : PySem.W.kitOne K (.ref (pp_c_InvalidPiece K)) (.type "KeyError") = some false := c.fact 273
  have kt_InvalidCount_KeyError : PySem.W.kitOne K (.ref (pp_c_InvalidCount K)) (.type "KeyError") = some false := c.fact 274
  have kt_InvalidSizes_KeyError : PySem.W.kitOne K (.ref (pp_c_InvalidSizes K)) (.type "KeyError") = some false := c.fact 275
  have kt_InvalidSize_KeyError : PySem.W.kitOne K (.ref (pp_c_InvalidSize K)) (.type "KeyError") = some false := c.fact 276
  have kt_NotReversible_KeyError : PySem.W.kitOne K (.ref (pp_c_NotReversible K)) (.type "KeyError") = some false := c.fact 277
  have kt_InvalidCommand_KeyError : PySem.W.kitOne K (.ref (pp_c_InvalidCommand K)) (.type "KeyError") = some false := c.fact 278
  have kt_Refused_KeyError : PySem.W.kitOne K (.ref (pp_c_Refused K)) (.type "KeyError") = some false := c.fact 279
  have kt_NoDeed_KeyError : PySem.W.kitOne K (.ref (pp_c_NoDeed K)) (.type "KeyError") = some false := c.fact 280
  have kt_UnknownName_KeyError : PySem.W.kitOne K (.ref (pp_c_UnknownName K)) (.type "KeyError") = some true := c.fact 281
  have kt_InvalidForm_NoDeed : PySem.W.kitOne K (.ref (pp_c_InvalidForm K)) (.ref (pp_c_NoDeed K)) = some false := c.fact 282
  have kt_InvalidText_NoDeed : PySem.W.kitOne K (.ref (pp_c_InvalidText K)) (.ref (pp_c_NoDeed K)) = some false := c.fact 283
  have kt_InvalidPiece_NoDeed : PySem.W.kitOne K (.ref (pp_c_InvalidPiece K)) (.ref (pp_c_NoDeed K)) = some false := c.fact 284
  have kt_InvalidCount_NoDeed : PySem.W.kitOne K (.ref (pp_c_InvalidCount K)) (.ref (pp_c_NoDeed K)) = some false := c.fact 285
  have kt_InvalidSizes_NoDeed : PySem.W.kitOne K (.ref (pp_c_InvalidSizes K)) (.ref (pp_c_NoDeed K)) = some false := c.fact 286
  have kt_InvalidSize_NoDeed : PySem.W.kitOne K (.ref (pp_c_InvalidSize K)) (.ref (pp_c_NoDeed K)) = some false := c.fact 287
  have kt_NotReversible_NoDeed : PySem.W.kitOne K (.ref (pp_c_NotReversible K)) (.ref (pp_c_NoDeed K)) = some false := c.fact 288
  have kt_InvalidCommand_NoDeed : PySem.W.kitOne K (.ref (pp_c_InvalidCommand K)) (.ref (pp_c_NoDeed K)) = some false := c.fact 289
  have kt_Refused_NoDeed : PySem.W.kitOne K (.ref (pp_c_Refused K)) (.ref (pp_c_NoDeed K)) = some false := c.fact 290
  have kt_UnknownName_NoDeed : PySem.W.kitOne K (.ref (pp_c_UnknownName K)) (.ref (pp_c_NoDeed K)) = some false := c.fact 291
  have kt_InvalidForm_NotReversible : PySem.W.kitOne K (.ref (pp_c_InvalidForm K)) (.ref (pp_c_NotReversible K)) = some false := c.fact 292
  have kt_InvalidText_NotReversible : PySem.W.kitOne K (.ref (pp_c_InvalidText K)) (.ref (pp_c_NotReversible K)) = some false := c.fact 293
  have kt_InvalidPiece_NotReversible : PySem.W.kitOne K (.ref (pp_c_InvalidPiece K)) (.ref (pp_c_NotReversible K)) = some false := c.fact 294
  have kt_InvalidCount_NotReversible : PySem.W.kitOne K (.ref (pp_c_InvalidCount K)) (.ref (pp_c_NotReversible K)) = some false := c.fact 295
  have kt_InvalidSizes_NotReversible : PySem.W.kitOne K (.ref (pp_c_InvalidSizes K)) (.ref (pp_c_NotReversible K)) = some false := c.fact 296
  have kt_InvalidSize_NotReversible : PySem.W.kitOne K (.ref (pp_c_InvalidSize K)) (.ref (pp_c_NotReversible K)) = some false := c.fact 297
  have kt_InvalidCommand_NotReversible : PySem.W.kitOne K (.ref (pp_c_InvalidCommand K)) (.ref (pp_c_NotReversible K)) = some false := c.fact 298
  have kt_Refused_NotReversible : PySem.W.kitOne K (.ref (pp_c_Refused K)) (.ref (pp_c_NotReversible K)) = some false := c.fact 299
  have kt_NoDeed_NotReversible : PySem.W.kitOne K (.ref (pp_c_NoDeed K)) (.ref (pp_c_NotReversible K)) = some false := c.fact 300
  have kt_UnknownName_NotReversible : PySem.W.kitOne K (.ref (pp_c_UnknownName K)) (.ref (pp_c_NotReversible K)) = some false := c.fact 301
  have kt_InvalidForm_Refused : PySem.W.kitOne K (.ref (pp_c_InvalidForm K)) (.ref (pp_c_Refused K)) = some false := c.fact 302
  have kt_InvalidText_Refused : PySem.W.kitOne K (.ref (pp_c_InvalidText K)) (.ref (pp_c_Refused K)) = some false := c.fact 303
  have kt_InvalidPiece_Refused : PySem.W.kitOne K (.ref (pp_c_InvalidPiece K)) (.ref (pp_c_Refused K)) = some false := c.fact 304
  have kt_InvalidCount_Refused : PySem.W.kitOne K (.ref (pp_c_InvalidCount K)) (.ref (pp_c_Refused K)) = some false := c.fact 305
  have kt_InvalidSizes_Refused : PySem.W.kitOne K (.ref (pp_c_InvalidSizes K)) (.ref (pp_c_Refused K)) = some false := c.fact 306
  have kt_InvalidSize_Refused : PySem.W.kitOne K (.ref (pp_c_InvalidSize K)) (.ref (pp_c_Refused K)) = some false := c.fact 307
  have kt_NotReversible_Refused : PySem.W.kitOne K (.ref (pp_c_NotReversible K)) (.ref (pp_c_Refused K)) = some false := c.fact 308
  have kt_InvalidCommand_Refused : PySem.W.kitOne K (.ref (pp_c_InvalidCommand K)) (.ref (pp_c_Refused K)) = some false := c.fact 309
  have kt_NoDeed_Refused : PySem.W.kitOne K (.ref (pp_c_NoDeed K)) (.ref (pp_c_Refused K)) = some false := c.fact 310
  have kt_UnknownName_Refused : PySem.W.kitOne K (.ref (pp_c_UnknownName K)) (.ref (pp_c_Refused K)) = some false := c.fact 311
  have kt_InvalidForm_UnknownName : PySem.W.kitOne K (.ref (pp_c_InvalidForm K)) (.ref (pp_c_UnknownName K)) = some false := c.fact 312
  have kt_InvalidText_UnknownName : PySem.W.kitOne K (.ref (pp_c_InvalidText K)) (.ref (pp_c_UnknownName K)) = some false := c.fact 313
  have kt_InvalidPiece_UnknownName : PySem.W.kitOne K (.ref (pp_c_InvalidPiece K)) (.ref (pp_c_UnknownName K)) = some false := c.fact 314
  have kt_InvalidCount_UnknownName : PySem.W.kitOne K (.ref (pp_c_InvalidCount K)) (.ref (pp_c_UnknownName K)) = some false := c.fact 315
  have kt_InvalidSizes_UnknownName : PySem.W.kitOne K (.ref (pp_c_InvalidSizes K)) (.ref (pp_c_UnknownName K)) = some false := c.fact 316
  have kt_InvalidSize_UnknownName : PySem.W.kitOne K (.ref (pp_c_InvalidSize K)) (.ref (pp_c_UnknownName K)) = some false := c.fact 317
  have kt_NotReversible_UnknownName : PySem.W.kitOne K (.ref (pp_c_NotReversible K)) (.ref (pp_c_UnknownName K)) = some false := c.fact 318
  have kt_InvalidCommand_UnknownName : PySem.W.kitOne K (.ref (pp_c_InvalidCommand K)) (.ref (pp_c_UnknownName K)) = some false := c.fact 319
  have kt_Refused_UnknownName : PySem.W.kitOne K (.ref (pp_c_Refused K)) (.ref (pp_c_UnknownName K)) = some false := c.fact 320
  have kt_NoDeed_UnknownName : PySem.W.kitOne K (.ref (pp_c_NoDeed K)) (.ref (pp_c_UnknownName K)) = some false := c.fact 321
  have kt_InvalidForm_ValueError : PySem.W.kitOne K (.ref (pp_c_InvalidForm K)) (.type "ValueError") = some true := c.fact 322
  have kt_InvalidText_ValueError : PySem.W.kitOne K (.ref (pp_c_InvalidText K)) (.type "ValueError") = some true := c.fact 323
  have kt_InvalidPiece_ValueError : PySem.W.kitOne K (.ref (pp_c_InvalidPiece K)) (.type "ValueError") = some true := c.fact 324
  have kt_InvalidCount_ValueError : PySem.W.kitOne K (.ref (pp_c_InvalidCount K)) (.type "ValueError") = some true := c.fact 325
  have kt_InvalidSizes_ValueError : PySem.W.kitOne K (.ref (pp_c_InvalidSizes K)) (.type "ValueError") = some true := c.fact 326
  have kt_InvalidSize_ValueError : PySem.W.kitOne K (.ref (pp_c_InvalidSize K)) (.type "ValueError") = some true := c.fact 327
  have kt_NotReversible_ValueError : PySem.W.kitOne K (.ref (pp_c_NotReversible K)) (.type "ValueError") = some true := c.fact 328
  have kt_InvalidCommand_ValueError : PySem.W.kitOne K (.ref (pp_c_InvalidCommand K)) (.type "ValueError") = some true := c.fact 329
  have kt_Refused_ValueError : PySem.W.kitOne K (.ref (pp_c_Refused K)) (.type "ValueError") = some true := c.fact 330
  have kt_NoDeed_ValueError : PySem.W.kitOne K (.ref (pp_c_NoDeed K)) (.type "ValueError") = some false := c.fact 331
  have kt_UnknownName_ValueError : PySem.W.kitOne K (.ref (pp_c_UnknownName K)) (.type "ValueError") = some false := c.fact 332
  have bi_IndexError : PySem.W.findCls K (.type "IndexError") (.type "type") "__init__" = some (.val (.builtin "IndexError.__init__")) := c.fact 333
  have bi_KeyError : PySem.W.findCls K (.type "KeyError") (.type "type") "__init__" = some (.val (.builtin "KeyError.__init__")) := c.fact 334
  obtain ⟨fd__law_feed, F0__law_feed⟩ := c.def_ 0 (d := dd__law_feed)
  obtain ⟨fd_InvalidText___init__, F0_InvalidText___init__⟩ := c.def_ 1 (d := dd_InvalidText___init__)
  obtain ⟨fd__law_take, F0__law_take⟩ := c.def_ 2 (d := dd__law_take)
  obtain ⟨fd__law_value, F0__law_value⟩ := c.def_ 3 (d := dd__law_value)
  obtain ⟨fd_InvalidForm___init__, F0_InvalidForm___init__⟩ := c.def_ 4 (d := dd_InvalidForm___init__)
  obtain ⟨fd_InvalidPiece___init__, F0_InvalidPiece___init__⟩ := c.def_ 5 (d := dd_InvalidPiece___init__)
  obtain ⟨fd_InvalidCount___init__, F0_InvalidCount___init__⟩ := c.def_ 6 (d := dd_InvalidCount___init__)
  obtain ⟨fd_InvalidSizes___init__, F0_InvalidSizes___init__⟩ := c.def_ 7 (d := dd_InvalidSizes___init__)
  obtain ⟨fd_InvalidSize___init__, F0_InvalidSize___init__⟩ := c.def_ 8 (d := dd_InvalidSize___init__)
  obtain ⟨fd_NotReversible___init__, F0_NotReversible___init__⟩ := c.def_ 9 (d := dd_NotReversible___init__)
  obtain ⟨fd_InvalidCommand___init__, F0_InvalidCommand___init__⟩ := c.def_ 10 (d := dd_InvalidCommand___init__)
  obtain ⟨fd_Refused___init__, F0_Refused___init__⟩ := c.def_ 11 (d := dd_Refused___init__)
  obtain ⟨fd_NoDeed___init__, F0_NoDeed___init__⟩ := c.def_ 12 (d := dd_NoDeed___init__)
  obtain ⟨fd_UnknownName___init__, F0_UnknownName___init__⟩ := c.def_ 13 (d := dd_UnknownName___init__)
  obtain ⟨fd__law_errors, F0__law_errors⟩ := c.def_ 14 (d := dd__law_errors)
  obtain ⟨fd__law_named, F0__law_named⟩ := c.def_ 15 (d := dd__law_named)
  obtain ⟨fd__law_caught, F0__law_caught⟩ := c.def_ 16 (d := dd__law_caught)
  obtain ⟨fd__law_classes, F0__law_classes⟩ := c.def_ 17 (d := dd__law_classes)
  obtain ⟨fd__law_kept, F0__law_kept⟩ := c.def_ 18 (d := dd__law_kept)
  obtain ⟨fd_law, F0_law⟩ := c.def_ 19 (d := dd_law)
  have e : (pp_a_law K) = fa := by
    have e := (PySem.W.mg_of X G at_law).symm.trans hfa
    injection e with e
    injection e
  subst e
  let t : Tx (tab (pp_c_InvalidForm K) (pp_c_InvalidText K) (pp_c_InvalidPiece K) (pp_c_InvalidCount K) (pp_c_InvalidSizes K) (pp_c_InvalidSize K) (pp_c_NotReversible K) (pp_c_InvalidCommand K) (pp_c_Refused K) (pp_c_NoDeed K) (pp_c_UnknownName K)) K mg := {
    c_ClashError := (pp_c_ClashError K),
    m_ClashError := PySem.W.mg_of X G aC_ClashError,
    ci_ClashError := iX_ClashError,
    bs_ClashError := bs_ClashError,
    hd_ClashError := hd_ClashError,
    c_InvalidForm := (pp_c_InvalidForm K),
    T_InvalidForm := rfl,
    m_InvalidForm := PySem.W.mg_of X G aC_InvalidForm,
    o_InvalidForm := oX_InvalidForm,
    x_InvalidForm := xX_InvalidForm,
    xf_InvalidForm := fX_InvalidForm,
    c_InvalidText := (pp_c_InvalidText K),
    T_InvalidText := rfl,
    m_InvalidText := PySem.W.mg_of X G aC_InvalidText,
    o_InvalidText := oX_InvalidText,
    x_InvalidText := xX_InvalidText,
    xf_InvalidText := fX_InvalidText,
    no_InvalidText_line := no_InvalidText_line,
    c_InvalidPiece := (pp_c_InvalidPiece K),
    T_InvalidPiece := rfl,
    m_InvalidPiece := PySem.W.mg_of X G aC_InvalidPiece,
    o_InvalidPiece := oX_InvalidPiece,
    x_InvalidPiece := xX_InvalidPiece,
    xf_InvalidPiece := fX_InvalidPiece,
    no_InvalidPiece_at := no_InvalidPiece_at,
    no_InvalidPiece_word := no_InvalidPiece_word,
    c_InvalidCount := (pp_c_InvalidCount K),
    T_InvalidCount := rfl,
    m_InvalidCount := PySem.W.mg_of X G aC_InvalidCount,
    o_InvalidCount := oX_InvalidCount,
    x_InvalidCount := xX_InvalidCount,
    xf_InvalidCount := fX_InvalidCount,
    no_InvalidCount_word := no_InvalidCount_word,
    c_InvalidSizes := (pp_c_InvalidSizes K),
    T_InvalidSizes := rfl,
    m_InvalidSizes := PySem.W.mg_of X G aC_InvalidSizes,
    o_InvalidSizes := oX_InvalidSizes,
    x_InvalidSizes := xX_InvalidSizes,
    xf_InvalidSizes := fX_InvalidSizes,
    no_InvalidSizes_word := no_InvalidSizes_word,
    c_InvalidSize := (pp_c_InvalidSize K),
    T_InvalidSize := rfl,
    m_InvalidSize := PySem.W.mg_of X G aC_InvalidSize,
    o_InvalidSize := oX_InvalidSize,
    x_InvalidSize := xX_InvalidSize,
    xf_InvalidSize := fX_InvalidSize,
    no_InvalidSize_size := no_InvalidSize_size,
    c_NotReversible := (pp_c_NotReversible K),
    T_NotReversible := rfl,
    m_NotReversible := PySem.W.mg_of X G aC_NotReversible,
    o_NotReversible := oX_NotReversible,
    x_NotReversible := xX_NotReversible,
    xf_NotReversible := fX_NotReversible,
    no_NotReversible_at := no_NotReversible_at,
    c_InvalidCommand := (pp_c_InvalidCommand K),
    T_InvalidCommand := rfl,
    m_InvalidCommand := PySem.W.mg_of X G aC_InvalidCommand,
    o_InvalidCommand := oX_InvalidCommand,
    x_InvalidCommand := xX_InvalidCommand,
    xf_InvalidCommand := fX_InvalidCommand,
    c_Refused := (pp_c_Refused K),
    T_Refused := rfl,
    m_Refused := PySem.W.mg_of X G aC_Refused,
    o_Refused := oX_Refused,
    x_Refused := xX_Refused,
    xf_Refused := fX_Refused,
    no_Refused_at := no_Refused_at,
    c_NoDeed := (pp_c_NoDeed K),
    T_NoDeed := rfl,
    m_NoDeed := PySem.W.mg_of X G aC_NoDeed,
    o_NoDeed := oX_NoDeed,
    x_NoDeed := xX_NoDeed,
    xf_NoDeed := fX_NoDeed,
    no_NoDeed_at := no_NoDeed_at,
    c_UnknownName := (pp_c_UnknownName K),
    T_UnknownName := rfl,
    m_UnknownName := PySem.W.mg_of X G aC_UnknownName,
    o_UnknownName := oX_UnknownName,
    x_UnknownName := xX_UnknownName,
    xf_UnknownName := fX_UnknownName,
    no_UnknownName_name := no_UnknownName_name,
    z_IndexError := PySem.W.mg_none_of X G z_IndexError,
    z_KeyError := PySem.W.mg_none_of X G z_KeyError,
    z_ValueError := PySem.W.mg_none_of X G z_ValueError,
    z_enumerate := PySem.W.mg_none_of X G z_enumerate,
    z_int := PySem.W.mg_none_of X G z_int,
    z_isinstance := PySem.W.mg_none_of X G z_isinstance,
    z_len := PySem.W.mg_none_of X G z_len,
    z_max := PySem.W.mg_none_of X G z_max,
    z_min := PySem.W.mg_none_of X G z_min,
    z_range := PySem.W.mg_none_of X G z_range,
    z_repr := PySem.W.mg_none_of X G z_repr,
    z_tuple := PySem.W.mg_none_of X G z_tuple,
    a__law_feed := (pp_a__law_feed K),
    fd__law_feed := fd__law_feed,
    F__law_feed := toFun (st := s__law_feed) F0__law_feed,
    b__law_feed := (toFun (st := s__law_feed) F0__law_feed).binds (ps := ["_law_script", "_law_k"]) fun _ _ _ _ _ _ us hl => match us, hl with | [_, _], _ => rfl,
    m__law_feed := PySem.W.mg_of X G at__law_feed,
    a_InvalidText___init__ := (pp_a_InvalidText___init__ K),
    fd_InvalidText___init__ := fd_InvalidText___init__,
    F_InvalidText___init__ := toFun (st := s_InvalidText___init__) F0_InvalidText___init__,
    b_InvalidText___init__ := (toFun (st := s_InvalidText___init__) F0_InvalidText___init__).binds (ps := ["self", "line"]) fun _ _ _ _ _ _ us hl => match us, hl with | [_, _], _ => rfl,
    at_InvalidText___init__ := at_InvalidText___init__,
    ty_InvalidText___init__ := ty_InvalidText___init__,
    a__law_take := (pp_a__law_take K),
    fd__law_take := fd__law_take,
    F__law_take := toFun (st := s__law_take) F0__law_take,
    b__law_take := (toFun (st := s__law_take) F0__law_take).binds (ps := ["_law_box", "_law_many"]) fun _ _ _ _ _ _ us hl => match us, hl with | [_, _], _ => rfl,
    m__law_take := PySem.W.mg_of X G at__law_take,
    a__law_value := (pp_a__law_value K),
    fd__law_value := fd__law_value,
    F__law_value := toFun (st := s__law_value) F0__law_value,
    b__law_value := (toFun (st := s__law_value) F0__law_value).binds (ps := ["_law_box", "_law_deep"]) fun _ _ _ _ _ _ us hl => match us, hl with | [_, _], _ => rfl,
    m__law_value := PySem.W.mg_of X G at__law_value,
    a_InvalidForm___init__ := (pp_a_InvalidForm___init__ K),
    fd_InvalidForm___init__ := fd_InvalidForm___init__,
    F_InvalidForm___init__ := toFun (st := s_InvalidForm___init__) F0_InvalidForm___init__,
    b_InvalidForm___init__ := (toFun (st := s_InvalidForm___init__) F0_InvalidForm___init__).binds (ps := ["self"]) fun _ _ _ _ _ _ us hl => match us, hl with | [_], _ => rfl,
    at_InvalidForm___init__ := at_InvalidForm___init__,
    ty_InvalidForm___init__ := ty_InvalidForm___init__,
    a_InvalidPiece___init__ := (pp_a_InvalidPiece___init__ K),
    fd_InvalidPiece___init__ := fd_InvalidPiece___init__,
    F_InvalidPiece___init__ := toFun (st := s_InvalidPiece___init__) F0_InvalidPiece___init__,
    b_InvalidPiece___init__ := (toFun (st := s_InvalidPiece___init__) F0_InvalidPiece___init__).binds (ps := ["self", "word", "at"]) fun _ _ _ _ _ _ us hl => match us, hl with | [_, _, _], _ => rfl,
    at_InvalidPiece___init__ := at_InvalidPiece___init__,
    ty_InvalidPiece___init__ := ty_InvalidPiece___init__,
    a_InvalidCount___init__ := (pp_a_InvalidCount___init__ K),
    fd_InvalidCount___init__ := fd_InvalidCount___init__,
    F_InvalidCount___init__ := toFun (st := s_InvalidCount___init__) F0_InvalidCount___init__,
    b_InvalidCount___init__ := (toFun (st := s_InvalidCount___init__) F0_InvalidCount___init__).binds (ps := ["self", "word"]) fun _ _ _ _ _ _ us hl => match us, hl with | [_, _], _ => rfl,
    at_InvalidCount___init__ := at_InvalidCount___init__,
    ty_InvalidCount___init__ := ty_InvalidCount___init__,
    a_InvalidSizes___init__ := (pp_a_InvalidSizes___init__ K),
    fd_InvalidSizes___init__ := fd_InvalidSizes___init__,
    F_InvalidSizes___init__ := toFun (st := s_InvalidSizes___init__) F0_InvalidSizes___init__,
    b_InvalidSizes___init__ := (toFun (st := s_InvalidSizes___init__) F0_InvalidSizes___init__).binds (ps := ["self", "word"]) fun _ _ _ _ _ _ us hl => match us, hl with | [_, _], _ => rfl,
    at_InvalidSizes___init__ := at_InvalidSizes___init__,
    ty_InvalidSizes___init__ := ty_InvalidSizes___init__,
    a_InvalidSize___init__ := (pp_a_InvalidSize___init__ K),
    fd_InvalidSize___init__ := fd_InvalidSize___init__,
    F_InvalidSize___init__ := toFun (st := s_InvalidSize___init__) F0_InvalidSize___init__,
    b_InvalidSize___init__ := (toFun (st := s_InvalidSize___init__) F0_InvalidSize___init__).binds (ps := ["self", "size"]) fun _ _ _ _ _ _ us hl => match us, hl with | [_, _], _ => rfl,
    at_InvalidSize___init__ := at_InvalidSize___init__,
    ty_InvalidSize___init__ := ty_InvalidSize___init__,
    a_NotReversible___init__ := (pp_a_NotReversible___init__ K),
    fd_NotReversible___init__ := fd_NotReversible___init__,
    F_NotReversible___init__ := toFun (st := s_NotReversible___init__) F0_NotReversible___init__,
    b_NotReversible___init__ := (toFun (st := s_NotReversible___init__) F0_NotReversible___init__).binds (ps := ["self", "at"]) fun _ _ _ _ _ _ us hl => match us, hl with | [_, _], _ => rfl,
    at_NotReversible___init__ := at_NotReversible___init__,
    ty_NotReversible___init__ := ty_NotReversible___init__,
    a_InvalidCommand___init__ := (pp_a_InvalidCommand___init__ K),
    fd_InvalidCommand___init__ := fd_InvalidCommand___init__,
    F_InvalidCommand___init__ := toFun (st := s_InvalidCommand___init__) F0_InvalidCommand___init__,
    b_InvalidCommand___init__ := (toFun (st := s_InvalidCommand___init__) F0_InvalidCommand___init__).binds (ps := ["self"]) fun _ _ _ _ _ _ us hl => match us, hl with | [_], _ => rfl,
    at_InvalidCommand___init__ := at_InvalidCommand___init__,
    ty_InvalidCommand___init__ := ty_InvalidCommand___init__,
    a_Refused___init__ := (pp_a_Refused___init__ K),
    fd_Refused___init__ := fd_Refused___init__,
    F_Refused___init__ := toFun (st := s_Refused___init__) F0_Refused___init__,
    b_Refused___init__ := (toFun (st := s_Refused___init__) F0_Refused___init__).binds (ps := ["self", "at"]) fun _ _ _ _ _ _ us hl => match us, hl with | [_, _], _ => rfl,
    at_Refused___init__ := at_Refused___init__,
    ty_Refused___init__ := ty_Refused___init__,
    a_NoDeed___init__ := (pp_a_NoDeed___init__ K),
    fd_NoDeed___init__ := fd_NoDeed___init__,
    F_NoDeed___init__ := toFun (st := s_NoDeed___init__) F0_NoDeed___init__,
    b_NoDeed___init__ := (toFun (st := s_NoDeed___init__) F0_NoDeed___init__).binds (ps := ["self", "at"]) fun _ _ _ _ _ _ us hl => match us, hl with | [_, _], _ => rfl,
    at_NoDeed___init__ := at_NoDeed___init__,
    ty_NoDeed___init__ := ty_NoDeed___init__,
    a_UnknownName___init__ := (pp_a_UnknownName___init__ K),
    fd_UnknownName___init__ := fd_UnknownName___init__,
    F_UnknownName___init__ := toFun (st := s_UnknownName___init__) F0_UnknownName___init__,
    b_UnknownName___init__ := (toFun (st := s_UnknownName___init__) F0_UnknownName___init__).binds (ps := ["self", "name"]) fun _ _ _ _ _ _ us hl => match us, hl with | [_, _], _ => rfl,
    at_UnknownName___init__ := at_UnknownName___init__,
    ty_UnknownName___init__ := ty_UnknownName___init__,
    a__law_errors := (pp_a__law_errors K),
    fd__law_errors := fd__law_errors,
    F__law_errors := toFun (st := s__law_errors) F0__law_errors,
    b__law_errors := (toFun (st := s__law_errors) F0__law_errors).binds (ps := ["_law_a", "_law_b"]) fun _ _ _ _ _ _ us hl => match us, hl with | [_, _], _ => rfl,
    m__law_errors := PySem.W.mg_of X G at__law_errors,
    a__law_named := (pp_a__law_named K),
    fd__law_named := fd__law_named,
    F__law_named := toFun (st := s__law_named) F0__law_named,
    b__law_named := (toFun (st := s__law_named) F0__law_named).binds (ps := ["_law_a", "_law_b"]) fun _ _ _ _ _ _ us hl => match us, hl with | [_, _], _ => rfl,
    m__law_named := PySem.W.mg_of X G at__law_named,
    a__law_caught := (pp_a__law_caught K),
    fd__law_caught := fd__law_caught,
    F__law_caught := toFun (st := s__law_caught) F0__law_caught,
    b__law_caught := (toFun (st := s__law_caught) F0__law_caught).binds (ps := ["_law_number", "_law_a", "_law_b"]) fun _ _ _ _ _ _ us hl => match us, hl with | [_, _, _], _ => rfl,
    m__law_caught := PySem.W.mg_of X G at__law_caught,
    a__law_classes := (pp_a__law_classes K),
    fd__law_classes := fd__law_classes,
    F__law_classes := toFun (st := s__law_classes) F0__law_classes,
    b__law_classes := (toFun (st := s__law_classes) F0__law_classes).binds (ps := ["_law_e"]) fun _ _ _ _ _ _ us hl => match us, hl with | [_], _ => rfl,
    m__law_classes := PySem.W.mg_of X G at__law_classes,
    a__law_kept := (pp_a__law_kept K),
    fd__law_kept := fd__law_kept,
    F__law_kept := toFun (st := s__law_kept) F0__law_kept,
    b__law_kept := (toFun (st := s__law_kept) F0__law_kept).binds (ps := ["_law_e"]) fun _ _ _ _ _ _ us hl => match us, hl with | [_], _ => rfl,
    m__law_kept := PySem.W.mg_of X G at__law_kept,
    a_law := (pp_a_law K),
    fd_law := fd_law,
    F_law := toFun (st := s_law) F0_law,
    b_law := (toFun (st := s_law) F0_law).binds (ps := ["_law_script"]) fun _ _ _ _ _ _ us hl => match us, hl with | [_], _ => rfl,
    m_law := PySem.W.mg_of X G at_law,
    ex_InvalidForm_ClashError := ex_InvalidForm_ClashError,
    ex_InvalidText_ClashError := ex_InvalidText_ClashError,
    ex_InvalidPiece_ClashError := ex_InvalidPiece_ClashError,
    ex_InvalidCount_ClashError := ex_InvalidCount_ClashError,
    ex_InvalidSizes_ClashError := ex_InvalidSizes_ClashError,
    ex_InvalidSize_ClashError := ex_InvalidSize_ClashError,
    ex_NotReversible_ClashError := ex_NotReversible_ClashError,
    ex_InvalidCommand_ClashError := ex_InvalidCommand_ClashError,
    ex_Refused_ClashError := ex_Refused_ClashError,
    ex_NoDeed_ClashError := ex_NoDeed_ClashError,
    ex_UnknownName_ClashError := ex_UnknownName_ClashError,
    ex_InvalidForm_KeyError := ex_InvalidForm_KeyError,
    ex_InvalidText_KeyError := ex_InvalidText_KeyError,
    ex_InvalidPiece_KeyError := ex_InvalidPiece_KeyError,
    ex_InvalidCount_KeyError := ex_InvalidCount_KeyError,
    ex_InvalidSizes_KeyError := ex_InvalidSizes_KeyError,
    ex_InvalidSize_KeyError := ex_InvalidSize_KeyError,
    ex_NotReversible_KeyError := ex_NotReversible_KeyError,
    ex_InvalidCommand_KeyError := ex_InvalidCommand_KeyError,
    ex_Refused_KeyError := ex_Refused_KeyError,
    ex_NoDeed_KeyError := ex_NoDeed_KeyError,
    ex_UnknownName_KeyError := ex_UnknownName_KeyError,
    ex_InvalidForm_NoDeed := ex_InvalidForm_NoDeed,
    ex_InvalidText_NoDeed := ex_InvalidText_NoDeed,
    ex_InvalidPiece_NoDeed := ex_InvalidPiece_NoDeed,
    ex_InvalidCount_NoDeed := ex_InvalidCount_NoDeed,
    ex_InvalidSizes_NoDeed := ex_InvalidSizes_NoDeed,
    ex_InvalidSize_NoDeed := ex_InvalidSize_NoDeed,
    ex_NotReversible_NoDeed := ex_NotReversible_NoDeed,
    ex_InvalidCommand_NoDeed := ex_InvalidCommand_NoDeed,
    ex_Refused_NoDeed := ex_Refused_NoDeed,
    ex_NoDeed_NoDeed := ex_NoDeed_NoDeed,
    ex_UnknownName_NoDeed := ex_UnknownName_NoDeed,
    no_InvalidForm_at := no_InvalidForm_at,
    no_InvalidText_at := no_InvalidText_at,
    no_InvalidCount_at := no_InvalidCount_at,
    no_InvalidSizes_at := no_InvalidSizes_at,
    no_InvalidSize_at := no_InvalidSize_at,
    no_InvalidCommand_at := no_InvalidCommand_at,
    no_UnknownName_at := no_UnknownName_at,
    no_InvalidForm_line := no_InvalidForm_line,
    no_InvalidPiece_line := no_InvalidPiece_line,
    no_InvalidCount_line := no_InvalidCount_line,
    no_InvalidSizes_line := no_InvalidSizes_line,
    no_InvalidSize_line := no_InvalidSize_line,
    no_NotReversible_line := no_NotReversible_line,
    no_InvalidCommand_line := no_InvalidCommand_line,
    no_Refused_line := no_Refused_line,
    no_NoDeed_line := no_NoDeed_line,
    no_UnknownName_line := no_UnknownName_line,
    no_InvalidForm_name := no_InvalidForm_name,
    no_InvalidText_name := no_InvalidText_name,
    no_InvalidPiece_name := no_InvalidPiece_name,
    no_InvalidCount_name := no_InvalidCount_name,
    no_InvalidSizes_name := no_InvalidSizes_name,
    no_InvalidSize_name := no_InvalidSize_name,
    no_NotReversible_name := no_NotReversible_name,
    no_InvalidCommand_name := no_InvalidCommand_name,
    no_Refused_name := no_Refused_name,
    no_NoDeed_name := no_NoDeed_name,
    no_InvalidForm_size := no_InvalidForm_size,
    no_InvalidText_size := no_InvalidText_size,
    no_InvalidPiece_size := no_InvalidPiece_size,
    no_InvalidCount_size := no_InvalidCount_size,
    no_InvalidSizes_size := no_InvalidSizes_size,
    no_NotReversible_size := no_NotReversible_size,
    no_InvalidCommand_size := no_InvalidCommand_size,
    no_Refused_size := no_Refused_size,
    no_NoDeed_size := no_NoDeed_size,
    no_UnknownName_size := no_UnknownName_size,
    no_InvalidForm_word := no_InvalidForm_word,
    no_InvalidText_word := no_InvalidText_word,
    no_InvalidSize_word := no_InvalidSize_word,
    no_NotReversible_word := no_NotReversible_word,
    no_InvalidCommand_word := no_InvalidCommand_word,
    no_Refused_word := no_Refused_word,
    no_NoDeed_word := no_NoDeed_word,
    no_UnknownName_word := no_UnknownName_word,
    kt_InvalidForm_ClashError := kt_InvalidForm_ClashError,
    kt_InvalidText_ClashError := kt_InvalidText_ClashError,
    kt_InvalidPiece_ClashError := kt_InvalidPiece_ClashError,
    kt_InvalidCount_ClashError := kt_InvalidCount_ClashError,
    kt_InvalidSizes_ClashError := kt_InvalidSizes_ClashError,
    kt_InvalidSize_ClashError := kt_InvalidSize_ClashError,
    kt_NotReversible_ClashError := kt_NotReversible_ClashError,
    kt_InvalidCommand_ClashError := kt_InvalidCommand_ClashError,
    kt_Refused_ClashError := kt_Refused_ClashError,
    kt_NoDeed_ClashError := kt_NoDeed_ClashError,
    kt_UnknownName_ClashError := kt_UnknownName_ClashError,
    kt_InvalidForm_IndexError := kt_InvalidForm_IndexError,
    kt_InvalidText_IndexError := kt_InvalidText_IndexError,
    kt_InvalidPiece_IndexError := kt_InvalidPiece_IndexError,
    kt_InvalidCount_IndexError := kt_InvalidCount_IndexError,
    kt_InvalidSizes_IndexError := kt_InvalidSizes_IndexError,
    kt_InvalidSize_IndexError := kt_InvalidSize_IndexError,
    kt_NotReversible_IndexError := kt_NotReversible_IndexError,
    kt_InvalidCommand_IndexError := kt_InvalidCommand_IndexError,
    kt_Refused_IndexError := kt_Refused_IndexError,
    kt_NoDeed_IndexError := kt_NoDeed_IndexError,
    kt_UnknownName_IndexError := kt_UnknownName_IndexError,
    kt_InvalidForm_InvalidCommand := kt_InvalidForm_InvalidCommand,
    kt_InvalidText_InvalidCommand := kt_InvalidText_InvalidCommand,
    kt_InvalidPiece_InvalidCommand := kt_InvalidPiece_InvalidCommand,
    kt_InvalidCount_InvalidCommand := kt_InvalidCount_InvalidCommand,
    kt_InvalidSizes_InvalidCommand := kt_InvalidSizes_InvalidCommand,
    kt_InvalidSize_InvalidCommand := kt_InvalidSize_InvalidCommand,
    kt_NotReversible_InvalidCommand := kt_NotReversible_InvalidCommand,
    kt_Refused_InvalidCommand := kt_Refused_InvalidCommand,
    kt_NoDeed_InvalidCommand := kt_NoDeed_InvalidCommand,
    kt_UnknownName_InvalidCommand := kt_UnknownName_InvalidCommand,
    kt_InvalidForm_InvalidCount := kt_InvalidForm_InvalidCount,
    kt_InvalidText_InvalidCount := kt_InvalidText_InvalidCount,
    kt_InvalidPiece_InvalidCount := kt_InvalidPiece_InvalidCount,
    kt_InvalidSizes_InvalidCount := kt_InvalidSizes_InvalidCount,
    kt_InvalidSize_InvalidCount := kt_InvalidSize_InvalidCount,
    kt_NotReversible_InvalidCount := kt_NotReversible_InvalidCount,
    kt_InvalidCommand_InvalidCount := kt_InvalidCommand_InvalidCount,
    kt_Refused_InvalidCount := kt_Refused_InvalidCount,
    kt_NoDeed_InvalidCount := kt_NoDeed_InvalidCount,
    kt_UnknownName_InvalidCount := kt_UnknownName_InvalidCount,
    kt_InvalidForm_InvalidSizes := kt_InvalidForm_InvalidSizes,
    kt_InvalidText_InvalidSizes := kt_InvalidText_InvalidSizes,
    kt_InvalidPiece_InvalidSizes := kt_InvalidPiece_InvalidSizes,
    kt_InvalidCount_InvalidSizes := kt_InvalidCount_InvalidSizes,
    kt_InvalidSize_InvalidSizes := kt_InvalidSize_InvalidSizes,
    kt_NotReversible_InvalidSizes := kt_NotReversible_InvalidSizes,
    kt_InvalidCommand_InvalidSizes := kt_InvalidCommand_InvalidSizes,
    kt_Refused_InvalidSizes := kt_Refused_InvalidSizes,
    kt_NoDeed_InvalidSizes := kt_NoDeed_InvalidSizes,
    kt_UnknownName_InvalidSizes := kt_UnknownName_InvalidSizes,
    kt_InvalidText_InvalidForm := kt_InvalidText_InvalidForm,
    kt_InvalidPiece_InvalidForm := kt_InvalidPiece_InvalidForm,
    kt_InvalidCount_InvalidForm := kt_InvalidCount_InvalidForm,
    kt_InvalidSizes_InvalidForm := kt_InvalidSizes_InvalidForm,
    kt_InvalidSize_InvalidForm := kt_InvalidSize_InvalidForm,
    kt_NotReversible_InvalidForm := kt_NotReversible_InvalidForm,
    kt_InvalidCommand_InvalidForm := kt_InvalidCommand_InvalidForm,
    kt_Refused_InvalidForm := kt_Refused_InvalidForm,
    kt_NoDeed_InvalidForm := kt_NoDeed_InvalidForm,
    kt_UnknownName_InvalidForm := kt_UnknownName_InvalidForm,
    kt_InvalidForm_InvalidPiece := kt_InvalidForm_InvalidPiece,
    kt_InvalidText_InvalidPiece := kt_InvalidText_InvalidPiece,
    kt_InvalidCount_InvalidPiece := kt_InvalidCount_InvalidPiece,
    kt_InvalidSizes_InvalidPiece := kt_InvalidSizes_InvalidPiece,
    kt_InvalidSize_InvalidPiece := kt_InvalidSize_InvalidPiece,
    kt_NotReversible_InvalidPiece := kt_NotReversible_InvalidPiece,
    kt_InvalidCommand_InvalidPiece := kt_InvalidCommand_InvalidPiece,
    kt_Refused_InvalidPiece := kt_Refused_InvalidPiece,
    kt_NoDeed_InvalidPiece := kt_NoDeed_InvalidPiece,
    kt_UnknownName_InvalidPiece := kt_UnknownName_InvalidPiece,
    kt_InvalidForm_InvalidSize := kt_InvalidForm_InvalidSize,
    kt_InvalidText_InvalidSize := kt_InvalidText_InvalidSize,
    kt_InvalidPiece_InvalidSize := kt_InvalidPiece_InvalidSize,
    kt_InvalidCount_InvalidSize := kt_InvalidCount_InvalidSize,
    kt_InvalidSizes_InvalidSize := kt_InvalidSizes_InvalidSize,
    kt_NotReversible_InvalidSize := kt_NotReversible_InvalidSize,
    kt_InvalidCommand_InvalidSize := kt_InvalidCommand_InvalidSize,
    kt_Refused_InvalidSize := kt_Refused_InvalidSize,
    kt_NoDeed_InvalidSize := kt_NoDeed_InvalidSize,
    kt_UnknownName_InvalidSize := kt_UnknownName_InvalidSize,
    kt_InvalidForm_InvalidText := kt_InvalidForm_InvalidText,
    kt_InvalidPiece_InvalidText := kt_InvalidPiece_InvalidText,
    kt_InvalidCount_InvalidText := kt_InvalidCount_InvalidText,
    kt_InvalidSizes_InvalidText := kt_InvalidSizes_InvalidText,
    kt_InvalidSize_InvalidText := kt_InvalidSize_InvalidText,
    kt_NotReversible_InvalidText := kt_NotReversible_InvalidText,
    kt_InvalidCommand_InvalidText := kt_InvalidCommand_InvalidText,
    kt_Refused_InvalidText := kt_Refused_InvalidText,
    kt_NoDeed_InvalidText := kt_NoDeed_InvalidText,
    kt_UnknownName_InvalidText := kt_UnknownName_InvalidText,
    kt_InvalidForm_KeyError := kt_InvalidForm_KeyError,
    kt_InvalidText_KeyError := kt_InvalidText_KeyError,
    kt_InvalidPiece_KeyError := kt_InvalidPiece_KeyError,
    kt_InvalidCount_KeyError := kt_InvalidCount_KeyError,
    kt_InvalidSizes_KeyError := kt_InvalidSizes_KeyError,
    kt_InvalidSize_KeyError := kt_InvalidSize_KeyError,
    kt_NotReversible_KeyError := kt_NotReversible_KeyError,
    kt_InvalidCommand_KeyError := kt_InvalidCommand_KeyError,
    kt_Refused_KeyError := kt_Refused_KeyError,
    kt_NoDeed_KeyError := kt_NoDeed_KeyError,
    kt_UnknownName_KeyError := kt_UnknownName_KeyError,
    kt_InvalidForm_NoDeed := kt_InvalidForm_NoDeed,
    kt_InvalidText_NoDeed := kt_InvalidText_NoDeed,
    kt_InvalidPiece_NoDeed := kt_InvalidPiece_NoDeed,
    kt_InvalidCount_NoDeed := kt_InvalidCount_NoDeed,
    kt_InvalidSizes_NoDeed := kt_InvalidSizes_NoDeed,
    kt_InvalidSize_NoDeed := kt_InvalidSize_NoDeed,
    kt_NotReversible_NoDeed := kt_NotReversible_NoDeed,
    kt_InvalidCommand_NoDeed := kt_InvalidCommand_NoDeed,
    kt_Refused_NoDeed := kt_Refused_NoDeed,
    kt_UnknownName_NoDeed := kt_UnknownName_NoDeed,
    kt_InvalidForm_NotReversible := kt_InvalidForm_NotReversible,
    kt_InvalidText_NotReversible := kt_InvalidText_NotReversible,
    kt_InvalidPiece_NotReversible := kt_InvalidPiece_NotReversible,
    kt_InvalidCount_NotReversible := kt_InvalidCount_NotReversible,
    kt_InvalidSizes_NotReversible := kt_InvalidSizes_NotReversible,
    kt_InvalidSize_NotReversible := kt_InvalidSize_NotReversible,
    kt_InvalidCommand_NotReversible := kt_InvalidCommand_NotReversible,
    kt_Refused_NotReversible := kt_Refused_NotReversible,
    kt_NoDeed_NotReversible := kt_NoDeed_NotReversible,
    kt_UnknownName_NotReversible := kt_UnknownName_NotReversible,
    kt_InvalidForm_Refused := kt_InvalidForm_Refused,
    kt_InvalidText_Refused := kt_InvalidText_Refused,
    kt_InvalidPiece_Refused := kt_InvalidPiece_Refused,
    kt_InvalidCount_Refused := kt_InvalidCount_Refused,
    kt_InvalidSizes_Refused := kt_InvalidSizes_Refused,
    kt_InvalidSize_Refused := kt_InvalidSize_Refused,
    kt_NotReversible_Refused := kt_NotReversible_Refused,
    kt_InvalidCommand_Refused := kt_InvalidCommand_Refused,
    kt_NoDeed_Refused := kt_NoDeed_Refused,
    kt_UnknownName_Refused := kt_UnknownName_Refused,
    kt_InvalidForm_UnknownName := kt_InvalidForm_UnknownName,
    kt_InvalidText_UnknownName := kt_InvalidText_UnknownName,
    kt_InvalidPiece_UnknownName := kt_InvalidPiece_UnknownName,
    kt_InvalidCount_UnknownName := kt_InvalidCount_UnknownName,
    kt_InvalidSizes_UnknownName := kt_InvalidSizes_UnknownName,
    kt_InvalidSize_UnknownName := kt_InvalidSize_UnknownName,
    kt_NotReversible_UnknownName := kt_NotReversible_UnknownName,
    kt_InvalidCommand_UnknownName := kt_InvalidCommand_UnknownName,
    kt_Refused_UnknownName := kt_Refused_UnknownName,
    kt_NoDeed_UnknownName := kt_NoDeed_UnknownName,
    kt_InvalidForm_ValueError := kt_InvalidForm_ValueError,
    kt_InvalidText_ValueError := kt_InvalidText_ValueError,
    kt_InvalidPiece_ValueError := kt_InvalidPiece_ValueError,
    kt_InvalidCount_ValueError := kt_InvalidCount_ValueError,
    kt_InvalidSizes_ValueError := kt_InvalidSizes_ValueError,
    kt_InvalidSize_ValueError := kt_InvalidSize_ValueError,
    kt_NotReversible_ValueError := kt_NotReversible_ValueError,
    kt_InvalidCommand_ValueError := kt_InvalidCommand_ValueError,
    kt_Refused_ValueError := kt_Refused_ValueError,
    kt_NoDeed_ValueError := kt_NoDeed_ValueError,
    kt_UnknownName_ValueError := kt_UnknownName_ValueError,
    bi_IndexError := bi_IndexError,
    bi_KeyError := bi_KeyError }
  exact ⟨fd_law, fun s v => FunD.bindsA (ps := ["_law_script"]) F0_law (fun _ _ _ _ _ _ us hl => match us, hl with | [_], _ => rfl) s [v] rfl, fun base _ _ => (Tx.ok_law t).to fun vs H Q E q => spL_to (T := (tab (pp_c_InvalidForm K) (pp_c_InvalidText K) (pp_c_InvalidPiece K) (pp_c_InvalidCount K) (pp_c_InvalidSizes K) (pp_c_InvalidSize K) (pp_c_NotReversible K) (pp_c_InvalidCommand K) (pp_c_Refused K) (pp_c_NoDeed K) (pp_c_UnknownName K))) law_of q⟩
end K
namespace KH
open PySem PySem.W PySem.Calls PyProof.Rows
abbrev R : OpenRow := OpenLaw.row PySem.Challenge.rw_clashcounts_k01_errors
abbrev qv : Program := view R.prog [22]
def nms : List PySem.Str := (["ClashError", "InvalidForm", "InvalidText", "InvalidPiece", "InvalidCount", "InvalidSizes", "InvalidSize", "NotReversible", "InvalidCommand", "Refused", "NoDeed", "UnknownName", "_law_feed", "_law_take", "_law_value", "_law_errors", "_law_named", "_law_kept", "_law_classes", "_law_caught"] : List PySem.Str)
set_option maxHeartbeats 0 in
theorem run_false0 (w : World) : Dl.Run1 R 100000 (fun s => HandSHeadRun.looksF R.prog (PySem.W.boot_heap (w.withFollow "special-get-raises" false).params) s.abs) true (w.withFollow "special-get-raises" false) := by
  intro os
  kernel_rfl
set_option maxHeartbeats 0 in
theorem run_false1 (w : World) : Dl.Run1 R 100000 (fun s => HandSHeadRun.seenQ qv nms (importedModules R.prog.main.body) (fun s => PySem.W.xlAt qv [] s && PySem.W.recOk R.toRowW.records s) s.abs) (PySem.W.openGood qv nms) (w.withFollow "special-get-raises" false) := by
  intro os
  kernel_rfl
set_option maxHeartbeats 0 in
theorem run_false2 (w : World) : Dl.Run1 R 100000 (Dl.obX 6 K.fcl K.fnl) ((Dl.hookX 6 K.fcl K.fnl).val (w.withFollow "special-get-raises" false)) (w.withFollow "special-get-raises" false) := by
  intro os
  kernel_rfl
theorem run_false (w : World) : HandSHeadRun.RunEq R qv (Dl.hookX 6 K.fcl K.fnl) (Dl.obX 6 K.fcl K.fnl) 100000 nms (w.withFollow "special-get-raises" false) := Dl.run3 (run_false0 w) (run_false1 w) (run_false2 w)
set_option maxHeartbeats 0 in
theorem run_true0 (w : World) : Dl.Run1 R 100000 (fun s => HandSHeadRun.looksF R.prog (PySem.W.boot_heap (w.withFollow "special-get-raises" true).params) s.abs) true (w.withFollow "special-get-raises" true) := by
  intro os
  kernel_rfl
set_option maxHeartbeats 0 in
theorem run_true1 (w : World) : Dl.Run1 R 100000 (fun s => HandSHeadRun.seenQ qv nms (importedModules R.prog.main.body) (fun s => PySem.W.xlAt qv [] s && PySem.W.recOk R.toRowW.records s) s.abs) (PySem.W.openGood qv nms) (w.withFollow "special-get-raises" true) := by
  intro os
  kernel_rfl
set_option maxHeartbeats 0 in
theorem run_true2 (w : World) : Dl.Run1 R 100000 (Dl.obX 6 K.fcl K.fnl) ((Dl.hookX 6 K.fcl K.fnl).val (w.withFollow "special-get-raises" true)) (w.withFollow "special-get-raises" true) := by
  intro os
  kernel_rfl
theorem run_true (w : World) : HandSHeadRun.RunEq R qv (Dl.hookX 6 K.fcl K.fnl) (Dl.obX 6 K.fcl K.fnl) 100000 nms (w.withFollow "special-get-raises" true) := Dl.run3 (run_true0 w) (run_true1 w) (run_true2 w)
theorem run (w : World) : HandSHeadRun.RunEq R qv (Dl.hookX 6 K.fcl K.fnl) (Dl.obX 6 K.fcl K.fnl) 100000 nms w := byRow2 "special-get-raises" (P := fun w => HandSHeadRun.RunEq R qv (Dl.hookX 6 K.fcl K.fnl) (Dl.obX 6 K.fcl K.fnl) 100000 nms w) run_false run_true w
end KH
open PySem PySem.W PySem.Calls PyProof.Rows in
set_option maxRecDepth 100000 in
set_option maxHeartbeats 0 in
theorem PySem.Challenge.cw_clashcounts_k01_errors_holds : PySem.Challenge.rw_clashcounts_k01_errors.Holds := by
  w_on; o_law
  refine HandSHeadRun.head_any (r := OpenLaw.row PySem.Challenge.rw_clashcounts_k01_errors) (q := KH.qv) (H := Dl.hookX 6 K.fcl K.fnl) (ob := Dl.obX 6 K.fcl K.fnl) (M := 100000) (loose := KH.nms) (d := HandSHeadRun.topDef (OpenLaw.row PySem.Challenge.rw_clashcounts_k01_errors).prog 22) (kwd := []) (Dl.obX_eq 6 K.fcl K.fnl) (by kernel_rfl) (fun s => by kernel_rfl) KH.run (by kernel_rfl) (by kernel_rfl) (by kernel_rfl) (by rfl) (by first | assumption | decide +kernel) (by decide +kernel) ⟨rfl, rfl, rfl, rfl, rfl, by decide +kernel⟩ ?hw ?hc
  case hw => w_witness2
  case hc =>
    refine Dl.walk_xG (l := PySem.Challenge.rw_clashcounts_k01_errors) (n := 63) (k := 6) (x := "_law_script") rfl (by decide) (by kernel_rfl) ⟨rfl, by decide, by decide⟩ ?F (by decide)
    intro w mg fa h Y G hmg0
    obtain ⟨K, KX, c⟩ := Y
    have hmg : mg ("law" : PySem.Str) = some (.ref fa) := by
      have e : (HandSHeadRun.topDef (OpenLaw.row PySem.Challenge.rw_clashcounts_k01_errors).prog 22).name = ("law" : PySem.Str) := by kernel_rfl
      rw [← e]
      exact hmg0
    obtain ⟨fd, hb, hF⟩ := _root_.K.all_mk (P := (PySem.Challenge.rw_clashcounts_k01_errors).prog) (w := w) KX G hmg c
    exact ⟨K, fd, KX, hb, hF⟩
