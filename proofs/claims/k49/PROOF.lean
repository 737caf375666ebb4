import PyProof.Rows.All
import Wide.All
import OpenK.AllK
import Wide.FinOn
import HandS.ForMost
import HandS.Wide
import HandS.EndBits
import HandS.Zip
import HandS.IsInst
import HandS.Defaults
import HandS.MakeKwOnly
import HandS.Property
import HandS.OwnEq
import HandS.Lambda
import KE.KDictKeyed
import HandS.Exc
import HandS.WordsExc
import HandS.TupAny
import HandS.Flow
import HandS.Style
import KE.KOpsOwn
import KE.GoesEnum
import HandS.NoneIn
import HandS.ExcInit
import HandS.ExcIs
import HandS.ExcField
import HandS.TryMany
import HandS.ExcOwn
import HandS.Text
import PyProof.StrOps2
import HandS.Iter
import HandS.TupMul
import HandS.RaiseMore
import KE.GoesMore
import HandS.TupLe
import HandS.More
import OpenK.KMeth
import OpenK.KOps
import KE.KCallOwn
import HandS.Conv
import HandS.MakeKw
import PyProof.Rows.Range3
import HandS.Dict
import HandS.Small
import HandS.DictComp
import HandS.SortInts
import HandS.ListItems
import HandS.WordsDict
import HandS.Star
import HandS.EndTab
import HandS.NestedK
import KE.KNestM
import HandS.StrMore
import HandS.FStr
import HandS.ReplaceLit
import HandS.Replace
import HandS.ReplaceList
import KE.KExcInit
import HandS.Records
import HandS.TryOnly
import HandS.DictTup
import HandS.HeadHook3
import PyProof.NeKinds
import PyProof.AutoSeq1
import KE.KUnpackStar
import KE.DataEq
import PyProof.Rows.StrRev
import HandS.ExcCtx
import HandS.SuiteRaise
import HandS.RaiseFrom
import HandS.ExcInitHot
import KE.GoesRaise
import KE.KEqDict
import KE.KItemsList
import HandS.ClsMeth
import KE.KStateDown
import HandS.Head0
import HandS.Head1
import HandS.Head2
import HandS.HeadEnd
import HandS.HeadHook1
import HandS.HeadHook2
import PySem.Challenge.RW_clashcounts_k49_states_set_and_told
set_option Elab.async false
set_option linter.all false
set_option maxRecDepth 100000
set_option maxHeartbeats 1000000
namespace Dl
open PySem L2
structure LamF where
  q : Str
  ps : Arguments
  b : Expr
  sc : Scope
def LamO (f : Addr) (F : LamF) (c : Addr) : HO := .ext fun h => ∃ pm ctv : Value, h.get? f = some (PySem.W.kla_obj "<lambda>" F.q F.ps F.b F.sc [] pm c ctv)
inductive D where
  | non | bl (b : Bool) | int (i : Int) | str (x : Str) | tup (xs : List D) | lst (xs : List D) | obj (n : Nat) (xs : List D) | scr (xs : List D)
  /-- a caught error: its class, where it stands, its dict, its attributes -/
  | err (n : Nat) (a : Addr) (dd : Option Addr) (xs : List D)
  /-- a class -/
  | cls (C : Addr)
  /-- a dict that is only read: its keys, its values -/
  | dct (ks : List Key) (xs : List D)
  /-- a lambda -/
  | fn (F : LamF)
  /-- a dict that is only read, its keys tuples of ints and such tuples -/
  | dcn (ks xs : List D)
def nkD : D → Option NestedKey
  | .int i => some (.num i)
  | .tup ds => (go ds).map .tup
  | _ => none
where go : List D → Option (List NestedKey)
  | [] => some []
  | d :: ds => match nkD d, go ds with
    | some k, some ks => some (k :: ks)
    | _, _ => none
def DN (xs : List (NestedKey × Addr × Value)) (o : Obj) : Prop := o.ExactDict ∧ (∃ es ep, o.data = .dict es ep ∧ ∀ (P : Program) (w : World), es.toList = xs.map (entryOfKey (nestedKind P w))) ∧ (xs.map (·.1)).Nodup ∧ ∀ x ∈ xs, x.1.depth ≤ 8
def dN (a : Addr) (o : Obj) : HO := .ext fun h => h.get? a = some o
abbrev Tab := Nat → Option (Addr × List Str)
def TAt (K : PySem.W.Frag) (M : Addr → Prop) (H : Hp) (a : Addr) (vs : List V) : Prop := (¬ M a ∧ Rd H a (.tup vs)) ∨ SqT K (fun _ => none) a vs
def LAt (K : PySem.W.Frag) (M : Addr → Prop) (H : Hp) (a : Addr) (vs : List V) : Prop := (¬ M a ∧ ∃ o, H a = some (.frz o (.lst vs))) ∨ SqL K (fun _ => none) a vs
def XAt (M : Addr → Prop) (H : Hp) (dd : Option Addr) (fn : List Str) (vs : List V) : Prop := (fn = [] ∧ vs = [] ∧ dd = none) ∨ ∃ d, dd = some d ∧ ¬ M d ∧ H d = some (.xd (fn.zip vs)) ∧ vs.length = fn.length
mutual
inductive Rep (T : Tab) (K : PySem.W.Frag) (M : Addr → Prop) (H : Hp) : V → D → Prop
  | non : Rep T K M H .non .non
  | bl {b : Bool} : Rep T K M H (.bl b) (.bl b)
  | int {i : Int} : Rep T K M H (.int i) (.int i)
  | str {x : Str} : Rep T K M H (.str x) (.str x)
  | tup {a : Addr} {vs : List V} {ds : List D} : TAt K M H a vs → Reps T K M H vs ds → Rep T K M H (.ref a) (.tup ds)
  | lst {a : Addr} {vs : List V} {ds : List D} : ¬ M a → H a = some (.lst vs) → Reps T K M H vs ds → Rep T K M H (.ref a) (.lst ds)
  | scr {a : Addr} {vs : List V} {ds : List D} : LAt K M H a vs → Reps T K M H vs ds → Rep T K M H (.ref a) (.scr ds)
  | obj {a C dx : Addr} {n : Nat} {fn : List Str} {vs : List V} {ds : List D} : T n = some (C, fn) → ¬ M a → H a = some (.ins C dx (fn.zip vs)) → vs.length = fn.length → Reps T K M H vs ds → Rep T K M H (.ref a) (.obj n ds)
  | err {a C : Addr} {n : Nat} {fn : List Str} {dd : Option Addr} {vs : List V} {ds : List D} : T n = some (C, fn) → XAt M H dd fn vs → Reps T K M H vs ds → Rep T K M H (.ref a) (.err n a dd ds)
  | cls {C : Addr} : Rep T K M H (.ref C) (.cls C)
  | dct {a : Addr} {o : Obj} {kvs : List (Key × V)} {ks : List Key} {ds : List D} : ¬ M a → H a = some (.frz o (.dK kvs)) → kvs.map (·.1) = ks → Reps T K M H (kvs.map (·.2)) ds → Rep T K M H (.ref a) (.dct ks ds)
  | fn {f c : Addr} {F : LamF} : ¬ M f → ¬ M c → H f = some (LamO f F c) → H c = some (LamX.CodeO c F.q) → Rep T K M H (.ref f) (.fn F)
  | dcn {a : Addr} {o od : Obj} {xs : List (NestedKey × Addr × Value)} {vs : List V} {ks ds : List D} : ¬ M a → H a = some (.frz od (dN a o)) → DN xs o → (a == sysModules) = false → xs.length ≤ sizeLine → Reps T K M H (xs.map fun x => V.ref x.2.1) ks → ks.map nkD = xs.map (fun x => some x.1) → Vals vs (xs.map fun x => x.2.2) → Reps T K M H vs ds → Rep T K M H (.ref a) (.dcn ks ds)
inductive Reps (T : Tab) (K : PySem.W.Frag) (M : Addr → Prop) (H : Hp) : List V → List D → Prop
  | nil : Reps T K M H [] []
  | cons {v : V} {d : D} {vs : List V} {ds : List D} : Rep T K M H v d → Reps T K M H vs ds → Reps T K M H (v :: vs) (d :: ds)
end
section
variable {T : Tab} {K : PySem.W.Frag} {M M' : Addr → Prop} {H H' : Hp} {a : Addr} {v : V} {d : D} {vs : List V} {ds : List D}
def Kp (M : Addr → Prop) (H : Hp) (M' : Addr → Prop) (H' : Hp) : Prop := ∀ a o, H a = some o → ¬ M a → H' a = some o ∧ ¬ M' a
theorem Kp.refl : Kp M H M H := fun _ _ h n => ⟨h, n⟩
theorem Kp.trans {M2 : Addr → Prop} {H2 : Hp} (x : Kp M H M' H') (y : Kp M' H' M2 H2) : Kp M H M2 H2 := fun a o h n =>
  let ⟨h1, n1⟩ := x a o h n
  y a o h1 n1
theorem TAt.kp (k : Kp M H M' H') (h : TAt K M H a vs) : TAt K M' H' a vs := by
  rcases h with ⟨n, h | ⟨o, h⟩⟩ | h
  · exact .inl ⟨(k _ _ h n).2, .inl (k _ _ h n).1⟩
  · exact .inl ⟨(k _ _ h n).2, .inr ⟨o, (k _ _ h n).1⟩⟩
  · exact .inr h
theorem LAt.kp (k : Kp M H M' H') (h : LAt K M H a vs) : LAt K M' H' a vs := by
  rcases h with ⟨n, o, h⟩ | h
  · exact .inl ⟨(k _ _ h n).2, o, (k _ _ h n).1⟩
  · exact .inr h
theorem TAt.sq (h : TAt K M H a vs) : SqT K H a vs := by
  rcases h with ⟨n, h⟩ | h
  · exact .inl h
  · rcases h with (h | ⟨_, h⟩) | h
    · cases h
    · cases h
    · exact .inr h
theorem LAt.sq (h : LAt K M H a vs) : SqL K H a vs := by
  rcases h with h | h
  · exact .inl (.inr h.2)
  · rcases h with (h | ⟨_, h⟩) | h
    · cases h
    · cases h
    · exact .inr h
theorem LAt.of (hO : Only H) (h : SqL K H a vs) : LAt K (fun _ => False) H a vs := by
  rcases h with (h | ⟨o, h⟩) | h
  · rcases hO a with e | ⟨o, xs, e⟩ <;> rw [e] at h <;> cases h
  · exact .inl ⟨id, o, h⟩
  · exact .inr (.inr h)
theorem XAt.kp {dd : Option Addr} {fn : List Str} (k : Kp M H M' H') (h : XAt M H dd fn vs) : XAt M' H' dd fn vs := by
  rcases h with h | ⟨d, e, n, h1, h2⟩
  · exact .inl h
  · exact .inr ⟨d, e, (k _ _ h1 n).2, (k _ _ h1 n).1, h2⟩
mutual
theorem Rep.kp (k : Kp M H M' H') {v : V} {d : D} (h : Rep T K M H v d) : Rep T K M' H' v d :=
  match h with
  | .non => .non
  | .bl => .bl
  | .int => .int
  | .str => .str
  | .tup h1 h2 => .tup (h1.kp k) (Reps.kp k h2)
  | .lst n h1 h2 => .lst (k _ _ h1 n).2 (k _ _ h1 n).1 (Reps.kp k h2)
  | .scr h1 h2 => .scr (h1.kp k) (Reps.kp k h2)
  | .obj ht hm h1 hl h2 => .obj ht (k _ _ h1 hm).2 (k _ _ h1 hm).1 hl (Reps.kp k h2)
  | .err ht h1 h2 => .err ht (h1.kp k) (Reps.kp k h2)
  | .cls => .cls
  | .dct n h1 hl h2 => .dct (k _ _ h1 n).2 (k _ _ h1 n).1 hl (Reps.kp k h2)
  | .fn n m h1 h2 => .fn (k _ _ h1 n).2 (k _ _ h2 m).2 (k _ _ h1 n).1 (k _ _ h2 m).1
  | .dcn n h1 h2 h3 h4 h5 h6 h7 h8 => .dcn (k _ _ h1 n).2 (k _ _ h1 n).1 h2 h3 h4 (Reps.kp k h5) h6 h7 (Reps.kp k h8)
theorem Reps.kp (k : Kp M H M' H') {vs : List V} {ds : List D} (h : Reps T K M H vs ds) : Reps T K M' H' vs ds :=
  match h with
  | .nil => .nil
  | .cons h1 h2 => .cons (Rep.kp k h1) (Reps.kp k h2)
end
theorem Reps.length (h : Reps T K M H vs ds) : vs.length = ds.length := by
  induction ds generalizing vs with
  | nil => cases h; rfl
  | cons d ds ih => cases h with | cons h1 h2 => simp [ih h2]
theorem Reps.get : ∀ {vs : List V} {ds : List D} {i : Nat} {d : D}, Reps T K M H vs ds → ds[i]? = some d → ∃ v, vs[i]? = some v ∧ Rep T K M H v d
  | _, _, _, _, .nil, e => by simp at e
  | _, _, 0, _, .cons r _, e => by simp at e; subst e; exact ⟨_, rfl, r⟩
  | _, _, i + 1, d, .cons _ t, e => by
    obtain ⟨u, h1, h2⟩ := Reps.get (i := i) (d := d) t (by simpa using e)
    exact ⟨u, by simpa using h1, h2⟩
theorem Reps.append : ∀ {vs ws : List V} {ds es : List D}, Reps T K M H vs ds → Reps T K M H ws es → Reps T K M H (vs ++ ws) (ds ++ es)
  | _, _, _, _, .nil, s => s
  | _, _, _, _, .cons r t, s => .cons r (Reps.append t s)
theorem Reps.take : ∀ {vs : List V} {ds : List D} (n : Nat), Reps T K M H vs ds → Reps T K M H (vs.take n) (ds.take n)
  | _, _, 0, _ => .nil
  | _, _, _ + 1, .nil => .nil
  | _, _, n + 1, .cons r t => .cons r (Reps.take n t)
theorem Reps.drop : ∀ {vs : List V} {ds : List D} (n : Nat), Reps T K M H vs ds → Reps T K M H (vs.drop n) (ds.drop n)
  | _, _, 0, r => r
  | _, _, _ + 1, .nil => .nil
  | _, _, n + 1, .cons _ t => Reps.drop n t
theorem Reps.set {v : V} {d : D} (r : Rep T K M H v d) : ∀ {vs : List V} {ds : List D} (i : Nat), Reps T K M H vs ds → Reps T K M H (vs.set i v) (ds.set i d)
  | _, _, _, .nil => .nil
  | _, _, 0, .cons _ t => .cons r t
  | _, _, i + 1, .cons q t => .cons q (Reps.set r i t)
theorem Reps.rev : ∀ {vs : List V} {ds : List D}, Reps T K M H vs ds → Reps T K M H vs.reverse ds.reverse
  | _, _, .nil => .nil
  | _, _, .cons r t => by
    rw [List.reverse_cons, List.reverse_cons]
    exact (Reps.rev t).append (.cons r .nil)
theorem Reps.replicate {v : V} {d : D} (r : Rep T K M H v d) : ∀ n, Reps T K M H (List.replicate n v) (List.replicate n d)
  | 0 => .nil
  | n + 1 => .cons r (Reps.replicate r n)
theorem Reps.ints : ∀ (ns : List Int), Reps T K M H (ns.map V.int) (ns.map D.int)
  | [] => .nil
  | _ :: r => .cons .int (Reps.ints r)
theorem Reps.of_ints : ∀ {ns : List Int} {vs : List V}, Reps T K M H vs (ns.map D.int) → vs = ns.map V.int
  | [], _, .nil => rfl
  | _ :: r, _, .cons h t => by
    cases h
    rw [Reps.of_ints t]
    rfl
end
inductive Cell where
  | lst (xs : List D)
  | dct (kvs : List (Key × D))
  | ins (n : Nat) (fs : List (Str × D))
  | dcn (kds : List (D × D))
  /-- a list, a dict, an instance whose address is known -/
  | lstA (p : Addr) (xs : List D)
  | dctA (p : Addr) (kvs : List (Key × D))
  | insA (p : Addr) (n : Nat) (fs : List (Str × D))
inductive Sl where
  | dat (d : D)
  | cel (k : Nat)
structure Sta where
  sl : List (Option Sl)
  cs : List Cell
abbrev Mm (ad : List Addr) (F : Addr → Prop) : Addr → Prop := fun a => a ∈ ad ∨ F a
def NDat (T : Tab) (K : PySem.W.Frag) (M : Addr → Prop) (H : Hp) (a : Addr) (o : Obj) (kds : List (D × D)) : Prop := ∃ xs vs, DN xs o ∧ (a == sysModules) = false ∧ xs.length ≤ sizeLine ∧ Reps T K M H (xs.map fun x => V.ref x.2.1) (kds.map (·.1)) ∧ (kds.map (·.1)).map nkD = xs.map (fun x => some x.1) ∧ Vals vs (xs.map fun x => x.2.2) ∧ Reps T K M H vs (kds.map (·.2))
theorem NDat.kp {T : Tab} {K : PySem.W.Frag} {M M' : Addr → Prop} {H H' : Hp} {a : Addr} {o : Obj} {kds : List (D × D)} (k : Kp M H M' H') (h : NDat T K M H a o kds) : NDat T K M' H' a o kds :=
  let ⟨xs, vs, h1, h2, h3, h4, h5, h6, h7⟩ := h
  ⟨xs, vs, h1, h2, h3, h4.kp k, h5, h6, h7.kp k⟩
abbrev NoC (o : HO) : Prop := ∀ φ, o = .ext φ → ∀ c q, HO.ext φ ≠ LamX.CodeO c q
theorem dN_noc {a : Addr} {o : Obj} (hd : ∃ es ep, o.data = .dict es ep) : NoC (dN a o) := fun φ e c q z => by
  obtain ⟨es, ep, hd⟩ := hd
  have z : dN a o = LamX.CodeO c q := e.trans z
  unfold dN LamX.CodeO at z
  injection z with z
  have hh : ∀ h : Heap, (h.get? a = some o) = (∃ (oc : Obj) (vs : Array Value) (t : Tok), h.get? c = some oc ∧ oc.data = .fields vs ∧ vs[1]? = some (.str q t)) := fun h => congrFun z h
  have g : ∀ b : Addr, Heap.get? { (default : Heap) with objs := (Array.replicate (a + 1) o) } b = if b < a + 1 then some o else none := fun b => by
    obtain ⟨x1, x2, x3, x4⟩ := o
    have hd : x3 = .dict es ep := hd
    subst hd
    unfold Heap.get?
    rw [Array.getElem?_replicate]
    by_cases z : b < a + 1
    · rw [if_pos z]
    · rw [if_neg z]
  have h1 := hh { (default : Heap) with objs := (Array.replicate (a + 1) o) }
  rw [g, g, if_pos (Nat.lt_succ_self a)] at h1
  obtain ⟨oc, vs, t, e1, e2, _⟩ := h1.mp rfl
  split at e1
  · cases e1
    rw [hd] at e2
    cases e2
  · cases e1
def CellAt (T : Tab) (K : PySem.W.Frag) (M : Addr → Prop) (H : Hp) (a : Addr) : Cell → Prop
  | .lst ds => ∃ vs, H a = some (.lst vs) ∧ Reps T K M H vs ds
  | .dct kds => ∃ kvs, H a = some (.dK kvs) ∧ kvs.map (·.1) = kds.map (·.1) ∧ Reps T K M H (kvs.map (·.2)) (kds.map (·.2))
  | .dcn kds => ∃ o, H a = some (dN a o) ∧ NDat T K M H a o kds
  | .ins n fs => ∃ C fn dx vs, T n = some (C, fn) ∧ H a = some (.ins C dx ((fs.map (·.1)).zip vs)) ∧ vs.length = fs.length ∧ Reps T K M H vs (fs.map (·.2))
  | .lstA p ds => ∃ vs, (H a = some (.lst vs) ∧ Reps T K M H vs ds) ∧ p = a
  | .dctA p kds => ∃ kvs, (H a = some (.dK kvs) ∧ kvs.map (·.1) = kds.map (·.1) ∧ Reps T K M H (kvs.map (·.2)) (kds.map (·.2))) ∧ p = a
  | .insA p n fs => ∃ C fn dx vs, (T n = some (C, fn) ∧ H a = some (.ins C dx ((fs.map (·.1)).zip vs)) ∧ vs.length = fs.length ∧ Reps T K M H vs (fs.map (·.2))) ∧ p = a
def SlRep (T : Tab) (K : PySem.W.Frag) (ad : List Addr) (F : Addr → Prop) (H : Hp) (v : V) : Sl → Prop
  | .dat d => Rep T K (Mm ad F) H v d
  | .cel k => ∃ a, ad[k]? = some a ∧ v = .ref a
def Fr1 (H H' : Hp) (a : Addr) : Prop := H' a = H a ∨ ∃ ps qs, H a = some (.tbl ps) ∧ H' a = some (.tbl qs)
def TbOk (T : Tab) (F : Addr → Prop) (H : Hp) : Prop := ∀ P q, T 900 = some (P, [q]) → F P ∧ LamX.TabS H P q ∧ ∀ a, F a → ∃ o, H a = some o ∧ NoC o
structure HoldC (T : Tab) (K : PySem.W.Frag) (ad : List Addr) (F : Addr → Prop) (H : Hp) (cs : List Cell) : Prop where
  nd : ad.Nodup
  fr : ∀ a ∈ ad, ¬ F a
  al : ∀ a, F a → ∃ o, H a = some o
  tb : TbOk T F H
  ln : ad.length = cs.length
  ce : ∀ (k : Nat) a c, ad[k]? = some a → cs[k]? = some c → CellAt T K (Mm ad F) H a c
structure Hold (T : Tab) (K : PySem.W.Frag) (S : Sta) (ad : List Addr) (F : Addr → Prop) (σ : St) (H : Hp) : Prop where
  hc : HoldC T K ad F H S.cs
  sz : σ.length = S.sl.length
  sl : ∀ (i : Nat) s, S.sl[i]? = some (some s) → ∃ v, σ[i]? = some (some v) ∧ SlRep T K ad F H v s
structure Ext (ad : List Addr) (F : Addr → Prop) (H : Hp) (ad' : List Addr) (H' : Hp) : Prop where
  pre : ∃ t, ad' = ad ++ t ∧ ∀ a ∈ t, H a = none
  keep : ∀ a o, H a = some o → ¬ Mm ad F a → H' a = some o
  frm : ∀ a, F a → Fr1 H H' a
section
variable {T : Tab} {K : PySem.W.Frag} {F : Addr → Prop} {ad ad1 ad2 : List Addr} {H H1 H2 : Hp} {cs : List Cell} {S : Sta} {σ : St} {v : V} {d : D} {s : Sl}
theorem Fr1.same {a : Addr} (e : H1 a = H a) : Fr1 H H1 a := .inl e
theorem Fr1.trans {a : Addr} (x : Fr1 H H1 a) (y : Fr1 H1 H2 a) : Fr1 H H2 a := by
  rcases x with x | ⟨p, q, x1, x2⟩ <;> rcases y with y | ⟨p', q', y1, y2⟩
  · exact .inl (y.trans x)
  · exact .inr ⟨p', q', x ▸ y1, y2⟩
  · exact .inr ⟨p, q, x1, y.trans x2⟩
  · exact .inr ⟨p, q', x1, y2⟩
theorem Fr1.ex {a : Addr} (x : Fr1 H H1 a) (h : ∃ o, H a = some o) : ∃ o, H1 a = some o := by
  rcases x with x | ⟨_, q, _, x2⟩
  · rw [x]; exact h
  · exact ⟨_, x2⟩
theorem Fr1.eq {a : Addr} {o : HO} (x : Fr1 H H1 a) (h : H a = some o) (n : ∀ ps, o ≠ .tbl ps) : H1 a = some o := by
  rcases x with x | ⟨p, q, x1, _⟩
  · rw [x]; exact h
  · rw [h] at x1
    cases x1
    exact absurd rfl (n p)
theorem TbOk.ext (t : TbOk T F H) (e : ∀ b o, H b = some o → H1 b = some o) : TbOk T F H1 := fun P q h => by
  obtain ⟨t1, t2, t3⟩ := t P q h
  refine ⟨t1, t2.ext e, fun a fa => ?_⟩
  obtain ⟨o, o1, o2⟩ := t3 a fa
  exact ⟨o, e a o o1, o2⟩
theorem TbOk.upd {a : Addr} {o o' : HO} (t : TbOk T F H) (h : H a = some o) (n1 : ∀ ps, o ≠ .tbl ps) (n2 : NoC o) (n3 : NoC o') : TbOk T F (L2.upd H a o') := fun P q e => by
  obtain ⟨fp, ⟨ps, e1, e2, e3⟩, t3⟩ := t P q e
  have h1 : P ≠ a := fun z => n1 ps (Option.some.inj (h.symm.trans (z ▸ e1)))
  refine ⟨fp, ⟨ps, by rw [upd_ne h1]; exact e1, e2, fun pos cv hc => ?_⟩, fun b fb => ?_⟩
  · obtain ⟨c, c1, c2⟩ := e3 pos cv hc
    have h2 : c ≠ a := fun z => n2 _ (Option.some.inj (h.symm.trans (z ▸ c2))) c q rfl
    exact ⟨c, c1, by rw [upd_ne h2]; exact c2⟩
  · by_cases z : b = a
    · rw [z]; exact ⟨o', upd_same, n3⟩
    · rw [upd_ne z]; exact t3 b fb
theorem TbOk.new {a : Addr} {o' : HO} (t : TbOk T F H) (h : H a = none) : TbOk T F (L2.upd H a o') := t.ext fun b o e => by rw [upd_ne (ne_of_none e h)]; exact e
theorem TbOk.to {F1 : Addr → Prop} (t : TbOk T F H) (f : ∀ a, F a → F1 a) (g : ∀ a, F1 a → F a ∨ ∃ o, H a = some o ∧ NoC o) : TbOk T F1 H := fun P q e => by
  obtain ⟨t1, t2, t3⟩ := t P q e
  exact ⟨f P t1, t2, fun a fa => (g a fa).elim (t3 a) id⟩
theorem TbOk.newF {a : Addr} {o' : HO} (t : TbOk T F H) (h : H a = none) (n : NoC o') : TbOk T (fun b => F b ∨ b = a) (L2.upd H a o') := (t.new h).to (fun _ z => .inl z) fun b z => z.imp id fun y => by rw [y]; exact ⟨o', upd_same, n⟩
theorem TbOk.back {F1 : Addr → Prop} (t : TbOk T F H) (f : ∀ a, F a → F1 a) (t1 : TbOk T F1 H1) : TbOk T F H1 := fun P q h => ⟨(t P q h).1, (t1 P q h).2.1, fun a fa => (t1 P q h).2.2 a (f a fa)⟩
theorem CellAt.is {M : Addr → Prop} {a : Addr} {c : Cell} (h : CellAt T K M H a c) : ∃ o, H a = some o ∧ (∀ ps, o ≠ .tbl ps) ∧ NoC o := by
  cases c with
  | lst ds => obtain ⟨vs, e, _⟩ := h; exact ⟨_, e, fun _ z => (nomatch z), fun _ z => nomatch z⟩
  | dct kvs => obtain ⟨vs, e, _⟩ := h; exact ⟨_, e, fun _ z => (nomatch z), fun _ z => nomatch z⟩
  | ins n fs => obtain ⟨C, fn, dx, vs, _, e, _⟩ := h; exact ⟨_, e, fun _ z => (nomatch z), fun _ z => nomatch z⟩
  | dcn kds => obtain ⟨o, e, _, _, ⟨_, ⟨es, ep, h1, _⟩, _⟩, _⟩ := h; exact ⟨_, e, fun _ z => (nomatch z), dN_noc ⟨es, ep, h1⟩⟩
  | lstA p ds => obtain ⟨vs, ⟨e, _⟩, _⟩ := h; exact ⟨_, e, fun _ z => (nomatch z), fun _ z => nomatch z⟩
  | dctA p kvs => obtain ⟨vs, ⟨e, _⟩, _⟩ := h; exact ⟨_, e, fun _ z => (nomatch z), fun _ z => nomatch z⟩
  | insA p n fs => obtain ⟨C, fn, dx, vs, ⟨_, e, _⟩, _⟩ := h; exact ⟨_, e, fun _ z => (nomatch z), fun _ z => nomatch z⟩
theorem CellAt.some {M : Addr → Prop} {a : Addr} {c : Cell} (h : CellAt T K M H a c) : ∃ o, H a = some o := by
  cases c with
  | lst ds => obtain ⟨vs, e, _⟩ := h; exact ⟨_, e⟩
  | dct kvs => obtain ⟨vs, e, _⟩ := h; exact ⟨_, e⟩
  | ins n fs => obtain ⟨C, fn, dx, vs, _, e, _⟩ := h; exact ⟨_, e⟩
  | dcn kds => obtain ⟨o, e, _⟩ := h; exact ⟨_, e⟩
  | lstA p ds => obtain ⟨vs, ⟨e, _⟩, _⟩ := h; exact ⟨_, e⟩
  | dctA p kvs => obtain ⟨vs, ⟨e, _⟩, _⟩ := h; exact ⟨_, e⟩
  | insA p n fs => obtain ⟨C, fn, dx, vs, ⟨_, e, _⟩, _⟩ := h; exact ⟨_, e⟩
theorem CellAt.kp {M M' : Addr → Prop} {a : Addr} {c : Cell} (k : Kp M H M' H1) (e : H1 a = H a) (h : CellAt T K M H a c) : CellAt T K M' H1 a c := by
  cases c with
  | lst ds => obtain ⟨vs, h1, h2⟩ := h; exact ⟨vs, e.trans h1, h2.kp k⟩
  | dct kvs => obtain ⟨vs, h1, hl, h2⟩ := h; exact ⟨vs, e.trans h1, hl, h2.kp k⟩
  | ins n fs => obtain ⟨C, fn, dx, vs, ht, h1, hl, h2⟩ := h; exact ⟨C, fn, dx, vs, ht, e.trans h1, hl, h2.kp k⟩
  | dcn kds => obtain ⟨o, h1, h2⟩ := h; exact ⟨o, e.trans h1, h2.kp k⟩
  | lstA p ds => obtain ⟨vs, ⟨h1, h2⟩, hp⟩ := h; exact ⟨vs, ⟨e.trans h1, h2.kp k⟩, hp⟩
  | dctA p kvs => obtain ⟨vs, ⟨h1, hl, h2⟩, hp⟩ := h; exact ⟨vs, ⟨e.trans h1, hl, h2.kp k⟩, hp⟩
  | insA p n fs => obtain ⟨C, fn, dx, vs, ⟨ht, h1, hl, h2⟩, hp⟩ := h; exact ⟨C, fn, dx, vs, ⟨ht, e.trans h1, hl, h2.kp k⟩, hp⟩
theorem CellAt.kp1 {M M' : Addr → Prop} {a : Addr} {c : Cell} (k : Kp M H M' H1) (e : Fr1 H H1 a) (h : CellAt T K M H a c) : CellAt T K M' H1 a c := by
  obtain ⟨o, e1, n1, _⟩ := h.is
  exact h.kp k ((e.eq e1 n1).trans e1.symm)
theorem HoldC.mem (h : HoldC T K ad F H cs) {a : Addr} (ha : a ∈ ad) : ∃ o, H a = some o := by
  obtain ⟨k, hk, e⟩ := List.getElem_of_mem ha
  have h1 : ad[k]? = some a := by rw [List.getElem?_eq_getElem hk, e]
  have h2 : cs[k]? = some (cs[k]'(by rw [← h.ln]; exact hk)) := List.getElem?_eq_getElem _
  exact (h.ce k a _ h1 h2).some
theorem HoldC.is (h : HoldC T K ad F H cs) {a : Addr} (ha : a ∈ ad) : ∃ o, H a = some o ∧ (∀ ps, o ≠ .tbl ps) ∧ NoC o := by
  obtain ⟨k, hk, e⟩ := List.getElem_of_mem ha
  have h1 : ad[k]? = some a := by rw [List.getElem?_eq_getElem hk, e]
  have h2 : cs[k]? = some (cs[k]'(by rw [← h.ln]; exact hk)) := List.getElem?_eq_getElem _
  exact (h.ce k a _ h1 h2).is
theorem HoldC.isx (h : HoldC T K ad F H cs) {a : Addr} (ha : a ∈ ad) : ∃ o, H a = some o ∧ NoC o := let ⟨o, e, _, n⟩ := h.is ha; ⟨o, e, n⟩
theorem HoldC.new (h : HoldC T K ad F H cs) {p : Addr} (hp : H p = none) : ¬ Mm ad F p := fun z => by
  rcases z with z | z
  · obtain ⟨o, e⟩ := h.mem z
    rw [e] at hp
    cases hp
  · obtain ⟨o, e⟩ := h.al p z
    rw [e] at hp
    cases hp
theorem Ext.refl : Ext ad F H ad H := ⟨⟨[], by simp, fun _ h => nomatch h⟩, fun _ _ h _ => h, fun _ _ => .inl rfl⟩
theorem Ext.kp (x : Ext ad F H ad1 H1) : Kp (Mm ad F) H (Mm ad1 F) H1 := fun a o h n => by
  refine ⟨x.keep a o h n, fun z => ?_⟩
  obtain ⟨t, e, ht⟩ := x.pre
  rcases z with z | z
  · rw [e] at z
    rcases List.mem_append.mp z with z | z
    · exact n (.inl z)
    · rw [ht a z] at h
      cases h
  · exact n (.inr z)
theorem Ext.trans (h : HoldC T K ad1 F H1 cs) (x : Ext ad F H ad1 H1) (y : Ext ad1 F H1 ad2 H2) : Ext ad F H ad2 H2 := by
  obtain ⟨t, e, ht⟩ := x.pre
  obtain ⟨u, e2, hu⟩ := y.pre
  refine ⟨⟨t ++ u, by rw [e2, e, List.append_assoc], fun a ha => ?_⟩, fun a o q n => ?_, fun a q => (x.frm a q).trans (y.frm a q)⟩
  · rcases List.mem_append.mp ha with z | z
    · exact ht a z
    · have h1 := hu a z
      cases q : H a with
      | none => rfl
      | some o =>
        exfalso
        by_cases n : Mm ad F a
        · rcases n with n | n
          · obtain ⟨o', e'⟩ := h.mem (a := a) (by rw [e]; exact List.mem_append_left _ n)
            rw [e'] at h1
            cases h1
          · obtain ⟨o', e'⟩ := (x.frm a n).ex ⟨o, q⟩
            rw [e'] at h1
            cases h1
        · rw [x.keep a o q n] at h1
          cases h1
  · exact y.keep a o (x.keep a o q n) (x.kp a o q n).2
end
end Dl
namespace Dl
open PySem L2
theorem ix_inj {α : Type} {l : List α} (h : l.Nodup) {i j : Nat} {x : α} (a : l[i]? = some x) (b : l[j]? = some x) : i = j := by
  have hi := (List.getElem?_eq_some_iff.mp a).1
  exact (List.getElem?_inj hi h).mp (a.trans b.symm)
section
variable {T : Tab} {K : PySem.W.Frag} {F : Addr → Prop} {ad ad1 ad2 : List Addr} {H H1 H2 : Hp} {cs cs' : List Cell} {S S1 S2 : Sta} {σ : St} {v w : V} {d : D} {s s1 s2 : Sl}
theorem SlRep.ext (x : Ext ad F H ad1 H1) (h : SlRep T K ad F H v s) : SlRep T K ad1 F H1 v s := by
  cases s with
  | dat d => exact Rep.kp x.kp h
  | cel k =>
    obtain ⟨a, e, hv⟩ := h
    obtain ⟨t, e1, _⟩ := x.pre
    refine ⟨a, ?_, hv⟩
    rw [e1, List.getElem?_append_left (List.getElem?_eq_some_iff.mp e).1]
    exact e
theorem Hold.to (h : Hold T K S ad F σ H) (x : Ext ad F H ad1 H1) (c : HoldC T K ad1 F H1 cs) : Hold T K ⟨S.sl, cs⟩ ad1 F σ H1 :=
  ⟨c, h.sz, fun i s e => let ⟨v, hv, r⟩ := h.sl i s e; ⟨v, hv, r.ext x⟩⟩
theorem HoldC.newo (h : HoldC T K ad F H cs) {p : Addr} {o : HO} (hp : H p = none) : HoldC T K ad F (upd H p o) cs ∧ Ext ad F H ad (upd H p o) := by
  have ne : ∀ a o', H a = some o' → a ≠ p := fun a o' e => ne_of_none e hp
  have x : Ext ad F H ad (L2.upd H p o) := by
    refine ⟨⟨[], by simp, fun _ z => nomatch z⟩, fun a o' e _ => ?_, fun a fa => ?_⟩
    · rw [upd_ne (ne a o' e)]; exact e
    · obtain ⟨o', e⟩ := h.al a fa
      exact .inl (by rw [upd_ne (ne a o' e)])
  refine ⟨⟨h.nd, h.fr, fun a fa => ?_, h.tb.new hp, h.ln, fun k a c h1 h2 => ?_⟩, x⟩
  · obtain ⟨o', e⟩ := h.al a fa
    exact ⟨o', by rw [upd_ne (ne a o' e)]; exact e⟩
  · have q := h.ce k a c h1 h2
    obtain ⟨o', e⟩ := q.some
    exact q.kp x.kp (upd_ne (ne a o' e))
theorem HoldC.cell (h : HoldC T K ad F H cs) {p : Addr} {o : HO} {c : Cell} (hp : H p = none) (hc : CellAt T K (Mm (ad ++ [p]) F) (upd H p o) p c) :
    HoldC T K (ad ++ [p]) F (upd H p o) (cs ++ [c]) ∧ Ext ad F H (ad ++ [p]) (upd H p o) := by
  have ne : ∀ a o', H a = some o' → a ≠ p := fun a o' e => ne_of_none e hp
  have x : Ext ad F H (ad ++ [p]) (L2.upd H p o) := by
    refine ⟨⟨[p], rfl, fun a z => ?_⟩, fun a o' e _ => ?_, fun a fa => ?_⟩
    · have := List.mem_singleton.mp z; subst this; exact hp
    · rw [upd_ne (ne a o' e)]; exact e
    · obtain ⟨o', e⟩ := h.al a fa
      exact .inl (by rw [upd_ne (ne a o' e)])
  have np : p ∉ ad := fun z => h.new hp (.inl z)
  refine ⟨⟨?_, fun a ha fa => ?_, fun a fa => ?_, h.tb.new hp, by simp [h.ln], fun k a c' h1 h2 => ?_⟩, x⟩
  · rw [List.nodup_append]
    refine ⟨h.nd, by simp, fun a ha b hb e => ?_⟩
    have := List.mem_singleton.mp hb
    exact np (this ▸ e ▸ ha)
  · rcases List.mem_append.mp ha with z | z
    · exact h.fr a z fa
    · have := List.mem_singleton.mp z; subst this; exact h.new hp (.inr fa)
  · obtain ⟨o', e⟩ := h.al a fa
    exact ⟨o', by rw [upd_ne (ne a o' e)]; exact e⟩
  · by_cases hk : k < ad.length
    · rw [List.getElem?_append_left hk] at h1
      rw [List.getElem?_append_left (by rw [← h.ln]; exact hk)] at h2
      have q := h.ce k a c' h1 h2
      obtain ⟨o', e⟩ := q.some
      exact q.kp x.kp (upd_ne (ne a o' e))
    · have hk' : k = ad.length := by
        have := (List.getElem?_eq_some_iff.mp h1).1
        simp at this
        omega
      subst hk'
      rw [List.getElem?_append_right (Nat.le_refl _)] at h1
      rw [h.ln, List.getElem?_append_right (Nat.le_refl _)] at h2
      simp at h1 h2
      subst h1 h2
      exact hc
theorem HoldC.setc (h : HoldC T K ad F H cs) {k : Nat} {a : Addr} {o : HO} {c : Cell} (ha : ad[k]? = some a) (hc : CellAt T K (Mm ad F) (upd H a o) a c) : HoldC T K ad F (upd H a o) (cs.set k c) ∧ Ext ad F H ad (upd H a o) := by
  have hm : a ∈ ad := List.mem_of_getElem? ha
  have nb : ∀ b, ¬ Mm ad F b → b ≠ a := fun b n z => n (.inl (by rw [z]; exact hm))
  have nf : ∀ b, F b → b ≠ a := fun b fb z => h.fr a hm (by rw [← z]; exact fb)
  have x : Ext ad F H ad (L2.upd H a o) := by
    refine ⟨⟨[], by simp, fun _ z => nomatch z⟩, fun b o' e n => ?_, fun b fb => ?_⟩
    · rw [upd_ne (nb b n)]; exact e
    · exact .inl (by rw [upd_ne (nf b fb)])
  obtain ⟨o0, e0, n1, n2⟩ := h.is hm
  have n3 : NoC o := by
    obtain ⟨o', e', _, y⟩ := hc.is
    rw [upd_same] at e'
    cases e'
    exact y
  refine ⟨⟨h.nd, h.fr, fun b fb => ?_, h.tb.upd e0 n1 n2 n3, by simp [h.ln], fun j b c' h1 h2 => ?_⟩, x⟩
  · obtain ⟨o', e⟩ := h.al b fb
    exact ⟨o', by rw [upd_ne (nf b fb)]; exact e⟩
  · by_cases hj : k = j
    · subst hj
      have hlt : k < cs.length := by rw [← h.ln]; exact (List.getElem?_eq_some_iff.mp ha).1
      rw [List.getElem?_set_self hlt] at h2
      rw [ha] at h1
      cases h1; cases h2
      exact hc
    · rw [List.getElem?_set_ne hj] at h2
      have hb : b ≠ a := fun z => by
        subst z
        obtain ⟨l1, e1⟩ := List.getElem?_eq_some_iff.mp ha
        obtain ⟨l2, e2⟩ := List.getElem?_eq_some_iff.mp h1
        exact hj (ix_inj h.nd ha h1)
      exact (h.ce j b c' h1 h2).kp x.kp (upd_ne hb)
theorem HoldC.take (h : HoldC T K ad F H cs) (n : Nat) : HoldC T K (ad.take n) F H (cs.take n) := by
  have sub : ∀ a, Mm (ad.take n) F a → Mm ad F a := fun a z => z.elim (fun z => .inl (List.mem_of_mem_take z)) .inr
  have kp : Kp (Mm ad F) H (Mm (ad.take n) F) H := fun a o e z => ⟨e, fun y => z (sub a y)⟩
  refine ⟨h.nd.sublist (List.take_sublist _ _), fun a ha => h.fr a (List.mem_of_mem_take ha), h.al, h.tb, by simp [h.ln], fun k a c h1 h2 => ?_⟩
  have k1 : ad[k]? = some a := by
    rw [List.getElem?_take] at h1
    split at h1
    · exact h1
    · cases h1
  have k2 : cs[k]? = some c := by
    rw [List.getElem?_take] at h2
    split at h2
    · exact h2
    · cases h2
  exact (h.ce k a c k1 k2).kp kp rfl
end
def tD (T : Tab) (K : PySem.W.Frag) (S : Sta) (s : Sl) (S' : Sta) : TE := fun σ H Q => ∃ ad F, Hold T K S ad F σ H ∧
  ∀ v H' ad', Ext ad F H ad' H' → Hold T K S' ad' F σ H' → SlRep T K ad' F H' v s → Q v H'
def DE (X : Cx) (T : Tab) (S : Sta) (e : Expr) (s : Sl) (S' : Sta) : Prop := PE X e (tD T X.K S s S')
theorem weak {X : Cx} {e : Expr} {t t' : TE} (h : PE X e t) (q : ∀ σ H Q, t' σ H Q → t σ H Q) : PE X e t' := ⟨fun pins s σ H Q I z => h.run pins s σ H Q I (q σ H Q z)⟩
theorem weakT {X : Cx} {e : Expr} {t t' : TT} (h : PT X e t) (q : ∀ σ H Q, t' σ H Q → t σ H Q) : PT X e t' := ⟨fun pins s σ H Q I z => h.run pins s σ H Q I (q σ H Q z)⟩
theorem weakA {X : Cx} {e : List Expr} {t t' : TA} (h : PA X e t) (q : ∀ σ H Q, t' σ H Q → t σ H Q) : PA X e t' := ⟨fun pos pins s σ H Q I z => h.run pos pins s σ H Q I (q σ H Q z)⟩
theorem weakS {X : Cx} {e : Stmt} {t t' : TS} (h : PS X e t) (q : ∀ D σ H, t' D σ H → t D σ H) : PS X e t' := ⟨fun pins s σ H D I z => h.run pins s σ H D I (q D σ H z)⟩
theorem weakSs {X : Cx} {e : List Stmt} {t t' : TS} (h : PSs X e t) (q : ∀ D σ H, t' D σ H → t D σ H) : PSs X e t' := ⟨fun pins s σ H D I z => h.run pins s σ H D I (q D σ H z)⟩
section
variable {X : Cx} {T : Tab} {S S1 S2 S3 : Sta} {a b e : Expr} {pos : Pos} {s s1 s2 : Sl} {cs cs' : List Cell} {d d1 d2 : D} {i j : Int}
def R1 (T : Tab) (K : PySem.W.Frag) (r : V → Hp → VK → Prop) (s1 : Sl) (cs : List Cell) (s : Sl) (cs' : List Cell) : Prop :=
  ∀ ad F H v (Q : VK), HoldC T K ad F H cs → SlRep T K ad F H v s1 → (∀ z H' ad', Ext ad F H ad' H' → HoldC T K ad' F H' cs' → SlRep T K ad' F H' z s → Q z H') → r v H Q
def R2D (T : Tab) (K : PySem.W.Frag) (r : R2) (s1 s2 : Sl) (cs : List Cell) (s : Sl) (cs' : List Cell) : Prop :=
  ∀ ad F H v w (Q : VK), HoldC T K ad F H cs → SlRep T K ad F H v s1 → SlRep T K ad F H w s2 → (∀ z H' ad', Ext ad F H ad' H' → HoldC T K ad' F H' cs' → SlRep T K ad' F H' z s → Q z H') → r v w H Q
theorem de_name (i : Nat) {x : Str} (hs : S.sl[i]? = some (some s)) (hN : X.N[i]? = some x := by rfl) (hv : Vis X.env.scope x := by first | exact Or.inl rfl | exact Or.inr (Or.inl rfl) | exact Or.inr (Or.inr rfl)) (hd : (x == ("__debug__" : Str)) = false := by decide)
    (hcd : (x == ("__classdict__" : Str)) = false := by decide) : DE X T S (.Name x pos) s S :=
  weak (pe_var hN hv hd hcd) fun σ H Q ⟨ad, F, h, q⟩ => let ⟨v, e, r⟩ := h.sl i s hs; ⟨v, e, q v H ad .refl h r⟩
theorem de_c {v : V} (h : PE X e (tC v)) (r : ∀ ad F H, SlRep T X.K ad F H v s) : DE X T S e s S := weak h fun σ H Q ⟨ad, F, h, q⟩ => q v H ad .refl h (r ad F H)
theorem de_int {k : Nat} : DE X T S (.Constant (.int i) k pos) (.dat (.int i)) S := de_c pe_int fun _ _ _ => .int
theorem de_bl {b : Bool} {k : Nat} : DE X T S (.Constant (.bool b) k pos) (.dat (.bl b)) S := de_c pe_bl fun _ _ _ => .bl
theorem de_non {k : Nat} : DE X T S (.Constant .none k pos) (.dat .non) S := de_c pe_non fun _ _ _ => .non
theorem de_str {x : Str} {k : Nat} : DE X T S (.Constant (.str x) k pos) (.dat (.str x)) S := de_c pe_str fun _ _ _ => .str
theorem r2_I {K : PySem.W.Frag} {C : Int → Int → Prop} {g : Int → Int → Int} (hc : C i j) : R2D T K (rI C fun i j => .int (g i j)) (.dat (.int i)) (.dat (.int j)) cs (.dat (.int (g i j))) cs := fun ad F H v w Q c r1 r2 q => by
  cases r1; cases r2
  exact ⟨i, j, rfl, rfl, hc, q _ H ad .refl c .int⟩
theorem r2_I0 {K : PySem.W.Frag} {g : Int → Int → Int} : R2D T K (rI0 fun i j => .int (g i j)) (.dat (.int i)) (.dat (.int j)) cs (.dat (.int (g i j))) cs := fun ad F H v w Q c r1 r2 q => by
  cases r1; cases r2
  exact ⟨i, j, rfl, rfl, q _ H ad .refl c .int⟩
theorem r2_B0 {K : PySem.W.Frag} {g : Int → Int → Bool} : R2D T K (rI0 fun i j => .bl (g i j)) (.dat (.int i)) (.dat (.int j)) cs (.dat (.bl (g i j))) cs := fun ad F H v w Q c r1 r2 q => by
  cases r1; cases r2
  exact ⟨i, j, rfl, rfl, q _ H ad .refl c .bl⟩
theorem reps_at {K : PySem.W.Frag} {M : Addr → Prop} {H : Hp} {vs : List V} {ds : List D} (h : Reps T K M H vs ds) (e : atI ds i = some d) : ∃ v, atI vs i = some v ∧ Rep T K M H v d := by
  unfold atI at e ⊢
  rw [h.length]
  cases q : ixN ds.length i with
  | none => rw [q] at e; cases e
  | some j =>
    rw [q] at e
    obtain ⟨v, h1, h2⟩ := h.get (i := j) e
    exact ⟨v, h1, h2⟩
def SlReps (T : Tab) (K : PySem.W.Frag) (ad : List Addr) (F : Addr → Prop) (H : Hp) : List V → List Sl → Prop
  | [], [] => True
  | v :: vs, s :: ss => SlRep T K ad F H v s ∧ SlReps T K ad F H vs ss
  | _, _ => False
theorem SlReps.ext {K : PySem.W.Frag} {ad ad1 : List Addr} {F : Addr → Prop} {H H1 : Hp} (x : Ext ad F H ad1 H1) : ∀ {vs : List V} {ss : List Sl}, SlReps T K ad F H vs ss → SlReps T K ad1 F H1 vs ss
  | [], [], _ => trivial
  | _ :: _, _ :: _, h => ⟨h.1.ext x, SlReps.ext x h.2⟩
theorem SlReps.len {K : PySem.W.Frag} {ad : List Addr} {F : Addr → Prop} {H : Hp} : ∀ {vs : List V} {ss : List Sl}, SlReps T K ad F H vs ss → vs.length = ss.length
  | [], [], _ => rfl
  | _ :: _, _ :: _, h => by rw [List.length_cons, List.length_cons, SlReps.len h.2]
theorem SlReps.dats {K : PySem.W.Frag} {ad : List Addr} {F : Addr → Prop} {H : Hp} : ∀ {vs : List V} {ds : List D}, SlReps T K ad F H vs (ds.map Sl.dat) → Reps T K (Mm ad F) H vs ds
  | [], [], _ => .nil
  | _ :: _, _ :: _, h => .cons h.1 (SlReps.dats h.2)
theorem SlReps.of {K : PySem.W.Frag} {ad : List Addr} {F : Addr → Prop} {H : Hp} : ∀ {vs : List V} {ds : List D}, Reps T K (Mm ad F) H vs ds → SlReps T K ad F H vs (ds.map Sl.dat)
  | _, _, .nil => trivial
  | _, _, .cons h t => ⟨h, SlReps.of t⟩
def RCD (T : Tab) (K : PySem.W.Frag) (r : List V → Hp → VK → Prop) (ss : List Sl) (cs : List Cell) (s : Sl) (cs' : List Cell) : Prop :=
  ∀ ad F H vs (Q : VK), HoldC T K ad F H cs → SlReps T K ad F H vs ss → (∀ z H' ad', Ext ad F H ad' H' → HoldC T K ad' F H' cs' → SlRep T K ad' F H' z s → Q z H') → r vs H Q
end
end Dl
namespace Dl
open PySem L2
def tDT (T : Tab) (K : PySem.W.Frag) (S : Sta) (b : Bool) (S' : Sta) : TT := fun σ H Q => ∃ ad F, Hold T K S ad F σ H ∧ ∀ H' ad', Ext ad F H ad' H' → Hold T K S' ad' F σ H' → Q b H'
def DT (X : Cx) (T : Tab) (S : Sta) (e : Expr) (b : Bool) (S' : Sta) : Prop := PT X e (tDT T X.K S b S')
def DW (X : Cx) (T : Tab) (S : Sta) (e : Expr) (b : Bool) (S' : Sta) : Prop := PW X e (tDT T X.K S b S')
theorem weakW {X : Cx} {e : Expr} {t t' : TT} (h : PW X e t) (q : ∀ σ H Q, t' σ H Q → t σ H Q) : PW X e t' := ⟨fun whole pins s σ H Q I z => h.run whole pins s σ H Q I (q σ H Q z)⟩
section
variable {X : Cx} {T : Tab} {S S1 S2 S3 : Sta} {a b e c : Expr} {pos : Pos} {s s1 s2 : Sl} {cs cs' : List Cell} {d d1 d2 : D} {i j : Int} {k k1 k2 : Bool} {rest : List Expr}
theorem DW.pt (h : DW X T S e k S1) : DT X T S e k S1 := PW.pt h
end
structure Exc where
  n : Nat
  fs : List D
def ExRep (T : Tab) (K : PySem.W.Frag) (M : Addr → Prop) (H : Hp) (cls : Value) (d : Option Addr) (x : Exc) : Prop :=
  ∃ C fn, T x.n = some (C, fn) ∧ cls = .ref C ∧ ((fn = [] ∧ x.fs = [] ∧ d = none) ∨ ∃ dd vs, d = some dd ∧ ¬ M dd ∧ H dd = some (.xd (fn.zip vs)) ∧ vs.length = fn.length ∧ Reps T K M H vs x.fs)
structure Post where
  nx : Sta → Prop
  rt : Sl → List Cell → Prop
  bk : Sta → Prop := fun _ => False
  ct : Sta → Prop := fun _ => False
  ex : Exc → Sta → Prop := fun _ _ => False
  W : WX := fun _ _ _ _ => False
structure ExtS (n : Nat) (ad : List Addr) (F : Addr → Prop) (H : Hp) (ad' : List Addr) (H' : Hp) : Prop where
  pre : ad'.take n = ad.take n
  sub : ∀ a ∈ ad', a ∈ ad ∨ H a = none
  keep : ∀ a o, H a = some o → ¬ Mm ad F a → H' a = some o
  frm : ∀ a, F a → Fr1 H H' a
theorem ExtS.refl {n : Nat} {ad : List Addr} {F : Addr → Prop} {H : Hp} : ExtS n ad F H ad H := ⟨rfl, fun _ h => .inl h, fun _ _ h _ => h, fun _ _ => .inl rfl⟩
theorem ExtS.kp {n : Nat} {ad ad1 : List Addr} {F : Addr → Prop} {H H1 : Hp} (x : ExtS n ad F H ad1 H1) : Kp (Mm ad F) H (Mm ad1 F) H1 := fun a o h n => by
  refine ⟨x.keep a o h n, fun z => ?_⟩
  rcases z with z | z
  · rcases x.sub a z with q | q
    · exact n (.inl q)
    · rw [q] at h; cases h
  · exact n (.inr z)
theorem ExtS.trans {n : Nat} {ad ad1 ad2 : List Addr} {F : Addr → Prop} {H H1 H2 : Hp} (x : ExtS n ad F H ad1 H1) (y : ExtS n ad1 F H1 ad2 H2) : ExtS n ad F H ad2 H2 := by
  refine ⟨y.pre.trans x.pre, fun a ha => ?_, fun a o h n => y.keep a o (x.keep a o h n) (x.kp a o h n).2, fun a fa => (x.frm a fa).trans (y.frm a fa)⟩
  rcases y.sub a ha with q | q
  · exact x.sub a q
  · cases e : H a with
    | none => exact .inr rfl
    | some o =>
      by_cases m : Mm ad F a
      · rcases m with m | m
        · exact .inl m
        · obtain ⟨o', e'⟩ := (x.frm a m).ex ⟨_, e⟩
          rw [e'] at q; cases q
      · rw [x.keep a o e m] at q; cases q
theorem Ext.s {n : Nat} {ad ad1 : List Addr} {F : Addr → Prop} {H H1 : Hp} (x : Ext ad F H ad1 H1) (hn : n ≤ ad.length) : ExtS n ad F H ad1 H1 := by
  obtain ⟨t, e, ht⟩ := x.pre
  refine ⟨by rw [e, List.take_append_of_le_length hn], fun a ha => ?_, x.keep, x.frm⟩
  rw [e] at ha
  exact (List.mem_append.mp ha).imp id (ht a)
def tDS (T : Tab) (K : PySem.W.Frag) (n : Nat) (S : Sta) (P : Post) : TS := fun D σ H => ∃ ad F, n ≤ ad.length ∧ Hold T K S ad F σ H ∧
  (∀ S' σ' H' ad', ExtS n ad F H ad' H' → n ≤ ad'.length → Hold T K S' ad' F σ' H' → P.nx S' → D.nx σ' H') ∧
  (∀ s cs' v H' ad', ExtS n ad F H ad' H' → n ≤ ad'.length → HoldC T K ad' F H' cs' → SlRep T K ad' F H' v s → P.rt s cs' → D.rt v H') ∧
  (∀ S' σ' H' ad', ExtS n ad F H ad' H' → n ≤ ad'.length → Hold T K S' ad' F σ' H' → P.bk S' → D.bk σ' H') ∧
  (∀ S' σ' H' ad', ExtS n ad F H ad' H' → n ≤ ad'.length → Hold T K S' ad' F σ' H' → P.ct S' → D.ct σ' H') ∧
  (∀ x S' cls d σ' H' ad', ExtS n ad F H ad' H' → n ≤ ad'.length → Hold T K S' ad' F σ' H' → ExRep T K (Mm ad' F) H' cls d x → P.ex x S' → P.W cls d σ' H')
def DS (X : Cx) (T : Tab) (n : Nat) (S : Sta) (st : Stmt) (P : Post) : Prop := PS X st (tDS T X.K n S P)
def DSs (X : Cx) (T : Tab) (n : Nat) (S : Sta) (sts : List Stmt) (P : Post) : Prop := PSs X sts (tDS T X.K n S P)
section
variable {X : Cx} {T : Tab} {n : Nat} {S S1 S2 S3 : Sta} {a b e c : Expr} {pos : Pos} {s s1 s2 : Sl} {cs cs' : List Cell} {d d1 d2 : D} {i j : Int} {k k1 k2 : Bool} {rest body els : List Stmt} {st : Stmt} {P : Post}
theorem dss_nil (h : P.nx S) : DSs X T n S [] P := weakSs pss_nil fun D σ H ⟨ad, F, hn, h0, q, _⟩ => q S σ H ad .refl hn h0 h
theorem dss_cons (h : DS X T n S st { P with nx := fun S' => DSs X T n S' rest P }) : DSs X T n S (st :: rest) P := by
  have h2 : PSs X rest (fun D σ H => ∃ S', DSs X T n S' rest P ∧ tDS T X.K n S' P D σ H) := ⟨fun pins s σ H D I ⟨S', hS, z⟩ => hS.run pins s σ H D I z⟩
  refine weakSs (pss_cons h h2) fun D σ H ⟨ad, F, hn, h0, q1, q2, q3, q4, q5⟩ => ⟨ad, F, hn, h0, fun S' σ' H' ad' x hn' h' hS => ⟨S', hS, ad', F, hn', h', ?_, ?_, ?_, ?_, ?_⟩, q2, q3, q4, q5⟩
  · exact fun S2 σ2 H2 ad2 x2 hn2 h2 p => q1 S2 σ2 H2 ad2 (x.trans x2) hn2 h2 p
  · exact fun s cs2 v H2 ad2 x2 hn2 c2 r p => q2 s cs2 v H2 ad2 (x.trans x2) hn2 c2 r p
  · exact fun S2 σ2 H2 ad2 x2 hn2 h2 p => q3 S2 σ2 H2 ad2 (x.trans x2) hn2 h2 p
  · exact fun S2 σ2 H2 ad2 x2 hn2 h2 p => q4 S2 σ2 H2 ad2 (x.trans x2) hn2 h2 p
  · exact fun z S2 cls d σ2 H2 ad2 x2 hn2 h2 r p => q5 z S2 cls d σ2 H2 ad2 (x.trans x2) hn2 h2 r p
theorem Ext.le {ad ad1 : List Addr} {F : Addr → Prop} {H H1 : Hp} (x : Ext ad F H ad1 H1) (h : n ≤ ad.length) : n ≤ ad1.length := by
  obtain ⟨t, e, _⟩ := x.pre
  rw [e, List.length_append]
  omega
theorem tDS.go {K : PySem.W.Frag} {D : Ends} {σ σ' : St} {H H1 : Hp} {ad ad1 : List Addr} {F : Addr → Prop} (x : ExtS n ad F H ad1 H1) (hn : n ≤ ad1.length) (h : Hold T K S1 ad1 F σ' H1)
    (q1 : ∀ S' σ' H' ad', ExtS n ad F H ad' H' → n ≤ ad'.length → Hold T K S' ad' F σ' H' → P.nx S' → D.nx σ' H')
    (q2 : ∀ s cs' v H' ad', ExtS n ad F H ad' H' → n ≤ ad'.length → HoldC T K ad' F H' cs' → SlRep T K ad' F H' v s → P.rt s cs' → D.rt v H')
    (q3 : ∀ S' σ' H' ad', ExtS n ad F H ad' H' → n ≤ ad'.length → Hold T K S' ad' F σ' H' → P.bk S' → D.bk σ' H')
    (q4 : ∀ S' σ' H' ad', ExtS n ad F H ad' H' → n ≤ ad'.length → Hold T K S' ad' F σ' H' → P.ct S' → D.ct σ' H')
    (q5 : ∀ x S' cls d σ' H' ad', ExtS n ad F H ad' H' → n ≤ ad'.length → Hold T K S' ad' F σ' H' → ExRep T K (Mm ad' F) H' cls d x → P.ex x S' → P.W cls d σ' H') : tDS T K n S1 P D σ' H1 :=
  ⟨ad1, F, hn, h, fun S2 σ2 H2 ad2 x2 hn2 h2 p => q1 S2 σ2 H2 ad2 (x.trans x2) hn2 h2 p, fun s cs2 v H2 ad2 x2 hn2 c2 r p => q2 s cs2 v H2 ad2 (x.trans x2) hn2 c2 r p,
    fun S2 σ2 H2 ad2 x2 hn2 h2 p => q3 S2 σ2 H2 ad2 (x.trans x2) hn2 h2 p, fun S2 σ2 H2 ad2 x2 hn2 h2 p => q4 S2 σ2 H2 ad2 (x.trans x2) hn2 h2 p,
    fun z S2 cls d σ2 H2 ad2 x2 hn2 h2 r p => q5 z S2 cls d σ2 H2 ad2 (x.trans x2) hn2 h2 r p⟩
theorem Hold.set {K : PySem.W.Frag} {ad : List Addr} {F : Addr → Prop} {σ : St} {H : Hp} {v : V} (h : Hold T K S ad F σ H) (r : SlRep T K ad F H v s) (i : Nat) : Hold T K ⟨S.sl.set i (some s), S.cs⟩ ad F (σ.set i (some v)) H := by
  refine ⟨h.hc, by simp [h.sz], fun j u e => ?_⟩
  by_cases hj : i = j
  · subst hj
    have hl : i < S.sl.length := by
      have := (List.getElem?_eq_some_iff.mp e).1
      simpa using this
    rw [List.getElem?_set_self hl] at e
    cases e
    exact ⟨v, by rw [List.getElem?_set_self (by rw [h.sz]; exact hl)], r⟩
  · rw [List.getElem?_set_ne hj] at e
    obtain ⟨w, hw, rw'⟩ := h.sl j u e
    exact ⟨w, by rw [List.getElem?_set_ne hj]; exact hw, rw'⟩
theorem ds_mono {P' : Post} (h : DS X T n S st P) (h1 : ∀ S, P.nx S → P'.nx S) (h2 : ∀ s cs, P.rt s cs → P'.rt s cs) (h3 : ∀ S, P.bk S → P'.bk S) (h4 : ∀ S, P.ct S → P'.ct S) (h5 : ∀ x S, P.ex x S → P'.ex x S) (hW : P'.W = P.W) : DS X T n S st P' :=
  weakS h fun D σ H ⟨ad, F, hn, h0, q1, q2, q3, q4, q5⟩ => ⟨ad, F, hn, h0, fun S2 σ2 H2 ad2 x2 hn2 h2' p => q1 S2 σ2 H2 ad2 x2 hn2 h2' (h1 _ p), fun s cs2 v H2 ad2 x2 hn2 c2 r p => q2 s cs2 v H2 ad2 x2 hn2 c2 r (h2 _ _ p),
    fun S2 σ2 H2 ad2 x2 hn2 h2' p => q3 S2 σ2 H2 ad2 x2 hn2 h2' (h3 _ p), fun S2 σ2 H2 ad2 x2 hn2 h2' p => q4 S2 σ2 H2 ad2 x2 hn2 h2' (h4 _ p),
    fun z S2 cls d σ2 H2 ad2 x2 hn2 h2' r p => by rw [← hW]; exact q5 z S2 cls d σ2 H2 ad2 x2 hn2 h2' r (h5 _ _ p)⟩
theorem dss_mono {sts : List Stmt} {P' : Post} (h : DSs X T n S sts P) (h1 : ∀ S, P.nx S → P'.nx S) (h2 : ∀ s cs, P.rt s cs → P'.rt s cs) (h3 : ∀ S, P.bk S → P'.bk S) (h4 : ∀ S, P.ct S → P'.ct S) (h5 : ∀ x S, P.ex x S → P'.ex x S) (hW : P'.W = P.W) : DSs X T n S sts P' :=
  weakSs h fun D σ H ⟨ad, F, hn, h0, q1, q2, q3, q4, q5⟩ => ⟨ad, F, hn, h0, fun S2 σ2 H2 ad2 x2 hn2 h2' p => q1 S2 σ2 H2 ad2 x2 hn2 h2' (h1 _ p), fun s cs2 v H2 ad2 x2 hn2 c2 r p => q2 s cs2 v H2 ad2 x2 hn2 c2 r (h2 _ _ p),
    fun S2 σ2 H2 ad2 x2 hn2 h2' p => q3 S2 σ2 H2 ad2 x2 hn2 h2' (h3 _ p), fun S2 σ2 H2 ad2 x2 hn2 h2' p => q4 S2 σ2 H2 ad2 x2 hn2 h2' (h4 _ p),
    fun z S2 cls d σ2 H2 ad2 x2 hn2 h2' r p => by rw [← hW]; exact q5 z S2 cls d σ2 H2 ad2 x2 hn2 h2' r (h5 _ _ p)⟩
end
abbrev Ct := List Sl → List Cell → Sl → List Cell → Prop
def spC (T : Tab) (K : PySem.W.Frag) (c : Ct) : Sp := fun vs H Q _ => ∃ ad F args cs s cs', HoldC T K ad F H cs ∧ SlReps T K ad F H vs args ∧ c args cs s cs' ∧
  ∀ v H' ad', ExtS cs.length ad F H ad' H' → cs.length ≤ ad'.length → HoldC T K ad' F H' cs' → SlRep T K ad' F H' v s → Q v H'
theorem start_hold {T : Tab} {K : PySem.W.Frag} {N : List Str} {ad : List Addr} {F : Addr → Prop} {H : Hp} {vs : List V} {args : List Sl} {cs : List Cell} (hc : HoldC T K ad F H cs) (r : SlReps T K ad F H vs args) :
    Hold T K ⟨args.map some ++ List.replicate (N.length - args.length) none, cs⟩ ad F (L2.start N vs) H := by
  have hl := r.len
  refine ⟨hc, by unfold L2.start; simp [hl], fun i s e => ?_⟩
  have hi : i < args.length := by
    by_cases hi : i < args.length
    · exact hi
    · have e : (args.map some ++ List.replicate (N.length - args.length) none)[i]? = some (some s) := e
      rw [List.getElem?_append_right (by simpa using hi), List.getElem?_replicate] at e
      split at e <;> cases e
  have e : (args.map some ++ List.replicate (N.length - args.length) none)[i]? = some (some s) := e
  rw [List.getElem?_append_left (by simpa using hi), List.getElem?_map] at e
  have ea : args[i]? = some s := by
    cases q : args[i]? with
    | none => rw [q] at e; cases e
    | some z => rw [q] at e; cases e; rfl
  have get : ∀ {vs : List V} {args : List Sl} {i : Nat}, SlReps T K ad F H vs args → args[i]? = some s → ∃ v, vs[i]? = some v ∧ SlRep T K ad F H v s := by
    intro vs args
    induction args generalizing vs with
    | nil => intro i _ e; simp at e
    | cons a args ih =>
      intro i r e
      cases vs with
      | nil => exact r.elim
      | cons v vs =>
        cases i with
        | zero => simp at e; subst e; exact ⟨v, rfl, r.1⟩
        | succ i => simpa using ih r.2 (by simpa using e)
  obtain ⟨v, hv, rv⟩ := get r ea
  refine ⟨v, ?_, rv⟩
  unfold L2.start
  rw [List.getElem?_append_left (by simpa using (hl ▸ hi : i < vs.length)), List.getElem?_map, hv]
  rfl
section
variable {T : Tab} {P : Program} {w : World} {K : PySem.W.Frag} {mg : Str → Option Value} {base : Heap}
abbrev st0 (N : List Str) (args : List Sl) (cs : List Cell) : Sta := ⟨args.map some ++ List.replicate (N.length - args.length) none, cs⟩
abbrev endOf (n : Nat) (s : Sl) (cs' : List Cell) : Post := { nx := fun S => s = .dat .non ∧ S.cs.take n = cs', rt := fun r c => r = s ∧ c = cs' }
abbrev cx0 (P : Program) (w : World) (K : PySem.W.Frag) (mg : Str → Option Value) (base : Heap) (N : List Str) (qual : Str) (st : Stmt) (f : Addr) (cdv : Value) (A : Around) (outer : List Env) (s : Shared) (H : Hp) (E : XK) : Cx := (cxOf CX0 P w K mg base N qual (defScope st) f cdv A outer s H E).nox
theorem fn_ok {x qual : Str} {st : Stmt} {f : Addr} {fd : FuncData} {N ps : List Str} {k : Nat} {c : Ct} (F : Fun K x qual st f fd) (Sc : FnScope N ps (defScope st)) (len : ∀ args cs s cs', c args cs s cs' → args.length = ps.length)
    (body : ∀ cdv A outer sh H E, Room k (cx0 P w K mg base N qual st f cdv A outer sh H E).A → ∀ args cs s cs', c args cs s cs' →
      DSs (cx0 P w K mg base N qual st f cdv A outer sh H E) T cs.length (st0 N args cs) (defBody st) (endOf cs.length s cs')) : FnOk P w K mg base CX0 (k + 1) f fd ps (spC T K c) := by
  refine F.ok Sc (fun vs H Q E h => ?_) (fun cdv A outer s H vs Q E hr h => ?_)
  · obtain ⟨ad, F', args, cs, s, cs', _, r, hc, _⟩ := h
    rw [r.len, len _ _ _ _ hc]
  · obtain ⟨ad, F', args, cs, s0, cs', hc, r, h, q⟩ := h
    refine ⟨_, body cdv A outer s H E hr args cs s0 cs' h, ad, F', Nat.le_of_eq hc.ln.symm, start_hold hc r, ?_, ?_, fun _ _ _ _ _ _ _ z => z.elim, fun _ _ _ _ _ _ _ z => z.elim, fun _ _ _ _ _ _ _ _ _ _ _ z => z.elim⟩
    · rintro S' σ' H' ad' x hn h' ⟨rfl, e⟩
      subst e
      refine q .non H' (ad'.take cs.length) ⟨by rw [List.take_take, Nat.min_self]; exact x.pre, fun a ha => x.sub a (List.mem_of_mem_take ha), x.keep, x.frm⟩ (by rw [List.length_take]; omega) (h'.hc.take _) Rep.non
    · rintro s2 cs2 v H' ad' x hn c2 r2 ⟨rfl, rfl⟩
      exact q v H' ad' x hn c2 r2
end
end Dl
namespace Dl
open PySem L2
section
variable {T : Tab} {K : PySem.W.Frag} {F : Addr → Prop} {ad ad' : List Addr} {H H' : Hp} {cs cs' : List Cell} {v : V} {d : D} {s : Sl} {k : Nat} {c0 c1 : Cell} {a : Addr}
theorem frame0 (h : HoldC T K ad F H cs) : HoldC T K [] (Mm ad F) H [] := ⟨List.nodup_nil, fun _ z => (nomatch z), fun a z => z.elim (fun z => h.mem z) (h.al a), h.tb.to (fun _ z => .inr z) fun a z => z.elim (fun y => .inr (h.isx y)) .inl, rfl, fun k a c e => nomatch e⟩
theorem kp_in (h : HoldC T K ad F H cs) : Kp (Mm ad F) H (Mm [] (Mm ad F)) H := fun a o e n => ⟨e, fun z => n (Or.resolve_left z (by simp))⟩
theorem kp_out {ad2 : List Addr} : Kp (Mm ad2 (Mm ad F)) H (Mm ad F) H := fun a o e n => ⟨e, fun z => n (.inr z)⟩
theorem SlReps.kp {M : Addr → Prop} {ad2 : List Addr} {F2 : Addr → Prop} {H2 : Hp} (k : Kp (Mm ad F) H (Mm ad2 F2) H2) : ∀ {vs : List V} {ds : List D}, SlReps T K ad F H vs (ds.map Sl.dat) → SlReps T K ad2 F2 H2 vs (ds.map Sl.dat)
  | [], [], _ => trivial
  | _ :: _, _ :: _, h => ⟨Rep.kp k h.1, SlReps.kp (M := M) k h.2⟩
theorem back0 (h : HoldC T K ad F H cs) {ad2 : List Addr} {n : Nat} (t2 : TbOk T (Mm ad F) H') (x : ExtS n [] (Mm ad F) H ad2 H') : HoldC T K ad F H' cs ∧ Ext ad F H ad H' := by
  have e : Ext ad F H ad H' := ⟨⟨[], by simp, fun _ z => nomatch z⟩, fun a o e n => x.keep a o e fun z => n (Or.resolve_left z (by simp)), fun a fa => x.frm a (.inr fa)⟩
  refine ⟨⟨h.nd, h.fr, fun a fa => ?_, h.tb.back (fun _ z => .inr z) t2, h.ln, fun k a c h1 h2 => ?_⟩, e⟩
  · exact (e.frm a fa).ex (h.al a fa)
  · exact (h.ce k a c h1 h2).kp1 e.kp (x.frm a (.inl (List.mem_of_getElem? h1)))
def Fk (ad : List Addr) (F : Addr → Prop) (a : Addr) : Addr → Prop := fun b => F b ∨ (b ∈ ad ∧ b ≠ a)
theorem mm_k (ha : a ∈ ad) (b : Addr) : Mm [a] (Fk ad F a) b ↔ Mm ad F b := by
  constructor
  · rintro (z | z | z)
    · rw [List.mem_singleton.mp z]; exact .inl ha
    · exact .inr z
    · exact .inl z.1
  · rintro (z | z)
    · by_cases e : b = a
      · exact .inl (by rw [e]; exact List.mem_singleton_self _)
      · exact .inr (.inr ⟨z, e⟩)
    · exact .inr (.inl z)
theorem frame1 (h : HoldC T K ad F H cs) (ha : ad[k]? = some a) (hc : cs[k]? = some c0) : HoldC T K [a] (Fk ad F a) H [c0] := by
  have hm : a ∈ ad := List.mem_of_getElem? ha
  refine ⟨by simp, fun b hb z => ?_, fun b z => ?_, ?_, rfl, fun j b c e1 e2 => ?_⟩
  · have := List.mem_singleton.mp hb
    subst this
    rcases z with z | z
    · exact h.fr _ hm z
    · exact z.2 rfl
  · rcases z with z | z
    · exact h.al b z
    · exact h.mem z.1
  · exact h.tb.to (fun _ z => .inl z) fun b z => z.imp id fun y => h.isx y.1
  · cases j with
    | zero =>
      simp at e1 e2
      subst e1 e2
      refine (h.ce k a _ ha hc).kp (fun b o e n => ⟨e, fun z => n ((mm_k hm b).mp z)⟩) rfl
    | succ j => simp at e1
theorem back1 (h : HoldC T K ad F H cs) (ha : ad[k]? = some a) (x : ExtS 1 [a] (Fk ad F a) H [a] H') (c : HoldC T K [a] (Fk ad F a) H' [c1]) : HoldC T K ad F H' (cs.set k c1) ∧ Ext ad F H ad H' := by
  have hm : a ∈ ad := List.mem_of_getElem? ha
  have e : Ext ad F H ad H' := ⟨⟨[], by simp, fun _ z => nomatch z⟩, fun b o e n => x.keep b o e fun z => n ((mm_k hm b).mp z), fun b fb => x.frm b (.inl fb)⟩
  refine ⟨⟨h.nd, h.fr, fun b fb => ?_, h.tb.back (fun _ z => .inl z) c.tb, by simp [h.ln], fun j b c' h1 h2 => ?_⟩, e⟩
  · exact (e.frm b fb).ex (h.al b fb)
  · by_cases hj : k = j
    · subst hj
      have hlt : k < cs.length := by rw [← h.ln]; exact (List.getElem?_eq_some_iff.mp ha).1
      rw [List.getElem?_set_self hlt] at h2
      rw [ha] at h1
      cases h1; cases h2
      exact (c.ce 0 a _ rfl rfl).kp (fun b o e n => ⟨e, fun z => n ((mm_k hm b).mpr z)⟩) rfl
    · rw [List.getElem?_set_ne hj] at h2
      have hb : b ≠ a := fun z => hj (ix_inj h.nd ha (z ▸ h1))
      exact (h.ce j b c' h1 h2).kp1 e.kp (x.frm b (.inr ⟨List.mem_of_getElem? h1, hb⟩))
end
def low : Sl → Sl
  | .dat d => .dat d
  | .cel _ => .cel 0
def onlyCell (k : Nat) : Sl → Bool
  | .dat _ => true
  | .cel j => j == k
theorem low_reps {T : Tab} {K : PySem.W.Frag} {F : Addr → Prop} {ad : List Addr} {H : Hp} {k : Nat} {a : Addr} (ha : ad[k]? = some a) : ∀ {vs : List V} {ss : List Sl}, ss.all (onlyCell k) = true → SlReps T K ad F H vs ss → SlReps T K [a] (Fk ad F a) H vs (ss.map low)
  | [], [], _, _ => trivial
  | v :: vs, s :: ss, h, r => by
    rw [List.all_cons, Bool.and_eq_true] at h
    refine ⟨?_, low_reps ha h.2 r.2⟩
    have r1 := r.1
    cases s with
    | dat d => exact Rep.kp (fun b o e n => ⟨e, fun z => n ((mm_k (List.mem_of_getElem? ha) b).mp z)⟩) r1
    | cel j =>
      obtain ⟨b, hb, ev⟩ := r1
      have hj : j = k := beq_iff_eq.mp h.1
      subst hj
      rw [ha] at hb
      cases hb
      exact ⟨a, rfl, ev⟩
section
variable {X : Cx} {T : Tab} {S S1 S2 : Sta} {e : Expr} {es : List Expr} {pos p : Pos} {x : Str} {f : Addr} {fd : FuncData} {ps : List Str} {k : Nat} {c : Ct} {ds : List D} {d : D} {ss : List Sl} {c0 c1 : Cell}
theorem spC0 {K : PySem.W.Frag} {ad : List Addr} {F : Addr → Prop} {H : Hp} {cs : List Cell} {vs : List V} {Q : VK} {E : XK} (hc : c (ds.map Sl.dat) [] (.dat d) []) (h : HoldC T K ad F H cs) (r : SlReps T K ad F H vs (ds.map Sl.dat))
    (q : ∀ v H', Ext ad F H ad H' → HoldC T K ad F H' cs → SlRep T K ad F H' v (.dat d) → Q v H') : spC T K c vs H Q E := by
  refine ⟨[], Mm ad F, ds.map Sl.dat, [], .dat d, [], frame0 h, SlReps.kp (M := fun _ => False) (kp_in h) r, hc, fun v H' ad' x hn c2 r2 => ?_⟩
  obtain ⟨c3, x3⟩ := back0 h c2.tb x
  exact q v H' x3 c3 (Rep.kp kp_out r2)
theorem spC1 {K : PySem.W.Frag} {ad : List Addr} {F : Addr → Prop} {H : Hp} {cs : List Cell} {vs : List V} {Q : VK} {E : XK} {j : Nat} (hj : cs[j]? = some c0) (ho : ss.all (onlyCell j) = true) (hc : c (ss.map low) [c0] (.dat d) [c1]) (h : HoldC T K ad F H cs) (r : SlReps T K ad F H vs ss)
    (q : ∀ v H', Ext ad F H ad H' → HoldC T K ad F H' (cs.set j c1) → SlRep T K ad F H' v (.dat d) → Q v H') : spC T K c vs H Q E := by
  have hlt : j < ad.length := by rw [h.ln]; exact (List.getElem?_eq_some_iff.mp hj).1
  have ha : ad[j]? = some ad[j] := List.getElem?_eq_getElem hlt
  refine ⟨[ad[j]], Fk ad F ad[j], ss.map low, [c0], .dat d, [c1], frame1 h ha hj, low_reps ha ho r, hc, fun v H' ad' x hn c2 r2 => ?_⟩
  have e : ad' = [ad[j]] := by
    have h1 : ad'.length = 1 := c2.ln
    have h2 : ad'.take 1 = [ad[j]] := x.pre
    rw [List.take_of_length_le (by omega)] at h2
    exact h2
  subst e
  obtain ⟨c3, x3⟩ := back1 h ha x c2
  exact q v H' x3 c3 (Rep.kp (fun b o e n => ⟨e, fun z => n ((mm_k (List.mem_of_getElem? ha) b).mpr z)⟩) r2)
theorem spCN {K : PySem.W.Frag} {ad : List Addr} {F : Addr → Prop} {H : Hp} {cs : List Cell} {vs : List V} {Q : VK} {E : XK} (hc : c (ds.map Sl.dat) [] (.cel 0) [c0]) (h : HoldC T K ad F H cs) (r : SlReps T K ad F H vs (ds.map Sl.dat))
    (q : ∀ v H' a, Ext ad F H (ad ++ [a]) H' → HoldC T K (ad ++ [a]) F H' (cs ++ [c0]) → v = .ref a → Q v H') : spC T K c vs H Q E := by
  refine ⟨[], Mm ad F, ds.map Sl.dat, [], .cel 0, [c0], frame0 h, SlReps.kp (M := fun _ => False) (kp_in h) r, hc, fun v H' ad' x hn c2 r2 => ?_⟩
  obtain ⟨c3, x3⟩ := back0 h c2.tb x
  obtain ⟨a, ha, rfl⟩ := r2
  have e : ad' = [a] := by
    have h1 : ad'.length = 1 := c2.ln
    match ad', h1, ha with
    | [b], _, ha => simpa using ha
  subst e
  have na : H a = none := (x.sub a (List.mem_singleton_self _)).elim (fun z => absurd z (by simp)) id
  have nm : ¬ Mm ad F a := c2.fr a (List.mem_singleton_self _)
  have x4 : Ext ad F H (ad ++ [a]) H' := ⟨⟨[a], rfl, fun b hb => by rw [List.mem_singleton.mp hb]; exact na⟩, x3.keep, x3.frm⟩
  have kp2 : Kp (Mm ad F) H' (Mm (ad ++ [a]) F) H' → True := fun _ => trivial
  refine q _ H' a x4 ⟨?_, fun b hb fb => ?_, c3.al, c3.tb, by simp [h.ln], fun j b c' h1 h2 => ?_⟩ rfl
  · rw [List.nodup_append]
    refine ⟨h.nd, by simp, fun b hb b' hb' e => ?_⟩
    rw [List.mem_singleton.mp hb'] at e
    exact nm (.inl (e ▸ hb))
  · rcases List.mem_append.mp hb with z | z
    · exact h.fr b z fb
    · rw [List.mem_singleton.mp z] at fb; exact nm (.inr fb)
  · by_cases hj : j < ad.length
    · rw [List.getElem?_append_left hj] at h1
      rw [List.getElem?_append_left (by rw [← h.ln]; exact hj)] at h2
      exact (h.ce j b c' h1 h2).kp1 x4.kp (x.frm b (.inl (List.mem_of_getElem? h1)))
    · have hj' : j = ad.length := by
        have := (List.getElem?_eq_some_iff.mp h1).1
        simp at this
        omega
      subst hj'
      rw [List.getElem?_append_right (Nat.le_refl _)] at h1
      rw [h.ln, List.getElem?_append_right (Nat.le_refl _)] at h2
      simp at h1 h2
      subst h1 h2
      refine (c2.ce 0 a _ rfl rfl).kp (fun b o e n => ⟨e, fun z => n ?_⟩) rfl
      rcases z with z | z
      · rcases List.mem_append.mp z with z | z
        · exact .inr (.inl z)
        · exact .inl z
      · exact .inr (.inr z)
variable (G : FnOk X.prog X.w X.K X.mg X.base CX0 k f fd ps (spC T X.K c)) (hr : Room k X.A) (hm : X.mg x = some (.ref f)) (hk : PySem.W.keepIn X.K (.ref f) = true) (hb : Binds X.K fd ps [])
include G hr hm hk hb
end
inductive Pat where
  | nm (i : Nat)
  | tp (ps : List Pat)
mutual
/-- the slots behind target = data -/
def asgP : Pat → D → List (Option Sl) → Option (List (Option Sl))
  | .nm i, d, sl => some (sl.set i (some (.dat d)))
  | .tp ps, .tup ds, sl => asgPs ps ds sl
  | _, _, _ => none
def asgPs : List Pat → List D → List (Option Sl) → Option (List (Option Sl))
  | [], [], sl => some sl
  | p :: ps, d :: ds, sl => (asgP p d sl).bind fun sl' => asgPs ps ds sl'
  | _, _, _ => none
end
mutual
def slotsP : Pat → List Nat
  | .nm i => [i]
  | .tp ps => slotsPs ps
def slotsPs : List Pat → List Nat
  | [] => []
  | p :: ps => slotsP p ++ slotsPs ps
end
def AsIs (ns : List Nat) (σ σ' : St) : Prop := σ'.length = σ.length ∧ ∀ j : Nat, j ∉ ns → σ'[j]? = σ[j]?
def tDG (T : Tab) (K : PySem.W.Frag) (p : Pat) : TG := fun v σ H Q => ∃ ad F S d sl', Hold T K S ad F σ H ∧ Rep T K (Mm ad F) H v d ∧ asgP p d S.sl = some sl' ∧ ∀ σ', AsIs (slotsP p) σ σ' → Hold T K ⟨sl', S.cs⟩ ad F σ' H → Q σ' H
def tDGs (T : Tab) (K : PySem.W.Frag) (ps : List Pat) : TGs := fun vs σ H Q => ∃ ad F S ds sl', Hold T K S ad F σ H ∧ Reps T K (Mm ad F) H vs ds ∧ asgPs ps ds S.sl = some sl' ∧ ∀ σ', AsIs (slotsPs ps) σ σ' → Hold T K ⟨sl', S.cs⟩ ad F σ' H → Q σ' H
def DG (X : Cx) (T : Tab) (tg : Expr) (p : Pat) : Prop := PG X tg (tDG T X.K p)
def DGs (X : Cx) (T : Tab) (tgs : List Expr) (ps : List Pat) : Prop := PGs X tgs (tDGs T X.K ps)
theorem weakG {X : Cx} {tg : Expr} {t t' : TG} (h : PG X tg t) (q : ∀ v σ H Q, t' v σ H Q → t v σ H Q) : PG X tg t' := ⟨fun pins s σ H v u Q I r z => h.run pins s σ H v u Q I r (q v σ H Q z)⟩
theorem weakGs {X : Cx} {tg : List Expr} {t t' : TGs} (h : PGs X tg t) (q : ∀ v σ H Q, t' v σ H Q → t v σ H Q) : PGs X tg t' := ⟨fun pins s σ H v u Q I r z => h.run pins s σ H v u Q I r (q v σ H Q z)⟩
section
variable {X : Cx} {T : Tab} {pos : Pos} {e : Expr} {es : List Expr} {p : Pat} {ps : List Pat}
theorem dg_name (i : Nat) {x : Str} (hN : X.N.Nodup) (hi : X.N[i]? = some x := by rfl) (hx : Loc X.env.scope x := by first | exact Or.inl rfl | exact Or.inr rfl) (hf : X.fn x = true ∨ X.env.scope.names.lookup x = some .local := by first | exact .inl rfl | exact .inr rfl) : DG X T (.Name x pos) (.nm i) :=
  weakG (pg_name hN hi hx hf) fun v σ H Q ⟨ad, F, S, d, sl', h, r, e, q⟩ => by
    have e' : S.sl.set i (some (.dat d)) = sl' := Option.some.inj e
    subst e'
    exact q _ ⟨by simp, fun j hj => List.getElem?_set_ne (fun z => hj (by rw [← z]; exact List.mem_singleton_self _))⟩ (h.set (s := .dat d) r i)
theorem dgs_nil : DGs X T [] [] := weakGs pgs_nil fun vs σ H Q ⟨ad, F, S, ds, sl', h, r, e, q⟩ => by
  cases ds with
  | nil =>
    cases r
    have e' : S.sl = sl' := Option.some.inj e
    subst e'
    exact ⟨rfl, q σ ⟨rfl, fun _ _ => rfl⟩ h⟩
  | cons d ds => exact nomatch e
theorem dgs_cons (h1 : DG X T e p) (h2 : DGs X T es ps) (hs : (assignEach (e :: es) X.env).map (·.2) = assign e X.env :: (assignEach es X.env).map (·.2) := by rfl) : DGs X T (e :: es) (p :: ps) :=
  weakGs (pgs_cons h1 h2 hs) fun vs σ H Q ⟨ad, F, S, ds, sl', h, r, e, q⟩ => by
    cases ds with
    | nil => exact nomatch e
    | cons d ds =>
      cases r with
      | cons r1 r2 =>
        have e : (asgP p d S.sl).bind (fun sl' => asgPs ps ds sl') = some sl' := e
        cases e1 : asgP p d S.sl with
        | none => rw [e1] at e; cases e
        | some sl1 =>
          rw [e1] at e
          refine ⟨_, _, rfl, ad, F, S, d, sl1, h, r1, e1, fun σ1 a1 h1 => ⟨ad, F, _, ds, sl', h1, r2, e, fun σ2 a2 h2 => q σ2 ⟨a2.1.trans a1.1, fun j hj => ?_⟩ h2⟩⟩
          have hj' : j ∉ slotsP p ++ slotsPs ps := hj
          rw [a2.2 j fun z => hj' (List.mem_append_right _ z), a1.2 j fun z => hj' (List.mem_append_left _ z)]
theorem asgPs_len : ∀ {ps : List Pat} {ds : List D} {sl sl' : List (Option Sl)}, asgPs ps ds sl = some sl' → ds.length = ps.length
  | [], [], _, _, _ => rfl
  | p :: ps, d :: ds, sl, sl', e => by
    have e : (asgP p d sl).bind (fun sl' => asgPs ps ds sl') = some sl' := e
    cases e1 : asgP p d sl with
    | none => rw [e1] at e; cases e
    | some sl1 =>
      rw [e1] at e
      rw [List.length_cons, List.length_cons, asgPs_len (ps := ps) (ds := ds) e]
  | [], _ :: _, _, _, e => nomatch e
  | _ :: _, [], _, _, e => nomatch e
theorem dg_tup {k : Nat} {n : Nat} (hc : X.calm = true) (h : DGs X T es ps) (hn : (assignEach es X.env).length = n := by rfl) (hp : ps.length = n := by rfl) (hst : (assignEach es X.env).findIdx? (·.1) = none := by rfl) : DG X T (.Tuple es k pos) (.tp ps) :=
  weakG (pg_tup (n := n) hc h hn hst) fun v σ H Q ⟨ad, F, S, d, sl', h, r, e, q⟩ => by
    cases r with
    | tup h1 h2 => exact ⟨_, _, rfl, h1.sq, by rw [h2.length, ← hp]; exact asgPs_len e, ad, F, S, _, sl', h, h2, e, q⟩
    | _ => exact nomatch e
end
def ItOk (T : Tab) (K : PySem.W.Frag) (F : Addr → Prop) (J : It) (items : List D) (ad1 : List Addr) (H1 : Hp) : Prop :=
  ∀ (F2 : Addr → Prop) ad2 H2 cs2, HoldC T K ad2 F2 H2 cs2 → Kp (Mm ad1 F) H1 (Mm ad2 F2) H2 → ∀ i : Nat,
    (∀ d, items[i]? = some d → J.go i H2 ∧ ∀ v H3, J.yld i H2 v H3 → (∀ a o, H2 a = some o → H3 a = some o) ∧ Rep T K (Mm ad2 F2) H3 v d) ∧ (i = items.length → J.stop i H2)
theorem weakI {X : Cx} {tg it : Expr} {t t' : TI} (h : PI X tg it t) (q : ∀ σ H R, t' σ H R → t σ H R) : PI X tg it t' := ⟨fun pins s σ H R I z => h.run pins s σ H R I (q σ H R z)⟩
section
variable {X : Cx} {T : Tab} {S S1 S2 : Sta} {e tg : Expr} {pos p : Pos} {ds : List D} {i j : Int}
def rangeD (lo : Int) (n : Nat) : List D := (List.range n).map fun i : Nat => D.int (lo + (i : Int))
theorem rangeD_get {lo : Int} {n i : Nat} {d : D} (h : (rangeD lo n)[i]? = some d) : i < n ∧ d = .int (lo + (i : Int)) := by
  unfold rangeD at h
  rw [List.getElem?_map] at h
  by_cases hi : i < n
  · rw [List.getElem?_range hi] at h
    exact ⟨hi, (Option.some.inj h).symm⟩
  · rw [List.getElem?_eq_none (by simpa using hi)] at h
    cases h
theorem itr_ok {K : PySem.W.Frag} {F : Addr → Prop} {lo : Int} {n : Nat} {ad1 : List Addr} {H1 : Hp} : ItOk T K F (Itr lo n) (rangeD lo n) ad1 H1 := fun F2 ad2 H2 cs2 c2 kp i => by
  refine ⟨fun d hd => ?_, fun hi => ?_⟩
  · obtain ⟨hi, rfl⟩ := rangeD_get hd
    refine ⟨hi, fun v H3 y => ?_⟩
    obtain ⟨rfl, rfl⟩ := y
    exact ⟨fun _ _ z => z, .int⟩
  · unfold rangeD at hi
    simp at hi
    subst hi
    exact Nat.le_refl _
end
def DFor (X : Cx) (T : Tab) (n : Nat) (p : Pat) (body : List Stmt) : List D → Sta → Post → Prop
  | [], S, P => P.nx S
  | d :: ds, S, P => ∃ sl', asgP p d S.sl = some sl' ∧ DSs X T n ⟨sl', S.cs⟩ body { P with nx := fun S' => DFor X T n p body ds S' P, ct := fun S' => DFor X T n p body ds S' P, bk := P.nx }
theorem grow {T : Tab} {K : PySem.W.Frag} {F : Addr → Prop} {ad : List Addr} {H H' : Hp} {cs : List Cell} (h : HoldC T K ad F H cs) (g : ∀ a o, H a = some o → H' a = some o) : HoldC T K ad F H' cs ∧ Ext ad F H ad H' := by
  have x : Ext ad F H ad H' := ⟨⟨[], by simp, fun _ z => nomatch z⟩, fun a o e _ => g a o e, fun a fa => by obtain ⟨o, e⟩ := h.al a fa; exact .inl (by rw [g a o e, e])⟩
  refine ⟨⟨h.nd, h.fr, fun a fa => (x.frm a fa).ex (h.al a fa), h.tb.ext g, h.ln, fun k a c h1 h2 => ?_⟩, x⟩
  have q := h.ce k a c h1 h2
  obtain ⟨o, e⟩ := q.some
  exact q.kp x.kp (by rw [g a o e, e])
section
variable {X : Cx} {T : Tab} {n : Nat} {S S1 S2 : Sta} {it tg : Expr} {pos : Pos} {items : List D} {body : List Stmt} {p : Pat} {P : Post}
end
end Dl
namespace Dl
open PySem L2
def BinD (X : Cx) (T : Tab) (op : Operator) (s1 s2 : Sl) (cs : List Cell) (s : Sl) (cs' : List Cell) : Prop := ∃ r, OpR X (binaryOp op) r ∧ R2D T X.K r s1 s2 cs s cs'
def CmpD (X : Cx) (T : Tab) (op : CmpOp) (s1 s2 : Sl) (cs : List Cell) (s : Sl) (cs' : List Cell) : Prop := ∃ r, OpR X (compareOp op) r ∧ R2D T X.K r s1 s2 cs s cs'
def IxD (X : Cx) (T : Tab) (s1 s2 : Sl) (cs : List Cell) (s : Sl) (cs' : List Cell) : Prop := ∃ r, IxR X r ∧ R2D T X.K r s1 s2 cs s cs'
def UnD (X : Cx) (T : Tab) (op : UnaryOp) (s1 : Sl) (cs : List Cell) (s : Sl) (cs' : List Cell) : Prop := ∃ r, UnR X (unaryOp op) r ∧ R1 T X.K r s1 cs s cs'
def CalB (X : Cx) (T : Tab) (x : Str) (ss : List Sl) (cs : List Cell) (s : Sl) (cs' : List Cell) : Prop := ∃ u r, bootBuiltins x = some u ∧ ((∃ id, u = .builtin id) ∨ ∃ id, u = .type id) ∧ CallR X u r ∧ RCD T X.K r ss cs s cs'
section
variable {X : Cx} {T : Tab} {S S1 S2 S3 : Sta} {a b e : Expr} {pos p : Pos} {s s1 s2 : Sl} {cs cs' : List Cell} {d d1 d2 : D} {i j : Int} {ds es : List D}
theorem bin_add : BinD X T .Add (.dat (.int i)) (.dat (.int j)) cs (.dat (.int (i + j))) cs := ⟨_, op_add, r2_I0⟩
theorem bin_sub : BinD X T .Sub (.dat (.int i)) (.dat (.int j)) cs (.dat (.int (i - j))) cs := ⟨_, op_sub, r2_I0⟩
theorem op_mulI : OpR X (binaryOp .Mult) (rI IntMulOk fun i j => .int (i * j)) := opI fun _ _ _ _ _ _ _ hc q => PyProof.Rows.mul_int q hc
theorem bin_mul (h : IntMulOk i j) : BinD X T .Mult (.dat (.int i)) (.dat (.int j)) cs (.dat (.int (i * j))) cs := ⟨_, op_mulI, r2_I h⟩
theorem bin_fdiv (h : CDivW i j) : BinD X T .FloorDiv (.dat (.int i)) (.dat (.int j)) cs (.dat (.int (i / j))) cs := ⟨_, op_fdivW, r2_I h⟩
theorem bin_mod (h : 0 < j) : BinD X T .Mod (.dat (.int i)) (.dat (.int j)) cs (.dat (.int (i % j))) cs := ⟨_, op_mod, r2_I (C := fun _ j => 0 < j) h⟩
theorem bin_pow (h : CPow i j) : BinD X T .Pow (.dat (.int i)) (.dat (.int j)) cs (.dat (.int (i ^ j.toNat))) cs := ⟨_, op_pow, r2_I h⟩
theorem cmp_lt : CmpD X T .Lt (.dat (.int i)) (.dat (.int j)) cs (.dat (.bl (decide (i < j)))) cs := ⟨_, op_lt, r2_B0⟩
theorem cmp_gt : CmpD X T .Gt (.dat (.int i)) (.dat (.int j)) cs (.dat (.bl (decide (j < i)))) cs := ⟨_, op_gt, r2_B0⟩
theorem cmp_ge : CmpD X T .GtE (.dat (.int i)) (.dat (.int j)) cs (.dat (.bl (decide (j ≤ i)))) cs := ⟨_, op_ge, r2_B0⟩
theorem dec_V (i j : Int) : decide (V.int i = V.int j) = decide (i = j) := by
  by_cases h : i = j
  · subst h; simp
  · rw [decide_eq_false h, decide_eq_false fun z => h (V.int.inj z)]
theorem cmp_eqI : CmpD X T .Eq (.dat (.int i)) (.dat (.int j)) cs (.dat (.bl (decide (i = j)))) cs := ⟨_, op_eq, fun ad F H v w Q c r1 r2 q => by
  cases r1; cases r2
  exact ⟨rfl, by rw [dec_V]; exact q _ H ad .refl c Rep.bl⟩⟩
theorem cmp_neI : CmpD X T .NotEq (.dat (.int i)) (.dat (.int j)) cs (.dat (.bl (!decide (i = j)))) cs := ⟨_, op_ne, fun ad F H v w Q c r1 r2 q => by
  cases r1; cases r2
  exact ⟨rfl, by rw [dec_V]; exact q _ H ad .refl c Rep.bl⟩⟩
theorem dec_S (i j : Str) : decide (V.str i = V.str j) = decide (i = j) := by
  by_cases h : i = j
  · subst h; simp
  · rw [decide_eq_false h, decide_eq_false fun z => h (V.str.inj z)]
theorem cmp_eqS {x y : Str} : CmpD X T .Eq (.dat (.str x)) (.dat (.str y)) cs (.dat (.bl (decide (x = y)))) cs := ⟨_, op_eq, fun ad F H v w Q c r1 r2 q => by
  cases r1; cases r2
  exact ⟨rfl, by rw [dec_S]; exact q _ H ad .refl c Rep.bl⟩⟩
theorem cmp_neS {x y : Str} : CmpD X T .NotEq (.dat (.str x)) (.dat (.str y)) cs (.dat (.bl (!decide (x = y)))) cs := ⟨_, op_ne, fun ad F H v w Q c r1 r2 q => by
  cases r1; cases r2
  exact ⟨rfl, by rw [dec_S]; exact q _ H ad .refl c Rep.bl⟩⟩
theorem dec_B (i j : Bool) : decide (V.bl i = V.bl j) = (i == j) := by cases i <;> cases j <;> decide
theorem cmp_eqB {x y : Bool} : CmpD X T .Eq (.dat (.bl x)) (.dat (.bl y)) cs (.dat (.bl (x == y))) cs := ⟨_, op_eq, fun ad F H v w Q c r1 r2 q => by
  cases r1; cases r2
  exact ⟨rfl, by rw [dec_B]; exact q _ H ad .refl c Rep.bl⟩⟩
theorem cmp_neB {x y : Bool} : CmpD X T .NotEq (.dat (.bl x)) (.dat (.bl y)) cs (.dat (.bl (!(x == y)))) cs := ⟨_, op_ne, fun ad F H v w Q c r1 r2 q => by
  cases r1; cases r2
  exact ⟨rfl, by rw [dec_B]; exact q _ H ad .refl c Rep.bl⟩⟩
theorem ix_L (hi : atI ds i = some d) : IxD X T (.dat (.lst ds)) (.dat (.int i)) cs (.dat d) cs := ⟨_, ix_list, fun ad F H v w Q c r1 r2 q => by
  cases r2
  cases r1 with
  | lst n e r =>
    obtain ⟨u, h1, h2⟩ := reps_at r hi
    exact ⟨_, _, i, u, rfl, rfl, SqL.of e, h1, q u H ad .refl c h2⟩⟩
theorem ix_R (hi : atI ds i = some d) : IxD X T (.dat (.scr ds)) (.dat (.int i)) cs (.dat d) cs := ⟨_, ix_list, fun ad F H v w Q c r1 r2 q => by
  cases r2
  cases r1 with
  | scr e r =>
    obtain ⟨u, h1, h2⟩ := reps_at r hi
    exact ⟨_, _, i, u, rfl, rfl, e.sq, h1, q u H ad .refl c h2⟩⟩
theorem ix_T (hi : atI ds i = some d) : IxD X T (.dat (.tup ds)) (.dat (.int i)) cs (.dat d) cs := ⟨_, ix_tup, fun ad F H v w Q c r1 r2 q => by
  cases r2
  cases r1 with
  | tup e r =>
    obtain ⟨u, h1, h2⟩ := reps_at r hi
    exact ⟨_, _, i, u, rfl, rfl, e.sq, h1, q u H ad .refl c h2⟩⟩
theorem ix_C {k : Nat} (hk : cs[k]? = some (.lst ds)) (hi : atI ds i = some d) : IxD X T (.cel k) (.dat (.int i)) cs (.dat d) cs := ⟨_, ix_list, fun ad F H v w Q c r1 r2 q => by
  cases r2
  obtain ⟨p, e, rfl⟩ := r1
  obtain ⟨vs, h1, h2⟩ := c.ce k p _ e hk
  obtain ⟨u, h3, h4⟩ := reps_at h2 hi
  exact ⟨_, _, i, u, rfl, rfl, SqL.of h1, h3, q u H ad .refl c h4⟩⟩
theorem ix_S {x : Str} {c : Nat} (hl : x.length ≤ sizeLine) (hi : atI x.cps.toList i = some c) : IxD X T (.dat (.str x)) (.dat (.int i)) cs (.dat (.str ⟨#[c]⟩)) cs := ⟨_, ix_str, fun ad F H v w Q c' r1 r2 q => by
  cases r1; cases r2
  exact ⟨x, i, c, rfl, rfl, hl, hi, q _ H ad .refl c' Rep.str⟩⟩
theorem new_lst {K : PySem.W.Frag} {ad : List Addr} {F : Addr → Prop} {H : Hp} {vs : List V} {Q : VK} (c : HoldC T K ad F H cs) (r : Reps T K (Mm ad F) H vs ds) (q : ∀ z H' ad', Ext ad F H ad' H' → HoldC T K ad' F H' cs → SlRep T K ad' F H' z (.dat (.lst ds)) → Q z H')
    {p : Addr} (hp : H p = none) : Q (.ref p) (upd H p (.lst vs)) := by
  obtain ⟨c2, x2⟩ := c.newo (o := .lst vs) hp
  exact q _ _ ad x2 c2 (Rep.lst (vs := vs) (c.new hp) upd_same (r.kp x2.kp))
theorem new_tup {K : PySem.W.Frag} {ad : List Addr} {F : Addr → Prop} {H : Hp} {vs : List V} {Q : VK} (c : HoldC T K ad F H cs) (r : Reps T K (Mm ad F) H vs ds) (q : ∀ z H' ad', Ext ad F H ad' H' → HoldC T K ad' F H' cs → SlRep T K ad' F H' z (.dat (.tup ds)) → Q z H')
    {p : Addr} (hp : H p = none) : Q (.ref p) (upd H p (.tup vs)) := by
  obtain ⟨c2, x2⟩ := c.newo (o := .tup vs) hp
  exact q _ _ ad x2 c2 (Rep.tup (vs := vs) (.inl ⟨c.new hp, .inl upd_same⟩) (r.kp x2.kp))
theorem new_lstC {K : PySem.W.Frag} {ad : List Addr} {F : Addr → Prop} {H : Hp} {vs : List V} {Q : VK} (c : HoldC T K ad F H cs) (r : Reps T K (Mm ad F) H vs ds) (q : ∀ z H' ad', Ext ad F H ad' H' → HoldC T K ad' F H' (cs ++ [.lst ds]) → SlRep T K ad' F H' z (.cel cs.length) → Q z H')
    {p : Addr} (hp : H p = none) : Q (.ref p) (upd H p (.lst vs)) := by
  have kp : Kp (Mm ad F) H (Mm (ad ++ [p]) F) (upd H p (.lst vs)) := fun a o e n => by
    have np : a ≠ p := ne_of_none e hp
    refine ⟨by rw [upd_ne np]; exact e, fun z => ?_⟩
    rcases z with z | z
    · rcases List.mem_append.mp z with z | z
      · exact n (.inl z)
      · exact np (List.mem_singleton.mp z)
    · exact n (.inr z)
  obtain ⟨c2, x2⟩ := c.cell (o := .lst vs) (c := .lst ds) hp ⟨vs, upd_same, r.kp kp⟩
  refine q _ _ _ x2 c2 ⟨p, ?_, rfl⟩
  rw [← c.ln, List.getElem?_append_right (Nat.le_refl _)]
  simp
def isLst (cs : List Cell) (ds : List D) : Sl → Prop
  | .dat d => d = .lst ds
  | .cel k => cs[k]? = some (.lst ds)
theorem rd_lst {K : PySem.W.Frag} {ad : List Addr} {F : Addr → Prop} {H : Hp} {v : V} (h : isLst cs ds s) (c : HoldC T K ad F H cs) (r : SlRep T K ad F H v s) : ∃ a vs, v = .ref a ∧ H a = some (.lst vs) ∧ Reps T K (Mm ad F) H vs ds := by
  cases s with
  | dat d =>
    obtain rfl : d = .lst ds := h
    cases r with
    | lst n e r => exact ⟨_, _, rfl, e, r⟩
  | cel k =>
    obtain ⟨a, e, rfl⟩ := r
    obtain ⟨vs, h1, h2⟩ := c.ce k a _ e h
    exact ⟨a, vs, rfl, h1, h2⟩
theorem bin_addL (h1 : isLst cs ds s1) (h2 : isLst cs es s2) (hl : ds.length + es.length ≤ sizeLine) : BinD X T .Add s1 s2 cs (.dat (.lst (ds ++ es))) cs := ⟨_, op_cat, fun ad F H v w Q c r1 r2 q => by
  obtain ⟨a, vs, rfl, e1, q1⟩ := rd_lst h1 c r1
  obtain ⟨b, ws, rfl, e2, q2⟩ := rd_lst h2 c r2
  exact ⟨a, b, vs, ws, rfl, rfl, e1, e2, by rw [q1.length, q2.length]; exact hl, fun p hp => new_lst c (q1.append q2) q hp⟩⟩
theorem bin_addT (hl : ds.length + es.length ≤ sizeLine) : BinD X T .Add (.dat (.tup ds)) (.dat (.tup es)) cs (.dat (.tup (ds ++ es))) cs := ⟨_, op_catA, fun ad F H v w Q c r1 r2 q => by
  cases r1 with
  | @tup a vs _ e1 q1 =>
    cases r2 with
    | @tup b ws _ e2 q2 =>
      refine ⟨a, b, vs, ws, rfl, rfl, e1.sq, e2.sq, by rw [q1.length, q2.length]; exact hl, ?_⟩
      refine ⟨fun h => ?_, fun h => ?_, fun h h' p hp => new_tup c (q1.append q2) q hp⟩
      · subst h
        cases q1
        exact q _ H ad .refl c (Rep.tup e2 q2)
      · first
          | (intro h'; subst h'; cases q2; refine q _ H ad .refl c ?_; rw [List.append_nil]; exact Rep.tup e1 q1)
          | (subst h; cases q2; refine q _ H ad .refl c ?_; rw [List.append_nil]; exact Rep.tup e1 q1)⟩
theorem bin_addS {x y : Str} (hl : x.length + y.length ≤ sizeLine) : BinD X T .Add (.dat (.str x)) (.dat (.str y)) cs (.dat (.str (x ++ y))) cs := ⟨_, op_add_str, fun ad F H v w Q c r1 r2 q => by
  cases r1; cases r2
  exact ⟨x, y, rfl, rfl, hl, q _ H ad .refl c Rep.str⟩⟩
theorem reps_rep {K : PySem.W.Frag} {M : Addr → Prop} {H : Hp} {vs : List V} (h : Reps T K M H vs ds) : ∀ n, Reps T K M H (List.replicate n vs).flatten (List.replicate n ds).flatten
  | 0 => .nil
  | n + 1 => by
    rw [List.replicate_succ, List.replicate_succ, List.flatten_cons, List.flatten_cons]
    exact h.append (reps_rep h n)
theorem bin_repL (h1 : isLst cs ds s1) (h2 : -(2 ^ 63) ≤ j) (h3 : j < 2 ^ 63) (hl : ds.length * j.toNat ≤ sizeLine) : BinD X T .Mult s1 (.dat (.int j)) cs (.dat (.lst (List.replicate j.toNat ds).flatten)) cs := ⟨_, op_rep, fun ad F H v w Q c r1 r2 q => by
  cases r2
  obtain ⟨a, vs, rfl, e1, q1⟩ := rd_lst h1 c r1
  refine ⟨a, j, vs, rfl, rfl, e1, h2, h3, by rw [q1.length]; exact hl, fun p hp => ?_⟩
  first
    | exact new_lst c (reps_rep q1 _) q hp
    | (have z := new_lst c (reps_rep q1 j.toNat) q hp; simpa using z)⟩
def cutD (ds : List D) (lo hi : Option Int) : List D := (ds.drop (HT.sIx ds.length 0 lo)).take (HT.sIx ds.length ds.length hi - HT.sIx ds.length 0 lo)
mutual
def D.py : D → PyData
  | .non => .none
  | .bl b => .bool b
  | .int i => .int i
  | .str x => .str x
  | .tup xs => .tuple (D.pys xs)
  | .lst xs => .list (D.pys xs)
  | .scr xs => .list (D.pys xs)
  | .obj _ _ => .none
  | .err _ _ _ _ => .none
  | .cls _ => .none
  | .dct _ _ => .none
  | .fn _ => .none
  | .dcn _ _ => .none
def D.pys : List D → List PyData
  | [] => []
  | x :: xs => D.py x :: D.pys xs
end
mutual
def D.plain : D → Bool
  | .tup xs => D.plains xs
  | .lst xs => D.plains xs
  | .scr xs => D.plains xs
  | .obj _ _ => false
  | .err _ _ _ _ => false
  | .cls _ => false
  | .dct _ _ => false
  | .fn _ => false
  | .dcn _ _ => false
  | _ => true
def D.plains : List D → Bool
  | [] => true
  | x :: xs => D.plain x && D.plains xs
end
mutual
theorem Rep.dp {K : PySem.W.Frag} {M : Addr → Prop} {H : Hp} {v : V} {d : D} (r : Rep T K M H v d) (h : d.plain = true) : Dp K H v d.py :=
  match r with
  | .non => .non
  | .bl => .bl _
  | .int => .int _
  | .str => .str _
  | .tup h1 h2 => .tup h1.sq (Reps.dp h2 h)
  | .lst n h1 h2 => .lst (SqL.of h1) (Reps.dp h2 h)
  | .scr h1 h2 => .lst h1.sq (Reps.dp h2 h)
  | .obj .. => Bool.noConfusion (show false = true from h)
  | .err .. => Bool.noConfusion (show false = true from h)
  | .cls => Bool.noConfusion (show false = true from h)
  | .dct .. => Bool.noConfusion (show false = true from h)
  | .fn .. => Bool.noConfusion (show false = true from h)
  | .dcn .. => Bool.noConfusion (show false = true from h)
theorem Reps.dp {K : PySem.W.Frag} {M : Addr → Prop} {H : Hp} {vs : List V} {ds : List D} (r : Reps T K M H vs ds) (h : D.plains ds = true) : DpAll K H vs (D.pys ds) :=
  match r, h with
  | .nil, _ => .nil
  | .cons h1 h2, h => .cons (Rep.dp h1 (Bool.and_eq_true_iff.mp h).1) (Reps.dp h2 (Bool.and_eq_true_iff.mp h).2)
end
def okD (d : D) : Bool := d.plain && SeqAt.shaped d.py
def eqD (d e : D) : Bool := PyData.eqv d.py e.py
theorem cmp_eqD (hu : X.A.units + 64 < cLine) (h1 : okD d1 = true) (h2 : okD d2 = true) : CmpD X T .Eq (.dat d1) (.dat d2) cs (.dat (.bl (eqD d1 d2))) cs := ⟨_, op_eqD hu, fun ad F H v w Q c r1 r2 q => by
  have a1 := Bool.and_eq_true_iff.mp h1
  have a2 := Bool.and_eq_true_iff.mp h2
  exact ⟨_, _, Rep.dp r1 a1.1, Rep.dp r2 a2.1, a1.2, a2.2, q _ H ad .refl c Rep.bl⟩⟩
theorem cmp_neD (hu : X.A.units + 64 < cLine) (h1 : okD d1 = true) (h2 : okD d2 = true) : CmpD X T .NotEq (.dat d1) (.dat d2) cs (.dat (.bl (!eqD d1 d2))) cs := ⟨_, op_neD hu, fun ad F H v w Q c r1 r2 q => by
  have a1 := Bool.and_eq_true_iff.mp h1
  have a2 := Bool.and_eq_true_iff.mp h2
  exact ⟨_, _, Rep.dp r1 a1.1, Rep.dp r2 a2.1, a1.2, a2.2, q _ H ad .refl c Rep.bl⟩⟩
theorem eqD_refl (h : okD d = true) : eqD d d = true := by
  have a1 := Bool.and_eq_true_iff.mp h
  exact SeqAt.eqv_refl _ (SeqAt.canLay_of_shaped a1.2)
theorem cb_len (h : isLst cs ds s1) : CalB X T "len" [s1] cs (.dat (.int ds.length)) cs := ⟨_, _, PySem.boot_len, .inl ⟨_, rfl⟩, call_len_seq, fun ad F H vs Q c r q => by
  match vs, r with
  | [v], r =>
    obtain ⟨a, ws, rfl, e1, q1⟩ := rd_lst h c r.1
    exact ⟨a, ws, rfl, .inl (SqL.of e1), by rw [q1.length]; exact q _ H ad .refl c Rep.int⟩⟩
theorem cb_lenR : CalB X T "len" [.dat (.scr ds)] cs (.dat (.int ds.length)) cs := ⟨_, _, PySem.boot_len, .inl ⟨_, rfl⟩, call_len_seq, fun ad F H vs Q c r q => by
  match vs, r with
  | [v], r =>
    have r1 := r.1
    cases r1 with
    | @scr a ws _ e1 q1 => exact ⟨a, ws, rfl, .inl e1.sq, by rw [q1.length]; exact q _ H ad .refl c Rep.int⟩⟩
theorem cb_lenT : CalB X T "len" [.dat (.tup ds)] cs (.dat (.int ds.length)) cs := ⟨_, _, PySem.boot_len, .inl ⟨_, rfl⟩, call_len_seq, fun ad F H vs Q c r q => by
  match vs, r with
  | [v], r =>
    have r1 := r.1
    cases r1 with
    | @tup a ws _ e1 q1 => exact ⟨a, ws, rfl, .inr e1.sq, by rw [q1.length]; exact q _ H ad .refl c Rep.int⟩⟩
theorem cb_lenS {x : Str} (hl : x.length ≤ sizeLine) : CalB X T "len" [.dat (.str x)] cs (.dat (.int x.length)) cs := ⟨_, _, PySem.boot_len, .inl ⟨_, rfl⟩, call_len_str, fun ad F H vs Q c r q => by
  match vs, r with
  | [v], r =>
    have r1 := r.1
    cases r1
    exact ⟨x, rfl, hl, q _ H ad .refl c Rep.int⟩⟩
theorem cb_int : CalB X T "int" [.dat (.int i)] cs (.dat (.int i)) cs := ⟨_, _, by decide +kernel, .inr ⟨_, rfl⟩, call_int1, fun ad F H vs Q c r q => by
  match vs, r with
  | [v], r =>
    have r1 := r.1
    cases r1
    exact .inl ⟨i, rfl, q _ H ad .refl c Rep.int⟩⟩
theorem cb_intB {k : Bool} : CalB X T "int" [.dat (.bl k)] cs (.dat (.int (if k then 1 else 0))) cs := ⟨_, _, by decide +kernel, .inr ⟨_, rfl⟩, call_int1, fun ad F H vs Q c r q => by
  match vs, r with
  | [v], r =>
    have r1 := r.1
    cases r1
    exact .inr ⟨k, rfl, q _ H ad .refl c Rep.int⟩⟩
theorem cb_max (hc : X.calm = true) : CalB X T "max" [.dat (.int i), .dat (.int j)] cs (.dat (.int (if j > i then j else i))) cs := ⟨_, _, by decide +kernel, .inl ⟨_, rfl⟩, call_max2 hc, fun ad F H vs Q c r q => by
  match vs, r with
  | [v, w], r =>
    have r1 := r.1
    have r2 := r.2.1
    cases r1; cases r2
    exact ⟨i, j, rfl, q _ H ad .refl c Rep.int⟩⟩
theorem cb_lstL (h : isLst cs ds s1) : CalB X T "list" [s1] cs (.dat (.lst ds)) cs := ⟨_, _, by decide +kernel, .inr ⟨_, rfl⟩, call_list_of, fun ad F H vs Q c r q => by
  match vs, r with
  | [v], r =>
    obtain ⟨a, ws, rfl, e1, q1⟩ := rd_lst h c r.1
    exact ⟨a, ws, rfl, .inl (SqL.of e1), fun l hl => new_lst c q1 q hl⟩⟩
theorem cb_lstT : CalB X T "list" [.dat (.tup ds)] cs (.dat (.lst ds)) cs := ⟨_, _, by decide +kernel, .inr ⟨_, rfl⟩, call_list_of, fun ad F H vs Q c r q => by
  match vs, r with
  | [v], r =>
    have r1 := r.1
    cases r1 with
    | @tup a ws _ e1 q1 => exact ⟨a, ws, rfl, .inr e1.sq, fun l hl => new_lst c q1 q hl⟩⟩
theorem cb_lstLC (h : isLst cs ds s1) : CalB X T "list" [s1] cs (.cel cs.length) (cs ++ [.lst ds]) := ⟨_, _, by decide +kernel, .inr ⟨_, rfl⟩, call_list_of, fun ad F H vs Q c r q => by
  match vs, r with
  | [v], r =>
    obtain ⟨a, ws, rfl, e1, q1⟩ := rd_lst h c r.1
    exact ⟨a, ws, rfl, .inl (SqL.of e1), fun l hl => new_lstC c q1 q hl⟩⟩
theorem cb_lstTC : CalB X T "list" [.dat (.tup ds)] cs (.cel cs.length) (cs ++ [.lst ds]) := ⟨_, _, by decide +kernel, .inr ⟨_, rfl⟩, call_list_of, fun ad F H vs Q c r q => by
  match vs, r with
  | [v], r =>
    have r1 := r.1
    cases r1 with
    | @tup a ws _ e1 q1 => exact ⟨a, ws, rfl, .inr e1.sq, fun l hl => new_lstC c q1 q hl⟩⟩
end
section
variable {X : Cx} {T : Tab} {n : Nat} {S S1 S2 S3 : Sta} {e o ix : Expr} {pos p' : Pos} {d : D} {ds : List D} {k j : Nat} {i : Int} {P : Post}
end
end Dl
namespace Dl
open PySem L2
def wipeS (sl : List (Option Sl)) : List Nat → List (Option Sl)
  | [] => sl
  | v :: vs => (wipeS sl vs).set v none
theorem wipeS_len (sl : List (Option Sl)) : ∀ vs, (wipeS sl vs).length = sl.length
  | [] => rfl
  | v :: vs => by unfold wipeS; rw [List.length_set, wipeS_len sl vs]
theorem wipeS_some {sl : List (Option Sl)} {i : Nat} {s : Sl} : ∀ {vs : List Nat}, (wipeS sl vs)[i]? = some (some s) → sl[i]? = some (some s) ∧ i ∉ vs
  | [], h => ⟨h, by simp⟩
  | v :: vs, h => by
    unfold wipeS at h
    by_cases e : v = i
    · subst e
      rw [List.getElem?_set] at h
      split at h
      · split at h <;> cases h
      · rename_i z; exact absurd rfl z
    · rw [List.getElem?_set_ne e] at h
      obtain ⟨h1, h2⟩ := wipeS_some h
      exact ⟨h1, fun z => (List.mem_cons.mp z).elim (fun q => e q.symm) h2⟩
theorem weakTs {X : Cx} {e : List Expr} {t t' : TT} (h : PTs X e t) (q : ∀ σ H Q, t' σ H Q → t σ H Q) : PTs X e t' := ⟨fun pins s σ H Q I z => h.run pins s σ H Q I (q σ H Q z)⟩
abbrev Turn1 := List (Option Sl) → List Cell → Option D → List Cell → Prop
def InB (X : Cx) (scope : Scope) (f : Cx → Prop) : Prop := ∀ (s : Shared) (H : Hp) (C : Addr) (cl : List (Str × Addr)) (fp : List Addr), f (X.blk s H scope (compEnvC scope cl C X.env) fp)
structure DLC (X : Cx) (T : Tab) (S : Sta) (elt tg iter : Expr) (ifs : List Expr) (scope : Scope) (own : List (Str × Nat)) (wi : TI) (g : TG) (tt : TT) (te : TE) (s : Sl) (S' : Sta) : Prop where
  hi : PI X tg iter wi
  ok : BlkOk X.N X.env.scope scope own
  hg : ∀ (s : Shared) (H : Hp) (C : Addr) (cl : List (Str × Addr)) (fp : List Addr), PG (X.blk s H scope (compEnvC scope cl C X.env) fp) tg g
  ht : ∀ (s : Shared) (H : Hp) (C : Addr) (cl : List (Str × Addr)) (fp : List Addr), PTs (X.blk s H scope (compEnvC scope cl C X.env) fp) ifs tt
  he : ∀ (s : Shared) (H : Hp) (C : Addr) (cl : List (Str × Addr)) (fp : List Addr), PE (X.blk s H scope (compEnvC scope cl C X.env) fp) elt te
  rd : ∀ σ H Q, tD T X.K S s S' σ H Q → tLc wi g tt te (own.map (·.2)) σ H Q
section
variable {X : Cx} {T : Tab} {S S1 : Sta} {elt tg iter : Expr} {ifs : List Expr} {scope : Scope} {own : List (Str × Nat)} {p : Pat} {items acc : List D} {cs' : List Cell}
theorem wipe_asis {σ σ' : St} {vs : List Nat} {ns : List Nat} (h : AsIs ns (wipe σ vs) σ') (hs : ∀ i ∈ ns, i ∈ vs) : wipe σ' vs = wipe σ vs := by
  apply List.ext_getElem?
  intro i
  by_cases hi : i ∈ vs
  · have : ∀ (τ : St) (us : List Nat), i ∈ us → (wipe τ us)[i]? = if i < τ.length then some none else none := by
      intro τ us
      induction us with
      | nil => intro h; cases h
      | cons v us ih =>
        intro h
        unfold wipe
        by_cases e : v = i
        · subst e
          rw [List.getElem?_set, if_pos rfl, wipe_length]
        · rw [List.getElem?_set_ne e]
          exact ih ((List.mem_cons.mp h).resolve_left (fun q => e q.symm))
    rw [this _ _ hi, this _ _ hi, h.1, wipe_length]
  · rw [wipe_out hi, wipe_out hi, h.2 i fun z => hi (hs i z), wipe_out hi]
variable {wi : TI} {g : TG} {tt : TT} {te : TE} {s : Sl} {S' : Sta} {pos : Pos}
end
section
variable {B : Turn1} {p : Pat} {sl : List (Option Sl)} {cs : List Cell}
variable {X : Cx} {T : Tab} {scope : Scope} {elt c : Expr} {sl' : List (Option Sl)} {cs1 : List Cell} {d : D} {S2 S3 : Sta}
end
end Dl
namespace Dl
open PySem L2
section
variable {X : Cx} {T : Tab} {S S1 S2 : Sta} {e e2 : Expr} {pos p tpos : Pos} {ds es : List D} {elts : List Expr} {kk : Nat}
end
section
variable {X : Cx} {T : Tab} {n : Nat} {S S1 S2 : Sta} {a b c e tg : Expr} {pos px py pz pt pt2 : Pos} {kt k2 : Nat} {s1 s2 s3 : Sl} {d : D} {x y z : Str} {P : Post} {p : Pat} {sl' : List (Option Sl)}
end
section
variable {X : Cx} {T : Tab} {n : Nat} {S S1 : Sta} {c : Expr} {body : List Stmt} {pos : Pos} {P : Post}
end
def fIdx : List Str → Str → Option Nat
  | [], _ => none
  | g :: r, f => if f == g then some 0 else (fIdx r f).map (· + 1)
theorem fIdx_look : ∀ {fn : List Str} {f : Str} {j : Nat} {vs : List V}, fIdx fn f = some j → vs.length = fn.length → ∃ v, vs[j]? = some v ∧ (fn.zip vs).lookup f = some v
  | [], _, _, _, h, _ => nomatch h
  | g :: r, f, j, [], h, hl => by simp at hl
  | g :: r, f, j, v :: vs, h, hl => by
    unfold fIdx at h
    by_cases e : (f == g) = true
    · rw [if_pos e] at h
      cases h
      exact ⟨v, rfl, by rw [List.zip_cons_cons, List.lookup_cons, e]⟩
    · rw [if_neg e] at h
      cases q : fIdx r f with
      | none => rw [q] at h; cases h
      | some k =>
        rw [q] at h
        cases h
        obtain ⟨w, h1, h2⟩ := fIdx_look (vs := vs) q (by simpa using hl)
        exact ⟨w, by simpa using h1, by rw [List.zip_cons_cons, List.lookup_cons]; simp only [Bool.not_eq_true] at e; rw [e]; exact h2⟩
theorem fIdx_none : ∀ {fn : List Str} {f : Str} {vs : List V}, fIdx fn f = none → (fn.zip vs).lookup f = none
  | [], _, _, _ => rfl
  | g :: r, f, [], _ => rfl
  | g :: r, f, v :: vs, h => by
    unfold fIdx at h
    by_cases e : (f == g) = true
    · rw [if_pos e] at h; cases h
    · rw [if_neg e] at h
      have q : fIdx r f = none := by
        cases q : fIdx r f with
        | none => rfl
        | some k => rw [q] at h; cases h
      rw [List.zip_cons_cons, List.lookup_cons]
      simp only [Bool.not_eq_true] at e
      rw [e]
      exact fIdx_none q
section
variable {X : Cx} {T : Tab} {n : Nat} {S S1 S2 : Sta} {e o : Expr} {es : List Expr} {pos apos p' : Pos} {ds vs : List D} {d : D} {f m : Str} {C g : Addr} {fn : List Str} {c : Ct} {k j cn : Nat} {fd : FuncData} {ps : List Str} {P : Post} {s : Sl} {ss : List Sl} {c0 c1 : Cell}
end
end Dl
namespace Dl
open PySem L2
theorem weakK {X : Cx} {e : List Keyword} {t t' : TA} (h : PK X e t) (q : ∀ σ H Q, t' σ H Q → t σ H Q) : PK X e t' := ⟨fun pos pins s σ H Q I z => h.run pos pins s σ H Q I (q σ H Q z)⟩
section
variable {X : Cx} {T : Tab} {S S1 S2 S3 : Sta} {e o : Expr} {es : List Expr} {kws : List Keyword} {nm : Option Str} {pos kpos p apos : Pos} {s : Sl} {ss : List Sl} {ds args kargs full : List D} {d : D} {x m : Str} {C g : Addr} {fn : List Str} {c : Ct} {k cn pn : Nat} {fd : FuncData} {ps ks : List Str}
  {gg : List Value → List Value → List Value} {gV : List V → List V → List V}
def Put (K : PySem.W.Frag) (gV : List V → List V → List V) (args kargs full : List D) : Prop := ∀ (x : V) (ws zs : List V), ws.length = args.length → zs.length = kargs.length → ∃ us, gV (x :: ws) zs = x :: us ∧ ∀ T M H, Reps T K M H ws args → Reps T K M H zs kargs → Reps T K M H us full
end
def tyD : D → Option String
  | .non => some "NoneType"
  | .bl _ => some "bool"
  | .int _ => some "int"
  | .str _ => some "str"
  | .tup _ => some "tuple"
  | .lst _ => some "list"
  | .scr _ => some "list"
  | .obj _ _ => none
  | .err _ _ _ _ => none
  | .cls _ => none
  | .dct _ _ => none
  | .fn _ => none
  | .dcn _ _ => none
structure IsiC (K : PySem.W.Frag) (C : Addr) : Prop where
  cl : Cls K C
  ca : PySem.W.findIn K (.ref C) "__class__" = some (some (.builtin "object.__class__"))
  cn : PySem.W.specialIn K (.builtin "object.__class__") "__get__" = some (some (.builtin "getset_descriptor.__get__"))
  ct : PySem.W.takesIn K (.builtin "object.__class__") = some true
  cm : PySem.W.mroIn K C (.type "object") = some true
theorem tyx_of {T : Tab} {K : PySem.W.Frag} {M : Addr → Prop} {H : Hp} {v : V} {d : D} {t : String} (r : Rep T K M H v d) (h : tyD d = some t) : TyX K H v (.type t) := by
  cases r with
  | non => cases h; exact .base .non
  | bl => cases h; exact .base (.bl _)
  | int => cases h; exact .base (.int _)
  | str => cases h; exact .base (.str _)
  | tup h1 _ =>
    cases h
    rcases h1 with ⟨_, h1 | ⟨o, h1⟩⟩ | h1
    · exact .base (.tup h1)
    · exact .fTuple h1
    · rcases h1 with (z | ⟨_, z⟩) | ⟨o, its, n, e, c, _⟩
      · cases z
      · cases z
      · exact .kTuple e c
  | lst _ h1 _ => cases h; exact .base (.lst h1)
  | scr h1 _ =>
    cases h
    rcases h1 with ⟨_, o, h1⟩ | h1
    · exact .base (.frz h1)
    · rcases h1 with (z | ⟨_, z⟩) | ⟨o, its, n, e, c, _⟩
      · cases z
      · cases z
      · exact .kList e c
  | obj => cases h
  | err => cases h
  | cls => cases h
  | dct _ _ _ _ => cases h
  | fn _ _ _ _ => cases h
  | dcn => cases h
section
variable {X : Cx} {T : Tab} {S S1 : Sta} {e : Expr} {pos p p2 : Pos} {d : D} {t u : String} {b : Bool} {x : Str} {C C2 : Addr} {cn : Nat} {fn : List Str} {ds : List D}
end
theorem run_vals {X : Cx} {g : Addr} {fd : FuncData} {ps : List Str} {k : Nat} {sp : Sp} {pins : List (Addr × Obj)} {σ : St} {H : Hp} {s : Shared} {Q : VK} {us : List Value} {vs : List V} (F : FnOk X.prog X.w X.K X.mg X.base CX0 k g fd ps sp) (hr : Room k X.A) (hb : Binds X.K fd ps [])
    (I : Inv X pins σ H s) (r : Vals vs us) (h : sp vs H Q E0) : wpAny (model X.prog X.w) X.A (call (.ref g) us) (EP X pins σ Q) X.xe s :=
  run_fn F hr hb .nil pass0 I r (by rw [List.append_nil]; exact h)
theorem cmpb {X : Cx} {pins : List (Addr × Obj)} {σ : St} {Q : VK} {v : Value} {s : Shared} (h : EP X pins σ Q v s) : PySem.W.CmpBack (EP X pins σ Q) v s := by
  obtain ⟨z, H', I, r, q⟩ := id h
  cases z with
  | non => cases (show v = Value.none from r); exact h
  | bl b => cases (show v = Value.bool b from r); exact h
  | int i => obtain ⟨t, e⟩ := (show ∃ t, v = Value.int i t from r); cases e; exact h
  | str x => obtain ⟨t, e⟩ := (show ∃ t, v = Value.str x t from r); cases e; exact h
  | byt b => obtain ⟨t, e⟩ := (show ∃ t, v = Value.bytes b t from r); cases e; exact h
  | flt b => obtain ⟨t, e⟩ := (show ∃ t, v = Value.float b t from r); cases e; exact h
  | ref a => cases (show v = Value.ref a from r); exact h
  | ty n => cases (show v = Value.type n from r); exact h
section
variable {X : Cx} {T : Tab} {C g : Addr} {fd : FuncData} {ps : List Str} {k cn : Nat} {c : Ct} {fn : List Str} {op : Operator} {ds es : List D} {d : D} {cs : List Cell} {i : Int} {uop : UnaryOp}
end
end Dl
namespace Dl
open PySem L2
section
open PySem.W
variable {prog : Program} {w : World} {A : Around} {E : Value → Shared → Prop} {s : Shared} {K : Frag} {x C f g : Addr} {ox : Obj} {od : Option Obj}
end
theorem inst_get {X : Cx} {pins : List (Addr × Obj)} {σ : St} {H : Hp} {s : Shared} {a C dx : Addr} {fs : List (Str × V)} (I : Inv X pins σ H s) (ea : H a = some (.ins C dx fs)) : ∃ od, PySem.W.InstAt s.heap a (PySem.W.instObj C dx) C (some od) := by
  obtain ⟨mA, J, _⟩ := ins_get I.hok ea
  obtain ⟨od, J, _⟩ := J.look
  exact ⟨od, J⟩
structure OpC (K : PySem.W.Frag) (C : Addr) (op : Operator) (g : Addr) : Prop where
  sf : PySem.W.selfFirst K C = true
  at_ : PySem.W.findIn K (.ref C) (PySem.dunder op.info.2) = some (some (.ref g))
  fn : PySem.W.isFn K (.ref g) = true
  rc : ∃ rc, PySem.W.findIn K (.ref C) (dunderR op.info.2) = some rc ∧ (rc = none ∨ ∃ g : Addr, rc = some (.ref g))
  i1 : ∃ fo, PySem.W.findIn K (.type "int") (PySem.dunder op.info.2) = some fo
  i2 : ∃ ro, PySem.W.findIn K (.type "int") (dunderR op.info.2) = some ro
  su : PySem.W.subIn K (.type "int") (.ref C) = some false
structure OpR' (K : PySem.W.Frag) (C : Addr) (op : Operator) (g : Addr) : Prop where
  sf : PySem.W.selfFirst K C = true
  lf : ∃ f : Addr, PySem.W.findIn K (.ref C) (PySem.dunder op.info.2) = some (some (.ref f))
  at_ : PySem.W.findIn K (.ref C) (dunderR op.info.2) = some (some (.ref g))
  fn : PySem.W.isFn K (.ref g) = true
  ii : ∃ fo ro, PySem.W.findIn K (.type "int") (PySem.dunder op.info.2) = some fo ∧ PySem.W.findIn K (.type "int") (dunderR op.info.2) = some ro ∧ ((fo.isSome && !isSeqSlot fo) || (ro.isSome && !isSeqSlot ro)) = true
  su : PySem.W.subIn K (.ref C) (.type "int") = some false
structure NoIn (K : PySem.W.Frag) (C : Addr) (op : Operator) : Prop where
  cl : ∃ cd, PySem.W.clsIn K C = some cd ∧ cd.mro = [.ref C, .type "object"]
  at_ : PySem.W.findIn K (.ref C) (dunderI op.info.2) = some none
  ob : PySem.W.findIn K (.type "object") (dunderI op.info.2) = some none
structure IntNi (op : Operator) : Prop where
  ex : ∃ id name F, Slot "int" (PySem.dunder op.info.2) id ∧ entryFor table id = some (Builtin.Int.intBinary name F false) ∧ ∀ a b : Value, argsOk id ⟨[a, b], []⟩
def IopD (X : Cx) (T : Tab) (op : Operator) (s1 s2 : Sl) (cs : List Cell) (s : Sl) (cs' : List Cell) : Prop := ∃ r, OpR X (inplaceOp op) r ∧ R2D T X.K r s1 s2 cs s cs'
section
variable {X : Cx} {T : Tab} {C g : Addr} {fd : FuncData} {ps : List Str} {k cn : Nat} {c : Ct} {fn : List Str} {op : Operator} {ds es : List D} {d : D} {cs : List Cell} {i j : Int}
end
end Dl
namespace Dl
open PySem L2
end Dl
namespace Dl
open PySem L2
section
variable {X : Cx} {T : Tab} {C g : Addr} {fd : FuncData} {ps : List Str} {k cn : Nat} {c : Ct} {fn : List Str} {op : CmpOp} {ds es : List D} {d : D} {cs : List Cell}
theorem cop_own2 {sp : Sp} (G : FnOk X.prog X.w X.K X.mg X.base CX0 k g fd ps sp) (hr : Room k X.A) (hb : Binds X.K fd ps []) (hs : PySem.W.findIn X.K (.ref C) (cmpInfo op).2.1 = some (some (.ref g))) (hf : PySem.W.isFn X.K (.ref g) = true) (ho : compareOp op = richCompare op) :
    OpR X (compareOp op) (fun x y H Q => ∃ a b dx dy fs gs, x = .ref a ∧ y = .ref b ∧ H a = some (.ins C dx fs) ∧ H b = some (.ins C dy gs) ∧ sp [x, y] H Q E0) := by
  intro pins s σ H x y v u Q I rx ry h
  obtain ⟨a, b, dx, dy, fs, gs, rfl, rfl, ea, eb, hsp⟩ := h
  cases rx; cases ry
  obtain ⟨mA, J, _⟩ := ins_get I.hok ea
  obtain ⟨mB, J', _⟩ := ins_get I.hok eb
  obtain ⟨od, J, _⟩ := J.look
  obtain ⟨od', J', _⟩ := J'.look
  obtain ⟨m, hF⟩ := I.fr
  rw [ho]
  exact PySem.W.cmp_K (tb := .ref C) hr.units0 hF I.ok.mod.kin J J'.type (by simp [PySem.W.notFirst]) hs hf (thn (run_vals (us := [.ref a, .ref b]) (vs := [.ref a, .ref b]) G hr hb I (.cons rfl (.cons rfl .nil)) hsp) fun _ _ z => cmpb z)
end
section
variable {X : Cx} {T : Tab} {ds : List D} {d : D} {cs : List Cell}
def fv : D → Option V
  | .non => some .non
  | .bl b => some (.bl b)
  | .int i => some (.int i)
  | .str x => some (.str x)
  | _ => none
def fvs : List D → Option (List V)
  | [] => some []
  | d :: ds => (fv d).bind fun v => (fvs ds).map (v :: ·)
theorem fv_rep {K : PySem.W.Frag} {M : Addr → Prop} {H : Hp} {v w : V} (r : Rep T K M H v d) (h : fv d = some w) : v = w ∧ flatV w = true := by
  cases r <;> first | (cases h; exact ⟨rfl, rfl⟩) | exact nomatch h
theorem fvs_reps {K : PySem.W.Frag} {M : Addr → Prop} {H : Hp} : ∀ {vs : List V} {ds : List D} {ws : List V}, Reps T K M H vs ds → fvs ds = some ws → vs = ws ∧ ws.all flatV = true
  | _, _, _, .nil, h => by cases h; exact ⟨rfl, rfl⟩
  | _, d :: ds, ws, .cons r rs, h => by
    cases e : fv d with
    | none => rw [fvs, e] at h; cases h
    | some v =>
      cases e2 : fvs ds with
      | none => rw [fvs, e, e2] at h; cases h
      | some l =>
        rw [fvs, e, e2] at h
        cases h
        obtain ⟨a, fa⟩ := fv_rep r e
        obtain ⟨b, fb⟩ := fvs_reps rs e2
        exact ⟨by rw [a, b], by rw [List.all_cons, fa, fb]; rfl⟩
theorem cmp_inT {v : V} {ws : List V} (h1 : fv d = some v) (h2 : fvs ds = some ws) : CmpD X T .In (.dat d) (.dat (.tup ds)) cs (.dat (.bl (inV v ws))) cs := ⟨_, op_in_seq, fun ad F H x y Q c r1 r2 q => by
  cases r2 with
  | @tup a xs _ e1 q1 =>
    obtain ⟨rfl, fx⟩ := fv_rep r1 h1
    obtain ⟨rfl, fs⟩ := fvs_reps q1 h2
    exact ⟨a, _, rfl, .inr e1.sq, fx, fs, q _ H ad .refl c Rep.bl⟩⟩
end
theorem mul_l {i j : Int} (h1 : -(2 ^ 64) < i) (h2 : i < 2 ^ 64) : IntMulOk i j := CMul.ok (.inl ⟨h1, h2⟩)
end Dl
namespace Dl
open PySem L2
end Dl
namespace Dl
open PySem L2
def spL (K : PySem.W.Frag) : Sp := fun vs H Q _ => ∃ (a : Addr) (ns : List Int), vs = [.ref a] ∧ LAt K (fun _ => False) H a (ns.map V.int) ∧ ns.length ≤ 63 ∧ (∀ z ∈ ns, Builtin.Int.intBits z ≤ 1048576) ∧ ∀ H', Q (.bl true) H'
theorem spL_to {T : Tab} {K : PySem.W.Frag} {c : Ct} (h : ∀ ns : List Int, ns.length ≤ 63 → (∀ z ∈ ns, Builtin.Int.intBits z ≤ 1048576) → c [.dat (.scr (ns.map D.int))] [] (.dat (.bl true)) []) {vs : List V} {H : Hp} {Q : VK} {E : XK} (q : spL K vs H Q E) (hT : T 900 = none := by rfl) : spC T K c vs H Q E := by
  obtain ⟨a, ns, rfl, hl, hn, hb, hq⟩ := q
  refine ⟨[], fun _ => False, [.dat (.scr (ns.map D.int))], [], _, _, ⟨List.nodup_nil, fun _ z => (nomatch z), fun _ z => z.elim, fun P q z => (by rw [hT] at z; cases z), rfl, fun _ _ _ e => nomatch e⟩, ⟨Rep.scr (vs := ns.map V.int) ?_ (Reps.ints ns), trivial⟩, h ns hn hb, ?_⟩
  · rcases hl with ⟨_, o, e⟩ | e
    · exact .inl ⟨fun z => z.elim (fun z => nomatch z) id, o, e⟩
    · exact .inr e
  · intro v H' ad' _ _ _ r
    cases r
    exact hq H'
theorem spL_of {K : PySem.W.Frag} (H : Hp) (a : Addr) (ns : List Int) (hl : ns.length ≤ 63) (hb : ∀ z ∈ ns, Builtin.Int.intBits z ≤ 1048576) (hO : Only H) (hS : SqL K H a (ns.map V.int)) : spL K [.ref a] H (fun v _ => v = .bl true) fun _ _ _ => False :=
  ⟨a, ns, rfl, LAt.of hO hS, hl, hb, fun _ => rfl⟩
theorem kit_self {K : PySem.W.Frag} {C : Addr} : PySem.W.kitOne K (.ref C) (.ref C) = some true := if_pos (beq_self_eq_true _)
end Dl
namespace Dl
open PySem L2
structure CIn (K : PySem.W.Frag) (C : Addr) : Prop where
  ty : PySem.W.typeIn K (.ref C) = some (.type "type")
  rd : PySem.W.readsIn K C (.type "type") = true
  ga : PySem.W.specialIn K (.ref C) "__getattribute__" = some (some (.builtin "type.__getattribute__"))
  at_ : PySem.W.findCls K (.ref C) (.type "type") "__init__" = some (.val (.builtin "ValueError.__init__"))
open PySem.Spec PyProof.Rows in
theorem pe_cinit {X : Cx} {x : Str} {C0 : Addr} {e : Expr} {es : List Expr} {ta : TA} {p1 p2 pos : Pos} {pl : Sem Bool} (hg : Gl X x) (hm : X.mg x = some (.ref C0)) (c : CIn X.K C0) (ha : PA X (e :: es) ta) (hdb : (x == ("__debug__" : Str)) = false)
    (ht : eval (.Call (.Attribute (.Name x p1) "__init__" p2) (e :: es) [] pos) X.env = (do
      let ov ← eval (.Name x p1) X.env
      standAt p2.atName
      let (f, first) ← holding [ov] (getMethod ov "__init__" pl)
      callWith pos f first (backTo pos (starEach (e :: es) X.env)) (backToKw pos (keywordEach [] X.env))))
    (he : starEach (e :: es) X.env = (false, eval e X.env) :: starEach es X.env) (hpl : (backTo pos (starEach es X.env)).any (·.1) = false) :
    PE X (.Call (.Attribute (.Name x p1) "__init__" p2) (e :: es) [] pos) (tVeI X.K ta) := by
  constructor
  intro pins s σ H Q I h
  obtain ⟨m, fr⟩ := I.fr
  refine PySem.W.methodCall_KW (ld_glob I hg hm (PySem.W.method_of_cls fr I.ok.mod.kin c.ga (PySem.W.cls_val fr I.ok.mod.kin c.ty c.rd c.at_ (by decide +kernel) ?_)) hdb) ht
  show wpAny _ _ (callWith pos (Value.builtin "ValueError.__init__") [] (backTo pos (starEach (e :: es) X.env)) []) _ _ _
  refine PyProof.Rows.callWith_method1 (thn (ha.run pos pins _ σ H _ (I.tok _) h) fun us s1 z => ?_) he hpl
  obtain ⟨vs, H1, I1, r1, a, C, ws, ev, hl, T, ea, q⟩ := z
  subst ev
  cases r1 with
  | @cons _ u0 _ ur ra rw' =>
    cases (show u0 = Value.ref a from ra)
    exact oinit_ok T I1 ea (by rw [← Paired.length rw', sizeLine_eq]; omega) fun s' J => ⟨.non, H1, J, rfl, q⟩
open PySem.W PySem.Spec PySem.Calls PyProof.Rows in
theorem cls_exc {prog : Program} {w : World} {A : Around} {E : Value → Shared → Prop} {s : Shared} {K : Frag} {x D : Addr} {ox : Obj} {od : Option Obj} {Q : Option Value → Shared → Prop} (c : L2.ExcC K D) (X : K.In s.heap) (I : InstAt s.heap x ox D od) (h : Q (some (.ref D)) { s with toks := s.toks + 1 }) :
    wpAny (model prog w) A (getAttr? (.ref x) "__class__") Q E s := by
  have hf : findObj K D od "__class__" = some (.bind (.builtin "getset_descriptor.__get__") (.builtin "object.__class__")) := by
    obtain ⟨cd, hc, _⟩ := any_some c.hd
    unfold findObj
    rw [hc, Option.bind_some, c.ha, Option.bind_some]
    simp [c.hn, c.ht]
  obtain ⟨hp, g, d, t, os⟩ := s
  have T0 : Looks (model prog w) hp (typeOf (.ref x)) (.ref D) := I.type
  have T3 := looks_find (M := model prog w) X I hf
  have ne : (onTheHeap (Value.ref D) && Value.builtin "BaseException.__getattribute__" == Value.builtin "object.__getattribute__") = false := by
    rw [show (Value.builtin "BaseException.__getattribute__" == Value.builtin "object.__getattribute__") = false by decide +kernel]
    rfl
  unfold getAttr? getAttrBy? getAttrBy
  refine wpAny_bind (wpAny_mkText (wpAny_bind (wpAny_attempt (wpAny_holding (wpAny_bind (T0.at (wpAny_bind ((looks_findIn (M := model prog w) X c.hg).at ?_))))))))
  show wpAny _ _ (ite ((onTheHeap (Value.ref D) && Value.builtin "BaseException.__getattribute__" == Value.builtin "object.__getattribute__") = true) _ _) _ _ _
  rw [ne, if_neg Bool.false_ne_true]
  unfold getAttrByItsOwn hookBefore
  refine wpAny_bind ?_
  rw [if_pos (show onTheHeap (Value.ref D) = true from rfl)]
  refine (looks_findIn (M := model prog w) X c.hk).at (wpAny_bind (wpAny_attempt (wpAny_holding ?_)))
  unfold callGetattribute
  rw [show (false && onTheHeap (Value.builtin "BaseException.__getattribute__")) = false from rfl, if_neg Bool.false_ne_true]
  unfold boundAndCalled
  rw [PySem.F.excAttr_ValueError.ga.bind (.ref x)]
  refine wpAny_bind (wpAny_pure ?_)
  show wpAny _ _ (call (.builtin "BaseException.__getattribute__") [.ref x, .str "__class__" t]) _ _ _
  refine wpAny_call (codeAny_call_builtin PySem.F.excAttr_ValueError.ga.plain PySem.F.entry_bexc_ga ?_)
  refine @check_slot (model prog w) _ _ ⟨hp, g, d, t + 1, os⟩ "BaseException.__getattribute__" "BaseException" "__getattribute__" (.ref x) [.str "__class__" t] [] _ (by decide +kernel) (by decide +kernel) (T0.andThen (looks_subIn X c.hs)) (PySem.F.args_bexc_ga (.ref x) (.str "__class__" t)) ?_
  unfold Builtin.«object.__getattribute__»
  refine wpAny_bind (wpAny_of_eq (a := ((Value.ref x : Value), [Value.str "__class__" t])) (by first | rfl | (simp only [slotArgs]; rfl)) ?_)
  refine wpAny_bind (wpAny_pure (wpAny_bind (T0.at (wpAny_bind (T3.at ?_)))))
  show wpAny _ _ (holding [Value.builtin "object.__class__"] (call (.builtin "getset_descriptor.__get__") [.builtin "object.__class__", .ref x, .ref D]) >>= ret) _ _ _
  refine wpAny_bind (wpAny_holding (wpAny_call (class_get (s := ⟨hp, g, d, t + 1, os⟩) (ox := ox) (od := od) X I c.hm (wpAny_pure ?_))))
  show wpAny _ _ (handedOut (.ref D)) _ _ _
  rw [handedOut_of (v := .ref D) rfl]
  first
    | exact wpAny_pure (wpAny_pure h)
    | exact wpAny_pure h
    | exact wpAny_pure (wpAny_bind (wpAny_pure (wpAny_pure h)))
open PySem.W PySem.Spec PySem.Calls PyProof.Rows in
theorem kit_exc {K : Frag} {x D : Addr} {ox : Obj} {od : Option Obj} (c : L2.ExcC K D) : KitX K (.ref x) (.ref D) (fun h => InstAt h x ox D od) := by
  have q0 := handS_kitx_exc (K := K) (x := x) (D := D) (ox := ox) c.hg c.hk c.hs c.hd c.ha c.hn c.ht c.hm
  refine { ty := fun _ _ _ I => I.type, it := fun _ _ X _ => ?_, ne := q0.ne, ca := fun X I k => cls_exc c X I k }
  obtain ⟨cd, hc, _⟩ := any_some c.hd
  intro A' Q' E' s' k q
  unfold clsIn at hc
  split at hc
  · rename_i ho
    unfold isType loadHead
    exact wpAny_bind (wpAny_loadPart (k _ _ (X _ _ ho)) (wpAny_pure q))
  · cases hc
section
variable {X : Cx} {T : Tab} {a C Ce : Addr} {oe : Obj} {d : Option Addr} {pn : List (Addr × Obj)} {S S1 S2 : Sta} {e e2 : Expr} {pos p : Pos} {n : Nat} {fs : List D} {b : Bool} {fn : List Str} {x : Str}
def rIsX (K : PySem.W.Frag) (Ce a : Addr) (d : Option Addr) : List V → Hp → VK → Prop := fun xs H Q => (d = none ∨ ∃ dd fs, d = some dd ∧ H dd = some (.xd fs)) ∧
  ((∃ C b, xs = [.ref a, .ref C] ∧ PySem.W.kitOne K (.ref Ce) (.ref C) = some b ∧ Q (.bl b) H) ∨ ∃ (tp : Addr) (cs : List Addr) (b : Bool), xs = [.ref a, .ref tp] ∧ SqT K H tp (cs.map V.ref) ∧ PySem.W.kitAny K (.ref Ce) (cs.map Value.ref) = some b ∧ Q (.bl b) H)
theorem refs_of : ∀ {cs : List Addr} {us : List Value}, Vals (cs.map V.ref) us → us = cs.map Value.ref
  | [], _, .nil => rfl
  | c :: cs, _, .cons r t => by
    rw [refs_of t]
    cases (show _ = Value.ref c from r)
    rfl
theorem call_isX (c : ExcC X.K Ce) (hz : Zc (.ref Ce) d oe) (hf : ∃ vs, oe.data = .fields vs) : CallR (X.suite a ((a, oe) :: pn)) (.builtin "isinstance") (rIsX X.K Ce a d) := by
  intro pins s σ H xs us Q I r h
  obtain ⟨hd, h⟩ := h
  obtain ⟨hget, _⟩ := I.pin (a, oe) (List.mem_append.mpr (.inl List.mem_cons_self))
  obtain ⟨vs, hv⟩ := hf
  have J : ∃ od, PySem.W.InstAt s.heap a oe Ce od := by
    rcases hd with rfl | ⟨dd, fs, rfl, e⟩
    · refine ⟨none, hget, hz.1, by unfold PySem.W.notCls; rw [hv] <;> rfl, ?_⟩
      rw [hz.2]
      trivial
    · obtain ⟨mA, hns, _⟩ : ObjOk X.prog X.w H s.heap dd (.xd fs) := I.hok dd _ e
      obtain ⟨od, ho, _⟩ := lookIn_ns hns
      exact ⟨some od, hget, hz.1, by unfold PySem.W.notCls; rw [hv] <;> rfl, by rw [hz.2]; exact ho⟩
  obtain ⟨od, J⟩ := J
  rcases h with ⟨C, b, rfl, e, q⟩ | ⟨tp, cs, b, rfl, ht, e, q⟩
  · obtain ⟨u1, u2, rfl, r1, r2⟩ := vals2 r
    cases (show u1 = Value.ref a from r1)
    cases (show u2 = Value.ref C from r2)
    exact PySem.W.kia_one (kit_exc c) I.kIn J e (fun z => nomatch z) fun tk => ⟨.bl b, H, I.tok tk, rfl, q⟩
  · obtain ⟨u1, u2, rfl, r1, r2⟩ := vals2 r
    cases (show u1 = Value.ref a from r1)
    cases (show u2 = Value.ref tp from r2)
    obtain ⟨its, rv, ⟨o, h1, h2, m, h3⟩, _⟩ := I.tuple ht
    have e3 := refs_of rv
    subst e3
    obtain ⟨oc, od', dt, sl⟩ := o
    simp only at h2 h3
    subst h2 h3
    exact PySem.W.kia_tup (kit_exc c) I.kIn J h1 e (fun z => nomatch z) fun tk => ⟨.bl b, H, I.tok tk, rfl, q⟩
structure Err (X : Cx) (T : Tab) (n : Nat) (a : Addr) (d : Option Addr) (Ce : Addr) (oe : Obj) : Prop where
  ec : ExcC X.K Ce
  hz : Zc (.ref Ce) d oe
  hf : ∃ vs, oe.data = .fields vs
  ht : ∃ fn, T n = some (Ce, fn)
theorem xat_or {M : Addr → Prop} {H : Hp} {fn : List Str} {vs : List V} (h : XAt M H d fn vs) : d = none ∨ ∃ dd fs, d = some dd ∧ H dd = some (.xd fs) := by
  rcases h with ⟨_, _, h⟩ | ⟨dd, h1, _, h2, _⟩
  · exact .inl h
  · exact .inr ⟨dd, _, h1, h2⟩
end
end Dl
namespace Dl
open PySem L2
def spE1 (C : Addr) (f : Str) : Sp := fun vs H Q _ => ∃ (a : Addr) (v : V), vs = [.ref a, v] ∧ H a = some (exo a C none) ∧ ∀ dx, H dx = none → dx ≠ a → Q .non (upd (upd H dx (exd dx [(f, v)])) a (exo a C (some dx)))
abbrev CtX := List Sl → List Cell → Exc → List Cell → Prop
abbrev cxX (P : Program) (w : World) (K : PySem.W.Frag) (mg : Str → Option Value) (base : Heap) (N : List Str) (qual : Str) (st : Stmt) (f : Addr) (cdv : Value) (A : Around) (outer : List Env) (s : Shared) (H : Hp) (E : XK) : Cx := cxOf (L2.CX P w) P w K mg base N qual (defScope st) f cdv A outer s H E
section
variable {T : Tab} {P : Program} {w : World} {K : PySem.W.Frag} {mg : Str → Option Value} {base : Heap}
end
end Dl
namespace Dl
open PySem L2
theorem noA {X : Cx} {es : List Expr} : PA X es (fun _ _ _ => False) := ⟨fun _ _ _ _ _ _ _ z => z.elim⟩
section
variable {X : Cx} {T : Tab} {W : WX} {S S1 S2 : Sta} {e e2 o : Expr} {es : List Expr} {x : Exc} {s : Sl} {pos p apos : Pos} {n : Nat} {P : Post}
end
end Dl
namespace Dl
open PySem L2
section
variable {X : Cx} {T : Tab} {n : Nat} {S S1 : Sta} {P : Post} {body suite orelse : List Stmt} {b0 h0' : Stmt} {hs' : List ExceptHandler} {pos pos' np : Pos}
theorem Hold.unset {K : PySem.W.Frag} {ad : List Addr} {F : Addr → Prop} {σ : St} {H : Hp} (h : Hold T K S ad F σ H) (i : Nat) : Hold T K ⟨S.sl.set i none, S.cs⟩ ad F (σ.set i none) H := by
  refine ⟨h.hc, by simp [h.sz], fun j u e => ?_⟩
  have e : (S.sl.set i none)[j]? = some (some u) := e
  by_cases hj : i = j
  · subst hj
    rw [List.getElem?_set] at e
    split at e
    · split at e <;> cases e
    · exact absurd rfl ‹_›
  · rw [List.getElem?_set_ne hj] at e
    obtain ⟨v, hv, r⟩ := h.sl j u e
    exact ⟨v, by rw [List.getElem?_set_ne hj]; exact hv, r⟩
end
end Dl
namespace Dl
open PySem L2
section
variable {X : Cx} {T : Tab} {C g : Addr} {fd : FuncData} {ps : List Str} {k cn : Nat} {c : Ct} {fn : List Str} {ds : List D} {d : D} {cs : List Cell}
theorem run_in1 {pins : List (Addr × Obj)} {σ : St} {H : Hp} {s : Shared} {Q : VK} {us : List Value} {vs : List V} {sp : Sp} (F : FnOk X.prog X.w X.K X.mg X.base CX0 k g fd ps sp) (hr : Room (k + 1) X.A) (hb : Binds X.K fd ps [])
    (I : Inv X pins σ H s) (r : Vals vs us) (h : sp vs H Q E0) : wpAny (model X.prog X.w) X.A.in1 (call (.ref g) us) (EP X pins σ Q) X.xe s := by
  have hl : us.length = ps.length := by rw [← r.length]; exact F.len _ _ _ _ h
  have b := hb s us I.kIn (by rw [List.append_nil]; exact hl)
  rw [List.append_nil] at b
  have e := I.env0
  refine wpAny_call (codeAny_mono (F.run X.A.in1 X.stack s H ⟨us, []⟩ us vs Q E0 hr.in1 ⟨e.frames, e.mod, e.bs, e.bsz, e.funs, e.frf, e.hok, e.bare⟩ b r h) fun r s' hq => ?_)
  cases r with
  | error e => exact False.elim hq
  | ok fl =>
    cases fl with
    | ret u => exact I.after hq
    | next => exact False.elim hq
    | brk => exact False.elim hq
    | cont => exact False.elim hq
end
end Dl
namespace Dl
open PySem L2
section
variable {X : Cx} {T : Tab} {cs : List Cell}
def repS (x : Str) (n : Int) : Str := if n < 1 then Str.empty else if (n == 1 || x.length == 0) = true then x else ⟨(List.replicate n.toNat x.cps).foldl (· ++ ·) #[]⟩
theorem op_mulS : OpR X (binaryOp .Mult) (fun x y H Q => ∃ (z : Str) (n : Int), x = .str z ∧ y = .int n ∧ z.length ≤ 1000 ∧ (-1000 ≤ n ∧ n ≤ 1000) ∧ (repS z n).length ≤ sizeLine ∧ Q (.str (repS z n)) H) := by
  intro pins s σ H x y v u Q I rx ry h
  obtain ⟨z, n, rfl, rfl, hz, ⟨h1, h2⟩, hl, q⟩ := h
  obtain ⟨t, rfl⟩ := rx
  obtain ⟨t2, rfl⟩ := ry
  refine PySem.P.mul_str ?_ (fun a _ => ?_) (fun a _ => ?_) ?_
  · rw [decide_eq_false (by omega), decide_eq_false (by omega)]; rfl
  · have e : (z.length : Int) * n ≤ 1000 * 1000 := Int.mul_le_mul (by omega) h2 (by omega) (by decide)
    have e2 : (z.length : Int) ≤ (2 ^ 63 - 1) / n := (Int.le_ediv_iff_mul_le (by omega)).mpr (by omega)
    omega
  · have e : z.length * n.toNat ≤ 1000 * 1000 := Nat.mul_le_mul hz (by omega)
    have e3 : sizeLine = 16777216 := sizeLine_eq
    exact decide_eq_false (by omega)
  · unfold repS at q hl
    split
    · rename_i h
      rw [if_pos h] at q hl
      exact ⟨hl, .str _, H, I.tok _, ⟨_, rfl⟩, q⟩
    · rename_i h
      rw [if_neg h] at q hl
      split
      · rename_i h'
        rw [if_pos h'] at q hl
        exact ⟨.str _, H, I, ⟨_, rfl⟩, q⟩
      · rename_i h'
        rw [if_neg h'] at q hl
        exact ⟨hl, .str _, H, I.tok _, ⟨_, rfl⟩, q⟩
theorem bin_mulS {x : Str} {n : Int} (h1 : x.length ≤ 1000) (h2 : -1000 ≤ n ∧ n ≤ 1000) (hl : (repS x n).length ≤ sizeLine) : BinD X T .Mult (.dat (.str x)) (.dat (.int n)) cs (.dat (.str (repS x n))) cs := ⟨_, op_mulS, fun ad F H v w Q c r1 r2 q => by
  cases r1
  cases r2
  exact ⟨x, n, rfl, rfl, h1, h2, hl, q _ H ad .refl c Rep.str⟩⟩
theorem cb_intS {x : Str} {n : Int} (h : PySem.intText? x = some n) (hl : x.length ≤ 640) : CalB X T "int" [.dat (.str x)] cs (.dat (.int n)) cs := ⟨_, _, by decide +kernel, .inr ⟨_, rfl⟩, call_int_str, fun ad F H vs Q c r q => by
  match vs, r with
  | [v], r =>
    have r1 := r.1
    cases r1
    exact ⟨x, n, rfl, h, hl, q _ H ad .refl c Rep.int⟩⟩
end
end Dl
namespace Dl
open PySem L2
abbrev Sls := List (Option Sl)
abbrev RV := Sl → List Cell → Prop
abbrev RB := Bool → List Cell → Prop
abbrev RA := List Sl → List Cell → Prop
abbrev RX := Exc → List Cell → Prop
abbrev WpE := Sls → List Cell → RV → RX → Prop
abbrev WpT := Sls → List Cell → RB → RX → Prop
abbrev WpA := Sls → List Cell → RA → RX → Prop
structure Br (b : Bool) (p q : Prop) : Prop where
  t : b = true → p
  f : b = false → q
def noX : RX := fun _ _ => False
def W0 : WX := fun _ _ _ _ => False
theorem tk0 {X : Cx} : Takes X W0 := fun u s' ⟨_, _, _, _, _, _, _, _, _, _, _, _, _, _, _, _, w⟩ => w.elim
def Raz (T : Tab) (K : PySem.W.Frag) (W : WX) (σ : St) (ad : List Addr) (F : Addr → Prop) (H : Hp) (sl : Sls) (Rx : RX) : Prop := ∀ x c cls d H' ad', Rx x c → Ext ad F H ad' H' → Hold T K ⟨sl, c⟩ ad' F σ H' → ExRep T K (Mm ad' F) H' cls d x → W cls d σ H'
theorem Raz.on {T : Tab} {K : PySem.W.Frag} {W : WX} {σ : St} {ad ad1 : List Addr} {F : Addr → Prop} {H H1 : Hp} {sl : Sls} {Rx : RX} {S : Sta} (q : Raz T K W σ ad F H sl Rx) (x1 : Ext ad F H ad1 H1) (h1 : Hold T K S ad1 F σ H1) : Raz T K W σ ad1 F H1 sl Rx := fun x c cls d H' ad' hx x2 h2 er => q x c cls d H' ad' hx (x1.trans h1.hc x2) h2 er
theorem Raz.no {T : Tab} {K : PySem.W.Frag} {W : WX} {σ : St} {ad : List Addr} {F : Addr → Prop} {H : Hp} {sl : Sls} : Raz T K W σ ad F H sl noX := fun _ _ _ _ _ _ z => z.elim
def tJ (T : Tab) (K : PySem.W.Frag) (W : WX) (w : WpE) : TE := fun σ H Q => ∃ ad F sl cs R Rx, Hold T K ⟨sl, cs⟩ ad F σ H ∧ w sl cs R Rx ∧
  (∀ s c v H' ad', R s c → Ext ad F H ad' H' → Hold T K ⟨sl, c⟩ ad' F σ H' → SlRep T K ad' F H' v s → Q v H') ∧ Raz T K W σ ad F H sl Rx
def tJT (T : Tab) (K : PySem.W.Frag) (W : WX) (w : WpT) : TT := fun σ H Q => ∃ ad F sl cs R Rx, Hold T K ⟨sl, cs⟩ ad F σ H ∧ w sl cs R Rx ∧
  (∀ b c H' ad', R b c → Ext ad F H ad' H' → Hold T K ⟨sl, c⟩ ad' F σ H' → Q b H') ∧ Raz T K W σ ad F H sl Rx
def tJA (T : Tab) (K : PySem.W.Frag) (W : WX) (w : WpA) : TA := fun σ H Q => ∃ ad F sl cs R Rx, Hold T K ⟨sl, cs⟩ ad F σ H ∧ w sl cs R Rx ∧
  (∀ ss c vs H' ad', R ss c → Ext ad F H ad' H' → Hold T K ⟨sl, c⟩ ad' F σ H' → SlReps T K ad' F H' vs ss → Q vs H') ∧ Raz T K W σ ad F H sl Rx
def JE (X : Cx) (T : Tab) (W : WX) (e : Expr) (w : WpE) : Prop := PE X e (tJ T X.K W w)
def JT (X : Cx) (T : Tab) (W : WX) (e : Expr) (w : WpT) : Prop := PT X e (tJT T X.K W w)
def JW (X : Cx) (T : Tab) (W : WX) (e : Expr) (w : WpT) : Prop := PW X e (tJT T X.K W w)
def JA (X : Cx) (T : Tab) (W : WX) (es : List Expr) (w : WpA) : Prop := PA X es (tJA T X.K W w)
abbrev W2 := Sl → Sl → List Cell → RV → Prop
abbrev W1 := Sl → List Cell → RV → Prop
def JBin (X : Cx) (T : Tab) (op : Operator) (w : W2) : Prop := ∀ s1 s2 cs R, w s1 s2 cs R → ∃ s cs', BinD X T op s1 s2 cs s cs' ∧ R s cs'
def JIop (X : Cx) (T : Tab) (op : Operator) (w : W2) : Prop := ∀ s1 s2 cs R, w s1 s2 cs R → ∃ s cs', IopD X T op s1 s2 cs s cs' ∧ R s cs'
def JCmp (X : Cx) (T : Tab) (op : CmpOp) (w : W2) : Prop := ∀ s1 s2 cs R, w s1 s2 cs R → ∃ s cs', CmpD X T op s1 s2 cs s cs' ∧ R s cs'
def JIx (X : Cx) (T : Tab) (w : W2) : Prop := ∀ s1 s2 cs R, w s1 s2 cs R → ∃ s cs', IxD X T s1 s2 cs s cs' ∧ R s cs'
def JUn (X : Cx) (T : Tab) (op : UnaryOp) (w : W1) : Prop := ∀ s1 cs R, w s1 cs R → ∃ s cs', UnD X T op s1 cs s cs' ∧ R s cs'
section
variable {X : Cx} {T : Tab}
def dats : List Sl → Option (List D)
  | [] => some []
  | .dat d :: r => (dats r).map (d :: ·)
  | .cel _ :: _ => none
theorem dats_eq : ∀ {ss : List Sl} {ds : List D}, dats ss = some ds → ss = ds.map Sl.dat
  | [], ds, h => by cases h; rfl
  | .dat d :: r, ds, h => by
    cases q : dats r with
    | none => simp [dats, q] at h
    | some l =>
      simp [dats, q] at h
      subst h
      rw [dats_eq q]
      rfl
  | .cel _ :: _, _, h => nomatch h
def wDats (ss : List Sl) (k : List D → Prop) : Prop := match dats ss with
  | some ds => k ds
  | none => False
theorem wDats_of {ss : List Sl} {k : List D → Prop} (h : wDats ss k) : ∃ ds, ss = ds.map Sl.dat ∧ k ds := by
  unfold wDats at h
  split at h
  · rename_i ds e
    exact ⟨ds, dats_eq e, h⟩
  · exact h.elim
def isB (s : Sl) (k : Bool → Prop) : Prop := match s with
  | .dat (.bl b) => k b
  | _ => False
theorem isB_of {s : Sl} {k : Bool → Prop} (h : isB s k) : ∃ b, s = .dat (.bl b) ∧ k b := by
  unfold isB at h
  split at h
  · exact ⟨_, rfl, h⟩
  · exact h.elim
def truW (s : Sl) (cs : List Cell) (k : Bool → Prop) : Prop := match s with
  | .dat (.bl b) => k b
  | .dat (.int i) => k (i != 0)
  | .dat .non => k false
  | .dat (.lst ds) => k (!ds.isEmpty)
  | .dat (.tup ds) => k (!ds.isEmpty)
  | .dat (.str x) => x.length ≤ sizeLine ∧ k ((x.length : Int) != 0)
  | .cel j => match cs[j]? with
    | some (.lst ds) => k (!ds.isEmpty)
    | some (.dct kvs) => k (!kvs.isEmpty)
    | _ => False
  | _ => False
def TruS (T : Tab) (K : PySem.W.Frag) (s : Sl) (cs : List Cell) (k : Bool) : Prop := ∀ ad F H v, HoldC T K ad F H cs → SlRep T K ad F H v s → TruV K v H k
theorem truW_of {K : PySem.W.Frag} {s : Sl} {cs : List Cell} {k : Bool → Prop} (h : truW s cs k) : ∃ b, TruS T K s cs b ∧ k b := by
  have lst : ∀ {M : Addr → Prop} {H : Hp} {vs : List V} {ds : List D}, Reps T K M H vs ds → vs.isEmpty = ds.isEmpty := fun r => by cases r <;> rfl
  unfold truW at h
  split at h
  · exact ⟨_, fun ad F H v c r => by cases r; exact rfl, h⟩
  · exact ⟨_, fun ad F H v c r => by cases r; exact rfl, h⟩
  · exact ⟨_, fun ad F H v c r => by cases r; exact rfl, h⟩
  · exact ⟨_, fun ad F H v c r => by
      cases r with
      | lst n e r => exact .inl ⟨_, .inl (.inl e), by rw [lst r]⟩, h⟩
  · exact ⟨_, fun ad F H v c r => by
      cases r with
      | tup e r => exact .inr (.inl ⟨_, e.sq, by rw [lst r]⟩), h⟩
  · exact ⟨_, fun ad F H v c r => by cases r; exact ⟨h.1, rfl⟩, h.2⟩
  · rename_i j
    split at h
    · rename_i ds e
      exact ⟨_, fun ad F H v c r => by
        obtain ⟨a, ha, rfl⟩ := r
        obtain ⟨vs, e1, r1⟩ := c.ce j a _ ha e
        exact .inl ⟨_, .inl (.inl e1), by rw [lst r1]⟩, h⟩
    · rename_i kvs e
      exact ⟨_, fun ad F H v c r => by
        obtain ⟨a, ha, rfl⟩ := r
        obtain ⟨vs, e1, hl, r1⟩ := c.ce j a _ ha e
        refine .inr (.inr ⟨_, e1, ?_⟩)
        cases kvs with
        | nil =>
          cases vs with
          | nil => rfl
          | cons v vs => cases hl
        | cons q r =>
          cases vs with
          | nil => cases hl
          | cons v vs => rfl, h⟩
    · exact h.elim
  · exact h.elim
def lstOf (cs : List Cell) : Sl → Option (List D)
  | .dat (.lst ds) => some ds
  | .cel k => match cs[k]? with
    | some (.lst ds) => some ds
    | _ => none
  | _ => none
theorem lstOf_is {cs : List Cell} {s : Sl} {ds : List D} (h : lstOf cs s = some ds) : isLst cs ds s := by
  unfold lstOf at h
  split at h
  · cases h; exact rfl
  · split at h
    · rename_i e
      cases h; exact e
    · cases h
  · cases h
def wL (cs : List Cell) (s : Sl) (k : List D → Prop) : Prop := match lstOf cs s with
  | some ds => k ds
  | none => False
theorem wL_of {cs : List Cell} {s : Sl} {k : List D → Prop} (h : wL cs s k) : ∃ ds, isLst cs ds s ∧ k ds := by
  unfold wL at h
  split at h
  · rename_i ds e
    exact ⟨ds, lstOf_is e, h⟩
  · exact h.elim
def addW : W2 := fun s1 s2 cs R => match s1, s2 with
  | .dat (.int i), .dat (.int j) => R (.dat (.int (i + j))) cs
  | .dat (.str x), .dat (.str y) => x.length + y.length ≤ sizeLine ∧ R (.dat (.str (x ++ y))) cs
  | .dat (.tup ds), .dat (.tup es) => ds.length + es.length ≤ sizeLine ∧ R (.dat (.tup (ds ++ es))) cs
  | s1, s2 => wL cs s1 fun ds => wL cs s2 fun es => ds.length + es.length ≤ sizeLine ∧ R (.dat (.lst (ds ++ es))) cs
theorem jb_add : JBin X T .Add addW := fun s1 s2 cs R h => by
  unfold addW at h
  split at h
  · exact ⟨_, _, bin_add, h⟩
  · exact ⟨_, _, bin_addS h.1, h.2⟩
  · exact ⟨_, _, bin_addT h.1, h.2⟩
  · obtain ⟨ds, h1, h⟩ := wL_of h
    obtain ⟨es, h2, h⟩ := wL_of h
    exact ⟨_, _, bin_addL h1 h2 h.1, h.2⟩
def addWC : W2 := fun s1 s2 cs R => wL cs s1 fun ds => wL cs s2 fun es => ds.length + es.length ≤ sizeLine ∧ R (.cel cs.length) (cs ++ [.lst (ds ++ es)])
def intW (C : Int → Int → Prop) (g : Int → Int → D) : W2 := fun s1 s2 cs R => match s1, s2 with
  | .dat (.int i), .dat (.int j) => C i j ∧ R (.dat (g i j)) cs
  | _, _ => False
def intW0 (g : Int → Int → D) : W2 := fun s1 s2 cs R => match s1, s2 with
  | .dat (.int i), .dat (.int j) => R (.dat (g i j)) cs
  | _, _ => False
def subW : W2 := intW0 fun i j => .int (i - j)
theorem jb_sub : JBin X T .Sub subW := fun s1 s2 cs R h => by
  unfold subW intW0 at h
  split at h
  · exact ⟨_, _, bin_sub, h⟩
  · exact h.elim
def MulC (i j : Int) : Prop := IntMulOk i j
def mulW : W2 := fun s1 s2 cs R => match s1, s2 with
  | .dat (.int i), .dat (.int j) => MulC i j ∧ R (.dat (.int (i * j))) cs
  | .dat (.str x), .dat (.int n) => x.length ≤ 1000 ∧ (-1000 ≤ n ∧ n ≤ 1000) ∧ (repS x n).length ≤ sizeLine ∧ R (.dat (.str (repS x n))) cs
  | s1, .dat (.int j) => wL cs s1 fun ds => (-(2 ^ 63) ≤ j ∧ j < 2 ^ 63 ∧ ds.length * j.toNat ≤ sizeLine) ∧ R (.dat (.lst (List.replicate j.toNat ds).flatten)) cs
  | _, _ => False
theorem jb_mul : JBin X T .Mult mulW := fun s1 s2 cs R h => by
  unfold mulW at h
  split at h
  · exact ⟨_, _, bin_mul h.1, h.2⟩
  · exact ⟨_, _, bin_mulS h.1 h.2.1 h.2.2.1, h.2.2.2⟩
  · obtain ⟨ds, h1, ⟨h2, h3, h4⟩, h⟩ := wL_of h
    exact ⟨_, _, bin_repL h1 h2 h3 h4, h⟩
  · exact h.elim
def DivC (i j : Int) : Prop := CDivW i j
def fdivW : W2 := intW DivC fun i j => .int (i / j)
theorem jb_fdiv : JBin X T .FloorDiv fdivW := fun s1 s2 cs R h => by
  unfold fdivW intW at h
  split at h
  · exact ⟨_, _, bin_fdiv h.1, h.2⟩
  · exact h.elim
def ModC (_ j : Int) : Prop := 0 < j
def modW : W2 := intW ModC fun i j => .int (i % j)
theorem jb_mod : JBin X T .Mod modW := fun s1 s2 cs R h => by
  unfold modW intW at h
  split at h
  · exact ⟨_, _, bin_mod h.1, h.2⟩
  · exact h.elim
def PowC (i j : Int) : Prop := CPow i j
def powW : W2 := intW PowC fun i j => .int (i ^ j.toNat)
theorem jb_pow : JBin X T .Pow powW := fun s1 s2 cs R h => by
  unfold powW intW at h
  split at h
  · exact ⟨_, _, bin_pow h.1, h.2⟩
  · exact h.elim
def negW : W1 := fun s1 cs R => match s1 with
  | .dat (.int i) => R (.dat (.int (-i))) cs
  | _ => False
def ltW : W2 := intW0 fun i j => .bl (decide (i < j))
def gtW : W2 := intW0 fun i j => .bl (decide (j < i))
def geW : W2 := intW0 fun i j => .bl (decide (j ≤ i))
theorem jc_lt : JCmp X T .Lt ltW := fun s1 s2 cs R h => by
  unfold ltW intW0 at h
  split at h
  · exact ⟨_, _, cmp_lt, h⟩
  · exact h.elim
theorem jc_gt : JCmp X T .Gt gtW := fun s1 s2 cs R h => by
  unfold gtW intW0 at h
  split at h
  · exact ⟨_, _, cmp_gt, h⟩
  · exact h.elim
theorem jc_ge : JCmp X T .GtE geW := fun s1 s2 cs R h => by
  unfold geW intW0 at h
  split at h
  · exact ⟨_, _, cmp_ge, h⟩
  · exact h.elim
def eqW (neg : Bool) : W2 := fun s1 s2 cs R => match s1, s2 with
  | .dat (.int i), .dat (.int j) => R (.dat (.bl (neg.xor (decide (i = j))))) cs
  | .dat (.str i), .dat (.str j) => R (.dat (.bl (neg.xor (decide (i = j))))) cs
  | .dat (.bl i), .dat (.bl j) => R (.dat (.bl (neg.xor (i == j)))) cs
  | .dat d1, .dat d2 => okD d1 = true ∧ okD d2 = true ∧ R (.dat (.bl (neg.xor (eqD d1 d2)))) cs
  | _, _ => False
theorem jc_eq (hu : X.A.units + 64 < cLine) : JCmp X T .Eq (eqW false) := fun s1 s2 cs R h => by
  unfold eqW at h
  split at h
  · exact ⟨_, _, cmp_eqI, by simpa using h⟩
  · exact ⟨_, _, cmp_eqS, by simpa using h⟩
  · exact ⟨_, _, cmp_eqB, by simpa using h⟩
  · exact ⟨_, _, cmp_eqD hu h.1 h.2.1, by simpa using h.2.2⟩
  · exact h.elim
theorem jc_ne (hu : X.A.units + 64 < cLine) : JCmp X T .NotEq (eqW true) := fun s1 s2 cs R h => by
  unfold eqW at h
  split at h
  · exact ⟨_, _, cmp_neI, by simpa using h⟩
  · exact ⟨_, _, cmp_neS, by simpa using h⟩
  · exact ⟨_, _, cmp_neB, by simpa using h⟩
  · exact ⟨_, _, cmp_neD hu h.1 h.2.1, by simpa using h.2.2⟩
  · exact h.elim
def inW' (neg : Bool) : W2 := fun s1 s2 cs R => match s1, s2 with
  | .dat d, .dat (.tup ds) => match fv d, fvs ds with
    | some v, some ws => R (.dat (.bl (neg.xor (inV v ws)))) cs
    | _, _ => False
  | _, _ => False
theorem jc_in : JCmp X T .In (inW' false) := fun s1 s2 cs R h => by
  unfold inW' at h
  split at h
  · split at h
    · rename_i h1 h2
      exact ⟨_, _, cmp_inT h1 h2, by simpa using h⟩
    · exact h.elim
  · exact h.elim
def atW (ds : List D) (i : Int) (k : D → Prop) : Prop := match atI ds i with
  | some d => k d
  | none => False
theorem atW_of {ds : List D} {i : Int} {k : D → Prop} (h : atW ds i k) : ∃ d, atI ds i = some d ∧ k d := by
  unfold atW at h
  split at h
  · exact ⟨_, ‹_›, h⟩
  · exact h.elim
theorem atW_i {ds : List D} {i : Int} {k : D → Prop} {d : D} (e : atI ds i = some d) (h : k d) : atW ds i k := by
  unfold atW
  rw [e]
  exact h
def ixW : W2 := fun s1 s2 cs R => match s1, s2 with
  | .dat (.lst ds), .dat (.int i) => atW ds i fun d => R (.dat d) cs
  | .dat (.tup ds), .dat (.int i) => atW ds i fun d => R (.dat d) cs
  | .dat (.scr ds), .dat (.int i) => atW ds i fun d => R (.dat d) cs
  | .dat (.str x), .dat (.int i) => x.length ≤ sizeLine ∧ ∃ c, atI x.cps.toList i = some c ∧ R (.dat (.str ⟨#[c]⟩)) cs
  | .cel k, .dat (.int i) => match cs[k]? with
    | some (.lst ds) => atW ds i fun d => R (.dat d) cs
    | _ => False
  | _, _ => False
theorem ji_ix : JIx X T ixW := fun s1 s2 cs R h => by
  unfold ixW at h
  split at h
  · obtain ⟨d, e, h⟩ := atW_of h; exact ⟨_, _, ix_L e, h⟩
  · obtain ⟨d, e, h⟩ := atW_of h; exact ⟨_, _, ix_T e, h⟩
  · obtain ⟨d, e, h⟩ := atW_of h; exact ⟨_, _, ix_R e, h⟩
  · obtain ⟨hl, c, e, h⟩ := h; exact ⟨_, _, ix_S hl e, h⟩
  · split at h
    · rename_i e
      obtain ⟨d, e1, h⟩ := atW_of h; exact ⟨_, _, ix_C e e1, h⟩
    · exact h.elim
  · exact h.elim
def slcW (s1 : Sl) (l u : Option Int) (cs : List Cell) (R : RV) : Prop := match s1 with
  | .dat (.tup ds) => R (.dat (.tup (cutD ds l u))) cs
  | s1 => wL cs s1 fun ds => R (.dat (.lst (cutD ds l u))) cs
abbrev WC := List Sl → List Cell → RV → Prop
structure JCall (X : Cx) (T : Tab) (x : Str) (w : WC) : Prop where
  bo : ∃ u, bootBuiltins x = some u ∧ ((∃ id, u = .builtin id) ∨ ∃ id, u = .type id)
  run : ∀ ss cs R, w ss cs R → ∃ s cs', CalB X T x ss cs s cs' ∧ R s cs'
def lenW : WC := fun ss cs R => match ss with
  | [.dat (.tup ds)] => R (.dat (.int ds.length)) cs
  | [.dat (.scr ds)] => R (.dat (.int ds.length)) cs
  | [.dat (.str x)] => x.length ≤ sizeLine ∧ R (.dat (.int x.length)) cs
  | [s] => wL cs s fun ds => R (.dat (.int ds.length)) cs
  | _ => False
theorem jc_len : JCall X T "len" lenW := ⟨⟨_, PySem.boot_len, .inl ⟨_, rfl⟩⟩, fun ss cs R h => by
  unfold lenW at h
  split at h
  · exact ⟨_, _, cb_lenT, h⟩
  · exact ⟨_, _, cb_lenR, h⟩
  · exact ⟨_, _, cb_lenS h.1, h.2⟩
  · obtain ⟨ds, h1, h⟩ := wL_of h
    exact ⟨_, _, cb_len h1, h⟩
  · exact h.elim⟩
def intW1 : WC := fun ss cs R => match ss with
  | [.dat (.int i)] => R (.dat (.int i)) cs
  | [.dat (.bl k)] => R (.dat (.int (if k then 1 else 0))) cs
  | [.dat (.str x)] => x.length ≤ 640 ∧ ∃ n, PySem.intText? x = some n ∧ R (.dat (.int n)) cs
  | _ => False
theorem jc_int : JCall X T "int" intW1 := ⟨⟨.type "int", by decide +kernel, .inr ⟨_, rfl⟩⟩, fun ss cs R h => by
  unfold intW1 at h
  split at h
  · exact ⟨_, _, cb_int, h⟩
  · exact ⟨_, _, cb_intB, h⟩
  · obtain ⟨hl, n, e, h⟩ := h; exact ⟨_, _, cb_intS e hl, h⟩
  · exact h.elim⟩
def listW : WC := fun ss cs R => match ss with
  | [.dat (.tup ds)] => R (.dat (.lst ds)) cs
  | [s] => wL cs s fun ds => R (.dat (.lst ds)) cs
  | _ => False
theorem jc_list : JCall X T "list" listW := ⟨⟨.type "list", by decide +kernel, .inr ⟨_, rfl⟩⟩, fun ss cs R h => by
  unfold listW at h
  split at h
  · exact ⟨_, _, cb_lstT, h⟩
  · obtain ⟨ds, h1, h⟩ := wL_of h
    exact ⟨_, _, cb_lstL h1, h⟩
  · exact h.elim⟩
def listWC : WC := fun ss cs R => match ss with
  | [.dat (.tup ds)] => R (.cel cs.length) (cs ++ [.lst ds])
  | [s] => wL cs s fun ds => R (.cel cs.length) (cs ++ [.lst ds])
  | _ => False
theorem jc_listC : JCall X T "list" listWC := ⟨⟨.type "list", by decide +kernel, .inr ⟨_, rfl⟩⟩, fun ss cs R h => by
  unfold listWC at h
  split at h
  · exact ⟨_, _, cb_lstTC, h⟩
  · obtain ⟨ds, h1, h⟩ := wL_of h
    exact ⟨_, _, cb_lstLC h1, h⟩
  · exact h.elim⟩
end
end Dl
namespace Dl
open PySem L2
section
variable {X : Cx} {T : Tab} {W : WX} {a b c e o : Expr} {es : List Expr} {pos p p2 : Pos} {wa wb w : WpE} {wt wt1 wt2 : WpT} {wA : WpA} {i : Int} {rest : List Expr} {lo hi : Option Expr}
theorem je_of (h : ∀ sl cs (R : RV) Rx, w sl cs R Rx → ∃ s cs', DE X T ⟨sl, cs⟩ e s ⟨sl, cs'⟩ ∧ R s cs') : JE X T W e w := ⟨fun pins s σ H Q I ⟨ad, F, sl, cs, R, Rx, h0, hw, q, qx⟩ => by
  obtain ⟨s, cs', d, hR⟩ := h sl cs R Rx hw
  exact d.run pins _ σ H Q I ⟨ad, F, h0, fun v H' ad' x1 h1 r1 => q s cs' v H' ad' hR x1 h1 r1⟩⟩
def wName (i : Nat) : WpE := fun sl cs R _ => match sl[i]? with
  | some (some s) => R s cs
  | _ => False
theorem je_name (i : Nat) {x : Str} (hN : X.N[i]? = some x := by rfl) (hv : Vis X.env.scope x := by first | exact Or.inl rfl | exact Or.inr (Or.inl rfl) | exact Or.inr (Or.inr rfl)) (hd : (x == ("__debug__" : Str)) = false := by decide)
    (hcd : (x == ("__classdict__" : Str)) = false := by decide) : JE X T W (.Name x pos) (wName i) := je_of fun sl cs R Rx h => by
  unfold wName at h
  split at h
  · rename_i s e
    exact ⟨s, cs, de_name i e hN hv hd hcd, h⟩
  · exact h.elim
def wCon (d : D) : WpE := fun _ cs R _ => R (.dat d) cs
theorem je_int {k : Nat} : JE X T W (.Constant (.int i) k pos) (wCon (.int i)) := je_of fun sl cs R Rx h => ⟨_, cs, de_int, h⟩
theorem je_bl {b : Bool} {k : Nat} : JE X T W (.Constant (.bool b) k pos) (wCon (.bl b)) := je_of fun sl cs R Rx h => ⟨_, cs, de_bl, h⟩
theorem je_non {k : Nat} : JE X T W (.Constant .none k pos) (wCon .non) := je_of fun sl cs R Rx h => ⟨_, cs, de_non, h⟩
theorem je_str {x : Str} {k : Nat} : JE X T W (.Constant (.str x) k pos) (wCon (.str x)) := je_of fun sl cs R Rx h => ⟨_, cs, de_str, h⟩
theorem opAll {f : Value → Value → Sem Value} : OpR X f (fun x y H Q => ∃ r, OpR X f r ∧ r x y H Q) := fun pins s σ H x y v u Q I rx ry ⟨r, o, h⟩ => o pins s σ H x y v u Q I rx ry h
theorem ixAll : IxR X (fun x y H Q => ∃ r, IxR X r ∧ r x y H Q) := fun v1 v2 pins s σ H x y v u Q I rx ry ⟨r, o, h⟩ => o v1 v2 pins s σ H x y v u Q I rx ry h
theorem callAll {f : Value} : CallR X f (fun xs H Q => ∃ r, CallR X f r ∧ r xs H Q) := fun pins s σ H xs us Q I rx ⟨r, o, h⟩ => o pins s σ H xs us Q I rx h
def wTwo (wa wb : WpE) (o : W2) : WpE := fun sl cs R Rx => wa sl cs (fun s1 c1 => wb sl c1 (fun s2 c2 => o s1 s2 c2 R) Rx) Rx
def wOne (wa : WpE) (o : W1) : WpE := fun sl cs R Rx => wa sl cs (fun s1 c1 => o s1 c1 R) Rx
theorem je_bin {op : Operator} {ow : W2} (ho : JBin X T op ow) (ha : JE X T W a wa) (hb : JE X T W b wb) : JE X T W (.BinOp a op b pos) (wTwo wa wb ow) :=
  weak (pe_op opAll ha hb) fun σ H Q ⟨ad, F, sl, cs, R, Rx, h0, hw, q, qx⟩ => ⟨ad, F, sl, cs, _, Rx, h0, hw, fun s1 c1 v H1 ad1 hw1 x1 h1 r1 => ⟨ad1, F, sl, c1, _, Rx, h1, hw1, fun s2 c2 v2 H2 ad2 hw2 x2 h2 r2 => by
    obtain ⟨s, c3, ⟨r, o1, o2⟩, hR⟩ := ho _ _ _ _ hw2
    exact ⟨r, o1, o2 ad2 F H2 v v2 Q h2.hc (r1.ext x2) r2 fun z H3 ad3 x3 k3 r3 => q s c3 z H3 ad3 hR (x1.trans h1.hc (x2.trans h2.hc x3)) (h2.to x3 k3) r3⟩, qx.on x1 h1⟩, qx⟩
theorem je_cmp {op : CmpOp} {ow : W2} (ho : JCmp X T op ow) (ha : JE X T W a wa) (hb : JE X T W b wb) (hm : behindInMarks op b = false := by first | exact nomark _ | rfl) : JE X T W (.Compare a [op] [b] pos) (wTwo wa wb ow) :=
  weak (pe_cmpR opAll ha hb hm) fun σ H Q ⟨ad, F, sl, cs, R, Rx, h0, hw, q, qx⟩ => ⟨ad, F, sl, cs, _, Rx, h0, hw, fun s1 c1 v H1 ad1 hw1 x1 h1 r1 => ⟨ad1, F, sl, c1, _, Rx, h1, hw1, fun s2 c2 v2 H2 ad2 hw2 x2 h2 r2 => by
    obtain ⟨s, c3, ⟨r, o1, o2⟩, hR⟩ := ho _ _ _ _ hw2
    exact ⟨r, o1, o2 ad2 F H2 v v2 Q h2.hc (r1.ext x2) r2 fun z H3 ad3 x3 k3 r3 => q s c3 z H3 ad3 hR (x1.trans h1.hc (x2.trans h2.hc x3)) (h2.to x3 k3) r3⟩, qx.on x1 h1⟩, qx⟩
theorem je_sub {ow : W2} (ho : JIx X T ow) (ha : JE X T W a wa) (hb : JE X T W b wb) (hp : PlainIx b := by intro _ _; rfl) : JE X T W (.Subscript a b pos) (wTwo wa wb ow) :=
  weak (pe_ix ixAll ha hb hp) fun σ H Q ⟨ad, F, sl, cs, R, Rx, h0, hw, q, qx⟩ => ⟨ad, F, sl, cs, _, Rx, h0, hw, fun s1 c1 v H1 ad1 hw1 x1 h1 r1 => ⟨ad1, F, sl, c1, _, Rx, h1, hw1, fun s2 c2 v2 H2 ad2 hw2 x2 h2 r2 => by
    obtain ⟨s, c3, ⟨r, o1, o2⟩, hR⟩ := ho _ _ _ _ hw2
    exact ⟨r, o1, o2 ad2 F H2 v v2 Q h2.hc (r1.ext x2) r2 fun z H3 ad3 x3 k3 r3 => q s c3 z H3 ad3 hR (x1.trans h1.hc (x2.trans h2.hc x3)) (h2.to x3 k3) r3⟩, qx.on x1 h1⟩, qx⟩
def wNil : WpA := fun sl cs R _ => R [] cs
def wCons (wa : WpE) (wA : WpA) : WpA := fun sl cs R Rx => wa sl cs (fun s c1 => wA sl c1 (fun ss c2 => R (s :: ss) c2) Rx) Rx
theorem ja_nil : JA X T W [] wNil := weakA pa_nil fun σ H Q ⟨ad, F, sl, cs, R, Rx, h0, hw, q, qx⟩ => q [] cs [] H ad hw .refl h0 trivial
theorem ja_cons (ha : JE X T W e w) (hr : JA X T W es wA) (hs : starEach (e :: es) X.env = (false, eval e X.env) :: starEach es X.env := by rfl) : JA X T W (e :: es) (wCons w wA) :=
  weakA (pa_cons ha hr hs) fun σ H Q ⟨ad, F, sl, cs, R, Rx, h0, hw, q, qx⟩ => ⟨ad, F, sl, cs, _, Rx, h0, hw, fun s1 c1 v H1 ad1 hw1 x1 h1 r1 => ⟨ad1, F, sl, c1, _, Rx, h1, hw1, fun ss c2 vs H2 ad2 hw2 x2 h2 r2 => q _ c2 _ H2 ad2 hw2 (x1.trans h1.hc x2) h2 ⟨r1.ext x2, r2⟩, qx.on x1 h1⟩, qx⟩
def wTup (wA : WpA) : WpE := fun sl cs R Rx => wA sl cs (fun ss c1 => wDats ss fun ds => ds.length ≤ sizeLine ∧ R (.dat (.tup ds)) c1) Rx
theorem je_tup {k : Nat} (ha : JA X T W es wA) : JE X T W (.Tuple es k pos) (wTup wA) :=
  weak (pe_tup ha) fun σ H Q ⟨ad, F, sl, cs, R, Rx, h0, hw, q, qx⟩ => ⟨ad, F, sl, cs, _, Rx, h0, hw, fun ss c1 vs H1 ad1 hw1 x1 h1 r1 => by
    obtain ⟨ds, rfl, hl, hR⟩ := wDats_of hw1
    refine ⟨by rw [r1.dats.length]; exact hl, fun p hp => ?_⟩
    obtain ⟨c, x2⟩ := h1.hc.newo (o := .tup vs) hp
    exact q _ c1 _ _ ad1 hR (x1.trans h1.hc x2) (h1.to x2 c) (.tup (vs := vs) (.inl ⟨h1.hc.new hp, .inl upd_same⟩) (r1.dats.kp x2.kp)), qx⟩
def wLst (wA : WpA) : WpE := fun sl cs R Rx => wA sl cs (fun ss c1 => wDats ss fun ds => ds.length ≤ sizeLine ∧ R (.dat (.lst ds)) c1) Rx
theorem je_lst (ha : JA X T W es wA) : JE X T W (.List es pos) (wLst wA) :=
  weak (pe_lst ha) fun σ H Q ⟨ad, F, sl, cs, R, Rx, h0, hw, q, qx⟩ => ⟨ad, F, sl, cs, _, Rx, h0, hw, fun ss c1 vs H1 ad1 hw1 x1 h1 r1 => by
    obtain ⟨ds, rfl, hl, hR⟩ := wDats_of hw1
    exact ⟨by rw [r1.dats.length]; exact hl, fun p hp => new_lst h1.hc r1.dats (fun z H' ad' x2 k2 r2 => q _ c1 z H' ad' hR (x1.trans h1.hc x2) (h1.to x2 k2) r2) hp⟩, qx⟩
def wLstC (wA : WpA) : WpE := fun sl cs R Rx => wA sl cs (fun ss c1 => wDats ss fun ds => ds.length ≤ sizeLine ∧ R (.cel c1.length) (c1 ++ [.lst ds])) Rx
theorem je_lstC (ha : JA X T W es wA) : JE X T W (.List es pos) (wLstC wA) :=
  weak (pe_lst ha) fun σ H Q ⟨ad, F, sl, cs, R, Rx, h0, hw, q, qx⟩ => ⟨ad, F, sl, cs, _, Rx, h0, hw, fun ss c1 vs H1 ad1 hw1 x1 h1 r1 => by
    obtain ⟨ds, rfl, hl, hR⟩ := wDats_of hw1
    exact ⟨by rw [r1.dats.length]; exact hl, fun p hp => new_lstC h1.hc r1.dats (fun z H' ad' x2 k2 r2 => q _ _ z H' ad' hR (x1.trans h1.hc x2) (h1.to x2 k2) r2) hp⟩, qx⟩
def wTru (w : WpE) : WpT := fun sl cs R Rx => w sl cs (fun s c => truW s c fun b => R b c) Rx
theorem jt_val (h : JE X T W e w) (he : ∀ whole, isTrue e X.env whole = (do let v ← whole; standAt e.pos; holding [v] (truthy v)) := by intro _; rfl) : JT X T W e (wTru w) :=
  weakT (pt_truth h he) fun σ H Q ⟨ad, F, sl, cs, R, Rx, h0, hw, q, qx⟩ => ⟨ad, F, sl, cs, _, Rx, h0, hw, fun s1 c1 v H1 ad1 hw1 x1 h1 r1 => by
    obtain ⟨b, tb, hR⟩ := truW_of (T := T) (K := X.K) hw1
    exact ⟨b, tb ad1 F H1 v h1.hc r1, q b c1 H1 ad1 hR x1 h1⟩, qx⟩
def wBl (w : WpE) : WpT := fun sl cs R Rx => w sl cs (fun s c => isB s fun b => R b c) Rx
theorem jt_cmp {op : CmpOp} {ow : W2} (ho : JCmp X T op ow) (ha : JE X T W a wa) (hb : JE X T W b wb) (hm : behindInMarks op b = false := by first | exact nomark _ | rfl) : JT X T W (.Compare a [op] [b] pos) (wBl (wTwo wa wb ow)) :=
  weakT (pt_cmpR opAll ha hb hm) fun σ H Q ⟨ad, F, sl, cs, R, Rx, h0, hw, q, qx⟩ => ⟨ad, F, sl, cs, _, Rx, h0, hw, fun s1 c1 v H1 ad1 hw1 x1 h1 r1 => ⟨ad1, F, sl, c1, _, Rx, h1, hw1, fun s2 c2 v2 H2 ad2 hw2 x2 h2 r2 => by
    obtain ⟨s, c3, ⟨r, o1, o2⟩, hR⟩ := ho _ _ _ _ hw2
    obtain ⟨k, rfl, hR⟩ := isB_of hR
    refine ⟨r, o1, o2 ad2 F H2 v v2 _ h2.hc (r1.ext x2) r2 fun z H3 ad3 x3 k3 r3 => ?_⟩
    cases r3
    exact ⟨k, rfl, q k c3 H3 ad3 hR (x1.trans h1.hc (x2.trans h2.hc x3)) (h2.to x3 k3)⟩, qx.on x1 h1⟩, qx⟩
def wNotT (wt : WpT) : WpT := fun sl cs R Rx => wt sl cs (fun b c => R (!b) c) Rx
theorem jt_not (h : JT X T W a wt) : JT X T W (.UnaryOp .Not a pos) (wNotT wt) := weakT (pt_not h) fun σ H Q ⟨ad, F, sl, cs, R, Rx, h0, hw, q, qx⟩ => ⟨ad, F, sl, cs, _, Rx, h0, hw, fun b c1 H1 ad1 hw1 x1 h1 => q _ c1 H1 ad1 hw1 x1 h1, qx⟩
theorem JW.jt (h : JW X T W e wt) : JT X T W e wt := PW.pt h
theorem jw_and1 (h : JT X T W a wt) : JW X T W (.BoolOp .And [a] pos) wt := pw_and1 h
theorem jw_or1 (h : JT X T W a wt) : JW X T W (.BoolOp .Or [a] pos) wt := pw_or1 h
def wAndT (w1 w2 : WpT) : WpT := fun sl cs R Rx => w1 sl cs (fun k c => Br k (w2 sl c R Rx) (R false c)) Rx
def wOrT (w1 w2 : WpT) : WpT := fun sl cs R Rx => w1 sl cs (fun k c => Br k (R true c) (w2 sl c R Rx)) Rx
theorem jw_and (ha : JT X T W a wt1) (hb : JW X T W (.BoolOp .And (b :: rest) pos) wt2) : JW X T W (.BoolOp .And (a :: b :: rest) pos) (wAndT wt1 wt2) :=
  weakW (pw_and ha hb) fun σ H Q ⟨ad, F, sl, cs, R, Rx, h0, hw, q, qx⟩ => ⟨ad, F, sl, cs, _, Rx, h0, hw, fun k c1 H1 ad1 hw1 x1 h1 => by
    cases k with
    | true => exact iteT ⟨ad1, F, sl, c1, _, Rx, h1, hw1.t rfl, fun k c2 H2 ad2 hw2 x2 h2 => q k c2 H2 ad2 hw2 (x1.trans h1.hc x2) h2, qx.on x1 h1⟩
    | false => exact iteF (q false c1 H1 ad1 (hw1.f rfl) x1 h1), qx⟩
theorem jw_or (ha : JT X T W a wt1) (hb : JW X T W (.BoolOp .Or (b :: rest) pos) wt2) : JW X T W (.BoolOp .Or (a :: b :: rest) pos) (wOrT wt1 wt2) :=
  weakW (pw_or ha hb) fun σ H Q ⟨ad, F, sl, cs, R, Rx, h0, hw, q, qx⟩ => ⟨ad, F, sl, cs, _, Rx, h0, hw, fun k c1 H1 ad1 hw1 x1 h1 => by
    cases k with
    | false => exact iteF ⟨ad1, F, sl, c1, _, Rx, h1, hw1.f rfl, fun k c2 H2 ad2 hw2 x2 h2 => q k c2 H2 ad2 hw2 (x1.trans h1.hc x2) h2, qx.on x1 h1⟩
    | true => exact iteT (q true c1 H1 ad1 (hw1.t rfl) x1 h1), qx⟩
theorem je_one {op} (h : JE X T W a w) : JE X T W (.BoolOp op [a] pos) w := pe_one h
def wAndV (w1 w2 : WpE) : WpE := fun sl cs R Rx => w1 sl cs (fun s c => isB s fun k => Br k (w2 sl c R Rx) (R (.dat (.bl false)) c)) Rx
theorem je_and (ha : JE X T W a wa) (hb : JE X T W (.BoolOp .And (b :: rest) pos) wb) : JE X T W (.BoolOp .And (a :: b :: rest) pos) (wAndV wa wb) :=
  weak (pe_and ha hb) fun σ H Q ⟨ad, F, sl, cs, R, Rx, h0, hw, q, qx⟩ => ⟨ad, F, sl, cs, _, Rx, h0, hw, fun s1 c1 v H1 ad1 hw1 x1 h1 r1 => by
    have hw2 := isB_of hw1
    clear hw1
    obtain ⟨k, e0, hw1⟩ := hw2
    subst e0
    cases r1
    refine ⟨k, rfl, ?_⟩
    cases k with
    | true => exact iteT ⟨ad1, F, sl, c1, _, Rx, h1, hw1.t rfl, fun s2 c2 v2 H2 ad2 hw2 x2 h2 r2 => q s2 c2 v2 H2 ad2 hw2 (x1.trans h1.hc x2) h2 r2, qx.on x1 h1⟩
    | false => exact iteF (q _ c1 _ H1 ad1 (hw1.f rfl) x1 h1 Rep.bl), qx⟩
def wIf (wt : WpT) (wa wb : WpE) : WpE := fun sl cs R Rx => wt sl cs (fun k c => Br k (wa sl c R Rx) (wb sl c R Rx)) Rx
theorem je_if (hc : JT X T W c wt) (ha : JE X T W a wa) (hb : JE X T W b wb) : JE X T W (.IfExp c a b pos) (wIf wt wa wb) :=
  weak (pe_ifExp hc ha hb) fun σ H Q ⟨ad, F, sl, cs, R, Rx, h0, hw, q, qx⟩ => ⟨ad, F, sl, cs, _, Rx, h0, hw, fun k c1 H1 ad1 hw1 x1 h1 => by
    cases k with
    | true => exact iteT ⟨ad1, F, sl, c1, _, Rx, h1, hw1.t rfl, fun s2 c2 v2 H2 ad2 hw2 x2 h2 r2 => q s2 c2 v2 H2 ad2 hw2 (x1.trans h1.hc x2) h2 r2, qx.on x1 h1⟩
    | false => exact iteF ⟨ad1, F, sl, c1, _, Rx, h1, hw1.f rfl, fun s2 c2 v2 H2 ad2 hw2 x2 h2 r2 => q s2 c2 v2 H2 ad2 hw2 (x1.trans h1.hc x2) h2 r2, qx.on x1 h1⟩, qx⟩
abbrev WpO := Sls → List Cell → (Option Int → List Cell → Prop) → RX → Prop
def wO0 : WpO := fun _ cs R _ => R none cs
def wO1 (w : WpE) : WpO := fun sl cs R Rx => w sl cs (fun s c => match s with
  | .dat (.int i) => R (some i) c
  | _ => False) Rx
def wCb (wA : WpA) (cw : WC) : WpE := fun sl cs R Rx => wA sl cs (fun ss c1 => cw ss c1 R) Rx
theorem cb_then {x : Str} {cw : WC} {u : Value} (hJ : JCall X T x cw) (hu : bootBuiltins x = some u) {σ : St} {H : Hp} {Q : VK} (h : tJ T X.K W (wCb wA cw) σ H Q) : tCB (fun xs H Q => ∃ r, CallR X u r ∧ r xs H Q) (tJA T X.K W wA) σ H Q := by
  obtain ⟨ad, F, sl, cs, R, Rx, h0, hw, q, qx⟩ := h
  refine ⟨ad, F, sl, cs, _, Rx, h0, hw, fun ss c1 vs H1 ad1 hw1 x1 h1 r1 => ?_, qx⟩
  obtain ⟨s, c2, ⟨u', r, e1, _, o1, o2⟩, hR⟩ := hJ.run _ _ _ hw1
  rw [hu] at e1
  cases e1
  exact ⟨r, o1, o2 ad1 F H1 vs Q h1.hc r1 fun z H3 ad3 x3 k3 r3 => q s c2 z H3 ad3 hR (x1.trans h1.hc x3) (h1.to x3 k3) r3⟩
theorem je_cb {x : Str} {cw : WC} (hm : X.mg x = none) (hJ : JCall X T x cw) (ha : JA X T W (e :: es) wA) (hg : Gl X x := by rfl) (hn : x ≠ "__name__" := by decide) (hdb : (x == ("__debug__" : Str)) = false := by decide)
    (he : starEach (e :: es) X.env = (false, eval e X.env) :: starEach es X.env := by rfl) (hpl : (backTo pos (starEach es X.env)).any (·.1) = false := by rfl) : JE X T W (.Call (.Name x p) (e :: es) [] pos) (wCb wA cw) := by
  obtain ⟨u, hv, ⟨id, rfl⟩ | ⟨id, rfl⟩⟩ := hJ.bo
  · exact weak (pe_callB callAll hg hm hv ha hn hdb he hpl) fun σ H Q z => cb_then hJ hv z
  · exact weak (pe_callTy callAll hg hm hv ha hn hdb he hpl) fun σ H Q z => cb_then hJ hv z
end
end Dl
namespace Dl
open PySem L2
def cells1 : List Sl → Option (Option Nat)
  | [] => some none
  | .dat _ :: r => cells1 r
  | .cel k :: r => match cells1 r with
    | some none => some (some k)
    | some (some j) => if j == k then some (some k) else none
    | none => none
theorem cells1_none : ∀ {ss : List Sl}, cells1 ss = some none → ∃ ds : List D, ss = ds.map Sl.dat
  | [], _ => ⟨[], rfl⟩
  | .dat d :: r, h => let ⟨ds, e⟩ := cells1_none (ss := r) h; ⟨d :: ds, by rw [e]; rfl⟩
  | .cel k :: r, h => by
    unfold cells1 at h
    split at h
    · cases h
    · split at h <;> cases h
    · cases h
theorem cells1_dat (k : Nat) : ∀ {ss : List Sl}, cells1 ss = some none → ss.all (onlyCell k) = true
  | [], _ => rfl
  | .dat d :: r, h => by rw [List.all_cons, cells1_dat k (ss := r) h]; rfl
  | .cel k :: r, h => by
    unfold cells1 at h
    split at h
    · cases h
    · split at h <;> cases h
    · cases h
theorem cells1_some {k : Nat} : ∀ {ss : List Sl}, cells1 ss = some (some k) → ss.all (onlyCell k) = true
  | .dat d :: r, h => by rw [List.all_cons, cells1_some (ss := r) h]; rfl
  | .cel j :: r, h => by
    rw [List.all_cons]
    unfold cells1 at h
    split at h
    · rename_i e
      cases h
      rw [cells1_dat k e]
      simp [onlyCell]
    · rename_i m e
      split at h
      · rename_i q
        cases h
        have q := beq_iff_eq.mp q
        subst q
        rw [cells1_some (ss := r) e]
        simp [onlyCell]
      · cases h
    · cases h
def aft (s : Sl) (cs0 cs : List Cell) (R : RV) : Prop := match s, cs0 with
  | .dat d, [] => R (.dat d) cs
  | .cel 0, [c0] => R (.cel cs.length) (cs ++ [c0])
  | _, _ => False
def callW (c : Ct) (ss : List Sl) (cs : List Cell) (R : RV) : Prop := match cells1 ss with
  | some none => ∃ s cs0, c ss [] s cs0 ∧ aft s cs0 cs R
  | some (some k) => match cs[k]? with
    | some c0 => ∃ d c1, c (ss.map low) [c0] (.dat d) [c1] ∧ R (.dat d) (cs.set k c1)
    | none => False
  | none => False
section
variable {X : Cx} {T : Tab} {W : WX} {a b e o : Expr} {es : List Expr} {kws : List Keyword} {pos p apos : Pos} {wa wb w wo : WpE} {wA wB : WpA} {c : Ct} {cx : CtX} {k : Nat} {f : Addr} {fd : FuncData} {ps ks : List Str} {y m : Str} {C g : Addr} {fn : List Str} {cn : Nat}
theorem callW_then {K : PySem.W.Frag} {ad : List Addr} {F : Addr → Prop} {H : Hp} {cs : List Cell} {vs : List V} {ss : List Sl} {R : RV} {Q : VK} {E : XK} (h : HoldC T K ad F H cs) (r : SlReps T K ad F H vs ss) (hw : callW c ss cs R)
    (q : ∀ s c' v H' ad', R s c' → Ext ad F H ad' H' → HoldC T K ad' F H' c' → SlRep T K ad' F H' v s → Q v H') : spC T K c vs H Q E := by
  unfold callW at hw
  split at hw
  · rename_i q1
    obtain ⟨ds, rfl⟩ := cells1_none q1
    obtain ⟨s, cs0, hc, hw⟩ := hw
    unfold aft at hw
    split at hw
    · exact spC0 hc h r fun v H' x2 c2 r2 => q _ _ v H' ad hw x2 c2 r2
    · exact spCN hc h r fun v H' a x2 c2 e => q _ _ v H' _ hw x2 c2 ⟨a, by rw [← h.ln, List.getElem?_append_right (Nat.le_refl _), Nat.sub_self]; rfl, e⟩
    · exact hw.elim
  · rename_i j q1
    split at hw
    · rename_i c0 e0
      obtain ⟨d, cc, hc, hw⟩ := hw
      exact spC1 e0 (cells1_some q1) hc h r fun v H' x2 c2 r2 => q _ _ v H' ad hw x2 c2 r2
    · exact hw.elim
  · exact hw.elim
def wFn (c : Ct) (wA : WpA) : WpE := fun sl cs R Rx => wA sl cs (fun ss c1 => callW c ss c1 R) Rx
theorem je_call (G : FnOk X.prog X.w X.K X.mg X.base CX0 k f fd ps (spC T X.K c)) (hr : Room k X.A) (hm : X.mg y = some (.ref f)) (hk : PySem.W.keepIn X.K (.ref f) = true) (hb : Binds X.K fd ps []) (ha : JA X T W (e :: es) wA) (hg : Gl X y := by rfl) (hdb : (y == ("__debug__" : Str)) = false := by decide)
    (he : starEach (e :: es) X.env = (false, eval e X.env) :: starEach es X.env := by rfl) (hpl : (backTo pos (starEach es X.env)).any (·.1) = false := by rfl) : JE X T W (.Call (.Name y p) (e :: es) [] pos) (wFn c wA) :=
  weak (pe_call G hr hg hm hk hb .nil pass0 ha hdb he hpl) fun σ H Q ⟨ad, F, sl, cs, R, Rx, h0, hw, q, qx⟩ => ⟨ad, F, sl, cs, _, Rx, h0, hw, fun ss c1 vs H1 ad1 hw1 x1 h1 r1 => by
    show spC T X.K c (vs ++ []) H1 Q E0
    rw [List.append_nil]
    exact callW_then h1.hc r1 hw1 fun s c' v H' ad' hR x2 k2 r2 => q s c' v H' ad' hR (x1.trans h1.hc x2) (h1.to x2 k2) r2, qx⟩
theorem look_zip {K : PySem.W.Frag} {M : Addr → Prop} {H : Hp} {d : D} : ∀ {fs : List (Str × D)} {vs : List V}, fs.lookup m = some d → Reps T K M H vs (fs.map (·.2)) → ∃ v, ((fs.map (·.1)).zip vs).lookup m = some v ∧ Rep T K M H v d
  | [], _, h, _ => nomatch h
  | (g, d') :: fs, _, h, .cons (v := v) (vs := vs) r rs => by
    rw [List.lookup_cons] at h
    show ∃ w, ((g, v) :: (fs.map (·.1)).zip vs).lookup m = some w ∧ _
    rw [List.lookup_cons]
    cases q : m == g with
    | true =>
      rw [q] at h
      cases h
      exact ⟨v, rfl, r⟩
    | false =>
      rw [q] at h
      exact look_zip h rs
def JK (X : Cx) (T : Tab) (W : WX) (kws : List Keyword) (w : WpA) : Prop := PK X kws (tJA T X.K W w)
theorem jk_nil : JK X T W [] wNil := weakK pk_nil fun σ H Q ⟨ad, F, sl, cs, R, Rx, h0, hw, q, qx⟩ => q [] cs [] H ad hw .refl h0 trivial
theorem jk_cons {nm : Option Str} {kpos : Pos} (ha : JE X T W e w) (hr : JK X T W kws wA) : JK X T W (⟨nm, e, kpos⟩ :: kws) (wCons w wA) :=
  weakK (pk_cons ha hr) fun σ H Q ⟨ad, F, sl, cs, R, Rx, h0, hw, q, qx⟩ => ⟨ad, F, sl, cs, _, Rx, h0, hw, fun s1 c1 v H1 ad1 hw1 x1 h1 r1 => ⟨ad1, F, sl, c1, _, Rx, h1, hw1, fun ss c2 vs H2 ad2 hw2 x2 h2 r2 => q _ c2 _ H2 ad2 hw2 (x1.trans h1.hc x2) h2 ⟨r1.ext x2, r2⟩, qx.on x1 h1⟩, qx⟩
def selW (P : Sl → Sl → Bool) (v w : W2) : W2 := fun s1 s2 cs R => match P s1 s2 with
  | true => v s1 s2 cs R
  | false => w s1 s2 cs R
theorem jc_sel {op : CmpOp} {P : Sl → Sl → Bool} {v w : W2} (h1 : ∀ s1 s2 cs R, P s1 s2 = true → v s1 s2 cs R → ∃ s cs', CmpD X T op s1 s2 cs s cs' ∧ R s cs') (h2 : JCmp X T op w) : JCmp X T op (selW P v w) := fun s1 s2 cs R h => by
  unfold selW at h
  split at h
  · exact h1 s1 s2 cs R ‹_› h
  · exact h2 s1 s2 cs R h
variable {op : Operator} {w2 : W2}
end
end Dl
namespace Dl
open PySem L2
abbrev WpI := Sls → List Cell → (List D → List Cell → Prop) → RX → Prop
def tJI (T : Tab) (K : PySem.W.Frag) (W : WX) (w : WpI) : TI := fun σ H Q => ∃ ad F sl cs R Rx, Hold T K ⟨sl, cs⟩ ad F σ H ∧ w sl cs R Rx ∧
  (∀ items c J H' ad', R items c → Ext ad F H ad' H' → Hold T K ⟨sl, c⟩ ad' F σ H' → ItOk T K F J items ad' H' → Q J H') ∧ Raz T K W σ ad F H sl Rx
def JI (X : Cx) (T : Tab) (W : WX) (tg it : Expr) (w : WpI) : Prop := PI X tg it (tJI T X.K W w)
section
variable {X : Cx} {tg : Expr}
def iVal (K : PySem.W.Frag) (tl : TE) : TI := fun σ H R => tl σ H fun x H1 => (∃ a xs, x = .ref a ∧ SqL K H1 a xs ∧ R (Itl K a) H1) ∨ (∃ a xs, x = .ref a ∧ SqT K H1 a xs ∧ R (Itt K a) H1)
open PySem.Spec PyProof.Rows in
theorem pi_val {l : Expr} {tl : TE} (hl : PE X l tl) : PI X tg l (iVal X.K tl) := by
  refine ⟨fun pins s σ H R I h => ?_⟩
  refine thn (hl.run pins s σ H _ I h) fun v s1 ⟨x, H1, I1, r1, q1⟩ => ?_
  rcases q1 with ⟨a, xs, e, hq, q⟩ | ⟨a, xs, e, hq, q⟩
  · subst e
    cases r1
    obtain ⟨its, rv, p, hz⟩ := I1.list hq
    refine wpAny_pyIter_list p.isList ?_
    refine ⟨s1.heap.objs.size, [s1.heap.objs.size], _, _, H1, rfl, I1.kept (t' := s1.toks) fun b o e => Heap.get?_push_of_some _ e, turn_list a _, ⟨_, Heap.get?_push_size _ rfl, rfl, rfl⟩, fun b hb => ?_, q⟩
    have e : b = s1.heap.objs.size := by simpa using hb
    subst e
    exact I1.fpOk (Nat.le_refl _) (I1.hok.fresh (Nat.le_refl _))
  · subst e
    cases r1
    obtain ⟨its, rv, p, hz⟩ := I1.tuple hq
    refine wpAny_pyIter_tuple (show s1.heap.IsTuple a its.toArray from p) ?_
    refine ⟨s1.heap.objs.size, [s1.heap.objs.size], _, _, H1, rfl, I1.kept (t' := s1.toks) fun b o e => Heap.get?_push_of_some _ e, turn_tuple a _, ⟨_, Heap.get?_push_size _ rfl, rfl, rfl⟩, fun b hb => ?_, q⟩
    have e : b = s1.heap.objs.size := by simpa using hb
    subst e
    exact I1.fpOk (Nat.le_refl _) (I1.hok.fresh (Nat.le_refl _))
end
section
variable {T : Tab} {K : PySem.W.Frag} {F : Addr → Prop} {ad : List Addr} {H : Hp} {a : Addr} {vs : List V} {ds : List D}
theorem itl_ok (n : ¬ Mm ad F a) (e1 : H a = some (.lst vs)) (r : Reps T K (Mm ad F) H vs ds) : ItOk T K F (Itl K a) ds ad H := fun F2 ad2 H2 cs2 c2 kp i => ⟨fun d hd => by
    obtain ⟨e2, n2⟩ := kp a _ e1 n
    obtain ⟨v, hv, rv⟩ := (r.kp kp).get hd
    refine ⟨⟨vs, v, SqL.of e2, hv⟩, fun w H3 y => ?_⟩
    obtain ⟨rfl, y⟩ := y
    have := y vs (SqL.of e2)
    rw [hv] at this
    cases this
    exact ⟨fun _ _ z => z, rv⟩, fun hi => ⟨vs, SqL.of (kp a _ e1 n).1, by rw [r.length]; omega⟩⟩
theorem itr_ok' (e1 : LAt K (Mm ad F) H a vs) (r : Reps T K (Mm ad F) H vs ds) : ItOk T K F (Itl K a) ds ad H := fun F2 ad2 H2 cs2 c2 kp i => ⟨fun d hd => by
    have e2 := (e1.kp kp).sq
    obtain ⟨v, hv, rv⟩ := (r.kp kp).get hd
    refine ⟨⟨vs, v, e2, hv⟩, fun w H3 y => ?_⟩
    obtain ⟨rfl, y⟩ := y
    have := y vs e2
    rw [hv] at this
    cases this
    exact ⟨fun _ _ z => z, rv⟩, fun hi => ⟨vs, (e1.kp kp).sq, by rw [r.length]; omega⟩⟩
theorem itt_ok (e1 : TAt K (Mm ad F) H a vs) (r : Reps T K (Mm ad F) H vs ds) : ItOk T K F (Itt K a) ds ad H := fun F2 ad2 H2 cs2 c2 kp i => ⟨fun d hd => by
    have e2 := (e1.kp kp).sq
    obtain ⟨v, hv, rv⟩ := (r.kp kp).get hd
    refine ⟨⟨vs, v, e2, hv⟩, fun w H3 y => ?_⟩
    obtain ⟨rfl, y⟩ := y
    have := y vs e2
    rw [hv] at this
    cases this
    exact ⟨fun _ _ z => z, rv⟩, fun hi => ⟨vs, (e1.kp kp).sq, by rw [r.length]; omega⟩⟩
end
def itemsW (s : Sl) (k : List D → Prop) : Prop := match s with
  | .dat (.lst ds) => k ds
  | .dat (.tup ds) => k ds
  | .dat (.scr ds) => k ds
  | _ => False
section
variable {X : Cx} {T : Tab} {W : WX} {tg e e2 e3 : Expr} {w : WpE} {wA : WpA} {p pos tpos : Pos} {elts : List Expr} {kk : Nat}
def wItems (w : WpE) : WpI := fun sl cs R Rx => w sl cs (fun s c => itemsW s fun ds => R ds c) Rx
theorem ji_val (he : JE X T W e w) : JI X T W tg e (wItems w) := weakI (pi_val he) fun σ H Q ⟨ad, F, sl, cs, R, Rx, h0, hw, q, qx⟩ => ⟨ad, F, sl, cs, _, Rx, h0, hw, fun s c1 v H1 ad1 hw1 x1 h1 r1 => by
  unfold itemsW at hw1
  split at hw1
  · cases r1 with
    | @lst a vs _ n e1 r => exact .inl ⟨a, vs, rfl, SqL.of e1, q _ c1 _ H1 ad1 hw1 x1 h1 (itl_ok n e1 r)⟩
  · cases r1 with
    | @tup a vs _ e1 r => exact .inr ⟨a, vs, rfl, e1.sq, q _ c1 _ H1 ad1 hw1 x1 h1 (itt_ok e1 r)⟩
  · cases r1 with
    | @scr a vs _ e1 r => exact .inl ⟨a, vs, rfl, e1.sq, q _ c1 _ H1 ad1 hw1 x1 h1 (itr_ok' e1 r)⟩
  · exact hw1.elim, qx⟩
def SmI (i : Int) : Prop := -(2 ^ 62) ≤ i ∧ i < 2 ^ 62
def rng1W (ss : List Sl) (k : List D → Prop) : Prop := match ss with
  | [.dat (.int j)] => SmI j ∧ k (rangeD 0 j.toNat)
  | _ => False
def wRng1 (wA : WpA) : WpI := fun sl cs R Rx => wA sl cs (fun ss c => rng1W ss fun ds => R ds c) Rx
theorem ji_range1 (hm : X.mg "range" = none) (ha : JA X T W [e] wA) (hg : Gl X "range" := by rfl) (hs : starEach [e] X.env = [(false, eval e X.env)] := by rfl) : JI X T W tg (.Call (.Name "range" p) [e] [] pos) (wRng1 wA) :=
  weakI (pi_range1 hg hm ha hs) fun σ H Q ⟨ad, F, sl, cs, R, Rx, h0, hw, q, qx⟩ => ⟨ad, F, sl, cs, _, Rx, h0, hw, fun ss c1 vs H1 ad1 hw1 x1 h1 r1 => by
    unfold rng1W at hw1
    split at hw1
    · match vs, r1 with
      | [v], r1 =>
        have r1 := r1.1
        cases r1
        exact ⟨_, rfl, hw1.1.1, hw1.1.2, q _ c1 _ H1 ad1 hw1.2 x1 h1 itr_ok⟩
    · exact hw1.elim, qx⟩
end
def asgW (p : Pat) (d : D) (sl : Sls) (k : Sls → Prop) : Prop := match asgP p d sl with
  | some sl' => k sl'
  | none => False
theorem asgW_of {p : Pat} {d : D} {sl : Sls} {k : Sls → Prop} (h : asgW p d sl k) : ∃ sl', asgP p d sl = some sl' ∧ k sl' := by
  unfold asgW at h
  split at h
  · exact ⟨_, ‹_›, h⟩
  · exact h.elim
def isDat (s : Sl) (k : D → Prop) : Prop := match s with
  | .dat d => k d
  | .cel _ => False
theorem isDat_of {s : Sl} {k : D → Prop} (h : isDat s k) : ∃ d, s = .dat d ∧ k d := by
  unfold isDat at h
  split at h
  · exact ⟨_, rfl, h⟩
  · exact h.elim
def lcW (p : Pat) (wt : WpT) (we : WpE) (sl : Sls) : List D → List Cell → (List D → List Cell → Prop) → Prop
  | [], cs, R => R [] cs
  | d :: ds, cs, R => asgW p d sl fun sl' => wt sl' cs (fun b c1 => Br b (we sl' c1 (fun s c2 => isDat s fun e => lcW p wt we sl ds c2 fun acc c3 => R (e :: acc) c3) noX) (lcW p wt we sl ds c1 R)) noX
def JTs (X : Cx) (T : Tab) (W : WX) (ifs : List Expr) (w : WpT) : Prop := PTs X ifs (tJT T X.K W w)
def wYes : WpT := fun _ cs R _ => R true cs
theorem jts_nil {X : Cx} {T : Tab} {W : WX} : JTs X T W [] wYes := weakTs pts_nil fun σ H Q ⟨ad, F, sl, cs, R, Rx, h0, hw, q, qx⟩ => q true cs H ad hw .refl h0
theorem jts_one {X : Cx} {T : Tab} {W : WX} {c : Expr} {w : WpT} (h : JT X T W c w) : JTs X T W [c] w := weakTs (pts_one h) fun σ H Q z => z
def wLc (wi : WpI) (p : Pat) (wt : WpT) (we : WpE) (own : List Nat) : WpE := fun sl cs R Rx => wi sl cs (fun items c => items.length < sizeLine ∧ lcW p wt we (wipeS sl own) items c fun acc c' => R (.dat (.lst acc)) c') Rx
section
variable {T : Tab} {K : PySem.W.Frag} {W : WX} {p : Pat} {wi : WpI} {wt : WpT} {we : WpE} {own : List Nat}
theorem lc_core {sl : Sls} {items : List D} {cs : List Cell} {Rf : List D → List Cell → Prop} {σ : St} {H1 : Hp} {ad1 : List Addr} {F : Addr → Prop} {Q : VK} {J : It} (hp : ∀ i ∈ slotsP p, i ∈ own) (h1 : Hold T K ⟨sl, cs⟩ ad1 F σ H1) (okI : ItOk T K F J items ad1 H1) (hl : items.length < sizeLine)
    (h : lcW p wt we (wipeS sl own) items cs Rf) {Dl : Addr} (hD : H1 Dl = none)
    (q : ∀ accV accD ci ad' H', Ext ad1 F H1 ad' H' → HoldC T K ad' (fun a => F a ∨ a = Dl) H' ci → H' Dl = some (.lst accV) → Reps T K (Mm ad' fun a => F a ∨ a = Dl) H' accV accD → Rf accD ci → Q (.ref Dl) H') :
    ∃ (Inv' : Nat → Nat → Hp → Prop), (∃ m0, Inv' 0 m0 (upd H1 Dl (.lst []))) ∧ ∀ i m H', Inv' i m H' → (J.stop i H' ∧ Q (.ref Dl) H') ∨ (J.go i H' ∧ ∃ I2 : Hp → Prop, (∀ H2, I2 H2 → ∃ m', m' < m ∧ Inv' (i + 1) m' H2) ∧ ∀ v H3, J.yld i H' v H3 →
      tDG T K p v (wipe σ own) H3 fun σ' H4 => wipe σ' own = wipe σ own ∧ tJT T K W0 wt σ' H4 fun b H5 => if b = true then tJ T K W0 we σ' H5 fun w H6 => ∃ acc, H6 Dl = some (.lst acc) ∧ acc.length < sizeLine ∧ I2 (upd H6 Dl (.lst (acc ++ [w]))) else I2 H5) := by
  let vs := own
  have nD := h1.hc.new hD
  let F' : Addr → Prop := fun a => F a ∨ a = Dl
  have neD : ∀ a o, H1 a = some o → a ≠ Dl := fun a o e => ne_of_none e hD
  have slots : ∀ {ad' : List Addr} {H' : Hp} {cs : List Cell}, Ext ad1 F H1 ad' H' → HoldC T K ad' F' H' cs → Hold T K ⟨wipeS sl vs, cs⟩ ad' F' (wipe σ vs) H' := fun {ad' H' cs} x c => by
    refine ⟨c, by rw [wipe_length, wipeS_len]; exact h1.sz, fun i s e => ?_⟩
    obtain ⟨e1, e2⟩ := wipeS_some e
    obtain ⟨v, hv, r⟩ := h1.sl i s e1
    refine ⟨v, by rw [wipe_out e2]; exact hv, ?_⟩
    cases s with
    | dat d => exact Rep.kp (fun a o e n => ⟨x.keep a o e n, fun z => (x.kp a o e n).2 (z.imp id fun z => z.resolve_right (neD a o e))⟩) r
    | cel k =>
      have r' := SlRep.ext x r
      exact r'
  have h1' : HoldC T K ad1 F' (upd H1 Dl (.lst [])) cs := by
    obtain ⟨c2, x2⟩ := h1.hc.newo (o := .lst []) hD
    have kp : Kp (Mm ad1 F) H1 (Mm ad1 F') (upd H1 Dl (.lst [])) := fun a o e n => ⟨by rw [upd_ne (neD a o e)]; exact e, fun z => n (z.imp id fun z => z.resolve_right (neD a o e))⟩
    refine ⟨h1.hc.nd, fun a ha z => z.elim (h1.hc.fr a ha) fun z => nD (.inl (z ▸ ha)), fun a z => ?_, h1.hc.tb.newF hD (fun _ z => nomatch z), h1.hc.ln, fun k a c e1 e2 => ?_⟩
    · rcases z with z | z
      · exact c2.al a z
      · rw [z]; exact ⟨_, upd_same⟩
    · have qc := h1.hc.ce k a c e1 e2
      obtain ⟨o, e⟩ := qc.some
      exact qc.kp kp (upd_ne (neD a o e))
  have x1' : Ext ad1 F H1 ad1 (upd H1 Dl (.lst [])) := (h1.hc.newo hD).2
  refine ⟨fun i m H' => ∃ ad' accV accD ci, i ≤ items.length ∧ m = items.length - i ∧ Ext ad1 F H1 ad' H' ∧ HoldC T K ad' F' H' ci ∧ H' Dl = some (.lst accV) ∧ Reps T K (Mm ad' F') H' accV accD ∧ accD.length ≤ i ∧
    lcW p wt we (wipeS sl vs) (items.drop i) ci (fun acc c => Rf (accD ++ acc) c), ⟨items.length, ad1, [], [], cs, Nat.zero_le _, rfl, x1', h1', upd_same, .nil, Nat.le_refl _, h⟩, ?_⟩
  rintro i m H' ⟨ad', accV, accD, ci, hi', rfl, x', c', eD, rA, lA, hL⟩
  have kpI : Kp (Mm ad1 F) H1 (Mm ad' F') H' := fun a o e n => ⟨x'.keep a o e n, fun z => (x'.kp a o e n).2 (z.imp id fun z => z.resolve_right (neD a o e))⟩
  obtain ⟨ok1, ok2⟩ := okI F' ad' H' ci c' kpI i
  by_cases hlt : i < items.length
  · have hd : items[i]? = some items[i] := List.getElem?_eq_getElem hlt
    obtain ⟨g1, g2⟩ := ok1 _ hd
    rw [List.drop_eq_getElem_cons hlt] at hL
    obtain ⟨sl', eas, hL⟩ := asgW_of hL
    refine .inr ⟨g1, fun H2 => ∃ m', m' < items.length - i ∧ ∃ ad' accV accD ci, i + 1 ≤ items.length ∧ m' = items.length - (i + 1) ∧ Ext ad1 F H1 ad' H2 ∧ HoldC T K ad' F' H2 ci ∧ H2 Dl = some (.lst accV) ∧ Reps T K (Mm ad' F') H2 accV accD ∧ accD.length ≤ i + 1 ∧
      lcW p wt we (wipeS sl vs) (items.drop (i + 1)) ci (fun acc c => Rf (accD ++ acc) c), fun H2 ⟨m', hm, z⟩ => ⟨m', hm, z⟩, fun v H3 y => ?_⟩
    obtain ⟨gr, rv⟩ := g2 v H3 y
    obtain ⟨c3, x3⟩ := grow c' gr
    have x13 : Ext ad1 F H1 ad' H3 := ⟨x'.pre, fun a o e n => gr a o (x'.keep a o e n), fun a fa => (x'.frm a fa).trans (.inl (by
      obtain ⟨o, e⟩ := (x'.frm a fa).ex (h1.hc.al a fa)
      rw [gr a o e, e]))⟩
    have cvt : ∀ {ad6 : List Addr} {H6 : Hp}, Ext ad' F' H3 ad6 H6 → Ext ad1 F H1 ad6 H6 := fun {ad6 H6} x6 => by
      obtain ⟨t, e, ht⟩ := x13.pre
      obtain ⟨t2, e2, ht2⟩ := x6.pre
      refine ⟨⟨t ++ t2, by rw [e2, e, List.append_assoc], fun a ha => ?_⟩, fun a o e n => ?_, fun a fa => ?_⟩
      · rcases List.mem_append.mp ha with z | z
        · exact ht a z
        · cases q1 : H1 a with
          | none => rfl
          | some o =>
            exfalso
            have hz := ht2 a z
            by_cases n : Mm ad1 F a
            · rcases n with n | n
              · obtain ⟨o', e'⟩ := c3.mem (a := a) (by rw [e]; exact List.mem_append_left _ n)
                rw [e'] at hz; cases hz
              · obtain ⟨o', e'⟩ := (x13.frm a n).ex ⟨_, q1⟩
                rw [e'] at hz; cases hz
            · rw [x13.keep a o q1 n] at hz; cases hz
      · have n3 : ¬ Mm ad' F' a := fun z => (x13.kp a o e n).2 (z.imp id fun z => z.resolve_right (neD a o e))
        exact x6.keep a o (x13.keep a o e n) n3
      · exact (x13.frm a fa).trans (x6.frm a (.inl fa))
    have eD3 : H3 Dl = some (.lst accV) := gr _ _ eD
    have rA3 : Reps T K (Mm ad' F') H3 accV accD := rA.kp x3.kp
    refine ⟨ad', F', ⟨wipeS sl vs, ci⟩, items[i], sl', slots x13 c3, rv, eas, fun σ4 a4 h4 => ⟨wipe_asis a4 hp, ad', F', sl', ci, _, noX, h4, hL, fun b c1 H5 ad5 hb x5 h5 => ?_, Raz.no⟩⟩
    cases b with
    | true =>
      refine iteT ⟨ad5, F', sl', c1, _, noX, h5, hb.t rfl, fun s c2 w H6 ad6 hs x6 h6 r6 => ?_, Raz.no⟩
      obtain ⟨d', rfl, hL2⟩ := isDat_of hs
      refine ⟨accV, ?_, ?_, ?_⟩
      · exact (x6.frm Dl (.inr rfl)).eq ((x5.frm Dl (.inr rfl)).eq eD3 (fun _ z => nomatch z)) (fun _ z => nomatch z)
      · have := rA3.length
        omega
      · have x36 : Ext ad' F' H3 ad6 H6 := x5.trans h5.hc x6
        have x16 := cvt x36
        have hDa : Dl ∉ ad6 := fun z => h6.hc.fr Dl z (.inr rfl)
        have kpU : Kp (Mm ad6 F') H6 (Mm ad6 F') (upd H6 Dl (.lst (accV ++ [w]))) := fun a o e n => ⟨by rw [upd_ne (fun z => n (.inr (.inr z)))]; exact e, n⟩
        refine ⟨_, by omega, ad6, accV ++ [w], accD ++ [d'], c2, hlt, rfl, ?_, ?_, upd_same, ((rA3.kp x36.kp).append (.cons r6 .nil)).kp kpU, by rw [List.length_append]; simp; omega, ?_⟩
        · exact ⟨x16.pre, fun a o e n => by rw [upd_ne (neD a o e)]; exact x16.keep a o e n, fun a fa => by
            obtain ⟨o, e⟩ := h1.hc.al a fa
            exact (x16.frm a fa).trans (.inl (by
              obtain ⟨o6, e6⟩ := (x16.frm a fa).ex ⟨o, e⟩
              rw [upd_ne (neD a o e)]))⟩
        · refine ⟨h6.hc.nd, h6.hc.fr, fun a z => ?_, h6.hc.tb.upd ((x6.frm Dl (.inr rfl)).eq ((x5.frm Dl (.inr rfl)).eq eD3 (fun _ z => nomatch z)) (fun _ z => nomatch z)) (fun _ z => nomatch z) (fun _ z => nomatch z) (fun _ z => nomatch z), h6.hc.ln, fun k a c e1 e2 => ?_⟩
          · by_cases e : a = Dl
            · rw [e]; exact ⟨_, upd_same⟩
            · rw [upd_ne e]; exact h6.hc.al a z
          · exact (h6.hc.ce k a c e1 e2).kp kpU (upd_ne fun z => hDa (z ▸ List.mem_of_getElem? e1))
        · have e : (fun acc c => Rf (accD ++ [d'] ++ acc) c) = fun acc c => Rf (accD ++ (d' :: acc)) c := by
            funext acc c
            rw [List.append_assoc]
            rfl
          rw [e]
          exact hL2
    | false => exact iteF ⟨_, by omega, ad5, accV, accD, c1, hlt, rfl, cvt x5, h5.hc, (x5.frm Dl (.inr rfl)).eq eD3 (fun _ z => nomatch z), rA3.kp x5.kp, by omega, hb.f rfl⟩
  · have e : i = items.length := by omega
    subst e
    rw [List.drop_length] at hL
    have hL : Rf (accD ++ []) ci := hL
    rw [List.append_nil] at hL
    exact .inl ⟨ok2 rfl, q accV accD ci ad' H' x' c' eD rA hL⟩
theorem lc_then {σ : St} {H : Hp} {Q : VK} (hp : ∀ i ∈ slotsP p, i ∈ own) (h : tJ T K W (wLc wi p wt we own) σ H Q) : tLc (tJI T K W wi) (tDG T K p) (tJT T K W0 wt) (tJ T K W0 we) own σ H Q := by
  obtain ⟨ad, F, sl, cs, R, Rx, h0, hw, q, qx⟩ := h
  refine ⟨ad, F, sl, cs, _, Rx, h0, hw, fun items c J H1 ad1 hw1 x1 h1 ok Dl hD => ?_, qx⟩
  refine lc_core hp h1 ok hw1.1 hw1.2 hD fun accV accD ci ad' H' x' c' eD rA hR => ?_
  have nD := h1.hc.new hD
  have kpF : Kp (Mm ad' fun a => F a ∨ a = Dl) H' (Mm ad' F) H' := fun a o e n => ⟨e, fun z => n (z.imp id .inl)⟩
  have cF : HoldC T K ad' F H' ci := ⟨c'.nd, fun a ha z => c'.fr a ha (.inl z), fun a z => c'.al a (.inl z), h1.hc.tb.back (fun _ z => .inl z) c'.tb, c'.ln, fun k a c e1 e2 => (c'.ce k a c e1 e2).kp kpF rfl⟩
  have nD' : ¬ Mm ad' F Dl := fun z => z.elim (fun z => c'.fr Dl z (.inr rfl)) fun z => nD (.inr z)
  exact q _ ci (.ref Dl) H' ad' hR (x1.trans h1.hc x') (h1.to x' cF) (Rep.lst nD' eD (rA.kp kpF))
end
section
variable {X : Cx} {T : Tab} {W : WX} {elt tg iter : Expr} {ifs : List Expr} {scope : Scope} {own : List (Str × Nat)} {p : Pat} {wi : WpI} {wt : WpT} {we : WpE} {pos : Pos}
structure JLC (X : Cx) (T : Tab) (W : WX) (elt tg iter : Expr) (ifs : List Expr) (scope : Scope) (own : List (Str × Nat)) (wi : WpI) (p : Pat) (wt : WpT) (we : WpE) : Prop where
  hi : JI X T W tg iter wi
  ok : BlkOk X.N X.env.scope scope own
  hg : InB X scope fun X' => DG X' T tg p
  ht : InB X scope fun X' => JTs X' T W0 ifs wt
  he : InB X scope fun X' => JE X' T W0 elt we
  hp : ∀ i ∈ slotsP p, i ∈ own.map (·.2)
theorem je_lc {vs : List Nat} (hN : X.N.Nodup) (h : JLC X T W elt tg iter ifs scope own wi p wt we) (hv : own.map (·.2) = vs := by rfl) (hc : X.calm = true := by rfl) (hs : ∀ x, foldedSetIterable iter X.env x = pure x := by intro _; rfl) : JE X T W (.ListComp elt [⟨tg, iter, ifs, 0⟩] scope pos) (wLc wi p wt we vs) := by
  subst hv
  exact weak (pe_lc (g := tDG T X.K p) (tt := tJT T X.K W0 wt) (te := tJ T X.K W0 we) hc hN h.hi h.ok h.hg h.ht h.he hs) fun σ H Q z => lc_then h.hp z
end
end Dl
namespace Dl
open PySem L2
structure PJ where
  nx : Sta → Prop
  rt : Sl → List Cell → Prop
  bk : Sta → Prop := fun _ => False
  ct : Sta → Prop := fun _ => False
  ex : Exc → Sta → Prop := fun _ _ => False
abbrev PJ.to (P : PJ) (W : WX) : Post := { nx := P.nx, rt := P.rt, bk := P.bk, ct := P.ct, ex := P.ex, W := W }
abbrev WS := Sta → PJ → Prop
def JS (X : Cx) (T : Tab) (W : WX) (n : Nat) (st : Stmt) (w : WS) : Prop := ∀ (S : Sta) (P : PJ), w S P → DS X T n S st (P.to W)
def JSs (X : Cx) (T : Tab) (W : WX) (n : Nat) (sts : List Stmt) (w : WS) : Prop := ∀ (S : Sta) (P : PJ), w S P → DSs X T n S sts (P.to W)
section
variable {X : Cx} {T : Tab} {W : WX} {n : Nat} {a b c e o ix it tg : Expr} {es : List Expr} {pos p p' px py pz pt pt2 : Pos} {wa wb we wo wx w : WpE} {wt : WpT} {wA : WpA} {wi : WpI} {st : Stmt} {rest body els : List Stmt} {w1 w2 : WS} {x y z : Str} {i j l kt k2 : Nat} {pa : Pat}
theorem raz_of {K : PySem.W.Frag} {S : Sta} {P : PJ} {ad : List Addr} {F : Addr → Prop} {σ : St} {H : Hp} (hn : n ≤ ad.length) (q5 : ∀ x S' cls d σ' H' ad', ExtS n ad F H ad' H' → n ≤ ad'.length → Hold T K S' ad' F σ' H' → ExRep T K (Mm ad' F) H' cls d x → P.ex x S' → W cls d σ' H') :
    Raz T K W σ ad F H S.sl (fun x c => P.ex x ⟨S.sl, c⟩) := fun x c cls d H' ad' hx x1 h1 er => q5 x ⟨S.sl, c⟩ cls d σ H' ad' (x1.s hn) (x1.le hn) h1 er hx
def wNilS : WS := fun S P => P.nx S
def wConsS (w1 w2 : WS) : WS := fun S P => w1 S { P with nx := fun S' => w2 S' P }
theorem jss_nil : JSs X T W n [] wNilS := fun S P h => dss_nil h
theorem jss_cons (h1 : JS X T W n st w1) (h2 : JSs X T W n rest w2) : JSs X T W n (st :: rest) (wConsS w1 w2) := fun S P h =>
  dss_cons (ds_mono (h1 S { P with nx := fun S' => w2 S' P } h) (fun S' q => h2 S' P q) (fun _ _ q => q) (fun _ q => q) (fun _ q => q) (fun _ _ q => q) rfl)
def wAsg (i : Nat) (w : WpE) : WS := fun S P => w S.sl S.cs (fun s c => P.nx ⟨S.sl.set i (some s), c⟩) (fun x c => P.ex x ⟨S.sl, c⟩)
theorem js_asg (i : Nat) (hN : X.N.Nodup) (he : JE X T W e w) (hi : X.N[i]? = some x := by rfl) (hx : Loc X.env.scope x := by first | exact Or.inl rfl | exact Or.inr rfl)
    (hs : swapsWith e (some (.Name x p')) pos.line X.env = pure false := by rfl) (hf : X.fn x = true ∨ X.env.scope.names.lookup x = some .local := by first | exact .inl rfl | exact .inr rfl) : JS X T W n (.Assign [.Name x p'] e pos) (wAsg i w) := fun S P h =>
  weakS (ps_set hN hi hx he hs hf) fun D σ H ⟨ad, F, hn, h0, q1, q2, q3, q4, q5⟩ => ⟨ad, F, S.sl, S.cs, _, _, h0, h, fun s c v H1 ad1 hR x1 h1 r1 => q1 _ _ H1 ad1 (x1.s hn) (x1.le hn) (h1.set r1 i) hR, raz_of hn q5⟩
theorem js_lc (i : Nat) {vs : List Nat} {elt tg iter : Expr} {ifs : List Expr} {scope : Scope} {own : List (Str × Nat)} {p : Pat} {wi : WpI} {wt : WpT} {we : WpE} {py spos : Pos} (hN : X.N.Nodup) (h : JLC X T W elt tg iter ifs scope own wi p wt we) (hv : own.map (·.2) = vs := by rfl) (hy : X.N[i]? = some y := by rfl) (hyl : X.env.scope.names.lookup y = some .local := by rfl)
    (hsw : swapsWith (.ListComp elt [⟨tg, iter, ifs, 0⟩] scope pos) (some (.Name y py)) spos.line X.env = pure true := by exact sw_true rfl rfl rfl (by decide +kernel)) (hc : X.calm = true := by rfl) (hs : ∀ x, foldedSetIterable iter X.env x = pure x := by intro _; rfl) :
    JS X T W n (.Assign [.Name y py] (.ListComp elt [⟨tg, iter, ifs, 0⟩] scope pos) spos) (wAsg i (wLc wi p wt we vs)) := fun S P hw => by
  subst hv
  exact weakS (ps_setLc (g := tDG T X.K p) (tt := tJT T X.K W0 wt) (te := tJ T X.K W0 we) hc hN hy hyl hsw h.hi h.ok h.hg h.ht h.he hs) fun D σ H ⟨ad, F, hn, h0, q1, q2, q3, q4, q5⟩ =>
    lc_then (W := W) h.hp ⟨ad, F, S.sl, S.cs, _, _, h0, hw, fun s c v H1 ad1 hR x1 h1 r1 => q1 _ _ H1 ad1 (x1.s hn) (x1.le hn) (h1.set r1 i) hR, raz_of hn q5⟩
def wExpr (w : WpE) : WS := fun S P => w S.sl S.cs (fun _ c => P.nx ⟨S.sl, c⟩) (fun x c => P.ex x ⟨S.sl, c⟩)
theorem js_expr (he : JE X T W e w) (hs : swapsWith e none pos.line X.env = pure false := by rfl) : JS X T W n (.Expr e pos) (wExpr w) := fun S P h =>
  weakS (ps_expr he hs) fun D σ H ⟨ad, F, hn, h0, q1, q2, q3, q4, q5⟩ => ⟨ad, F, S.sl, S.cs, _, _, h0, h, fun s c v H1 ad1 hR x1 h1 r1 => q1 _ _ H1 ad1 (x1.s hn) (x1.le hn) h1 hR, raz_of hn q5⟩
def retW (n : Nat) (P : PJ) (s : Sl) (c : List Cell) : Prop := match s with
  | .dat d => P.rt (.dat d) (c.take n)
  | .cel k => n ≤ k ∧ match c[k]? with
    | some (.lst ds) => P.rt (.dat (.lst ds)) (c.take n)
    | _ => False
def wRet (n : Nat) (w : WpE) : WS := fun S P => w S.sl S.cs (fun s c => retW n P s c) (fun x c => P.ex x ⟨S.sl, c⟩)
theorem ext_take {ad ad1 : List Addr} {F : Addr → Prop} {H H1 : Hp} (xs : ExtS n ad F H ad1 H1) : ExtS n ad F H (ad1.take n) H1 := ⟨by rw [List.take_take, Nat.min_self]; exact xs.pre, fun a ha => xs.sub a (List.mem_of_mem_take ha), xs.keep, xs.frm⟩
theorem js_ret (he : JE X T W e w) : JS X T W n (.Return (some e) pos) (wRet n w) := fun S P h =>
  weakS (ps_ret he) fun D σ H ⟨ad, F, hn, h0, q1, q2, q3, q4, q5⟩ => ⟨ad, F, S.sl, S.cs, _, _, h0, h, fun s c v H1 ad1 hR x1 h1 r1 => by
    have xs := x1.s hn
    have hn1 := x1.le hn
    have kp : Kp (Mm ad1 F) H1 (Mm (ad1.take n) F) H1 := fun a o e m => ⟨e, fun z => m (z.imp List.mem_of_mem_take id)⟩
    have hl : n ≤ (ad1.take n).length := by rw [List.length_take]; omega
    unfold retW at hR
    split at hR
    · exact q2 (.dat _) _ v H1 (ad1.take n) (ext_take xs) hl (h1.hc.take n) (Rep.kp kp r1) hR
    · obtain ⟨hk, hR⟩ := hR
      split at hR
      · rename_i k _ ds hc
        obtain ⟨a, ha, rfl⟩ := r1
        obtain ⟨vs, e1, rv⟩ := h1.hc.ce k a _ ha hc
        have na : ¬ Mm (ad1.take n) F a := fun z => z.elim (fun z => by
          obtain ⟨j, hj, ej⟩ := List.getElem_of_mem z
          have hj' : (ad1.take n)[j]? = some a := by rw [List.getElem?_eq_getElem hj, ej]
          have hjn : j < n := by rw [List.length_take] at hj; omega
          rw [List.getElem?_take, if_pos hjn] at hj'
          have := ix_inj h1.hc.nd ha hj'
          omega) fun z => h1.hc.fr a (List.mem_of_getElem? ha) z
        exact q2 (.dat _) _ (.ref a) H1 (ad1.take n) (ext_take xs) hl (h1.hc.take n) (Rep.lst na e1 (rv.kp kp)) hR
      · exact hR.elim, raz_of hn q5⟩
def wRetC (n : Nat) (w : WpE) : WS := fun S P => w S.sl S.cs (fun s c => match s with
  | .cel k => k = n ∧ P.rt (.cel n) (c.take (n + 1))
  | _ => False) (fun x c => P.ex x ⟨S.sl, c⟩)
theorem js_retC (he : JE X T W e w) : JS X T W n (.Return (some e) pos) (wRetC n w) := fun S P h =>
  weakS (ps_ret he) fun D σ H ⟨ad, F, hn, h0, q1, q2, q3, q4, q5⟩ => ⟨ad, F, S.sl, S.cs, _, _, h0, h, fun s c v H1 ad1 hR x1 h1 r1 => by
    have xs := x1.s hn
    have hn1 := x1.le hn
    split at hR
    · obtain ⟨rfl, hR⟩ := hR
      obtain ⟨a, ha, rfl⟩ := r1
      rename_i k _
      have hl : k < ad1.length := by
        rcases Nat.lt_or_ge k ad1.length with z | z
        · exact z
        · rw [List.getElem?_eq_none z] at ha; cases ha
      refine q2 (.cel k) _ (.ref a) H1 (ad1.take (k + 1)) ⟨?_, fun b hb => xs.sub b (List.mem_of_mem_take hb), xs.keep, xs.frm⟩ ?_ (h1.hc.take _) ⟨a, ?_, rfl⟩ hR
      · rw [List.take_take, Nat.min_eq_left (Nat.le_succ k)]; exact xs.pre
      · rw [List.length_take]; omega
      · rw [List.getElem?_take, if_pos (Nat.lt_succ_self k)]; exact ha
    · exact hR.elim, raz_of hn q5⟩
def wIfS (wt : WpT) (w1 w2 : WS) : WS := fun S P => wt S.sl S.cs (fun b c => Br b (w1 ⟨S.sl, c⟩ P) (w2 ⟨S.sl, c⟩ P)) (fun x c => P.ex x ⟨S.sl, c⟩)
theorem js_if (hc : JT X T W c wt) (h1 : JSs X T W n body w1) (h2 : JSs X T W n els w2) : JS X T W n (.If c body els pos) (wIfS wt w1 w2) := fun S P h => by
  have b1 : PSs X body (fun D σ H => ∃ S P, DSs X T n S body P ∧ tDS T X.K n S P D σ H) := ⟨fun pins s σ H D I ⟨S', P', hS, z⟩ => hS.run pins s σ H D I z⟩
  have b2 : PSs X els (fun D σ H => ∃ S P, DSs X T n S els P ∧ tDS T X.K n S P D σ H) := ⟨fun pins s σ H D I ⟨S', P', hS, z⟩ => hS.run pins s σ H D I z⟩
  exact weakS (ps_if hc b1 b2) fun D σ H ⟨ad, F, hn, h0, q1, q2, q3, q4, q5⟩ => ⟨ad, F, S.sl, S.cs, _, _, h0, h, fun k c H1 ad1 hR x1 h1' => by
    cases k with
    | true => exact iteT ⟨⟨S.sl, c⟩, P.to W, h1 _ P (hR.t rfl), tDS.go (σ := σ) (x1.s hn) (x1.le hn) h1' q1 q2 q3 q4 q5⟩
    | false => exact iteF ⟨⟨S.sl, c⟩, P.to W, h2 _ P (hR.f rfl), tDS.go (σ := σ) (x1.s hn) (x1.le hn) h1' q1 q2 q3 q4 q5⟩, raz_of hn q5⟩
def forW (p : Pat) (wb : WS) : List D → Sta → PJ → Prop
  | [], S, P => P.nx S
  | d :: ds, S, P => asgW p d S.sl fun sl' => wb ⟨sl', S.cs⟩ { P with nx := fun S' => forW p wb ds S' P, ct := fun S' => forW p wb ds S' P, bk := P.nx }
theorem for_of {wb : WS} (hb : JSs X T W n body wb) : ∀ {items : List D} {S : Sta} {P : PJ}, forW pa wb items S P → DFor X T n pa body items S (P.to W)
  | [], S, P, h => h
  | d :: ds, S, P, h => by
    obtain ⟨sl', e, h⟩ := asgW_of h
    exact ⟨sl', e, dss_mono (hb _ _ h) (fun S' q => for_of hb q) (fun _ _ q => q) (fun _ q => q) (fun S' q => for_of hb q) (fun _ _ q => q) rfl⟩
theorem for_core {items : List D} {S S1 : Sta} {P : Post} {D : Ends} {σ : St} {H H1 : Hp} {ad ad1 : List Addr} {F : Addr → Prop} {J : It} (x1 : Ext ad F H ad1 H1) (hn : n ≤ ad.length) (h1 : Hold T X.K S1 ad1 F σ H1) (ok : ItOk T X.K F J items ad1 H1) (h : DFor X T n pa body items S1 P)
    (q1 : ∀ S' σ' H' ad', ExtS n ad F H ad' H' → n ≤ ad'.length → Hold T X.K S' ad' F σ' H' → P.nx S' → D.nx σ' H')
    (q2 : ∀ s cs' v H' ad', ExtS n ad F H ad' H' → n ≤ ad'.length → HoldC T X.K ad' F H' cs' → SlRep T X.K ad' F H' v s → P.rt s cs' → D.rt v H')
    (q5 : ∀ x S' cls d σ' H' ad', ExtS n ad F H ad' H' → n ≤ ad'.length → Hold T X.K S' ad' F σ' H' → ExRep T X.K (Mm ad' F) H' cls d x → P.ex x S' → P.W cls d σ' H') :
    ∃ Wl : Nat → Nat → St → Hp → Prop, (∃ m, Wl 0 m σ H1) ∧ ∀ i m σ H, Wl i m σ H →
      (J.stop i H ∧ D.nx σ H) ∨ (J.go i H ∧ ∃ N : St → Hp → Prop, (∀ σ' H', N σ' H' → ∃ m', m' < m ∧ Wl (i + 1) m' σ' H') ∧ ∀ x H', J.yld i H x H' → tDG T X.K pa x σ H' fun σ2 H2 => (fun D σ H => ∃ S P, DSs X T n S body P ∧ tDS T X.K n S P D σ H) { D with nx := N, ct := N, bk := D.nx } σ2 H2) := by
  have xs1 := x1.s hn
  have hn1 := x1.le hn
  refine ⟨fun i m σ' H' => ∃ ad' S', n ≤ ad'.length ∧ Hold T X.K S' ad' F σ' H' ∧ ExtS n ad1 F H1 ad' H' ∧ i ≤ items.length ∧ m = items.length - i ∧ DFor X T n pa body (items.drop i) S' P, ⟨items.length, ad1, S1, hn1, h1, .refl, Nat.zero_le _, rfl, h⟩, ?_⟩
  rintro i m σ' H' ⟨ad', S', hn', h', x', hi', rfl, hf⟩
  obtain ⟨ok1, ok2⟩ := ok F ad' H' S'.cs h'.hc x'.kp i
  by_cases hlt : i < items.length
  · have hd : items[i]? = some items[i] := List.getElem?_eq_getElem hlt
    obtain ⟨g1, g2⟩ := ok1 _ hd
    rw [List.drop_eq_getElem_cons hlt] at hf
    obtain ⟨sl', e, hf⟩ := hf
    refine .inr ⟨g1, fun σ2 H2 => ∃ ad2 S2, n ≤ ad2.length ∧ Hold T X.K S2 ad2 F σ2 H2 ∧ ExtS n ad1 F H1 ad2 H2 ∧ DFor X T n pa body (items.drop (i + 1)) S2 P, fun σ2 H2 ⟨ad2, S2, hn2, h2, x2, hf2⟩ => ⟨items.length - (i + 1), by omega, ad2, S2, hn2, h2, x2, hlt, rfl, hf2⟩, fun v H3 y => ?_⟩
    obtain ⟨gr, rv⟩ := g2 v H3 y
    obtain ⟨c3, x3⟩ := grow h'.hc gr
    refine ⟨ad', F, S', items[i], sl', h'.to x3 c3, rv, e, fun σ4 _ h4 => ⟨_, _, hf, ad', F, hn', h4, ?_, ?_, ?_, ?_, ?_⟩⟩
    · exact fun S5 σ5 H5 ad5 x5 hn5 h5 p5 => ⟨ad5, S5, hn5, h5, x'.trans ((x3.s hn').trans x5), p5⟩
    · exact fun s cs5 v5 H5 ad5 x5 hn5 c5 r5 p5 => q2 s cs5 v5 H5 ad5 (xs1.trans (x'.trans ((x3.s hn').trans x5))) hn5 c5 r5 p5
    · exact fun S5 σ5 H5 ad5 x5 hn5 h5 p5 => q1 S5 σ5 H5 ad5 (xs1.trans (x'.trans ((x3.s hn').trans x5))) hn5 h5 p5
    · exact fun S5 σ5 H5 ad5 x5 hn5 h5 p5 => ⟨ad5, S5, hn5, h5, x'.trans ((x3.s hn').trans x5), p5⟩
    · exact fun z S5 cls d σ5 H5 ad5 x5 hn5 h5 r5 p5 => q5 z S5 cls d σ5 H5 ad5 (xs1.trans (x'.trans ((x3.s hn').trans x5))) hn5 h5 r5 p5
  · have e : i = items.length := by omega
    subst e
    rw [List.drop_length] at hf
    exact .inl ⟨ok2 rfl, q1 S' σ' H' ad' (xs1.trans x') hn' h' hf⟩
def wFor (wi : WpI) (p : Pat) (wb : WS) : WS := fun S P => wi S.sl S.cs (fun items c => forW p wb items ⟨S.sl, c⟩ P) (fun x c => P.ex x ⟨S.sl, c⟩)
theorem js_for {wb : WS} (hp : PassesOwn (model X.prog X.w) X.A X.env X.xe) (hi : JI X T W tg it wi) (hg : DG X T tg pa) (hb : JSs X T W n body wb) (hc : X.calm = true := by rfl) (hs : ∀ x, foldedSetIterable it X.env x = pure x := by intro _; rfl) : JS X T W n (.For tg it body [] pos) (wFor wi pa wb) := fun S P h => by
  have b1 : PSs X body (fun D σ H => ∃ S P, DSs X T n S body P ∧ tDS T X.K n S P D σ H) := ⟨fun pins s σ H D I ⟨S', P', hS, z⟩ => hS.run pins s σ H D I z⟩
  exact weakS (ps_for hp hc hi hg b1 hs) fun D σ H ⟨ad, F, hn, h0, q1, q2, q3, q4, q5⟩ => ⟨ad, F, S.sl, S.cs, _, _, h0, h, fun items c J H1 ad1 hR x1 h1 ok => for_core (S := S) (P := P.to W) x1 hn h1 ok (for_of hb hR) q1 q2 q5, raz_of hn q5⟩
def par2 (i j : Nat) (ss : List Sl) (sl : Sls) (k : Sls → Prop) : Prop := match ss with
  | [s1, s2] => k ((sl.set i (some s1)).set j (some s2))
  | _ => False
def wPar2 (i j : Nat) (wA : WpA) : WS := fun S P => wA S.sl S.cs (fun ss c => par2 i j ss S.sl fun sl' => P.nx ⟨sl', c⟩) (fun x c => P.ex x ⟨S.sl, c⟩)
theorem js_par2 (i j : Nat) (hN : X.N.Nodup) (ha : JA X T W [a, b] wA) (hi : X.N[i]? = some x := by rfl) (hj : X.N[j]? = some y := by rfl) (hij : i ≠ j := by decide)
    (hx : X.env.scope.names.lookup x = some .local := by rfl) (hy : X.env.scope.names.lookup y = some .local := by rfl) (hc : X.calm = true := by rfl)
    (hw : swappedStores [.Tuple [.Name x px, .Name y py] kt pt] (.Tuple [a, b] k2 pt2) X.env = pure (some [x, y]) := by rfl)
    (hs : swapsWithSole [.Tuple [.Name x px, .Name y py] kt pt] (.Tuple [a, b] k2 pt2) pos.line X.env = pure false := by rfl) : JS X T W n (.Assign [.Tuple [.Name x px, .Name y py] kt pt] (.Tuple [a, b] k2 pt2) pos) (wPar2 i j wA) := fun S P h =>
  weakS (ps_par hc hN hi hj hij hx hy ha hw hs) fun D σ H ⟨ad, F, hn, h0, q1, q2, q3, q4, q5⟩ => ⟨ad, F, S.sl, S.cs, _, _, h0, h, fun ss c vs H1 ad1 hR x1 h1 r1 => by
    unfold par2 at hR
    split at hR
    · match vs, r1 with
      | [v, w], r1 => exact ⟨v, w, rfl, q1 _ _ H1 ad1 (x1.s hn) (x1.le hn) ((h1.set r1.1 i).set r1.2.1 j) hR⟩
    · exact hR.elim, raz_of hn q5⟩
def par3 (i j l : Nat) (ss : List Sl) (sl : Sls) (k : Sls → Prop) : Prop := match ss with
  | [s1, s2, s3] => k (((sl.set i (some s1)).set j (some s2)).set l (some s3))
  | _ => False
def wPar3 (i j l : Nat) (wA : WpA) : WS := fun S P => wA S.sl S.cs (fun ss c => par3 i j l ss S.sl fun sl' => P.nx ⟨sl', c⟩) (fun x c => P.ex x ⟨S.sl, c⟩)
theorem js_par3 (i j l : Nat) (hN : X.N.Nodup) (ha : JA X T W [a, b, c] wA) (hi : X.N[i]? = some x := by rfl) (hj : X.N[j]? = some y := by rfl) (hl : X.N[l]? = some z := by rfl) (hij : i ≠ j := by decide) (hil : i ≠ l := by decide) (hjl : j ≠ l := by decide)
    (hx : X.env.scope.names.lookup x = some .local := by rfl) (hy : X.env.scope.names.lookup y = some .local := by rfl) (hz : X.env.scope.names.lookup z = some .local := by rfl) (hc : X.calm = true := by rfl)
    (hw : swappedStores [.Tuple [.Name x px, .Name y py, .Name z pz] kt pt] (.Tuple [a, b, c] k2 pt2) X.env = pure (some [x, y, z]) := by rfl)
    (hs : swapsWithSole [.Tuple [.Name x px, .Name y py, .Name z pz] kt pt] (.Tuple [a, b, c] k2 pt2) pos.line X.env = pure false := by rfl) : JS X T W n (.Assign [.Tuple [.Name x px, .Name y py, .Name z pz] kt pt] (.Tuple [a, b, c] k2 pt2) pos) (wPar3 i j l wA) := fun S P h =>
  weakS (L2.ps_par3 hc hN hi hj hl hij hil hjl hx hy hz ha hw hs) fun D σ H ⟨ad, F, hn, h0, q1, q2, q3, q4, q5⟩ => ⟨ad, F, S.sl, S.cs, _, _, h0, h, fun ss c vs H1 ad1 hR x1 h1 r1 => by
    unfold par3 at hR
    split at hR
    · match vs, r1 with
      | [u, v, w], r1 => exact ⟨u, v, w, rfl, q1 _ _ H1 ad1 (x1.s hn) (x1.le hn) (((h1.set r1.1 i).set r1.2.1 j).set r1.2.2.1 l) hR⟩
    · exact hR.elim, raz_of hn q5⟩
def unpW (ps : List Pat) (s : Sl) (cs : List Cell) (sl : Sls) (k : Sls → Prop) : Prop := match s with
  | .dat (.tup ds) => asgW (.tp ps) (.tup ds) sl k
  | s => wL cs s fun ds => asgW (.tp ps) (.tup ds) sl k
theorem pg_or {t1 t2 : TG} (h1 : PG X tg t1) (h2 : PG X tg t2) : PG X tg (fun v σ H Q => t1 v σ H Q ∨ t2 v σ H Q) := ⟨fun pins s σ H v u Q I r h => h.elim (h1.run pins s σ H v u Q I r) (h2.run pins s σ H v u Q I r)⟩
def wTupS (ps : List Pat) (w : WpE) : WS := fun S P => w S.sl S.cs (fun s c => unpW ps s c S.sl fun sl' => P.nx ⟨sl', c⟩) (fun x c => P.ex x ⟨S.sl, c⟩)
theorem js_tup {ps : List Pat} {k m : Nat} {tpos : Pos} (he : JE X T W e w) (hg : DGs X T es ps) (hn : (assignEach es X.env).length = m := by rfl) (hp : ps.length = m := by rfl) (hst : (assignEach es X.env).findIdx? (·.1) = none := by rfl) (hc : X.calm = true := by rfl)
    (hs : swapsWithSole [.Tuple es k tpos] e pos.line X.env = pure false := by rfl) (hw : swappedStores [.Tuple es k tpos] e X.env = pure none := by rfl)
    (h1 : (assignEach [.Tuple es k tpos] X.env).map (·.2) = [assign (.Tuple es k tpos) X.env] := by rfl) : JS X T W n (.Assign [.Tuple es k tpos] e pos) (wTupS ps w) := fun S P h =>
  weakS (ps_asg he (pg_or (dg_tup hc hg hn hp hst) (pg_unl (n := m) hc hg hn hst)) hs hw h1) fun D σ H ⟨ad, F, hn', h0, q1, q2, q3, q4, q5⟩ => ⟨ad, F, S.sl, S.cs, _, _, h0, h, fun s c v H1 ad1 hR x1 h1 r1 => by
    unfold unpW at hR
    split at hR
    · obtain ⟨sl', ha, hR⟩ := asgW_of hR
      exact .inl ⟨ad1, F, ⟨S.sl, c⟩, _, sl', h1, r1, ha, fun σ' _ h2 => q1 _ _ H1 ad1 (x1.s hn') (x1.le hn') h2 hR⟩
    · obtain ⟨ds, hL, hR⟩ := wL_of hR
      obtain ⟨sl', ha, hR⟩ := asgW_of hR
      have ha : asgPs ps ds S.sl = some sl' := ha
      obtain ⟨a, ws, rfl, e1, q0⟩ := rd_lst hL h1.hc r1
      exact .inr ⟨a, ws, rfl, SqL.of e1, by rw [q0.length, ← hp]; exact asgPs_len ha, ad1, F, ⟨S.sl, c⟩, ds, sl', h1, q0, ha, fun σ' _ h2 => q1 _ _ H1 ad1 (x1.s hn') (x1.le hn') h2 hR⟩, raz_of hn' q5⟩
def setLW (s : Sl) (i : Sl) (d : Sl) (cs : List Cell) (k : List Cell → Prop) : Prop := match s, i, d with
  | .cel j, .dat (.int i), .dat d => match cs[j]? with
    | some (.lst ds) => match ixN ds.length i with
      | some m => k (cs.set j (.lst (ds.set m d)))
      | none => False
    | _ => False
  | _, _, _ => False
def wSetL (we wo wx : WpE) : WS := fun S P => we S.sl S.cs (fun d c1 => wo S.sl c1 (fun s c2 => wx S.sl c2 (fun i c3 => setLW s i d c3 fun c4 => P.nx ⟨S.sl, c4⟩) (fun x c => P.ex x ⟨S.sl, c⟩)) (fun x c => P.ex x ⟨S.sl, c⟩)) (fun x c => P.ex x ⟨S.sl, c⟩)
theorem js_setL (he : JE X T W e we) (ho : JE X T W o wo) (hx : JE X T W ix wx)
    (ha : ∀ v, assign (.Subscript o ix p') X.env v = (do
      let ov ← holding [v] (eval o X.env)
      let iv ← holding [v, ov] (eval ix X.env)
      standAt p'
      holding [v, ov, iv] (setItem ov iv v)
      release [v, ov, iv] []) := by intro _; rfl)
    (hs : swapsWithSole [.Subscript o ix p'] e pos.line X.env = pure false := by rfl) (hw : swappedStores [.Subscript o ix p'] e X.env = pure none := by rfl)
    (h1 : (assignEach [.Subscript o ix p'] X.env).map (·.2) = [assign (.Subscript o ix p') X.env] := by rfl) : JS X T W n (.Assign [.Subscript o ix p'] e pos) (wSetL we wo wx) := fun S P h =>
  weakS (ps_asg he (pg_sub ho hx set_list ha) hs hw h1) fun D σ H ⟨ad, F, hn, h0, q1, q2, q3, q4, q5⟩ => ⟨ad, F, S.sl, S.cs, _, _, h0, h, fun d c1 v H1 ad1 hR1 x1 h1 r1 => ⟨ad1, F, S.sl, c1, _, _, h1, hR1, fun s c2 w H2 ad2 hR2 x2 h2 r2 => ⟨ad2, F, S.sl, c2, _, _, h2, hR2, fun i c3 z H3 ad3 hR3 x3 h3 r3 => by
    unfold setLW at hR3
    split at hR3
    · rename_i j ii dd
      split at hR3
      · rename_i ds hk
        split at hR3
        · rename_i m hm
          cases r3
          have r2' := SlRep.ext x3 r2
          obtain ⟨a, ea, rfl⟩ := r2'
          obtain ⟨vs, e1, q0⟩ := h3.hc.ce j a _ ea hk
          have rd : Rep T X.K (Mm ad3 F) H3 v dd := SlRep.ext (s := .dat dd) x3 (SlRep.ext (s := .dat dd) x2 r1)
          refine ⟨a, vs, ii, m, rfl, rfl, e1, by rw [q0.length]; exact hm, ?_⟩
          have kp : Kp (Mm ad3 F) H3 (Mm ad3 F) (upd H3 a (.lst (vs.set m v))) := fun b o e nn => ⟨by rw [upd_ne (fun z => nn (.inl (by rw [z]; exact List.mem_of_getElem? ea)))]; exact e, nn⟩
          obtain ⟨k4, x4⟩ := h3.hc.setc (o := .lst (vs.set m v)) (c := .lst (ds.set m dd)) ea ⟨_, upd_same, (q0.set rd m).kp kp⟩
          have x := x1.trans h1.hc (x2.trans h2.hc (x3.trans h3.hc x4))
          exact q1 _ _ _ ad3 (x.s hn) (x.le hn) (h3.to x4 k4) hR3
        · exact hR3.elim
      · exact hR3.elim
    · exact hR3.elim, ((raz_of hn q5).on x1 h1).on x2 h2⟩, (raz_of hn q5).on x1 h1⟩, raz_of hn q5⟩
end
def endJ (n : Nat) (s : Sl) (cs' : List Cell) : PJ := { nx := fun S => s = .dat .non ∧ S.cs.take n = cs', rt := fun r c => r = s ∧ c = cs' }
def ctOf (N ps : List Str) (w : Nat → WS) : Ct := fun args cs s cs' => args.length = ps.length ∧ w cs.length (st0 N args cs) (endJ cs.length s cs')
section
variable {T : Tab} {P : Program} {w : World} {K : PySem.W.Frag} {mg : Str → Option Value} {base : Heap} {x qual : Str} {st : Stmt} {f : Addr} {fd : FuncData} {N ps : List Str} {k : Nat} {ws : Nat → WS}
theorem fn_J (F : Fun K x qual st f fd) (Sc : FnScope N ps (defScope st))
    (body : ∀ cdv A outer sh H E, Room k (cx0 P w K mg base N qual st f cdv A outer sh H E).A → ∀ n, JSs (cx0 P w K mg base N qual st f cdv A outer sh H E) T W0 n (defBody st) (ws n)) : FnOk P w K mg base CX0 (k + 1) f fd ps (spC T K (ctOf N ps ws)) :=
  fn_ok F Sc (fun _ _ _ _ h => h.1) fun cdv A outer sh H E hr args cs s cs' h => body cdv A outer sh H E hr _ _ _ h.2
end
end Dl
namespace Dl
open PySem L2
def optW (o : Option Bool) (k : Bool → Prop) : Prop := match o with
  | some b => k b
  | none => False
theorem optW_of {o : Option Bool} {k : Bool → Prop} (h : optW o k) : ∃ b, o = some b ∧ k b := by
  unfold optW at h
  split at h
  · exact ⟨_, rfl, h⟩
  · exact h.elim
section
variable {X : Cx} {T : Tab} {W : WX} {n : Nat} {a b c e e2 o ix it tg : Expr} {es : List Expr} {pos apos p p2 p' : Pos} {wa wb we wo wx w : WpE} {wt : WpT} {wA : WpA} {x y z : Str} {u : String} {C2 : Addr}
def isiW (tb : String → Option Bool) (ob : Nat → Option Bool) (s : Sl) (k : Bool → Prop) : Prop := match s with
  | .dat (.obj n _) => optW (ob n) k
  | .dat d => match tyD d with
    | some t => optW (tb t) k
    | none => False
  | _ => False
def ObIs (K : PySem.W.Frag) (T : Tab) (c : Value) (ob : Nat → Option Bool) : Prop := ∀ n b, ob n = some b → ∃ C fn, T n = some (C, fn) ∧ IsiC K C ∧ PySem.W.kitOne K (.ref C) c = some b
def wRaise1 (m : Nat) (w : WpE) : WS := fun S P => w S.sl S.cs (fun s c => isDat s fun d => P.ex ⟨m, [d]⟩ ⟨S.sl, c⟩) (fun x c => P.ex x ⟨S.sl, c⟩)
theorem js_raise1 {m k : Nat} {f g : Str} {C fI : Addr} {fd : FuncData} {pos2 : Pos} (tk : Takes X W) (oc : OexC X.K C) (iC : PySem.W.findIn X.K (.ref C) "__init__" = some (some (.ref fI))) (tI : PySem.W.typeIn X.K (.ref fI) = some (.type "function"))
    (F1 : FnOk X.prog X.w X.K X.mg X.base CX0 k fI fd ["self", g] (spE1 C f)) (hr : Room (k + 1) X.A) (hb : Binds X.K fd ["self", g] []) (hm : X.mg x = some (.ref C)) (hT : T m = some (C, [f])) (ha : JE X T W e w) (hc : X.calm = true := by rfl) (hg : Gl X x := by rfl)
    (hdb : (x == ("__debug__" : Str)) = false := by decide) (he : starEach [e] X.env = (false, eval e X.env) :: starEach [] X.env := by rfl) : JS X T W n (.Raise (some (.Call (.Name x p) [e] [] pos)) none pos2) (wRaise1 m w) := fun S P h =>
  weakS (ps_raise hc tk (pmk_oex oc iC tI F1 hr hb .nil pass0 hg hm (ja_cons ha ja_nil he) hdb he rfl)) fun D σ H ⟨ad, F, hn, h0, q1, q2, q3, q4, q5⟩ => ⟨ad, F, S.sl, S.cs, (fun ss c => match ss with
      | [s] => isDat s fun d => P.ex ⟨m, [d]⟩ ⟨S.sl, c⟩
      | _ => False), (fun x c => P.ex x ⟨S.sl, c⟩), h0, h, fun ss c1 vs H1 ad1 hR x1 h1 r1 => by
    match ss, vs, r1 with
    | [s], [v], r1 =>
      have hR' := isDat_of (s := s) hR
      clear hR
      obtain ⟨d, e0, hR⟩ := hR'
      subst e0
      refine ⟨by show 1 ≤ 1000; decide, fun a na => ⟨a, v, rfl, upd_same, fun dx ndx ne => ⟨rfl, dx, [(f, v)], upd_same, ?_, ?_, ?_⟩⟩⟩
      · rw [upd_ne ne, upd_same]
      · rw [upd_ne ne] at ndx; exact ndx
      · have n1 : H1 dx = none := by rw [upd_ne ne] at ndx; exact ndx
        have eH : upd (del (upd (upd (upd H1 a (exo a C none)) dx (exd dx [(f, v)])) a (exo a C (some dx))) a) dx (.xd [(f, v)]) = upd H1 dx (.xd [(f, v)]) := by
          funext b
          by_cases hb : b = dx
          · rw [hb, upd_same, upd_same]
          · rw [upd_ne hb, upd_ne hb]
            by_cases hba : b = a
            · rw [hba, del_same, na]
            · rw [del_ne hba, upd_ne hba, upd_ne hb, upd_ne hba]
        rw [eH]
        obtain ⟨c3, x3⟩ := h1.hc.newo (o := .xd [(f, v)]) n1
        have hn1 := x1.le hn
        exact q5 ⟨m, [d]⟩ ⟨S.sl, c1⟩ (.ref C) (some dx) σ _ ad1 ((x1.trans h1.hc x3).s hn) hn1 (h1.to x3 c3) ⟨C, [f], hT, rfl, .inr ⟨dx, [v], rfl, h1.hc.new n1, upd_same, rfl, .cons (Rep.kp x3.kp r1.1) .nil⟩⟩ hR, raz_of hn q5⟩
def sufJ (i : Nat) (P : PJ) : PJ := { nx := fun S' => P.nx ⟨S'.sl.set i none, S'.cs⟩, rt := P.rt, bk := fun S' => P.bk ⟨S'.sl.set i none, S'.cs⟩, ct := fun S' => P.ct ⟨S'.sl.set i none, S'.cs⟩ }
def wTry (mt : Nat → Option Bool) (i : Nat) (wb : WS) (ws : Nat → Addr → Option Addr → WS) : WS := fun S P => wb S { P with ex := fun x S' => match mt x.n with
  | some true => ∀ a d, ws x.n a d ⟨S'.sl.set i (some (.dat (.err x.n a d x.fs))), S'.cs⟩ (sufJ i P)
  | some false => P.ex x S'
  | none => False }
theorem js_try {body suite : List Stmt} {b0 : Stmt} {pos' np : Pos} {i : Nat} {cv : Value} {mt : Nat → Option Bool} {wb : WS} {ws : Nat → Addr → Option Addr → WS} (tk : Takes X W) (hN : X.N.Nodup) (hc : Names X x cv)
    (hmt : ∀ m b, mt m = some b → ∀ C fn, T m = some (C, fn) → PySem.W.exmOne X.K (.ref C) cv = some b)
    (hb : ∀ (V : WX) (pn : List (Addr × Obj)) (xe : Value → Shared → Prop), Takes (X.tr pn xe) V → PassesOwn (model X.prog X.w) X.A X.env xe → JSs (X.tr pn xe) T V n body wb)
    (hsu : ∀ (m : Nat) (a : Addr) (oe : Obj) (d : Option Addr) (C : Addr) (fn : List Str) (pn : List (Addr × Obj)), mt m = some true → T m = some (C, fn) → Zc (.ref C) d oe → (∃ vs, oe.data = .fields vs) → JSs (X.suite a ((a, oe) :: pn)) T W0 n (b0 :: suite) (ws m a d))
    (hs : X.stack = X.env :: X.outer := by rfl) (hf : X.env.frame = some X.env.locals := by rfl) (hi : X.N[i]? = some y := by rfl) (hln : X.env.kindOf y = some .local := by rfl) :
    JS X T W n (.Try body [.ExceptHandler (some (.Name x np)) (some y) (b0 :: suite) pos'] [] [] pos) (wTry mt i wb ws) := fun S P h => by
  let ts : Addr → Value → Option Addr → TS := fun a cls d D σ H => ∃ m C fn S1 P1, cls = .ref C ∧ mt m = some true ∧ T m = some (C, fn) ∧ ws m a d S1 P1 ∧ tDS T X.K n S1 (P1.to W0) D σ H
  have hsu' : ∀ (a : Addr) (oe : Obj) (cls : Value) (d : Option Addr) (pn : List (Addr × Obj)), Zc cls d oe → (∃ vs, oe.data = .fields vs) → PSs (X.suite a ((a, oe) :: pn)) (b0 :: suite) (ts a cls d) := fun a oe cls d pn hz hv => ⟨fun pins s σ H D I z => by
    obtain ⟨m, C, fn, S1, P1, rfl, h1, h2, h3, z⟩ := z
    exact (hsu m a oe d C fn pn h1 h2 hz hv S1 P1 h3).run pins s σ H D I z⟩
  let tb : WX → TS := fun V D σ H => ∃ S1 P1, wb S1 P1 ∧ tDS T X.K n S1 (P1.to V) D σ H
  have hb' : ∀ (V : WX) (pn : List (Addr × Obj)) (xe : Value → Shared → Prop), Takes (X.tr pn xe) V → PassesOwn (model X.prog X.w) X.A X.env xe → PSs (X.tr pn xe) body (tb V) := fun V pn xe t po => ⟨fun pins s σ H D I z => by
    obtain ⟨S1, P1, h1, z⟩ := z
    exact (hb V pn xe t po S1 P1 h1).run pins s σ H D I z⟩
  refine weakS (ps_try_as (ts := ts) (tb := tb) hs hf hN hi hln hc tk hb' hsu') fun D σ H ⟨ad, F, hn, h0, q1, q2, q3, q4, q5⟩ => ?_
  refine ⟨S, _, h, ad, F, hn, h0, q1, q2, q3, q4, ?_⟩
  intro x0 S2 cls d σ' H' ad' x' hn' h' er hx
  obtain ⟨C, fn, e1, e2, er'⟩ := id er
  have hx : match mt x0.n with
    | some true => ∀ a d, ws x0.n a d ⟨S2.sl.set i (some (.dat (.err x0.n a d x0.fs))), S2.cs⟩ (sufJ i P)
    | some false => P.ex x0 S2
    | none => False := hx
  split at hx
  · rename_i hm
    refine ⟨true, by rw [e2]; exact hmt _ _ hm C fn e1, fun _ a na => ⟨x0.n, C, fn, _, sufJ i P, e2, hm, e1, hx a d, ?_⟩, fun z => nomatch z⟩
    have rp : Rep T X.K (Mm ad' F) H' (.ref a) (.err x0.n a d x0.fs) := by
      rcases er' with ⟨f1, f2, f3⟩ | ⟨dd, vs, a1, a2, a3, a4, a5⟩
      · rw [f2, f3]
        subst f1
        exact .err (vs := []) e1 (.inl ⟨rfl, rfl, rfl⟩) .nil
      · exact .err e1 (.inr ⟨dd, a1, a2, a3, a4⟩) a5
    have hh := h'.set (s := .dat (.err x0.n a d x0.fs)) rp i
    refine ⟨ad', F, hn', hh, ?_, ?_, ?_, ?_, fun _ _ _ _ _ _ _ _ _ _ _ z => z.elim⟩
    · exact fun S3 σ3 H3 ad3 x3 hn3 h3 p => q1 _ _ H3 ad3 (x'.trans x3) hn3 (h3.unset i) p
    · exact fun s cs3 v H3 ad3 x3 hn3 c3 r3 p => q2 s cs3 v H3 ad3 (x'.trans x3) hn3 c3 r3 p
    · exact fun S3 σ3 H3 ad3 x3 hn3 h3 p => q3 _ _ H3 ad3 (x'.trans x3) hn3 (h3.unset i) p
    · exact fun S3 σ3 H3 ad3 x3 hn3 h3 p => q4 _ _ H3 ad3 (x'.trans x3) hn3 (h3.unset i) p
  · rename_i hm
    exact ⟨false, by rw [e2]; exact hmt _ _ hm C fn e1, (fun z => nomatch z), fun _ => q5 x0 S2 cls d σ' H' ad' x' hn' h' er hx⟩
  · exact hx.elim
end
section
variable {X : Cx} {T : Tab} {a C Ce : Addr} {oe : Obj} {d : Option Addr} {pn : List (Addr × Obj)} {e e2 : Expr} {pos p : Pos} {m : Nat} {fn : List Str} {w w2 : WpE} {f : Str}
def errW (m : Nat) (a : Addr) (d : Option Addr) (s : Sl) (k : List D → Prop) : Prop := match s with
  | .dat (.err m' a' d' fs) => (m' = m ∧ a' = a ∧ d' = d) ∧ k fs
  | _ => False
theorem errW_of {s : Sl} {k : List D → Prop} (h : errW m a d s k) : ∃ fs, s = .dat (.err m a d fs) ∧ k fs := by
  unfold errW at h
  split at h
  · obtain ⟨⟨rfl, rfl, rfl⟩, h⟩ := h
    exact ⟨_, rfl, h⟩
  · exact h.elim
def wIsiE (m : Nat) (a : Addr) (d : Option Addr) (b : Option Bool) (w : WpE) : WpE := fun sl cs R Rx => w sl cs (fun s c => errW m a d s fun _ => optW b fun k => R (.dat (.bl k)) c) Rx
theorem je_isiE {kb : Option Bool} {x : Str} {p2 : Pos} (E : Err X T m a d Ce oe) (hi : X.mg "isinstance" = none) (hm : X.mg x = some (.ref C)) (hk : ∀ b, kb = some b → PySem.W.kitOne X.K (.ref Ce) (.ref C) = some b) (he : JE (X.suite a ((a, oe) :: pn)) T W0 e w) (hg : Gl X "isinstance" := by rfl) (hg2 : Gl X x := by rfl) (hdb : (x == ("__debug__" : Str)) = false := by decide)
    (h1 : starEach [e, .Name x p2] X.env = (false, eval e X.env) :: starEach [.Name x p2] X.env := by rfl) (h2 : starEach [.Name x p2] X.env = (false, eval (.Name x p2) X.env) :: starEach [] X.env := by rfl) (hpl : (backTo pos (starEach [.Name x p2] X.env)).any (·.1) = false := by rfl) :
    JE (X.suite a ((a, oe) :: pn)) T W0 (.Call (.Name "isinstance" p) [e, .Name x p2] [] pos) (wIsiE m a d kb w) :=
  weak (pe_callB (X := X.suite a ((a, oe) :: pn)) (call_isX E.ec E.hz E.hf) hg hi (by decide +kernel) (pa_cons he (pa_cons (pe_glob (X := X.suite a ((a, oe) :: pn)) (v := .ref C) hg2 hm rfl hdb) pa_nil h2) h1) (by decide) (by decide) h1 hpl) fun σ H Q ⟨ad, F, sl, cs, R, Rx, h0, hw, q, qx⟩ => ⟨ad, F, sl, cs, _, Rx, h0, hw, fun s c1 v H1 ad1 hw1 x1 h1 r1 => by
    have hw1' := errW_of hw1
    clear hw1
    obtain ⟨fs, e0, hw1⟩ := hw1'
    subst e0
    obtain ⟨k, hkb, hR⟩ := optW_of hw1
    cases r1 with
    | err ht hx _ => exact ⟨xat_or hx, .inl ⟨C, k, rfl, hk _ hkb, q _ c1 _ H1 ad1 hR x1 h1 Rep.bl⟩⟩, qx⟩
def wXf (m : Nat) (a : Addr) (d : Option Addr) (fn : Nat → List Str) (f : Str) (w : WpE) : WpE := fun sl cs R Rx => w sl cs (fun s c => errW m a d s fun fs => match fIdx (fn m) f with
  | some j => match fs[j]? with
    | some v => R (.dat v) c
    | none => False
  | none => False) Rx
theorem je_xf {fnT : Nat → List Str} (E : Err X T m a d Ce oe) (xc : XfC X.K Ce) (hno : PySem.W.findIn X.K (.ref Ce) f = some none) (hT : T m = some (Ce, fnT m)) (he : JE (X.suite a ((a, oe) :: pn)) T W0 e w) (hb : attributeBase e f X.env (eval e X.env) = eval e X.env := by rfl) :
    JE (X.suite a ((a, oe) :: pn)) T W0 (.Attribute e f pos) (wXf m a d fnT f w) :=
  weak (pe_xf xc hno E.hz E.hf he hb) fun σ H Q ⟨ad, F, sl, cs, R, Rx, h0, hw, q, qx⟩ => ⟨ad, F, sl, cs, _, Rx, h0, hw, fun s c1 v H1 ad1 hw1 x1 h1 r1 => by
    have hw1' := errW_of hw1
    clear hw1
    obtain ⟨fs, e0, hw1⟩ := hw1'
    subst e0
    split at hw1
    · rename_i j hf
      split at hw1
      · rename_i v hv
        cases r1 with
        | @err _ C' _ fn' _ vs _ ht hx r =>
          rw [hT] at ht
          cases ht
          rcases hx with ⟨z, _, _⟩ | ⟨dd, h2, _, h3, hl⟩
          · rw [z] at hf
            cases hf
          · obtain ⟨u, hu, lk⟩ := fIdx_look (vs := vs) hf hl
            obtain ⟨u', hu', ru⟩ := r.get hv
            rw [hu] at hu'
            cases hu'
            exact ⟨rfl, rfl, dd, _, u, h2, h3, lk, q _ c1 u H1 ad1 hw1 x1 h1 ru⟩
      · exact hw1.elim
    · exact hw1.elim, qx⟩
end
end Dl
namespace Dl
open PySem L2
open PySem.W in
theorem kit_cls {K : Frag} {C : Addr} {t : Value} {b : Bool} (hne : (t == .ref C) = false) (hd : hasDictIn K C = true) (ht : typeIn K (.ref C) = some (.type "type")) (h4 : subIn K t (.ref C) = some b) : kitOne K t (.ref C) = some b := by
  obtain ⟨cd, hc, _⟩ := any_some hd
  have e2 : ((clsIn K C).isSome && typeIn K (.ref C) == some (.type "type")) = true := by rw [hc, ht] <;> rfl
  show (if (t == .ref C) = true then some true else (if ((clsIn K C).isSome && typeIn K (.ref C) == some (.type "type")) = true then subIn K t (.ref C) else none)) = some b
  rw [hne, if_neg (by decide), if_pos e2]
  exact h4
section
variable {X : Cx} {T : Tab} {a C Ce : Addr} {oe : Obj} {d : Option Addr} {pn : List (Addr × Obj)} {e : Expr} {es : List Expr} {pos p tp q : Pos} {m : Nat} {w : WpE} {x : Str} {Cs : List Addr}
end
end Dl
namespace Dl
open PySem L2
theorem call_ {α β : Type} {c Q : α → β → Prop} {x : α} {y : β} (h : c x y) (q : Q x y) : ∃ x y, c x y ∧ Q x y := ⟨x, y, h, q⟩
theorem Br.tt {b : Bool} {p q : Prop} (h : b = true) (hp : p) : Br b p q := ⟨fun _ => hp, fun z => by rw [h] at z; cases z⟩
theorem Br.ff {b : Bool} {p q : Prop} (h : b = false) (hq : q) : Br b p q := ⟨fun z => (by rw [h] at z; cases z), fun _ => hq⟩
theorem Br.dec {c : Prop} [Decidable c] {p q : Prop} (h1 : c → p) (h2 : ¬ c → q) : Br (decide c) p q := ⟨fun h => h1 (of_decide_eq_true h), fun h => h2 (of_decide_eq_false h)⟩
theorem eqD_t {d e : D} (h : d = e) (ok : okD e = true) : eqD d e = true := by subst h; exact eqD_refl ok
theorem Br.ne {d e : D} {p q : Prop} (h : d = e) (ok : okD e = true) (hq : q) : Br (true.xor (eqD d e)) p q := Br.ff (by rw [eqD_t h ok]; rfl) hq
theorem pos_ {i j : Int} (h : 0 < j) : ModC i j := h
theorem szk (n : Nat) (h : n ≤ 16777216 := by decide) : n ≤ sizeLine := h
theorem sz {n : Nat} (h : n ≤ 16777216) : n ≤ sizeLine := h
theorem asgW_i {p : Pat} {d : D} {sl sl' : Sls} {k : Sls → Prop} (e : asgP p d sl = some sl') (h : k sl') : asgW p d sl k := by unfold asgW; rw [e]; exact h
theorem lcW_map {p : Pat} {we : WpE} {sl : Sls} {α : Type} (g f : α → D) {cs : List Cell} : ∀ {xs : List α} {R : List D → List Cell → Prop},
    (∀ x ∈ xs, ∃ sl', asgP p (g x) sl = some sl' ∧ ∀ R' : RV, R' (.dat (f x)) cs → we sl' cs R' noX) → R (xs.map f) cs → lcW p wYes we sl (xs.map g) cs R
  | [], R, _, h => h
  | x :: xs, R, hx, h => by
    obtain ⟨sl', e, h1⟩ := hx x List.mem_cons_self
    exact asgW_i e ⟨fun _ => h1 _ (lcW_map (xs := xs) g f (fun y hy => hx y (List.mem_cons_of_mem _ hy)) h), fun z => nomatch z⟩
theorem forW_ind {p : Pat} {wb : WS} {P : PJ} (I : Sta → Prop) : ∀ (items : List D), (∀ d ∈ items, ∀ S, I S → ∀ nx' : Sta → Prop, (∀ S', I S' → nx' S') → asgW p d S.sl fun sl' => wb ⟨sl', S.cs⟩ { P with nx := nx', ct := nx', bk := P.nx }) → (∀ S, I S → P.nx S) → ∀ S, I S → forW p wb items S P
  | [], _, hd, S, hI => hd S hI
  | d :: ds, hs, hd, S, hI => hs d List.mem_cons_self S hI _ fun S' h' => forW_ind I ds (fun e he => hs e (List.mem_cons_of_mem _ he)) hd S' h'
theorem mem_range {lo : Int} {n : Nat} {d : D} (h : d ∈ rangeD lo n) : ∃ i : Nat, i < n ∧ d = .int (lo + i) := by
  unfold rangeD at h
  obtain ⟨i, hi, rfl⟩ := List.mem_map.mp h
  exact ⟨i, List.mem_range.mp hi, rfl⟩
abbrev B := Int × Int
abbrev bx (b : B) : Cell := .lst [.int b.1, .int b.2]
def tk (b : B) (m : Int) : Int := if 0 < b.1 then b.1 % m else ((b.2 * 69623 % 2147483647) * 2147483647 + (((b.2 * 69623 % 2147483647) * 48271 + 30103) % 2147483629 + 1)) / 8191 % m
def nx (b : B) (m : Int) : B := if 0 < b.1 then (b.1 / m, b.2) else (b.1, ((b.2 * 69623 % 2147483647) * 48271 + 30103) % 2147483629 + 1)
def Ok (b : B) : Prop := 0 ≤ b.2 ∧ b.2 < 2 ^ 32
theorem tk_p {b : B} {m : Int} (h : 0 < b.1) : tk b m = b.1 % m := if_pos h
theorem tk_n {b : B} {m : Int} (h : ¬ 0 < b.1) : tk b m = ((b.2 * 69623 % 2147483647) * 2147483647 + (((b.2 * 69623 % 2147483647) * 48271 + 30103) % 2147483629 + 1)) / 8191 % m := if_neg h
theorem nx_p {b : B} {m : Int} (h : 0 < b.1) : nx b m = (b.1 / m, b.2) := if_pos h
theorem nx_n {b : B} {m : Int} (h : ¬ 0 < b.1) : nx b m = (b.1, ((b.2 * 69623 % 2147483647) * 48271 + 30103) % 2147483629 + 1) := if_neg h
theorem Ok.nx {b : B} (h : Ok b) (m : Int) : Ok (nx b m) := by
  by_cases hp : 0 < b.1
  · rw [nx_p hp]; exact h
  · rw [nx_n hp]; constructor <;> dsimp only <;> omega
theorem tk_lo {b : B} {m : Int} (h : 0 < m) : 0 ≤ tk b m := by
  by_cases hp : 0 < b.1
  · rw [tk_p hp]; exact Int.emod_nonneg _ (by omega)
  · rw [tk_n hp]; exact Int.emod_nonneg _ (by omega)
theorem tk_hi {b : B} {m : Int} (h : 0 < m) : tk b m < m := by
  by_cases hp : 0 < b.1
  · rw [tk_p hp]; exact Int.emod_lt_of_pos _ h
  · rw [tk_n hp]; exact Int.emod_lt_of_pos _ h
theorem lg {m : Int} (h0 : 0 < m) (h : m < 2 ^ 200) : m.natAbs.log2 < 9000 := by
  rw [Nat.log2_lt (by omega)]
  have : m.natAbs < 2 ^ 200 := by omega
  exact Nat.lt_of_lt_of_le this (Nat.pow_le_pow_right (by decide) (by omega))
def feedC (ns : List Int) (k : Nat) : Int := if k < ns.length then ns.getD k 0 else if 0 < ns.length then 7919 * (k : Int) + 11 + ns.getD (k % ns.length) 0 % 2147483629 * 69623 else 7919 * (k : Int) + 11
def feedB (ns : List Int) (k : Nat) : B := (if 10 ^ 18 ≤ feedC ns k then feedC ns k else 0, (feedC ns k % 2147483629 + 104729 * (k : Int) + 1) ^ 5 % 2147483647 % 2147483646 + 1)
theorem feedB_ok (ns : List Int) (k : Nat) : Ok (feedB ns k) := by
  unfold Ok feedB
  constructor <;> dsimp only <;> omega
abbrev scD (ns : List Int) : D := .scr (ns.map D.int)
theorem atI_scr {ns : List Int} {k : Nat} (h : k < ns.length) : atI (ns.map D.int) (k : Int) = some (.int (ns.getD k 0)) := by
  refine atI_nat (j := k) ?_
  rw [List.getElem?_map, List.getElem?_eq_getElem h, List.getD_eq_getElem?_getD, List.getElem?_eq_getElem h]
  rfl
end Dl
namespace Dl
open PySem L2
def intsD : List D → Option (List Int)
  | [] => some []
  | .int i :: r => (intsD r).map (i :: ·)
  | _ => none
theorem ints_of : ∀ {ds : List D} {ns : List Int}, intsD ds = some ns → ds = ns.map D.int
  | [], ns, h => by cases h; rfl
  | .int i :: r, ns, h => by
    cases q : intsD r with
    | none => simp [intsD, q] at h
    | some l =>
      simp [intsD, q] at h
      subst h
      rw [ints_of q]
      rfl
  | .non :: _, _, h => nomatch h
  | .bl _ :: _, _, h => nomatch h
  | .str _ :: _, _, h => nomatch h
  | .tup _ :: _, _, h => nomatch h
  | .lst _ :: _, _, h => nomatch h
  | .obj _ _ :: _, _, h => nomatch h
  | .scr _ :: _, _, h => nomatch h
  | .err _ _ _ _ :: _, _, h => nomatch h
  | .cls _ :: _, _, h => nomatch h
  | .dct _ _ :: _, _, h => nomatch h
  | .fn _ :: _, _, h => nomatch h
  | .dcn _ _ :: _, _, h => nomatch h
section
variable {X : Cx} {T : Tab} {cs : List Cell} {s1 : Sl} {ds : List D}
def intsW (ds : List D) (k : List Int → Prop) : Prop := match intsD ds with
  | some ns => k ns
  | none => False
end
section
variable {X : Cx} {T : Tab} {W : WX} {o e : Expr} {wo we : WpE} {pos apos : Pos}
end
end Dl
namespace PySem
end PySem
namespace PySem
end PySem
namespace Dl
open PySem L2
section
variable {X : Cx} {T : Tab} {W : WX} {e : Expr} {wA : WpA} {p pos tpos : Pos} {elts : List Expr} {kk : Nat}
end
end Dl
namespace Dl
open PySem L2
section
variable {X : Cx} {T : Tab} {W : WX} {e o : Expr} {es : List Expr} {kws : List Keyword} {pos apos p : Pos} {wo : WpE} {wA wK : WpA} {c : Ct} {cx : CtX} {k cn pn : Nat} {fd : FuncData} {ps ks : List Str} {m y : Str} {C g : Addr} {fn : List Str} {gg : List Value → List Value → List Value} {gV : List V → List V → List V} {fu : List D → List D → List D}
end
section
variable {T : Tab} {P : Program} {w : World} {K : PySem.W.Frag} {mg : Str → Option Value} {base : Heap} {x qual : Str} {st : Stmt} {f : Addr} {fd : FuncData} {N ps : List Str} {k : Nat} {ws : Nat → WS}
end
end Dl
namespace Dl
open PySem L2
section
variable {X : Cx} {T : Tab} {cs : List Cell}
theorem cmp_isntBl {a b : Bool} : CmpD X T .IsNot (.dat (.bl a)) (.dat (.bl b)) cs (.dat (.bl (!decide (a = b)))) cs := ⟨_, op_isnot_bl, fun ad F H v w Q c r1 r2 q => by
  cases r1
  cases r2
  exact ⟨_, _, rfl, rfl, q _ H ad .refl c Rep.bl⟩⟩
def isBW (neg : Bool) : W2 := fun s1 s2 cs R => match s1, s2 with
  | .dat (.bl a), .dat (.bl b) => R (.dat (.bl (neg.xor (decide (a = b))))) cs
  | _, _ => False
theorem jc_isntB : JCmp X T .IsNot (isBW true) := fun s1 s2 cs R h => by
  unfold isBW at h
  split at h
  · exact ⟨_, _, cmp_isntBl, by simpa using h⟩
  · exact h.elim
end
end Dl
namespace Dl
open PySem L2
section
open PySem.W
variable {M : Model} {prog : Program} {w : World} {A : Around} {E : Value → Shared → Prop} {s : Shared} {K : PySem.W.Frag} {x C f : Addr} {ox : Obj} {od : Option Obj} {b : Value}
theorem ifBound_objNe {args : List Value} {Q : Option Value → Shared → Prop} (X : K.In s.heap) (I : PySem.W.InstAt s.heap x ox C od) (hs : PySem.W.findIn K (.ref C) "__ne__" = some (some (.builtin "object.__ne__")))
    (h : wpAny M A (call (.builtin "object.__ne__") (.ref x :: args)) (fun v => Q (some v)) E s) : wpAny M A (callSpecialIfBound? (.ref x) "__ne__" args) Q E s := by
  simp only [callSpecialIfBound?, bindSpecialIfBound?]
  refine wpAny_holding (wpAny_bind (wpAny_bind (wpAny_bind (I.type.here ((PySem.W.looks_findIn X hs).here ?_)))))
  refine wpAny_bind (wpAny_askSetting (wpAny_ite ?_))
  have fin : wpAny M A (call (.builtin "object.__ne__") ([.ref x] ++ args) >>= fun v => pure (some v)) Q E s := wpAny_bind (wpAny_mono h (fun v s' h' => wpAny_pure h') fun _ _ h' => h')
  split
  · exact wpAny_bind (wpAny_of_eq (F.cmp_object.ne.bind _) (wpAny_pure (by exact fin)))
  · exact wpAny_tryCatch (wpAny_bind (wpAny_of_eq (F.cmp_object.ne.bind _) (wpAny_pure (by exact fin))))
theorem entry_objNe {Q : Fin → Shared → Prop} (hu : A.units < cLine) (X : K.In s.heap) (I : PySem.W.InstAt s.heap x ox C od) (hs : PySem.W.findIn K (.ref C) "__eq__" = some (some (.ref f))) (hf : PySem.W.isFn K (.ref f) = true)
    (hcall : wpAny M A (call (.ref f) [.ref x, b]) (fun v s' => ∃ k, v = .bool k ∧ Q (.done (.ret (.bool (!k)))) s') E s) : wpAny M A (Builtin.«object.__ne__» ⟨[.ref x, b], []⟩) Q E s := by
  unfold Builtin.«object.__ne__»
  repeat (first
    | with_reducible refine wpAny_cRoomFor hu ?_
    | (refine wpAny_bind (m := callSpecialIfBound? (.ref x) (Str.ofString "__eq__") [b])
        (ifBound_K X I hs hf (wpAny_mono hcall (fun r s' hr => by
          obtain ⟨k, rfl, hq⟩ := hr
          repeat (first | exact hq | exact wpAny_pure hq | exact wpAny_truthy_bool hq | (refine wpAny_bind (m := truthy (.bool _)) (wpAny_truthy_bool ?_)) | wp_step)) fun _ _ e => e)))
    | wp_step)
theorem ne_K {Q : Value → Shared → Prop} (hu : A.units + 1 < cLine) (X : K.In s.heap) (I : InstAt s.heap x ox C od) (hb : Looks (model prog w) s.heap (typeOf b) (.ref C)) (hm : mroIn K C (.type "object") = some true)
    (hn : findIn K (.ref C) "__ne__" = some (some (.builtin "object.__ne__"))) (hs : findIn K (.ref C) "__eq__" = some (some (.ref f))) (hf : isFn K (.ref f) = true)
    (h : wpAny (model prog w) A.in1 (call (.ref f) [.ref x, b]) (fun v s' => ∃ k, v = .bool k ∧ Q (.bool (!k)) s') E s) : wpAny (model prog w) A (richCompare .NotEq (.ref x) b) Q E s := by
  have one : wpAny (model prog w) A (tryCompare (.ref x) "__ne__" b) (fun r s' => ∃ v, r = some v ∧ Q v s') E s := by
    unfold tryCompare
    refine wpAny_bind (ifBound_objNe X I hn (wpAny_call (codeAny_call_builtin F.cmp_object.ne.plain F.cmpEntry_ne (PySem.W.check_slot F.cmpKind_ne F.cmpSplit_ne (I.type.andThen (PySem.W.looks_mroIn X hm)) (F.cmpArgs_ne _ _) (entry_objNe (A := A.in1) hu X I hs hf (wpAny_mono h (fun v s' hv => ?_) fun _ _ e => e))))))
    obtain ⟨k, rfl, hq⟩ := hv
    exact ⟨k, rfl, wpAny_pure ⟨_, rfl, hq⟩⟩
  unfold richCompare
  simp only [oneThing_ref]
  refine wpAny_holding (wpAny_bind (wpAny_cRoomFor (Nat.lt_of_succ_lt hu) ?_))
  rw [cmpInfo_NotEq]
  dsimp only
  refine wpAny_bind (I.type.here (wpAny_bind (hb.here ?_)))
  split
  · rename_i q
    exact absurd q (by simp)
  · refine wpAny_bind (wpAny_pure ?_)
    simp only [Bool.false_eq_true, if_false]
    refine wpAny_bind (wpAny_mono one (fun r s' z => ?_) fun _ _ e => e)
    obtain ⟨v, rfl, hq⟩ := z
    exact wpAny_pure hq
end
end Dl
namespace Dl
open PySem L2
structure NeC (K : PySem.W.Frag) (C : Addr) : Prop where
  mr : PySem.W.mroIn K C (.type "object") = some true
  ne : PySem.W.findIn K (.ref C) "__ne__" = some (some (.builtin "object.__ne__"))
section
variable {X : Cx} {T : Tab} {C g : Addr} {fd : FuncData} {ps : List Str} {k cn : Nat} {c : Ct} {fn : List Str} {ds es : List D} {d : D} {cs : List Cell} {w2 : W2}
theorem cop_ownNe {sp : Sp} (N : NeC X.K C) (G : FnOk X.prog X.w X.K X.mg X.base CX0 k g fd ps sp) (hr : Room (k + 1) X.A) (hb : Binds X.K fd ps []) (hs : PySem.W.findIn X.K (.ref C) "__eq__" = some (some (.ref g))) (hf : PySem.W.isFn X.K (.ref g) = true) :
    OpR X (compareOp .NotEq) (fun x y H Q => ∃ a b dx dy fs gs, x = .ref a ∧ y = .ref b ∧ H a = some (.ins C dx fs) ∧ H b = some (.ins C dy gs) ∧ sp [x, y] H (fun v H' => ∃ b, v = .bl b ∧ Q (.bl (!b)) H') E0) := by
  intro pins s σ H x y v u Q I rx ry h
  obtain ⟨a, b, dx, dy, fs, gs, rfl, rfl, ea, eb, hsp⟩ := h
  cases rx; cases ry
  obtain ⟨mA, J, _⟩ := ins_get I.hok ea
  obtain ⟨mB, J', _⟩ := ins_get I.hok eb
  obtain ⟨od, J, _⟩ := J.look
  obtain ⟨od', J', _⟩ := J'.look
  have hu : X.A.units + 1 < cLine := by
    have := hr.in1.units0
    exact this
  show wpAny _ _ (richCompare .NotEq (.ref a) (.ref b)) _ _ _
  refine ne_K hu I.kIn J J'.type N.mr N.ne hs hf (thn (run_in1 (us := [.ref a, .ref b]) (vs := [.ref a, .ref b]) G hr hb I (.cons rfl (.cons rfl .nil)) hsp) fun u s' z => ?_)
  obtain ⟨v, H', I', r, b', rfl, q⟩ := z
  cases (show u = Value.bool b' from r)
  exact ⟨b', rfl, .bl (!b'), H', I', rfl, q⟩
theorem call_lenO {sp : Sp} (G : FnOk X.prog X.w X.K X.mg X.base CX0 k g fd ps sp) (hr : Room (k + 1) X.A) (hb : Binds X.K fd ps []) (hs : PySem.W.findIn X.K (.ref C) "__len__" = some (some (.ref g))) (hf : PySem.W.isFn X.K (.ref g) = true) :
    CallR X (.builtin "len") (fun xs H Q => ∃ a dx fs, xs = [.ref a] ∧ H a = some (.ins C dx fs) ∧ sp [.ref a] H (fun v H' => ∃ n, v = .int n ∧ (0 ≤ n ∧ n < 2 ^ 63) ∧ Q (.int n) H') E0) := by
  intro pins s σ H xs us Q I r h
  obtain ⟨a, dx, fs, rfl, ea, hsp⟩ := h
  obtain ⟨u, rfl, ru⟩ := vals1 r
  cases (show u = Value.ref a from ru)
  obtain ⟨od, J⟩ := inst_get I ea
  obtain ⟨m, hF⟩ := I.fr
  refine PySem.W.len_K hF I.ok.mod.kin J hs hf (thn (run_in1 (us := [.ref a]) (vs := [.ref a]) G hr hb I (.cons rfl .nil) hsp) fun u s' z => ?_)
  obtain ⟨v, H', I', r, n, rfl, hn, q⟩ := z
  obtain ⟨t, e⟩ := (show ∃ t, u = Value.int n t from r)
  subst e
  exact ⟨hn, .int n, H', I'.kept (t' := s'.toks + 1) (fun b ob z => z), ⟨_, rfl⟩, q⟩
end
end Dl
namespace Dl
open PySem L2
section
variable {X : Cx} {T : Tab} {W : WX} {o : Expr} {kws : List Keyword} {pos apos p : Pos} {wo : WpE} {wK : WpA} {c : Ct} {cx : CtX} {k cn : Nat} {fd : FuncData} {ps ks : List Str} {m y : Str} {C g : Addr} {fn : List Str} {gV : List V → List V → List V} {fu : List D → List D → List D}
end
section
variable {X : Cx} {T : Tab} {W : WX} {e e2 e3 : Expr} {wA : WpA} {p pos tpos : Pos} {elts : List Expr} {kk : Nat}
end
end Dl
namespace Dl
open PySem L2
section
variable {X : Cx} {T : Tab} {W : WX} {n : Nat} {a b : Expr} {wA : WpA} {x y : Str} {px py pt pt2 pos : Pos} {kt k2 : Nat}
end
end Dl
namespace Dl
open PySem L2
structure OthC (K : PySem.W.Frag) (C : Addr) : Prop where
  a1 : PySem.W.subIn K (.type "NoneType") (.ref C) = some false
  a2 : PySem.W.subIn K (.type "bool") (.ref C) = some false
  a3 : PySem.W.subIn K (.type "int") (.ref C) = some false
  a4 : PySem.W.subIn K (.type "str") (.ref C) = some false
  a5 : PySem.W.subIn K (.type "tuple") (.ref C) = some false
  a6 : PySem.W.subIn K (.type "list") (.ref C) = some false
theorem OthC.of {K : PySem.W.Frag} {C : Addr} (h : OthC K C) {d : D} {t : String} (e : tyD d = some t) : PySem.W.subIn K (.type t) (.ref C) = some false := by
  cases d with
  | non => cases e; exact h.a1
  | bl _ => cases e; exact h.a2
  | int _ => cases e; exact h.a3
  | str _ => cases e; exact h.a4
  | tup _ => cases e; exact h.a5
  | lst _ => cases e; exact h.a6
  | scr _ => cases e; exact h.a6
  | obj _ _ => cases e
  | err _ _ _ _ => cases e
  | cls _ => cases e
  | dct _ _ => cases e
  | fn _ => cases e
  | dcn _ _ => cases e
section
open PySem.W
variable {prog : Program} {w : World} {A : Around} {E : Value → Shared → Prop} {s : Shared} {K : PySem.W.Frag} {x C f : Addr} {ox : Obj} {od : Option Obj} {b tb : Value}
theorem ne_KT {Q : Value → Shared → Prop} (hu : A.units + 1 < cLine) (X : K.In s.heap) (I : InstAt s.heap x ox C od) (hb : Looks (model prog w) s.heap (typeOf b) tb) (hsub : subIn K tb (.ref C) = some false) (hm : mroIn K C (.type "object") = some true)
    (hn : findIn K (.ref C) "__ne__" = some (some (.builtin "object.__ne__"))) (hs : findIn K (.ref C) "__eq__" = some (some (.ref f))) (hf : isFn K (.ref f) = true)
    (h : wpAny (model prog w) A.in1 (call (.ref f) [.ref x, b]) (fun v s' => ∃ k, v = .bool k ∧ Q (.bool (!k)) s') E s) : wpAny (model prog w) A (richCompare .NotEq (.ref x) b) Q E s := by
  have one : wpAny (model prog w) A (tryCompare (.ref x) "__ne__" b) (fun r s' => ∃ v, r = some v ∧ Q v s') E s := by
    unfold tryCompare
    refine wpAny_bind (ifBound_objNe X I hn (wpAny_call (codeAny_call_builtin F.cmp_object.ne.plain F.cmpEntry_ne (PySem.W.check_slot F.cmpKind_ne F.cmpSplit_ne (I.type.andThen (PySem.W.looks_mroIn X hm)) (F.cmpArgs_ne _ _) (entry_objNe (A := A.in1) hu X I hs hf (wpAny_mono h (fun v s' hv => ?_) fun _ _ e => e))))))
    obtain ⟨k, rfl, hq⟩ := hv
    exact ⟨k, rfl, wpAny_pure ⟨_, rfl, hq⟩⟩
  unfold richCompare
  simp only [oneThing_ref]
  refine wpAny_holding (wpAny_bind (wpAny_cRoomFor (Nat.lt_of_succ_lt hu) ?_))
  rw [cmpInfo_NotEq]
  dsimp only
  refine wpAny_bind (I.type.here (wpAny_bind (hb.here ?_)))
  split
  · refine wpAny_bind ((looks_subIn X hsub).here ?_)
    simp only [Bool.false_eq_true, if_false]
    refine wpAny_bind (wpAny_mono one (fun r s' z => ?_) fun _ _ e => e)
    obtain ⟨v, rfl, hq⟩ := z
    exact wpAny_pure hq
  · refine wpAny_bind (wpAny_pure ?_)
    simp only [Bool.false_eq_true, if_false]
    refine wpAny_bind (wpAny_mono one (fun r s' z => ?_) fun _ _ e => e)
    obtain ⟨v, rfl, hq⟩ := z
    exact wpAny_pure hq
end
section
variable {X : Cx} {T : Tab} {C g : Addr} {fd : FuncData} {ps : List Str} {k cn : Nat} {c : Ct} {fn : List Str} {ds es : List D} {d : D} {cs : List Cell} {w2 : W2} {t : String}
theorem cop_ownEqD {sp : Sp} (O : OthC X.K C) (G : FnOk X.prog X.w X.K X.mg X.base CX0 k g fd ps sp) (hr : Room k X.A) (hb : Binds X.K fd ps []) (hs : PySem.W.findIn X.K (.ref C) "__eq__" = some (some (.ref g))) (hf : PySem.W.isFn X.K (.ref g) = true) :
    OpR X (compareOp .Eq) (fun x y H Q => ∃ a dx fs t, x = .ref a ∧ H a = some (.ins C dx fs) ∧ TyX X.K H y (.type t) ∧ PySem.W.subIn X.K (.type t) (.ref C) = some false ∧ sp [x, y] H Q E0) := by
  intro pins s σ H x y v u Q I rx ry h
  obtain ⟨a, dx, fs, t, rfl, ea, ty, hsub, hsp⟩ := h
  cases rx
  obtain ⟨mA, J, _⟩ := ins_get I.hok ea
  obtain ⟨od, J, _⟩ := J.look
  obtain ⟨Pk, kx, pk, _⟩ := kit_of I ry ty
  obtain ⟨m, hF⟩ := I.fr
  exact PySem.W.cmp_K (op := .Eq) (tb := .type t) hr.units0 hF I.ok.mod.kin J (kx.ty _ _ I.kIn pk) (by simp [PySem.W.notFirst, hsub]) hs hf (thn (run_vals (us := [.ref a, u]) (vs := [.ref a, y]) G hr hb I (.cons rfl (.cons ry .nil)) hsp) fun _ _ z => cmpb z)
theorem cop_ownNeD {sp : Sp} (N : NeC X.K C) (G : FnOk X.prog X.w X.K X.mg X.base CX0 k g fd ps sp) (hr : Room (k + 1) X.A) (hb : Binds X.K fd ps []) (hs : PySem.W.findIn X.K (.ref C) "__eq__" = some (some (.ref g))) (hf : PySem.W.isFn X.K (.ref g) = true) :
    OpR X (compareOp .NotEq) (fun x y H Q => ∃ a dx fs t, x = .ref a ∧ H a = some (.ins C dx fs) ∧ TyX X.K H y (.type t) ∧ PySem.W.subIn X.K (.type t) (.ref C) = some false ∧ sp [x, y] H (fun v H' => ∃ b, v = .bl b ∧ Q (.bl (!b)) H') E0) := by
  intro pins s σ H x y v u Q I rx ry h
  obtain ⟨a, dx, fs, t, rfl, ea, ty, hsub, hsp⟩ := h
  cases rx
  obtain ⟨mA, J, _⟩ := ins_get I.hok ea
  obtain ⟨od, J, _⟩ := J.look
  obtain ⟨Pk, kx, pk, _⟩ := kit_of I ry ty
  have hu : X.A.units + 1 < cLine := hr.in1.units0
  show wpAny _ _ (richCompare .NotEq (.ref a) u) _ _ _
  refine ne_KT hu I.kIn J (kx.ty _ _ I.kIn pk) hsub N.mr N.ne hs hf (thn (run_in1 (us := [.ref a, u]) (vs := [.ref a, y]) G hr hb I (.cons rfl (.cons ry .nil)) hsp) fun u s' z => ?_)
  obtain ⟨v, H', I', r, b', rfl, q⟩ := z
  cases (show u = Value.bool b' from r)
  exact ⟨b', rfl, .bl (!b'), H', I', rfl, q⟩
def isOth : Sl → Bool
  | .dat d => (tyD d).isSome
  | .cel _ => false
theorem isOth_of {s : Sl} (h : isOth s = true) : ∃ d t, s = .dat d ∧ tyD d = some t := by
  cases s with
  | cel _ => cases h
  | dat d => exact ⟨d, (tyD d).get h, rfl, (Option.some_get h).symm⟩
end
section
variable {X : Cx} {T : Tab} {W : WX} {e : Expr} {wa : WpE} {pos p1 p2 p3 : Pos} {k : Nat}
end
end Dl
namespace Dl
open PySem L2
section
variable {T : Tab} {K : PySem.W.Frag} {M M' : Addr → Prop} {H : Hp} {a : Addr} {xs : List V}
end
section
variable {X : Cx} {T : Tab} {W : WX} {e : Expr} {we : WpE} {pos p : Pos} {c : Ct} {k : Nat} {fd : FuncData} {ps : List Str} {y : Str} {C g : Addr} {fn : List Str} {cn : Nat}
end
section
variable {X : Cx} {T : Tab} {W : WX} {o : Expr} {wo : WpE} {pos apos : Pos}
end
end Dl
namespace Dl
open PySem L2
section
variable {X : Cx} {T : Tab} {W : WX} {e : Expr} {wt : WpT}
end
end Dl
namespace Dl
open PySem L2
section
open PySem.W PySem.Calls
variable {M : Model} {A : Around} {E : Value → Shared → Prop} {s : Shared} {pos : Pos} {x C : Addr} {ox : Obj} {Q : Value → Shared → Prop} {env : Env} {e : Expr} {rest : List Expr}
end
section
variable {X : Cx} {x : Str} {p pos : Pos} {e : Expr} {es : List Expr}
end
section
variable {X : Cx} {T : Tab} {W : WX} {x : Str} {p pos : Pos} {e : Expr} {es : List Expr} {wo : WpE} {wA : WpA} {C g : Addr} {k cn : Nat} {fd : FuncData} {ps : List Str} {c : Ct} {cx : CtX} {fn : List Str}
end
end Dl
namespace Dl
open PySem L2
section
variable {X : Cx} {T : Tab}
theorem cb_reprI {i : Int} {cs : List Cell} (h : i.natAbs.log2 < 1920) : CalB X T "repr" [.dat (.int i)] cs (.dat (.str (toString i))) cs := ⟨_, _, by decide +kernel, .inl ⟨_, rfl⟩, SkE.call_repr_int, fun ad F H vs Q c r q => by
  match vs, r with
  | [v], r =>
    have r1 := r.1
    cases r1
    exact ⟨i, rfl, h, q _ H ad .refl c Rep.str⟩⟩
end
section
variable {X : Cx} {T : Tab} {W : WX} {a b : Expr} {wA : WpA} {p p2 pos pos2 : Pos}
end
end Dl
namespace HT
open PySem PySem.Spec PyProof.Rows
section
variable {prog : Program} {w : World} {A : Around} {E : Value → Shared → Prop} {s : Shared}
end
end HT
namespace Dl
open PySem L2 PySem.Spec PyProof.Rows
section
variable {X : Cx} {T : Tab} {W : WX} {e : Expr} {wa : WpE} {pos p1 p2 p3 : Pos} {k : Nat}
end
end Dl
namespace Dl
open PySem L2
section
variable {X : Cx} {T : Tab} {W : WX} {x : Str} {pos : Pos} {i : Int}
end
end Dl
namespace Dl
open PySem L2
section
variable {X : Cx} {T : Tab} {W : WX} {e : Expr} {es : List Expr} {kws : List Keyword} {pos p : Pos} {wA wK : WpA} {c : Ct} {cx : CtX} {k pn : Nat} {fd : FuncData} {ps ks : List Str} {y : Str} {C g : Addr} {fn : List Str} {cn : Nat} {gg : List Value → List Value → List Value} {gV : List V → List V → List V} {fu : List D → List D → List D}
theorem run_mkS {CX : CXT} {sp : Sp} {E : XK} {pins : List (Addr × Obj)} {σ : St} {H : Hp} {sh : Shared} {Q : VK} {us ws : List Value} {vs zs : List V} (M : Mk X.K C g) (G : FnOk X.prog X.w X.K X.mg X.base CX k g fd ps sp) (hr : Room (k + 1) X.A) (hb : KBn X.K fd ps (pn + 1) ks gg gV) (hx : PassesAt CX X σ E)
    (I : Inv X pins σ H sh) (r : Vals vs us) (rz : Vals zs ws) (l1 : vs.length = pn) (l2 : zs.length = ks.length)
    (h : ∀ a b, H a = none → H b = none → b ≠ a → sp (gV (.ref a :: vs) zs) (upd (upd H b (.own a)) a (.ins C b [])) (fun v H2 => v = .non ∧ Q (.ref a) H2) E) :
    wpAny (model X.prog X.w) X.A (call (.ref C) us (ks.zip ws)) (EP X pins σ Q) X.xe sh := by
  let n := sh.heap.objs.size
  have J := Inv.made (C := C) I
  have hs := h (n + 1) n (I.hok.fresh (Nat.le_succ n)) (I.hok.fresh (Nat.le_refl n)) (Nat.ne_of_lt (Nat.lt_succ_self n))
  have rs := hb.rel (show Vals (V.ref (n + 1) :: vs) (Value.ref (n + 1) :: us) from .cons rfl r) rz
  have bt := hb.to _ (Value.ref (n + 1) :: us) ws J.kIn (by rw [List.length_cons, ← r.length, l1]) (by rw [← rz.length]; exact l2)
  have run := G.run _ X.stack _ _ ⟨Value.ref (n + 1) :: us, ks.zip ws⟩ _ _ _ E (hr.make C us (ks.zip ws)) (J.env0.make C us (ks.zip ws)) bt rs hs
  refine wpAny_call (make_map (f := g) I.kIn M.makes M.init (beq_iff_eq.mp M.fn) (codeAny_mono run fun o s' z => ?_))
  match o, z with
  | .error v, z => exact hx pins _ _ v s' J z
  | .ok (.ret u), z =>
    obtain ⟨v, H', J', rv, rfl, q⟩ := J.after z
    exact ⟨rv, V.ref (n + 1), H', J', rfl, q⟩
  | .ok .next, z => exact z.elim
  | .ok .brk, z => exact z.elim
  | .ok .cont, z => exact z.elim
def tMkS (C : Addr) (n m : Nat) (sp : Sp) (gV : List V → List V → List V) (E : St → XK) (t tk : TA) : TE := fun σ H Q => t σ H fun vs H1 => tk σ H1 fun zs H2 => vs.length = n ∧ zs.length = m ∧ ∀ a b, H2 a = none → H2 b = none → b ≠ a →
  sp (gV (.ref a :: vs) zs) (upd (upd H2 b (.own a)) a (.ins C b [])) (fun v H3 => v = .non ∧ Q (.ref a) H3) (E σ)
theorem pe_mkS {CX : CXT} {sp : Sp} {E : St → XK} {t tk : TA} (M : Mk X.K C g) (G : FnOk X.prog X.w X.K X.mg X.base CX k g fd ps sp) (hr : Room (k + 1) X.A) (hg : Gl X y) (hm : X.mg y = some (.ref C)) (hb : KBn X.K fd ps (pn + 1) ks gg gV) (hx : ∀ σ, PassesAt CX X σ (E σ)) (ha : PA X (e :: es) t) (hkw : PK X kws tk)
    (hall : (backToKw pos (keywordEach kws X.env)).all (·.1.isSome) = true) (hks : (backToKw pos (keywordEach kws X.env)).filterMap (·.1) = ks) (hdb : (y == ("__debug__" : Str)) = false)
    (he : starEach (e :: es) X.env = (false, eval e X.env) :: starEach es X.env) (hpl : ((backTo pos (starEach (e :: es) X.env)).any (·.1) || (backToKw pos (keywordEach kws X.env)).any (·.1.isNone)) = false) :
    PE X (.Call (.Name y p) (e :: es) kws pos) (tMkS C pn ks.length sp gV E t tk) := by
  constructor
  intro pins sh σ H Q I h
  refine wpAny_Call_Name_kw (ld_glob I hg hm (PySem.W.callWith_KW (h₀ := X.base) I.ok.mod.kin M.kp hall (thn (ha.run pos pins sh σ H _ I h) fun us s1 z1 => ?_) hpl he) hdb)
  obtain ⟨vs, H1, I1, r1, q1⟩ := z1
  refine thn (hkw.run pos pins s1 σ H1 _ I1 q1) fun ws s2 z2 => ?_
  obtain ⟨zs, H2, I2, r2, l1, l2, q2⟩ := z2
  exact ⟨I2.kIn, by rw [hks]; exact run_mkS M G hr hb (hx σ) I2 r1 r2 l1 l2 q2⟩
end
end Dl
namespace Dl
open PySem L2 PySem.Spec PyProof.Rows
structure FnG (P : Program) (w : World) (K : PySem.W.Frag) (mg : Str → Option Value) (base : Heap) (C : CXT) (k : Nat) (f : Addr) (fd : FuncData) (ps : List Str) (sp : Sp) : Prop where
  ln : ∀ {vs : List V} {H : Hp} {Q : VK} {E : XK}, sp vs H Q E → vs.length = ps.length
  go : ∀ {A : Around} {fs : List Env} {s : Shared} {H : Hp} {as : Args} {us : List Value} {vs : List V} {Q : VK} {E : XK}, A.guards = some [] → Room k A → Env0 P w K mg base A fs s H → BindsTo s fd as (ps.zip us) → Vals vs us → sp vs H Q E →
    codeAny (model P w) A (.call (.ref f) as) (CR C fs P w H s Q E) s
section
variable {P : Program} {w : World} {K : PySem.W.Frag} {mg : Str → Option Value} {base : Heap} {C : CXT} {k : Nat} {f : Addr} {fd : FuncData} {ps N : List Str} {sp sp' : Sp}
theorem FnG.of (F : FnOk P w K mg base C k f fd ps sp) : FnG P w K mg base C k f fd ps sp := ⟨fun h => F.len _ _ _ _ h, fun _ hr e b v h => F.run _ _ _ _ _ _ _ _ _ hr e b v h⟩
theorem FnG.to (F : FnG P w K mg base C k f fd ps sp) (h : ∀ vs H Q E, sp' vs H Q E → sp vs H Q E) : FnG P w K mg base C k f fd ps sp' := ⟨fun q => F.ln (h _ _ _ _ q), fun g hr e b v q => F.go g hr e b v (h _ _ _ _ q)⟩
theorem fn_g {nm qual : Str} {pa : Arguments} {body : List Stmt} {scope : Scope} {dV kV doc pm cdv ct oc : Value} {an od : Option Addr} {osl : Array (Option Value)} (l1 : K.lookup f = some ⟨oc, od, .func (PySem.W.fnOf nm qual pa body scope dV kV doc pm an cdv ct), osl⟩) (l2 : PySem.W.codeIn K cdv qual = true) (Sc : FnScope N ps scope)
    (ln : ∀ {vs : List V} {H : Hp} {Q : VK} {E : XK}, sp vs H Q E → vs.length = ps.length)
    (hb : ∀ (A : Around) (fs : List Env) (s : Shared) (H : Hp) (vs : List V) (Q : VK) (E : XK), A.guards = some [] → Room k (A.deeper (envOfC qual scope s.heap.objs.size f cdv)) → sp vs H Q E → ∃ t, PSs (cxOf C P w K mg base N qual scope f cdv A fs s H E) body t ∧ t { nx := fun _ H' => Q .non H', rt := Q } (L2.start N vs) H) :
    FnG P w K mg base C (k + 1) f (PySem.W.fnOf nm qual pa body scope dV kV doc pm an cdv ct) ps sp := ⟨ln, fun {A fs s H as us vs Q E} g hr e b v h => by
  have ok := e.mod.kin.keeps fun a o z => (e.bs a o z).1
  refine codeAny_call_function hr.depth (ok _ _ l1) rfl Sc.co Sc.gen rfl (PySem.W.codeRec_of ok l2) (b _ _ _ _ ?_)
  refine wpAny_newFunctionEnv_cells Sc.kind (fun y hy => (Sc.par y.1 (List.of_mem_zip (a := y.1) (b := y.2) hy).1).imp id fun q => ⟨q, PySem.W.cellsFrom_some _ _ _ (.inl q)⟩) fun env he s1 x => ?_
  cases he
  refine ⟨(e.mod.nolimit.keeps fun a o z => (e.bs a o z).1).keeps x.toInCall.keep, codeAny_func ?_⟩
  obtain ⟨t, ht, hq⟩ := hb A fs s H vs Q E g (hr.deeper _) h
  refine wpAny_mono (ht.run [] s1 (L2.start N vs) H _ (inv_start Sc hr.hd e (ln h) v x) hq) (fun fl s' z => ?_) fun _ _ z => z
  match fl, z with
  | .ret u, ⟨v, _, H', J, rv, q⟩ => exact ⟨v, H', J.os, J.bare, J.base, J.hok, rv, q⟩
  | .next, ⟨_, H', J, q⟩ => exact ⟨.non, H', J.os, J.bare, J.base, J.hok, rfl, q⟩
  | .brk, ⟨_, _, _, q⟩ => exact q.elim
  | .cont, ⟨_, _, _, q⟩ => exact q.elim⟩
end
section
variable {T : Tab} {P : Program} {w : World} {K : PySem.W.Frag} {mg : Str → Option Value} {base : Heap} {x qual : Str} {st : Stmt} {f : Addr} {fd : FuncData} {N ps : List Str} {k : Nat} {ws : Nat → WS}
end
section
variable {X : Cx} {T : Tab} {W : WX} {e : Expr} {es : List Expr} {pos p : Pos} {wA : WpA} {c : Ct} {k : Nat} {f : Addr} {fd : FuncData} {ps : List Str} {y : Str} {sp : Sp} {E : XK}
theorem run_g {C : CXT} {pins : List (Addr × Obj)} {σ : L2.St} {H : Hp} {s : Shared} {Q : VK} {us : List Value} {vs : List V} (F : FnG X.prog X.w X.K X.mg X.base C k f fd ps sp) (hG : X.A.guards = some []) (hr : Room k X.A) (hb : Binds X.K fd ps []) (hx : Passes C X E)
    (I : Inv X pins σ H s) (r : Vals vs us) (h : sp vs H Q E) : wpAny (model X.prog X.w) X.A (call (.ref f) us) (EP X pins σ Q) X.xe s := by
  have b := hb s us I.kIn (by rw [List.append_nil, ← r.length]; exact F.ln h)
  rw [List.append_nil] at b
  refine wpAny_call (codeAny_mono (F.go hG hr I.env0 b r h) fun z s' q => ?_)
  match z, q with
  | .error e, q => exact hx pins σ H s e s' I q
  | .ok (.ret u), q => exact I.after q
  | .ok .next, q => exact q.elim
  | .ok .brk, q => exact q.elim
  | .ok .cont, q => exact q.elim
theorem pe_callG {C : CXT} {t : TA} (F : FnG X.prog X.w X.K X.mg X.base C k f fd ps sp) (hG : X.A.guards = some []) (hr : Room k X.A) (hg : Gl X y) (hm : X.mg y = some (.ref f)) (hk : PySem.W.keepIn X.K (.ref f) = true) (hb : Binds X.K fd ps []) (hx : Passes C X E) (ha : PA X (e :: es) t)
    (hd : (y == ("__debug__" : Str)) = false) (he : starEach (e :: es) X.env = (false, eval e X.env) :: starEach es X.env) (hp : (backTo pos (starEach es X.env)).any (·.1) = false) : PE X (.Call (.Name y p) (e :: es) [] pos) (fun σ H Q => t σ H fun vs H1 => sp vs H1 Q E) := ⟨fun pins s σ H Q I h =>
  wpAny_Call_Name_kw (ld_glob I hg hm (PySem.W.callWith_K (h₀ := X.base) I.ok.mod.kin hk (thn (ha.run pos pins s σ H _ I h) fun us s1 ⟨vs, H1, I1, r, q⟩ => ⟨I1.kIn, run_g F hG hr hb hx I1 r q⟩) he hp) hd)⟩
end
section
variable {X : Cx} {T : Tab}
theorem call_reprD (hG : X.A.guards = some []) (hu : X.A.units + 64 < cLine) : CallR X (.builtin "repr") (fun xs H Q => ∃ v d, xs = [v] ∧ Dp X.K H v d ∧ PyProof.Rows.isDisplay d = true ∧ d.showable = true ∧ d.hasDict = false ∧ d.depth ≤ 60 ∧ d.shown.length ≤ sizeLine ∧ Q (.str d.shown) H) := by
  intro pins s σ H xs us Q I r h
  obtain ⟨v, d, rfl, hd, h1, h2, h3, h4, h5, q⟩ := h
  obtain ⟨u, rfl, ru⟩ := vals1 r
  obtain ⟨as, rd⟩ := Dp.reads I d v u hd ru
  obtain ⟨a, rfl⟩ := PyProof.Rows.isRef_of_reads rd h1
  exact repr_of_reads' rd h2 (PyData.noDict_hsm h3) hG (by omega) (fun _ _ z => z) (fun h' t tk hk => ⟨.str d.shown, H, I.kept hk, ⟨t, rfl⟩, q⟩) h5
def okR (d : D) : Bool := d.plain && d.py.showable && !d.py.hasDict && decide (d.py.depth ≤ 60)
def rprD (d : D) : Str := d.py.shown
theorem cb_reprD {d : D} {cs : List Cell} (hG : X.A.guards = some []) (hu : X.A.units + 64 < cLine) (hd : PyProof.Rows.isDisplay d.py = true) (ho : okR d = true) (hl : (rprD d).length ≤ sizeLine) : CalB X T "repr" [.dat d] cs (.dat (.str (rprD d))) cs := ⟨_, _, by decide +kernel, .inl ⟨_, rfl⟩, call_reprD hG hu, fun ad F H vs Q c r q => by
  match vs, r with
  | [v], r =>
    unfold okR at ho
    simp only [Bool.and_eq_true, Bool.not_eq_true', decide_eq_true_eq] at ho
    exact ⟨v, d.py, rfl, Rep.dp r.1 ho.1.1.1, hd, ho.1.1.2, ho.1.2, ho.2, hl, q _ H ad .refl c Rep.str⟩⟩
def reprW : WC := fun ss cs R => match ss with
  | [.dat (.int i)] => i.natAbs.log2 < 1920 ∧ R (.dat (.str (toString i))) cs
  | [.dat (.tup ds)] => okR (.tup ds) = true ∧ (rprD (.tup ds)).length ≤ sizeLine ∧ R (.dat (.str (rprD (.tup ds)))) cs
  | [.dat (.lst ds)] => okR (.lst ds) = true ∧ (rprD (.lst ds)).length ≤ sizeLine ∧ R (.dat (.str (rprD (.lst ds)))) cs
  | _ => False
theorem jc_repr (hG : X.A.guards = some []) (hu : X.A.units + 64 < cLine) : JCall X T "repr" reprW := ⟨⟨.builtin "repr", by decide +kernel, .inl ⟨_, rfl⟩⟩, fun ss cs R h => by
  unfold reprW at h
  split at h
  · exact ⟨_, _, cb_reprI h.1, h.2⟩
  · exact ⟨_, _, cb_reprD hG hu rfl h.1 h.2.1, h.2.2⟩
  · exact ⟨_, _, cb_reprD hG hu rfl h.1 h.2.1, h.2.2⟩
  · exact h.elim⟩
end
end Dl
namespace Dl
open PySem L2 PySem.Spec PyProof.Rows
section
variable {P : Program} {w : World} {K : PySem.W.Frag} {mg mb : Str → Option Value} {a : Addr} {s : Shared} {vs : List Value} {H : Hp}
theorem top_env (KX : K.In s.heap) (n1 : s.heap.Ns mainGlobals mg) (n2 : s.heap.Ns builtinsNs mb) (n3 : ∀ x : Str, x ≠ "__name__" → mb x = bootBuiltins x) (n4 : s.heap.NoLimit) (n5 : s.gens = #[])
    (ha : s.heap.get? a = some { cls := .type "list", data := .seq vs.toArray }) (hok : HOk P w H s.heap) (one : ∀ b, b = a ∨ H b = none) (out : H a = none ∨ K.lookup a = none) :
    ∃ base : Heap, K.In base ∧ base.Ns mainGlobals mg ∧ Env0 P w K mg base callerA [] s H := by
  have ns : ∀ {b : Addr} {m : Str → Option Value}, s.heap.Ns b m → (hidT s.heap H).Ns b m := by
    rintro b m ⟨o, es, ep, e, d, r⟩
    refine ⟨o, es, ep, hidT_get e ((one b).resolve_left fun z => ?_), d, r⟩
    rw [z, ha] at e
    cases e
    exact nomatch (show Data.seq vs.toArray _ = Data.dict es ep from d)
  have kin : K.In (hidT s.heap H) := by
    intro b o e
    refine hidT_get (KX b o e) ?_
    rcases one b with z | z
    · rw [z] at e ⊢
      exact out.resolve_right fun y => by rw [y] at e; cases e
    · exact z
  obtain ⟨mc, l1, l2⟩ := n4
  exact ⟨_, kin, ns n1, rfl, ⟨kin, ns n1, ⟨mb, ns n2, n3⟩, ⟨mc, ns l1, l2⟩⟩, fun _ _ e => of_hidT e, Nat.le_of_eq (hidT_size _ _), trivial, (fun _ z => nomatch z), hok, .of_eq n5⟩
theorem top_end {s' : Shared} {r : Result} {E : XK} (only : Only H) (hok : HOk P w H s.heap) (h : CR CX0 [] P w H s (fun v _ => v = .bl true) E r s') : r = .ok (.ret (.bool true)) ∧ OldK s.heap s'.heap ∧ s'.os = s.os ∧ AllBare s'.gens := by
  match r, h with
  | .error _, z => exact False.elim z
  | .ok .next, z => exact z.elim
  | .ok .brk, z => exact z.elim
  | .ok .cont, z => exact z.elim
  | .ok (.ret u), ⟨v, H', h1, h2, un, hok', rv, q⟩ =>
    cases (show v = .bl true from q)
    cases (show u = Value.bool true from rv)
    refine ⟨rfl, OldK.of_keep fun b o e => ?_, h1, h2⟩
    rcases only b with z | ⟨ob, xs, z⟩
    · exact un.keep b o e z (fun y => nomatch y) (fun y => nomatch y)
    · have e1 := (hok b _ z).1
      rw [e] at e1
      rw [(hok' b _ (un.frzs b ob _ z)).1, e1]
theorem law_g {k : Nat} {fa : Addr} {fd : FuncData} {x : Str} {sp : Sp} {is : List Int} (KX : K.In s.heap) (n1 : s.heap.Ns mainGlobals mg) (n2 : s.heap.Ns builtinsNs mb) (n3 : ∀ x : Str, x ≠ "__name__" → mb x = bootBuiltins x) (n4 : s.heap.NoLimit) (n5 : s.gens = #[])
    (ha : s.heap.get? a = some { cls := .type "list", data := .seq vs.toArray }) (hi : IntsAre vs is) (hl : is.length ≤ sizeLine) (hr : Room k callerA) (F : ∀ base : Heap, K.In base → base.Ns mainGlobals mg → FnG P w K mg base CX0 k fa fd [x] sp)
    (hb : ∀ (s : Shared) (u : Value), BindsTo s fd ⟨[u], []⟩ [(x, u)]) (hs : ∀ H : Hp, Only H → SqL K H a (is.map V.int) → sp [.ref a] H (fun v _ => v = .bl true) fun _ _ _ => False) :
    codeAny (model P w) callerA (.call (.ref fa) ⟨[.ref a], []⟩) (fun r s' => r = .ok (.ret (.bool true)) ∧ OldK s.heap s'.heap ∧ s'.os = s.os ∧ AllBare s'.gens) s := by
  have fin : ∀ H : Hp, Only H → SqL K H a (is.map V.int) → HOk P w H s.heap → (∀ b, b = a ∨ H b = none) → (H a = none ∨ K.lookup a = none) → codeAny (model P w) callerA (.call (.ref fa) ⟨[.ref a], []⟩) (fun r s' => r = .ok (.ret (.bool true)) ∧ OldK s.heap s'.heap ∧ s'.os = s.os ∧ AllBare s'.gens) s := fun H o1 o2 o3 o4 o5 => by
    obtain ⟨base, b1, b2, b3⟩ := top_env KX n1 n2 n3 n4 n5 ha o3 o4 o5
    exact codeAny_mono ((F base b1 b2).go (us := [.ref a]) (vs := [.ref a]) rfl hr b3 (hb s (.ref a)) (.cons rfl .nil) (hs H o1 o2)) fun r s' z => top_end o1 o3 z
  have rv := vals_ints hi
  cases hk : K.lookup a with
  | some o =>
    have e := KX a o hk
    rw [ha] at e
    cases e
    exact fin (fun _ => none) (fun _ => .inl rfl) (.inr ⟨_, vs.toArray, _, hk, rfl, rfl, rfl, by rw [List.size_toArray, hi.length]; exact hl, by simpa using rv⟩) (fun _ _ z => nomatch (show (none : Option HO) = some _ from z)) (fun _ => .inr rfl) (.inl rfl)
  | none =>
    let H1 : Hp := upd (fun _ => none) a (.frz { cls := .type "list", data := .seq vs.toArray } (.lst (is.map V.int)))
    have no : ∀ b, b ≠ a → H1 b = none := fun b hb => upd_ne hb
    refine fin H1 (fun b => ?_) (.inl (.inr ⟨_, upd_same⟩)) (fun b u z => ?_) (fun b => ?_) (.inr hk)
    · rcases Classical.em (b = a) with h | h
      · exact .inr ⟨_, _, by rw [h]; exact upd_same⟩
      · exact .inl (no b h)
    · rcases Classical.em (b = a) with h | h
      · subst h
        have z' : some _ = some u := upd_same.symm.trans z
        cases z'
        exact ⟨ha, by rw [List.length_map]; exact hl, vs, _, rv, ha⟩
      · rw [no b h] at z
        cases z
    · rcases Classical.em (b = a) with h | h
      · exact .inl h
      · exact .inr (no b h)
end
end Dl
namespace Dl
open PySem L2
section
variable {prog : Program} {w : World} {A : Around} {E : Value → Shared → Prop} {s : Shared}
end
section
variable {X : Cx} {T : Tab} {C g : Addr} {fd : FuncData} {ps : List Str} {k cn : Nat} {c : Ct} {fn : List Str} {ds : List D} {d : D} {cs : List Cell}
end
end Dl
namespace Dl
open PySem L2
section
variable {X : Cx} {T : Tab} {W : WX} {kws : List Keyword} {pos p : Pos} {wK : WpA} {c : Ct} {k : Nat} {fd : FuncData} {ps ks : List Str} {y : Str} {C g : Addr} {fn : List Str} {cn : Nat} {gV : List V → List V → List V} {fu : List D → List D → List D}
end
end Dl
namespace Dl
open PySem L2
mutual
def wtD : D → Nat
  | .int i => i.natAbs.log2 + 3
  | .tup xs => wtDs xs + 3
  | .lst xs => wtDs xs + 3
  | .scr xs => wtDs xs + 3
  | .str x => (PySem.reprText x).length
  | _ => 5
def wtDs : List D → Nat
  | [] => 0
  | x :: xs => wtD x + 2 + wtDs xs
end
theorem lenText (i : Int) : (Str.ofString (toString i)).length ≤ i.natAbs.log2 + 3 := by
  have pos : ∀ v : Int, 0 ≤ v → (Str.ofString (toString v)).length ≤ v.natAbs.log2 + 1 := fun v hv => by
    refine PyProof.Rows.toString_length_le hv (Nat.succ_pos _) ?_
    have h1 : v.natAbs < 2 ^ (v.natAbs.log2 + 1) := Nat.lt_log2_self
    have h2 : 2 ^ (v.natAbs.log2 + 1) ≤ 10 ^ (v.natAbs.log2 + 1) := Nat.pow_le_pow_left (by decide) _
    have h3 : v.natAbs < 10 ^ (v.natAbs.log2 + 1) := Nat.lt_of_lt_of_le h1 h2
    have h4 : ((v.natAbs : Nat) : Int) < ((10 ^ (v.natAbs.log2 + 1) : Nat) : Int) := Int.ofNat_lt.mpr h3
    rw [Int.natCast_pow] at h4
    have h5 : ((v.natAbs : Nat) : Int) = v := by omega
    rw [h5] at h4
    exact h4
  rcases Int.lt_or_le i 0 with h | h
  · have := pos (0 - i) (by omega)
    rw [PyProof.Rows.len_text_neg h]
    have e : (0 - i).natAbs = i.natAbs := by omega
    rw [e] at this
    omega
  · have := pos i h
    omega
theorem piled_cons (t : Str) (ts : List Str) : PySem.piled (t :: ts) = t.length + 2 + PySem.piled ts := by simp [PySem.piled]
theorem textFrom_le : ∀ (ts : List Str) (k : Nat) (acc : Str), (PySem.textFrom k acc ts).length ≤ acc.length + PySem.piled ts
  | [], k, acc => by simp [PySem.textFrom]
  | t :: ts, k, acc => by
    have h := textFrom_le ts (k + 1) (acc ++ (if k > 0 then ", " else "" : String) ++ t)
    have e1 : (Str.ofString ", ").length = 2 := by decide
    have e2 : (Str.ofString "").length = 0 := by decide
    rw [piled_cons]
    refine Nat.le_trans h ?_
    have e3 : (acc ++ Str.ofString (if k > 0 then ", " else "" : String) ++ t).length ≤ acc.length + 2 + t.length := by
      rw [Str.length_append, Str.length_append]
      split <;> omega
    have e3' : (acc ++ (if k > 0 then ", " else "" : String) ++ t).length ≤ acc.length + 2 + t.length := e3
    omega
mutual
theorem shown_wt : ∀ d : D, d.py.shown.length ≤ wtD d
  | .non => by decide
  | .bl true => by decide
  | .bl false => by decide
  | .int i => lenText i
  | .str x => Nat.le_refl _
  | .tup xs => by
    have h := showns_wt xs
    have e1 : (Str.ofString "(").length = 1 := by decide
    have e2 : (Str.ofString ",)").length = 2 := by decide
    have e3 : (Str.ofString ")").length = 1 := by decide
    show (PySem.tupleText (PyData.shownAll (D.pys xs))).length ≤ wtDs xs + 3
    cases hx : PyData.shownAll (D.pys xs) with
    | nil => show (PySem.tupleText []).length ≤ _; exact Nat.le_trans (by decide : (PySem.tupleText []).length ≤ 3) (by omega)
    | cons t ts =>
      have hj := PySem.join_length_add (t :: ts) (by simp)
      rw [hx] at h
      unfold PySem.tupleText
      have e4 : (Str.ofString (if (t :: ts).length == 1 then ",)" else ")" : String)).length ≤ 2 := by split <;> omega
      have e5 : (Str.ofString "(" ++ Str.join (Str.ofString ", ") (t :: ts) ++ Str.ofString (if (t :: ts).length == 1 then ",)" else ")" : String)).length ≤ wtDs xs + 3 := by
        rw [Str.length_append, Str.length_append]
        have hj' : (Str.join (Str.ofString ", ") (t :: ts)).length + 2 = PySem.piled (t :: ts) := hj
        omega
      exact e5
  | .lst xs => by
    have h := showns_wt xs
    have h2 := textFrom_le (PyData.shownAll (D.pys xs)) 0 (Str.ofString "[")
    have e1 : (Str.ofString "[").length = 1 := by decide
    have e2 : (Str.ofString "]").length = 1 := by decide
    have e3 : (PySem.textFrom 0 (Str.ofString "[") (PyData.shownAll (D.pys xs)) ++ Str.ofString "]").length ≤ wtDs xs + 3 := by
      rw [Str.length_append]
      omega
    exact e3
  | .scr xs => by
    have h := showns_wt xs
    have h2 := textFrom_le (PyData.shownAll (D.pys xs)) 0 (Str.ofString "[")
    have e1 : (Str.ofString "[").length = 1 := by decide
    have e2 : (Str.ofString "]").length = 1 := by decide
    have e3 : (PySem.textFrom 0 (Str.ofString "[") (PyData.shownAll (D.pys xs)) ++ Str.ofString "]").length ≤ wtDs xs + 3 := by
      rw [Str.length_append]
      omega
    exact e3
  | .obj _ _ => by show (PyData.shown .none).length ≤ 5; decide
  | .err _ _ _ _ => by show (PyData.shown .none).length ≤ 5; decide
  | .cls _ => by show (PyData.shown .none).length ≤ 5; decide
  | .dct _ _ => by show (PyData.shown .none).length ≤ 5; decide
  | .fn _ => by show (PyData.shown .none).length ≤ 5; decide
  | .dcn _ _ => by show (PyData.shown .none).length ≤ 5; decide
theorem showns_wt : ∀ ds : List D, PySem.piled (PyData.shownAll (D.pys ds)) ≤ wtDs ds
  | [] => Nat.le_refl _
  | d :: ds => by
    have h1 := shown_wt d
    have h2 := showns_wt ds
    show PySem.piled (d.py.shown :: PyData.shownAll (D.pys ds)) ≤ wtD d + 2 + wtDs ds
    rw [piled_cons]
    omega
end
structure RN (k w : Nat) (d : D) : Prop where
  pl : d.plain = true
  sh : d.py.showable = true
  nd : d.py.hasDict = false
  dp : d.py.depth ≤ k
  wt : wtD d ≤ w
theorem RN.mono {k k' w w' : Nat} {d : D} (h : RN k w d) (hk : k ≤ k') (hw : w ≤ w') : RN k' w' d := ⟨h.pl, h.sh, h.nd, Nat.le_trans h.dp hk, Nat.le_trans h.wt hw⟩
theorem RN.int {i : Int} {n : Nat} (h : i.natAbs < 2 ^ n) (hn : n ≤ 1920) : RN 0 (n + 3) (.int i) := by
  have hl : i.natAbs.log2 < n ∨ i.natAbs = 0 := by
    rcases Nat.eq_zero_or_pos i.natAbs with z | z
    · exact .inr z
    · exact .inl ((Nat.log2_lt (by omega)).mpr h)
  have hl' : i.natAbs.log2 ≤ n ∧ i.natAbs.log2 < 1920 := by
    rcases hl with z | z
    · omega
    · rw [z]; exact ⟨Nat.zero_le _, by decide⟩
  exact ⟨rfl, decide_eq_true hl'.2, rfl, Nat.le_refl _, Nat.add_le_add_right hl'.1 3⟩
theorem rns {k w : Nat} : ∀ {xs : List D}, (∀ d ∈ xs, RN k w d) → D.plains xs = true ∧ PyData.showableAll (D.pys xs) = true ∧ PyData.hasDictAll (D.pys xs) = false ∧ PyData.depthAll (D.pys xs) ≤ k ∧ wtDs xs ≤ xs.length * (w + 2)
  | [], _ => ⟨rfl, rfl, rfl, Nat.zero_le _, Nat.zero_le _⟩
  | x :: xs, h => by
    obtain ⟨h1, h2, h3, h4, h5⟩ := rns (xs := xs) fun d hd => h d (List.mem_cons_of_mem _ hd)
    have hx := h x List.mem_cons_self
    refine ⟨?_, ?_, ?_, ?_, ?_⟩
    · show (x.plain && D.plains xs) = true
      rw [hx.pl, h1]; rfl
    · show (x.py.showable && PyData.showableAll (D.pys xs)) = true
      rw [hx.sh, h2]; rfl
    · show (x.py.hasDict || PyData.hasDictAll (D.pys xs)) = false
      rw [hx.nd, h3]; rfl
    · show max x.py.depth (PyData.depthAll (D.pys xs)) ≤ k
      exact Nat.max_le.mpr ⟨hx.dp, h4⟩
    · show wtD x + 2 + wtDs xs ≤ (xs.length + 1) * (w + 2)
      have := hx.wt
      rw [Nat.add_mul]
      omega
theorem RN.tup {k w m : Nat} {xs : List D} (h : ∀ d ∈ xs, RN k w d) (hm : xs.length ≤ m) : RN (k + 1) (m * (w + 2) + 3) (.tup xs) := by
  obtain ⟨h1, h2, h3, h4, h5⟩ := rns h
  exact ⟨h1, h2, h3, Nat.add_le_add_right h4 1, Nat.add_le_add_right (Nat.le_trans h5 (Nat.mul_le_mul_right _ hm)) 3⟩
theorem RN.lst {k w m : Nat} {xs : List D} (h : ∀ d ∈ xs, RN k w d) (hm : xs.length ≤ m) : RN (k + 1) (m * (w + 2) + 3) (.lst xs) := by
  obtain ⟨h1, h2, h3, h4, h5⟩ := rns h
  exact ⟨h1, h2, h3, Nat.add_le_add_right h4 1, Nat.add_le_add_right (Nat.le_trans h5 (Nat.mul_le_mul_right _ hm)) 3⟩
theorem RN.ok {k w : Nat} {d : D} (h : RN k w d) (hk : k ≤ 60) : okR d = true := by
  have := h.dp
  unfold okR
  rw [h.pl, h.sh, h.nd, decide_eq_true (show d.py.depth ≤ 60 by omega)]
  rfl
theorem RN.len {k w : Nat} {d : D} (h : RN k w d) (hw : w ≤ 16777216) : (rprD d).length ≤ sizeLine := Nat.le_trans (shown_wt d) (Nat.le_trans h.wt hw)
end Dl
namespace Dl
open PySem L2
section
variable {X : Cx}
end
section
variable {T : Tab} {K : PySem.W.Frag} {M M' : Addr → Prop} {H H' : Hp} {kvs kvs2 : List (Key × V)} {kds kds2 : List (Key × D)} {k : Key} {v : V} {d : D}
def KR (T : Tab) (K : PySem.W.Frag) (M : Addr → Prop) (H : Hp) (kvs : List (Key × V)) (kds : List (Key × D)) : Prop := kvs.map (·.1) = kds.map (·.1) ∧ Reps T K M H (kvs.map (·.2)) (kds.map (·.2))
theorem KR.kp (x : Kp M H M' H') (h : KR T K M H kvs kds) : KR T K M' H' kvs kds := ⟨h.1, h.2.kp x⟩
def hasK (kds : List (Key × D)) (k : Key) : Bool := kds.any fun p => decide (p.1 = k)
def getK (kds : List (Key × D)) (k : Key) : Option D := (kds.find? fun p => decide (p.1 = k)).map (·.2)
def putD (kds : List (Key × D)) (k : Key) (d : D) : List (Key × D) := if hasK kds k = true then kds.map (fun p => if p.1 = k then (p.1, d) else p) else kds ++ [(k, d)]
theorem KR.nil : KR T K M H [] [] := ⟨rfl, .nil⟩
theorem KR.inv {p : Key × V} (h : KR T K M H (p :: kvs) kds) : ∃ d r, kds = (p.1, d) :: r ∧ Rep T K M H p.2 d ∧ KR T K M H kvs r := by
  obtain ⟨h1, h2⟩ := h
  match kds, h1, h2 with
  | (j, d) :: r, h1, .cons a b =>
    have e : p.1 = j ∧ kvs.map (·.1) = r.map (·.1) := by simpa using h1
    exact ⟨d, r, by rw [e.1], a, e.2, b⟩
theorem KR.inv0 (h : KR T K M H [] kds) : kds = [] := by
  obtain ⟨h1, _⟩ := h
  cases kds with
  | nil => rfl
  | cons p r => cases h1
theorem KR.cons (r : Rep T K M H v d) (h : KR T K M H kvs kds) : KR T K M H ((k, v) :: kvs) ((k, d) :: kds) := ⟨by rw [List.map_cons, List.map_cons, h.1], .cons r h.2⟩
theorem KR.app (h : KR T K M H kvs kds) (h2 : KR T K M H kvs2 kds2) : KR T K M H (kvs ++ kvs2) (kds ++ kds2) := ⟨by rw [List.map_append, List.map_append, h.1, h2.1], by rw [List.map_append, List.map_append]; exact h.2.append h2.2⟩
theorem KR.len (h : KR T K M H kvs kds) : kvs.length = kds.length := by have := h.2.length; rw [List.length_map, List.length_map] at this; exact this
theorem KR.any (h : KR T K M H kvs kds) : (kvs.any fun p => decide (p.1 = k)) = hasK kds k := by
  have e1 : (kvs.any fun p => decide (p.1 = k)) = (kvs.map (·.1)).any fun j => decide (j = k) := by rw [List.any_map]; rfl
  have e2 : hasK kds k = (kds.map (·.1)).any fun j => decide (j = k) := by unfold hasK; rw [List.any_map]; rfl
  rw [e1, e2, h.1]
theorem KR.rep (r : Rep T K M H v d) : ∀ {kvs : List (Key × V)} {kds : List (Key × D)}, KR T K M H kvs kds → KR T K M H (kvs.map fun p => if p.1 = k then (p.1, v) else p) (kds.map fun p => if p.1 = k then (p.1, d) else p)
  | [], kds, h => by cases h.inv0; exact .nil
  | p :: kvs, kds, h => by
    obtain ⟨d', r', rfl, a, b⟩ := h.inv
    rw [List.map_cons, List.map_cons]
    by_cases e : p.1 = k
    · rw [if_pos e, if_pos (show ((p.1, d') : Key × D).1 = k from e)]
      exact .cons r (KR.rep r b)
    · rw [if_neg e, if_neg (show ¬ ((p.1, d') : Key × D).1 = k from e)]
      exact .cons (k := p.1) (v := p.2) a (KR.rep r b)
theorem KR.put (r : Rep T K M H v d) (h : KR T K M H kvs kds) : KR T K M H (putK kvs k v) (putD kds k d) := by
  unfold putK putD
  rw [h.any]
  split
  · exact h.rep r
  · exact h.app (.cons r .nil)
theorem KR.val : ∀ {kvs : List (Key × V)} {kds : List (Key × D)}, KR T K M H kvs kds → (getK kds k = none → valV kvs k = none) ∧ ∀ d, getK kds k = some d → ∃ v, valV kvs k = some v ∧ Rep T K M H v d
  | [], kds, h => by cases h.inv0; exact ⟨fun _ => rfl, fun d z => nomatch z⟩
  | p :: kvs, kds, h => by
    obtain ⟨d', r', rfl, a, b⟩ := h.inv
    obtain ⟨i1, i2⟩ := KR.val b
    by_cases e : p.1 = k
    · have g : getK ((p.1, d') :: r') k = some d' := by simp [getK, List.find?_cons, e]
      rw [g]
      exact ⟨(fun z => nomatch z), fun d z => by cases z; exact ⟨p.2, valV_pos e, a⟩⟩
    · have g : getK ((p.1, d') :: r') k = getK r' k := by simp [getK, List.find?_cons, e]
      rw [g, valV_neg e]
      exact ⟨i1, i2⟩
theorem KR.some (h : KR T K M H kvs kds) : (valV kvs k).isSome = hasK kds k := by rw [← valV_any, h.any]
def keyD : D → Option Key
  | .int i => some (.inl i)
  | .str x => some (.inr x)
  | _ => none
theorem key_rep (r : Rep T K M H v d) (h : keyD d = some k) : v = kV k := by
  cases r <;> first | (cases h; rfl) | exact nomatch h
def kdOf (cs : List Cell) : Sl → Option (List (Key × D))
  | .dat (.dct ks xs) => some (ks.zip xs)
  | .cel j => match cs[j]? with
    | some (.dct kds) => some kds
    | _ => none
  | _ => none
theorem KR.zip {ks : List Key} {xs : List D} (h1 : kvs.map (·.1) = ks) (h2 : Reps T K M H (kvs.map (·.2)) xs) : KR T K M H kvs (ks.zip xs) := by
  have hl : ks.length = xs.length := by rw [← h2.length, ← h1, List.length_map, List.length_map]
  exact ⟨by rw [List.map_fst_zip (by omega)]; exact h1, by rw [List.map_snd_zip (by omega)]; exact h2⟩
theorem rd_dct {ad : List Addr} {F : Addr → Prop} {cs : List Cell} {s : Sl} (h : kdOf cs s = some kds) (c : HoldC T K ad F H cs) (r : SlRep T K ad F H v s) : ∃ a kvs, v = .ref a ∧ Rd H a (.dK kvs) ∧ KR T K (Mm ad F) H kvs kds := by
  unfold kdOf at h
  split at h
  · cases h
    cases r with
    | @dct a o kvs ks ds n e1 e2 q => exact ⟨a, kvs, rfl, .inr ⟨o, e1⟩, KR.zip e2 q⟩
  · split at h
    · rename_i kds' hj
      cases h
      obtain ⟨a, ha, rfl⟩ := r
      obtain ⟨kvs, e1, e2, q⟩ := c.ce _ a _ ha hj
      exact ⟨a, kvs, rfl, .inl e1, e2, q⟩
    · cases h
  · cases h
def wD (cs : List Cell) (s : Sl) (k : List (Key × D) → Prop) : Prop := match kdOf cs s with
  | some kds => k kds
  | none => False
theorem wD_of {cs : List Cell} {s : Sl} {k : List (Key × D) → Prop} (h : wD cs s k) : ∃ kds, kdOf cs s = some kds ∧ k kds := by
  unfold wD at h
  split at h
  · exact ⟨_, ‹_›, h⟩
  · exact h.elim
def isKey (s : Sl) (k : Key → Prop) : Prop := match s with
  | .dat d => match keyD d with
    | some x => k x
    | none => False
  | .cel _ => False
theorem isKey_of {s : Sl} {k : Key → Prop} (h : isKey s k) : ∃ d x, s = .dat d ∧ keyD d = some x ∧ k x := by
  unfold isKey at h
  split at h
  · split at h
    · exact ⟨_, _, rfl, ‹_›, h⟩
    · exact h.elim
  · exact h.elim
end
section
variable {X : Cx} {T : Tab} {cs : List Cell}
theorem op_dinV (neg : Bool) (hu : X.A.units + 1 < cLine) : OpR X (compareOp (if neg then .NotIn else .In)) (fun x y H Q => ∃ a o, y = .ref a ∧ DGet H a x o ∧ Q (.bl (neg.xor o.isSome)) H) := by
  intro pins s σ H x y v u Q I rx ry h
  obtain ⟨a, o, rfl, g, q⟩ := h
  cases (show u = Value.ref a from ry)
  cases neg with
  | true => exact d_notIn hu I g rx fun s3 I3 => ⟨.bl (!o.isSome), H, I3, rfl, by simpa using q⟩
  | false => exact d_in hu I g rx fun s3 I3 => ⟨.bl o.isSome, H, I3, rfl, by simpa using q⟩
def inDW (neg : Bool) : W2 := fun s1 s2 cs R => isKey s1 fun k => wD cs s2 fun kds => R (.dat (.bl (neg.xor (hasK kds k)))) cs
def PDc (_ s2 : Sl) : Bool := match s2 with
  | .dat (.dct _ _) => true
  | .cel _ => true
  | _ => false
theorem jc_inD (neg : Bool) {w : W2} (hu : X.A.units + 64 < cLine) (h : JCmp X T (if neg then .NotIn else .In) w) : JCmp X T (if neg then .NotIn else .In) (selW PDc (inDW neg) w) := jc_sel (fun s1 s2 cs R _ hw => by
  obtain ⟨d, k, rfl, hk, hw⟩ := isKey_of hw
  obtain ⟨kds, hd, hR⟩ := wD_of hw
  refine ⟨_, _, ⟨_, op_dinV neg (by omega), fun ad F H v w Q c r1 r2 q => ?_⟩, hR⟩
  obtain ⟨a, kvs, rfl, e1, e2⟩ := rd_dct hd c r2
  cases key_rep r1 hk
  exact ⟨a, valV kvs k, rfl, .inl ⟨kvs, k, e1, rfl, rfl⟩, by rw [e2.some]; exact q _ H ad .refl c Rep.bl⟩) h
end
section
variable {X : Cx} {T : Tab} {W : WX} {n : Nat} {e o i f ix : Expr} {pos p' apos cpos : Pos} {we wo wi wx wf : WpE}
end
section
variable {X : Cx} {T : Tab} {W : WX} {n : Nat}
end
end Dl
namespace Dl
open PySem L2
def keyOf : Key → D
  | .inl i => .int i
  | .inr x => .str x
section
variable {T : Tab} {K : PySem.W.Frag} {F : Addr → Prop} {ad : List Addr} {H : Hp} {a : Addr} {o : Obj} {kvs : List (Key × V)}
end
section
variable {X : Cx} {tg : Expr}
end
section
variable {X : Cx} {T : Tab} {W : WX} {tg e : Expr} {w : WpE}
end
def dcW (p : Pat) (wt : WpT) (wk wv : WpE) (sl : Sls) : List D → List (Key × D) → List Cell → (List (Key × D) → List Cell → Prop) → Prop
  | [], acc, cs, R => R acc cs
  | d :: ds, acc, cs, R => asgW p d sl fun sl' => wt sl' cs (fun b c1 => Br b (wk sl' c1 (fun s1 c2 => wv sl' c2 (fun s2 c3 => isKey s1 fun k => isDat s2 fun e => dcW p wt wk wv sl ds (putD acc k e) c3 R) noX) noX) (dcW p wt wk wv sl ds acc c1 R)) noX
theorem putD_len (kds : List (Key × D)) (k : Key) (d : D) : (putD kds k d).length ≤ kds.length + 1 := by
  unfold putD
  split
  · rw [List.length_map]; omega
  · rw [List.length_append]; exact Nat.le_refl _
section
variable {T : Tab} {K : PySem.W.Frag} {W : WX} {p : Pat} {wi : WpI} {wt : WpT} {wk wv : WpE} {own : List Nat}
theorem dc_coreD {sl : Sls} {items : List D} {cs : List Cell} {Rf : List (Key × D) → List Cell → Prop} {σ : St} {H1 : Hp} {ad1 : List Addr} {F : Addr → Prop} {Q : VK} {J : It} (hp : ∀ i ∈ slotsP p, i ∈ own) (h1 : Hold T K ⟨sl, cs⟩ ad1 F σ H1) (okI : ItOk T K F J items ad1 H1) (hl : items.length < sizeLine)
    (h : dcW p wt wk wv (wipeS sl own) items [] cs Rf) {Dl : Addr} (hD : H1 Dl = none)
    (q : ∀ accV accD ci ad' H', Ext ad1 F H1 ad' H' → HoldC T K ad' (fun a => F a ∨ a = Dl) H' ci → H' Dl = some (.dK accV) → KR T K (Mm ad' fun a => F a ∨ a = Dl) H' accV accD → Rf accD ci → Q (.ref Dl) H') :
    ∃ (Inv' : Nat → Nat → Hp → Prop), (∃ m0, Inv' 0 m0 (upd H1 Dl (.dK []))) ∧ ∀ i m H', Inv' i m H' → (J.stop i H' ∧ Q (.ref Dl) H') ∨ (J.go i H' ∧ ∃ I2 : Hp → Prop, (∀ H2, I2 H2 → ∃ m', m' < m ∧ Inv' (i + 1) m' H2) ∧ ∀ v H3, J.yld i H' v H3 →
      tDG T K p v (wipe σ own) H3 fun σ' H4 => wipe σ' own = wipe σ own ∧ tJT T K W0 wt σ' H4 fun b H5 => if b = true then tJ T K W0 wk σ' H5 fun y H6 => tJ T K W0 wv σ' H6 fun z H7 => ∃ kvs k, y = kV k ∧ H7 Dl = some (.dK kvs) ∧ kvs.length < sizeLine ∧ I2 (upd H7 Dl (.dK (putK kvs k z))) else I2 H5) := by
  let vs := own
  have nD := h1.hc.new hD
  let F' : Addr → Prop := fun a => F a ∨ a = Dl
  have neD : ∀ a o, H1 a = some o → a ≠ Dl := fun a o e => ne_of_none e hD
  have slots : ∀ {ad' : List Addr} {H' : Hp} {cs : List Cell}, Ext ad1 F H1 ad' H' → HoldC T K ad' F' H' cs → Hold T K ⟨wipeS sl vs, cs⟩ ad' F' (wipe σ vs) H' := fun {ad' H' cs} x c => by
    refine ⟨c, by rw [wipe_length, wipeS_len]; exact h1.sz, fun i s e => ?_⟩
    obtain ⟨e1, e2⟩ := wipeS_some e
    obtain ⟨v, hv, r⟩ := h1.sl i s e1
    refine ⟨v, by rw [wipe_out e2]; exact hv, ?_⟩
    cases s with
    | dat d => exact Rep.kp (fun a o e n => ⟨x.keep a o e n, fun z => (x.kp a o e n).2 (z.imp id fun z => z.resolve_right (neD a o e))⟩) r
    | cel k =>
      have r' := SlRep.ext x r
      exact r'
  have h1' : HoldC T K ad1 F' (upd H1 Dl (.dK [])) cs := by
    obtain ⟨c2, x2⟩ := h1.hc.newo (o := .dK []) hD
    have kp : Kp (Mm ad1 F) H1 (Mm ad1 F') (upd H1 Dl (.dK [])) := fun a o e n => ⟨by rw [upd_ne (neD a o e)]; exact e, fun z => n (z.imp id fun z => z.resolve_right (neD a o e))⟩
    refine ⟨h1.hc.nd, fun a ha z => z.elim (h1.hc.fr a ha) fun z => nD (.inl (z ▸ ha)), fun a z => ?_, h1.hc.tb.newF hD (fun _ z => nomatch z), h1.hc.ln, fun k a c e1 e2 => ?_⟩
    · rcases z with z | z
      · exact c2.al a z
      · rw [z]; exact ⟨_, upd_same⟩
    · have qc := h1.hc.ce k a c e1 e2
      obtain ⟨o, e⟩ := qc.some
      exact qc.kp kp (upd_ne (neD a o e))
  have x1' : Ext ad1 F H1 ad1 (upd H1 Dl (.dK [])) := (h1.hc.newo hD).2
  refine ⟨fun i m H' => ∃ ad' accV accD ci, i ≤ items.length ∧ m = items.length - i ∧ Ext ad1 F H1 ad' H' ∧ HoldC T K ad' F' H' ci ∧ H' Dl = some (.dK accV) ∧ KR T K (Mm ad' F') H' accV accD ∧ accD.length ≤ i ∧
    dcW p wt wk wv (wipeS sl vs) (items.drop i) accD ci Rf, ⟨items.length, ad1, [], [], cs, Nat.zero_le _, rfl, x1', h1', upd_same, .nil, Nat.le_refl _, h⟩, ?_⟩
  rintro i m H' ⟨ad', accV, accD, ci, hi', rfl, x', c', eD, rA, lA, hL⟩
  have kpI : Kp (Mm ad1 F) H1 (Mm ad' F') H' := fun a o e n => ⟨x'.keep a o e n, fun z => (x'.kp a o e n).2 (z.imp id fun z => z.resolve_right (neD a o e))⟩
  obtain ⟨ok1, ok2⟩ := okI F' ad' H' ci c' kpI i
  by_cases hlt : i < items.length
  · have hd : items[i]? = some items[i] := List.getElem?_eq_getElem hlt
    obtain ⟨g1, g2⟩ := ok1 _ hd
    rw [List.drop_eq_getElem_cons hlt] at hL
    obtain ⟨sl', eas, hL⟩ := asgW_of hL
    refine .inr ⟨g1, fun H2 => ∃ m', m' < items.length - i ∧ ∃ ad' accV accD ci, i + 1 ≤ items.length ∧ m' = items.length - (i + 1) ∧ Ext ad1 F H1 ad' H2 ∧ HoldC T K ad' F' H2 ci ∧ H2 Dl = some (.dK accV) ∧ KR T K (Mm ad' F') H2 accV accD ∧ accD.length ≤ i + 1 ∧
      dcW p wt wk wv (wipeS sl vs) (items.drop (i + 1)) accD ci Rf, fun H2 ⟨m', hm, z⟩ => ⟨m', hm, z⟩, fun v H3 y => ?_⟩
    obtain ⟨gr, rv⟩ := g2 v H3 y
    obtain ⟨c3, x3⟩ := grow c' gr
    have x13 : Ext ad1 F H1 ad' H3 := ⟨x'.pre, fun a o e n => gr a o (x'.keep a o e n), fun a fa => (x'.frm a fa).trans (.inl (by
      obtain ⟨o, e⟩ := (x'.frm a fa).ex (h1.hc.al a fa)
      rw [gr a o e, e]))⟩
    have cvt : ∀ {ad6 : List Addr} {H6 : Hp}, Ext ad' F' H3 ad6 H6 → Ext ad1 F H1 ad6 H6 := fun {ad6 H6} x6 => by
      obtain ⟨t, e, ht⟩ := x13.pre
      obtain ⟨t2, e2, ht2⟩ := x6.pre
      refine ⟨⟨t ++ t2, by rw [e2, e, List.append_assoc], fun a ha => ?_⟩, fun a o e n => ?_, fun a fa => ?_⟩
      · rcases List.mem_append.mp ha with z | z
        · exact ht a z
        · cases q1 : H1 a with
          | none => rfl
          | some o =>
            exfalso
            have hz := ht2 a z
            by_cases n : Mm ad1 F a
            · rcases n with n | n
              · obtain ⟨o', e'⟩ := c3.mem (a := a) (by rw [e]; exact List.mem_append_left _ n)
                rw [e'] at hz; cases hz
              · obtain ⟨o', e'⟩ := (x13.frm a n).ex ⟨_, q1⟩
                rw [e'] at hz; cases hz
            · rw [x13.keep a o q1 n] at hz; cases hz
      · have n3 : ¬ Mm ad' F' a := fun z => (x13.kp a o e n).2 (z.imp id fun z => z.resolve_right (neD a o e))
        exact x6.keep a o (x13.keep a o e n) n3
      · exact (x13.frm a fa).trans (x6.frm a (.inl fa))
    have eD3 : H3 Dl = some (.dK accV) := gr _ _ eD
    have rA3 : KR T K (Mm ad' F') H3 accV accD := rA.kp x3.kp
    refine ⟨ad', F', ⟨wipeS sl vs, ci⟩, items[i], sl', slots x13 c3, rv, eas, fun σ4 a4 h4 => ⟨wipe_asis a4 hp, ad', F', sl', ci, _, noX, h4, hL, fun b c1 H5 ad5 hb x5 h5 => ?_, Raz.no⟩⟩
    cases b with
    | true =>
      refine iteT ⟨ad5, F', sl', c1, _, noX, h5, hb.t rfl, fun s1 c2 y H6 ad6 hs1 x6 h6 r6 => ⟨ad6, F', sl', c2, _, noX, h6, hs1, fun s2 c3' z H7 ad7 hs2 x7 h7 r7 => ?_, Raz.no⟩, Raz.no⟩
      obtain ⟨dk, k, rfl, hk, hs2⟩ := isKey_of hs2
      obtain ⟨d', rfl, hL2⟩ := isDat_of hs2
      have x36 : Ext ad' F' H3 ad7 H7 := x5.trans h5.hc (x6.trans h6.hc x7)
      have x16 := cvt x36
      refine ⟨accV, k, key_rep r6 hk, ?_, ?_, ?_⟩
      · exact (x36.frm Dl (.inr rfl)).eq eD3 (fun _ z => nomatch z)
      · have := rA3.len
        omega
      · have hDa : Dl ∉ ad7 := fun z => h7.hc.fr Dl z (.inr rfl)
        have kpU : Kp (Mm ad7 F') H7 (Mm ad7 F') (upd H7 Dl (.dK (putK accV k z))) := fun a o e n => ⟨by rw [upd_ne (fun z => n (.inr (.inr z)))]; exact e, n⟩
        refine ⟨_, by omega, ad7, putK accV k z, putD accD k d', c3', hlt, rfl, ?_, ?_, upd_same, ((rA3.kp x36.kp).put r7).kp kpU, Nat.le_trans (putD_len _ _ _) (by omega), hL2⟩
        · exact ⟨x16.pre, fun a o e n => by rw [upd_ne (neD a o e)]; exact x16.keep a o e n, fun a fa => by
            obtain ⟨o, e⟩ := h1.hc.al a fa
            exact (x16.frm a fa).trans (.inl (by
              obtain ⟨o6, e6⟩ := (x16.frm a fa).ex ⟨o, e⟩
              rw [upd_ne (neD a o e)]))⟩
        · refine ⟨h7.hc.nd, h7.hc.fr, fun a z => ?_, h7.hc.tb.upd ((x36.frm Dl (.inr rfl)).eq eD3 (fun _ z => nomatch z)) (fun _ z => nomatch z) (fun _ z => nomatch z) (fun _ z => nomatch z), h7.hc.ln, fun k a c e1 e2 => ?_⟩
          · by_cases e : a = Dl
            · rw [e]; exact ⟨_, upd_same⟩
            · rw [upd_ne e]; exact h7.hc.al a z
          · exact (h7.hc.ce k a c e1 e2).kp kpU (upd_ne fun z => hDa (z ▸ List.mem_of_getElem? e1))
    | false => exact iteF ⟨_, by omega, ad5, accV, accD, c1, hlt, rfl, cvt x5, h5.hc, (x5.frm Dl (.inr rfl)).eq eD3 (fun _ z => nomatch z), rA3.kp x5.kp, by omega, hb.f rfl⟩
  · have e : i = items.length := by omega
    subst e
    rw [List.drop_length] at hL
    exact .inl ⟨ok2 rfl, q accV accD ci ad' H' x' c' eD rA hL⟩
end
section
variable {X : Cx} {T : Tab} {W : WX} {n : Nat} {kx vx tg iter : Expr} {ifs : List Expr} {scope : Scope} {own : List (Str × Nat)} {p : Pat} {wi : WpI} {wt : WpT} {wk wv : WpE} {pos : Pos} {y : Str}
structure JDC (X : Cx) (T : Tab) (W : WX) (kx vx tg iter : Expr) (ifs : List Expr) (scope : Scope) (own : List (Str × Nat)) (wi : WpI) (p : Pat) (wt : WpT) (wk wv : WpE) : Prop where
  hi : JI X T W tg iter wi
  ok : BlkOk X.N X.env.scope scope own
  hg : InB X scope fun X' => DG X' T tg p
  ht : InB X scope fun X' => JTs X' T W0 ifs wt
  hk : InB X scope fun X' => JE X' T W0 kx wk
  he : InB X scope fun X' => JE X' T W0 vx wv
  hp : ∀ i ∈ slotsP p, i ∈ own.map (·.2)
end
end Dl
namespace Dl
open PySem L2
section
variable {X : Cx} {T : Tab} {W : WX} {n : Nat} {kx vx tg iter : Expr} {ifs : List Expr} {scope : Scope} {own : List (Str × Nat)} {p : Pat} {wi : WpI} {wt : WpT} {wk wv : WpE} {pos py : Pos} {y : Str}
end
section
variable {X : Cx} {T : Tab} {cs : List Cell} {s1 : Sl}
theorem intsW_of {ds : List D} {k : List Int → Prop} (h : intsW ds k) : ∃ ns, ds = ns.map D.int ∧ k ns := by
  unfold intsW at h
  split at h
  · exact ⟨_, ints_of ‹_›, h⟩
  · exact h.elim
def maxI : Int → List Int → Int
  | a, [] => a
  | a, b :: l => maxI (if a < b then b else a) l
theorem maxI_in : ∀ (l : List Int) (a : Int), maxI a l ∈ a :: l ∧ ∀ y ∈ a :: l, y ≤ maxI a l
  | [], a => ⟨List.mem_cons_self, fun y hy => by simp at hy; subst hy; exact Int.le_refl _⟩
  | b :: l, a => by
    obtain ⟨h1, h2⟩ := maxI_in l (if a < b then b else a)
    unfold maxI
    have hc : a ≤ (if a < b then b else a) ∧ b ≤ (if a < b then b else a) := by split <;> omega
    have h0 := h2 _ List.mem_cons_self
    refine ⟨?_, fun y hy => ?_⟩
    · rcases List.mem_cons.mp h1 with h | h
      · rw [h]
        split
        · exact List.mem_cons_of_mem _ List.mem_cons_self
        · exact List.mem_cons_self
      · exact List.mem_cons_of_mem _ (List.mem_cons_of_mem _ h)
    · rcases List.mem_cons.mp hy with rfl | hy
      · omega
      · rcases List.mem_cons.mp hy with rfl | hy
        · omega
        · exact h2 y (List.mem_cons_of_mem _ hy)
theorem cb_maxL (hc : X.calm = true) {a : Int} {ns : List Int} (h : isLst cs ((a :: ns).map D.int) s1) : CalB X T "max" [s1] cs (.dat (.int (maxI a ns))) cs := ⟨.builtin "max", _, by decide +kernel, .inl ⟨_, rfl⟩, cr_max hc, fun ad F H vs Q c r q => by
  match vs, r with
  | [v], r =>
    obtain ⟨p, ws, rfl, e1, q1⟩ := rd_lst h c r.1
    have := Reps.of_ints q1
    subst this
    refine ⟨p, a :: ns, rfl, SqL.of e1, Nat.succ_pos _, fun m h1 h2 => ?_⟩
    obtain ⟨g1, g2⟩ := maxI_in ns a
    cases Int.le_antisymm (g2 m h1) (h2 _ g1)
    exact q _ H ad .refl c Rep.int⟩
def maxW2 : WC := fun ss cs R => match ss with
  | [.dat (.int i), .dat (.int j)] => R (.dat (.int (if j > i then j else i))) cs
  | [s] => wL cs s fun ds => intsW ds fun ns => match ns with
    | a :: l => R (.dat (.int (maxI a l))) cs
    | [] => False
  | _ => False
theorem jc_max2 (hc : X.calm = true) : JCall X T "max" maxW2 := ⟨⟨.builtin "max", by decide +kernel, .inl ⟨_, rfl⟩⟩, fun ss cs R h => by
  unfold maxW2 at h
  split at h
  · exact ⟨_, _, cb_max hc, h⟩
  · obtain ⟨ds, h1, h⟩ := wL_of h
    obtain ⟨ns, e, h2⟩ := intsW_of h
    subst e
    split at h2
    · exact ⟨_, _, cb_maxL hc h1, h2⟩
    · exact h2.elim
  · exact h.elim⟩
end
end Dl
namespace Dl
open PySem L2
section
variable {X : Cx} {T : Tab} {W : WX} {n cn : Nat} {C : Addr} {fn : List Str} {e o o1 o2 : Expr} {f g : Str} {pos p1 p2 tpos : Pos} {we wo1 wo2 : WpE} {ta : TE}
end
end Dl
namespace Dl
open PySem L2
section
variable {X : Cx} {T : Tab} {cs : List Cell}
def blS (b : Bool) : Str := if b then Str.ofString "True" else Str.ofString "False"
theorem call_reprB : CallR X (.builtin "repr") (fun xs H Q => ∃ b, xs = [.bl b] ∧ Q (.str (blS b)) H) := by
  intro pins s σ H xs us Q I r h
  obtain ⟨b, rfl, q⟩ := h
  obtain ⟨u, rfl, ru⟩ := vals1 r
  cases (show u = Value.bool b from ru)
  exact PySem.P.repr_of_bool ⟨.str (blS b), H, I.tok _, ⟨_, rfl⟩, q⟩
theorem cb_reprB {b : Bool} : CalB X T "repr" [.dat (.bl b)] cs (.dat (.str (blS b))) cs := ⟨_, _, by decide +kernel, .inl ⟨_, rfl⟩, call_reprB, fun ad F H vs Q c r q => by
  match vs, r with
  | [v], r =>
    have r1 := r.1
    cases r1
    exact ⟨b, rfl, q _ H ad .refl c Rep.str⟩⟩
theorem call_reprN : CallR X (.builtin "repr") (fun xs H Q => xs = [.non] ∧ Q (.str (Str.ofString "None")) H) := by
  intro pins s σ H xs us Q I r h
  obtain ⟨rfl, q⟩ := h
  obtain ⟨u, rfl, ru⟩ := vals1 r
  cases (show u = Value.none from ru)
  exact PySem.P.repr_of_none ⟨.str _, H, I.tok _, ⟨_, rfl⟩, q⟩
theorem cb_reprN : CalB X T "repr" [.dat .non] cs (.dat (.str (Str.ofString "None"))) cs := ⟨_, _, by decide +kernel, .inl ⟨_, rfl⟩, call_reprN, fun ad F H vs Q c r q => by
  match vs, r with
  | [v], r =>
    have r1 := r.1
    cases r1
    exact ⟨rfl, q _ H ad .refl c Rep.str⟩⟩
def reprW2 : WC := fun ss cs R => match ss with
  | [.dat (.bl b)] => R (.dat (.str (blS b))) cs
  | [.dat .non] => R (.dat (.str (Str.ofString "None"))) cs
  | ss => reprW ss cs R
theorem jc_repr2 (hG : X.A.guards = some []) (hu : X.A.units + 64 < cLine) : JCall X T "repr" reprW2 := ⟨⟨.builtin "repr", by decide +kernel, .inl ⟨_, rfl⟩⟩, fun ss cs R h => by
  unfold reprW2 at h
  split at h
  · exact ⟨_, _, cb_reprB, h⟩
  · exact ⟨_, _, cb_reprN, h⟩
  · exact (jc_repr hG hu).run _ _ _ h⟩
end
end Dl
namespace Dl
open PySem L2
structure SmC (K : PySem.W.Frag) (C : Addr) (m : Str) (p f : Addr) : Prop where
  ga : PySem.W.specialIn K (.ref C) "__getattribute__" = some (some (.builtin "type.__getattribute__"))
  ty : PySem.W.typeIn K (.ref C) = some (.type "type")
  rd : PySem.W.readsIn K C (.type "type") = true
  fd : PySem.W.findCls K (.ref C) (.type "type") m = some (.get (.builtin "staticmethod.__get__") (.ref p) .none (.ref C))
  rc : ∃ rest, PySem.W.recIn K p "staticmethod" = some (.ref f :: rest)
section
variable {X : Cx} {x m : Str} {p1 p2 pos : Pos} {e : Expr} {es : List Expr} {kws : List Keyword} {C q f : Addr} {k : Nat} {fd : FuncData} {ps : List Str} {sp : Sp} {E : St → XK} {t tk : TA} {pl : Sem Bool} {CX : CXT}
end
section
variable {X : Cx} {T : Tab} {W : WX} {e : Expr} {es : List Expr} {kws : List Keyword} {pos p1 p2 : Pos} {wA wK : WpA} {c : Ct} {cx : CtX} {k : Nat} {fd : FuncData} {ps : List Str} {m y : Str} {C q f : Addr} {pl : Sem Bool}
end
section
variable {X : Cx} {T : Tab} {d : D} {ds : List D} {cs : List Cell}
end
end Dl
namespace Dl
open PySem L2
section
variable {X : Cx} {T : Tab} {W : WX} {c : Ct} {k cn : Nat} {fd : FuncData} {ps : List Str} {C g : Addr} {fn : List Str} {cs : List Cell} {ds : List D} {d : D}
end
end Dl
namespace Dl
open PySem L2
def TsO (x : Str) : Prop := ∀ c ∈ x.cps.toList, c < 0x110000
theorem TsO.ok {x : Str} (h : TsO x) : PyData.canLay0 (.str x) = true := by
  have e : PyData.strOk x = true := by
    unfold PyData.strOk
    rw [← Array.all_toList, List.all_eq_true]
    exact fun c hc => decide_eq_true (h c hc)
  simpa [PyData.canLay0] using e
end Dl
namespace Dl
open PySem L2
section
variable {X : Cx} {T : Tab} {C C2 g : Addr} {fd : FuncData} {ps : List Str} {k cn cm : Nat} {c : Ct} {fn fm : List Str} {ds es : List D} {d : D} {cs : List Cell} {w2 : W2}
theorem cop_ownEqO {sp : Sp} (hsub : PySem.W.subIn X.K (.ref C2) (.ref C) = some false) (G : FnOk X.prog X.w X.K X.mg X.base CX0 k g fd ps sp) (hr : Room k X.A) (hb : Binds X.K fd ps []) (hs : PySem.W.findIn X.K (.ref C) "__eq__" = some (some (.ref g))) (hf : PySem.W.isFn X.K (.ref g) = true) :
    OpR X (compareOp .Eq) (fun x y H Q => ∃ a dx fs, x = .ref a ∧ H a = some (.ins C dx fs) ∧ TyX X.K H y (.ref C2) ∧ sp [x, y] H Q E0) := by
  intro pins s σ H x y v u Q I rx ry h
  obtain ⟨a, dx, fs, rfl, ea, ty, hsp⟩ := h
  cases rx
  obtain ⟨mA, J, _⟩ := ins_get I.hok ea
  obtain ⟨od, J, _⟩ := J.look
  obtain ⟨Pk, kx, pk, _⟩ := kit_of I ry ty
  obtain ⟨m, hF⟩ := I.fr
  exact PySem.W.cmp_K (op := .Eq) (tb := .ref C2) hr.units0 hF I.ok.mod.kin J (kx.ty _ _ I.kIn pk) (by simp [PySem.W.notFirst, hsub]) hs hf (thn (run_vals (us := [.ref a, u]) (vs := [.ref a, y]) G hr hb I (.cons rfl (.cons ry .nil)) hsp) fun _ _ z => cmpb z)
theorem cop_ownNeO {sp : Sp} (N : NeC X.K C) (hsub : PySem.W.subIn X.K (.ref C2) (.ref C) = some false) (G : FnOk X.prog X.w X.K X.mg X.base CX0 k g fd ps sp) (hr : Room (k + 1) X.A) (hb : Binds X.K fd ps []) (hs : PySem.W.findIn X.K (.ref C) "__eq__" = some (some (.ref g))) (hf : PySem.W.isFn X.K (.ref g) = true) :
    OpR X (compareOp .NotEq) (fun x y H Q => ∃ a dx fs, x = .ref a ∧ H a = some (.ins C dx fs) ∧ TyX X.K H y (.ref C2) ∧ sp [x, y] H (fun v H' => ∃ b, v = .bl b ∧ Q (.bl (!b)) H') E0) := by
  intro pins s σ H x y v u Q I rx ry h
  obtain ⟨a, dx, fs, rfl, ea, ty, hsp⟩ := h
  cases rx
  obtain ⟨mA, J, _⟩ := ins_get I.hok ea
  obtain ⟨od, J, _⟩ := J.look
  obtain ⟨Pk, kx, pk, _⟩ := kit_of I ry ty
  have hu : X.A.units + 1 < cLine := hr.in1.units0
  show wpAny _ _ (richCompare .NotEq (.ref a) u) _ _ _
  refine ne_KT hu I.kIn J (kx.ty _ _ I.kIn pk) hsub N.mr N.ne hs hf (thn (run_in1 (us := [.ref a, u]) (vs := [.ref a, y]) G hr hb I (.cons rfl (.cons ry .nil)) hsp) fun u s' z => ?_)
  obtain ⟨v, H', I', r, b', rfl, q⟩ := z
  cases (show u = Value.bool b' from r)
  exact ⟨b', rfl, .bl (!b'), H', I', rfl, q⟩
end
end Dl
namespace Dl
open PySem L2
section
variable {X : Cx} {T : Tab} {W : WX} {e : Expr} {es : List Expr} {p : Pos} {w : WpE} {wA : WpA}
end
def prD : List D → Option (List (Key × D))
  | [] => some []
  | .tup [k, v] :: r => match keyD k, prD r with
    | some x, some l => some ((x, v) :: l)
    | _, _ => none
  | _ :: _ => none
def mergeD (acc more : List (Key × D)) : List (Key × D) := more.foldl (fun acc kv => putD acc kv.1 kv.2) acc
section
variable {T : Tab} {K : PySem.W.Frag} {M : Addr → Prop} {H : Hp}
theorem pairs_rep : ∀ {ds : List D} {kds : List (Key × D)} {vs : List V}, prD ds = some kds → Reps T K M H vs ds → ∃ ps kvs, vs = ps.map V.ref ∧ Paired (fun p (kv : Key × V) => SqT K H p [kV kv.1, kv.2]) ps kvs ∧ KR T K M H kvs kds
  | [], kds, vs, h, r => by
    cases h
    cases r
    exact ⟨[], [], rfl, .nil, .nil⟩
  | d :: ds, kds, vs, h, r => by
    unfold prD at h
    split at h
    · rename_i e; cases e
    · rename_i k x r0 e
      cases e
      split at h
      · rename_i x' l hk hl
        cases h
        cases r with
        | cons a t =>
          obtain ⟨ps, kvs, rfl, h2, h3⟩ := pairs_rep hl t
          cases a with
          | @tup p ws _ e1 q1 =>
            cases q1 with
            | cons a1 t1 =>
              cases t1 with
              | cons a2 t2 =>
                cases t2
                cases key_rep a1 hk
                exact ⟨p :: ps, (x', _) :: kvs, rfl, .cons e1.sq h2, .cons a2 h3⟩
      · cases h
    · cases h
theorem KR.merge {kvs : List (Key × V)} {kds : List (Key × D)} (h : KR T K M H kvs kds) : ∀ {acc : List (Key × V)} {accd : List (Key × D)}, KR T K M H acc accd → KR T K M H (mergeK acc kvs) (mergeD accd kds) := by
  induction kds generalizing kvs with
  | nil =>
    intro acc accd q
    have : kvs = [] := by
      have := h.len
      cases kvs with
      | nil => rfl
      | cons _ _ => cases this
    subst this
    exact q
  | cons p r ih =>
    intro acc accd q
    cases kvs with
    | nil => have := h.len; cases this
    | cons a t =>
      obtain ⟨d, r', e, h1, h2⟩ := h.inv
      cases e
      exact ih h2 (q.put h1)
end
section
variable {X : Cx} {T : Tab} {W : WX} {ad : List Addr} {F : Addr → Prop} {H : Hp} {cs : List Cell} {s1 : Sl} {ds : List D} {kds : List (Key × D)}
theorem new_dctC {K : PySem.W.Frag} {kvs : List (Key × V)} {Q : VK} (c : HoldC T K ad F H cs) (r : KR T K (Mm ad F) H kvs kds) (q : ∀ z H' ad', Ext ad F H ad' H' → HoldC T K ad' F H' (cs ++ [.dct kds]) → SlRep T K ad' F H' z (.cel cs.length) → Q z H')
    {p : Addr} (hp : H p = none) : Q (.ref p) (upd H p (.dK kvs)) := by
  have kp : Kp (Mm ad F) H (Mm (ad ++ [p]) F) (upd H p (.dK kvs)) := fun a o e n => by
    have np : a ≠ p := ne_of_none e hp
    refine ⟨by rw [upd_ne np]; exact e, fun z => ?_⟩
    rcases z with z | z
    · rcases List.mem_append.mp z with z | z
      · exact n (.inl z)
      · exact np (List.mem_singleton.mp z)
    · exact n (.inr z)
  obtain ⟨c2, x2⟩ := c.cell (o := .dK kvs) (c := .dct kds) hp ⟨kvs, upd_same, r.kp kp⟩
  refine q _ _ _ x2 c2 ⟨p, ?_, rfl⟩
  rw [← c.ln, List.getElem?_append_right (Nat.le_refl _), Nat.sub_self]
  rfl
theorem cb_dictP (hc : X.calm = true) (h : isLst cs ds s1) (hp : prD ds = some kds) : CalB X T "dict" [s1] cs (.cel cs.length) (cs ++ [.dct (mergeD [] kds)]) := ⟨_, _, by decide +kernel, .inr ⟨_, rfl⟩, call_dictP hc, fun ad F H vs Q c r q => by
  match vs, r with
  | [v], r =>
    obtain ⟨a, ws, rfl, e1, q1⟩ := rd_lst h c r.1
    obtain ⟨ps, kvs, rfl, h2, h3⟩ := pairs_rep hp q1
    exact ⟨a, ps, kvs, rfl, SqL.of e1, h2, fun l hl => new_dctC c (h3.merge .nil) q hl⟩⟩
theorem cb_dictD (h : kdOf cs s1 = some kds) : CalB X T "dict" [s1] cs (.cel cs.length) (cs ++ [.dct kds]) := ⟨_, _, by decide +kernel, .inr ⟨_, rfl⟩, call_dictD, fun ad F H vs Q c r q => by
  match vs, r with
  | [v], r =>
    obtain ⟨a, kvs, rfl, e1, h3⟩ := rd_dct h c r.1
    exact ⟨a, kvs, rfl, e1, fun l hl => new_dctC c h3 q hl⟩⟩
def dictW : WC := fun ss cs R => match ss with
  | [s] => match kdOf cs s with
    | some kds => R (.cel cs.length) (cs ++ [.dct kds])
    | none => wL cs s fun ds => match prD ds with
      | some kds => R (.cel cs.length) (cs ++ [.dct (mergeD [] kds)])
      | none => False
  | _ => False
theorem jc_dict (hc : X.calm = true) : JCall X T "dict" dictW := ⟨⟨.type "dict", by decide +kernel, .inr ⟨_, rfl⟩⟩, fun ss cs R h => by
  unfold dictW at h
  split at h
  · split at h
    · rename_i hk
      exact ⟨_, _, cb_dictD hk, h⟩
    · obtain ⟨ds, h1, h⟩ := wL_of h
      split at h
      · rename_i hp
        exact ⟨_, _, cb_dictP hc h1 hp, h⟩
      · exact h.elim
  · exact h.elim⟩
end
section
variable {X : Cx} {e : Expr} {te : TE} {p apos cpos pos : Pos}
end
section
variable {X : Cx} {T : Tab} {W : WX} {e : Expr} {p apos cpos pos : Pos} {we : WpE}
end
end Dl
namespace Dl
open PySem L2
section
open PySem.Spec PyProof.Rows
end
section
variable {X : Cx} {T : Tab} {ds : List D} {cs : List Cell}
end
end Dl
namespace Dl
open PySem L2
section
variable {X : Cx} {T : Tab} {W : WX} {o i : Expr} {pos : Pos} {wo wi : WpE}
def dictOf (cs : List Cell) (s : Sl) : Option (List (Key × D)) := match kdOf cs s with
  | some kds => some kds
  | none => (lstOf cs s).bind fun ds => (prD ds).map (mergeD [])
def dictEW : WC := fun ss cs R => match ss with
  | [s] => ∃ kds, dictOf cs s = some kds ∧ R (.cel cs.length) (cs ++ [.dct kds])
  | _ => False
theorem jc_dictE (hc : X.calm = true) : JCall X T "dict" dictEW := ⟨⟨.type "dict", by decide +kernel, .inr ⟨_, rfl⟩⟩, fun ss cs R h => by
  unfold dictEW at h
  split at h
  · rename_i s
    obtain ⟨kds, h1, h⟩ := h
    refine (jc_dict (T := T) hc).run _ _ _ ?_
    unfold dictW
    unfold dictOf at h1
    split at h1
    · rename_i hk
      cases h1
      dsimp only
      rw [hk]
      exact h
    · rename_i hk
      dsimp only
      rw [hk]
      dsimp only
      unfold wL
      cases e : lstOf cs s with
      | none => rw [e] at h1; cases h1
      | some ds =>
        rw [e] at h1
        dsimp only
        cases e2 : prD ds with
        | none => rw [Option.bind_some, e2] at h1; cases h1
        | some k2 =>
          rw [Option.bind_some, e2] at h1
          cases h1
          exact h
  · exact h.elim⟩
end
section
variable {X : Cx} {T : Tab} {W : WX} {n : Nat} {e o ix : Expr} {pos p' : Pos} {we wo wx : WpE}
end
end Dl
namespace Dl
open PySem L2
section
variable {X : Cx} {T : Tab} {W : WX}
end
end Dl
namespace Dl
open PySem L2
end Dl
namespace Dl
open PySem L2 PySem.Spec PyProof.Rows
section
variable {X : Cx} {pins : List (Addr × Obj)} {σ : L2.St} {H : Hp} {s : Shared}
structure Made (H : Hp) (P f c : Addr) (F : LamF) (H1 : Hp) : Prop where
  keep : ∀ b o, b ≠ P → H b = some o → H1 b = some o
  tab : LamX.TabS H1 P F.q
  nf : H f = none
  fn : H1 f = some (LamO f F c)
  co : H1 c = some (LamX.CodeO c F.q)
end
section
variable {T : Tab} {K : PySem.W.Frag} {ad : List Addr} {Fm : Addr → Prop} {H H1 : Hp} {cs : List Cell} {P f c : Addr} {F : LamF}
end
section
variable {X : Cx} {T : Tab} {W : WX} {F : LamF} {c P : Addr} {pos : Pos} {ps : Arguments} {b : Expr} {sc : Scope}
end
structure LamOk (P : Program) (w : World) (K : PySem.W.Frag) (mg : Str → Option Value) (base : Heap) (k : Nat) (n : Nat) (F : LamF) (sp : Sp) : Prop where
  ln : ∀ {vs : List V} {H : Hp} {Q : VK} {E : XK}, sp vs H Q E → vs.length = n
  go : ∀ {A : Around} {fs : List Env} {s : Shared} {H : Hp} {us : List Value} {vs : List V} {Q : VK} {f c : Addr}, Room k A → Env0 P w K mg base A fs s H → H f = some (LamO f F c) → H c = some (LamX.CodeO c F.q) → Vals vs us → sp vs H Q E0 →
    codeAny (model P w) A (.call (.ref f) ⟨us, []⟩) (CR CX0 fs P w H s Q E0) s
section
variable {P : Program} {w : World} {K : PySem.W.Frag} {mg : Str → Option Value} {base : Heap} {k : Nat} {ps N : List Str} {sp : Sp} {F : LamF}
end
section
variable {T : Tab} {P : Program} {w : World} {K : PySem.W.Frag} {mg : Str → Option Value} {base : Heap} {k : Nat} {ps N : List Str} {F : LamF} {we : WpE}
end
end Dl
namespace Dl
open PySem L2 PySem.Spec PyProof.Rows
section
variable {X : Cx} {F : LamF} {x : Str} {p pos : Pos} {e : Expr} {es : List Expr} {n k : Nat} {sp : Sp}
end
section
variable {X : Cx} {T : Tab} {W : WX} {F : LamF} {x : Str} {p pos : Pos} {e : Expr} {es : List Expr} {n k : Nat} {c : Ct} {wo : WpE} {wA : WpA}
end
section
variable {X : Cx} {T : Tab} {W : WX} {ad : List Addr} {F : Addr → Prop} {H : Hp} {cs : List Cell} {kds : List (Key × D)} {pos p1 p2 : Pos} {i : Int} {b : Bool} {k1 k2 : Nat}
end
section
variable {X : Cx} {T : Tab} {W : WX} {ad : List Addr} {F : Addr → Prop} {H : Hp} {cs : List Cell} {kds : List (Key × D)} {s1 : Sl}
end
section
variable {T : Tab} {K : PySem.W.Frag} {F : Addr → Prop} {ad : List Addr} {H : Hp} {a : Addr} {o : Obj} {kvs : List (Key × V)}
theorem key_repO {T : Tab} {M : Addr → Prop} : ∀ k : Key, Rep T K M H (kV k) (keyOf k)
  | .inl _ => Rep.int
  | .inr _ => Rep.str
def prsD (ks : List Key) (xs : List D) : List D := (ks.zip xs).map fun kv => .tup [keyOf kv.1, kv.2]
theorem iti_ok {xs : List D} (n : ¬ Mm ad F a) (e1 : H a = some (.frz o (.dK kvs))) (r : Reps T K (Mm ad F) H (kvs.map (·.2)) xs) : ItOk T K F (Iti a o kvs) (prsD (kvs.map (·.1)) xs) ad H := fun F2 ad2 H2 cs2 c2 kp i => ⟨fun d hd => by
    obtain ⟨e2, n2⟩ := kp a _ e1 n
    unfold prsD at hd
    rw [List.getElem?_map] at hd
    cases hz : ((kvs.map (·.1)).zip xs)[i]? with
    | none => rw [hz] at hd; cases hd
    | some kd =>
      rw [hz] at hd
      have hd : D.tup [keyOf kd.1, kd.2] = d := Option.some.inj hd
      subst hd
      obtain ⟨z1, z2⟩ := List.getElem?_zip_eq_some.mp hz
      rw [List.getElem?_map] at z1
      cases hk : kvs[i]? with
      | none => rw [hk] at z1; cases z1
      | some kv =>
        rw [hk] at z1
        have z1 : kv.1 = kd.1 := Option.some.inj z1
        obtain ⟨v, hv, rv⟩ := (r.kp kp).get z2
        rw [List.getElem?_map, hk] at hv
        have hv : kv.2 = v := Option.some.inj hv
        refine ⟨⟨e2, (List.getElem?_eq_some_iff.mp hk).1⟩, fun w H3 y => ?_⟩
        obtain ⟨Tt, k, v', hv', rfl, hT, rfl⟩ := y
        rw [hk] at hv'
        have hv' : kv = (k, v') := Option.some.inj hv'
        subst hv'
        obtain ⟨c3, x3⟩ := c2.newo (o := .tup [kV k, v']) hT
        refine ⟨fun b o' e => by rw [upd_ne (ne_of_none e hT)]; exact e, .tup (vs := [kV k, v']) (.inl ⟨c2.new hT, .inl upd_same⟩) (.cons ?_ (.cons ?_ .nil))⟩
        · rw [← z1]; exact key_repO k
        · cases hv
          exact rv.kp x3.kp, fun hi => ⟨(kp a _ e1 n).1, by
      have l := r.length
      rw [List.length_map] at l
      unfold prsD at hi
      rw [List.length_map, List.length_zip, List.length_map, ← l, Nat.min_self] at hi
      omega⟩⟩
end
section
variable {X : Cx} {T : Tab} {W : WX} {e : Expr} {w : WpE} {elts : List Expr} {kk : Nat} {tpos apos cpos : Pos}
end
end Dl
namespace Dl
open PySem L2 PySem.Spec PyProof.Rows
section
variable {T : Tab} {P : Program} {w : World} {K : PySem.W.Frag} {mg : Str → Option Value} {base : Heap} {nm qual : Str} {st : Stmt} {f c : Addr} {N ps : List Str} {k : Nat} {ws : Nat → WS} {dV kV doc pm ct oc : Value} {an od : Option Addr} {osl : Array (Option Value)} {fd : FuncData}
structure FunC (K : PySem.W.Frag) (nm qual : Str) (st : Stmt) (f c : Addr) (fd : FuncData) : Prop where
  ex : ∃ (dV kV doc pm ct oc : Value) (an od : Option Addr) (osl : Array (Option Value)), fd = PySem.W.fnOf nm qual (defArgs st) (defBody st) (defScope st) dV kV doc pm an (.ref c) ct ∧ K.lookup f = some ⟨oc, od, .func fd, osl⟩ ∧ PySem.W.codeIn K (.ref c) qual = true
end
section
variable {P : Program} {w : World} {K : PySem.W.Frag} {mg mb : Str → Option Value} {a c Tp : Addr} {s : Shared} {vs : List Value} {H : Hp}
end
end Dl
namespace Dl
open PySem L2 PySem.Spec PyProof.Rows
end Dl
namespace Dl
open PySem L2
section
variable {X : Cx} {T : Tab} {W : WX} {y : Str} {p pos : Pos} {kws : List Keyword} {f : Addr} {k : Nat} {fd : FuncData} {ps : List Str} {sp : Sp} {t : TA} {c : Ct} {wK : WpA}
end
end Dl
namespace Dl
open PySem L2
section
variable {X : Cx} {T : Tab} {W : WX} {n : Nat} {e it tg : Expr} {pos : Pos} {w : WpE} {body : List Stmt} {pa : Pat}
end
end Dl
namespace L2
open PySem PySem.Spec PyProof.Rows
section
variable {X : Cx} {a b c e : Expr} {ta : TA} {p p2 pos pos2 : Pos}
end
end L2
namespace Dl
open PySem L2
section
variable {X : Cx} {T : Tab} {W : WX} {a b c : Expr} {wA : WpA} {p p2 pos pos2 : Pos}
end
end Dl
namespace Dl
open PySem L2
section
variable {X : Cx} {T : Tab} {W : WX} {e o : Expr} {wa we wo : WpE} {pos apos p2 : Pos}
def slcSW (s1 : Sl) (l u : Option Int) (cs : List Cell) (R : RV) : Prop := match s1 with
  | .dat (.str x) => x.length ≤ sizeLine ∧ R (.dat (.str (cutS x l u))) cs
  | s1 => slcW s1 l u cs R
inductive JP (X : Cx) (T : Tab) (W : WX) : List Expr → List WpE → Prop where
  | nil : JP X T W [] []
  | cons {e : Expr} {w : WpE} {es : List Expr} {ws : List WpE} (h : JE X T W e w) (r : JP X T W es ws) : JP X T W (e :: es) (w :: ws)
end
end Dl
namespace L2
open PySem PySem.Spec PyProof.Rows
section
variable {X : Cx} {e o : Expr} {es : List Expr} {st : Stmt} {rest : List Stmt} {t u : TS} {te to : TE} {ta : TA} {pos apos cp : Pos}
end
end L2
namespace Dl
open PySem L2
section
variable {X : Cx} {T : Tab} {W : WX} {n : Nat} {e o : Expr} {es : List Expr} {wA : WpA} {w we wo : WpE} {st : Stmt} {rest : List Stmt} {w1 w2 : WS} {pos apos cp lp p' : Pos} {x : Str}
end
end Dl
namespace L2
open PySem PySem.Spec PyProof.Rows
section
variable {X : Cx}
end
end L2
namespace Dl
open PySem L2
section
variable {X : Cx} {T : Tab} {W : WX} {n : Nat} {a b e o tg it : Expr} {es body : List Expr} {wa wb w we wo : WpE} {wA : WpA} {st : Stmt} {rest : List Stmt} {w1 w2 : WS} {pos apos cp lp p' : Pos} {x : Str} {pa : Pat} {wi : WpI}
end
end Dl
namespace Dl
open PySem L2
open PySem.W in
theorem kit_tyb {K : Frag} {C : Addr} {u : String} {b : Bool} (hm : kitMeta u = true) (h4 : subIn K (.ref C) (.type u) = some b) : kitOne K (.ref C) (.type u) = some b := by
  show (if ((Value.ref C) == .type u) = true then some true else (if kitMeta u = true then subIn K (.ref C) (.type u) else none)) = some b
  rw [show ((Value.ref C) == .type u) = false from rfl, if_neg (by decide), if_pos hm]
  exact h4
section
variable {X : Cx} {T : Tab} {a Ce : Addr} {oe : Obj} {d : Option Addr} {pn : List (Addr × Obj)} {e : Expr} {pos p p2 : Pos} {m : Nat} {w : WpE} {x : Str} {u : String}
def rIsXB (K : PySem.W.Frag) (Ce a : Addr) (d : Option Addr) (u : String) : List V → Hp → VK → Prop := fun xs H Q => (d = none ∨ ∃ dd fs, d = some dd ∧ H dd = some (.xd fs)) ∧
  ∃ b, xs = [.ref a, .ty u] ∧ PySem.W.kitOne K (.ref Ce) (.type u) = some b ∧ Q (.bl b) H
theorem call_isXB (c : ExcC X.K Ce) (hz : Zc (.ref Ce) d oe) (hf : ∃ vs, oe.data = .fields vs) : CallR (X.suite a ((a, oe) :: pn)) (.builtin "isinstance") (rIsXB X.K Ce a d u) := by
  intro pins s σ H xs us Q I r h
  obtain ⟨hd, h⟩ := h
  obtain ⟨hget, _⟩ := I.pin (a, oe) (List.mem_append.mpr (.inl List.mem_cons_self))
  obtain ⟨vs, hv⟩ := hf
  have J : ∃ od, PySem.W.InstAt s.heap a oe Ce od := by
    rcases hd with rfl | ⟨dd, fs, rfl, e⟩
    · refine ⟨none, hget, hz.1, by unfold PySem.W.notCls; rw [hv] <;> rfl, ?_⟩
      rw [hz.2]
      trivial
    · obtain ⟨mA, hns, _⟩ : ObjOk X.prog X.w H s.heap dd (.xd fs) := I.hok dd _ e
      obtain ⟨od, ho, _⟩ := lookIn_ns hns
      exact ⟨some od, hget, hz.1, by unfold PySem.W.notCls; rw [hv] <;> rfl, by rw [hz.2]; exact ho⟩
  obtain ⟨od, J⟩ := J
  obtain ⟨b, rfl, e, q⟩ := h
  obtain ⟨u1, u2, rfl, r1, r2⟩ := vals2 r
  cases (show u1 = Value.ref a from r1)
  cases (show u2 = Value.type u from r2)
  exact PySem.W.kia_one (kit_exc c) I.kIn J e (fun z => nomatch z) fun tk => ⟨.bl b, H, I.tok tk, rfl, q⟩
theorem je_isiEB {kb : Option Bool} (E : Err X T m a d Ce oe) (hi : X.mg "isinstance" = none) (hm : X.mg x = none) (hv : bootBuiltins x = some (.type u)) (hk : ∀ b, kb = some b → PySem.W.kitOne X.K (.ref Ce) (.type u) = some b) (he : JE (X.suite a ((a, oe) :: pn)) T W0 e w) (hg : Gl X "isinstance" := by rfl) (hg2 : Gl X x := by rfl) (hn : x ≠ "__name__" := by decide) (hdb : (x == ("__debug__" : Str)) = false := by decide)
    (h1 : starEach [e, .Name x p2] X.env = (false, eval e X.env) :: starEach [.Name x p2] X.env := by rfl) (h2 : starEach [.Name x p2] X.env = (false, eval (.Name x p2) X.env) :: starEach [] X.env := by rfl) (hpl : (backTo pos (starEach [.Name x p2] X.env)).any (·.1) = false := by rfl) :
    JE (X.suite a ((a, oe) :: pn)) T W0 (.Call (.Name "isinstance" p) [e, .Name x p2] [] pos) (wIsiE m a d kb w) :=
  weak (pe_callB (X := X.suite a ((a, oe) :: pn)) (call_isXB E.ec E.hz E.hf) hg hi (by decide +kernel) (pa_cons he (pa_cons (pe_bltn (X := X.suite a ((a, oe) :: pn)) (v := .ty u) hg2 hm hv rfl hn hdb) pa_nil h2) h1) (by decide) (by decide) h1 hpl) fun σ H Q ⟨ad, F, sl, cs, R, Rx, h0, hw, q, qx⟩ => ⟨ad, F, sl, cs, _, Rx, h0, hw, fun s c1 v H1 ad1 hw1 x1 h1 r1 => by
    have hw1' := errW_of hw1
    clear hw1
    obtain ⟨fs, e0, hw1⟩ := hw1'
    subst e0
    obtain ⟨k, hkb, hR⟩ := optW_of hw1
    cases r1 with
    | err ht hx _ => exact ⟨xat_or hx, k, rfl, hk _ hkb, q _ c1 _ H1 ad1 hR x1 h1 Rep.bl⟩, qx⟩
end
end Dl
namespace Dl
open PySem L2 PySem.Spec PyProof.Rows PySem.W PySem.Calls PySem.HandSPX
inductive Tl (t : List Value) : List Value → Prop
  | base : Tl t t
  | ref {c : Addr} {r : List Value} : Tl t r → Tl t (.ref c :: r)
abbrev keT : List Value := [.type "KeyError", .type "LookupError", .type "Exception", .type "BaseException", .type "object"]
structure TlF (t : List Value) (nid : String) : Prop where
  new : ∃ B iN bN, ExcBaseFacts B nid iN bN ∧ t.contains (.type B) = true
  noA : t.contains (.type "AttributeError") = false
  noN : t.contains (.type "NameError") = false
  obj : t.contains (.type "object") = true
  ne : t.isEmpty = false
  pass : ∀ self : Value, refuseLoop self "__setattr__" t = pure ()
theorem tlf_ke : TlF keT "LookupError.__new__" := ⟨⟨_, _, _, F.excBase_LookupError, by decide +kernel⟩, by decide +kernel, by decide +kernel, by decide +kernel, rfl, fun self => by kernel_rfl⟩
theorem Tl.has {t l : List Value} (h : Tl t l) (X : String) : l.contains (.type X) = t.contains (.type X) := by
  induction h with
  | base => rfl
  | ref _ ih => rw [List.contains_cons, ih] <;> rfl
theorem Tl.full {t l : List Value} (h : Tl t l) (n : t.isEmpty = false) : l.isEmpty = false := by
  cases h with
  | base => exact n
  | ref _ => rfl
theorem Tl.goes {t l : List Value} (h : Tl t l) (p : ∀ self : Value, refuseLoop self "__setattr__" t = pure ()) (self : Value) : refuseLoop self "__setattr__" l = pure () := by
  induction h with
  | base => exact p self
  | ref _ ih => rw [refuseLoop_ref] <;> exact ih
structure IniF (B iid : String) : Prop where
  slot : Slot B "__init__" iid
  entry : entryFor table iid = some Builtin.«BaseException.__init__»
  split : splitId iid = some (B, "__init__")
  kind : builtinKind iid = some .slot
  row : Manifest.signature? iid = some ⟨.positional, "*", B, .self, [⟨"args", .varPos, false⟩]⟩
  star : (B != "*") = true
theorem ini_ke : IniF "KeyError" "KeyError.__init__" where
  slot := .of (owner := "KeyError") (n := "__init__") (by rw [typeLookup_type, builtinLookup_eq_fast] <;> kernel_rfl) (by decide +kernel) (by decide +kernel) (by decide +kernel)
    (by first | exact Or.inl (by decide +kernel) | exact Or.inr (by decide +kernel)) (by rw [isSubtype_type] <;> kernel_rfl)
  entry := entryFor_alias (id' := "BaseException.__init__") (by rw [fastTable_eq_tree] <;> kernel_rfl) (by first | rfl | decide +kernel) (by decide +kernel) (by rw [fastTable_eq_tree] <;> kernel_rfl)
  split := by kernel_rfl
  kind := by kernel_rfl
  row := by kernel_rfl
  star := by decide +kernel
section
variable {prog : Program} {w : World} {A : Around} {E : Value → Shared → Prop} {R : Result → Shared → Prop} {h : Heap} {g : Array GenState} {dr : Drawn} {tk : Nat} {os : OsState}
variable {nm q : Str} {C N : Addr} {bs bm t : List Value} {hdct : Bool} {sn : List Str} {sub : List Value} {ab : Bool} {col : Option Bool} {dd : Option Addr} {k0 k1 k2 k3 k5 : Option Value} {nid iid B : String}
theorem newB (T : TlF t nid) (l : Tl t bm) {rest : List Value} (hC : h.get? C = some (excClassObj nm q C N bs bm hdct sn sub ab col dd k0 k1 k2 k3 k5 nid)) (hr : rest.length ≤ sizeLine)
    (hq : R (.ok (.ret (.ref (h.objs.size + 1)))) ⟨(h.push (kdv_tup rest)).push (excO C h.objs.size), g, dr, tk, os⟩) : codeAny (model prog w) A (.builtin nid ⟨.ref C :: rest, []⟩) R ⟨h, g, dr, tk, os⟩ := by
  obtain ⟨Bn, iN, bN, Fn, hB⟩ := T.new
  have e0 := Fn.ends
  have e1 : (Value.ref C :: bm).contains (.type Bn) = true := by rw [List.contains_cons, l.has, hB, Bool.or_true]
  have e2 : (Value.ref C :: bm).contains (.type "AttributeError") = false := by rw [List.contains_cons, l.has, T.noA] <;> rfl
  have e3 : (Value.ref C :: bm).contains (.type "NameError") = false := by rw [List.contains_cons, l.has, T.noN] <;> rfl
  refine codeAny_builtinAt Fn.entry ?_
  unfold Builtin.«BaseException.__new__»
  refine PySem.wpAt_bind (show PySem.wpAt _ _ _ (stack >>= _) _ _ _ from PySem.wpAt_bind (PySem.wpAt_stack fun p below => PySem.wpAt_of_wpAny ?_))
  wp_walk
  rw [Fn.owner]
  refine PySem.wpAt_of_wpAny ?_
  repeat (first
    | with_reducible refine wpAny_madeHere_exc Fn.canon hC ?_
    | with_reducible refine wpAny_loadPart_at hC ?_
    | (with_reducible refine wpAny_isSubtype_exc hC ?_; first | rw [e1] | rw [e2] | rw [e3])
    | wp_step)
  show R _ _
  rw [Heap.size_push] <;> exact hq
theorem checkNewB (T : TlF t nid) (l : Tl t bm) {rest : List Value} {Q : Unit → Shared → Prop} (hC : h.get? C = some (excClassObj nm q C N bs bm hdct sn sub ab col dd k0 k1 k2 k3 k5 nid)) (hq : Q () ⟨h, g, dr, tk, os⟩) :
    wpAny (model prog w) A (checkBuiltinCall nid ⟨.ref C :: rest, []⟩) Q E ⟨h, g, dr, tk, os⟩ := by
  obtain ⟨Bn, iN, bN, Fn, hB⟩ := T.new
  have e1 : (Value.ref C :: bm).contains (.type Bn) = true := by rw [List.contains_cons, l.has, hB, Bool.or_true]
  have e0 := Fn.noStar
  simp only [checkBuiltinCall, Fn.newKind, Fn.newSplit, Fn.newRow]
  repeat (first
    | refine wpAny_loadPart_at hC ?_
    | (refine wpAny_isSubtype_exc hC ?_; rw [e1])
    | refine wpAny_staticBase_exc hC ?_
    | refine wpAny_madeBy_exc hC ?_
    | simp only [bne_self_eq_false, Bool.false_eq_true, if_false]
    | wp_step)
  exact hq
theorem typeCallB (T : TlF t nid) (l : Tl t bm) {rest : List Value} {fI : Addr} {Q : Fin → Shared → Prop} (hC : h.get? C = some (excClassObj nm q C N bs bm hdct sn sub ab col dd k0 k1 k2 k3 k5 nid))
    (hi : Looks (model prog w) h (typeLookup (.ref C) "__init__") (some (.ref fI))) (hb : ∀ self, Looks (model prog w) h (bindSpecial (.ref fI) self) (.ref fI, [self])) (hr : rest.length ≤ sizeLine)
    (hq : codeAny (model prog w) A (.call (.ref fI) ⟨.ref (h.objs.size + 1) :: rest, []⟩)
      (fun r s' => match r with | .ok (.ret v) => v = .none ∧ Q (.done (.ret (.ref (h.objs.size + 1)))) s' | .ok _ => False | .error e => E e s') ⟨(h.push (kdv_tup rest)).push (excO C h.objs.size), g, dr, tk, os⟩) :
    wpAny (model prog w) A (Builtin.«type.__call__» ⟨.ref C :: rest, []⟩) Q E ⟨h, g, dr, tk, os⟩ := by
  have ky : ∀ b o, h.get? b = some o → ((h.push (kdv_tup rest)).push (excO C h.objs.size)).get? b = some o := fun b o e => Heap.get?_push_of_some _ (Heap.get?_push_of_some _ e)
  have hget : ((h.push (kdv_tup rest)).push (excO C h.objs.size)).get? (h.objs.size + 1) = some (excO C h.objs.size) := by heap_get
  have self_ : (Value.ref C :: bm).contains (.ref C) = true := by simp
  have qu : nid.startsWith "lifetime." = false := let ⟨_, _, _, Fn, _⟩ := T.new; Fn.quiet
  repeat (first | with_reducible refine wpAny_loadPart_at hC ?_ | with_reducible refine wpAny_madeBy_exc hC ?_ | wp_step)
  refine codeAny_call_builtin_code (Code.quiet_builtin _ qu) (checkNewB T l hC (newB T l hC hr (show wpAny _ _ _ _ _ _ from ?_)))
  unfold isInstance
  repeat (first | with_reducible refine wpAny_loadPart_at hget ?_ | (with_reducible refine wpAny_isSubtype_exc (ky _ _ hC) ?_; rw [self_]) | wp_step)
  show wpAny _ _ (typeLookup (.ref C) _) _ _ _
  refine (hi.keeps ky).at (wpAny_holding (wpAny_bind (((hb (.ref (h.objs.size + 1))).keeps ky).at (wpAny_bind (wpAny_call (codeAny_mono hq fun r s' z => ?_))))))
  rcases r with e | (v | _ | _ | _) <;> first | exact z | exact z.elim | skip
  obtain ⟨rfl, z⟩ := z
  first
    | exact wpAny_pure (wpAny_pure z)
    | (wp_walk; exact z)
theorem callB (T : TlF t nid) (l : Tl t bm) {rest : List Value} {fI : Addr} (hC : h.get? C = some (excClassObj nm q C N bs bm hdct sn sub ab col dd k0 k1 k2 k3 k5 nid))
    (hi : Looks (model prog w) h (typeLookup (.ref C) "__init__") (some (.ref fI))) (hb : ∀ self, Looks (model prog w) h (bindSpecial (.ref fI) self) (.ref fI, [self])) (hr : rest.length ≤ sizeLine)
    (hq : codeAny (model prog w) (A.under (.builtin "type.__call__" ⟨.ref C :: rest, []⟩)) (.call (.ref fI) ⟨.ref (h.objs.size + 1) :: rest, []⟩) (InitBack (h.objs.size + 1) R) ⟨(h.push (kdv_tup rest)).push (excO C h.objs.size), g, dr, tk, os⟩) :
    codeAny (model prog w) A (.call (.ref C) ⟨rest, []⟩) R ⟨h, g, dr, tk, os⟩ := by
  have z0 : (⟨h, g, dr, tk, os⟩ : Shared).TypeIs (.ref C) "type" := ⟨_, hC, rfl⟩
  have z1 := tc_lookup
  have z2 := tc_bind (.ref C)
  refine codeAny_of_tree (show wpAny _ _ (callAny (.ref C) _) _ _ _ from ?_)
  repeat (any_goals (first
    | assumption
    | with_reducible refine wpAny_loadPart_at hC ?_
    | wp_step))
  refine ⟨rfl, codeAny_call_builtin_at (Code.quiet_builtin _ (by decide +kernel)) entry_typeCall (wpAny_check_type_call_sub hC (typeCallB T l hC hi hb hr (codeAny_mono hq fun r s' z => ?_)))⟩
  rcases r with e | (v | _ | _ | _) <;> exact z
theorem iniB (I : IniF B iid) (hB : bm.contains (.type B) = true) {e t0 : Addr} {rest : List Value} (hC : h.get? C = some (excClassObj nm q C N bs bm hdct sn sub ab col dd k0 k1 k2 k3 k5 nid)) (he : h.get? e = some (excO C t0)) (hr : rest.length ≤ sizeLine)
    (hq : ∀ h' t1, (∀ b o, b ≠ e → h.get? b = some o → h'.get? b = some o) → h'.get? e = some (excO C t1) → R (.ok (.ret .none)) ⟨h', g, dr, tk, os⟩) : codeAny (model prog w) A (.call (.builtin iid) ⟨.ref e :: rest, []⟩) R ⟨h, g, dr, tk, os⟩ := by
  have chk : ∀ {A : Around} {E : Value → Shared → Prop} {Q : Unit → Shared → Prop}, Q () ⟨h, g, dr, tk, os⟩ → wpAny (model prog w) A (checkBuiltinCall iid ⟨.ref e :: rest, []⟩) Q E ⟨h, g, dr, tk, os⟩ := by
    intro A E Q hq
    have e1 : (Value.ref C :: bm).contains (.type B) = true := by rw [List.contains_cons, hB, Bool.or_true]
    have e0 := I.star
    simp only [checkBuiltinCall, I.kind, I.split, I.row]
    repeat (first
      | with_reducible refine wpAny_loadPart_at he ?_
      | with_reducible refine wpAny_loadPart_at hC ?_
      | (with_reducible refine wpAny_isSubtype_exc hC ?_; rw [e1])
      | wp_step)
    refine wpAny_onRaise ?_
    rw [show ∀ (a b : String) (n : Nat), Bind.check ⟨.positional, "*", B, .self, [⟨"args", .varPos, false⟩]⟩ a b n (List.map (fun x => x.fst) ({ pos := Value.ref e :: rest } : Args).kw) = pure () from fun a b n => check_star_args _ _ _ _ _ _]
    exact wpAny_pure hq
  refine codeAny_call_builtin I.slot.plain I.entry (chk ?_)
  wp_walk
  refine hq _ h.objs.size (fun b o hb ho => ?_) ?_
  · rw [Heap.get?_update_other _ _ (Ne.symm hb)] <;> exact Heap.get?_push_of_some _ ho
  · rw [Heap.get?_update_self _ (Heap.get?_push_of_some _ he) rfl] <;> rfl
end
end Dl
namespace Dl
open PySem L2
structure OexB (K : PySem.W.Frag) (C : Addr) (t : List Value) (nid : String) : Prop where
  cls : ∃ nm q N bs bm sn sub ab col dd k0 k1 k2 k3 k5, K.lookup C = some (excClassObj nm q C N bs bm true sn sub ab col dd k0 k1 k2 k3 k5 nid) ∧ Tl t bm
  sa : PySem.W.findIn K (.ref C) "__setattr__" = some (some (.builtin "object.__setattr__"))
  exC : PySem.W.subIn K (.ref C) (.type "BaseException") = some true
  tyC : PySem.W.typeIn K (.ref C) = some (.type "type")
  kC : PySem.W.keepIn K (.ref C) = true
section
open Builtin Builtin.ObjectAttr PySem.W
variable {prog : Program} {w : World} {A : Around} {E : Value → Shared → Prop} {R : Result → Shared → Prop} {hp : Heap} {g : Array GenState} {dr : Drawn} {t : Nat} {os : OsState}
variable {K : Frag} {name : Str} {tk : Tok} {v : Value} {x C : Addr} {fv : Array Value} {cd : ClassData} {tl : List Value} {nid : String}
theorem osaB_new (T : TlF tl nid) (l : Tl tl cd.mro) (X : K.In hp) (hx : hp.get? x = some { cls := .ref C, data := .fields fv }) (hcd : clsIn K C = some cd) (hh : cd.hasDict = true) (ha : findIn K (.ref C) name = some none)
    (hq : ∀ h' tk' dx, (∀ b o, b ≠ x → hp.get? b = some o → h'.get? b = some o) → hp.objs.size ≤ dx → dx ≠ x → h'.get? x = some { cls := .ref C, dict := some dx, data := .fields fv } → h'.Ns1 dx (fun y => if y = name then some v else none) → R (.ok (.ret .none)) ⟨h', g, dr, tk', os⟩) :
    codeAny (model prog w) A (.call (.builtin "object.__setattr__") ⟨[.ref x, .str name tk, v], []⟩) R ⟨hp, g, dr, t, os⟩ := by
  have S := F.store_object
  have I : InstAt hp x { cls := .ref C, data := .fields fv } C none := ⟨hx, rfl, rfl, trivial⟩
  have xs : x ≠ hp.objs.size := Nat.ne_of_lt (Heap.lt_size hx)
  have hx1 : (hp.push { cls := .type "dict", data := .dict #[] }).get? x = some { cls := .ref C, data := .fields fv } :=
    Heap.get?_push_of_some _ hx
  have sb : Looks (model prog w) hp (isInstance (.ref x) (.type "object")) true := I.type.andThen (looks_mroIn X (by unfold mroIn; rw [hcd, Option.bind_some, if_neg (by rw [l.full T.ne] <;> decide), l.has, T.obj]))
  have lm : Looks (model prog w) hp (mroOf (.ref C)) cd.mro := (looks_clsIn X hcd).andThen .now
  have lt : Looks (model prog w) hp (storeTaker? none) none := .now
  have lc : Looks (model prog w) hp (classData C) cd := looks_clsIn X hcd
  refine codeAny_call_builtin S.slot.plain S.entry (@check_slot (model prog w) _ _ ⟨hp, g, dr, t, os⟩ "object.__setattr__" "object" "__setattr__" (.ref x) [.str name tk, v] [] _ S.kind S.split sb (S.args (.ref x) (.str name tk) v) ?_)
  rw [osa_eq, refuse_eq]
  refine wpAny_bind (wpAny_bind (I.type.at (wpAny_bind (lm.at ?_))))
  rw [l.goes T.pass]
  refine wpAny_pure (wpAny_bind (I.type.at (wpAny_bind ((looks_findIn X ha).at (wpAny_bind (lt.at (show wpAny _ _ (storeInOwnDict (.ref x) (.ref C) (.str name tk) name v false) _ _ _ from ?_)))))))
  obtain ⟨nm, bs, mro, ns, qn, hd, sn, sb2, ab, col, del⟩ := cd
  cases (show hd = true from hh)
  unfold storeInOwnDict ownDictForStores
  repeat (first
    | with_reducible refine PySem.HandSPX.store_in_new ?_ ?_
    | with_reducible refine wpAny_loadPart_at hx ?_
    | with_reducible refine lc.at ?_
    | wp_step)
  · exact ⟨_, #[], _, (Heap.get?_update_ne _ _ _ _ xs.symm).trans (Heap.get?_push_at rfl rfl), rfl, fun e he => absurd he (by simp), fun _ => rfl⟩
  · intro h' tk' hn' hs
    refine hq h' tk' hp.objs.size (fun b o hb ho => (hs.2 b (Nat.ne_of_lt (Heap.lt_size ho))).trans ((Heap.get?_update_ne _ _ _ _ hb).trans (Heap.get?_push_of_some _ ho))) (Nat.le_refl _) xs.symm ?_ hn'
    exact (hs.2 x xs).trans (Heap.get?_update_self _ hx1 rfl)
theorem osaB_old {dx : Addr} {m0 : Str → Option Value} {nl : List Str} (T : TlF tl nid) (l : Tl tl cd.mro) (X : K.In hp) (hx : hp.get? x = some { cls := .ref C, dict := some dx, data := .fields fv }) (hns : hp.Ns1 dx m0) (hw : Within m0 nl) (hz : nl.length ≤ 1000)
    (hcd : clsIn K C = some cd) (hh : cd.hasDict = true) (ha : findIn K (.ref C) name = some none) (hq : ∀ h' tk', (∀ b o, b ≠ dx → hp.get? b = some o → h'.get? b = some o) → h'.Ns1 dx (fun y => if y = name then some v else m0 y) → R (.ok (.ret .none)) ⟨h', g, dr, tk', os⟩) :
    codeAny (model prog w) A (.call (.builtin "object.__setattr__") ⟨[.ref x, .str name tk, v], []⟩) R ⟨hp, g, dr, t, os⟩ := by
  have S := F.store_object
  obtain ⟨oD, esD, epD, hoD, hdD, _⟩ := hns.count hw
  have I : InstAt hp x { cls := .ref C, dict := some dx, data := .fields fv } C (some oD) := ⟨hx, rfl, rfl, hoD⟩
  have sb : Looks (model prog w) hp (isInstance (.ref x) (.type "object")) true := I.type.andThen (looks_mroIn X (by unfold mroIn; rw [hcd, Option.bind_some, if_neg (by rw [l.full T.ne] <;> decide), l.has, T.obj]))
  have lm : Looks (model prog w) hp (mroOf (.ref C)) cd.mro := (looks_clsIn X hcd).andThen .now
  have lt : Looks (model prog w) hp (storeTaker? none) none := .now
  have lc : Looks (model prog w) hp (classData C) cd := looks_clsIn X hcd
  refine codeAny_call_builtin S.slot.plain S.entry (@check_slot (model prog w) _ _ ⟨hp, g, dr, t, os⟩ "object.__setattr__" "object" "__setattr__" (.ref x) [.str name tk, v] [] _ S.kind S.split sb (S.args (.ref x) (.str name tk) v) ?_)
  rw [osa_eq, refuse_eq]
  refine wpAny_bind (wpAny_bind (I.type.at (wpAny_bind (lm.at ?_))))
  rw [l.goes T.pass]
  refine wpAny_pure (wpAny_bind (I.type.at (wpAny_bind ((looks_findIn X ha).at (wpAny_bind (lt.at (show wpAny _ _ (storeInOwnDict (.ref x) (.ref C) (.str name tk) name v false) _ _ _ from ?_)))))))
  obtain ⟨nm, bs, mro, ns, qn, hd, sn, sb2, ab, col, del⟩ := cd
  cases (show hd = true from hh)
  unfold storeInOwnDict ownDictForStores
  repeat (first
    | with_reducible refine PySem.OEX.store_in_old hns hw hz ?_
    | with_reducible refine wpAny_loadPart_at hx ?_
    | with_reducible refine lc.at ?_
    | wp_step)
  exact fun h' tk' hn' hs => hq h' tk' (fun b o hb ho => (hs.2 b hb).trans ho) hn'
end
section
open PySem.Spec PyProof.Rows
variable {X : Cx} {pins : List (Addr × Obj)} {σ : L2.St} {H : Hp} {s : Shared} {a C dx : Addr} {f : Str} {y : V} {u : Value} {fs : List (Str × V)} {Q : Unit → Shared → Prop} {E : Value → Shared → Prop} {A : Around} {tl : List Value} {nid iid B : String}
theorem ostB_new (F : TlF tl nid) (T : OexB X.K C tl nid) (I : Inv X pins σ H s) (e : H a = some (exo a C none)) (hno : PySem.W.findIn X.K (.ref C) f = some none) (ry : RelV y u)
    (h : ∀ dx s', H dx = none → dx ≠ a → Inv X pins σ (upd (upd H dx (exd dx [(f, y)])) a (exo a C (some dx))) s' → Q () s') : wpAny (model X.prog X.w) A (setAttr (.ref a) f u) Q E s := by
  obtain ⟨nm, q, N, bs, bm, sn, sub, ab, col, dd, k0, k1, k2, k3, k5, hC, hl⟩ := T.cls
  obtain ⟨t1, ho⟩ := exo_at I.hok e
  obtain ⟨hp, g, d, t, os⟩ := s
  have cl : PySem.W.clsIn X.K C = some { name := nm, bases := bs, mro := .ref C :: bm, ns := N, qualname := q, hasDict := true, slotNames := sn, subclasses := sub, abstract := ab, collection := col, hasDel := false } := by unfold PySem.W.clsIn; rw [hC] <;> rfl
  refine PySem.W.set_plain I.kIn (ox := { cls := .ref C, dict := none, data := .fields #[.ref t1, .none, .none, .none, .bool false, .none] }) (od := none) ⟨ho, rfl, rfl, trivial⟩ T.sa (osaB_new F (show Tl tl (.ref C :: bm) from .ref hl) I.kIn ho cl rfl hno fun h' tk' dx k dn dne hx hn => ?_)
  have nd0 : H dx = none := I.hok.fresh dn
  have nd : ∀ {b : Addr} {o : Obj}, hp.get? b = some o → b ≠ dx := fun {b o} q => Nat.ne_of_lt (Nat.lt_of_lt_of_le (Heap.lt_size q) dn)
  have na : ∀ {b : Addr}, H b = none → b ≠ a := fun {b} n z => by rw [z, e] at n; cases n
  have U : Un X.fs [] H (upd (upd H dx (exd dx [(f, y)])) a (exo a C (some dx))) hp h' := {
    keep := fun b o q n _ _ => k b o (na n) q
    slot := fun b o q n _ _ => ⟨o.slots, k b o (na n) q⟩
    free := fun b o q n _ => by
      rw [upd_ne (na n), upd_ne (nd q)] <;> exact n
    there := fun b o q _ => by
      by_cases hb : b = a
      · exact ⟨_, hb ▸ hx⟩
      · exact ⟨o, k b o hb q⟩
    tups := fun b xs q => by
      rw [upd_ne (at_ne e q exo_tup), upd_ne (ne_of_none q nd0)] <;> exact q
    frzs := fun b o v q => by
      rw [upd_ne (at_ne e q exo_frz), upd_ne (ne_of_none q nd0)] <;> exact q
    tbls := fun b ps q => ⟨#[], by rw [upd_ne (at_ne e q exo_tbl), upd_ne (ne_of_none q nd0), q] <;> simp⟩ }
  refine h dx _ nd0 dne (I.un (t' := tk') U fun b o q => ?_)
  by_cases hb : b = a
  · subst hb
    rw [upd_same] at q
    cases q
    exact exo_ok hx
  rw [upd_ne hb] at q
  by_cases hd : b = dx
  · subst hd
    rw [upd_same] at q
    cases q
    exact exd_ok hn (relO_put (fs := []) ry fun g => True.intro)
  rw [upd_ne hd] at q
  refine (I.hok b o q).stay (fun c v hc z => k c v (fun z2 => ?_) z) (fun c hc => ?_) fun c xs hc => ?_
  · subst z2
    rcases hc with hc | hc
    · exact hb hc.symm
    · exact at_ne e hc exo_own rfl
  · rw [upd_ne (at_ne e hc exo_own), upd_ne (ne_of_none hc nd0)] <;> exact hc
  · rw [upd_ne (at_ne e hc exo_tup), upd_ne (ne_of_none hc nd0)] <;> exact hc
theorem ostB_old (F : TlF tl nid) (T : OexB X.K C tl nid) (I : Inv X pins σ H s) (e : H a = some (exo a C (some dx))) (ed : H dx = some (exd dx fs)) (hl : fs.length ≤ 900) (hno : PySem.W.findIn X.K (.ref C) f = some none) (ry : RelV y u)
    (h : ∀ s', Inv X pins σ (upd H dx (exd dx ((f, y) :: fs))) s' → Q () s') : wpAny (model X.prog X.w) A (setAttr (.ref a) f u) Q E s := by
  obtain ⟨nm, q, N, bs, bm, sn, sub, ab, col, dd, k0, k1, k2, k3, k5, hC, ht⟩ := T.cls
  obtain ⟨mA, hns, rel⟩ := exd_at I.hok ed
  obtain ⟨t1, ho⟩ := exo_at I.hok e
  obtain ⟨hp, g, d, t, os⟩ := s
  have hw := within_of rel
  have cl : PySem.W.clsIn X.K C = some { name := nm, bases := bs, mro := .ref C :: bm, ns := N, qualname := q, hasDict := true, slotNames := sn, subclasses := sub, abstract := ab, collection := col, hasDel := false } := by unfold PySem.W.clsIn; rw [hC] <;> rfl
  obtain ⟨oD, _, _, hoD, _, _⟩ := hns.count hw
  refine PySem.W.set_plain I.kIn (ox := { cls := .ref C, dict := some dx, data := .fields #[.ref t1, .none, .none, .none, .bool false, .none] }) (od := some oD) ⟨ho, rfl, rfl, hoD⟩ T.sa (osaB_old F (show Tl tl (.ref C :: bm) from .ref ht) I.kIn ho hns hw (by rw [List.length_map] <;> omega) cl rfl hno fun h' tk' k hn => ?_)
  have hd : ∃ o, h'.get? dx = some o := let ⟨o, _, _, e', _⟩ := hn; ⟨o, e'⟩
  exact h _ (I.write (t' := tk') (x := dx) (e := dx) (o := exd dx ((f, y) :: fs)) (by rw [ed] <;> trivial) (.inl rfl) k hd (exd_ok hn (relO_put ry rel)))
theorem oiniB {us : List Value} {Q : Value → Shared → Prop} (Fi : IniF B iid) (hB : tl.contains (.type B) = true) (T : OexB X.K C tl nid) (I : Inv X pins σ H s) (e : H a = some (exo a C none)) (hl : us.length ≤ sizeLine) (h : ∀ s', Inv X pins σ H s' → Q .none s') :
    wpAny (model X.prog X.w) A (call (.builtin iid) (.ref a :: us)) Q E s := by
  obtain ⟨nm, q, N, bs, bm, sn, sub, ab, col, dd, k0, k1, k2, k3, k5, hC, ht⟩ := T.cls
  obtain ⟨t1, ho⟩ := exo_at I.hok e
  obtain ⟨hp, g, d, t, os⟩ := s
  refine wpAny_call (iniB Fi ((ht.has B).trans hB) (I.kIn _ _ hC) ho hl fun h' t2 k hx => ?_)
  have J := I.write (t' := t) (x := a) (e := a) (o := exo a C none) (by rw [e] <;> trivial) (.inl rfl) k ⟨_, hx⟩ (exo_ok hx)
  rw [show upd H a (exo a C none) = H from funext fun b => by
    by_cases hb : b = a
    · rw [hb, upd_same, e]
    · rw [upd_ne hb]] at J
  exact h _ J
end
def tIniB (K : PySem.W.Frag) (tl : List Value) (nid : String) (ta : TA) : TE := fun σ H Q => ta σ H fun vs H1 => ∃ (a C : Addr) (ws : List V), vs = .ref a :: ws ∧ ws.length ≤ 1000 ∧ OexB K C tl nid ∧ H1 a = some (exo a C none) ∧ Q .non H1
def tOstB (K : PySem.W.Frag) (tl : List Value) (nid : String) (f : Str) (to te : TE) : TS := fun D σ H => te σ H fun y H1 => to σ H1 fun x H2 => ∃ a C : Addr, x = .ref a ∧ OexB K C tl nid ∧ PySem.W.findIn K (.ref C) f = some none ∧
  ((H2 a = some (exo a C none) ∧ ∀ dx, H2 dx = none → dx ≠ a → D.nx σ (upd (upd H2 dx (exd dx [(f, y)])) a (exo a C (some dx)))) ∨
    ∃ (dx : Addr) (fs : List (Str × V)), H2 a = some (exo a C (some dx)) ∧ H2 dx = some (exd dx fs) ∧ fs.length ≤ 900 ∧ D.nx σ (upd H2 dx (exd dx ((f, y) :: fs))))
def tMkB (C : Addr) (sp : Sp) (ta : TA) : L2.St → Hp → XK → Prop := fun σ H Q => ta σ H fun vs H1 => vs.length ≤ 1000 ∧ ∀ a, H1 a = none → sp (.ref a :: vs) (upd H1 a (exo a C none))
  (fun v H2 => v = .non ∧ ((∃ (d : Addr) (fs : List (Str × V)), H2 a = some (exo a C (some d)) ∧ H2 d = some (exd d fs) ∧ H1 d = none ∧ Q (.ref C) (some d) (upd (del H2 a) d (.xd fs))) ∨ (H2 a = some (exo a C none) ∧ Q (.ref C) none (del H2 a)))) (fun _ _ _ => False)
section
open PySem.Spec PyProof.Rows
variable {X : Cx} {o e : Expr} {es : List Expr} {to te : TE} {ta : TA} {f x : Str} {p p' p1 p2 pos : Pos} {tl : List Value} {nid iid B : String}
theorem ps_ostB (F : TlF tl nid) (ho : PE X o to) (he : PE X e te) (hs : swapsWith e (some (.Attribute o f p')) pos.line X.env = pure false := by rfl) : PS X (.Assign [.Attribute o f p'] e pos) (tOstB X.K tl nid f to te) := by
  refine ⟨fun pins s σ H D I h => plainObj_wpAny_Assign_Attribute (thn (he.run pins s σ H _ I h) fun v s1 ⟨y, H1, I1, r1, q1⟩ => thn (ho.run pins s1 σ H1 _ I1 q1) fun u s2 ⟨z, H2, I2, r2, a, C, ex, T, hno, q⟩ => ?_) hs⟩
  subst ex
  cases (show u = Value.ref a from r2)
  rcases q with ⟨ea, q⟩ | ⟨dx, fs, ea, ed, hl, q⟩
  · exact ostB_new F T I2 ea hno r1 fun dx s' n ne J => ⟨σ, _, J, q dx n ne⟩
  · exact ostB_old F T I2 ea ed hl hno r1 fun s' J => ⟨σ, _, J, q⟩
structure BiC (K : PySem.W.Frag) (x : Str) (B iid : String) : Prop where
  boot : bootBuiltins x = some (.type B)
  nm : x ≠ "__name__"
  db : (x == ("__debug__" : Str)) = false
  ty : typeOf (.type B) = pure (.type "type")
  st : Manifest.isStub B = false
  at_ : PySem.W.findCls K (.type B) (.type "type") "__init__" = some (.val (.builtin iid))
  hin : PySem.W.handedIn (.builtin iid) = true
theorem pe_biniB {pl : Sem Bool} (Fi : IniF B iid) (hB : tl.contains (.type B) = true) (hm : X.mg x = none) (bi : BiC X.K x B iid) (ha : PA X (e :: es) ta) (hg : Gl X x := by rfl)
    (ht : eval (.Call (.Attribute (.Name x p1) "__init__" p2) (e :: es) [] pos) X.env = (eval (.Name x p1) X.env >>= fun ov => standAt p2.atName >>= fun _ => holding [ov] (getMethod ov "__init__" pl) >>= fun fb => callWith pos fb.1 fb.2 (backTo pos (starEach (e :: es) X.env)) (backToKw pos (keywordEach [] X.env))) := by rfl)
    (he : starEach (e :: es) X.env = (false, eval e X.env) :: starEach es X.env := by rfl) (hpl : (backTo pos (starEach es X.env)).any (·.1) = false := by rfl) :
    PE X (.Call (.Attribute (.Name x p1) "__init__" p2) (e :: es) [] pos) (tIniB X.K tl nid ta) := by
  refine ⟨fun pins s σ H Q I h => PySem.W.methodCall_KW (ld_blt I hg hm bi.boot ?_ bi.nm bi.db) ht⟩
  obtain ⟨m, fr⟩ := I.fr
  refine PySem.W.method_type fr I.ok.mod.kin bi.ty bi.st bi.at_ bi.hin (show wpAny _ _ (callWith pos (Value.builtin iid) [] (backTo pos (starEach (e :: es) X.env)) []) _ _ _ from ?_)
  refine PyProof.Rows.callWith_method1 (thn (ha.run pos pins _ σ H _ (I.tok _) h) fun us s1 z => ?_) he hpl
  obtain ⟨vs, H1, I1, r1, a, C, ws, ev, hl, T, ea, q⟩ := z
  subst ev
  cases r1 with
  | @cons _ u0 _ ur ra rw' =>
    cases (show u0 = Value.ref a from ra)
    exact oiniB Fi hB T I1 ea (by rw [← Paired.length rw', sizeLine_eq]; omega) fun s' J => ⟨.non, H1, J, rfl, q⟩
theorem mk_endN {pins : List (Addr × Obj)} {σ : L2.St} {H1 H2 : Hp} {hp hp2 h2 : Heap} {g1 g2 : Array GenState} {d1 d2 : Drawn} {t1 t2 : Nat} {os1 os2 : OsState} {a C : Addr} {Q : XK} (T : Raises X (.ref C)) (I1 : Inv X pins σ H1 ⟨hp, g1, d1, t1, os1⟩)
    (ha : hp.objs.size ≤ a) (k : ∀ b o, hp.get? b = some o → hp2.get? b = some o) (un : Un (frs X.stack) [] (upd H1 a (exo a C none)) H2 hp2 h2) (hok : HOk X.prog X.w H2 h2) (ho : os2 = os1) (hb : AllBare g2) (ea : H2 a = some (exo a C none)) (q : Q (.ref C) none (del H2 a)) :
    MkP X pins σ Q (.ref a) ⟨h2, g2, d2, t2, os2⟩ := by
  obtain ⟨t0, hoe⟩ := exo_at hok ea
  have hn : H1 a = none := I1.hok.fresh ha
  obtain ⟨G, g1', g2'⟩ := restrict h2 fun b => decide (b ≠ a)
  have gk : ∀ b, b ≠ a → G.get? b = h2.get? b := fun b hb => g1' b (decide_eq_true hb)
  have ge : G.get? a = none := g2' a (by simp)
  have nha : ∀ {b : Addr} {o : Obj}, hp.get? b = some o → b ≠ a := fun {b o} z => Nat.ne_of_lt (Nat.lt_of_lt_of_le (Heap.lt_size z) ha)
  have up : ∀ {b : Addr}, b ≠ a → H1 b = none → upd H1 a (exo a C none) b = none := fun {b} hb n => by
    rw [upd_ne hb] <;> exact n
  have U : Un (frs X.stack) [] H1 (del H2 a) hp G := {
    keep := fun b o z n hf hx => (gk b (nha z)).trans (un.keep b o (k b o z) (up (nha z) n) hf hx)
    slot := fun b o z n hf hx => by
      rw [gk b (nha z)] <;> exact un.slot b o (k b o z) (up (nha z) n) hf hx
    free := fun b o z n hx => (del_ne (nha z)).trans (un.free b o (k b o z) (up (nha z) n) hx)
    there := fun b o z hx => by
      rw [gk b (nha z)] <;> exact un.there b o (k b o z) hx
    tups := fun b xs z => by
      rw [del_ne (ne_of_none z hn)] <;> exact un.tups b xs (by rw [upd_ne (ne_of_none z hn)] <;> exact z)
    frzs := fun b o v z => by
      rw [del_ne (ne_of_none z hn)] <;> exact un.frzs b o v (by rw [upd_ne (ne_of_none z hn)] <;> exact z)
    tbls := fun b ps z => by
      rw [del_ne (ne_of_none z hn)] <;> exact un.tbls b ps (by rw [upd_ne (ne_of_none z hn)] <;> exact z) }
  have hok3 : HOk X.prog X.w (del H2 a) G := fun b o z => by
    have hba : b ≠ a := fun e => by rw [e, del_same] at z; cases z
    rw [del_ne hba] at z
    have noa : ∀ {c : Addr}, H2 c = some (.own b) → c ≠ a := fun {c} hc => at_ne ea hc exo_own
    refine (hok b o z).stay (fun c v hc y => ?_) (fun c hc => (del_ne (noa hc)).trans hc) (fun c xs hc => (del_ne (at_ne ea hc exo_tup)).trans hc)
    have hca : c ≠ a := hc.elim (fun e => e ▸ hba) noa
    exact (gk c hca).trans y
  have J : Inv X pins σ (del H2 a) ⟨G, g2, d2, t2, os2⟩ := I1.call' (ch := []) ho U hok3 hb fun b z => absurd z (by simp)
  refine ⟨a, _, _, ⟨G, g2, d2, t2, os2⟩, _, .ref C, none, rfl, J, fun b o z => ?_, ge, hoe, ⟨rfl, rfl⟩, rfl, rfl, del_same, rfl, hb, T, q⟩
  by_cases hba : b = a
  · rw [hba, ge] at z
    cases z
  · exact (gk b hba).symm.trans z
theorem mkB_run {k : Nat} {C fI : Addr} {fd : FuncData} {ps : List Str} {sp : Sp} {pins : List (Addr × Obj)} {σ : L2.St} {H1 : Hp} {Q : XK} {vs : List V} {us : List Value} {s1 : Shared} (F : TlF tl nid) (T : OexB X.K C tl nid) (iC : PySem.W.findIn X.K (.ref C) "__init__" = some (some (.ref fI))) (tI : PySem.W.typeIn X.K (.ref fI) = some (.type "function"))
    (F1 : FnOk X.prog X.w X.K X.mg X.base CX0 k fI fd ps sp) (hr : Room (k + 1) X.A) (hb : Binds X.K fd ps []) (I1 : Inv X pins σ H1 s1) (r1 : Vals vs us) (hz : vs.length ≤ 1000)
    (q1 : ∀ a, H1 a = none → sp (.ref a :: vs) (upd H1 a (exo a C none)) (fun v H2 => v = .non ∧ ((∃ (d : Addr) (fs : List (Str × V)), H2 a = some (exo a C (some d)) ∧ H2 d = some (exd d fs) ∧ H1 d = none ∧ Q (.ref C) (some d) (upd (del H2 a) d (.xd fs))) ∨ (H2 a = some (exo a C none) ∧ Q (.ref C) none (del H2 a)))) (fun _ _ _ => False)) :
    wpAny (model X.prog X.w) X.A (call (.ref C) us) (MkP X pins σ Q) X.xe s1 := by
  obtain ⟨nm, q, N, bs, bm, sn, sub, ab, col, dd, k0, k1, k2, k3, k5, hC, ht⟩ := T.cls
  obtain ⟨hp, g, dr, tk, os⟩ := s1
  have hsz : hp.objs.size ≤ hp.objs.size + 1 := Nat.le_succ _
  have hq := q1 (hp.objs.size + 1) (I1.hok.fresh hsz)
  have kk : ∀ b o, hp.get? b = some o → ((hp.push (PySem.W.kdv_tup us)).push (PySem.HandSPX.excO C hp.objs.size)).get? b = some o := fun b o e => Heap.get?_push_of_some _ (Heap.get?_push_of_some _ e)
  have hget : ((hp.push (PySem.W.kdv_tup us)).push (PySem.HandSPX.excO C hp.objs.size)).get? (hp.objs.size + 1) = some (PySem.HandSPX.excO C hp.objs.size) := by heap_get
  have I2 := I1.laid (t' := tk) (a := hp.objs.size + 1) (o := exo (hp.objs.size + 1) C none) kk hsz (exo_ok hget)
  have r2 : Vals (V.ref (hp.objs.size + 1) :: vs) (Value.ref (hp.objs.size + 1) :: us) := .cons rfl r1
  have hl : (Value.ref (hp.objs.size + 1) :: us ++ []).length = ps.length := by
    rw [List.append_nil, ← F1.len _ _ _ _ hq] <;> exact r2.length.symm
  have hus : us.length ≤ sizeLine := by rw [← Paired.length r1, sizeLine_eq]; omega
  refine wpAny_call (callB F ht (I1.kIn _ _ hC) (PySem.W.looks_findIn I1.kIn iC) (fun self => PySem.W.bind_fn I1.kIn self tI) hus (codeAny_mono (F1.run _ X.stack _ _ ⟨Value.ref (hp.objs.size + 1) :: us, []⟩ (Value.ref (hp.objs.size + 1) :: us) _ _ (fun _ _ _ => False)
    (hr.make C us []) (I2.env0.make C us []) (by have b := hb _ (Value.ref (hp.objs.size + 1) :: us) I2.kIn hl; rw [List.append_nil] at b; exact b) r2 hq) fun r s' hq' => ?_))
  cases r with
  | error er => exact pass0 pins σ _ _ er s' I2 hq'
  | ok fl =>
    cases fl with
    | ret u =>
      obtain ⟨v, H2, os2, bare2, un2, hok2, rv, ev, hh⟩ := hq'
      subst ev
      obtain ⟨h2, g2, d2, t2, os'⟩ := s'
      rcases hh with ⟨d, fs, ea, ed, hd1, q2⟩ | ⟨ea, q2⟩
      · exact ⟨rv, mk_end (raises_own T.exC T.tyC) I1 hsz kk un2 hok2 os2 bare2 ea ed hd1 q2⟩
      · exact ⟨rv, mk_endN (raises_own T.exC T.tyC) I1 hsz kk un2 hok2 os2 bare2 ea q2⟩
    | next => exact False.elim hq'
    | brk => exact False.elim hq'
    | cont => exact False.elim hq'
theorem pmkB {k : Nat} {C fI : Addr} {fd : FuncData} {ps : List Str} {sp : Sp} (F : TlF tl nid) (T : OexB X.K C tl nid) (iC : PySem.W.findIn X.K (.ref C) "__init__" = some (some (.ref fI))) (tI : PySem.W.typeIn X.K (.ref fI) = some (.type "function")) (F1 : FnOk X.prog X.w X.K X.mg X.base CX0 k fI fd ps sp)
    (hr : Room (k + 1) X.A) (hb : Binds X.K fd ps []) (hm : X.mg x = some (.ref C)) (ha : PA X (e :: es) ta) (hg : Gl X x := by rfl) (hdb : (x == ("__debug__" : Str)) = false := by decide) (he : starEach (e :: es) X.env = (false, eval e X.env) :: starEach es X.env := by rfl) (hpl : (backTo pos (starEach es X.env)).any (·.1) = false := by rfl) :
    PMk X (.Call (.Name x p) (e :: es) [] pos) (tMkB C sp ta) := by
  intro pins s σ H Q I h
  refine wpAny_Call_Name_kw (ld_glob I hg hm (PySem.W.callWith_K (h₀ := X.base) I.ok.mod.kin T.kC (thn (ha.run pos pins s σ H _ I h) fun us s1 z => ?_) he hpl) hdb)
  obtain ⟨vs, H1, I1, r1, hz, q1⟩ := z
  exact ⟨I1.kIn, mkB_run F T iC tI F1 hr hb I1 r1 hz q1⟩
end
end Dl
namespace Dl
open PySem L2
def spEn (C : Addr) (fs : List Str) : Sp := fun vs H Q _ => ∃ (a : Addr) (ws : List V), vs = .ref a :: ws ∧ ws.length = fs.length ∧ H a = some (exo a C none) ∧ (fs = [] → Q .non H) ∧
  (fs ≠ [] → ∀ dx, H dx = none → dx ≠ a → Q .non (upd (upd H dx (exd dx (fs.zip ws).reverse)) a (exo a C (some dx))))
theorem del_made {H : Hp} {a dx : Addr} {o1 o3 o4 : HO} {o0 : HO} (na : H a = none) : upd (del (upd (upd (upd H a o0) dx o1) a o3) a) dx o4 = upd H dx o4 := by
  funext b
  by_cases h1 : b = dx
  · subst h1
    rw [upd_same, upd_same]
  · rw [upd_ne h1, upd_ne h1]
    by_cases h2 : b = a
    · subst h2
      rw [del_same, na]
    · rw [del_ne h2, upd_ne h2, upd_ne h1, upd_ne h2]
theorem del_new {H : Hp} {a : Addr} {o : HO} (na : H a = none) : del (upd H a o) a = H := by
  funext b
  by_cases h2 : b = a
  · subst h2
    rw [del_same, na]
  · rw [del_ne h2, upd_ne h2]
theorem rev_zip {α β : Type} : ∀ {l : List α} {m : List β}, l.length = m.length → (l.zip m).reverse = l.reverse.zip m.reverse
  | [], [], _ => rfl
  | a :: l, b :: m, h => by
    have h : l.length = m.length := Nat.succ.inj h
    rw [List.zip_cons_cons, List.reverse_cons, List.reverse_cons, List.reverse_cons, rev_zip h, List.zip_append (by rw [List.length_reverse, List.length_reverse, h])]
    rfl
def wRaiseN (m n : Nat) (wA : WpA) : WS := fun S P => wA S.sl S.cs (fun ss c => wDats ss fun ds => ds.length = n ∧ P.ex ⟨m, ds.reverse⟩ ⟨S.sl, c⟩) (fun x c => P.ex x ⟨S.sl, c⟩)
section
variable {X : Cx} {T : Tab} {W : WX} {x : Str} {C fI : Addr} {m k n : Nat} {fd : FuncData} {fs ps : List Str} {tl : List Value} {nid : String} {e : Expr} {es : List Expr} {p pos pos2 : Pos} {wA : WpA}
theorem made_to {S : Sta} {P : Post} {ad ad1 : List Addr} {F : Addr → Prop} {σ : L2.St} {H H1 : Hp} {vs : List V} {ds : List D} {c1 : List Cell} (hT : T m = some (C, fs.reverse)) (hn : n ≤ ad.length) (x1 : Ext ad F H ad1 H1) (h0 : Hold T X.K S ad F σ H) (h1 : Hold T X.K ⟨S.sl, c1⟩ ad1 F σ H1)
    (r1 : Reps T X.K (Mm ad1 F) H1 vs ds) (hl : ds.length = fs.length) (q5 : ∀ (y : Exc) (S' : Sta) (cls : Value) (d : Option Addr) (σ' : L2.St) (H' : Hp) (ad' : List Addr), ExtS n ad F H ad' H' → n ≤ ad'.length → Hold T X.K S' ad' F σ' H' → ExRep T X.K (Mm ad' F) H' cls d y → P.ex y S' → P.W cls d σ' H')
    (h : P.ex ⟨m, ds.reverse⟩ ⟨S.sl, c1⟩) (a : Addr) (na : H1 a = none) :
    spEn C fs (.ref a :: vs) (upd H1 a (exo a C none)) (fun v H2 => v = .non ∧ ((∃ (d : Addr) (gs : List (Str × V)), H2 a = some (exo a C (some d)) ∧ H2 d = some (exd d gs) ∧ H1 d = none ∧ P.W (.ref C) (some d) σ (upd (del H2 a) d (.xd gs))) ∨ (H2 a = some (exo a C none) ∧ P.W (.ref C) none σ (del H2 a)))) (fun _ _ _ => False) := by
  have hvl : vs.length = fs.length := r1.length.trans hl
  have hn1 := x1.le hn
  refine ⟨a, vs, rfl, hvl, upd_same, fun e0 => ⟨rfl, .inr ⟨upd_same, ?_⟩⟩, fun e0 dx ndx ne => ⟨rfl, .inl ⟨dx, _, upd_same, by rw [upd_ne ne, upd_same], ?_, ?_⟩⟩⟩
  · rw [del_new na]
    subst e0
    have : ds = [] := List.length_eq_zero_iff.mp hl
    subst this
    exact q5 ⟨m, []⟩ ⟨S.sl, c1⟩ (.ref C) none σ _ ad1 (x1.s hn) hn1 h1 ⟨C, [], hT, rfl, .inl ⟨rfl, rfl, rfl⟩⟩ h
  · rw [upd_ne ne] at ndx
    exact ndx
  · have n1 : H1 dx = none := by rw [upd_ne ne] at ndx; exact ndx
    rw [del_made na]
    obtain ⟨c3, x3⟩ := h1.hc.newo (o := .xd (fs.zip vs).reverse) n1
    refine q5 ⟨m, ds.reverse⟩ ⟨S.sl, c1⟩ (.ref C) (some dx) σ _ ad1 ((x1.trans h1.hc x3).s hn) hn1 (h1.to x3 c3) ⟨C, fs.reverse, hT, rfl, .inr ⟨dx, vs.reverse, rfl, h1.hc.new n1, ?_, by rw [List.length_reverse, List.length_reverse, hvl], (Reps.kp x3.kp r1).rev⟩⟩ h
    rw [upd_same, rev_zip hvl.symm]
theorem js_raiseN (tk : Takes X W) (F0 : TlF tl nid) (oc : OexB X.K C tl nid) (iC : PySem.W.findIn X.K (.ref C) "__init__" = some (some (.ref fI))) (tI : PySem.W.typeIn X.K (.ref fI) = some (.type "function")) (F1 : FnOk X.prog X.w X.K X.mg X.base CX0 k fI fd ps (spEn C fs)) (hr : Room (k + 1) X.A) (hb : Binds X.K fd ps []) (hm : X.mg x = some (.ref C))
    (hT : T m = some (C, fs.reverse)) (hl : fs.length = N) (ha : JA X T W (e :: es) wA) (hz : fs.length ≤ 1000 := by decide) (hc : X.calm = true := by rfl) (hg : Gl X x := by rfl) (hdb : (x == ("__debug__" : Str)) = false := by decide)
    (he : starEach (e :: es) X.env = (false, eval e X.env) :: starEach es X.env := by rfl) (hpl : (backTo pos (starEach es X.env)).any (·.1) = false := by rfl) : JS X T W n (.Raise (some (.Call (.Name x p) (e :: es) [] pos)) none pos2) (wRaiseN m N wA) := fun S P h =>
  weakS (ps_raise hc tk (pmkB F0 oc iC tI F1 hr hb hm ha hg hdb he hpl)) fun D σ H ⟨ad, F, hn, h0, q1, q2, q3, q4, q5⟩ => ⟨ad, F, S.sl, S.cs, (fun ss c => wDats ss fun ds => ds.length = N ∧ P.ex ⟨m, ds.reverse⟩ ⟨S.sl, c⟩), (fun x c => P.ex x ⟨S.sl, c⟩), h0, h, fun ss c1 vs H1 ad1 hR x1 h1 r1 => by
    obtain ⟨ds, rfl, hK⟩ := wDats_of hR
    have hd : ds.length = fs.length := hK.1.trans hl.symm
    refine ⟨by rw [r1.dats.length, hd]; exact hz, fun a na => made_to hT hn x1 h0 h1 r1.dats hd q5 hK.2 a na⟩, raz_of hn q5⟩
end
end Dl
namespace Dl
open PySem L2
theorem bic_ke {K : PySem.W.Frag} (h : PySem.W.findCls K (.type "KeyError") (.type "type") "__init__" = some (.val (.builtin "KeyError.__init__"))) : BiC K "KeyError" "KeyError" "KeyError.__init__" := ⟨by decide +kernel, by decide, by decide, by kernel_rfl, by decide +kernel, h, by decide +kernel⟩
end Dl
namespace Dl
open PySem L2
section
variable {X : Cx} {T : Tab} {W : WX} {kws : List Keyword} {pos p : Pos} {wK : WpA} {c : Ct} {cx : CtX} {k : Nat} {fd : FuncData} {ps ks : List Str} {y : Str} {C g : Addr} {fn : List Str} {cn : Nat} {gg : List Value → List Value → List Value} {gV : List V → List V → List V} {fu : List D → List D → List D}
end
end Dl
namespace Dl
open PySem L2
section
variable {X : Cx} {T : Tab} {W : WX} {C g : Addr} {fd : FuncData} {ps : List Str} {k cn : Nat} {c : Ct} {fn : List Str} {e : Expr} {w : WpE}
end
end Dl
namespace Dl
open PySem L2
section
variable {X : Cx} {T : Tab} {W : WX} {n : Nat} {x : Str} {cv : Value} {body suite : List Stmt} {b0 : Stmt} {np pos pos' : Pos} {mt : Nat → Option Bool} {wb ws : WS}
end
section
variable {X : Cx} {T : Tab} {W : WX} {o e : Expr} {wo we : WpE} {pos apos p : Pos}
theorem reps_str' {K : PySem.W.Frag} {M : Addr → Prop} {H : Hp} : ∀ xs : List Str, Reps T K M H (xs.map V.str) (xs.map D.str)
  | [] => .nil
  | x :: xs => .cons Rep.str (reps_str' xs)
theorem je_gtups {x : Str} {a : Addr} {xs : List Str} (hm : X.mg x = some (.ref a)) (hs : SqT X.K (fun _ => none) a (xs.map V.str)) (hg : Gl X x := by rfl) (hd : (x == ("__debug__" : Str)) = false := by decide) : JE X T W (.Name x pos) (wCon (.tup (xs.map D.str))) :=
  weak (pe_glob (v := .ref a) hg hm rfl hd) fun σ H Q ⟨ad, F, sl, cs, R, Rx, h0, hw, q, qx⟩ => q _ cs _ H ad hw .refl h0 (Rep.tup (.inr hs) (reps_str' xs))
end
end Dl
namespace Dl
open PySem L2
section
variable {X : Cx} {pins : List (Addr × Obj)} {σ : St} {H : Hp} {s : Shared} {T : Tab} {M : Addr → Prop}
def KeyAt (K : PySem.W.Frag) (H : Hp) (v : V) (k : NestedKey) : Prop := ∀ (X : Cx) (pins : List (Addr × Obj)) (σ : St) (s : Shared) (u : Value), X.K = K → Inv X pins σ H s → RelV v u → NestedIs s.heap k u
mutual
theorem nk_is (I : Inv X pins σ H s) : ∀ (d : D) {v : V} {u : Value} {k : NestedKey}, Rep T X.K M H v d → nkD d = some k → RelV v u → NestedIs s.heap k u
  | .int i, v, u, k, r, h, rv => by
    cases r
    obtain ⟨t, e⟩ := (show ∃ t, u = Value.int i t from rv)
    cases h
    subst e
    exact .int i t
  | .tup ds, v, u, k, r, h, rv => by
    cases r with
    | @tup a vs _ h1 h2 =>
      cases (show u = Value.ref a from rv)
      obtain ⟨its, rl, ⟨o, z1, z2, n, z3⟩, _⟩ := I.tuple h1.sq
      cases hg : nkD.go ds with
      | none =>
        have h : (nkD.go ds).map NestedKey.tup = some k := h
        rw [hg] at h
        cases h
      | some ks =>
        have h : (nkD.go ds).map NestedKey.tup = some k := h
        rw [hg] at h
        cases h
        exact .tup z1 z2 z3 (nks_is I ds h2 hg rl)
  | .non, _, _, _, _, h, _ => nomatch h
  | .bl _, _, _, _, _, h, _ => nomatch h
  | .str _, _, _, _, _, h, _ => nomatch h
  | .lst _, _, _, _, _, h, _ => nomatch h
  | .obj _ _, _, _, _, _, h, _ => nomatch h
  | .scr _, _, _, _, _, h, _ => nomatch h
  | .err _ _ _ _, _, _, _, _, h, _ => nomatch h
  | .cls _, _, _, _, _, h, _ => nomatch h
  | .dct _ _, _, _, _, _, h, _ => nomatch h
  | .fn _, _, _, _, _, h, _ => nomatch h
  | .dcn _ _, _, _, _, _, h, _ => nomatch h
theorem nks_is (I : Inv X pins σ H s) : ∀ (ds : List D) {vs : List V} {us : List Value} {ks : List NestedKey}, Reps T X.K M H vs ds → nkD.go ds = some ks → Vals vs us → NestedAll s.heap ks us
  | [], vs, us, ks, r, h, rv => by
    cases r
    cases h
    cases rv
    exact .nil
  | d :: ds, vs, us, ks, r, h, rv => by
    cases r with
    | cons r1 r2 =>
      cases rv with
      | cons v1 v2 =>
        cases h1 : nkD d with
        | none => simp [nkD.go, h1] at h
        | some k =>
          cases h2 : nkD.go ds with
          | none => simp [nkD.go, h1, h2] at h
          | some l =>
            simp [nkD.go, h1, h2] at h
            subst h
            exact .cons (nk_is I d r1 h1 v1) (nks_is I ds r2 h2 v2)
end
theorem KeyAt.of {K : PySem.W.Frag} {v : V} {d : D} {k : NestedKey} (r : Rep T K M H v d) (h : nkD d = some k) : KeyAt K H v k := fun X pins σ s u e I rv => by
  subst e
  exact nk_is I d r h rv
end
section
variable {X : Cx} {pins : List (Addr × Obj)} {σ : St} {H : Hp} {s : Shared} {a b : Addr} {o : Obj} {xs : List (NestedKey × Addr × Value)} {k : NestedKey}
abbrev KeysAt (K : PySem.W.Frag) (H : Hp) (xs : List (NestedKey × Addr × Value)) : Prop := ∀ x ∈ xs, KeyAt K H (.ref x.2.1) x.1
end
section
variable {X : Cx} {e f o : Expr} {pos apos cpos : Pos} {td ty tx : TE}
end
end Dl
namespace Dl
open PySem L2
section
variable {X : Cx} {kx vx tg iter : Expr} {ifs : List Expr} {scope : Scope} {own : List (Str × Nat)} {pos : Pos} {wi : TI} {g : TG} {tt : TT} {tk tv : TE}
end
end Dl
namespace Dl
open PySem L2
def getN (kds : List (D × D)) (k : NestedKey) : Option D := (kds.find? fun p => decide (nkD p.1 = some k)).map (·.2)
def putN (kds : List (D × D)) (k : NestedKey) (kd d : D) : List (D × D) := if (kds.any fun p => decide (nkD p.1 = some k)) = true then kds.map (fun p => if nkD p.1 = some k then (p.1, d) else p) else kds ++ [(kd, d)]
section
variable {T : Tab} {K : PySem.W.Frag} {M M' : Addr → Prop} {H H' : Hp} {a b : Addr} {o : Obj} {kds : List (D × D)} {xs : List (NestedKey × Addr × Value)} {k : NestedKey} {v : V} {u : Value} {d kd : D}
abbrev NR1 (T : Tab) (K : PySem.W.Frag) (M : Addr → Prop) (H : Hp) (p : D × D) (x : NestedKey × Addr × Value) : Prop := Rep T K M H (.ref x.2.1) p.1 ∧ nkD p.1 = some x.1 ∧ ∃ v, RelV v x.2.2 ∧ Rep T K M H v p.2
abbrev NR (T : Tab) (K : PySem.W.Frag) (M : Addr → Prop) (H : Hp) : List (D × D) → List (NestedKey × Addr × Value) → Prop := Paired (NR1 T K M H)
theorem NR.kp (x : Kp M H M' H') (h : NR T K M H kds xs) : NR T K M' H' kds xs := by
  induction h with
  | nil => exact .nil
  | cons h t ih => exact .cons ⟨h.1.kp x, h.2.1, h.2.2.elim fun v z => ⟨v, z.1, z.2.kp x⟩⟩ ih
theorem NR.of : ∀ {xs : List (NestedKey × Addr × Value)} {kds : List (D × D)} {vs : List V}, Reps T K M H (xs.map fun x => V.ref x.2.1) (kds.map (·.1)) → (kds.map (·.1)).map nkD = xs.map (fun x => some x.1) → Vals vs (xs.map fun x => x.2.2) → Reps T K M H vs (kds.map (·.2)) → NR T K M H kds xs
  | [], [], _, _, _, _, _ => .nil
  | [], _ :: _, _, h, _, _, _ => by cases h
  | _ :: _, [], _, h, _, _, _ => by cases h
  | x :: xs, p :: kds, vs, h1, h2, h3, h4 => by
    cases h1 with
    | cons a1 a2 =>
      cases h3 with
      | cons b1 b2 =>
        cases h4 with
        | cons c1 c2 =>
          rw [List.map_cons, List.map_cons, List.map_cons] at h2
          injection h2 with e1 e2
          exact .cons ⟨a1, e1, _, b1, c1⟩ (NR.of a2 e2 b2 c2)
theorem NR.to : ∀ {xs : List (NestedKey × Addr × Value)} {kds : List (D × D)}, NR T K M H kds xs → Reps T K M H (xs.map fun x => V.ref x.2.1) (kds.map (·.1)) ∧ (kds.map (·.1)).map nkD = xs.map (fun x => some x.1) ∧ ∃ vs, Vals vs (xs.map fun x => x.2.2) ∧ Reps T K M H vs (kds.map (·.2)) := fun {xs kds} h => by
  induction h with
  | nil => exact ⟨.nil, rfl, [], .nil, .nil⟩
  | cons h t ih =>
    obtain ⟨i1, i2, vs, i3, i4⟩ := ih
    obtain ⟨h1, h2, v, h3, h4⟩ := h
    exact ⟨.cons h1 i1, by rw [List.map_cons, List.map_cons, List.map_cons, h2, i2], v :: vs, .cons h3 i3, .cons h4 i4⟩
theorem NR.keys (h : NR T K M H kds xs) : KeysAt K H xs := by
  induction h with
  | nil => exact fun _ z => nomatch z
  | cons h t ih =>
    intro x hx
    rcases List.mem_cons.mp hx with e | hx
    · rw [e]; exact KeyAt.of h.1 h.2.1
    · exact ih x hx
theorem NR.any (h : NR T K M H kds xs) : (kds.any fun p => decide (nkD p.1 = some k)) = (atKey xs k).isSome := by
  induction h with
  | nil => rfl
  | @cons p x ps xs h t ih =>
    by_cases e : x.1 = k
    · simp [atKey, h.2.1, e]
    · simpa [atKey, h.2.1, e] using ih
theorem NR.get (h : NR T K M H kds xs) : (getN kds k = none → atKey xs k = none) ∧ ∀ d, getN kds k = some d → ∃ b u v, atKey xs k = some (b, u) ∧ RelV v u ∧ Rep T K M H v d := by
  induction h with
  | nil => exact ⟨fun _ => rfl, fun d z => nomatch z⟩
  | @cons p x ps xs h t ih =>
    by_cases e : x.1 = k
    · have g : getN (p :: ps) k = some p.2 := by simp [getN, h.2.1, e]
      have g2 : atKey (x :: xs) k = some x.2 := by simp [atKey, e]
      rw [g, g2]
      obtain ⟨_, _, v, h3, h4⟩ := h
      exact ⟨(fun z => nomatch z), fun d z => by cases z; exact ⟨_, _, v, rfl, h3, h4⟩⟩
    · have g : getN (p :: ps) k = getN ps k := by simp [getN, h.2.1, e]
      have g2 : atKey (x :: xs) k = atKey xs k := by simp [atKey, e]
      rw [g, g2]
      exact ih
theorem NR.put (h : NR T K M H kds xs) (rk : Rep T K M H (.ref b) kd) (hk : nkD kd = some k) (rv : RelV v u) (rd : Rep T K M H v d) : NR T K M H (putN kds k kd d) (storedH xs k b u) := by
  unfold putN storedH
  rw [h.any]
  split
  · induction h with
    | nil => exact .nil
    | @cons p x ps xs h t ih =>
      rw [List.map_cons, List.map_cons]
      rename_i hs
      have rest : NR T K M H (ps.map fun p => if nkD p.1 = some k then (p.1, d) else p) (xs.map (putAt k u)) := by
        clear ih hs h
        induction t with
        | nil => exact .nil
        | @cons p x ps xs h t ih =>
          rw [List.map_cons, List.map_cons]
          refine .cons ?_ ih
          unfold putAt
          by_cases e : x.1 = k
          · rw [if_pos e, if_pos (by rw [h.2.1, e])]; exact ⟨h.1, h.2.1, v, rv, rd⟩
          · rw [if_neg e, if_neg (by rw [h.2.1]; exact fun z => e (Option.some.inj z))]; exact h
      refine .cons ?_ rest
      unfold putAt
      by_cases e : x.1 = k
      · rw [if_pos e, if_pos (by rw [h.2.1, e])]; exact ⟨h.1, h.2.1, v, rv, rd⟩
      · rw [if_neg e, if_neg (by rw [h.2.1]; exact fun z => e (Option.some.inj z))]; exact h
  · exact Paired.snoc h ⟨rk, hk, v, rv, rd⟩
theorem NR.len (h : NR T K M H kds xs) : kds.length = xs.length := Paired.length h
end
section
variable {X : Cx} {T : Tab} {W : WX} {n : Nat} {e o i f ix : Expr} {pos p' apos cpos : Pos} {we wo wi wx wf : WpE}
end
section
variable {T : Tab} {K : PySem.W.Frag} {F : Addr → Prop} {ad : List Addr} {H : Hp} {a : Addr} {o od : Obj} {xs : List (NestedKey × Addr × Value)} {vs : List V} {ks ds : List D}
end
section
variable {X : Cx} {T : Tab} {W : WX} {e : Expr} {w : WpE} {elts : List Expr} {kk : Nat} {tpos apos cpos : Pos}
end
end Dl
namespace Dl
open PySem L2
section
variable {T : Tab} {K : PySem.W.Frag} {W : WX} {p : Pat} {wi : WpI} {wt : WpT} {wk wv : WpE} {own : List Nat}
end
section
variable {X : Cx} {T : Tab} {W : WX} {n : Nat} {kx vx tg iter : Expr} {ifs : List Expr} {scope : Scope} {own : List (Str × Nat)} {p : Pat} {wi : WpI} {wt : WpT} {wk wv : WpE} {pos : Pos} {y : Str}
structure JDCN (X : Cx) (T : Tab) (W : WX) (kx vx tg iter : Expr) (ifs : List Expr) (scope : Scope) (own : List (Str × Nat)) (wi : WpI) (p : Pat) (wt : WpT) (wk wv : WpE) : Prop where
  hi : JI X T W tg iter wi
  ok : BlkOk X.N X.env.scope scope own
  hg : InB X scope fun X' => DG X' T tg p
  ht : InB X scope fun X' => JTs X' T W0 ifs wt
  hk : InB X scope fun X' => JE X' T W0 kx wk
  he : InB X scope fun X' => JE X' T W0 vx wv
  hp : ∀ i ∈ slotsP p, i ∈ own.map (·.2)
end
section
variable {X : Cx} {T : Tab} {W : WX} {n : Nat}
end
end Dl
namespace Dl
open PySem L2
section
variable {X : Cx} {T : Tab} {W : WX} {e : Expr} {we : WpE} {pos p : Pos} {c : Ct} {k : Nat} {fd : FuncData} {ps : List Str} {y : Str} {C g : Addr} {fn : List Str} {cn : Nat}
end
end Dl
namespace Dl
open PySem L2
def lkS (kds : List (Str × D)) (x : Str) : Option D := (kds.find? fun p => decide (p.1 = x)).map (·.2)
def StD (K : PySem.W.Frag) (v : V) (d : D) : Prop := ∀ T M H, Rep T K M H v d
structure KD (K : PySem.W.Frag) (w : World) (a : Addr) (kds : List (Str × D)) : Prop where
  dict : ∃ es n, KDict K w a es n
  vals : ∀ x, (∀ d, lkS kds x = some d → ∃ u v, PySem.W.nsIn K a x = some (some u) ∧ RelV v u ∧ StD K v d) ∧ (lkS kds x = none → PySem.W.nsIn K a x = some none)
section
variable {X : Cx} {T : Tab} {W : WX} {o e f : Expr} {wo we wf : WpE} {pos p apos cpos : Pos} {y : Str} {a : Addr} {kds : List (Str × D)} {es : Array DictEntry} {n : Nat}
end
inductive JDs (X : Cx) (T : Tab) (W : WX) : List Str → List (Option Expr) → List Expr → WpA → Prop where
  | nil : JDs X T W [] [] [] wNil
  | cons {x : Str} {k : Nat} {pos : Pos} {e : Expr} {we : WpE} {xs : List Str} {ks : List (Option Expr)} {es : List Expr} {wA : WpA} : JE X T W e we → JDs X T W xs ks es wA → JDs X T W (x :: xs) (some (.Constant (.str x) k pos) :: ks) (e :: es) (wCons we wA)
theorem JDs.pps {X : Cx} {T : Tab} {W : WX} {pos : Pos} {xs : List Str} {ks : List (Option Expr)} {es : List Expr} {wA : WpA} (h : JDs X T W xs ks es wA) : ∃ trs, PPs X pos ks es trs ∧ ∀ σ H (Q : List (V × V) → Hp → Prop), tJA T X.K W wA σ H (fun vs H' => Q ((xs.map V.str).zip vs) H') → tPairs trs σ H Q := by
  induction h with
  | nil => exact ⟨[], pps_nil, fun σ H Q ⟨ad, F, sl, cs, R, Rx, h0, hw, q, qx⟩ => q [] cs [] H ad hw .refl h0 trivial⟩
  | cons he hr ih =>
    obtain ⟨trs, h1, h2⟩ := ih
    refine ⟨_, pps_cons pe_str he h1, fun σ H Q ⟨ad, F, sl, cs, R, Rx, h0, hw, q, qx⟩ => ?_⟩
    exact ⟨ad, F, sl, cs, _, Rx, h0, hw, fun s1 c1 v H1 ad1 hw1 x1 h1' r1 => h2 σ H1 _ ⟨ad1, F, sl, c1, _, Rx, h1', hw1, fun ss c2 vs H2 ad2 hw2 x2 h2' r2 => q (s1 :: ss) c2 (v :: vs) H2 ad2 hw2 (x1.trans h1'.hc x2) h2' ⟨r1.ext x2, r2⟩, qx.on x1 h1'⟩, qx⟩
theorem JDs.len {X : Cx} {T : Tab} {W : WX} {xs : List Str} {ks : List (Option Expr)} {es : List Expr} {wA : WpA} (h : JDs X T W xs ks es wA) : ks.length = es.length ∧ ks.all (·.isSome) = true ∧ ks.length = xs.length := by
  induction h with
  | nil => exact ⟨rfl, rfl, rfl⟩
  | cons he hr ih => exact ⟨by rw [List.length_cons, List.length_cons, ih.1], by rw [List.all_cons, ih.2.1]; rfl, by rw [List.length_cons, List.length_cons, ih.2.2]⟩
theorem mergeK_new : ∀ (kvs acc : List (Key × V)), ((acc ++ kvs).map (·.1)).Nodup → mergeK acc kvs = acc ++ kvs
  | [], acc, _ => (List.append_nil acc).symm
  | p :: r, acc, h => by
    have hn : (acc.any fun q => decide (q.1 = p.1)) = false := by
      rw [List.any_eq_false]
      intro q hq
      have h' : (acc.map (·.1) ++ p.1 :: r.map (·.1)).Nodup := by rw [List.map_append, List.map_cons] at h; exact h
      have := (List.nodup_append.mp h').2.2 q.1 (List.mem_map.mpr ⟨q, hq, rfl⟩) p.1 List.mem_cons_self
      simpa using this
    have e : putK acc p.1 p.2 = acc ++ [p] := by
      unfold putK
      rw [hn]
      rfl
    show mergeK (putK acc p.1 p.2) r = acc ++ p :: r
    rw [e, mergeK_new r (acc ++ [p]) (by rw [List.append_assoc]; exact h), List.append_assoc]
    rfl
def wDisS (xs : List Str) (wA : WpA) : WpE := fun sl cs R Rx => wA sl (cs ++ [.dct []]) (fun ss c1 => c1 = cs ++ [.dct []] ∧ wDats ss fun ds => ds.length = xs.length ∧ R (.cel cs.length) (cs ++ [.dct ((xs.map fun x => (.inr x : Key)).zip ds)])) Rx
section
variable {X : Cx} {T : Tab} {W : WX} {pos : Pos} {xs : List Str} {ks : List (Option Expr)} {es : List Expr} {wA : WpA}
theorem je_disS (h : JDs X T W xs ks es wA) (hn : xs.Nodup := by decide) (h0 : ks ≠ [] := by intro z; cases z) (h15 : ks.length ≤ 15 := by decide) : JE X T W (.Dict ks es pos) (wDisS xs wA) := by
  obtain ⟨trs, h1, h2⟩ := h.pps (pos := pos)
  obtain ⟨l1, l2, l3⟩ := h.len
  refine weak (pe_disp h1 l2 l1 h0 h15) fun σ H Q ⟨ad, F, sl, cs, R, Rx, h0, hw, q, qx⟩ p hp => ?_
  obtain ⟨c2, x2⟩ := h0.hc.cell (c := .dct []) (o := .dK []) hp ⟨[], upd_same, rfl, .nil⟩
  have h3 := h0.to x2 c2
  have hw : wA sl (cs ++ [.dct []]) (fun ss c1 => c1 = cs ++ [.dct []] ∧ wDats ss fun ds => ds.length = xs.length ∧ R (.cel cs.length) (cs ++ [.dct ((xs.map fun x => (.inr x : Key)).zip ds)])) Rx := hw
  refine h2 σ _ _ ⟨ad ++ [p], F, sl, cs ++ [.dct []], _, Rx, h3, hw, fun ss c1 vs H1 ad1 hw1 x1 h1 r1 => ?_, qx.on x2 h3⟩
  obtain ⟨rfl, hw1⟩ := hw1
  obtain ⟨ds, rfl, hl, hR⟩ := wDats_of hw1
  have rd := r1.dats
  have hv : vs.length = xs.length := by rw [rd.length, hl]
  obtain ⟨t, e1, e2⟩ := x1.pre
  have ea : ad1[cs.length]? = some p := by
    rw [e1, List.getElem?_append_left (by rw [List.length_append, h0.hc.ln]; exact Nat.lt_succ_self _), List.getElem?_append_right (by rw [h0.hc.ln]; exact Nat.le_refl _), h0.hc.ln, Nat.sub_self]
    rfl
  have ec : (cs ++ [Cell.dct []])[cs.length]? = some (.dct []) := by
    rw [List.getElem?_append_right (Nat.le_refl _), Nat.sub_self]
    rfl
  obtain ⟨kvs0, h4, h5, h6⟩ := h1.hc.ce _ _ _ ea ec
  have k0 : kvs0 = [] := by
    cases kvs0 with
    | nil => rfl
    | cons a b => cases h5
  subst k0
  have hz : ((xs.map V.str).zip vs) = (((xs.map fun x => (.inr x : Key)).zip vs).map fun kv => (kV kv.1, kv.2)) := by
    rw [List.zip_map_left, List.zip_map_left, List.map_map]
    rfl
  have hnd : ((([] : List (Key × V)) ++ (xs.map fun x => (.inr x : Key)).zip vs).map (·.1)).Nodup := by
    rw [List.nil_append, List.map_fst_zip (by rw [List.length_map, hv]; exact Nat.le_refl _)]
    exact List.pairwise_map.mpr (hn.imp fun h e => h (by cases e; rfl))
  refine ⟨h4, (xs.map fun x => (.inr x : Key)).zip vs, hz, by rw [List.length_zip, List.length_map, hv, Nat.min_self, ← l3]; exact h15, ?_⟩
  rw [mergeK_new _ _ hnd, List.nil_append]
  have kp : Kp (Mm ad1 F) H1 (Mm ad1 F) (upd H1 p (.dK ((xs.map fun x => (.inr x : Key)).zip vs))) := fun b o e nn => ⟨by rw [upd_ne (fun z => nn (.inl (by rw [z]; exact List.mem_of_getElem? ea)))]; exact e, nn⟩
  obtain ⟨k4, x4⟩ := h1.hc.setc (o := .dK ((xs.map fun x => (.inr x : Key)).zip vs)) (c := .dct ((xs.map fun x => (.inr x : Key)).zip ds)) ea ⟨_, upd_same, by rw [List.map_fst_zip (by rw [List.length_map, hv]; exact Nat.le_refl _), List.map_fst_zip (by rw [List.length_map, hl]; exact Nat.le_refl _)], by
    rw [List.map_snd_zip (by rw [List.length_map, hv]; exact Nat.le_refl _), List.map_snd_zip (by rw [List.length_map, hl]; exact Nat.le_refl _)]
    exact rd.kp kp⟩
  have es : (cs ++ [Cell.dct []]).set cs.length (.dct ((xs.map fun x => (.inr x : Key)).zip ds)) = cs ++ [.dct ((xs.map fun x => (.inr x : Key)).zip ds)] := by
    rw [List.set_append_right _ _ (Nat.le_refl _), Nat.sub_self]
    rfl
  rw [es] at k4
  exact q _ _ (.ref p) _ ad1 hR (x2.trans h3.hc (x1.trans h1.hc x4)) (h1.to x4 k4) ⟨p, ea, rfl⟩
end
end Dl
namespace Dl
open PySem L2
section
open PySem.SeqAt
open MeetsSeq MeetsSeq2 MeetsSeq3 SeqRoads2
variable {prog : Program} {w : World} {A : Around} {R : Result → Shared → Prop}
variable {E : Value → Shared → Prop} {s : Shared}
end
inductive EqL (E : D → D → Bool → Prop) : List D → List D → Bool → Prop where
  | nil : EqL E [] [] true
  | nilc {y : D} {ys : List D} : EqL E [] (y :: ys) false
  | cnil {x : D} {xs : List D} : EqL E (x :: xs) [] false
  | ne {x y : D} {xs ys : List D} : E x y false → EqL E (x :: xs) (y :: ys) false
  | cons {x y : D} {xs ys : List D} {b : Bool} : E x y true → EqL E xs ys b → EqL E (x :: xs) (y :: ys) b
section
variable {X : Cx} {T : Tab} {C g : Addr} {fd : FuncData} {ps : List Str} {k n m : Nat} {c : Ct} {fn : List Str} {E : D → D → Bool → Prop}
end
end Dl
namespace L2
open PySem PySem.Spec PyProof.Rows
section
variable {X : Cx} {x n : Str} {c : Value} {i : Nat} {body suite rest : List Stmt} {b₀ : Stmt} {np pos pos' : Pos} {tb : WX → TS} {ts t1 : Addr → Value → Option Addr → TS} {t0 : TS} {Wout : WX} {pins : List (Addr × Obj)} {σ : St} {H : Hp} {s : Shared}
end
end L2
namespace Dl
open PySem L2
section
variable {X : Cx} {T : Tab} {W : WX} {n : Nat} {x y : Str} {cv : Value} {body suite rest : List Stmt} {b0 : Stmt} {np pos pos' : Pos} {mt : Nat → Option Bool} {i : Nat} {wb wr : WS} {ws wx : Nat → Addr → Option Addr → WS}
end
section
variable {X : Cx} {T : Tab} {W : WX} {a C Ce : Addr} {oe : Obj} {d : Option Addr} {e e2 : Expr} {es : List Expr} {pos p p2 tp : Pos} {m kk : Nat} {fn : List Str} {w w2 : WpE} {f x : Str} {Cs : List Addr} {kb : Option Bool}
end
section
variable {X : Cx} {T : Tab} {W : WX} {e : Expr} {we : WpE}
end
theorem kbn_all {K : PySem.W.Frag} {fd : FuncData} {ps : List Str} {n : Nat} (hb : Binds K fd ps []) (hl : ps.length = n) : KBn K fd ps n [] (fun us _ => us) (fun us _ => us) :=
  ⟨fun s us ws X h1 h2 => by
    have := hb s us X (by simpa using h1.trans hl.symm)
    simpa using this, fun a _ => a⟩
end Dl
namespace Dl
open PySem L2
section
variable {X : Cx} {T : Tab} {cs : List Cell} {s1 : Sl} {ds : List D} {w2 : W2}
end
end Dl
namespace Dl
open PySem L2
section
variable {X : Cx} {T : Tab} {W : WX} {e e2 : Expr} {wA : WpA} {pos p tpos : Pos} {elts : List Expr} {kk : Nat}
end
end Dl
namespace Dl
open PySem L2
section
open PySem.SeqAt
open MeetsSeq MeetsSeq2 MeetsSeq3 SeqRoads2
end
section
open PySem.Spec PyProof.Rows
variable {X : Cx}
end
section
variable {X : Cx} {T : Tab} {W : WX} {o e : Expr} {wo we : WpE} {pos apos : Pos}
end
end Dl
namespace Dl
open PySem L2 PySem.Spec
open PyProof.Rows hiding St
abbrev Hdl := Value × Option Nat × (Addr → Value → Option Addr → TS)
def endsU (o : Option Nat) (D : Ends) : Ends := match o with
  | none => D
  | some i => { nx := fun σ' H' => D.nx (σ'.set i none) H', rt := D.rt, bk := fun σ' H' => D.bk (σ'.set i none) H', ct := fun σ' H' => D.ct (σ'.set i none) H' }
def stU (o : Option Nat) (a : Addr) (σ : St) : St := match o with
  | none => σ
  | some i => σ.set i (some (.ref a))
def wMix (K : PySem.W.Frag) (Wout : WX) (D : Ends) : List Hdl → WX
  | [] => Wout
  | (c, o, ts) :: r => fun cls d σ H => ∃ b, PySem.W.exmOne K cls c = some b ∧ (b = true → ∀ a, H a = none → ts a cls d (endsU o D) (stU o a σ) H) ∧ (b = false → wMix K Wout D r cls d σ H)
inductive HdsM (X : Cx) : List ExceptHandler → List Hdl → Prop
  | nil : HdsM X [] []
  | anon {x : Str} {c : Value} {ts : Addr → Value → Option Addr → TS} {b₀ : Stmt} {suite : List Stmt} {np pos' : Pos} {hds : List ExceptHandler} {l : List Hdl} (hc : Names X x c)
      (hsu : ∀ (a : Addr) (oe : Obj) (cls : Value) (d : Option Addr) (pn : List (Addr × Obj)), Zc cls d oe → (∃ vs, oe.data = .fields vs) → PSs (X.suite a ((a, oe) :: pn)) (b₀ :: suite) (ts a cls d)) (r : HdsM X hds l) :
      HdsM X (.ExceptHandler (some (.Name x np)) none (b₀ :: suite) pos' :: hds) ((c, none, ts) :: l)
  | named {x n : Str} {i : Nat} {c : Value} {ts : Addr → Value → Option Addr → TS} {b₀ : Stmt} {suite : List Stmt} {np pos' : Pos} {hds : List ExceptHandler} {l : List Hdl} (hc : Names X x c) (hi : X.N[i]? = some n) (hln : X.env.kindOf n = some .local)
      (hsu : ∀ (a : Addr) (oe : Obj) (cls : Value) (d : Option Addr) (pn : List (Addr × Obj)), Zc cls d oe → (∃ vs, oe.data = .fields vs) → PSs (X.suite a ((a, oe) :: pn)) (b₀ :: suite) (ts a cls d)) (r : HdsM X hds l) :
      HdsM X (.ExceptHandler (some (.Name x np)) (some n) (b₀ :: suite) pos' :: hds) ((c, some i, ts) :: l)
section
variable {X : Cx} {body : List Stmt} {h₀ : ExceptHandler} {hds : List ExceptHandler} {l : List Hdl} {pos : Pos} {tb : WX → TS} {Wout : WX}
theorem ps_try_mix (hs : X.stack = X.env :: X.outer) (hf : X.env.frame = some X.env.locals) (hN : X.N.Nodup) (tk : Takes X Wout)
    (hb : ∀ (W : WX) (pn : List (Addr × Obj)) (xe : Value → Shared → Prop), Takes (X.tr pn xe) W → PassesOwn (model X.prog X.w) X.A X.env xe → PSs (X.tr pn xe) body (tb W))
    (hh : HdsM X (h₀ :: hds) l) : PS X (.Try body (h₀ :: hds) [] [] pos) (fun D σ H => tb (wMix X.K Wout D l) D σ H) := by
  refine ⟨fun pins s σ H D I h => ?_⟩
  have ok := I.ok
  have hfr : X.A.frames = some (X.env :: X.outer) := by rw [ok.frames, hs]
  refine wpAny_Try_except ?_
  refine wpAny_mono ((hb (wMix X.K Wout D l) (X.pn ++ pins) (fun e s₁ => wpAny (model X.prog X.w) X.A (noteFrame e X.env) (fun _ s₂ => wpAny (model X.prog X.w) X.A (setFlight e none) (fun _ s₃ =>
    wpAny (model X.prog X.w) X.A (handleBy e X.env (h₀ :: hds)) (SP X pins D) X.xe s₃) X.xe s₂) X.xe s₁) (fun u s' xx => ?_) PassesOwn.looking).run [] s σ H D (I.toTry _) h) (fun f s1 hsp => ?_) (fun e s1 he => he)
  · -- the catch
    obtain ⟨a, B, sI, pins', σ', H', cls, d, rfl, J', nb, up, sky, na, os, ag, w⟩ := xx
    have J : Inv X pins σ' H' sI := J'.ofTry ok
    have sky' : Sky B (X.env :: X.outer) a (Zc cls d) X.env.locals s'.heap := by rw [← hs]; exact sky
    show wpAny (model X.prog X.w) X.A (noteFrame (.ref a) X.env) _ _ _
    refine Sky.land Zc.steady hfr hf sky' fun h3 fl3 up3 => ?_
    have J3 : Inv X pins σ' H' { s' with heap := h3 } := J.landed nb fl3.1 (up.trans up3) os ag
    obtain ⟨oe3, vs3, he3, hz3, hd3⟩ := fl3.there
    have notFr : ∀ {h : Heap} {o : Obj} {vs : Array Value}, h.FunFrames B (X.env :: X.outer) → h.get? a = some o → o.data = .fields vs → a ∉ frs (X.env :: X.outer) := fun {h o vs} ff e dd hm => by
      obtain ⟨_, o', e', hnf⟩ := ff.mem hm
      rw [e] at e'; cases e'
      exact hnf _ dd
    have nfr := notFr fl3.2.2.1 he3 hd3
    have nL : a ≠ X.env.locals := fun z => nfr (List.mem_filterMap.mpr ⟨X.env, List.mem_cons_self, by rw [hf, z]⟩)
    have nF : a ∉ X.fs := fun hm => by
      obtain ⟨e, he, q⟩ := List.mem_filterMap.mp hm
      exact nfr (List.mem_filterMap.mpr ⟨e, List.mem_cons_of_mem _ he, q⟩)
    have S3 := J3.suite he3 hd3 na nL nF
    have go : ∀ {hds' : List ExceptHandler} {l' : List Hdl}, HdsM X hds' l' → wMix X.K Wout D l' cls d σ' H' →
        wpAny (model X.prog X.w) X.A (handleBy (.ref a) X.env hds') (SP X pins D) X.xe { s' with heap := h3 } := by
      intro hds' l' hk
      have LT : PySem.W.Looks (model X.prog X.w) h3 (typeOf (.ref a)) cls := fun A Q E s k q => wpAny_typeOf_ref (k _ _ he3) (by rw [hz3.1]; exact q)
      induction hk with
      | nil =>
        intro w
        refine wpAny_handleBy_nil ?_
        obtain ⟨k1, k2, k3, oe, vs, T, oT, ts', he, hz, hd, h1, hr⟩ := id fl3
        unfold PySem.passOn
        refine wpAny_bind (wpAny_field he hd h1 ?_)
        rw [if_neg (show ¬ ((Value.ref T == Value.none) = true) from by simp)]
        have fin : wpAny (model X.prog X.w) X.A (setFlight (.ref a) X.env.frame) (fun _ s4 => wpAny (model X.prog X.w) X.A (throw (.ref a) : Sem Flow) (SP X pins D) X.xe s4) X.xe { s' with heap := h3 } := by
          rw [hf]
          refine HandSPX.setFlight_upZ fl3 fun h4 hh4 up4 => wpAny_throw (tk _ _ ?_)
          exact ⟨a, B, sI, pins, σ', H', cls, d, rfl, J, nb, (up.trans up3).trans up4, .inr (.inr (by rw [hs]; exact hh4)), na, os, ag, w⟩
        first
          | exact wpAny_bind (wpAny_pure (wpAny_bind fin))
          | exact wpAny_bind fin
      | @anon x c ts b₀ suite np pos' hds2 l2 hc hsu r ih =>
        intro w
        obtain ⟨b, hb1, hyes, hno⟩ := w
        refine wpAny_handleBy_cons (codeAny_handlers_test ?_) (by intro q; cases q)
        have LM := PySem.W.exm_one (M := model X.prog X.w) (J3.kIn) LT hb1
        have test : ∀ {Q : Value → Shared → Prop} {E : Value → Shared → Prop}, Q c { s' with heap := h3 } → wpAny (model X.prog X.w) (X.A.mark (some (.ref a))) (eval (.Name x np) X.env) Q E { s' with heap := h3 } := fun {Q E} q => by
          obtain ⟨hg, hdbg, hm | ⟨hm, hv, hnn⟩⟩ := hc
          · exact ld_glob (X := X.suite a ((a, oe3) :: (X.pn ++ pins))) S3 hg hm q hdbg
          · exact ld_blt (X := X.suite a ((a, oe3) :: (X.pn ++ pins))) S3 hg hm hv q hnn hdbg
        refine test (LM.here ?_)
        cases b with
        | true =>
          refine codeAny_handlers_suite ?_
          refine HandSPX.lands_againZ fl3 fun h4 fl4 up4 => ?_
          have J4 : Inv X pins σ' H' { s' with heap := h4 } := J.landed nb fl4.1 ((up.trans up3).trans up4) os ag
          obtain ⟨oe4, vs4, he4, hz4, hd4⟩ := fl4.there
          have S4 := J4.suite he4 hd4 na nL nF
          refine wpAny_mono ((hsu a oe4 cls d (X.pn ++ pins) hz4 ⟨_, hd4⟩).run [] _ _ H' _ S4 (hyes rfl a na)) (fun f s6 hsp => ?_) (fun _ _ z => False.elim z)
          cases f with
          | next =>
            obtain ⟨σ6, H6, S6, q6⟩ := hsp
            exact ⟨_, _, S6.unsuite ok, q6⟩
          | brk =>
            obtain ⟨σ6, H6, S6, q6⟩ := hsp
            exact ⟨_, _, S6.unsuite ok, q6⟩
          | cont =>
            obtain ⟨σ6, H6, S6, q6⟩ := hsp
            exact ⟨_, _, S6.unsuite ok, q6⟩
          | ret u =>
            obtain ⟨v6, σ6, H6, S6, r6, q6⟩ := hsp
            exact ⟨_, _, _, S6.unsuite ok, r6, q6⟩
        | false =>
          show wpAny _ X.A (handleBy (.ref a) X.env hds2) _ _ _
          exact ih (hno rfl)
      | @named x n i c ts b₀ suite np pos' hds2 l2 hc hi hln hsu r ih =>
        intro w
        have hloc : Loc X.env.scope n := .inl hln
        obtain ⟨b, hb1, hyes, hno⟩ := w
        refine wpAny_handleBy_cons (codeAny_handlers_test ?_) (by intro q; cases q)
        have LM := PySem.W.exm_one (M := model X.prog X.w) (J3.kIn) LT hb1
        have test : ∀ {Q : Value → Shared → Prop} {E : Value → Shared → Prop}, Q c { s' with heap := h3 } → wpAny (model X.prog X.w) (X.A.mark (some (.ref a))) (eval (.Name x np) X.env) Q E { s' with heap := h3 } := fun {Q E} q => by
          obtain ⟨hg, hdbg, hm | ⟨hm, hv, hnn⟩⟩ := hc
          · exact ld_glob (X := X.suite a ((a, oe3) :: (X.pn ++ pins))) S3 hg hm q hdbg
          · exact ld_blt (X := X.suite a ((a, oe3) :: (X.pn ++ pins))) S3 hg hm hv q hnn hdbg
        refine test (LM.here ?_)
        cases b with
        | true =>
          refine codeAny_handlers_suite_as ?_
          refine HandSPX.lands_againZ fl3 fun h4 fl4 up4 => ?_
          have J4 : Inv X pins σ' H' { s' with heap := h4 } := J.landed nb fl4.1 ((up.trans up3).trans up4) os ag
          obtain ⟨oe4, vs4, he4, hz4, hd4⟩ := fl4.there
          have S4 := J4.suite he4 hd4 na nL nF
          refine store_ok (X := X.suite a ((a, oe4) :: (X.pn ++ pins))) (v := .ref a) S4 hN hi hloc rfl (fun s5 S5 => ?_) (.inr hln)
          refine wpAny_mono ((hsu a oe4 cls d (X.pn ++ pins) hz4 ⟨_, hd4⟩).run [] s5 _ H' _ S5 (hyes rfl a na)) (fun f s6 hsp => ?_) (fun _ _ z => False.elim z)
          have end_ : ∀ {σ6 : St} {H6 : Hp} {Q : Shared → Prop}, Inv (X.suite a ((a, oe4) :: (X.pn ++ pins))) [] σ6 H6 s6 → (∀ s7, Inv X pins (σ6.set i none) H6 s7 → Q s7) →
              wpAny (model X.prog X.w) X.A (do bindName X.env n .none; unbindBehindTheSuite X.env n pos') (fun _ s7 => Q s7) X.xe s6 := fun {σ6 H6 Q} S6 hq => gone_ok (S6.unsuite ok) hN hi hln hq
          cases f with
          | next =>
            obtain ⟨σ6, H6, S6, q6⟩ := hsp
            exact end_ S6 fun s7 J7 => ⟨_, _, J7, q6⟩
          | brk =>
            obtain ⟨σ6, H6, S6, q6⟩ := hsp
            exact end_ S6 fun s7 J7 => ⟨_, _, J7, q6⟩
          | cont =>
            obtain ⟨σ6, H6, S6, q6⟩ := hsp
            exact end_ S6 fun s7 J7 => ⟨_, _, J7, q6⟩
          | ret u =>
            obtain ⟨v6, σ6, H6, S6, r6, q6⟩ := hsp
            exact end_ S6 fun s7 J7 => ⟨_, _, _, J7, r6, q6⟩
        | false =>
          show wpAny _ X.A (handleBy (.ref a) X.env hds2) _ _ _
          exact ih (hno rfl)
    exact go hh w
  · cases f with
    | next =>
      obtain ⟨σ', H', J', q⟩ := hsp
      exact wpAny_execs_nil ⟨σ', H', J'.ofTry ok, q⟩
    | brk =>
      obtain ⟨σ', H', J', q⟩ := hsp
      exact ⟨σ', H', J'.ofTry ok, q⟩
    | cont =>
      obtain ⟨σ', H', J', q⟩ := hsp
      exact ⟨σ', H', J'.ofTry ok, q⟩
    | ret u =>
      obtain ⟨v, σ', H', J', r, q⟩ := hsp
      exact ⟨v, σ', H', J'.ofTry ok, r, q⟩
end
abbrev HdW := (Nat → Option Bool) × Option Nat × (Nat → Addr → Option Addr → WS)
def sufM (o : Option Nat) (P : PJ) : PJ := match o with
  | none => { nx := P.nx, rt := P.rt, bk := P.bk, ct := P.ct }
  | some i => sufJ i P
def stM (o : Option Nat) (m : Nat) (a : Addr) (d : Option Addr) (fs : List D) (S : Sta) : Sta := match o with
  | none => S
  | some i => ⟨S.sl.set i (some (.dat (.err m a d fs))), S.cs⟩
def hdW (x : Exc) (S : Sta) (P : PJ) : List HdW → Prop
  | [] => P.ex x S
  | (mt, o, ws) :: r => match mt x.n with
    | some true => ∀ a d, ws x.n a d (stM o x.n a d x.fs S) (sufM o P)
    | some false => hdW x S P r
    | none => False
def wTryM (l : List HdW) (wb : WS) : WS := fun S P => wb S { P with ex := fun x S' => hdW x S' P l }
inductive HdsJ (X : Cx) (T : Tab) (n : Nat) : List ExceptHandler → List HdW → Prop
  | nil : HdsJ X T n [] []
  | anon {x : Str} {cv : Value} {mt : Nat → Option Bool} {ws : Nat → Addr → Option Addr → WS} {b0 : Stmt} {suite : List Stmt} {np pos' : Pos} {hds : List ExceptHandler} {l : List HdW} (hc : Names X x cv)
      (hmt : ∀ m b, mt m = some b → ∀ C fn, T m = some (C, fn) → PySem.W.exmOne X.K (.ref C) cv = some b)
      (hsu : ∀ (m : Nat) (a : Addr) (oe : Obj) (d : Option Addr) (C : Addr) (fn : List Str) (pn : List (Addr × Obj)), mt m = some true → T m = some (C, fn) → Zc (.ref C) d oe → (∃ vs, oe.data = .fields vs) → JSs (X.suite a ((a, oe) :: pn)) T W0 n (b0 :: suite) (ws m a d)) (r : HdsJ X T n hds l) :
      HdsJ X T n (.ExceptHandler (some (.Name x np)) none (b0 :: suite) pos' :: hds) ((mt, none, ws) :: l)
  | named {x y : Str} {i : Nat} {cv : Value} {mt : Nat → Option Bool} {ws : Nat → Addr → Option Addr → WS} {b0 : Stmt} {suite : List Stmt} {np pos' : Pos} {hds : List ExceptHandler} {l : List HdW} (hc : Names X x cv)
      (hmt : ∀ m b, mt m = some b → ∀ C fn, T m = some (C, fn) → PySem.W.exmOne X.K (.ref C) cv = some b) (hi : X.N[i]? = some y) (hln : X.env.kindOf y = some .local)
      (hsu : ∀ (m : Nat) (a : Addr) (oe : Obj) (d : Option Addr) (C : Addr) (fn : List Str) (pn : List (Addr × Obj)), mt m = some true → T m = some (C, fn) → Zc (.ref C) d oe → (∃ vs, oe.data = .fields vs) → JSs (X.suite a ((a, oe) :: pn)) T W0 n (b0 :: suite) (ws m a d)) (r : HdsJ X T n hds l) :
      HdsJ X T n (.ExceptHandler (some (.Name x np)) (some y) (b0 :: suite) pos' :: hds) ((mt, some i, ws) :: l)
section
variable {X : Cx} {T : Tab} {W : WX} {n : Nat} {body : List Stmt} {h0 : ExceptHandler} {hds : List ExceptHandler} {l : List HdW} {pos : Pos} {wb : WS}
inductive MixOf (X : Cx) (T : Tab) (n : Nat) : List HdW → List Hdl → Prop
  | nil : MixOf X T n [] []
  | cons {mt : Nat → Option Bool} {o : Option Nat} {ws : Nat → Addr → Option Addr → WS} {cv : Value} {l : List HdW} {k : List Hdl} (hmt : ∀ m b, mt m = some b → ∀ C fn, T m = some (C, fn) → PySem.W.exmOne X.K (.ref C) cv = some b) (r : MixOf X T n l k) :
      MixOf X T n ((mt, o, ws) :: l) ((cv, o, fun a cls d D σ H => ∃ m C fn S1 P1, cls = .ref C ∧ mt m = some true ∧ T m = some (C, fn) ∧ ws m a d S1 P1 ∧ tDS T X.K n S1 (P1.to W0) D σ H) :: k)
theorem HdsJ.mix (h : HdsJ X T n hds l) : ∃ k, HdsM X hds k ∧ MixOf X T n l k := by
  induction h with
  | nil => exact ⟨[], .nil, .nil⟩
  | anon hc hmt hsu r ih =>
    obtain ⟨k, h1, h2⟩ := ih
    refine ⟨_, .anon hc (fun a oe cls d pn hz hv => ⟨fun pins s σ H D I z => ?_⟩) h1, .cons hmt h2⟩
    obtain ⟨m, C, fn, S1, P1, rfl, e1, e2, h3, z⟩ := z
    exact (hsu m a oe d C fn pn e1 e2 hz hv S1 P1 h3).run pins s σ H D I z
  | named hc hmt hi hln hsu r ih =>
    obtain ⟨k, h1, h2⟩ := ih
    refine ⟨_, .named hc hi hln (fun a oe cls d pn hz hv => ⟨fun pins s σ H D I z => ?_⟩) h1, .cons hmt h2⟩
    obtain ⟨m, C, fn, S1, P1, rfl, e1, e2, h3, z⟩ := z
    exact (hsu m a oe d C fn pn e1 e2 hz hv S1 P1 h3).run pins s σ H D I z
theorem js_tryM (tk : Takes X W) (hN : X.N.Nodup)
    (hb : ∀ (V : WX) (pn : List (Addr × Obj)) (xe : Value → Shared → Prop), Takes (X.tr pn xe) V → PassesOwn (model X.prog X.w) X.A X.env xe → JSs (X.tr pn xe) T V n body wb)
    (hh : HdsJ X T n (h0 :: hds) l) (hs : X.stack = X.env :: X.outer := by rfl) (hf : X.env.frame = some X.env.locals := by rfl) : JS X T W n (.Try body (h0 :: hds) [] [] pos) (wTryM l wb) := fun S P h => by
  obtain ⟨k, hk, hm⟩ := hh.mix
  let tb : WX → TS := fun V D σ H => ∃ S1 P1, wb S1 P1 ∧ tDS T X.K n S1 (P1.to V) D σ H
  have hb' : ∀ (V : WX) (pn : List (Addr × Obj)) (xe : Value → Shared → Prop), Takes (X.tr pn xe) V → PassesOwn (model X.prog X.w) X.A X.env xe → PSs (X.tr pn xe) body (tb V) := fun V pn xe t po => ⟨fun pins s σ H D I z => by
    obtain ⟨S1, P1, h1, z⟩ := z
    exact (hb V pn xe t po S1 P1 h1).run pins s σ H D I z⟩
  refine weakS (ps_try_mix (tb := tb) hs hf hN tk hb' hk) fun D σ H ⟨ad, F, hn, h0', q1, q2, q3, q4, q5⟩ => ?_
  refine ⟨S, _, h, ad, F, hn, h0', q1, q2, q3, q4, ?_⟩
  intro x0 S2 cls d σ' H' ad' x' hn' h' er hx
  obtain ⟨C, fn, e1, e2, er'⟩ := id er
  have hx : hdW x0 S2 P l := hx
  show wMix X.K W D k cls d σ' H'
  clear hk hh h
  induction hm with
  | nil => exact q5 x0 S2 cls d σ' H' ad' x' hn' h' er hx
  | @cons mt o ws cv l k hmt r ih =>
    have hx : match mt x0.n with
      | some true => ∀ a d, ws x0.n a d (stM o x0.n a d x0.fs S2) (sufM o P)
      | some false => hdW x0 S2 P l
      | none => False := hx
    split at hx
    · rename_i hm
      refine ⟨true, by rw [e2]; exact hmt _ _ hm C fn e1, fun _ a na => ⟨x0.n, C, fn, _, sufM o P, e2, hm, e1, hx a d, ?_⟩, fun z => nomatch z⟩
      have rp : Rep T X.K (Mm ad' F) H' (.ref a) (.err x0.n a d x0.fs) := by
        rcases er' with ⟨f1, f2, f3⟩ | ⟨dd, vs, a1, a2, a3, a4, a5⟩
        · rw [f2, f3]
          subst f1
          exact .err (vs := []) e1 (.inl ⟨rfl, rfl, rfl⟩) .nil
        · exact .err e1 (.inr ⟨dd, a1, a2, a3, a4⟩) a5
      cases o with
      | none =>
        refine ⟨ad', F, hn', h', ?_, ?_, ?_, ?_, fun _ _ _ _ _ _ _ _ _ _ _ z => z.elim⟩
        · exact fun S3 σ3 H3 ad3 x3 hn3 h3 p => q1 _ _ H3 ad3 (x'.trans x3) hn3 h3 p
        · exact fun s cs3 v H3 ad3 x3 hn3 c3 r3 p => q2 s cs3 v H3 ad3 (x'.trans x3) hn3 c3 r3 p
        · exact fun S3 σ3 H3 ad3 x3 hn3 h3 p => q3 _ _ H3 ad3 (x'.trans x3) hn3 h3 p
        · exact fun S3 σ3 H3 ad3 x3 hn3 h3 p => q4 _ _ H3 ad3 (x'.trans x3) hn3 h3 p
      | some i =>
        have hh := h'.set (s := .dat (.err x0.n a d x0.fs)) rp i
        refine ⟨ad', F, hn', hh, ?_, ?_, ?_, ?_, fun _ _ _ _ _ _ _ _ _ _ _ z => z.elim⟩
        · exact fun S3 σ3 H3 ad3 x3 hn3 h3 p => q1 _ _ H3 ad3 (x'.trans x3) hn3 (h3.unset i) p
        · exact fun s cs3 v H3 ad3 x3 hn3 c3 r3 p => q2 s cs3 v H3 ad3 (x'.trans x3) hn3 c3 r3 p
        · exact fun S3 σ3 H3 ad3 x3 hn3 h3 p => q3 _ _ H3 ad3 (x'.trans x3) hn3 (h3.unset i) p
        · exact fun S3 σ3 H3 ad3 x3 hn3 h3 p => q4 _ _ H3 ad3 (x'.trans x3) hn3 (h3.unset i) p
    · rename_i hm
      exact ⟨false, by rw [e2]; exact hmt _ _ hm C fn e1, (fun z => nomatch z), fun _ => ih hx hx⟩
    · exact hx.elim
end
end Dl
namespace Dl
open PySem L2
section
variable {X : Cx} {T : Tab} {W : WX} {a b c : Expr} {pos : Pos} {wa wb wc : WpE} {op op' : CmpOp} {v1 v2 : W2}
end
theorem run_in1S {X : Cx} {CX : CXT} {g : Addr} {fd : FuncData} {ps : List Str} {k : Nat} {E : St → XK} {pins : List (Addr × Obj)} {σ : St} {H : Hp} {s : Shared} {Q : VK} {us : List Value} {vs : List V} {sp : Sp} (F : FnOk X.prog X.w X.K X.mg X.base CX k g fd ps sp) (hr : Room (k + 1) X.A) (hb : Binds X.K fd ps []) (hx : PassesAt CX X σ (E σ))
    (I : Inv X pins σ H s) (r : Vals vs us) (h : sp vs H Q (E σ)) : wpAny (model X.prog X.w) X.A.in1 (call (.ref g) us) (EP X pins σ Q) X.xe s := by
  have hl : us.length = ps.length := by rw [← r.length]; exact F.len _ _ _ _ h
  have b := hb s us I.kIn (by rw [List.append_nil]; exact hl)
  rw [List.append_nil] at b
  have e := I.env0
  refine wpAny_call (codeAny_mono (F.run X.A.in1 X.stack s H ⟨us, []⟩ us vs Q (E σ) hr.in1 ⟨e.frames, e.mod, e.bs, e.bsz, e.funs, e.frf, e.hok, e.bare⟩ b r h) fun r s' hq => ?_)
  cases r with
  | error e => exact hx pins H s e s' I hq
  | ok fl =>
    cases fl with
    | ret u => exact I.after hq
    | next => exact False.elim hq
    | brk => exact False.elim hq
    | cont => exact False.elim hq
def tSubO (C : Addr) (sp : Sp) (E : St → XK) (ta tb : TE) : TE := fun σ H Q => ta σ H fun x H1 => tb σ H1 fun y H2 => ∃ a dx fs, x = .ref a ∧ H2 a = some (.ins C dx fs) ∧ sp [x, y] H2 Q (E σ)
abbrev PlainIxO (b : Expr) : Prop := ∀ (x i : Value), subscripted b true x i = runValue (.builtin "lifetime.subscript" ⟨[x, i], []⟩)
section
variable {X : Cx} {CX : CXT} {T : Tab} {W : WX} {a b : Expr} {pos : Pos} {wa wb : WpE} {ta tb : TE} {C g : Addr} {fd : FuncData} {ps : List Str} {k cn : Nat} {sp : Sp} {E : St → XK} {c : Ct} {cx : CtX} {fn : List Str}
theorem pe_subO (G : FnOk X.prog X.w X.K X.mg X.base CX k g fd ps sp) (hr : Room (k + 1) X.A) (hb : Binds X.K fd ps []) (hx : ∀ σ, PassesAt CX X σ (E σ)) (hs : PySem.W.findIn X.K (.ref C) "__getitem__" = some (some (.ref g))) (hf : PySem.W.fnIn X.K g = true) (hfn : PySem.W.isFn X.K (.ref g) = true)
    (ha : PE X a ta) (hb' : PE X b tb) (hp : PlainIxO b) : PE X (.Subscript a b pos) (tSubO C sp E ta tb) := by
  refine ⟨fun pins s σ H Q I h => ?_⟩
  refine PyProof.Rows.Subscript_ (binT ha hb' I (R := fun x y H2 => ∃ a dx fs, x = .ref a ∧ H2 a = some (.ins C dx fs) ∧ sp [x, y] H2 Q (E σ)) h fun v u s2 x y H2 I2 rx ry q => ?_)
  obtain ⟨o, dx, fs, rfl, eo, hsp⟩ := q
  cases (show v = Value.ref o from rx)
  obtain ⟨od, J⟩ := inst_get I2 eo
  obtain ⟨m, hF⟩ := I2.fr
  exact PySem.W.sub_K hF I2.ok.mod.kin J hs hf hfn (run_in1S (us := [.ref o, u]) (vs := [.ref o, y]) G hr hb (hx σ) I2 (.cons rfl (.cons ry .nil)) hsp) (hp _ _)
end
end Dl
namespace Dl
open PySem L2
section
open PySem.SeqAt
open AutoSeq1 (wpAny_loadPart')
open MeetsSeq MeetsSeq2 MeetsSeq3 SeqRoads2
variable {prog : Program} {w : World} {A : Around} {R : Result → Shared → Prop}
variable {E : Value → Shared → Prop} {s : Shared}
end
section
variable {X : Cx} {T : Tab} {C g : Addr} {fd : FuncData} {ps : List Str} {k n m : Nat} {c : Ct} {fn : List Str} {E : D → D → Bool → Prop}
end
end Dl
namespace Dl
open PySem L2
section
open PySem.Spec
open PyProof.Rows hiding St
end
section
variable {X : Cx} {T : Tab} {ds : List D} {cs : List Cell}
end
end Dl
namespace Dl
open PySem L2 PySem.Spec
open PyProof.Rows hiding St
section
open PySem.W
variable {prog : Program} {w : World} {A : Around} {E : Value → Shared → Prop} {s : Shared} {env : Env} {elts : List Expr} {k : Nat} {pos : Pos}
end
section
variable {X : Cx} {x y : Str} {p1 p2 p3 p4 pos : Pos} {i j k : Nat}
end
end Dl
namespace Dl
open PySem L2
section
variable {X : Cx} {T : Tab} {W : WX} {a b : Expr} {rest : List Expr} {pos : Pos} {wa wb : WpE}
end
end Dl
namespace Dl
open PySem L2
section
variable {X : Cx} {T : Tab}
theorem call_reprS : CallR X (.builtin "repr") (fun xs H Q => ∃ a, xs = [.str a] ∧ (PySem.reprText a).length ≤ sizeLine ∧ Q (.str (PySem.reprText a)) H) := by
  intro pins s σ H xs us Q I r h
  obtain ⟨a, rfl, hz, q⟩ := h
  obtain ⟨u, rfl, t, rfl⟩ := vals1 r
  exact PySem.P.repr_of_str ⟨.str _, H, I.tok _, ⟨_, rfl⟩, q⟩ hz
theorem cb_reprS {x : Str} {cs : List Cell} (hl : (PySem.reprText x).length ≤ sizeLine) : CalB X T "repr" [.dat (.str x)] cs (.dat (.str (PySem.reprText x))) cs := ⟨_, _, by decide +kernel, .inl ⟨_, rfl⟩, call_reprS, fun ad F H vs Q c r q => by
  match vs, r with
  | [v], r =>
    have r1 := r.1
    cases r1
    exact ⟨x, rfl, hl, q _ H ad .refl c Rep.str⟩⟩
def reprW3 : WC := fun ss cs R => match ss with
  | [.dat (.str x)] => (PySem.reprText x).length ≤ sizeLine ∧ R (.dat (.str (PySem.reprText x))) cs
  | ss => reprW2 ss cs R
theorem jc_repr3 (hG : X.A.guards = some []) (hu : X.A.units + 64 < cLine) : JCall X T "repr" reprW3 := ⟨⟨.builtin "repr", by decide +kernel, .inl ⟨_, rfl⟩⟩, fun ss cs R h => by
  unfold reprW3 at h
  split at h
  · exact ⟨_, _, cb_reprS h.1, h.2⟩
  · exact (jc_repr2 hG hu).run _ _ _ h⟩
end
end Dl
namespace Dl
open PySem L2
section
variable {X : Cx} {T : Tab} {W : WX} {e : Expr} {es fs : List Expr} {lp cp : Pos} {wA wB : WpA}
end
end Dl
namespace Dl
open PySem L2
section
variable {X : Cx} {T : Tab} {W : WX} {e e2 : Expr} {wA : WpA} {pos p tpos : Pos} {elts : List Expr} {kk : Nat}
end
end Dl
namespace Dl
open PySem L2
section
variable {X : Cx} {T : Tab}
variable {d : D} {ds : List D} {cs : List Cell}
def okI (d : D) (ds : List D) : Prop := (d.plain = true ∧ D.plains ds = true) ∧ d.py.plain = true ∧ PyData.plainAll (D.pys ds) = true ∧ d.py.depth ≤ 60
end
end Dl
namespace Dl
open PySem L2
section
variable {X : Cx} {T : Tab} {W : WX} {e : Expr} {wa : WpE} {pos p1 p2 p3 : Pos} {k : Nat}
end
end Dl
namespace Dl
open PySem L2
section
variable {T : Tab} {P : Program} {w : World} {K : PySem.W.Frag} {mg : Str → Option Value} {base : Heap} {x qual : Str} {st : Stmt} {f : Addr} {fd : FuncData} {N ps : List Str} {k : Nat} {ws : Nat → WS} {c : Ct} {cx : CtX}
end
section
variable {X : Cx} {T : Tab} {W : WX} {e : Expr} {es : List Expr} {kws : List Keyword} {pos p : Pos} {wA wK : WpA} {c : Ct} {cx : CtX} {k pn : Nat} {f : Addr} {fd : FuncData} {ps ks : List Str} {y : Str} {C g : Addr} {fn : List Str} {cn : Nat} {gV : List V → List V → List V} {fu : List D → List D → List D}
end
section
variable {X : Cx} {C fI : Addr} {k : Nat} {fd : FuncData} {f g : Str} {pins : List (Addr × Obj)} {σ : St} {H : Hp} {s : Shared} {Q : XK} {u : Value} {v : V}
end
section
variable {X : Cx} {T : Tab} {W : WX} {n m k : Nat} {e : Expr} {te : TE} {pos pos2 p : Pos} {x f g : Str} {C fI : Addr} {fd : FuncData} {w : WpE}
end
section
variable {P : Program} {w : World} {K : PySem.W.Frag} {mg : Str → Option Value} {base : Heap} {x qual : Str} {st : Stmt} {f : Addr} {fd : FuncData} {N ps : List Str} {k : Nat} {sp : Sp}
end
end Dl
namespace Dl
open PySem L2
abbrev blkE (X : Cx) (s : Shared) (H : Hp) (scope : Scope) (ce : Env) (fp : List Addr) (E : Value → Shared → Prop) : Cx := (X.blk s H scope ce fp).wish E
section
variable {X : Cx} {W : WX} {pins pins' : List (Addr × Obj)} {σ σ' : St} {H3 H' : Hp} {s3 s s' : Shared} {scope : Scope} {ce : Env} {fp : List Addr} {u : Value}
end
section
variable {B : Cx} {elt tg iter : Expr} {ifs : List Expr} {scope : Scope} {pos : Pos} {g : TG} {tt : TT} {te : TE} {fp : List Addr} {it D : Addr} {J : It} {tn : Nat → Heap → Prop} {σb : St} {vs : List Nat} {R : Result → Shared → Prop} {Qe : Hp → Prop}
end
section
variable {X : Cx} {W : WX} {elt tg iter : Expr} {ifs : List Expr} {scope : Scope} {own : List (Str × Nat)} {pos : Pos} {wi : TI} {g : TG} {tt : TT} {te : St → TE}
end
end Dl
namespace Dl
open PySem L2
section
variable {T : Tab} {K : PySem.W.Frag} {W : WX} {p : Pat} {wi : WpI} {wt : WpT} {we : WpE} {own : List Nat}
end
section
variable {X : Cx} {T : Tab} {W : WX} {elt tg iter : Expr} {ifs : List Expr} {scope : Scope} {own : List (Str × Nat)} {p : Pat} {wi : WpI} {wt : WpT} {we : WpE} {pos : Pos}
structure JLCX (X : Cx) (T : Tab) (W : WX) (elt tg iter : Expr) (ifs : List Expr) (scope : Scope) (own : List (Str × Nat)) (wi : WpI) (p : Pat) (wt : WpT) (we : WpE) : Prop where
  hi : JI X T W tg iter wi
  ok : BlkOk X.N X.env.scope scope own
  hg : InB X scope fun X' => DG X' T tg p
  ht : InB X scope fun X' => JTs X' T W0 ifs wt
  he : ∀ (σ0 : St) (s : Shared) (H : Hp) (C : Addr) (cl : List (Str × Addr)) (fp : List Addr) (E : Value → Shared → Prop), (∀ σ, PassesAt (L2N.CX X.prog X.w) (blkE X s H scope (compEnvC scope cl C X.env) fp E) σ (WE (fun cls d _ H => W cls d σ0 H) σ)) →
    JE (blkE X s H scope (compEnvC scope cl C X.env) fp E) T (fun cls d _ H => W cls d σ0 H) elt we
  hp : ∀ i ∈ slotsP p, i ∈ own.map (·.2)
end
end Dl
namespace Dl
open PySem L2
section
variable {X : Cx} {T : Tab} {W : WX} {n : Nat} {o e a b i j o1 o2 : Expr} {es : List Expr} {wo we wi wj wo1 wo2 : WpE} {wA : WpA} {pos apos p p1 p2 kp : Pos}
end
end Dl
namespace Dl
open PySem L2 PySem.Spec
open PyProof.Rows hiding St
section
open PySem.W
variable {prog : Program} {w : World} {A : Around} {E : Value → Shared → Prop} {s : Shared}
end
section
variable {X : Cx} {x y : Str} {p1 p2 p3 p4 pos : Pos} {i j k : Nat}
end
section
end
end Dl
namespace Dl
open PySem L2
section
variable {X : Cx} {T : Tab} {d : D} {ds : List D} {cs : List Cell}
end
end Dl
namespace Dl
open PySem L2
def vwC : Cell → Cell
  | .lstA _ ds => .lst ds
  | .dctA _ kvs => .dct kvs
  | .insA _ n fs => .ins n fs
  | c => c
def reC : Cell → Cell → Cell
  | .lstA p _, .lst ds => .lstA p ds
  | .dctA p _, .dct kvs => .dctA p kvs
  | .insA p _ _, .ins n fs => .insA p n fs
  | _, c => c
def rew : List Cell → List Cell → List Cell
  | c :: cs, d :: ds => reC c d :: rew cs ds
  | _, ds => ds
def adrC : Cell → Option Addr
  | .lstA p _ => some p
  | .dctA p _ => some p
  | .insA p _ _ => some p
  | _ => none
section
variable {T : Tab} {K : PySem.W.Frag} {M M' : Addr → Prop} {H H' : Hp} {a p : Addr} {c d : Cell} {cs ds : List Cell} {ad ad' : List Addr} {F : Addr → Prop} {k j : Nat} {s s' : Sl} {v : V}
theorem rew_len : ∀ {cs ds : List Cell}, (rew cs ds).length = ds.length
  | [], _ => by unfold rew; rfl
  | _ :: _, [] => rfl
  | c :: cs, d :: ds => by
    show (rew cs ds).length + 1 = ds.length + 1
    rw [rew_len]
theorem rew_at : ∀ {cs ds : List Cell} {k : Nat} {d : Cell}, ds[k]? = some d → (rew cs ds)[k]? = some (match cs[k]? with | some c => reC c d | none => d)
  | [], ds, k, d, h => by unfold rew; simpa using h
  | _ :: _, [], k, d, h => by simp at h
  | c :: cs, e :: ds, 0, d, h => by
    have h : e = d := by simpa using h
    rw [h]
    rfl
  | c :: cs, e :: ds, k + 1, d, h => by
    have := rew_at (cs := cs) (ds := ds) (k := k) (d := d) (by simpa using h)
    show (rew cs ds)[k]? = _
    rw [this]
    simp
theorem CellAt.vw (h : CellAt T K M H a c) : CellAt T K M H a (vwC c) := by
  cases c with
  | lstA p ds => obtain ⟨vs, h, _⟩ := h; exact ⟨vs, h⟩
  | dctA p kvs => obtain ⟨vs, h, _⟩ := h; exact ⟨vs, h⟩
  | insA p n fs => obtain ⟨C, fn, dx, vs, h, _⟩ := h; exact ⟨C, fn, dx, vs, h⟩
  | lst _ => exact h
  | dct _ => exact h
  | ins _ _ => exact h
  | dcn _ => exact h
theorem CellAt.adr (h : CellAt T K M H a c) (e : adrC c = Option.some p) : p = a := by
  cases c with
  | lstA q ds => cases e; obtain ⟨_, _, h⟩ := h; exact h
  | dctA q kvs => cases e; obtain ⟨_, _, h⟩ := h; exact h
  | insA q n fs => cases e; obtain ⟨_, _, _, _, _, h⟩ := h; exact h
  | lst _ => cases e
  | dct _ => cases e
  | ins _ _ => cases e
  | dcn _ => cases e
theorem CellAt.re (h : CellAt T K M H a c) (h' : CellAt T K M' H' a d) : CellAt T K M' H' a (reC c d) := by
  cases c with
  | lstA q ds =>
    cases d with
    | lst _ => obtain ⟨vs, g⟩ := h'; exact ⟨vs, g, h.adr rfl⟩
    | dct _ => exact h'
    | ins _ _ => exact h'
    | dcn _ => exact h'
    | lstA _ _ => exact h'
    | dctA _ _ => exact h'
    | insA _ _ _ => exact h'
  | dctA q kvs =>
    cases d with
    | dct _ => obtain ⟨vs, g⟩ := h'; exact ⟨vs, g, h.adr rfl⟩
    | lst _ => exact h'
    | ins _ _ => exact h'
    | dcn _ => exact h'
    | lstA _ _ => exact h'
    | dctA _ _ => exact h'
    | insA _ _ _ => exact h'
  | insA q n fs =>
    cases d with
    | ins _ _ => obtain ⟨C, fn, dx, vs, g⟩ := h'; exact ⟨C, fn, dx, vs, g, h.adr rfl⟩
    | dct _ => exact h'
    | lst _ => exact h'
    | dcn _ => exact h'
    | lstA _ _ => exact h'
    | dctA _ _ => exact h'
    | insA _ _ _ => exact h'
  | lst _ => exact h'
  | dct _ => exact h'
  | ins _ _ => exact h'
  | dcn _ => exact h'
theorem HoldC.vw (h : HoldC T K ad F H cs) : HoldC T K ad F H (cs.map vwC) := ⟨h.nd, h.fr, h.al, h.tb, by rw [List.length_map]; exact h.ln, fun k a c h1 h2 => by
  rw [List.getElem?_map] at h2
  cases e : cs[k]? with
  | none => rw [e] at h2; cases h2
  | some c0 =>
    rw [e] at h2
    cases h2
    exact (h.ce k a c0 h1 e).vw⟩
theorem HoldC.re (h : HoldC T K ad F H cs) (x : Ext ad F H ad' H') (h' : HoldC T K ad' F H' ds) : HoldC T K ad' F H' (rew cs ds) := ⟨h'.nd, h'.fr, h'.al, h'.tb, by rw [rew_len]; exact h'.ln, fun k a c h1 h2 => by
  obtain ⟨t, ht, _⟩ := x.pre
  have kl : k < ds.length := by rw [← h'.ln]; exact (List.getElem?_eq_some_iff.mp h1).1
  have e1 : ds[k]? = some ds[k] := List.getElem?_eq_getElem kl
  rw [rew_at e1] at h2
  have c1 := h'.ce k a _ h1 e1
  cases e : cs[k]? with
  | none =>
    rw [e] at h2
    cases h2
    exact c1
  | some c0 =>
    rw [e] at h2
    cases h2
    have k0 : k < ad.length := by rw [h.ln]; exact (List.getElem?_eq_some_iff.mp e).1
    rw [ht, List.getElem?_append_left k0] at h1
    exact (h.ce k a c0 h1 e).re c1⟩
inductive DeR (cs : List Cell) : Sl → Sl → Prop
  | id {s : Sl} : DeR cs s s
  | de {p : Addr} {j : Nat} {c : Cell} : cs[j]? = some c → adrC c = some p → DeR cs (.dat (.cls p)) (.cel j)
theorem SlRep.de (h : HoldC T K ad F H cs) (r : SlRep T K ad F H v s) (e : DeR cs s s') : SlRep T K ad F H v s' := by
  cases e with
  | id => exact r
  | de h1 h2 =>
    rename_i p j c
    have r : Rep T K (Mm ad F) H v (.cls p) := r
    cases r
    have jl : j < ad.length := by rw [h.ln]; exact (List.getElem?_eq_some_iff.mp h1).1
    have e := List.getElem?_eq_getElem jl
    exact ⟨_, e, congrArg V.ref ((h.ce j _ c e h1).adr h2)⟩
inductive DeRs (cs : List Cell) : List Sl → List Sl → Prop
  | nil : DeRs cs [] []
  | cons {s s' : Sl} {ss ss' : List Sl} : DeR cs s s' → DeRs cs ss ss' → DeRs cs (s :: ss) (s' :: ss')
theorem SlReps.de (h : HoldC T K ad F H cs) : ∀ {vs : List V} {ss ss' : List Sl}, SlReps T K ad F H vs ss → DeRs cs ss ss' → SlReps T K ad F H vs ss'
  | [], [], _, _, .nil => trivial
  | _ :: _, _ :: _, _, r, .cons e es => ⟨r.1.de h e, SlReps.de h r.2 es⟩
theorem R2D.li {r : R2} {s1 s2 s1' s2' s : Sl} (e1 : DeR cs s1 s1') (e2 : DeR cs s2 s2') (h : R2D T K r s1' s2' (cs.map vwC) s ds) : R2D T K r s1 s2 cs s (rew cs ds) := fun ad F H v w Q hc r1 r2 q =>
  h ad F H v w Q hc.vw (r1.de hc e1) (r2.de hc e2) fun z H' ad' x k rz => q z H' ad' x (hc.re x k) rz
theorem R1.li {r : V → Hp → VK → Prop} {s1 s1' s : Sl} (e1 : DeR cs s1 s1') (h : R1 T K r s1' (cs.map vwC) s ds) : R1 T K r s1 cs s (rew cs ds) := fun ad F H v Q hc r1 q =>
  h ad F H v Q hc.vw (r1.de hc e1) fun z H' ad' x k rz => q z H' ad' x (hc.re x k) rz
def liW2 (o : W2) : W2 := fun s1 s2 cs R => ∃ s1' s2', DeR cs s1 s1' ∧ DeR cs s2 s2' ∧ o s1' s2' (cs.map vwC) fun s c => R s (rew cs c)
def liW1 (o : W1) : W1 := fun s1 cs R => ∃ s1', DeR cs s1 s1' ∧ o s1' (cs.map vwC) fun s c => R s (rew cs c)
def liWC (o : WC) : WC := fun ss cs R => ∃ ss', DeRs cs ss ss' ∧ o ss' (cs.map vwC) fun s c => R s (rew cs c)
end
section
variable {X : Cx} {T : Tab} {op : Operator} {cop : CmpOp} {uop : UnaryOp} {w : W2}
theorem jb_li (h : JBin X T op w) : JBin X T op (liW2 w) := fun s1 s2 cs R ⟨s1', s2', e1, e2, hw⟩ => by
  obtain ⟨s, c, ⟨r, o, q⟩, hR⟩ := h _ _ _ _ hw
  exact ⟨s, _, ⟨r, o, R2D.li e1 e2 q⟩, hR⟩
theorem jc_li (h : JCmp X T cop w) : JCmp X T cop (liW2 w) := fun s1 s2 cs R ⟨s1', s2', e1, e2, hw⟩ => by
  obtain ⟨s, c, ⟨r, o, q⟩, hR⟩ := h _ _ _ _ hw
  exact ⟨s, _, ⟨r, o, R2D.li e1 e2 q⟩, hR⟩
theorem ji_li (h : JIx X T w) : JIx X T (liW2 w) := fun s1 s2 cs R ⟨s1', s2', e1, e2, hw⟩ => by
  obtain ⟨s, c, ⟨r, o, q⟩, hR⟩ := h _ _ _ _ hw
  exact ⟨s, _, ⟨r, o, R2D.li e1 e2 q⟩, hR⟩
theorem RCD.li {r : List V → Hp → VK → Prop} {ss ss' : List Sl} {s : Sl} {cs ds : List Cell} {K : PySem.W.Frag} (e : DeRs cs ss ss') (h : RCD T K r ss' (cs.map vwC) s ds) : RCD T K r ss cs s (rew cs ds) := fun ad F H vs Q hc rr q =>
  h ad F H vs Q hc.vw (rr.de hc e) fun z H' ad' x k rz => q z H' ad' x (hc.re x k) rz
theorem jk_li {x : Str} {w : WC} (h : JCall X T x w) : JCall X T x (liWC w) := ⟨h.bo, fun ss cs R ⟨ss', e, hw⟩ => by
  obtain ⟨s, c, ⟨u, r, b1, b2, o, q⟩, hR⟩ := h.run _ _ _ hw
  exact ⟨s, _, ⟨u, r, b1, b2, o, RCD.li e q⟩, hR⟩⟩
end
end Dl
namespace Dl
open PySem L2
abbrev CtG := List Sl → List Cell → RV → Prop
def spG (T : Tab) (K : PySem.W.Frag) (c : CtG) : Sp := fun vs H Q _ => ∃ ad F args cs R, HoldC T K ad F H cs ∧ SlReps T K ad F H vs args ∧ c args cs R ∧
  ∀ s cs' v H' ad', R s cs' → ExtS cs.length ad F H ad' H' → cs.length ≤ ad'.length → HoldC T K ad' F H' cs' → SlRep T K ad' F H' v s → Q v H'
abbrev endG (R : RV) : PJ := { nx := fun S => R (.dat .non) S.cs, rt := R }
def cgOf (N ps : List Str) (ws : Nat → WS) : CtG := fun args cs R => args.length = ps.length ∧ ws cs.length (st0 N args cs) (endG R)
section
variable {T : Tab} {P : Program} {w : World} {K : PySem.W.Frag} {mg : Str → Option Value} {base : Heap} {x qual : Str} {st : Stmt} {f : Addr} {fd : FuncData} {N ps : List Str} {k : Nat} {ws : Nat → WS}
theorem lenG {c : Nat → WS} {vs : List V} {H : Hp} {Q : VK} {E : XK} (h : spG T K (cgOf N ps c) vs H Q E) : vs.length = ps.length := by
  obtain ⟨ad, F', args, cs, R, _, r, hc, _⟩ := h
  rw [r.len, hc.1]
theorem fn_G (F : Fun K x qual st f fd) (Sc : FnScope N ps (defScope st))
    (body : ∀ cdv A outer sh H E, Room k (cx0 P w K mg base N qual st f cdv A outer sh H E).A → ∀ n, JSs (cx0 P w K mg base N qual st f cdv A outer sh H E) T W0 n (defBody st) (ws n)) : FnOk P w K mg base CX0 (k + 1) f fd ps (spG T K (cgOf N ps ws)) := by
  refine F.ok Sc (fun vs H Q E h => lenG h) (fun cdv A outer s H vs Q E hr h => ?_)
  obtain ⟨ad, F', args, cs, R, hc, r, ⟨_, h⟩, q⟩ := h
  refine ⟨_, body cdv A outer s H E hr cs.length _ _ h, ad, F', Nat.le_of_eq hc.ln.symm, start_hold hc r, ?_, ?_, fun _ _ _ _ _ _ _ z => z.elim, fun _ _ _ _ _ _ _ z => z.elim, fun _ _ _ _ _ _ _ _ _ _ _ z => z.elim⟩
  · exact fun S' σ' H' ad' x hn h' hR => q _ _ .non H' ad' hR x hn h'.hc Rep.non
  · exact fun s2 cs2 v H' ad' x hn c2 r2 hR => q _ _ v H' ad' hR x hn c2 r2
theorem ExtS.ext {ad ad' : List Addr} {F : Addr → Prop} {H H' : Hp} {cs cs' : List Cell} (h : HoldC T K ad F H cs) (x : ExtS cs.length ad F H ad' H') (h' : HoldC T K ad' F H' cs') : Ext ad F H ad' H' := by
  have e : ad'.take ad.length = ad := by
    have := x.pre
    rw [← h.ln, List.take_length] at this
    exact this
  have e2 : ad' = ad ++ ad'.drop ad.length := by
    have := List.take_append_drop ad.length ad'
    rw [e] at this
    exact this.symm
  refine ⟨⟨ad'.drop ad.length, e2, fun a ha => ?_⟩, x.keep, x.frm⟩
  have nd := h'.nd
  rw [e2, List.nodup_append] at nd
  rcases x.sub a (List.mem_of_mem_drop ha) with z | z
  · exact absurd rfl (nd.2.2 a z a ha)
  · exact z
theorem callG_then {c : CtG} {ad : List Addr} {F : Addr → Prop} {H : Hp} {cs : List Cell} {vs : List V} {ss : List Sl} {R : RV} {Q : VK} {E : XK} (h : HoldC T K ad F H cs) (r : SlReps T K ad F H vs ss) (hw : c ss cs R)
    (q : ∀ s c' v H' ad', R s c' → Ext ad F H ad' H' → HoldC T K ad' F H' c' → SlRep T K ad' F H' v s → Q v H') : spG T K c vs H Q E :=
  ⟨ad, F, ss, cs, R, h, r, hw, fun s cs' v H' ad' hR x hn h' r' => q s cs' v H' ad' hR (ExtS.ext h x h') h' r'⟩
end
section
variable {X : Cx} {T : Tab} {W : WX} {n : Nat} {e : Expr} {es : List Expr} {pos p : Pos} {w : WpE} {wA : WpA} {c : CtG} {k : Nat} {f : Addr} {fd : FuncData} {ps : List Str} {y : Str}
def wRetG (w : WpE) : WS := fun S P => w S.sl S.cs (fun s c => P.rt s c) (fun x c => P.ex x ⟨S.sl, c⟩)
theorem js_retG (he : JE X T W e w) : JS X T W n (.Return (some e) pos) (wRetG w) := fun S P h =>
  weakS (ps_ret he) fun D σ H ⟨ad, F, hn, h0, q1, q2, q3, q4, q5⟩ => ⟨ad, F, S.sl, S.cs, _, _, h0, h, fun s c v H1 ad1 hR x1 h1 r1 => q2 s c v H1 ad1 (x1.s hn) (x1.le hn) h1.hc r1 hR, raz_of hn q5⟩
def wFnG (c : CtG) (wA : WpA) : WpE := fun sl cs R Rx => wA sl cs (fun ss c1 => c ss c1 R) Rx
theorem je_callHp (G : FnOk X.prog X.w X.K X.mg X.base CX0 k f fd ps (spG T X.K c)) (hr : Room k X.A) (hm : X.mg y = some (.ref f)) (hk : PySem.W.keepIn X.K (.ref f) = true) (hb : Binds X.K fd ps []) (ha : JA X T W (e :: es) wA) (hg : Gl X y := by rfl) (hdb : (y == ("__debug__" : Str)) = false := by decide)
    (he : starEach (e :: es) X.env = (false, eval e X.env) :: starEach es X.env := by rfl) (hpl : (backTo pos (starEach es X.env)).any (·.1) = false := by rfl) : JE X T W (.Call (.Name y p) (e :: es) [] pos) (wFnG c wA) :=
  weak (pe_call G hr hg hm hk hb .nil pass0 ha hdb he hpl) fun σ H Q ⟨ad, F, sl, cs, R, Rx, h0, hw, q, qx⟩ => ⟨ad, F, sl, cs, _, Rx, h0, hw, fun ss c1 vs H1 ad1 hw1 x1 h1 r1 => by
    show spG T X.K c (vs ++ []) H1 Q E0
    rw [List.append_nil]
    exact callG_then h1.hc r1 hw1 fun s c' v H' ad' hR x2 c2 r2 => q s c' v H' ad' hR (x1.trans h1.hc x2) (h1.to x2 c2) r2, qx⟩
def tgC (p : Addr) : Cell → Cell
  | .lst ds => .lstA p ds
  | .dct kvs => .dctA p kvs
  | .ins n fs => .insA p n fs
  | c => c
theorem CellAt.tg {K : PySem.W.Frag} {M : Addr → Prop} {H : Hp} {a : Addr} {c : Cell} (h : CellAt T K M H a c) : CellAt T K M H a (tgC a c) := by
  cases c with
  | lst ds => obtain ⟨vs, h⟩ := h; exact ⟨vs, h, rfl⟩
  | dct kvs => obtain ⟨vs, h⟩ := h; exact ⟨vs, h, rfl⟩
  | ins n fs => obtain ⟨C, fn, dx, vs, h⟩ := h; exact ⟨C, fn, dx, vs, h, rfl⟩
  | lstA _ _ => exact h
  | dctA _ _ => exact h
  | insA _ _ _ => exact h
  | dcn _ => exact h
theorem HoldC.tg {K : PySem.W.Frag} {ad : List Addr} {F : Addr → Prop} {H : Hp} {cs : List Cell} {j : Nat} {a : Addr} {c : Cell} (h : HoldC T K ad F H cs) (ha : ad[j]? = some a) (hc : cs[j]? = some c) : HoldC T K ad F H (cs.set j (tgC a c)) := ⟨h.nd, h.fr, h.al, h.tb, by rw [List.length_set]; exact h.ln, fun k b d h1 h2 => by
  by_cases e : j = k
  · subst e
    rw [ha] at h1
    cases h1
    rw [List.getElem?_set_self (List.getElem?_eq_some_iff.mp hc).1] at h2
    cases h2
    exact (h.ce j a c ha hc).tg
  · rw [List.getElem?_set_ne e] at h2
    exact h.ce k b d h1 h2⟩
def tagW (s : Sl) (cs : List Cell) (R : RV) : Prop := match s with
  | .cel j => match cs[j]? with
    | some c => ∀ p : Addr, R (.dat (.cls p)) (cs.set j (tgC p c))
    | none => False
  | .dat d => R (.dat d) cs
def wTag (w : WpE) : WpE := fun sl cs R Rx => w sl cs (fun s c => tagW s c R) Rx
theorem je_tag (h : JE X T W e w) : JE X T W e (wTag w) := weak h fun σ H Q ⟨ad, F, sl, cs, R, Rx, h0, hw, q, qx⟩ => ⟨ad, F, sl, cs, _, Rx, h0, hw, fun s c v H1 ad1 hR x1 h1 r1 => by
  unfold tagW at hR
  split at hR
  · split at hR
    · rename_i j c0 e0
      obtain ⟨a, ha, rfl⟩ := r1
      exact q _ _ (.ref a) H1 ad1 (hR a) x1 ⟨h1.hc.tg ha e0, h1.sz, h1.sl⟩ Rep.cls
    · exact hR.elim
  · exact q _ _ v H1 ad1 hR x1 h1 r1, qx⟩
end
end Dl
namespace Dl
open PySem L2
section
variable {T : Tab} {K : PySem.W.Frag} {ad : List Addr} {F : Addr → Prop} {H : Hp} {cs : List Cell} {j cn : Nat} {p C : Addr} {fn : List Str} {fs : List (Str × D)} {v : V} {s : Sl}
theorem HoldC.insA (h : HoldC T K ad F H cs) (hT : T cn = some (C, fn)) (hc : cs[j]? = some (.insA p cn fs)) : ∃ dx vs, ad[j]? = some p ∧ H p = some (.ins C dx ((fs.map (·.1)).zip vs)) ∧ vs.length = fs.length ∧ Reps T K (Mm ad F) H vs (fs.map (·.2)) := by
  have jl : j < ad.length := by rw [h.ln]; exact (List.getElem?_eq_some_iff.mp hc).1
  have e := List.getElem?_eq_getElem jl
  obtain ⟨C', fn', dx, vs, ⟨ht, e1, hl, r⟩, e2⟩ := h.ce j _ _ e hc
  rw [hT] at ht
  cases ht
  rw [← e2] at e e1
  exact ⟨dx, vs, e, e1, hl, r⟩
def putA (f : Str) (d : D) : List (Str × D) → List (Str × D)
  | [] => [(f, d)]
  | (g, x) :: r => if g = f then (g, d) :: r else (g, x) :: putA f d r
theorem putF_A {M : Addr → Prop} {f : Str} {d : D} {v : V} (rd : Rep T K M H v d) : ∀ {fs : List (Str × D)} {vs : List V}, vs.length = fs.length → Reps T K M H vs (fs.map (·.2)) →
    ∃ ws, putF f v ((fs.map (·.1)).zip vs) = ((putA f d fs).map (·.1)).zip ws ∧ ws.length = (putA f d fs).length ∧ Reps T K M H ws ((putA f d fs).map (·.2))
  | [], [], _, _ => ⟨[v], rfl, rfl, .cons rd .nil⟩
  | [], _ :: _, hl, _ => by simp at hl
  | _ :: _, [], hl, _ => by simp at hl
  | (g, x) :: fs, w :: vs, hl, .cons r rs => by
    have hl : vs.length = fs.length := by simpa using hl
    show ∃ ws, putF f v ((g, w) :: (fs.map (·.1)).zip vs) = _ ∧ _
    rw [putF.eq_def]
    unfold putA
    by_cases e : g = f
    · refine ⟨v :: vs, ?_, ?_, ?_⟩
      · show (if g = f then (g, v) :: (fs.map (·.1)).zip vs else _) = _
        rw [if_pos e, if_pos e]
        rfl
      · rw [if_pos e]
        simp [hl]
      · rw [if_pos e]
        exact .cons rd rs
    · obtain ⟨ws, e1, e2, e3⟩ := putF_A rd hl rs
      refine ⟨w :: ws, ?_, ?_, ?_⟩
      · show (if g = f then _ else (g, w) :: putF f v ((fs.map (·.1)).zip vs)) = _
        rw [if_neg e, if_neg e, e1]
        rfl
      · rw [if_neg e]
        simp [e2]
      · rw [if_neg e]
        exact .cons r e3
end
section
variable {X : Cx} {T : Tab} {W : WX} {n : Nat} {e o : Expr} {es : List Expr} {pos p p' apos : Pos} {w we wo : WpE} {wA : WpA} {c : CtG} {k cn : Nat} {f g C : Addr} {fd : FuncData} {ps fn : List Str} {y m fl : Str}
def refI (cn : Nat) (s : Sl) (cs : List Cell) (k : Addr → Nat → List (Str × D) → Prop) : Prop := ∃ p j fs, s = .dat (.cls p) ∧ cs[j]? = some (.insA p cn fs) ∧ k p j fs
def wFldA (cn : Nat) (m : Str) (w : WpE) : WpE := fun sl cs R Rx => w sl cs (fun s c => refI cn s c fun _ _ fs => ∃ d, fs.lookup m = some d ∧ R (.dat d) c) Rx
theorem je_fldA (hT : T cn = some (C, fn)) (hc : Cls X.K C) (hn : NoAttr X.K C m) (he : JE X T W e w) (hb : attributeBase e m X.env (eval e X.env) = eval e X.env := by rfl) : JE X T W (.Attribute e m pos) (wFldA cn m w) :=
  weak (pe_fld he hb) fun σ H Q ⟨ad, F, sl, cs, R, Rx, h0, hw, q, qx⟩ => ⟨ad, F, sl, cs, _, Rx, h0, hw, fun s c1 v H1 ad1 hw1 x1 h1 r1 => by
    obtain ⟨p, j, fs, rfl, e0, d, hd, hR⟩ := hw1
    have r1 : Rep T X.K (Mm ad1 F) H1 v (.cls p) := r1
    cases r1
    obtain ⟨dx, vs, _, e1, hl, rr⟩ := h1.hc.insA hT e0
    obtain ⟨w, g1, g2⟩ := look_zip hd rr
    exact ⟨p, C, dx, _, w, rfl, e1, hc, hn, g1, q _ c1 w H1 ad1 hR x1 h1 g2⟩, qx⟩
def wSetFA (cn : Nat) (fl : Str) (we wo : WpE) : WS := fun S P => we S.sl S.cs (fun d c1 => wo S.sl c1 (fun s c2 => ∃ dd, d = .dat dd ∧ refI cn s c2 fun p j fs => fs.length < 1000 ∧ P.nx ⟨S.sl, c2.set j (.insA p cn (putA fl dd fs))⟩) (fun x c => P.ex x ⟨S.sl, c⟩)) (fun x c => P.ex x ⟨S.sl, c⟩)
theorem js_fldA (hT : T cn = some (C, fn)) (hc : Cls X.K C) (hn : NoAttr X.K C fl) (he : JE X T W e we) (ho : JE X T W o wo) (hs : swapsWith e (some (.Attribute o fl p')) pos.line X.env = pure false := by rfl) : JS X T W n (.Assign [.Attribute o fl p'] e pos) (wSetFA cn fl we wo) := fun S P h =>
  weakS (ps_fld ho he hs) fun D σ H ⟨ad, F, hn', h0, q1, q2, q3, q4, q5⟩ => ⟨ad, F, S.sl, S.cs, _, _, h0, h, fun d c1 v H1 ad1 hR1 x1 h1 r1 => ⟨ad1, F, S.sl, c1, _, _, h1, hR1, fun s c2 w H2 ad2 hR2 x2 h2 r2 => by
    obtain ⟨dd, rfl, p, j, fs, rfl, e0, hl, hR⟩ := hR2
    have r2 : Rep T X.K (Mm ad2 F) H2 w (.cls p) := r2
    cases r2
    obtain ⟨dx, vs, ea, e1, lv, rv⟩ := h2.hc.insA hT e0
    have rd : Rep T X.K (Mm ad2 F) H2 v dd := SlRep.ext (s := .dat dd) x2 r1
    obtain ⟨ws, w1, w2, w3⟩ := putF_A (f := fl) rd lv rv
    have lz : ((fs.map (·.1)).zip vs).length < 1000 := by rw [List.length_zip, List.length_map]; omega
    refine ⟨p, C, dx, _, rfl, e1, hc, hn, lz, ?_⟩
    rw [w1]
    have kp : Kp (Mm ad2 F) H2 (Mm ad2 F) (upd H2 p (.ins C dx (((putA fl dd fs).map (·.1)).zip ws))) := fun b o e n => ⟨by rw [upd_ne (fun z => n (.inl (by rw [z]; exact List.mem_of_getElem? ea)))]; exact e, n⟩
    obtain ⟨c3, x3⟩ := h2.hc.setc (o := .ins C dx (((putA fl dd fs).map (·.1)).zip ws)) (c := .insA p cn (putA fl dd fs)) ea ⟨C, fn, dx, ws, ⟨hT, by rw [upd_same], w2, w3.kp kp⟩, rfl⟩
    have x : Ext ad F H ad2 _ := x1.trans h1.hc (x2.trans h2.hc x3)
    exact q1 _ _ _ ad2 (x.s hn') (x.le hn') (h2.to x3 c3) hR, (raz_of hn' q5).on x1 h1⟩, raz_of hn' q5⟩
theorem refI_of {K : PySem.W.Frag} {ad : List Addr} {F : Addr → Prop} {H : Hp} {cs : List Cell} {v : V} {s : Sl} (hT : T cn = some (C, fn)) (h : HoldC T K ad F H cs) (r : SlRep T K ad F H v s) (hw : refI cn s cs fun _ _ fs => fIdx (fs.map (·.1)) m = none) : ∃ a dx fs, v = .ref a ∧ H a = some (.ins C dx fs) ∧ fs.lookup m = none := by
  obtain ⟨p, j, fs, rfl, e0, hf⟩ := hw
  have r : Rep T K (Mm ad F) H v (.cls p) := r
  cases r
  obtain ⟨dx, vs, _, e1, hl, _⟩ := h.insA hT e0
  exact ⟨p, dx, _, rfl, e1, fIdx_none hf⟩
def wMethA0 (cn : Nat) (m : Str) (c : CtG) (wo : WpE) : WpE := fun sl cs R Rx => wo sl cs (fun s c1 => (refI cn s c1 fun _ _ fs => fIdx (fs.map (·.1)) m = none) ∧ c [s] c1 R) Rx
theorem je_methA0 {pl : Sem Bool} (hT : T cn = some (C, fn)) (hc : Cls X.K C) (hm : Meth X.K C m g) (G : FnOk X.prog X.w X.K X.mg X.base CX0 k g fd ps (spG T X.K c)) (hr : Room k X.A) (hb : Binds X.K fd ps [])
    (he : JE X T W o wo)
    (ht : eval (.Call (.Attribute o m apos) [] [] pos) X.env = (do
      let ov ← eval o X.env
      standAt apos.atName
      let (f, first) ← holding [ov] (getMethod ov m pl)
      callWith pos f first (backTo pos (starEach [] X.env)) (backToKw pos (keywordEach [] X.env))) := by rfl) : JE X T W (.Call (.Attribute o m apos) [] [] pos) (wMethA0 cn m c wo) :=
  weak (pe_meth0 (pl := pl) he hc hm G hr hb .nil pass0 ht) fun σ H Q ⟨ad, F, sl, cs, R, Rx, h0, hw, q, qx⟩ => ⟨ad, F, sl, cs, _, Rx, h0, hw, fun s c1 v H1 ad1 hw1 x1 h1 r1 => by
    obtain ⟨a, dx, fs, rfl, e1, e2⟩ := refI_of hT h1.hc r1 hw1.1
    refine ⟨a, dx, fs, rfl, e1, e2, ?_⟩
    exact callG_then (E := E0) (ss := [s]) h1.hc ⟨r1, trivial⟩ hw1.2 fun s' c' v H' ad' hR x3 k3 r3 => q s' c' v H' ad' hR (x1.trans h1.hc x3) (h1.to x3 k3) r3, qx⟩
end
end Dl
namespace Dl
open PySem L2
abbrev CtGX := List Sl → List Cell → RV → RX → Prop
def spGX (T : Tab) (K : PySem.W.Frag) (c : CtGX) : Sp := fun vs H Q E => ∃ ad F args cs R Rx, (HoldC T K ad F H cs ∧ SlReps T K ad F H vs args ∧ c args cs R Rx) ∧
  (∀ s cs' v H' ad', R s cs' → ExtS cs.length ad F H ad' H' → cs.length ≤ ad'.length → HoldC T K ad' F H' cs' → SlRep T K ad' F H' v s → Q v H') ∧
  ∀ x cs' cls d H' ad', Rx x cs' → ExtS cs.length ad F H ad' H' → cs.length ≤ ad'.length → HoldC T K ad' F H' cs' → ExRep T K (Mm ad' F) H' cls d x → E cls d H'
abbrev endGX (R : RV) (Rx : RX) : PJ := { nx := fun S => R (.dat .non) S.cs, rt := R, ex := fun x S => Rx x S.cs }
def cgxOf (N ps : List Str) (ws : Nat → WS) : CtGX := fun args cs R Rx => args.length = ps.length ∧ ws cs.length (st0 N args cs) (endGX R Rx)
section
variable {T : Tab} {P : Program} {w : World} {K : PySem.W.Frag} {mg : Str → Option Value} {base : Heap} {x qual : Str} {st : Stmt} {f : Addr} {fd : FuncData} {N ps : List Str} {k : Nat} {ws : Nat → WS}
theorem lenGX {c : Nat → WS} {vs : List V} {H : Hp} {Q : VK} {E : XK} (h : spGX T K (cgxOf N ps c) vs H Q E) : vs.length = ps.length := by
  obtain ⟨ad, F', args, cs, R, Rx, ⟨_, r, hc⟩, _⟩ := h
  rw [r.len, hc.1]
theorem fn_GX (F : Fun K x qual st f fd) (Sc : FnScope N ps (defScope st))
    (bodyX : ∀ cdv A outer sh H E, Room k (cxX P w K mg base N qual st f cdv A outer sh H E).A → Takes (cxX P w K mg base N qual st f cdv A outer sh H E) (fun cls d _ H => E cls d H) → ∀ n, JSs (cxX P w K mg base N qual st f cdv A outer sh H E) T (fun cls d _ H => E cls d H) n (defBody st) (ws n)) :
    FnOk P w K mg base (L2.CX P w) (k + 1) f fd ps (spGX T K (cgxOf N ps ws)) := by
  refine F.okX Sc (fun vs H Q E h => lenGX h) (fun cdv A outer s H vs Q E hr h => ?_)
  obtain ⟨ad, F', args, cs, R, Rx, ⟨hc, r, _, h⟩, q, qx⟩ := h
  have tk : Takes (cxX P w K mg base N qual st f cdv A outer s H E) (fun cls d _ H => E cls d H) := takes_of rfl rfl rfl rfl
  refine ⟨_, bodyX cdv A outer s H E hr tk cs.length _ _ h, ad, F', Nat.le_of_eq hc.ln.symm, start_hold hc r, ?_, ?_, fun _ _ _ _ _ _ _ z => z.elim, fun _ _ _ _ _ _ _ z => z.elim, ?_⟩
  · exact fun S' σ' H' ad' x hn h' hR => q _ _ .non H' ad' hR x hn h'.hc Rep.non
  · exact fun s2 cs2 v H' ad' x hn c2 r2 hR => q _ _ v H' ad' hR x hn c2 r2
  · exact fun y S' cls d σ' H' ad' x hn h' er hR => qx y _ cls d H' ad' hR x hn h'.hc er
theorem callGX_then {c : CtGX} {ad : List Addr} {F : Addr → Prop} {H : Hp} {cs : List Cell} {vs : List V} {ss : List Sl} {R : RV} {Rx : RX} {Q : VK} {E : XK} (h : HoldC T K ad F H cs) (r : SlReps T K ad F H vs ss) (hw : c ss cs R Rx)
    (q : ∀ s c' v H' ad', R s c' → Ext ad F H ad' H' → HoldC T K ad' F H' c' → SlRep T K ad' F H' v s → Q v H') (qx : ∀ x c' cls d H' ad', Rx x c' → Ext ad F H ad' H' → HoldC T K ad' F H' c' → ExRep T K (Mm ad' F) H' cls d x → E cls d H') : spGX T K c vs H Q E :=
  ⟨ad, F, ss, cs, R, Rx, ⟨h, r, hw⟩, fun s cs' v H' ad' hR x hn h' r' => q s cs' v H' ad' hR (ExtS.ext h x h') h' r', fun x cs' cls d H' ad' hR xe hn h' er => qx x cs' cls d H' ad' hR (ExtS.ext h xe h') h' er⟩
end
section
variable {X : Cx} {T : Tab} {W : WX} {n : Nat} {e o : Expr} {es : List Expr} {kws : List Keyword} {pos p apos : Pos} {w wo : WpE} {wA wK : WpA} {c : CtGX} {k cn pn : Nat} {f g C : Addr} {fd : FuncData} {ps ks fn : List Str} {y m : Str} {gV : List V → List V → List V} {fu : List D → List D → List D}
def makeAX (cn : Nat) (c : CtGX) (ds : List D) (cs : List Cell) (R : RV) (Rx : RX) : Prop := ∀ x : Addr, c (.dat (.cls x) :: ds.map Sl.dat) (cs ++ [.insA x cn []]) (fun s c1 => s = .dat .non ∧ R (.dat (.cls x)) c1) Rx
theorem mkAX_then {K : PySem.W.Frag} {ad : List Addr} {F : Addr → Prop} {H : Hp} {cs : List Cell} {ws : List V} {ds : List D} {R : RV} {Rx : RX} {Q : VK} {E : XK} {x dx : Addr} (hT : T cn = some (C, fn)) (h : HoldC T K ad F H cs) (r : Reps T K (Mm ad F) H ws ds) (hx : H x = none) (hdx : H dx = none) (ne : dx ≠ x) (hw : makeAX cn c ds cs R Rx)
    (q : ∀ s c' v H' ad', R s c' → Ext ad F H ad' H' → HoldC T K ad' F H' c' → SlRep T K ad' F H' v s → Q v H') (qx : ∀ x c' cls d H' ad', Rx x c' → Ext ad F H ad' H' → HoldC T K ad' F H' c' → ExRep T K (Mm ad' F) H' cls d x → E cls d H') : spGX T K c (.ref x :: ws) (upd (upd H dx (.own x)) x (.ins C dx [])) (fun v H2 => v = .non ∧ Q (.ref x) H2) E := by
  obtain ⟨h1, x1⟩ := h.newo (o := .own x) hdx
  have hx1 : upd H dx (.own x) x = none := by rw [upd_ne ne.symm]; exact hx
  obtain ⟨h2, x2⟩ := h1.cell (c := .insA x cn []) (o := .ins C dx []) hx1 ⟨C, fn, dx, [], ⟨hT, upd_same, rfl, .nil⟩, rfl⟩
  have x12 := x1.trans h1 x2
  refine callGX_then (ss := .dat (.cls x) :: ds.map Sl.dat) h2 ⟨Rep.cls, SlReps.of (r.kp x12.kp)⟩ (hw x) (fun s c' v H' ad' hR x3 h3 r3 => ?_) fun y c' cls d H' ad' hR x3 h3 er => qx y c' cls d H' ad' hR (x12.trans h2 x3) h3 er
  obtain ⟨rfl, hR⟩ := hR
  have r3 : Rep T K (Mm ad' F) H' v .non := r3
  cases r3
  exact ⟨rfl, q _ _ (.ref x) H' ad' hR (x12.trans h2 x3) h3 Rep.cls⟩
def wMakeAX (cn : Nat) (c : CtGX) (pn kn : Nat) (fu : List D → List D → List D) (wA wK : WpA) : WpE := fun sl cs R Rx => wA sl cs (fun ss c1 => wDats ss fun vs => wK sl c1 (fun zz c2 => wDats zz fun zs => vs.length = pn ∧ zs.length = kn ∧ makeAX cn c (fu vs zs) c2 R Rx) Rx) Rx
theorem je_makeAX (tk : Takes X W) (hT : T cn = some (C, fn)) (M : Mk X.K C g) (G : FnOk X.prog X.w X.K X.mg X.base (L2.CX X.prog X.w) k g fd ps (spGX T X.K c)) (hr : Room (k + 1) X.A) (hm : X.mg y = some (.ref C)) (hb : ∃ gg, KBn X.K fd ps (pn + 1) ks gg gV)
    (hp : ∀ vs zs : List D, vs.length = pn → zs.length = ks.length → Put X.K gV vs zs (fu vs zs))
    (ha : JA X T W (e :: es) wA) (hkw : JK X T W kws wK) (hg : Gl X y := by rfl)
    (hall : (backToKw pos (keywordEach kws X.env)).all (·.1.isSome) = true := by rfl) (hks : (backToKw pos (keywordEach kws X.env)).filterMap (·.1) = ks := by rfl) (hdb : (y == ("__debug__" : Str)) = false := by decide)
    (he : starEach (e :: es) X.env = (false, eval e X.env) :: starEach es X.env := by rfl) (hpl : ((backTo pos (starEach (e :: es) X.env)).any (·.1) || (backToKw pos (keywordEach kws X.env)).any (·.1.isNone)) = false := by rfl) :
    JE X T W (.Call (.Name y p) (e :: es) kws pos) (wMakeAX cn c pn ks.length fu wA wK) := by
  obtain ⟨gg, hb⟩ := hb
  exact weak (pe_mkS (E := WE W) M G hr hg hm hb (passAt tk) ha hkw hall hks hdb he hpl) fun σ H Q ⟨ad, F, sl, cs, R, Rx, h0, hw, q, qx⟩ => ⟨ad, F, sl, cs, _, Rx, h0, hw, fun ss c1 ws H1 ad1 hw1 x1 h1 r1 => by
    have hw1' := wDats_of hw1
    clear hw1
    obtain ⟨args, e0, hw1⟩ := hw1'
    subst e0
    refine ⟨ad1, F, sl, c1, _, Rx, h1, hw1, fun zz c2 zs H2 ad2 hw2 x2 h2 r2 => ?_, qx.on x1 h1⟩
    obtain ⟨kargs, rfl, l1, l2, hw2⟩ := wDats_of hw2
    have w1 := r1.dats
    have w2 := r2.dats
    refine ⟨by rw [w1.length]; exact l1, by rw [w2.length]; exact l2, fun a b ha hb ne => ?_⟩
    obtain ⟨us, e1, e2⟩ := hp args kargs l1 l2 (.ref a) ws zs w1.length w2.length
    rw [e1]
    have rr := e2 _ _ _ (w1.kp x2.kp) w2
    exact mkAX_then hT h2.hc rr ha hb ne hw2 (fun s c' v H' ad' hR x3 k3 r3 => q s c' v H' ad' hR (x1.trans h1.hc (x2.trans h2.hc x3)) (h2.to x3 k3) r3) fun x c' cls d H' ad' hR x3 k3 er => qx x c' cls d H' ad' hR (x1.trans h1.hc (x2.trans h2.hc x3)) (h2.to x3 k3) er, qx⟩
end
end Dl
namespace Dl
open PySem L2
def RP2 (T : Tab) (K : PySem.W.Frag) (r : R2) (s1 s2 : Sl) (cs : List Cell) (R : RV) : Prop :=
  ∀ ad F H v w (Q : VK), HoldC T K ad F H cs → SlRep T K ad F H v s1 → SlRep T K ad F H w s2 → (∀ s c z H' ad', R s c → Ext ad F H ad' H' → HoldC T K ad' F H' c → SlRep T K ad' F H' z s → Q z H') → r v w H Q
def RP1 (T : Tab) (K : PySem.W.Frag) (r : V → Hp → VK → Prop) (s1 : Sl) (cs : List Cell) (R : RV) : Prop :=
  ∀ ad F H v (Q : VK), HoldC T K ad F H cs → SlRep T K ad F H v s1 → (∀ s c z H' ad', R s c → Ext ad F H ad' H' → HoldC T K ad' F H' c → SlRep T K ad' F H' z s → Q z H') → r v H Q
def JBinP (X : Cx) (T : Tab) (op : Operator) (w : W2) : Prop := ∀ s1 s2 cs R, w s1 s2 cs R → ∃ r, OpR X (binaryOp op) r ∧ RP2 T X.K r s1 s2 cs R
def JCmpP (X : Cx) (T : Tab) (op : CmpOp) (w : W2) : Prop := ∀ s1 s2 cs R, w s1 s2 cs R → ∃ r, OpR X (compareOp op) r ∧ RP2 T X.K r s1 s2 cs R
def JUnP (X : Cx) (T : Tab) (op : UnaryOp) (w : W1) : Prop := ∀ s1 cs R, w s1 cs R → ∃ r, UnR X (unaryOp op) r ∧ RP1 T X.K r s1 cs R
section
variable {X : Cx} {T : Tab} {W : WX} {op : Operator} {cop : CmpOp} {uop : UnaryOp} {w v : W2} {a b : Expr} {pos : Pos} {wa wb : WpE}
theorem RP2.of {K : PySem.W.Frag} {r : R2} {s1 s2 s : Sl} {cs cs' : List Cell} {R : RV} (h : R2D T K r s1 s2 cs s cs') (hR : R s cs') : RP2 T K r s1 s2 cs R := fun ad F H v w Q c r1 r2 q => h ad F H v w Q c r1 r2 fun z H' ad' x k rz => q s cs' z H' ad' hR x k rz
theorem JBin.P (h : JBin X T op w) : JBinP X T op w := fun s1 s2 cs R hw => by
  obtain ⟨s, c, ⟨r, o1, o2⟩, hR⟩ := h _ _ _ _ hw
  exact ⟨r, o1, RP2.of o2 hR⟩
theorem JCmp.P (h : JCmp X T cop w) : JCmpP X T cop w := fun s1 s2 cs R hw => by
  obtain ⟨s, c, ⟨r, o1, o2⟩, hR⟩ := h _ _ _ _ hw
  exact ⟨r, o1, RP2.of o2 hR⟩
theorem JUn.P {w : W1} (h : JUn X T uop w) : JUnP X T uop w := fun s1 cs R hw => by
  obtain ⟨s, c, ⟨r, o1, o2⟩, hR⟩ := h _ _ _ hw
  exact ⟨r, o1, fun ad F H v Q k r1 q => o2 ad F H v Q k r1 fun z H' ad' x k rz => q s c z H' ad' hR x k rz⟩
def orW (v w : W2) : W2 := fun s1 s2 cs R => v s1 s2 cs R ∨ w s1 s2 cs R
theorem jc_or (h : JCmpP X T cop v) (g : JCmpP X T cop w) : JCmpP X T cop (orW v w) := fun s1 s2 cs R z => z.elim (h _ _ _ _) (g _ _ _ _)
theorem je_binP (ho : JBinP X T op w) (ha : JE X T W a wa) (hb : JE X T W b wb) : JE X T W (.BinOp a op b pos) (wTwo wa wb w) :=
  weak (pe_op opAll ha hb) fun σ H Q ⟨ad, F, sl, cs, R, Rx, h0, hw, q, qx⟩ => ⟨ad, F, sl, cs, _, Rx, h0, hw, fun s1 c1 v H1 ad1 hw1 x1 h1 r1 => ⟨ad1, F, sl, c1, _, Rx, h1, hw1, fun s2 c2 v2 H2 ad2 hw2 x2 h2 r2 => by
    obtain ⟨r, o1, o2⟩ := ho _ _ _ _ hw2
    exact ⟨r, o1, o2 ad2 F H2 v v2 Q h2.hc (r1.ext x2) r2 fun s c3 z H3 ad3 hR x3 k3 r3 => q s c3 z H3 ad3 hR (x1.trans h1.hc (x2.trans h2.hc x3)) (h2.to x3 k3) r3⟩, qx.on x1 h1⟩, qx⟩
theorem je_cmpP (ho : JCmpP X T cop w) (ha : JE X T W a wa) (hb : JE X T W b wb) (hm : behindInMarks cop b = false := by first | exact nomark _ | rfl) : JE X T W (.Compare a [cop] [b] pos) (wTwo wa wb w) :=
  weak (pe_cmpR opAll ha hb hm) fun σ H Q ⟨ad, F, sl, cs, R, Rx, h0, hw, q, qx⟩ => ⟨ad, F, sl, cs, _, Rx, h0, hw, fun s1 c1 v H1 ad1 hw1 x1 h1 r1 => ⟨ad1, F, sl, c1, _, Rx, h1, hw1, fun s2 c2 v2 H2 ad2 hw2 x2 h2 r2 => by
    obtain ⟨r, o1, o2⟩ := ho _ _ _ _ hw2
    exact ⟨r, o1, o2 ad2 F H2 v v2 Q h2.hc (r1.ext x2) r2 fun s c3 z H3 ad3 hR x3 k3 r3 => q s c3 z H3 ad3 hR (x1.trans h1.hc (x2.trans h2.hc x3)) (h2.to x3 k3) r3⟩, qx.on x1 h1⟩, qx⟩
theorem jt_cmpP (ho : JCmpP X T cop w) (ha : JE X T W a wa) (hb : JE X T W b wb) (hm : behindInMarks cop b = false := by first | exact nomark _ | rfl) : JT X T W (.Compare a [cop] [b] pos) (wBl (wTwo wa wb w)) :=
  weakT (pt_cmpR opAll ha hb hm) fun σ H Q ⟨ad, F, sl, cs, R, Rx, h0, hw, q, qx⟩ => ⟨ad, F, sl, cs, _, Rx, h0, hw, fun s1 c1 v H1 ad1 hw1 x1 h1 r1 => ⟨ad1, F, sl, c1, _, Rx, h1, hw1, fun s2 c2 v2 H2 ad2 hw2 x2 h2 r2 => by
    obtain ⟨r, o1, o2⟩ := ho _ _ _ _ hw2
    refine ⟨r, o1, o2 ad2 F H2 v v2 _ h2.hc (r1.ext x2) r2 fun s c3 z H3 ad3 hR x3 k3 r3 => ?_⟩
    obtain ⟨k, rfl, hR⟩ := isB_of hR
    cases r3
    exact ⟨k, rfl, q k c3 H3 ad3 hR (x1.trans h1.hc (x2.trans h2.hc x3)) (h2.to x3 k3)⟩, qx.on x1 h1⟩, qx⟩
end
section
variable {X : Cx} {T : Tab} {op : Operator} {cop : CmpOp} {cn k : Nat} {C g : Addr} {fn ps : List Str} {fd : FuncData} {c : CtG}
def isRf (cn : Nat) (s : Sl) (cs : List Cell) : Prop := refI cn s cs fun _ _ _ => True
theorem isRf_of {K : PySem.W.Frag} {ad : List Addr} {F : Addr → Prop} {H : Hp} {cs : List Cell} {v : V} {s : Sl} (hT : T cn = some (C, fn)) (h : HoldC T K ad F H cs) (r : SlRep T K ad F H v s) (hw : isRf cn s cs) : ∃ a dx fs, v = .ref a ∧ H a = some (.ins C dx fs) := by
  obtain ⟨p, j, fs, rfl, e0, _⟩ := hw
  have r : Rep T K (Mm ad F) H v (.cls p) := r
  cases r
  obtain ⟨dx, vs, _, e1, hl, _⟩ := h.insA hT e0
  exact ⟨p, dx, _, rfl, e1⟩
def ref2W (cn : Nat) (c : CtG) : W2 := fun s1 s2 cs R => isRf cn s1 cs ∧ isRf cn s2 cs ∧ c [s1, s2] cs R
theorem jc_ref2 (hT : T cn = some (C, fn)) (G : FnOk X.prog X.w X.K X.mg X.base CX0 k g fd ps (spG T X.K c)) (hr : Room k X.A) (hb : Binds X.K fd ps []) (hs : PySem.W.findIn X.K (.ref C) (cmpInfo cop).2.1 = some (some (.ref g))) (hf : PySem.W.isFn X.K (.ref g) = true) (ho : compareOp cop = richCompare cop := by rfl) : JCmpP X T cop (ref2W cn c) := fun s1 s2 cs R ⟨h1, h2, hc⟩ => by
  refine ⟨_, cop_own2 G hr hb hs hf ho, fun ad F H v w Q hh r1 r2 q => ?_⟩
  obtain ⟨a, dx, fs, rfl, e1⟩ := isRf_of hT hh r1 h1
  obtain ⟨b, dy, gs, rfl, e2⟩ := isRf_of hT hh r2 h2
  exact ⟨a, b, dx, dy, _, _, rfl, rfl, e1, e2, callG_then (ss := [s1, s2]) hh ⟨r1, r2, trivial⟩ hc fun s c' v H' ad' hR x2 c2 r2 => q s c' v H' ad' hR x2 c2 r2⟩
def refNeW (cn : Nat) (c : CtG) : W2 := fun s1 s2 cs R => isRf cn s1 cs ∧ isRf cn s2 cs ∧ c [s1, s2] cs fun s c' => isB s fun b => R (.dat (.bl (!b))) c'
theorem jc_refNe (hT : T cn = some (C, fn)) (N : NeC X.K C) (G : FnOk X.prog X.w X.K X.mg X.base CX0 k g fd ps (spG T X.K c)) (hr : Room (k + 1) X.A) (hb : Binds X.K fd ps []) (hs : PySem.W.findIn X.K (.ref C) "__eq__" = some (some (.ref g))) (hf : PySem.W.isFn X.K (.ref g) = true) : JCmpP X T .NotEq (refNeW cn c) := fun s1 s2 cs R ⟨h1, h2, hc⟩ => by
  refine ⟨_, cop_ownNe N G hr hb hs hf, fun ad F H v w Q hh r1 r2 q => ?_⟩
  obtain ⟨a, dx, fs, rfl, e1⟩ := isRf_of hT hh r1 h1
  obtain ⟨b, dy, gs, rfl, e2⟩ := isRf_of hT hh r2 h2
  refine ⟨a, b, dx, dy, _, _, rfl, rfl, e1, e2, callG_then (ss := [s1, s2]) hh ⟨r1, r2, trivial⟩ hc fun s c' v H' ad' hR x2 c2 r2 => ?_⟩
  obtain ⟨k, rfl, hR⟩ := isB_of hR
  have r3 : Rep T X.K (Mm ad' F) H' v (.bl k) := r2
  cases r3
  exact ⟨k, rfl, q _ c' _ H' ad' hR x2 c2 Rep.bl⟩
def refLenW (cn : Nat) (c : CtG) (w : WC) : WC := fun ss cs R => (∃ s n, ss = [s] ∧ isRf cn s cs ∧ (c [s] cs fun s' c' => s' = .dat (.int n) ∧ c' = cs) ∧ (0 ≤ n ∧ n < 2 ^ 63) ∧ R (.dat (.int n)) cs) ∨ w ss cs R
theorem jc_refLen {w : WC} (h : JCall X T "len" w) (hT : T cn = some (C, fn)) (G : FnOk X.prog X.w X.K X.mg X.base CX0 k g fd ps (spG T X.K c)) (hr : Room (k + 1) X.A) (hb : Binds X.K fd ps []) (hs : PySem.W.findIn X.K (.ref C) "__len__" = some (some (.ref g))) (hf : PySem.W.isFn X.K (.ref g) = true) : JCall X T "len" (refLenW cn c w) := ⟨h.bo, fun ss cs R hw => by
  rcases hw with ⟨s, n, rfl, h1, hc, hn, hR⟩ | hw
  · refine ⟨_, cs, ⟨_, _, PySem.boot_len, .inl ⟨_, rfl⟩, call_lenO G hr hb hs hf, fun ad F H vs Q hh r q => ?_⟩, hR⟩
    match vs, r with
    | [v], r =>
      obtain ⟨a, dx, fs, rfl, e1⟩ := isRf_of hT hh r.1 h1
      refine ⟨a, dx, fs, rfl, e1, callG_then hh r hc fun s' c' v H' ad' hR x2 c2 r2 => ?_⟩
      obtain ⟨rfl, rfl⟩ := hR
      have r3 : Rep T X.K (Mm ad' F) H' v (.int n) := r2
      cases r3
      exact ⟨n, rfl, hn, q _ H' ad' x2 c2 Rep.int⟩
  · exact h.run _ _ _ hw⟩
end
end Dl
namespace Dl
open PySem L2
section
variable {X : Cx} {T : Tab} {W : WX} {n : Nat} {a b e o ix : Expr} {pos p' : Pos} {wa wb we wo wx w : WpE} {C g : Addr} {fd : FuncData} {ps fn : List Str} {k cn : Nat} {c : CtG} {op : Operator} {x : Str}
def wSubA (cn : Nat) (c : CtG) (wa wb : WpE) : WpE := fun sl cs R Rx => wa sl cs (fun s c1 => wb sl c1 (fun s2 c2 => isRf cn s c2 ∧ c [s, s2] c2 R) Rx) Rx
def rSetO (C : Addr) (sp : Sp) : TSet := fun o i v H Q => ∃ a dx fs, o = .ref a ∧ H a = some (.ins C dx fs) ∧ sp [o, i, v] H (fun _ H' => Q H') E0
theorem set_own {sp : Sp} (G : FnOk X.prog X.w X.K X.mg X.base CX0 k g fd ps sp) (hr : Room k X.A) (hb : Binds X.K fd ps []) (hq : PySem.W.noSeq X.K C = true) (hs : PySem.W.findIn X.K (.ref C) "__setitem__" = some (some (.ref g))) (hf : PySem.W.isFn X.K (.ref g) = true) : PSet X (rSetO C sp) := by
  intro pins s σ H o i v ov iv u Q I ro ri rv h
  obtain ⟨a, dx, fs, rfl, ea, hsp⟩ := h
  cases (show ov = Value.ref a from ro)
  obtain ⟨od, J⟩ := inst_get I ea
  obtain ⟨m, hF⟩ := I.fr
  refine PySem.W.ksp_setItem hF I.ok.mod.kin J hq hs hf (thn (run_vals (us := [.ref a, iv, u]) (vs := [.ref a, i, v]) G hr hb I (.cons rfl (.cons ri (.cons rv .nil))) hsp) fun u' s' z => ?_)
  obtain ⟨y, H', I', _, q⟩ := z
  exact ⟨H', I', q⟩
def wSetA (cn : Nat) (c : CtG) (we wo wx : WpE) : WS := fun S P => we S.sl S.cs (fun d c1 => wo S.sl c1 (fun s c2 => wx S.sl c2 (fun i c3 => isRf cn s c3 ∧ c [s, i, d] c3 fun _ c4 => P.nx ⟨S.sl, c4⟩) (fun x c => P.ex x ⟨S.sl, c⟩)) (fun x c => P.ex x ⟨S.sl, c⟩)) (fun x c => P.ex x ⟨S.sl, c⟩)
theorem js_setA (hT : T cn = some (C, fn)) (G : FnOk X.prog X.w X.K X.mg X.base CX0 k g fd ps (spG T X.K c)) (hr : Room k X.A) (hb : Binds X.K fd ps []) (hq : PySem.W.noSeq X.K C = true) (hsi : PySem.W.findIn X.K (.ref C) "__setitem__" = some (some (.ref g))) (hf : PySem.W.isFn X.K (.ref g) = true)
    (he : JE X T W e we) (ho : JE X T W o wo) (hx : JE X T W ix wx)
    (ha : ∀ v, assign (.Subscript o ix p') X.env v = (do
      let ov ← holding [v] (eval o X.env)
      let iv ← holding [v, ov] (eval ix X.env)
      standAt p'
      holding [v, ov, iv] (setItem ov iv v)
      release [v, ov, iv] []) := by intro _; rfl)
    (hs : swapsWithSole [.Subscript o ix p'] e pos.line X.env = pure false := by rfl) (hw : swappedStores [.Subscript o ix p'] e X.env = pure none := by rfl)
    (h1 : (assignEach [.Subscript o ix p'] X.env).map (·.2) = [assign (.Subscript o ix p') X.env] := by rfl) : JS X T W n (.Assign [.Subscript o ix p'] e pos) (wSetA cn c we wo wx) := fun S P h =>
  weakS (ps_asg he (pg_sub ho hx (set_own G hr hb hq hsi hf) ha) hs hw h1) fun D σ H ⟨ad, F, hn, h0, q1, q2, q3, q4, q5⟩ => ⟨ad, F, S.sl, S.cs, _, _, h0, h, fun d c1 v H1 ad1 hR1 x1 h1 r1 => ⟨ad1, F, S.sl, c1, _, _, h1, hR1, fun s c2 w H2 ad2 hR2 x2 h2 r2 => ⟨ad2, F, S.sl, c2, _, _, h2, hR2, fun i c3 z H3 ad3 hR3 x3 h3 r3 => by
    obtain ⟨hi, hc⟩ := hR3
    obtain ⟨o, dx, fs, rfl, eo⟩ := isRf_of hT h3.hc (r2.ext x3) hi
    refine ⟨o, dx, fs, rfl, eo, callG_then (E := E0) (ss := [s, i, d]) h3.hc ⟨r2.ext x3, r3, (r1.ext x2).ext x3, trivial⟩ hc fun s' c' v' H' ad' hR x4 k4 r4 => ?_⟩
    have xx := x1.trans h1.hc (x2.trans h2.hc (x3.trans h3.hc x4))
    exact q1 _ _ H' ad' (xx.s hn) (xx.le hn) (h3.to x4 k4) hR, ((raz_of hn q5).on x1 h1).on x2 h2⟩, (raz_of hn q5).on x1 h1⟩, raz_of hn q5⟩
structure InpC (K : PySem.W.Frag) (C : Addr) (op : Operator) (g : Addr) : Prop where
  sf : PySem.W.selfFirst K C = true
  at_ : PySem.W.findIn K (.ref C) (dunderI op.info.2) = some (some (.ref g))
  fn : PySem.W.isFn K (.ref g) = true
def JIopP (X : Cx) (T : Tab) (op : Operator) (w : W2) : Prop := ∀ s1 s2 cs R, w s1 s2 cs R → ∃ r, OpR X (inplaceOp op) r ∧ RP2 T X.K r s1 s2 cs R
theorem JIop.P {w : W2} (h : JIop X T op w) : JIopP X T op w := fun s1 s2 cs R hw => by
  obtain ⟨s, c, ⟨r, o1, o2⟩, hR⟩ := h _ _ _ _ hw
  exact ⟨r, o1, RP2.of o2 hR⟩
def wSetLA (we wo wx : WpE) : WS := fun S P => we S.sl S.cs (fun d c1 => wo S.sl c1 (fun s c2 => wx S.sl c2 (fun i c3 => ∃ dd ii p j ds m, (d = .dat dd ∧ i = .dat (.int ii) ∧ s = .dat (.cls p)) ∧ c3[j]? = some (.lstA p ds) ∧ ixN ds.length ii = some m ∧ P.nx ⟨S.sl, c3.set j (.lstA p (ds.set m dd))⟩) (fun x c => P.ex x ⟨S.sl, c⟩)) (fun x c => P.ex x ⟨S.sl, c⟩)) (fun x c => P.ex x ⟨S.sl, c⟩)
theorem HoldC.lstA {K : PySem.W.Frag} {ad : List Addr} {F : Addr → Prop} {H : Hp} {cs : List Cell} {j : Nat} {p : Addr} {ds : List D} (h : HoldC T K ad F H cs) (hc : cs[j]? = some (.lstA p ds)) : ∃ vs, ad[j]? = some p ∧ H p = some (.lst vs) ∧ Reps T K (Mm ad F) H vs ds := by
  have jl : j < ad.length := by rw [h.ln]; exact (List.getElem?_eq_some_iff.mp hc).1
  have e := List.getElem?_eq_getElem jl
  obtain ⟨vs, ⟨e1, r⟩, e2⟩ := h.ce j _ _ e hc
  rw [← e2] at e e1
  exact ⟨vs, e, e1, r⟩
theorem js_setLA (he : JE X T W e we) (ho : JE X T W o wo) (hx : JE X T W ix wx)
    (ha : ∀ v, assign (.Subscript o ix p') X.env v = (do
      let ov ← holding [v] (eval o X.env)
      let iv ← holding [v, ov] (eval ix X.env)
      standAt p'
      holding [v, ov, iv] (setItem ov iv v)
      release [v, ov, iv] []) := by intro _; rfl)
    (hs : swapsWithSole [.Subscript o ix p'] e pos.line X.env = pure false := by rfl) (hw : swappedStores [.Subscript o ix p'] e X.env = pure none := by rfl)
    (h1 : (assignEach [.Subscript o ix p'] X.env).map (·.2) = [assign (.Subscript o ix p') X.env] := by rfl) : JS X T W n (.Assign [.Subscript o ix p'] e pos) (wSetLA we wo wx) := fun S P h =>
  weakS (ps_asg he (pg_sub ho hx set_list ha) hs hw h1) fun D σ H ⟨ad, F, hn, h0, q1, q2, q3, q4, q5⟩ => ⟨ad, F, S.sl, S.cs, _, _, h0, h, fun d c1 v H1 ad1 hR1 x1 h1 r1 => ⟨ad1, F, S.sl, c1, _, _, h1, hR1, fun s c2 w H2 ad2 hR2 x2 h2 r2 => ⟨ad2, F, S.sl, c2, _, _, h2, hR2, fun i c3 z H3 ad3 hR3 x3 h3 r3 => by
    obtain ⟨dd, ii, p, j, ds, m, ⟨rfl, rfl, rfl⟩, hk, hm, hR⟩ := hR3
    have r3 : Rep T X.K (Mm ad3 F) H3 z (.int ii) := r3
    cases r3
    have r2 : Rep T X.K (Mm ad2 F) H2 w (.cls p) := r2
    cases r2
    obtain ⟨vs, ea, e1, q0⟩ := h3.hc.lstA hk
    have rd : Rep T X.K (Mm ad3 F) H3 v dd := SlRep.ext (s := .dat dd) x3 (SlRep.ext (s := .dat dd) x2 r1)
    refine ⟨p, vs, ii, m, rfl, rfl, e1, by rw [q0.length]; exact hm, ?_⟩
    have kp : Kp (Mm ad3 F) H3 (Mm ad3 F) (upd H3 p (.lst (vs.set m v))) := fun b o e nn => ⟨by rw [upd_ne (fun z => nn (.inl (by rw [z]; exact List.mem_of_getElem? ea)))]; exact e, nn⟩
    obtain ⟨k4, x4⟩ := h3.hc.setc (o := .lst (vs.set m v)) (c := .lstA p (ds.set m dd)) ea ⟨_, ⟨upd_same, (q0.set rd m).kp kp⟩, rfl⟩
    have xx := x1.trans h1.hc (x2.trans h2.hc (x3.trans h3.hc x4))
    exact q1 _ _ _ ad3 (xx.s hn) (xx.le hn) (h3.to x4 k4) hR, ((raz_of hn q5).on x1 h1).on x2 h2⟩, (raz_of hn q5).on x1 h1⟩, raz_of hn q5⟩
end
end Dl
namespace Dl
open PySem L2
inductive DeSl (cs : List Cell) : Sls → Sls → Prop
  | nil : DeSl cs [] []
  | none {sl sl' : Sls} : DeSl cs sl sl' → DeSl cs (Option.none :: sl) (Option.none :: sl')
  | some {s s' : Sl} {sl sl' : Sls} : DeR cs s s' → DeSl cs sl sl' → DeSl cs (Option.some s :: sl) (Option.some s' :: sl')
theorem DeSl.len {cs : List Cell} {sl sl' : Sls} (h : DeSl cs sl sl') : sl'.length = sl.length := by
  induction h with
  | nil => rfl
  | none _ ih => simp [ih]
  | some _ _ ih => simp [ih]
theorem DeSl.at {cs : List Cell} {sl sl' : Sls} (h : DeSl cs sl sl') : ∀ {i : Nat} {s' : Sl}, sl'[i]? = Option.some (Option.some s') → ∃ s, sl[i]? = Option.some (Option.some s) ∧ DeR cs s s' := by
  induction h with
  | nil => intro i s' e; simp at e
  | none _ ih => intro i s' e; cases i with
    | zero => simp at e
    | succ i => simpa using ih (i := i) (s' := s') (by simpa using e)
  | some r _ ih => intro i s' e; cases i with
    | zero => simp at e; subst e; exact ⟨_, rfl, r⟩
    | succ i => simpa using ih (i := i) (s' := s') (by simpa using e)
section
variable {X : Cx} {T : Tab} {W : WX} {e : Expr} {w : WpE}
def liSl (s1 : Sl) (l u : Option Int) (cs : List Cell) (R : RV) : Prop := ∃ s1', DeR cs s1 s1' ∧ slcSW s1' l u (cs.map vwC) fun s c => R s (rew cs c)
def wSlcA (wa : WpE) (wl wu : WpO) : WpE := fun sl cs R Rx => wa sl cs (fun s1 c1 => wl sl c1 (fun l c2 => wu sl c2 (fun u c3 => liSl s1 l u c3 R) Rx) Rx) Rx
def isiAW (tb : String → Option Bool) (ob : Nat → Option Bool) (s : Sl) (cs : List Cell) (k : Bool → Prop) : Prop := (∃ (p : Addr) (j n : Nat) (fs : List (Str × D)), s = .dat (.cls p) ∧ cs[j]? = some (Cell.insA p n fs) ∧ optW (ob n) k) ∨ isiW tb ob s k
end
end Dl
namespace Dl
open PySem L2
section
variable {T : Tab} {P : Program} {w : World} {K : PySem.W.Frag} {mg : Str → Option Value} {base : Heap} {x qual : Str} {st : Stmt} {f : Addr} {fd : FuncData} {N ps : List Str} {k : Nat} {ws : Nat → WS}
theorem fn_HG (F : Fun K x qual st f fd) (Sc : FnScope N ps (defScope st))
    (body : ∀ cdv A outer sh H E, A.guards = some [] → Room k (cx0 P w K mg base N qual st f cdv A outer sh H E).A → ∀ n, JSs (cx0 P w K mg base N qual st f cdv A outer sh H E) T W0 n (defBody st) (ws n)) : FnG P w K mg base CX0 (k + 1) f fd ps (spG T K (cgOf N ps ws)) := by
  obtain ⟨oc, od, kV, doc, pm, an, cdv, ct, osl, rfl, l1, l2⟩ := F.ex
  refine fn_g l1 l2 Sc (fun h => lenG h) fun A fs s H vs Q E g hr h => ?_
  obtain ⟨ad, F', args, cs, R, hc, r, ⟨_, h⟩, q⟩ := h
  refine ⟨_, PSs.nox (body cdv A fs s H E g hr cs.length _ _ h), ad, F', Nat.le_of_eq hc.ln.symm, start_hold hc r, ?_, ?_, fun _ _ _ _ _ _ _ z => z.elim, fun _ _ _ _ _ _ _ z => z.elim, fun _ _ _ _ _ _ _ _ _ _ _ z => z.elim⟩
  · exact fun S' σ' H' ad' x hn h' hR => q _ _ .non H' ad' hR x hn h'.hc Rep.non
  · exact fun s2 cs2 v H' ad' x hn c2 r2 hR => q _ _ v H' ad' hR x hn c2 r2
end
section
variable {X : Cx} {T : Tab} {W : WX} {e : Expr} {es : List Expr} {pos p : Pos} {wA : WpA} {c : CtG} {k cn : Nat} {f g C : Addr} {fd : FuncData} {ps fn : List Str} {y : Str}
theorem je_callHG (G : FnG X.prog X.w X.K X.mg X.base CX0 k f fd ps (spG T X.K c)) (hG : X.A.guards = some []) (hr : Room k X.A) (hm : X.mg y = some (.ref f)) (hk : PySem.W.keepIn X.K (.ref f) = true) (hb : Binds X.K fd ps []) (ha : JA X T W (e :: es) wA) (hg : Gl X y := by rfl) (hdb : (y == ("__debug__" : Str)) = false := by decide)
    (he : starEach (e :: es) X.env = (false, eval e X.env) :: starEach es X.env := by rfl) (hpl : (backTo pos (starEach es X.env)).any (·.1) = false := by rfl) : JE X T W (.Call (.Name y p) (e :: es) [] pos) (wFnG c wA) :=
  weak (pe_callG (E := E0) G hG hr hg hm hk hb pass0 ha hdb he hpl) fun σ H Q ⟨ad, F, sl, cs, R, Rx, h0, hw, q, qx⟩ => ⟨ad, F, sl, cs, _, Rx, h0, hw, fun ss c1 vs H1 ad1 hw1 x1 h1 r1 =>
    callG_then h1.hc r1 hw1 fun s c2 v H2 ad2 hR x2 h2 r2 => q s c2 v H2 ad2 hR (x1.trans h1.hc x2) (h1.to x2 h2) r2, qx⟩
def reprLW : WC := fun ss cs R => match ss with
  | [s] => match lstOf cs s with
    | some ds => okR (.lst ds) = true ∧ (rprD (.lst ds)).length ≤ sizeLine ∧ R (.dat (.str (rprD (.lst ds)))) cs
    | none => reprW3 [s] cs R
  | _ => False
theorem jc_reprL (hG : X.A.guards = some []) (hu : X.A.units + 64 < cLine) : JCall X T "repr" reprLW := ⟨⟨.builtin "repr", by decide +kernel, .inl ⟨_, rfl⟩⟩, fun ss cs R h => by
  unfold reprLW at h
  split at h
  · rename_i s
    split at h
    · rename_i ds hl
      obtain ⟨ho, hn, hR⟩ := h
      have hl := lstOf_is hl
      refine ⟨_, cs, ⟨_, _, by decide +kernel, .inl ⟨_, rfl⟩, call_reprD hG hu, fun ad F H vs Q c r q => ?_⟩, hR⟩
      match vs, r with
      | [v], r =>
        unfold okR at ho
        simp only [Bool.and_eq_true, Bool.not_eq_true', decide_eq_true_eq] at ho
        obtain ⟨a, ws, rfl, e1, rs⟩ := rd_lst hl c r.1
        exact ⟨.ref a, (D.lst ds).py, rfl, .lst (SqL.of e1) (rs.dp ho.1.1.1), rfl, ho.1.1.2, ho.1.2, ho.2, hn, q _ H ad .refl c Rep.str⟩
    · exact (jc_repr3 hG hu).run _ _ _ h
  · exact h.elim⟩
def refDW (cn : Nat) (c : CtG) : W2 := fun s1 s2 cs R => isRf cn s1 cs ∧ isOth s2 = true ∧ c [s1, s2] cs R
theorem jc_refD (hT : T cn = some (C, fn)) (O : OthC X.K C) (G : FnOk X.prog X.w X.K X.mg X.base CX0 k g fd ps (spG T X.K c)) (hr : Room k X.A) (hb : Binds X.K fd ps []) (hs : PySem.W.findIn X.K (.ref C) "__eq__" = some (some (.ref g))) (hf : PySem.W.isFn X.K (.ref g) = true) : JCmpP X T .Eq (refDW cn c) := fun s1 s2 cs R ⟨h1, h2, hc⟩ => by
  obtain ⟨d, t, rfl, ht⟩ := isOth_of h2
  refine ⟨_, cop_ownEqD O G hr hb hs hf, fun ad F H v w Q hh r1 r2 q => ?_⟩
  obtain ⟨a, dx, fs, rfl, e1⟩ := isRf_of hT hh r1 h1
  exact ⟨a, dx, _, t, rfl, e1, tyx_of r2 ht, O.of ht, callG_then (ss := [s1, .dat d]) hh ⟨r1, r2, trivial⟩ hc fun s c' v H' ad' hR x2 c2 r2 => q s c' v H' ad' hR x2 c2 r2⟩
def refNeDW (cn : Nat) (c : CtG) : W2 := fun s1 s2 cs R => isRf cn s1 cs ∧ isOth s2 = true ∧ c [s1, s2] cs fun s c' => isB s fun b => R (.dat (.bl (!b))) c'
theorem jc_refNeD (hT : T cn = some (C, fn)) (N : NeC X.K C) (O : OthC X.K C) (G : FnOk X.prog X.w X.K X.mg X.base CX0 k g fd ps (spG T X.K c)) (hr : Room (k + 1) X.A) (hb : Binds X.K fd ps []) (hs : PySem.W.findIn X.K (.ref C) "__eq__" = some (some (.ref g))) (hf : PySem.W.isFn X.K (.ref g) = true) : JCmpP X T .NotEq (refNeDW cn c) := fun s1 s2 cs R ⟨h1, h2, hc⟩ => by
  obtain ⟨d, t, rfl, ht⟩ := isOth_of h2
  refine ⟨_, cop_ownNeD N G hr hb hs hf, fun ad F H v w Q hh r1 r2 q => ?_⟩
  obtain ⟨a, dx, fs, rfl, e1⟩ := isRf_of hT hh r1 h1
  refine ⟨a, dx, _, t, rfl, e1, tyx_of r2 ht, O.of ht, callG_then (ss := [s1, .dat d]) hh ⟨r1, r2, trivial⟩ hc fun s c' v H' ad' hR x2 c2 r2 => ?_⟩
  obtain ⟨b, rfl, hR⟩ := isB_of hR
  have r3 : Rep T X.K (Mm ad' F) H' v (.bl b) := r2
  cases r3
  exact ⟨b, rfl, q _ c' _ H' ad' hR x2 c2 Rep.bl⟩
end
end Dl
namespace Dl
open PySem L2
def ctH (c : CtG) : Ct := fun args cs s cs' => (∃ d, s = .dat d) ∧ c args cs fun s0 c0 => s0 = s ∧ c0.take cs.length = cs'
section
variable {T : Tab} {P : Program} {w : World} {K : PySem.W.Frag} {mg : Str → Option Value} {base : Heap} {f : Addr} {fd : FuncData} {ps : List Str} {k : Nat} {c : CtG}
theorem spG_of {vs : List V} {H : Hp} {Q : VK} {E : XK} (h : spC T K (ctH c) vs H Q E) : spG T K c vs H Q E := by
  obtain ⟨ad, F, args, cs, s, cs', hc, r, ⟨⟨d, rfl⟩, hw⟩, q⟩ := h
  refine ⟨ad, F, args, cs, _, hc, r, hw, fun s0 c0 v H' ad' hR x hn h' r' => ?_⟩
  obtain ⟨rfl, rfl⟩ := hR
  have kp : Kp (Mm ad' F) H' (Mm (ad'.take cs.length) F) H' := fun a o e z => ⟨e, fun y => z (y.imp List.mem_of_mem_take id)⟩
  exact q v H' (ad'.take cs.length) (ext_take x) (by rw [List.length_take]; omega) (h'.take _) (Rep.kp kp r')
theorem FnG.toC (F : FnG P w K mg base CX0 k f fd ps (spG T K c)) : FnG P w K mg base CX0 k f fd ps (spC T K (ctH c)) := F.to fun _ _ _ _ h => spG_of h
theorem FnOk.toC (F : FnOk P w K mg base CX0 k f fd ps (spG T K c)) : FnOk P w K mg base CX0 k f fd ps (spC T K (ctH c)) := ⟨fun _ _ _ _ h => F.len _ _ _ _ (spG_of h), fun _ _ _ _ _ _ _ _ _ hr e b v h => F.run _ _ _ _ _ _ _ _ _ hr e b v (spG_of h)⟩
end
section
variable {X : Cx} {T : Tab} {W : WX} {n : Nat} {pos p : Pos}
end
end Dl
namespace Dl
open PySem L2 PyProof.Rows
def pickN (n : Nat) (lo hi st : Option Int) : List Nat := sliceRange (sliceBounds lo hi st n).1 (sliceBounds lo hi st n).2.1 (sliceBounds lo hi st n).2.2
def pickL {α : Type} (ns : List Nat) (xs : List α) : List α := ns.filterMap fun i => xs[i]?
section
variable {X : Cx} {e : Expr} {te : TE} {lo hi st : Option Expr} {tl th ts : TO} {p2 pos : Pos}
end
section
variable {X : Cx} {T : Tab} {W : WX} {e : Expr} {wa : WpE} {lo hi st : Option Expr} {wl wu ws : WpO} {p2 pos : Pos}
end
end Dl
namespace Dl
open PySem L2
section
variable {X : Cx} {T : Tab} {cn cm k : Nat} {C C2 g : Addr} {fn fm ps : List Str} {fd : FuncData} {c : CtG}
end
end Dl
namespace Dl
open PySem L2
section
variable {X : Cx} {T : Tab}
end
end Dl
namespace Dl
open PySem L2
def eqK (k1 k2 : List (Key × D)) : Bool := k1.length == k2.length && k1.all fun p => match getK k2 p.1 with
  | some e => eqD p.2 e
  | none => false
def okKs (kds : List (Key × D)) : Bool := kds.all fun p => okD p.2
section
variable {X : Cx} {T : Tab} {M : Addr → Prop} {H : Hp} {pins : List (Addr × Obj)} {σ : L2.St} {s : Shared} {A : Around}
theorem rep_eqAt {x y : V} {u v : Value} {d e : D} (I : Inv X pins σ H s) (r1 : Rep T X.K M H x d) (r2 : Rep T X.K M H y e) (h1 : RelV x u) (h2 : RelV y v) (o1 : okD d = true) (o2 : okD e = true) (hu : A.in1.units + 64 < cLine) : SeqAt.EqAt A.in1 s u v (eqD d e) := by
  have a1 := Bool.and_eq_true_iff.mp o1
  have a2 := Bool.and_eq_true_iff.mp o2
  obtain ⟨as, q1⟩ := Dp.reads I _ x u (Rep.dp r1 a1.1) h1
  obtain ⟨bs, q2⟩ := Dp.reads I _ y v (Rep.dp r2 a2.1) h2
  exact PySem.W.keq_at q1 q2 a1.2 a2.2 hu
theorem okKs_get {kds : List (Key × D)} {k : Key} {d : D} (h : okKs kds = true) (e : getK kds k = some d) : okD d = true := by
  unfold getK at e
  obtain ⟨p, hp, rfl⟩ := Option.map_eq_some_iff.mp e
  exact List.all_eq_true.mp h p (List.mem_of_find?_eq_some hp)
theorem keqHits {kvs2 : List (Key × V)} {vs2 : List (Key × Value)} {kds2 : List (Key × D)} (I : Inv X pins σ H s) (q2 : KV kvs2 vs2) (r2 : KR T X.K M H kvs2 kds2) (o2 : okKs kds2 = true) (hu : A.in1.units + 64 < cLine) :
    ∀ {kvs1 : List (Key × V)} {vs1 : List (Key × Value)} {kds1 : List (Key × D)}, KV kvs1 vs1 → KR T X.K M H kvs1 kds1 → okKs kds1 = true →
    PySem.W.KeqHits A.in1 s vs2 vs1 (kds1.all fun p => match getK kds2 p.1 with
      | some e => eqD p.2 e
      | none => false)
  | [], vs1, kds1, q1, r1, _ => by
    cases q1
    cases r1.inv0
    exact .nil
  | p :: kvs1, vs1, kds1, q1, r1, o1 => by
    cases q1 with
    | @cons _ q _ vs1 h hs =>
      obtain ⟨d, r, rfl, a, b⟩ := r1.inv
      have o1' : okD d = true ∧ okKs r = true := by
        have := List.all_eq_true.mp o1
        exact ⟨this _ List.mem_cons_self, List.all_eq_true.mpr fun x hx => this x (List.mem_cons_of_mem _ hx)⟩
      obtain ⟨k, u⟩ := q
      obtain ⟨e1, e2⟩ := h
      have e1 : p.1 = k := e1
      have e2 : RelV p.2 u := e2
      subst e1
      have hv := q2.val p.1
      have hr := r2.val (k := p.1)
      cases hg : getK kds2 p.1 with
      | none =>
        rw [hr.1 hg] at hv
        have : PySem.valueAt vs2 p.1 = none := by
          cases e : PySem.valueAt vs2 p.1 with
          | none => rfl
          | some y => rw [e] at hv; exact nomatch hv
        rw [List.all_cons]
        dsimp only
        rw [hg, Bool.false_and]
        exact .miss this
      | some e =>
        obtain ⟨y, ey, ry⟩ := hr.2 e hg
        rw [ey] at hv
        cases ez : PySem.valueAt vs2 p.1 with
        | none => rw [ez] at hv; exact nomatch hv
        | some z =>
          rw [ez] at hv
          rw [List.all_cons]
          dsimp only
          rw [hg]
          exact .hit ez (rep_eqAt I a ry e2 hv o1'.1 (okKs_get o2 hg) hu) (keqHits I q2 r2 o2 hu hs b o1'.2)
end
theorem room_100 {k : Nat} {A : Around} (r : Room k A) : A.units + 100 < cLine := by have := r.un; omega
def rEqK (T : Tab) (K : PySem.W.Frag) (neg : Bool) : R2 := fun x y H Q => ∃ (M : Addr → Prop) (a b : Addr) (kvs1 kvs2 : List (Key × V)) (k1 k2 : List (Key × D)), x = .ref a ∧ y = .ref b ∧ (Rd H a (.dK kvs1) ∧ Rd H b (.dK kvs2)) ∧ (KR T K M H kvs1 k1 ∧ KR T K M H kvs2 k2) ∧ (okKs k1 = true ∧ okKs k2 = true) ∧ Q (.bl (neg.xor (eqK k1 k2))) H
section
variable {X : Cx} {T : Tab}
theorem op_eqK (hu : X.A.units + 100 < cLine) : OpR X (compareOp .Eq) (rEqK T X.K false) := by
  intro pins s σ H x y v u Q I rx ry h
  obtain ⟨M, a, b, kvs1, kvs2, k1, k2, rfl, rfl, ⟨e1, e2⟩, ⟨r1, r2⟩, ⟨o1, o2⟩, q⟩ := h
  obtain rfl : v = Value.ref a := rx
  obtain rfl : u = Value.ref b := ry
  obtain ⟨_, y1, vs1, w1, d1⟩ := dk_rd I.hok e1
  obtain ⟨_, y2, vs2, w2, d2⟩ := dk_rd I.hok e2
  refine PySem.W.keq_eq (knd := mixKind X.prog X.w) y1 y2 d1 d2 (by omega) (fun _ => keqHits I w2 r2 o2 (by show X.A.units + 1 + 64 < cLine; omega) w1 r1 o1) (fin_bl I q ?_)
  rw [← w1.length, ← w2.length, r1.len, r2.len, Bool.false_xor]
  rfl
theorem op_neK (hu : X.A.units + 100 < cLine) : OpR X (compareOp .NotEq) (rEqK T X.K true) := by
  intro pins s σ H x y v u Q I rx ry h
  obtain ⟨M, a, b, kvs1, kvs2, k1, k2, rfl, rfl, ⟨e1, e2⟩, ⟨r1, r2⟩, ⟨o1, o2⟩, q⟩ := h
  obtain rfl : v = Value.ref a := rx
  obtain rfl : u = Value.ref b := ry
  obtain ⟨_, y1, vs1, w1, d1⟩ := dk_rd I.hok e1
  obtain ⟨_, y2, vs2, w2, d2⟩ := dk_rd I.hok e2
  refine PySem.W.keq_ne (knd := mixKind X.prog X.w) y1 y2 d1 d2 (by omega) (fun _ => keqHits I w2 r2 o2 (by show X.A.units + 1 + 64 < cLine; omega) w1 r1 o1) (fin_bl I q ?_)
  rw [← w1.length, ← w2.length, r1.len, r2.len, Bool.true_xor]
  rfl
def eqKW (neg : Bool) : W2 := fun s1 s2 cs R => wD cs s1 fun k1 => wD cs s2 fun k2 => (okKs k1 = true ∧ okKs k2 = true) ∧ R (.dat (.bl (neg.xor (eqK k1 k2)))) cs
theorem jc_eqK (neg : Bool) (hu : X.A.units + 100 < cLine) : JCmp X T (if neg then .NotEq else .Eq) (eqKW neg) := fun s1 s2 cs R h => by
  obtain ⟨k1, h1, h⟩ := wD_of h
  obtain ⟨k2, h2, ⟨o1, o2⟩, hR⟩ := wD_of h
  have key : ∀ ad F H v w (Q : VK), HoldC T X.K ad F H cs → SlRep T X.K ad F H v s1 → SlRep T X.K ad F H w s2 → Q (.bl (neg.xor (eqK k1 k2))) H → rEqK T X.K neg v w H Q := fun ad F H v w Q c r1 r2 q => by
    obtain ⟨a, kvs1, rfl, e1, q1⟩ := rd_dct h1 c r1
    obtain ⟨b, kvs2, rfl, e2, q2⟩ := rd_dct h2 c r2
    exact ⟨_, a, b, kvs1, kvs2, k1, k2, rfl, rfl, ⟨e1, e2⟩, ⟨q1, q2⟩, ⟨o1, o2⟩, q⟩
  refine ⟨.dat (.bl (neg.xor (eqK k1 k2))), cs, ⟨rEqK T X.K neg, ?_, fun ad F H v w Q c r1 r2 q => key ad F H v w Q c r1 r2 (q _ H ad .refl c Rep.bl)⟩, hR⟩
  cases neg with
  | true => exact op_neK hu
  | false => exact op_eqK hu
end
end Dl
namespace Dl
open PySem L2
def wDcC (wi : WpI) (p : Pat) (wt : WpT) (wk wv : WpE) (own : List Nat) : WpE := fun sl cs R Rx => wi sl cs (fun items c => items.length < sizeLine ∧ dcW p wt wk wv (wipeS sl own) items [] c fun acc c' => R (.cel c'.length) (c' ++ [.dct acc])) Rx
mutual
def noD : D → Bool
  | .dct _ _ => false
  | .tup xs => noDs xs
  | .lst xs => noDs xs
  | .scr xs => noDs xs
  | .obj _ xs => noDs xs
  | .err _ _ _ xs => noDs xs
  | .dcn ks xs => noDs ks && noDs xs
  | _ => true
def noDs : List D → Bool
  | [] => true
  | x :: xs => noD x && noDs xs
end
def noDc (kds : List (Key × D)) : Bool := noDs (kds.map (·.2))
section
variable {T : Tab} {K : PySem.W.Frag} {M M' : Addr → Prop} {H : Hp} {a : Addr} {od : Obj} {kvs : List (Key × V)} {u : HO}
mutual
/-- a dict that is locked no more -/
theorem Rep.unlk (hM : ∀ b, M' b → M b ∨ b = a) (ha : H a = some (.frz od (.dK kvs))) {v : V} {d : D} (h : Rep T K M H v d) (hd : noD d = true) : Rep T K M' (upd H a (.dK kvs)) v d :=
  match h with
  | .non => .non
  | .bl => .bl
  | .int => .int
  | .str => .str
  | .tup (a := b) h1 h2 => .tup (by
      rcases h1 with ⟨n, h1⟩ | h1
      · have ne : b ≠ a := fun e => by
          subst e
          rcases h1 with h1 | ⟨o, h1⟩ <;> rw [ha] at h1 <;> cases h1
        refine .inl ⟨fun z => (hM _ z).elim n ne, ?_⟩
        rcases h1 with h1 | ⟨o, h1⟩
        · exact .inl (by rw [upd_ne ne]; exact h1)
        · exact .inr ⟨o, by rw [upd_ne ne]; exact h1⟩
      · exact .inr h1) (Reps.unlk hM ha h2 hd)
  | .lst (a := b) n h1 h2 => by
      have ne : b ≠ a := fun e => by subst e; rw [ha] at h1; cases h1
      exact .lst (fun z => (hM _ z).elim n ne) (by rw [upd_ne ne]; exact h1) (Reps.unlk hM ha h2 hd)
  | .scr (a := b) h1 h2 => .scr (by
      rcases h1 with ⟨n, o, h1⟩ | h1
      · have ne : b ≠ a := fun e => by subst e; rw [ha] at h1; cases h1
        exact .inl ⟨fun z => (hM _ z).elim n ne, o, by rw [upd_ne ne]; exact h1⟩
      · exact .inr h1) (Reps.unlk hM ha h2 hd)
  | .obj (a := b) ht hm h1 hl h2 => by
      have ne : b ≠ a := fun e => by subst e; rw [ha] at h1; cases h1
      exact .obj ht (fun z => (hM _ z).elim hm ne) (by rw [upd_ne ne]; exact h1) hl (Reps.unlk hM ha h2 hd)
  | .err ht h1 h2 => .err ht (by
      rcases h1 with h1 | ⟨d, e, n, h1, h2⟩
      · exact .inl h1
      · have ne : d ≠ a := fun e => by subst e; rw [ha] at h1; cases h1
        exact .inr ⟨d, e, fun z => (hM _ z).elim n ne, by rw [upd_ne ne]; exact h1, h2⟩) (Reps.unlk hM ha h2 hd)
  | .cls => .cls
  | .dct _ _ _ _ => nomatch hd
  | .fn (f := f) (c := c) n m h1 h2 => by
      have n1 : f ≠ a := fun e => by subst e; rw [ha] at h1; cases h1
      have n2 : c ≠ a := fun e => by subst e; rw [ha] at h2; cases h2
      exact .fn (fun z => (hM _ z).elim n n1) (fun z => (hM _ z).elim m n2) (by rw [upd_ne n1]; exact h1) (by rw [upd_ne n2]; exact h2)
  | .dcn (a := b) n h1 h2 h3 h4 h5 h6 h7 h8 => by
      have ne : b ≠ a := fun e => by subst e; rw [ha] at h1; cases h1
      exact .dcn (fun z => (hM _ z).elim n ne) (by rw [upd_ne ne]; exact h1) h2 h3 h4 (Reps.unlk hM ha h5 (Bool.and_eq_true_iff.mp hd).1) h6 h7 (Reps.unlk hM ha h8 (Bool.and_eq_true_iff.mp hd).2)
theorem Reps.unlk (hM : ∀ b, M' b → M b ∨ b = a) (ha : H a = some (.frz od (.dK kvs))) {vs : List V} {ds : List D} (h : Reps T K M H vs ds) (hd : noDs ds = true) : Reps T K M' (upd H a (.dK kvs)) vs ds :=
  match h with
  | .nil => .nil
  | .cons h1 h2 => .cons (Rep.unlk hM ha h1 (Bool.and_eq_true_iff.mp hd).1) (Reps.unlk hM ha h2 (Bool.and_eq_true_iff.mp hd).2)
end
end
def noCel (sl : Sls) : Bool := sl.all fun o => match o with
  | some (.cel _) => false
  | _ => true
def pairsD (kds : List (Key × D)) : List D := prsD (kds.map (·.1)) (kds.map (·.2))
def wDcF (cn i : Nat) (m : Str) (p : Pat) (wt : WpT) (wk wv : WpE) (own : List Nat) : WpE := fun sl cs R Rx => ∃ (a pa : Addr) (fs : List (Str × D)) (ji j : Nat) (kds : List (Key × D)), ((sl[i]? = some (some (.dat (.cls a))) ∧ cs[ji]? = some (.insA a cn fs)) ∧ (fs.lookup m = some (.cls pa) ∧ cs[j]? = some (.dctA pa kds)) ∧ noCel sl = true) ∧
  (pairsD kds).length < sizeLine ∧ dcW p wt wk wv (wipeS sl own) (pairsD kds) [] [] fun acc c' => c' = [] ∧ noDc acc = true ∧ R (.cel cs.length) (cs ++ [.dct acc])
section
variable {T : Tab} {K : PySem.W.Frag} {W : WX} {p : Pat} {wi : WpI} {wt : WpT} {wk wv wE : WpE} {own : List Nat} {ad : List Addr} {F : Addr → Prop} {H : Hp} {cs : List Cell} {j : Nat} {pa : Addr} {kvs : List (Key × V)} {sl : Sls} {σ : St} {od : Obj}
theorem cell_new {ad' : List Addr} {H' : Hp} {ci : List Cell} {Dl : Addr} {accV : List (Key × V)} {accD : List (Key × D)} (nD : ¬ Mm ad F Dl) (tb : TbOk T F H') (nF : ¬ F Dl) (c' : HoldC T K ad' (fun a => F a ∨ a = Dl) H' ci) (eD : H' Dl = some (.dK accV)) (rA : KR T K (Mm ad' fun a => F a ∨ a = Dl) H' accV accD) : HoldC T K (ad' ++ [Dl]) F H' (ci ++ [.dct accD]) := by
  have mm : ∀ a, Mm (ad' ++ [Dl]) F a → Mm ad' (fun a => F a ∨ a = Dl) a := fun a z => z.elim (fun z => (List.mem_append.mp z).elim .inl fun z => .inr (.inr (by simpa using z))) fun z => .inr (.inl z)
  have nDa : Dl ∉ ad' := fun z => c'.fr Dl z (.inr rfl)
  have kpF : Kp (Mm ad' fun a => F a ∨ a = Dl) H' (Mm (ad' ++ [Dl]) F) H' := fun a o e n => ⟨e, fun z => n (mm a z)⟩
  refine ⟨?_, fun a ha z => ?_, fun a z => c'.al a (.inl z), tb, by rw [List.length_append, List.length_append, c'.ln]; rfl, fun k a c e1 e2 => ?_⟩
  · refine List.nodup_append.mpr ⟨c'.nd, by simp, fun a ha b hb => ?_⟩
    have hb : b = Dl := by simpa using hb
    subst hb
    exact fun z => nDa (z ▸ ha)
  · rcases List.mem_append.mp ha with ha | ha
    · exact c'.fr a ha (.inl z)
    · have ha : a = Dl := by simpa using ha
      subst ha
      exact nF z
  · by_cases hk : k < ad'.length
    · rw [List.getElem?_append_left hk] at e1
      rw [List.getElem?_append_left (by rw [← c'.ln]; exact hk)] at e2
      exact (c'.ce k a c e1 e2).kp kpF rfl
    · have hk' : k = ad'.length := by
        have := (List.getElem?_eq_some_iff.mp e1).1
        rw [List.length_append] at this
        simp only [List.length_singleton] at this
        omega
      subst hk'
      rw [List.getElem?_append_right (Nat.le_refl _), Nat.sub_self] at e1
      rw [c'.ln, List.getElem?_append_right (Nat.le_refl _), Nat.sub_self] at e2
      cases e1
      cases e2
      exact ⟨accV, eD, rA.kp kpF⟩
theorem dcC_then {σ : St} {H : Hp} {Q : VK} (hp : ∀ i ∈ slotsP p, i ∈ own) (h : tJ T K W (wDcC wi p wt wk wv own) σ H Q) :
    tDc (tJI T K W wi) (tDG T K p) (tJT T K W0 wt) (tJ T K W0 wk) (tJ T K W0 wv) own σ H Q := by
  obtain ⟨ad, F, sl, cs, R, Rx, h0, hw, q, qx⟩ := h
  refine ⟨ad, F, sl, cs, _, Rx, h0, hw, fun items c J H1 ad1 hw1 x1 h1 ok Dl hD => ?_, qx⟩
  refine dc_coreD (Q := Q) hp h1 ok hw1.1 hw1.2 hD fun accV accD ci ad' H' x' c' eD rA hR => ?_
  have nD := h1.hc.new hD
  have cF := cell_new (F := F) (ad := ad1) nD (h1.hc.tb.back (fun _ z => .inl z) c'.tb) (fun z => nD (.inr z)) c' eD rA
  obtain ⟨t, et, ht⟩ := x'.pre
  have x2 : Ext ad1 F H1 (ad' ++ [Dl]) H' := ⟨⟨t ++ [Dl], by rw [et, List.append_assoc], fun a ha => (List.mem_append.mp ha).elim (ht a) fun z => by
    have z : a = Dl := by simpa using z
    rw [z]; exact hD⟩, x'.keep, x'.frm⟩
  exact q _ _ (.ref Dl) _ _ hR (x1.trans h1.hc x2) (h1.to x2 cF) ⟨Dl, by rw [← c'.ln, List.getElem?_append_right (Nat.le_refl _), Nat.sub_self]; rfl, rfl⟩
end
section
variable {X : Cx} {T : Tab} {W : WX} {n : Nat} {kx vx tg iter e : Expr} {elts : List Expr} {kk : Nat} {tpos apos cpos : Pos} {ifs : List Expr} {scope : Scope} {own : List (Str × Nat)} {p : Pat} {wi : WpI} {wt : WpT} {wk wv wE : WpE} {pos : Pos} {y : Str}
theorem je_dcC {vs : List Nat} (hN : X.N.Nodup) (h : JDC X T W kx vx tg iter ifs scope own wi p wt wk wv) (hv : own.map (·.2) = vs := by rfl) (hc : X.calm = true := by rfl) (hs : ∀ x, foldedSetIterable iter X.env x = pure x := by intro _; rfl) : JE X T W (.DictComp kx vx [⟨tg, iter, ifs, 0⟩] scope pos) (wDcC wi p wt wk wv vs) := by
  subst hv
  exact weak (pe_dc (g := tDG T X.K p) (tt := tJT T X.K W0 wt) (tk := tJ T X.K W0 wk) (tv := tJ T X.K W0 wv) hc hN h.hi h.ok h.hg h.ht h.hk h.he hs) fun σ H Q z => dcC_then h.hp z
structure JDF (X : Cx) (T : Tab) (W : WX) (kx vx tg : Expr) (ifs : List Expr) (scope : Scope) (own : List (Str × Nat)) (p : Pat) (wt : WpT) (wk wv : WpE) : Prop where
  ok : BlkOk X.N X.env.scope scope own
  hg : InB X scope fun X' => DG X' T tg p
  ht : InB X scope fun X' => JTs X' T W0 ifs wt
  hk : InB X scope fun X' => JE X' T W0 kx wk
  he : InB X scope fun X' => JE X' T W0 vx wv
  hp : ∀ i ∈ slotsP p, i ∈ own.map (·.2)
theorem dcF_then {C : Addr} {fn : List Str} {cn i : Nat} {m : Str} {σ : St} {H : Hp} {Q : VK} {own : List Nat} (hT : T cn = some (C, fn)) (hcl : Cls X.K C) (hna : NoAttr X.K C m) (hp : ∀ i ∈ slotsP p, i ∈ own) (h : tJ T X.K W (wDcF cn i m p wt wk wv own) σ H Q) :
    tLockE (tDc (iItems (tFld X.K (tVar i) m)) (tDG T X.K p) (tJT T X.K W0 wt) (tJ T X.K W0 wk) (tJ T X.K W0 wv) own) σ H Q := by
  obtain ⟨ad, F, sl, cs, R, Rx, h0, ⟨a, pa, fs, ji, j, kds, ⟨⟨hs, hi⟩, ⟨hm, hj⟩, hn⟩, hl, hdc⟩, q, qx⟩ := h
  have ln : ad.length = cs.length := h0.hc.ln
  have jl : j < ad.length := by rw [ln]; exact (List.getElem?_eq_some_iff.mp hj).1
  have ha0 := List.getElem?_eq_getElem jl
  obtain ⟨kvs, ⟨e1, e2⟩, ea⟩ := h0.hc.ce j _ _ ha0 hj
  have e2 : KR T X.K (Mm ad F) H kvs kds := e2
  rw [← ea] at ha0 e1
  have ma : pa ∈ ad := List.mem_of_getElem? ha0
  obtain ⟨dx, ws, ha1, e3, lw, rw'⟩ := h0.hc.insA hT hi
  obtain ⟨w, g1, g2⟩ := look_zip hm rw'
  cases g2
  have nap : a ≠ pa := fun z => by rw [z, e1] at e3; cases e3
  obtain ⟨va, hva, ra⟩ := h0.sl i _ hs
  have ra : Rep T X.K (Mm ad F) H va (.cls a) := ra
  cases ra
  refine ⟨pa, _, e1, trivial, fun od => ?_⟩
  let F' : Addr → Prop := fun b => F b ∨ (b ∈ ad ∧ b ≠ pa)
  have nF : ∀ b, F b → b ≠ pa := fun b z y => h0.hc.fr pa ma (by rw [← y]; exact z)
  have subF : ∀ b, Mm [] F' b → Mm ad F b := fun b z => by
    rcases z with z | z | z
    · cases z
    · exact .inr z
    · exact .inl z.1
  have kpL : Kp (Mm ad F) H (Mm [] F') (upd H pa (.frz od (.dK kvs))) := fun b o e z => ⟨by rw [upd_ne (fun y => z (.inl (by rw [y]; exact ma)))]; exact e, fun y => z (subF b y)⟩
  have L : Hold T X.K ⟨sl, []⟩ [] F' σ (upd H pa (.frz od (.dK kvs))) := by
    refine ⟨⟨List.nodup_nil, (fun _ z => nomatch z), fun b z => ?_, ?_, rfl, (fun k b c z => nomatch z)⟩, h0.sz, fun k s e => ?_⟩
    · rcases z with z | z
      · rw [upd_ne (nF b z)]; exact h0.hc.al b z
      · rw [upd_ne z.2]; exact h0.hc.mem z.1
    · refine (h0.hc.tb.upd (o' := .frz od (.dK kvs)) e1 (fun _ z => nomatch z) (fun _ z => nomatch z) (fun _ z => nomatch z)).to (fun _ z => .inl z) fun b z => ?_
      rcases z with z | z
      · exact .inl z
      · obtain ⟨o, o1, _, o2⟩ := h0.hc.is z.1
        exact .inr ⟨o, by rw [upd_ne z.2]; exact o1, o2⟩
    · obtain ⟨v, hv, r⟩ := h0.sl k s e
      refine ⟨v, hv, ?_⟩
      cases s with
      | dat d => exact Rep.kp kpL r
      | cel k =>
        have := List.all_eq_true.mp hn _ (List.mem_of_getElem? e)
        cases this
  have nMp : ¬ Mm [] F' pa := fun z => by
    rcases z with z | z | z
    · cases z
    · exact nF pa z rfl
    · exact z.2 rfl
  have f1 : (upd H pa (.frz od (.dK kvs))) pa = some (.frz od (.dK kvs)) := upd_same
  refine ⟨_, hva, a, C, dx, _, .ref pa, rfl, by rw [upd_ne nap]; exact e3, hcl, hna, g1, pa, od, kvs, rfl, f1, fun Dl hD => ?_⟩
  have io : ItOk T X.K F' (Iti pa od kvs) (pairsD kds) [] (upd H pa (.frz od (.dK kvs))) := by
    unfold pairsD
    have e2' := e2.kp kpL
    rw [← e2'.1]
    exact iti_ok nMp f1 e2'.2
  refine dc_coreD (Q := fun v H' => H' pa = some (.frz od (.dK kvs)) ∧ Q v (upd H' pa (.dK kvs))) hp L io hl hdc hD fun accV accD ci ad' H' x' c' eD rA hR => ?_
  obtain ⟨rfl, hnd, hR⟩ := hR
  have f2 := x'.keep pa _ f1 nMp
  refine ⟨f2, ?_⟩
  have ead : ad' = [] := List.eq_nil_of_length_eq_zero c'.ln
  subst ead
  have neD : Dl ≠ pa := fun z => by rw [z, f1] at hD; cases hD
  have hDn : H Dl = none := by rw [upd_ne neD] at hD; exact hD
  have nD := h0.hc.new hDn
  have same : ∀ b, b ∈ ad → b ≠ pa → H' b = H b := fun b z y => by
    obtain ⟨o, o1, o2, _⟩ := h0.hc.is z
    rw [(x'.frm b (.inr ⟨z, y⟩)).eq (by rw [upd_ne y]; exact o1) o2, o1]
  have xF : Ext ad F H (ad ++ [Dl]) (upd H' pa (.dK kvs)) := by
    refine ⟨⟨[Dl], rfl, fun b hb => by rw [show b = Dl by simpa using hb]; exact hDn⟩, fun b o e n => ?_, fun b fb => ?_⟩
    · have ne : b ≠ pa := fun z => n (.inl (by rw [z]; exact ma))
      rw [upd_ne ne]
      exact x'.keep b o (by rw [upd_ne ne]; exact e) (fun z => n (subF b z))
    · have ne := nF b fb
      have f : Fr1 H (upd H pa (.frz od (.dK kvs))) b := .inl (upd_ne ne)
      exact (f.trans (x'.frm b (.inl fb))).trans (.inl (upd_ne ne))
  have hF : HoldC T X.K (ad ++ [Dl]) F (upd H' pa (.dK kvs)) (cs ++ [.dct accD]) := by
    refine ⟨?_, fun b hb z => ?_, fun b z => ?_, ?_, by rw [List.length_append, List.length_append, ln]; rfl, fun k b c h1 h2 => ?_⟩
    · refine List.nodup_append.mpr ⟨h0.hc.nd, by simp, fun b hb d hd => ?_⟩
      have hd : d = Dl := by simpa using hd
      subst hd
      exact fun z => nD (.inl (z ▸ hb))
    · rcases List.mem_append.mp hb with hb | hb
      · exact h0.hc.fr b hb z
      · have hb : b = Dl := by simpa using hb
        subst hb
        exact nD (.inr z)
    · rw [upd_ne (nF b z)]; exact c'.al b (.inl (.inl z))
    · exact ((h0.hc.tb.back (fun _ z => .inl (.inl z)) c'.tb).upd (o' := .dK kvs) f2 (fun _ z => nomatch z) (fun _ z => nomatch z) (fun _ z => nomatch z))
    · by_cases hk : k < ad.length
      · rw [List.getElem?_append_left hk] at h1
        rw [List.getElem?_append_left (by rw [← ln]; exact hk)] at h2
        by_cases hkj : b = pa
        · subst hkj
          have := ix_inj h0.hc.nd ha0 h1
          subst this
          rw [hj] at h2
          cases h2
          exact ⟨kvs, ⟨upd_same, e2.kp xF.kp⟩, rfl⟩
        · exact (h0.hc.ce k b c h1 h2).kp xF.kp (by rw [upd_ne hkj]; exact same b (List.mem_of_getElem? h1) hkj)
      · have hk' : k = ad.length := by
          have := (List.getElem?_eq_some_iff.mp h1).1
          rw [List.length_append] at this
          simp only [List.length_singleton] at this
          omega
        subst hk'
        rw [List.getElem?_append_right (Nat.le_refl _), Nat.sub_self] at h1
        rw [ln, List.getElem?_append_right (Nat.le_refl _), Nat.sub_self] at h2
        cases h1
        cases h2
        refine ⟨accV, by rw [upd_ne neD]; exact eD, rA.1, Reps.unlk (M := Mm [] fun b => F' b ∨ b = Dl) (fun b z => ?_) f2 rA.2 hnd⟩
        rcases z with z | z
        · rcases List.mem_append.mp z with z | z
          · by_cases y : b = pa
            · exact .inr y
            · exact .inl (.inr (.inl (.inr ⟨z, y⟩)))
          · exact .inl (.inr (.inr (by simpa using z)))
        · exact .inl (.inr (.inl (.inl z)))
  exact q _ _ (.ref Dl) _ _ hR xF (h0.to xF hF) ⟨Dl, by rw [← ln, List.getElem?_append_right (Nat.le_refl _), Nat.sub_self]; rfl, rfl⟩
theorem je_dcF {C : Addr} {fn : List Str} {cn i : Nat} {m x : Str} {vs : List Nat} {px mpos : Pos} (hT : T cn = some (C, fn)) (hcl : Cls X.K C) (hna : NoAttr X.K C m) (hN : X.N.Nodup) (h : JDF X T W kx vx (.Tuple elts kk tpos) ifs scope own p wt wk wv)
    (hi : X.N[i]? = some x := by rfl) (hvi : Vis X.env.scope x := by first | exact Or.inl rfl | exact Or.inr (Or.inl rfl) | exact Or.inr (Or.inr rfl)) (hd : (x == ("__debug__" : Str)) = false := by decide) (hcd : (x == ("__classdict__" : Str)) = false := by decide)
    (hb1 : attributeBase (.Name x px) m X.env (eval (.Name x px) X.env) = eval (.Name x px) X.env := by rfl) (hb2 : attributeBase (.Attribute (.Name x px) m mpos) "items" X.env (eval (.Attribute (.Name x px) m mpos) X.env) = eval (.Attribute (.Name x px) m mpos) X.env := by rfl) (hln : (apos.endLine == cpos.line) = true := by rfl)
    (hv : own.map (·.2) = vs := by rfl) (hc : X.calm = true := by rfl) (hs : ∀ y, foldedSetIterable (.Call (.Attribute (.Attribute (.Name x px) m mpos) "items" apos) [] [] cpos) X.env y = pure y := by intro _; rfl) :
    JE X T W (.DictComp kx vx [⟨.Tuple elts kk tpos, .Call (.Attribute (.Attribute (.Name x px) m mpos) "items" apos) [] [] cpos, ifs, 0⟩] scope pos) (wDcF cn i m p wt wk wv vs) := by
  subst hv
  exact weak (pe_lock (pe_dc (g := tDG T X.K p) (tt := tJT T X.K W0 wt) (tk := tJ T X.K W0 wk) (tv := tJ T X.K W0 wv) hc hN (pi_items (pe_fld (pv i hi hvi hd hcd) hb1) hb2 hln) h.ok h.hg h.ht h.hk h.he hs)) fun σ H Q z => dcF_then hT hcl hna h.hp z
end
end Dl
namespace Dl
open PySem L2
section
variable {X : Cx} {e : Expr} {te : TE} {p p2 apos cpos pos pos2 : Pos}
def tDictItems (te : TE) : TE := fun σ H Q => te σ H fun x H1 => ∃ (d : Addr) (kvs : List (Key × V)), x = .ref d ∧ H1 d = some (.dK kvs) ∧ ∀ p, H1 p = none → Q (.ref p) (upd H1 p (.dK (mergeK [] kvs)))
open PySem.Spec PyProof.Rows in
theorem pe_dictItems (hc : X.calm = true) (he : PE X e te) (hg : Gl X "list") (hm : X.mg "list" = none) (hg2 : Gl X "dict") (hm2 : X.mg "dict" = none) (hv : bootBuiltins "list" = some (.type "list")) (hv2 : bootBuiltins "dict" = some (.type "dict")) (hbase : attributeBase e "items" X.env (eval e X.env) = eval e X.env := by rfl) (hline : (apos.endLine == cpos.line) = true := by rfl)
    (hs : starEach [.Call (.Attribute e "items" apos) [] [] cpos] X.env = (false, eval (.Call (.Attribute e "items" apos) [] [] cpos) X.env) :: starEach [] X.env := by rfl)
    (hs2 : starEach [.Call (.Name "list" p) [.Call (.Attribute e "items" apos) [] [] cpos] [] pos] X.env = (false, eval (.Call (.Name "list" p) [.Call (.Attribute e "items" apos) [] [] cpos] [] pos) X.env) :: starEach [] X.env := by rfl) :
    PE X (.Call (.Name "dict" p2) [.Call (.Name "list" p) [.Call (.Attribute e "items" apos) [] [] cpos] [] pos] [] pos2) (tDictItems te) := by
  refine ⟨fun pins s σ H Q I hq => ?_⟩
  refine wpAny_Call_Name_kw (ld_blt I hg2 hm2 hv2 ?_)
  refine PyProof.Rows.callWith_type1 ?_ hs2 rfl
  rw [hs2]
  show wpAny _ _ (spliced ((false, eval (.Call (.Name "list" p) [.Call (.Attribute e "items" apos) [] [] cpos] [] pos) X.env) :: backTo pos2 (starEach [] X.env))) _ _ s
  refine Calls.spliced_cons ?_
  refine wpAny_Call_Name_kw (ld_blt I hg hm hv ?_)
  refine PyProof.Rows.callWith_type1 ?_ hs rfl
  rw [hs]
  show wpAny _ _ (spliced ((false, eval (.Call (.Attribute e "items" apos) [] [] cpos) X.env) :: backTo pos (starEach [] X.env))) _ _ s
  refine Calls.spliced_cons ?_
  refine wpAny_Call_method (T := "dict") (id := "dict.items") hbase rfl hline F.plainAttrs_dict F.slot_dict_items F.type_dict_items (thn (he.run pins s σ H _ I hq) fun u s1 ⟨x, H1, I1, rx, d, kvs, ex, hd, q⟩ => ?_)
  subst ex
  obtain rfl : u = Value.ref d := rx
  obtain ⟨hz, hs0, vs, kv, hdo⟩ := I1.hok d _ hd
  obtain ⟨ep, hat⟩ := hdo.dictAt
  have lk : kvs.length = vs.length := Paired.length kv
  have I2 : Inv X pins σ H1 { s1 with heap := s1.heap.push { cls := .type "dict_items", data := .fields #[.ref d] } } := I1.kept (t' := s1.toks) fun b ob q => Heap.get?_push_of_some _ q
  refine ⟨hdo.typeIs, hdo.mapOf.noDict, ?_⟩
  show wpAny _ _ (callWith cpos (.builtin "dict.items") [.ref d] [] []) _ X.xe s1
  refine method_meetsIn F.slot_dict_items F.entry_dict_items rfl (PySem.evalArgs_none ⟨rfl, hdo.typeIs, F.args_dict_items_1 _, _, meets_dict_items (mixKind X.prog X.w) d hs0, ⟨vs, hdo⟩, ?_⟩)
  refine Calls.spliced_nil ?_
  refine PySem.W.kdx_call (knd := mixKind X.prog X.w) (d := d) (kvs := vs) (ep := ep) (I1.ok.hd hc) ⟨_, Heap.get?_push_size _ rfl, rfl, rfl⟩ (hat.push _) (by omega) fun h' tk acc c as hk hS hl hG hacc => ?_
  refine Calls.spliced_nil ?_
  have I3 : Inv X pins σ H1 { s1 with heap := h', toks := tk } := I2.kept (t' := tk) hk
  refine L2.call_dict_pairs (prs := vs) (I1.ok.hd hc) hS rfl rfl rfl ?_ (by omega) (fun j r e => ?_) fun h2 tk2 hd2 hk2 => ?_
  · rw [← Array.length_toList, hacc, List.length_map, hl]
  · have hj := (List.getElem?_eq_some_iff.mp e).1
    have ea : as[j]? = some (as[j]'(by omega)) := List.getElem?_eq_getElem (by omega)
    obtain ⟨key, k, x, e1, e2, e3⟩ := hG.pairs j _ ea
    rw [e] at e1
    cases e1
    exact ⟨_, key, by rw [← Array.getElem?_toList, hacc, List.getElem?_map, ea]; rfl, ⟨_, e3, rfl, _, rfl⟩, e2⟩
  · have hm : (h'.objs.size == sysModules) = false := beq_eq_false_iff_ne.mpr (Nat.ne_of_gt I3.big)
    have hlen : (mergeK [] kvs).length ≤ sizeLine := by
      refine Nat.le_trans (length_mergeK kvs []) ?_
      rw [List.length_nil, Nat.zero_add]
      exact hz
    exact ⟨.ref h'.objs.size, upd H1 h'.objs.size (.dK (mergeK [] kvs)), I3.laid (t' := tk2) hk2 (Nat.le_refl _) (show ObjOk X.prog X.w _ _ _ (.dK (mergeK [] kvs)) from ⟨hlen, hm, merged [] vs, KV.merge kv .nil, hd2⟩), rfl, q _ (I3.hok.fresh (Nat.le_refl _))⟩
end
section
variable {X : Cx} {T : Tab} {W : WX} {n : Nat} {e o i ix : Expr} {p p2 p' apos cpos pos pos2 : Pos} {we wo wi wx : WpE}
def kdA (cs : List Cell) (s : Sl) (k : List (Key × D) → Prop) : Prop := ∃ s' kds, DeR cs s s' ∧ kdOf (cs.map vwC) s' = some kds ∧ k kds
theorem rd_dctA {K : PySem.W.Frag} {ad : List Addr} {F : Addr → Prop} {H : Hp} {cs : List Cell} {s : Sl} {v : V} {k : List (Key × D) → Prop} (h : kdA cs s k) (c : HoldC T K ad F H cs) (r : SlRep T K ad F H v s) : ∃ a kvs kds, (v = .ref a ∧ Rd H a (.dK kvs) ∧ KR T K (Mm ad F) H kvs kds) ∧ k kds := by
  obtain ⟨s', kds, de, hk, h⟩ := h
  obtain ⟨a, kvs, h1, h2, h3⟩ := rd_dct hk c.vw (r.de c de)
  exact ⟨a, kvs, kds, ⟨h1, h2, h3⟩, h⟩
def keyOfS (s : Sl) : Option Key := match s with
  | .dat d => keyD d
  | .cel _ => none
def wDgetA (wo wi : WpE) : WpE := fun sl cs R Rx => wo sl cs (fun s c1 => wi sl c1 (fun i c2 => kdA c2 s fun kds => ∃ k d, keyOfS i = some k ∧ getK kds k = some d ∧ R (.dat d) c2) Rx) Rx
theorem je_dgetA (hu : X.A.units + 64 < cLine) (ho : JE X T W o wo) (hi : JE X T W i wi) (hs : NoSl i := by exact fun _ _ => rfl) : JE X T W (.Subscript o i pos) (wDgetA wo wi) :=
  weak (pe_dget (by omega) ho hi hs) fun σ H Q ⟨ad, F, sl, cs, R, Rx, h0, hw, q, qx⟩ => ⟨ad, F, sl, cs, _, Rx, h0, hw, fun s c1 v H1 ad1 hw1 x1 h1 r1 => ⟨ad1, F, sl, c1, _, Rx, h1, hw1, fun t c2 v2 H2 ad2 hw2 x2 h2 r2 => by
    obtain ⟨a, kvs, kds, ⟨rfl, e1, e2⟩, k, d, hk, hg, hR⟩ := rd_dctA hw2 h2.hc (r1.ext x2)
    obtain ⟨w, hv, rw'⟩ := e2.val.2 d hg
    cases t with
    | cel _ => cases hk
    | dat dk =>
      cases key_rep r2 hk
      exact ⟨a, w, rfl, .inl ⟨kvs, k, e1, rfl, hv.symm⟩, q _ c2 w H2 ad2 hR (x1.trans h1.hc x2) h2 rw'⟩, qx.on x1 h1⟩, qx⟩
def wSetDA (we wo wx : WpE) : WS := fun S P => we S.sl S.cs (fun d c1 => wo S.sl c1 (fun s c2 => wx S.sl c2 (fun i c3 => ∃ p j kds k dd, (d = .dat dd ∧ s = .dat (.cls p) ∧ keyOfS i = some k) ∧ c3[j]? = some (Cell.dctA p kds) ∧ kds.length < sizeLine ∧ P.nx ⟨S.sl, c3.set j (.dctA p (putD kds k dd))⟩) (fun x c => P.ex x ⟨S.sl, c⟩)) (fun x c => P.ex x ⟨S.sl, c⟩)) (fun x c => P.ex x ⟨S.sl, c⟩)
theorem HoldC.dctA {K : PySem.W.Frag} {ad : List Addr} {F : Addr → Prop} {H : Hp} {cs : List Cell} {j : Nat} {p : Addr} {kds : List (Key × D)} (h : HoldC T K ad F H cs) (hc : cs[j]? = some (.dctA p kds)) : ∃ kvs, ad[j]? = some p ∧ H p = some (.dK kvs) ∧ KR T K (Mm ad F) H kvs kds := by
  have jl : j < ad.length := by rw [h.ln]; exact (List.getElem?_eq_some_iff.mp hc).1
  have e := List.getElem?_eq_getElem jl
  obtain ⟨kvs, ⟨e1, r⟩, e2⟩ := h.ce j _ _ e hc
  rw [← e2] at e e1
  exact ⟨kvs, e, e1, r⟩
theorem js_setDA (hu : X.A.units + 64 < cLine) (he : JE X T W e we) (ho : JE X T W o wo) (hx : JE X T W ix wx)
    (ha : ∀ v, assign (.Subscript o ix p') X.env v = (do
      let ov ← holding [v] (eval o X.env)
      let iv ← holding [v, ov] (eval ix X.env)
      standAt p'
      holding [v, ov, iv] (setItem ov iv v)
      release [v, ov, iv] []) := by intro _; rfl)
    (hs : swapsWithSole [.Subscript o ix p'] e pos.line X.env = pure false := by rfl) (hw : swappedStores [.Subscript o ix p'] e X.env = pure none := by rfl)
    (h1 : (assignEach [.Subscript o ix p'] X.env).map (·.2) = [assign (.Subscript o ix p') X.env] := by rfl) : JS X T W n (.Assign [.Subscript o ix p'] e pos) (wSetDA we wo wx) := fun S P h =>
  weakS (ps_asg he (pg_sub ho hx (set_dict (by omega)) ha) hs hw h1) fun D σ H ⟨ad, F, hn, h0, q1, q2, q3, q4, q5⟩ => ⟨ad, F, S.sl, S.cs, _, _, h0, h, fun d c1 v H1 ad1 hR1 x1 h1 r1 => ⟨ad1, F, S.sl, c1, _, _, h1, hR1, fun s c2 w H2 ad2 hR2 x2 h2 r2 => ⟨ad2, F, S.sl, c2, _, _, h2, hR2, fun i c3 z H3 ad3 hR3 x3 h3 r3 => by
    obtain ⟨p, j, kds, k, dd, ⟨rfl, rfl, hk⟩, hj, hl, hR⟩ := hR3
    cases i with
    | cel _ => cases hk
    | dat di =>
      have r2 : Rep T X.K (Mm ad2 F) H2 w (.cls p) := r2
      cases r2
      obtain ⟨kvs, ea, e1, e2⟩ := h3.hc.dctA hj
      cases key_rep r3 hk
      have rd : Rep T X.K (Mm ad3 F) H3 v dd := SlRep.ext (s := .dat dd) x3 (SlRep.ext (s := .dat dd) x2 r1)
      refine ⟨p, upd H3 p (.dK (putK kvs k v)), rfl, .inl ⟨kvs, k, e1, rfl, by rw [e2.len]; exact hl, rfl⟩, ?_⟩
      have kp : Kp (Mm ad3 F) H3 (Mm ad3 F) (upd H3 p (.dK (putK kvs k v))) := fun b o e nn => ⟨by rw [upd_ne (fun z => nn (.inl (by rw [z]; exact List.mem_of_getElem? ea)))]; exact e, nn⟩
      obtain ⟨k4, x4⟩ := h3.hc.setc (o := .dK (putK kvs k v)) (c := .dctA p (putD kds k dd)) ea ⟨_, ⟨upd_same, (e2.put rd).kp kp⟩, rfl⟩
      have x := x1.trans h1.hc (x2.trans h2.hc (x3.trans h3.hc x4))
      exact q1 _ _ _ ad3 (x.s hn) (x.le hn) (h3.to x4 k4) hR, ((raz_of hn q5).on x1 h1).on x2 h2⟩, (raz_of hn q5).on x1 h1⟩, raz_of hn q5⟩
def wDictItems (we : WpE) : WpE := fun sl cs R Rx => we sl cs (fun s c => ∃ (p : Addr) (j : Nat) (kds : List (Key × D)), s = .dat (.cls p) ∧ c[j]? = some (Cell.dctA p kds) ∧ R (.cel c.length) (c ++ [.dct (mergeD [] kds)])) Rx
theorem je_dictItems (hz : X.mg "list" = none) (hz2 : X.mg "dict" = none) (hc : X.calm = true) (he : JE X T W e we) (hg : Gl X "list" := by rfl) (hg2 : Gl X "dict" := by rfl) (hv : bootBuiltins "list" = some (.type "list") := by decide +kernel) (hv2 : bootBuiltins "dict" = some (.type "dict") := by decide +kernel) (hbase : attributeBase e "items" X.env (eval e X.env) = eval e X.env := by rfl) (hline : (apos.endLine == cpos.line) = true := by rfl)
    (hs : starEach [.Call (.Attribute e "items" apos) [] [] cpos] X.env = (false, eval (.Call (.Attribute e "items" apos) [] [] cpos) X.env) :: starEach [] X.env := by rfl)
    (hs2 : starEach [.Call (.Name "list" p) [.Call (.Attribute e "items" apos) [] [] cpos] [] pos] X.env = (false, eval (.Call (.Name "list" p) [.Call (.Attribute e "items" apos) [] [] cpos] [] pos) X.env) :: starEach [] X.env := by rfl) :
    JE X T W (.Call (.Name "dict" p2) [.Call (.Name "list" p) [.Call (.Attribute e "items" apos) [] [] cpos] [] pos] [] pos2) (wDictItems we) :=
  weak (pe_dictItems hc he hg hz hg2 hz2 hv hv2 hbase hline hs hs2) fun σ H Q ⟨ad, F, sl, cs, R, Rx, h0, hw, q, qx⟩ => ⟨ad, F, sl, cs, _, Rx, h0, hw, fun s c1 v H1 ad1 hw1 x1 h1 r1 => by
    obtain ⟨p, j, kds, rfl, hj, hR⟩ := hw1
    have r1 : Rep T X.K (Mm ad1 F) H1 v (.cls p) := r1
    cases r1
    obtain ⟨kvs, ea, e1, e2⟩ := h1.hc.dctA hj
    refine ⟨p, kvs, rfl, e1, fun D hD => ?_⟩
    exact new_dctC h1.hc (e2.merge .nil) (fun z H' ad' x2 k2 r2 => q _ _ z H' ad' hR (x1.trans h1.hc x2) (h1.to x2 k2) r2) hD, qx⟩
end
end Dl
namespace Dl
open PySem L2
section
variable {T : Tab} {P : Program} {w : World} {K : PySem.W.Frag} {mg : Str → Option Value} {base : Heap} {x qual : Str} {st : Stmt} {f : Addr} {fd : FuncData} {N ps : List Str} {k : Nat} {ws : Nat → WS}
theorem fn_GXD {dvs : List V} {kws : List (Str × V)} (F : FunD K x qual (defArgs st) (defBody st) (defScope st) dvs kws f fd) (Sc : FnScope N ps (defScope st))
    (bodyX : ∀ cdv A outer sh H E, Room k (cxX P w K mg base N qual st f cdv A outer sh H E).A → Takes (cxX P w K mg base N qual st f cdv A outer sh H E) (fun cls d _ H => E cls d H) → ∀ n, JSs (cxX P w K mg base N qual st f cdv A outer sh H E) T (fun cls d _ H => E cls d H) n (defBody st) (ws n)) :
    FnOk P w K mg base (L2.CX P w) (k + 1) f fd ps (spGX T K (cgxOf N ps ws)) := by
  refine F.ok Sc (fun vs H Q E h => lenGX h) (fun cdv A outer s H vs Q E hr h => ?_)
  obtain ⟨ad, F', args, cs, R, Rx, ⟨hc, r, _, h⟩, q, qx⟩ := h
  have tk : Takes (cxX P w K mg base N qual st f cdv A outer s H E) (fun cls d _ H => E cls d H) := takes_of rfl rfl rfl rfl
  refine ⟨_, bodyX cdv A outer s H E hr tk cs.length _ _ h, ad, F', Nat.le_of_eq hc.ln.symm, start_hold hc r, ?_, ?_, fun _ _ _ _ _ _ _ z => z.elim, fun _ _ _ _ _ _ _ z => z.elim, ?_⟩
  · exact fun S' σ' H' ad' x hn h' hR => q _ _ .non H' ad' hR x hn h'.hc Rep.non
  · exact fun s2 cs2 v H' ad' x hn c2 r2 hR => q _ _ v H' ad' hR x hn c2 r2
  · exact fun y S' cls d σ' H' ad' x hn h' er hR => qx y _ cls d H' ad' hR x hn h'.hc er
end
section
variable {X : Cx} {T : Tab} {W : WX} {n : Nat} {a b e o ix : Expr} {es : List Expr} {kws : List Keyword} {pos p p' apos : Pos} {wa wb we wo wx w : WpE} {wA wK : WpA} {C g : Addr} {fd : FuncData} {ps fn ks : List Str} {k cn pn : Nat} {c : CtGX} {y m : Str} {gg : List Value → List Value → List Value} {gV : List V → List V → List V} {fu : List D → List D → List D}
def wSubAX (cn : Nat) (c : CtGX) (wa wb : WpE) : WpE := fun sl cs R Rx => wa sl cs (fun s c1 => wb sl c1 (fun s2 c2 => isRf cn s c2 ∧ c [s, s2] c2 R Rx) Rx) Rx
theorem je_subAX (tk : Takes X W) (hT : T cn = some (C, fn)) (G : FnOk X.prog X.w X.K X.mg X.base (L2.CX X.prog X.w) k g fd ps (spGX T X.K c)) (hr : Room (k + 1) X.A) (hb : Binds X.K fd ps []) (hs : PySem.W.findIn X.K (.ref C) "__getitem__" = some (some (.ref g))) (hf : PySem.W.fnIn X.K g = true) (hfn : PySem.W.isFn X.K (.ref g) = true)
    (ha : JE X T W a wa) (hb' : JE X T W b wb) (hp : PlainIxO b := by intro _ _; rfl) : JE X T W (.Subscript a b pos) (wSubAX cn c wa wb) :=
  weak (pe_subO (E := WE W) G hr hb (passAt tk) hs hf hfn ha hb' hp) fun σ H Q ⟨ad, F, sl, cs, R, Rx, h0, hw, q, qx⟩ => ⟨ad, F, sl, cs, _, Rx, h0, hw, fun s c1 v H1 ad1 hw1 x1 h1 r1 => ⟨ad1, F, sl, c1, _, Rx, h1, hw1, fun s2 c2 u H2 ad2 hw2 x2 h2 r2 => by
    obtain ⟨o, dx, fs, rfl, eo⟩ := isRf_of hT h2.hc (r1.ext x2) hw2.1
    exact ⟨o, dx, fs, rfl, eo, callGX_then (ss := [s, s2]) h2.hc ⟨r1.ext x2, r2, trivial⟩ hw2.2 (fun s' c' v H' ad' hR x3 k3 r3 => q s' c' v H' ad' hR (x1.trans h1.hc (x2.trans h2.hc x3)) (h2.to x3 k3) r3) fun x c' cls d H' ad' hR x3 k3 er => qx x c' cls d H' ad' hR (x1.trans h1.hc (x2.trans h2.hc x3)) (h2.to x3 k3) er⟩, qx.on x1 h1⟩, qx⟩
def SetAt (X : Cx) (t : St → TSet) : Prop := ∀ (pins : List (Addr × Obj)) (s : Shared) (σ : St) (H : Hp) (o i v : V) (ov iv u : Value) (Q : Hp → Prop), Inv X pins σ H s → RelV o ov → RelV i iv → RelV v u → t σ o i v H Q →
  wpAny (model X.prog X.w) X.A (setItem ov iv u) (fun _ s' => ∃ H', Inv X pins σ H' s' ∧ Q H') X.xe s
def gSubAt (to ti : TE) (t : St → TSet) : TG := fun v σ H Q => to σ H fun o H1 => ti σ H1 fun i H2 => t σ o i v H2 fun H3 => Q σ H3
theorem pg_subAt {i : Expr} {to ti : TE} {t : St → TSet} (ho : PE X o to) (hi : PE X i ti) (hs : SetAt X t)
    (ha : ∀ v, assign (.Subscript o i pos) X.env v = (do
      let ov ← holding [v] (eval o X.env)
      let iv ← holding [v, ov] (eval i X.env)
      standAt pos
      holding [v, ov, iv] (setItem ov iv v)
      release [v, ov, iv] [])) : PG X (.Subscript o i pos) (gSubAt to ti t) := by
  constructor
  intro pins s σ H v u Q I r h
  rw [ha]
  have second : ∀ (ov iv : Value) (x y : V) (s2 : Shared) (H2 : Hp), Inv X pins σ H2 s2 → RelV x ov → RelV y iv → t σ x y v H2 (fun H3 => Q σ H3) → wpAny (model X.prog X.w) X.A (standAt pos >>= fun _ => holding [u, ov, iv] (setItem ov iv u) >>= fun _ => release [u, ov, iv] []) (fun _ s' => ∃ σ' H', Inv X pins σ' H' s' ∧ Q σ' H') X.xe s2 :=
    fun ov iv x y s2 H2 I2 r1 r2 q => wpAny_bind (wpAny_standAt (wpAny_bind (wpAny_holding (thn (hs pins s2 σ H2 x y v ov iv u _ I2 r1 r2 r q) fun _ s3 ⟨H3, I3, q3⟩ => wpAny_release ⟨σ, H3, I3, q3⟩))))
  exact wpAny_bind (wpAny_holding (thn (ho.run pins s σ H _ I h) fun ov s1 ⟨x, H1, I1, r1, q1⟩ => wpAny_bind (wpAny_holding (thn (hi.run pins s1 σ H1 _ I1 q1) fun iv s2 ⟨y, H2, I2, r2, q2⟩ => second ov iv x y s2 H2 I2 r1 r2 q2))))
theorem set_ownX {sp : Sp} {E : St → XK} {CX : CXT} (G : FnOk X.prog X.w X.K X.mg X.base CX k g fd ps sp) (hr : Room k X.A) (hb : Binds X.K fd ps []) (hx : ∀ σ, PassesAt CX X σ (E σ)) (hq : PySem.W.noSeq X.K C = true) (hs : PySem.W.findIn X.K (.ref C) "__setitem__" = some (some (.ref g))) (hf : PySem.W.isFn X.K (.ref g) = true) :
    SetAt X fun σ o i v H Q => ∃ a dx fs, o = .ref a ∧ H a = some (.ins C dx fs) ∧ sp [o, i, v] H (fun _ H' => Q H') (E σ) := by
  intro pins s σ H o i v ov iv u Q I ro ri rv h
  obtain ⟨a, dx, fs, rfl, ea, hsp⟩ := h
  cases (show ov = Value.ref a from ro)
  obtain ⟨od, J⟩ := inst_get I ea
  obtain ⟨m, hF⟩ := I.fr
  exact PySem.W.ksp_setItem hF I.ok.mod.kin J hq hs hf (thn (run_fnS (us := [.ref a, iv, u]) (vs := [.ref a, i, v]) G hr hb (hx σ) I (.cons rfl (.cons ri (.cons rv .nil))) hsp) fun u' s' z => let ⟨_, H', I', _, q⟩ := z; ⟨H', I', q⟩)
def wSetAX (cn : Nat) (c : CtGX) (we wo wx : WpE) : WS := fun S P => we S.sl S.cs (fun d c1 => wo S.sl c1 (fun s c2 => wx S.sl c2 (fun i c3 => isRf cn s c3 ∧ c [s, i, d] c3 (fun _ c4 => P.nx ⟨S.sl, c4⟩) (fun x c => P.ex x ⟨S.sl, c⟩)) (fun x c => P.ex x ⟨S.sl, c⟩)) (fun x c => P.ex x ⟨S.sl, c⟩)) (fun x c => P.ex x ⟨S.sl, c⟩)
theorem js_setAX (tk : Takes X W) (hT : T cn = some (C, fn)) (G : FnOk X.prog X.w X.K X.mg X.base (L2.CX X.prog X.w) k g fd ps (spGX T X.K c)) (hr : Room k X.A) (hb : Binds X.K fd ps []) (hq : PySem.W.noSeq X.K C = true) (hsi : PySem.W.findIn X.K (.ref C) "__setitem__" = some (some (.ref g))) (hf : PySem.W.isFn X.K (.ref g) = true)
    (he : JE X T W e we) (ho : JE X T W o wo) (hx : JE X T W ix wx)
    (ha : ∀ v, assign (.Subscript o ix p') X.env v = (do
      let ov ← holding [v] (eval o X.env)
      let iv ← holding [v, ov] (eval ix X.env)
      standAt p'
      holding [v, ov, iv] (setItem ov iv v)
      release [v, ov, iv] []) := by intro _; rfl)
    (hs : swapsWithSole [.Subscript o ix p'] e pos.line X.env = pure false := by rfl) (hw : swappedStores [.Subscript o ix p'] e X.env = pure none := by rfl)
    (h1 : (assignEach [.Subscript o ix p'] X.env).map (·.2) = [assign (.Subscript o ix p') X.env] := by rfl) : JS X T W n (.Assign [.Subscript o ix p'] e pos) (wSetAX cn c we wo wx) := fun S P h =>
  weakS (ps_asg he (pg_subAt ho hx (set_ownX (E := WE W) G hr hb (passAt tk) hq hsi hf) ha) hs hw h1) fun D σ H ⟨ad, F, hn, h0, q1, q2, q3, q4, q5⟩ => ⟨ad, F, S.sl, S.cs, _, _, h0, h, fun d c1 v H1 ad1 hR1 x1 h1 r1 => ⟨ad1, F, S.sl, c1, _, _, h1, hR1, fun s c2 w H2 ad2 hR2 x2 h2 r2 => ⟨ad2, F, S.sl, c2, _, _, h2, hR2, fun i c3 z H3 ad3 hR3 x3 h3 r3 => by
    obtain ⟨hi, hc⟩ := hR3
    obtain ⟨o, dx, fs, rfl, eo⟩ := isRf_of hT h3.hc (r2.ext x3) hi
    have x13 := x1.trans h1.hc (x2.trans h2.hc x3)
    refine ⟨o, dx, fs, rfl, eo, callGX_then (ss := [s, i, d]) h3.hc ⟨r2.ext x3, r3, (r1.ext x2).ext x3, trivial⟩ hc (fun s' c' v' H' ad' hR x4 k4 r4 => ?_) fun x c' cls dd H' ad' hR x4 k4 er => ?_⟩
    · have xx := x13.trans h3.hc x4
      exact q1 _ _ H' ad' (xx.s hn) (xx.le hn) (h3.to x4 k4) hR
    · have xx := x13.trans h3.hc x4
      exact q5 x _ cls dd σ H' ad' (xx.s hn) (xx.le hn) (h3.to x4 k4) er hR, ((raz_of hn q5).on x1 h1).on x2 h2⟩, (raz_of hn q5).on x1 h1⟩, raz_of hn q5⟩
end
end Dl
namespace Dl
open PySem L2
section
variable {X : Cx} {CX : CXT} {T : Tab} {W : WX} {n i : Nat} {e o : Expr} {es : List Expr} {kws : List Keyword} {pos p apos : Pos} {wo w : WpE} {wA wK : WpA} {C g q : Addr} {mc : Value} {fd : FuncData} {ps fn ks : List Str} {k cn pn : Nat} {c : CtGX} {y m : Str} {gg : List Value → List Value → List Value} {gV : List V → List V → List V} {fu : List D → List D → List D} {sp : Sp} {E : St → XK} {ta : TE} {t tk' : TA} {pins : List (Addr × Obj)} {σ : St} {H : Hp} {sh : Shared} {Q : VK} {us ws : List Value} {vs zs : List V}
theorem run_cmK (G : FnOk X.prog X.w X.K X.mg X.base CX k g fd ps sp) (hr : Room k X.A) (hb : KBn X.K fd ps (pn + 1) ks gg gV) (hx : PassesAt CX X σ (E σ))
    (I : Inv X ((q, PySem.W.methodObj (.ref g) (.ref C)) :: pins) σ H sh) (r : Vals vs us) (rz : Vals zs ws) (l1 : vs.length = pn) (l2 : zs.length = ks.length) (h : sp (gV (.ref C :: vs) zs) H Q (E σ)) : wpAny (model X.prog X.w) X.A (call (.ref q) us (ks.zip ws)) (EP X pins σ Q) X.xe sh := by
  have r' : Vals (V.ref C :: vs) (Value.ref C :: us) := .cons rfl r
  have run : wpAny (model X.prog X.w) X.A (call (.ref q) us (ks.zip ws)) (EP X ((q, PySem.W.methodObj (.ref g) (.ref C)) :: pins) σ Q) X.xe sh :=
    wpAny_call (PySem.W.method_call (ClX.pin_at I) (codeAny_mono (G.run X.A X.stack sh H ⟨.ref C :: us, ks.zip ws⟩ _ (gV (.ref C :: vs) zs) Q (E σ) hr I.env0 (hb.to sh (.ref C :: us) ws I.kIn (by rw [List.length_cons, ← r.length, l1]) (rz.length.symm.trans l2)) (hb.rel r' rz) h) fun z s' hq => match z, hq with
      | .error e, hq => hx _ H sh e s' I hq
      | .ok (.ret u), hq => I.after hq))
  exact thn run fun _ _ y => ClX.unpinE y
def tCmK (C : Addr) (n j : Nat) (sp : Sp) (gV : List V → List V → List V) (E : St → XK) (ta : TE) (t tk : TA) : TE := fun σ H Q => ta σ H fun x H1 => x = .ref C ∧ t σ H1 fun vs H2 => tk σ H2 fun zs H3 => vs.length = n ∧ zs.length = j ∧ sp (gV (.ref C :: vs) zs) H3 Q (E σ)
theorem pe_cmK {pl : Sem Bool} (he : PE X o ta) (r : ClX.CRead X.K C mc) (cm : ClX.CMet X.K C mc m q g) (G : FnOk X.prog X.w X.K X.mg X.base CX k g fd ps sp) (hr : Room k X.A) (hb : KBn X.K fd ps (pn + 1) ks gg gV) (hx : ∀ σ, PassesAt CX X σ (E σ)) (ha : PA X (e :: es) t) (hkw : PK X kws tk')
    (hall : (backToKw pos (keywordEach kws X.env)).all (·.1.isSome) = true) (hks : (backToKw pos (keywordEach kws X.env)).filterMap (·.1) = ks) (hst : starEach (e :: es) X.env = (false, eval e X.env) :: starEach es X.env)
    (hpl : ((backTo pos (starEach (e :: es) X.env)).any (·.1) || (backToKw pos (keywordEach kws X.env)).any (·.1.isNone)) = false)
    (ht : eval (.Call (.Attribute o m apos) (e :: es) kws pos) X.env = (eval o X.env >>= fun ov => standAt apos.atName >>= fun _ => holding [ov] (getMethod ov m pl) >>= fun fb => callWith pos fb.1 fb.2 (backTo pos (starEach (e :: es) X.env)) (backToKw pos (keywordEach kws X.env)))) :
    PE X (.Call (.Attribute o m apos) (e :: es) kws pos) (tCmK C pn ks.length sp gV E ta t tk') := by
  constructor
  intro pins s σ H Q I h
  refine PySem.W.methodCall_KW (pl := pl) (thn (he.run pins s σ H _ I h) fun u s1 z => ?_) ht
  obtain ⟨x, H1, I1, rx, rfl, h1⟩ := z
  cases (show u = Value.ref C from rx)
  refine ClX.getmethcm_ok I1 r cm fun s2 I2 => PySem.W.callWith_of (P := PySem.W.MethP X.K s1.heap.objs.size g (.ref C)) hpl (PySem.W.keeps_M cm.fi) (PyProof.Rows.evalArgs_kw2 hall (thn (ha.run pos _ s2 σ H1 _ I2 h1) fun us s3 z3 => ?_) hst)
  obtain ⟨vs, H2, I3, r2, h2⟩ := z3
  refine thn (hkw.run pos _ s3 σ H2 _ I3 h2) fun ws s4 z4 => ?_
  obtain ⟨zs, H3, I4, r4, l1, l2, h3⟩ := z4
  refine ⟨⟨ClX.pin_at I4, I4.kIn⟩, ?_⟩
  rw [hks]
  exact run_cmK G hr hb (hx σ) I4 r2 r4 l1 l2 h3
def spCM (C : Addr) (T : Tab) (K : PySem.W.Frag) (c : CtGX) : Sp := fun vs H Q E => ∃ ws, vs = .ref C :: ws ∧ spGX T K c ws H Q E
def ccOf (N ps : List Str) (ws : Addr → Nat → WS) : CtGX := fun args cs R Rx => ∀ C : Addr, args.length + 1 = ps.length ∧ ws C cs.length (st0 N (.dat (.cls C) :: args) cs) (endGX R Rx)
theorem fn_CM {P : Program} {w : World} {K : PySem.W.Frag} {mg : Str → Option Value} {base : Heap} {x qual : Str} {st : Stmt} {f : Addr} {fd : FuncData} {N ps : List Str} {k : Nat} {ws : Addr → Nat → WS} {dvs : List V} {kws : List (Str × V)} (C : Addr) (F : FunD K x qual (defArgs st) (defBody st) (defScope st) dvs kws f fd) (Sc : FnScope N ps (defScope st))
    (bodyX : ∀ cdv A outer sh H E, Room k (cxX P w K mg base N qual st f cdv A outer sh H E).A → Takes (cxX P w K mg base N qual st f cdv A outer sh H E) (fun cls d _ H => E cls d H) → ∀ n, JSs (cxX P w K mg base N qual st f cdv A outer sh H E) T (fun cls d _ H => E cls d H) n (defBody st) (ws C n)) :
    FnOk P w K mg base (L2.CX P w) (k + 1) f fd ps (spCM C T K (ccOf N ps ws)) := by
  refine F.ok Sc (fun vs H Q E h => ?_) (fun cdv A outer s H vs Q E hr h => ?_)
  · obtain ⟨us, rfl, ad, F', args, cs, R, Rx, ⟨_, r, hc⟩, _⟩ := h
    rw [List.length_cons, r.len]
    exact (hc C).1
  obtain ⟨us, rfl, ad, F', args, cs, R, Rx, ⟨hc, r, h⟩, q, qx⟩ := h
  have tk : Takes (cxX P w K mg base N qual st f cdv A outer s H E) (fun cls d _ H => E cls d H) := takes_of rfl rfl rfl rfl
  have r' : SlReps T K ad F' H (.ref C :: us) (.dat (.cls C) :: args) := ⟨Rep.cls, r⟩
  refine ⟨_, bodyX cdv A outer s H E hr tk cs.length _ _ (h C).2, ad, F', Nat.le_of_eq hc.ln.symm, start_hold hc r', ?_, ?_, fun _ _ _ _ _ _ _ z => z.elim, fun _ _ _ _ _ _ _ z => z.elim, ?_⟩
  · exact fun S' σ' H' ad' x hn h' hR => q _ _ .non H' ad' hR x hn h'.hc Rep.non
  · exact fun s2 cs2 v H' ad' x hn c2 r2 hR => q _ _ v H' ad' hR x hn c2 r2
  · exact fun y S' cls d σ' H' ad' x hn h' er hR => qx y _ cls d H' ad' hR x hn h'.hc er
def wCmA (c : CtGX) (pn kn : Nat) (fu : List D → List D → List D) (wA wK : WpA) : WpE := fun sl cs R Rx => wA sl cs (fun ss c1 => wDats ss fun vs => wK sl c1 (fun zz c2 => wDats zz fun zs => vs.length = pn ∧ zs.length = kn ∧ c ((fu vs zs).map Sl.dat) c2 R Rx) Rx) Rx
theorem je_cmA (tk : Takes X W) {pl : Sem Bool} (hm : X.mg y = some (.ref C)) (r : ClX.CRead X.K C mc) (cm : ClX.CMet X.K C mc m q g) (G : FnOk X.prog X.w X.K X.mg X.base (L2.CX X.prog X.w) k g fd ps (spCM C T X.K c)) (hr : Room k X.A) (hb : ∃ gg, KBn X.K fd ps (pn + 1) ks gg gV)
    (hp : ∀ vs zs : List D, vs.length = pn → zs.length = ks.length → Put X.K gV vs zs (fu vs zs)) (ha : JA X T W (e :: es) wA) (hkw : JK X T W kws wK) (hg : Gl X y := by rfl) (hdb : (y == ("__debug__" : Str)) = false := by decide)
    (hall : (backToKw pos (keywordEach kws X.env)).all (·.1.isSome) = true := by rfl) (hks : (backToKw pos (keywordEach kws X.env)).filterMap (·.1) = ks := by rfl)
    (hst : starEach (e :: es) X.env = (false, eval e X.env) :: starEach es X.env := by rfl) (hpl : ((backTo pos (starEach (e :: es) X.env)).any (·.1) || (backToKw pos (keywordEach kws X.env)).any (·.1.isNone)) = false := by rfl)
    (ht : eval (.Call (.Attribute (.Name y p) m apos) (e :: es) kws pos) X.env = (eval (.Name y p) X.env >>= fun ov => standAt apos.atName >>= fun _ => holding [ov] (getMethod ov m pl) >>= fun fb => callWith pos fb.1 fb.2 (backTo pos (starEach (e :: es) X.env)) (backToKw pos (keywordEach kws X.env))) := by rfl) :
    JE X T W (.Call (.Attribute (.Name y p) m apos) (e :: es) kws pos) (wCmA c pn ks.length fu wA wK) := by
  obtain ⟨gg, hb⟩ := hb
  exact weak (pe_cmK (E := WE W) (pl := pl) (pe_glob (v := .ref C) hg hm rfl hdb) r cm G hr hb (passAt tk) ha hkw hall hks hst hpl ht) fun σ H Q ⟨ad, F, sl, cs, R, Rx, h0, hw, q, qx⟩ => by
    refine ⟨rfl, ad, F, sl, cs, _, Rx, h0, hw, fun ss c1 ws H1 ad1 hw1 x1 h1 r1 => ?_, qx⟩
    have hw1' := wDats_of hw1
    clear hw1
    obtain ⟨args, e0, hw1⟩ := hw1'
    subst e0
    refine ⟨ad1, F, sl, c1, _, Rx, h1, hw1, fun zz c2 zs H2 ad2 hw2 x2 h2 r2 => ?_, qx.on x1 h1⟩
    obtain ⟨kargs, rfl, l1, l2, hw2⟩ := wDats_of hw2
    have w1 := r1.dats
    have w2 := r2.dats
    refine ⟨by rw [w1.length]; exact l1, by rw [w2.length]; exact l2, ?_⟩
    obtain ⟨us, e1, e2⟩ := hp args kargs l1 l2 (.ref C) ws zs w1.length w2.length
    rw [e1]
    have rr := e2 _ _ _ (w1.kp x2.kp) w2
    have x12 := x1.trans h1.hc x2
    exact ⟨us, rfl, callGX_then (ss := (fu args kargs).map Sl.dat) h2.hc (SlReps.of rr) hw2 (fun s c' v H' ad' hR x3 k3 r3 => q s c' v H' ad' hR (x12.trans h2.hc x3) (h2.to x3 k3) r3) fun x c' cls d H' ad' hR x3 k3 er => qx x c' cls d H' ad' hR (x12.trans h2.hc x3) (h2.to x3 k3) er⟩
theorem pe_mkL (M : Mk X.K C g) (G : FnOk X.prog X.w X.K X.mg X.base CX k g fd ps sp) (hr : Room (k + 1) X.A) (hb : KBn X.K fd ps (pn + 1) ks gg gV) (hx : ∀ σ, PassesAt CX X σ (E σ)) (hn : PE X (.Name y p) (tVar i)) (ha : PA X (e :: es) t) (hkw : PK X kws tk')
    (hall : (backToKw pos (keywordEach kws X.env)).all (·.1.isSome) = true) (hks : (backToKw pos (keywordEach kws X.env)).filterMap (·.1) = ks)
    (he : starEach (e :: es) X.env = (false, eval e X.env) :: starEach es X.env) (hpl : ((backTo pos (starEach (e :: es) X.env)).any (·.1) || (backToKw pos (keywordEach kws X.env)).any (·.1.isNone)) = false) :
    PE X (.Call (.Name y p) (e :: es) kws pos) (fun σ H Q => σ[i]? = some (some (.ref C)) ∧ tMkS C pn ks.length sp gV E t tk' σ H Q) := by
  constructor
  intro pins sh σ H Q I ⟨hc, h⟩
  refine wpAny_Call_Name_kw (thn (hn.run pins sh σ H (fun v H1 => v = .ref C ∧ tMkS C pn ks.length sp gV E t tk' σ H1 Q) I ⟨_, hc, rfl, h⟩) fun u s0 z0 => ?_)
  obtain ⟨x, H0, I0, rx, rfl, h0⟩ := z0
  cases (show u = Value.ref C from rx)
  refine PySem.W.callWith_KW (h₀ := X.base) I.ok.mod.kin M.kp hall (thn (ha.run pos pins s0 σ H0 _ I0 h0) fun us s1 z1 => ?_) hpl he
  obtain ⟨vs, H1, I1, r1, q1⟩ := z1
  refine thn (hkw.run pos pins s1 σ H1 _ I1 q1) fun ws s2 z2 => ?_
  obtain ⟨zs, H2, I2, r2, l1, l2, q2⟩ := z2
  exact ⟨I2.kIn, by rw [hks]; exact run_mkS M G hr hb (hx σ) I2 r1 r2 l1 l2 q2⟩
def wMakeAL (C : Addr) (i cn : Nat) (c : CtGX) (pn kn : Nat) (fu : List D → List D → List D) (wA wK : WpA) : WpE := fun sl cs R Rx => sl[i]? = some (some (.dat (.cls C))) ∧ wMakeAX cn c pn kn fu wA wK sl cs R Rx
theorem je_makeAL (tk : Takes X W) (hT : T cn = some (C, fn)) (M : Mk X.K C g) (G : FnOk X.prog X.w X.K X.mg X.base (L2.CX X.prog X.w) k g fd ps (spGX T X.K c)) (hr : Room (k + 1) X.A) (hb : ∃ gg, KBn X.K fd ps (pn + 1) ks gg gV)
    (hp : ∀ vs zs : List D, vs.length = pn → zs.length = ks.length → Put X.K gV vs zs (fu vs zs)) (i : Nat)
    (ha : JA X T W (e :: es) wA) (hkw : JK X T W kws wK) (hi : X.N[i]? = some y := by rfl) (hvi : Vis X.env.scope y := by first | exact Or.inl rfl | exact Or.inr (Or.inl rfl) | exact Or.inr (Or.inr rfl)) (hd : (y == ("__debug__" : Str)) = false := by decide) (hcd : (y == ("__classdict__" : Str)) = false := by decide)
    (hall : (backToKw pos (keywordEach kws X.env)).all (·.1.isSome) = true := by rfl) (hks : (backToKw pos (keywordEach kws X.env)).filterMap (·.1) = ks := by rfl)
    (he : starEach (e :: es) X.env = (false, eval e X.env) :: starEach es X.env := by rfl) (hpl : ((backTo pos (starEach (e :: es) X.env)).any (·.1) || (backToKw pos (keywordEach kws X.env)).any (·.1.isNone)) = false := by rfl) :
    JE X T W (.Call (.Name y p) (e :: es) kws pos) (wMakeAL C i cn c pn ks.length fu wA wK) := by
  obtain ⟨gg, hb⟩ := hb
  exact weak (pe_mkL (E := WE W) M G hr hb (passAt tk) (pv i hi hvi hd hcd) ha hkw hall hks he hpl) fun σ H Q ⟨ad, F, sl, cs, R, Rx, h0, ⟨hs, hw⟩, q, qx⟩ => ⟨by
    obtain ⟨v, hv, r⟩ := h0.sl i _ hs
    have r : Rep T X.K (Mm ad F) H v (.cls C) := r
    cases r
    exact hv, ad, F, sl, cs, _, Rx, h0, hw, fun ss c1 ws H1 ad1 hw1 x1 h1 r1 => by
    have hw1' := wDats_of hw1
    clear hw1
    obtain ⟨args, e0, hw1⟩ := hw1'
    subst e0
    refine ⟨ad1, F, sl, c1, _, Rx, h1, hw1, fun zz c2 zs H2 ad2 hw2 x2 h2 r2 => ?_, qx.on x1 h1⟩
    obtain ⟨kargs, rfl, l1, l2, hw2⟩ := wDats_of hw2
    have w1 := r1.dats
    have w2 := r2.dats
    refine ⟨by rw [w1.length]; exact l1, by rw [w2.length]; exact l2, fun a b ha hb ne => ?_⟩
    obtain ⟨us, e1, e2⟩ := hp args kargs l1 l2 (.ref a) ws zs w1.length w2.length
    rw [e1]
    have rr := e2 _ _ _ (w1.kp x2.kp) w2
    exact mkAX_then hT h2.hc rr ha hb ne hw2 (fun s c' v H' ad' hR x3 k3 r3 => q s c' v H' ad' hR (x1.trans h1.hc (x2.trans h2.hc x3)) (h2.to x3 k3) r3) fun x c' cls d H' ad' hR x3 k3 er => qx x c' cls d H' ad' hR (x1.trans h1.hc (x2.trans h2.hc x3)) (h2.to x3 k3) er, qx⟩
end
section
variable {X : Cx} {T : Tab} {W : WX} {cn cm k : Nat} {C C2 g : Addr} {fn fm ps : List Str} {fd : FuncData} {c : CtG} {e : Expr} {w : WpE}
def isDk (s : Sl) (cs : List Cell) : Prop := ∃ (q : Addr) (j : Nat) (kds : List (Key × D)), s = .dat (.cls q) ∧ cs[j]? = some (Cell.dctA q kds)
theorem isDk_ty {ad : List Addr} {F : Addr → Prop} {H : Hp} {cs : List Cell} {v : V} {s : Sl} (h : HoldC T X.K ad F H cs) (r : SlRep T X.K ad F H v s) (hw : isDk s cs) : TyX X.K H v (.type "dict") := by
  obtain ⟨q, j, kds, rfl, hj⟩ := hw
  have r : Rep T X.K (Mm ad F) H v (.cls q) := r
  cases r
  obtain ⟨kvs, _, e1, _⟩ := h.dctA hj
  exact .base (.dK e1)
def refKW (cn : Nat) (c : CtG) : W2 := fun s1 s2 cs R => isRf cn s1 cs ∧ isDk s2 cs ∧ c [s1, s2] cs R
theorem jc_refK (hT : T cn = some (C, fn)) (O : OthC X.K C) (hsub : PySem.W.subIn X.K (.type "dict") (.ref C) = some false) (G : FnOk X.prog X.w X.K X.mg X.base CX0 k g fd ps (spG T X.K c)) (hr : Room k X.A) (hb : Binds X.K fd ps []) (hs : PySem.W.findIn X.K (.ref C) "__eq__" = some (some (.ref g))) (hf : PySem.W.isFn X.K (.ref g) = true) : JCmpP X T .Eq (refKW cn c) := fun s1 s2 cs R ⟨h1, h2, hc⟩ => by
  refine ⟨_, cop_ownEqD O G hr hb hs hf, fun ad F H v w Q hh r1 r2 q => ?_⟩
  obtain ⟨a, dx, fs, rfl, e1⟩ := isRf_of hT hh r1 h1
  exact ⟨a, dx, _, _, rfl, e1, isDk_ty hh r2 h2, hsub, callG_then (ss := [s1, s2]) hh ⟨r1, r2, trivial⟩ hc fun s c' v H' ad' hR x2 c2 r2 => q s c' v H' ad' hR x2 c2 r2⟩
def refNeKW (cn : Nat) (c : CtG) : W2 := fun s1 s2 cs R => isRf cn s1 cs ∧ isDk s2 cs ∧ c [s1, s2] cs fun s c' => isB s fun b => R (.dat (.bl (!b))) c'
theorem jc_refNeK (hT : T cn = some (C, fn)) (N : NeC X.K C) (hsub : PySem.W.subIn X.K (.type "dict") (.ref C) = some false) (G : FnOk X.prog X.w X.K X.mg X.base CX0 k g fd ps (spG T X.K c)) (hr : Room (k + 1) X.A) (hb : Binds X.K fd ps []) (hs : PySem.W.findIn X.K (.ref C) "__eq__" = some (some (.ref g))) (hf : PySem.W.isFn X.K (.ref g) = true) : JCmpP X T .NotEq (refNeKW cn c) := fun s1 s2 cs R ⟨h1, h2, hc⟩ => by
  refine ⟨_, cop_ownNeD N G hr hb hs hf, fun ad F H v w Q hh r1 r2 q => ?_⟩
  obtain ⟨a, dx, fs, rfl, e1⟩ := isRf_of hT hh r1 h1
  refine ⟨a, dx, _, _, rfl, e1, isDk_ty hh r2 h2, hsub, callG_then (ss := [s1, s2]) hh ⟨r1, r2, trivial⟩ hc fun s c' v H' ad' hR x2 c2 r2 => ?_⟩
  obtain ⟨b, rfl, hR⟩ := isB_of hR
  have r3 : Rep T X.K (Mm ad' F) H' v (.bl b) := r2
  cases r3
  exact ⟨b, rfl, q _ c' _ H' ad' hR x2 c2 Rep.bl⟩
theorem isRf_ty {ad : List Addr} {F : Addr → Prop} {H : Hp} {cs : List Cell} {v : V} {s : Sl} (hT : T cm = some (C2, fm)) (hI : IsiC X.K C2) (h : HoldC T X.K ad F H cs) (r : SlRep T X.K ad F H v s) (hw : isRf cm s cs) : TyX X.K H v (.ref C2) := by
  obtain ⟨a, dx, fs, rfl, e1⟩ := isRf_of hT h r hw
  exact .base (.ins e1 hI.cl hI.ca hI.cn hI.ct hI.cm)
def refAW (cn cm : Nat) (c : CtG) : W2 := fun s1 s2 cs R => isRf cn s1 cs ∧ isRf cm s2 cs ∧ c [s1, s2] cs R
theorem jc_refA (hT : T cn = some (C, fn)) (hT2 : T cm = some (C2, fm)) (hI : IsiC X.K C2) (hsub : PySem.W.subIn X.K (.ref C2) (.ref C) = some false) (G : FnOk X.prog X.w X.K X.mg X.base CX0 k g fd ps (spG T X.K c)) (hr : Room k X.A) (hb : Binds X.K fd ps []) (hs : PySem.W.findIn X.K (.ref C) "__eq__" = some (some (.ref g))) (hf : PySem.W.isFn X.K (.ref g) = true) : JCmpP X T .Eq (refAW cn cm c) := fun s1 s2 cs R ⟨h1, h2, hc⟩ => by
  refine ⟨_, cop_ownEqO hsub G hr hb hs hf, fun ad F H v w Q hh r1 r2 q => ?_⟩
  obtain ⟨a, dx, fs, rfl, e1⟩ := isRf_of hT hh r1 h1
  exact ⟨a, dx, _, rfl, e1, isRf_ty hT2 hI hh r2 h2, callG_then (ss := [s1, s2]) hh ⟨r1, r2, trivial⟩ hc fun s c' v H' ad' hR x2 c2 r2 => q s c' v H' ad' hR x2 c2 r2⟩
def refNeAW (cn cm : Nat) (c : CtG) : W2 := fun s1 s2 cs R => isRf cn s1 cs ∧ isRf cm s2 cs ∧ c [s1, s2] cs fun s c' => isB s fun b => R (.dat (.bl (!b))) c'
theorem jc_refNeA (hT : T cn = some (C, fn)) (hT2 : T cm = some (C2, fm)) (N : NeC X.K C) (hI : IsiC X.K C2) (hsub : PySem.W.subIn X.K (.ref C2) (.ref C) = some false) (G : FnOk X.prog X.w X.K X.mg X.base CX0 k g fd ps (spG T X.K c)) (hr : Room (k + 1) X.A) (hb : Binds X.K fd ps []) (hs : PySem.W.findIn X.K (.ref C) "__eq__" = some (some (.ref g))) (hf : PySem.W.isFn X.K (.ref g) = true) : JCmpP X T .NotEq (refNeAW cn cm c) := fun s1 s2 cs R ⟨h1, h2, hc⟩ => by
  refine ⟨_, cop_ownNeO N hsub G hr hb hs hf, fun ad F H v w Q hh r1 r2 q => ?_⟩
  obtain ⟨a, dx, fs, rfl, e1⟩ := isRf_of hT hh r1 h1
  refine ⟨a, dx, _, rfl, e1, isRf_ty hT2 hI hh r2 h2, callG_then (ss := [s1, s2]) hh ⟨r1, r2, trivial⟩ hc fun s c' v H' ad' hR x2 c2 r2 => ?_⟩
  obtain ⟨b, rfl, hR⟩ := isB_of hR
  have r3 : Rep T X.K (Mm ad' F) H' v (.bl b) := r2
  cases r3
  exact ⟨b, rfl, q _ c' _ H' ad' hR x2 c2 Rep.bl⟩
def wIsiK (tb : String → Option Bool) (ob : Nat → Option Bool) (w : WpE) : WpE := fun sl cs R Rx => w sl cs (fun s c => (isDk s c ∧ ∃ b, tb "dict" = some b ∧ R (.dat (.bl b)) c) ∨ isiAW tb ob s c fun b => R (.dat (.bl b)) c) Rx
end
end Dl
namespace Dl
open PySem L2
section
variable {X : Cx} {T : Tab} {W : WX} {e : Expr} {w : WpE}
theorem je_isiK {x : Str} {C2 : Addr} {pos p p2 : Pos} {tb : String → Option Bool} {ob : Nat → Option Bool} (hi : X.mg "isinstance" = none) (hm : X.mg x = some (.ref C2)) (htb : ∀ t b, tb t = some b → PySem.W.kitOne X.K (.type t) (.ref C2) = some b) (hob : ObIs X.K T (.ref C2) ob) (he : JE X T W e w) (hg : Gl X "isinstance" := by rfl) (hg2 : Gl X x := by rfl) (hdb : (x == ("__debug__" : Str)) = false := by decide)
    (hs1 : starEach [e, .Name x p2] X.env = (false, eval e X.env) :: starEach [.Name x p2] X.env := by rfl) (hs2 : starEach [.Name x p2] X.env = (false, eval (.Name x p2) X.env) :: starEach [] X.env := by rfl) (hpl : (backTo pos (starEach [.Name x p2] X.env)).any (·.1) = false := by rfl) :
    JE X T W (.Call (.Name "isinstance" p) [e, .Name x p2] [] pos) (wIsiK tb ob w) :=
  weak (pe_callB call_isi hg hi (by decide +kernel) (pa_cons he (pa_cons (pe_glob (v := .ref C2) hg2 hm rfl hdb) pa_nil hs2) hs1) (by decide) (by decide) hs1 hpl) fun σ H Q ⟨ad, F, sl, cs, R, Rx, h0, hw, q, qx⟩ => ⟨ad, F, sl, cs, _, Rx, h0, hw, fun s c1 v H1 ad1 hw1 x1 h1 r1 => by
    rcases hw1 with ⟨hk, b, hb, hR⟩ | ⟨pp, j, n, fs, rfl, e0, hw1⟩ | hw1
    · exact ⟨v, .ref C2, .type "dict", .ref C2, b, rfl, .own C2, isDk_ty h1.hc r1 hk, htb _ _ hb, q _ c1 _ H1 ad1 hR x1 h1 Rep.bl⟩
    · obtain ⟨k, hk, hR⟩ := optW_of hw1
      obtain ⟨C, fn, hT, hI, hk⟩ := hob _ _ hk
      have r1 : Rep T X.K (Mm ad1 F) H1 v (.cls pp) := r1
      cases r1
      obtain ⟨dx, vs, _, e1, hl, _⟩ := h1.hc.insA hT e0
      exact ⟨_, .ref C2, .ref C, .ref C2, k, rfl, .own C2, .base (.ins e1 hI.cl hI.ca hI.cn hI.ct hI.cm), hk, q _ c1 _ H1 ad1 hR x1 h1 Rep.bl⟩
    · unfold isiW at hw1
      split at hw1
      · obtain ⟨k, hk, hR⟩ := optW_of hw1
        obtain ⟨C, fn, hT, hI, hk⟩ := hob _ _ hk
        cases r1 with
        | @obj a C' dx _ fn' vs' _ ht na e1 hl r =>
          rw [hT] at ht
          cases ht
          exact ⟨_, .ref C2, .ref C, .ref C2, k, rfl, .own C2, .base (.ins e1 hI.cl hI.ca hI.cn hI.ct hI.cm), hk, q _ c1 _ H1 ad1 hR x1 h1 Rep.bl⟩
      · split at hw1
        · rename_i ht
          obtain ⟨k, hk, hR⟩ := optW_of hw1
          exact ⟨v, .ref C2, .type _, .ref C2, k, rfl, .own C2, tyx_of r1 ht, htb _ _ hk, q _ c1 _ H1 ad1 hR x1 h1 Rep.bl⟩
        · exact hw1.elim
      · exact hw1.elim, qx⟩
end
end Dl
namespace Dl
open PySem L2 PySem.Spec PyProof.Rows
class Chk (p : Prop) where
  b : Bool
  ok : b = true → p
instance (priority := low) chkDec {p : Prop} [d : Decidable p] : Chk p := ⟨@decide p d, fun h => of_decide_eq_true h⟩
instance chkAnd {p q : Prop} [c : Chk p] [d : Chk q] : Chk (p ∧ q) := ⟨c.b && d.b, fun h => ⟨c.ok (Bool.and_eq_true_iff.mp h).1, d.ok (Bool.and_eq_true_iff.mp h).2⟩⟩
instance chkBT {b : Bool} : Chk (b = true) := ⟨b, id⟩
theorem b2 {a b : Bool} (h : (a && b) = true) : a = true ∧ b = true := Bool.and_eq_true_iff.mp h
section
variable {K : PySem.W.Frag} {C g p : Addr} {op : Operator} {m : Str}
instance chkCIn : Chk (CIn K C) := ⟨Chk.b (PySem.W.typeIn K (.ref C) = some (.type "type") ∧ PySem.W.readsIn K C (.type "type") = true ∧ PySem.W.specialIn K (.ref C) "__getattribute__" = some (some (.builtin "type.__getattribute__"))) && (match PySem.W.findCls K (.ref C) (.type "type") "__init__" with
    | some (.val (.builtin i)) => decide (i = "ValueError.__init__")
    | _ => false), fun h => by
  obtain ⟨h1, h2⟩ := b2 h
  obtain ⟨x1, x2, x3⟩ := Chk.ok h1
  refine ⟨x1, x2, x3, ?_⟩
  split at h2
  · rename_i i e
    rw [of_decide_eq_true h2] at e
    exact e
  · cases h2⟩
instance chkExcC : Chk (ExcC K C) := ⟨Chk.b (PySem.W.findIn K (.ref C) "__getattribute__" = some (some (.builtin "BaseException.__getattribute__")) ∧ PySem.W.findIn K (.ref C) "__getattr__" = some none ∧ PySem.W.subIn K (.ref C) (.type "BaseException") = some true ∧ PySem.W.hasDictIn K C = true ∧ PySem.W.findIn K (.ref C) "__class__" = some (some (.builtin "object.__class__")) ∧ PySem.W.specialIn K (.builtin "object.__class__") "__get__" = some (some (.builtin "getset_descriptor.__get__")) ∧ PySem.W.takesIn K (.builtin "object.__class__") = some true ∧ PySem.W.mroIn K C (.type "object") = some true), fun h =>
  let ⟨x1, x2, x3, x4, x5, x6, x7, x8⟩ := Chk.ok h
  ⟨x1, x2, x3, x4, x5, x6, x7, x8⟩⟩
instance chkXfC : Chk (XfC K C) := ⟨xfB K C, xfB_ok⟩
def excB (K : PySem.W.Frag) (C : Addr) (r : List Value → Bool) (nid : String) : Bool := match K.lookup C with
  | some ⟨.type "type", _, .cls cd, sl⟩ => (match cd.mro, sl.toList with
    | .ref C' :: bm, [_, _, _, _, some (.builtin n), _] => C' == C && n == nid && !cd.hasDel && cd.hasDict && r bm
    | _, _ => false)
  | _ => false
theorem excB_ok {r : List Value → Bool} {nid : String} (q : excB K C r nid = true) : ∃ nm qn N bs bm sn sub ab col dd k0 k1 k2 k3 k5, K.lookup C = some (excClassObj nm qn C N bs bm true sn sub ab col dd k0 k1 k2 k3 k5 nid) ∧ r bm = true := by
  unfold excB at q
  split at q
  · rename_i dd cd sl ho
    split at q
    · rename_i C' bm k0 k1 k2 k3 n k5 hm hs
      simp only [Bool.and_eq_true, beq_iff_eq, Bool.not_eq_true'] at q
      obtain ⟨⟨⟨⟨e1, e2⟩, e3⟩, e4⟩, hr⟩ := q
      subst e1 e2
      obtain ⟨nm, bs, mro, ns, qn, hd, sn, sub, ab, col, del⟩ := cd
      dsimp only at hm e3 e4
      subst hm e3 e4
      have hsl : sl = #[k0, k1, k2, k3, some (.builtin n), k5] := by
        obtain ⟨l⟩ := sl
        exact congrArg Array.mk hs
      subst hsl
      exact ⟨nm, qn, ns, bs, bm, sn, sub, ab, col, dd, k0, k1, k2, k3, k5, ho, hr⟩
    · cases q
  · cases q
instance chkOexC : Chk (OexC K C) := ⟨excB K C PySem.HandSPX.refsVE "ValueError.__new__" && Chk.b (PySem.W.findIn K (.ref C) "__setattr__" = some (some (.builtin "object.__setattr__")) ∧ PySem.W.subIn K (.ref C) (.type "BaseException") = some true ∧ PySem.W.typeIn K (.ref C) = some (.type "type") ∧ PySem.W.keepIn K (.ref C) = true), fun h => by
  obtain ⟨h1, h2⟩ := b2 h
  obtain ⟨x1, x2, x3, x4⟩ := Chk.ok h2
  obtain ⟨nm, qn, N, bs, bm, sn, sub, ab, col, dd, k0, k1, k2, k3, k5, e, r⟩ := excB_ok h1
  exact ⟨⟨nm, qn, N, bs, bm, sn, sub, ab, col, dd, k0, k1, k2, k3, k5, e, r⟩, x1, x2, x3, x4⟩⟩
def tlB (t : List Value) : List Value → Bool
  | .ref c :: r => decide (Value.ref c :: r = t) || tlB t r
  | l => decide (l = t)
theorem tlB_ok {t : List Value} : ∀ {l : List Value}, tlB t l = true → Tl t l
  | l, h => by
    unfold tlB at h
    split at h
    · rename_i c r
      rcases Bool.or_eq_true_iff.mp h with h | h
      · rw [of_decide_eq_true h]; exact .base
      · exact .ref (tlB_ok h)
    · rw [of_decide_eq_true h]; exact .base
instance chkOexB {t : List Value} {nid : String} : Chk (OexB K C t nid) := ⟨excB K C (tlB t) nid && Chk.b (PySem.W.findIn K (.ref C) "__setattr__" = some (some (.builtin "object.__setattr__")) ∧ PySem.W.subIn K (.ref C) (.type "BaseException") = some true ∧ PySem.W.typeIn K (.ref C) = some (.type "type") ∧ PySem.W.keepIn K (.ref C) = true), fun h => by
  obtain ⟨h1, h2⟩ := b2 h
  obtain ⟨x1, x2, x3, x4⟩ := Chk.ok h2
  obtain ⟨nm, qn, N, bs, bm, sn, sub, ab, col, dd, k0, k1, k2, k3, k5, e, r⟩ := excB_ok h1
  exact ⟨⟨nm, qn, N, bs, bm, sn, sub, ab, col, dd, k0, k1, k2, k3, k5, e, tlB_ok r⟩, x1, x2, x3, x4⟩⟩
instance chkNeC : Chk (NeC K C) := ⟨Chk.b (PySem.W.mroIn K C (.type "object") = some true ∧ PySem.W.findIn K (.ref C) "__ne__" = some (some (.builtin "object.__ne__"))), fun h => let ⟨x1, x2⟩ := Chk.ok h; ⟨x1, x2⟩⟩
instance chkOthC : Chk (OthC K C) := ⟨Chk.b (PySem.W.subIn K (.type "NoneType") (.ref C) = some false ∧ PySem.W.subIn K (.type "bool") (.ref C) = some false ∧ PySem.W.subIn K (.type "int") (.ref C) = some false ∧ PySem.W.subIn K (.type "str") (.ref C) = some false ∧ PySem.W.subIn K (.type "tuple") (.ref C) = some false ∧ PySem.W.subIn K (.type "list") (.ref C) = some false), fun h => let ⟨x1, x2, x3, x4, x5, x6⟩ := Chk.ok h; ⟨x1, x2, x3, x4, x5, x6⟩⟩
instance chkNoIn : Chk (NoIn K C op) := ⟨(match PySem.W.clsIn K C with
    | some cd => decide (cd.mro = [.ref C, .type "object"])
    | none => false) && Chk.b (PySem.W.findIn K (.ref C) (dunderI op.info.2) = some none ∧ PySem.W.findIn K (.type "object") (dunderI op.info.2) = some none), fun h => by
  obtain ⟨h1, h2⟩ := b2 h
  obtain ⟨x1, x2⟩ := Chk.ok h2
  refine ⟨?_, x1, x2⟩
  split at h1
  · rename_i cd e
    exact ⟨cd, e, of_decide_eq_true h1⟩
  · cases h1⟩
instance chkOpC : Chk (OpC K C op g) := ⟨Chk.b (PySem.W.selfFirst K C = true ∧ PySem.W.findIn K (.ref C) (PySem.dunder op.info.2) = some (some (.ref g)) ∧ PySem.W.isFn K (.ref g) = true ∧ PySem.W.subIn K (.type "int") (.ref C) = some false) && ((match PySem.W.findIn K (.ref C) (dunderR op.info.2) with
    | some none => true
    | some (some (.ref _)) => true
    | _ => false) && ((PySem.W.findIn K (.type "int") (PySem.dunder op.info.2)).isSome && (PySem.W.findIn K (.type "int") (dunderR op.info.2)).isSome)), fun h => by
  obtain ⟨h1, h⟩ := b2 h
  obtain ⟨h2, h⟩ := b2 h
  obtain ⟨h3, h4⟩ := b2 h
  obtain ⟨x1, x2, x3, x4⟩ := Chk.ok h1
  refine ⟨x1, x2, x3, ?_, Option.isSome_iff_exists.mp h3, Option.isSome_iff_exists.mp h4, x4⟩
  split at h2
  · rename_i e; exact ⟨_, e, .inl rfl⟩
  · rename_i e; exact ⟨_, e, .inr ⟨_, rfl⟩⟩
  · cases h2⟩
instance chkOpR : Chk (OpR' K C op g) := ⟨Chk.b (PySem.W.selfFirst K C = true ∧ PySem.W.findIn K (.ref C) (dunderR op.info.2) = some (some (.ref g)) ∧ PySem.W.isFn K (.ref g) = true ∧ PySem.W.subIn K (.ref C) (.type "int") = some false) && ((match PySem.W.findIn K (.ref C) (PySem.dunder op.info.2) with
    | some (some (.ref _)) => true
    | _ => false) && (match PySem.W.findIn K (.type "int") (PySem.dunder op.info.2), PySem.W.findIn K (.type "int") (dunderR op.info.2) with
    | some fo, some ro => ((fo.isSome && !isSeqSlot fo) || (ro.isSome && !isSeqSlot ro))
    | _, _ => false)), fun h => by
  obtain ⟨h1, h⟩ := b2 h
  obtain ⟨h2, h3⟩ := b2 h
  obtain ⟨x1, x2, x3, x4⟩ := Chk.ok h1
  refine ⟨x1, ?_, x2, x3, ?_, x4⟩
  · split at h2
    · rename_i e; exact ⟨_, e⟩
    · cases h2
  · split at h3
    · rename_i fo ro e1 e2; exact ⟨fo, ro, e1, e2, h3⟩
    · cases h3⟩
instance chkProp : Chk (PropOf K C m p g) := ⟨Chk.b (PySem.W.findIn K (.ref C) m = some (some (.ref p)) ∧ PySem.W.specialIn K (.ref p) "__get__" = some (some (.builtin "property.__get__")) ∧ PySem.W.takesIn K (.ref p) = some true) && (match PySem.W.recIn K p "property" with
    | some (.ref f :: _) => decide (f = g)
    | _ => false), fun h => by
  obtain ⟨h1, h2⟩ := b2 h
  obtain ⟨x1, x2, x3⟩ := Chk.ok h1
  refine ⟨x1, x2, x3, ?_⟩
  split at h2
  · rename_i f r e
    rw [of_decide_eq_true h2] at e
    exact ⟨r, e⟩
  · cases h2⟩
instance chkSmC : Chk (SmC K C m p g) := ⟨Chk.b (PySem.W.specialIn K (.ref C) "__getattribute__" = some (some (.builtin "type.__getattribute__")) ∧ PySem.W.typeIn K (.ref C) = some (.type "type") ∧ PySem.W.readsIn K C (.type "type") = true) && ((match PySem.W.findCls K (.ref C) (.type "type") m with
    | some (.get (.builtin i) (.ref p') .none (.ref C')) => decide (i = "staticmethod.__get__") && (decide (p' = p) && decide (C' = C))
    | _ => false) && (match PySem.W.recIn K p "staticmethod" with
    | some (.ref f :: _) => decide (f = g)
    | _ => false)), fun h => by
  obtain ⟨h1, h⟩ := b2 h
  obtain ⟨h2, h3⟩ := b2 h
  obtain ⟨x1, x2, x3⟩ := Chk.ok h1
  refine ⟨x1, x2, x3, ?_, ?_⟩
  · split at h2
    · rename_i i p' C' e
      obtain ⟨y1, y⟩ := b2 h2
      obtain ⟨y2, y3⟩ := b2 y
      rw [of_decide_eq_true y1, of_decide_eq_true y2, of_decide_eq_true y3] at e
      exact e
    · cases h2
  · split at h3
    · rename_i f r e
      rw [of_decide_eq_true h3] at e
      exact ⟨r, e⟩
    · cases h3⟩
instance chkGint {x : Str} {i : Int} : Chk (∃ t, PySem.W.nsIn K mainGlobals x = some (some (.int i t))) := ⟨(match PySem.W.nsIn K mainGlobals x with
    | some (some (.int j _)) => decide (j = i)
    | _ => false), fun h => by
  split at h
  · rename_i j t e
    rw [of_decide_eq_true h] at e
    exact ⟨t, e⟩
  · cases h⟩
instance chkGstr {x y : Str} : Chk (∃ t, PySem.W.nsIn K mainGlobals x = some (some (.str y t))) := ⟨(match PySem.W.nsIn K mainGlobals x with
    | some (some (.str z _)) => decide (z = y)
    | _ => false), fun h => by
  split at h
  · rename_i j t e
    rw [of_decide_eq_true h] at e
    exact ⟨t, e⟩
  · cases h⟩
def tupAt (K : PySem.W.Frag) (a : Addr) (vs : List V) : Bool := match K.lookup a with
  | some ⟨.type c, _, .seq its _, _⟩ => decide (c = "tuple") && (decide (its.size ≤ sizeLine) && He.relAll vs its.toList)
  | _ => false
theorem tupAt_ok {a : Addr} {vs : List V} (h : tupAt K a vs = true) : SqT K (fun _ => none) a vs := by
  unfold tupAt at h
  split at h
  · rename_i c od its n sl e
    obtain ⟨h1, h⟩ := b2 h
    obtain ⟨h2, h3⟩ := b2 h
    exact .inr ⟨_, its, n, e, congrArg Value.type (of_decide_eq_true h1), rfl, of_decide_eq_true h2, He.relAll_ok h3⟩
  · cases h
instance chkSqT {a : Addr} {vs : List V} : Chk (SqT K (fun _ => none) a vs) := ⟨tupAt K a vs, tupAt_ok⟩
instance chkKitB {u : String} {b : Bool} : Chk (PySem.W.kitOne K (.ref C) (.type u) = some b) := ⟨PySem.W.kitMeta u && Chk.b (PySem.W.subIn K (.ref C) (.type u) = some b), fun h => kit_tyb (b2 h).1 (Chk.ok (b2 h).2)⟩
instance chkKitC {t : Value} {b : Bool} : Chk (PySem.W.kitOne K t (.ref C) = some b) := ⟨!(t == .ref C) && Chk.b (PySem.W.hasDictIn K C = true ∧ PySem.W.typeIn K (.ref C) = some (.type "type") ∧ PySem.W.subIn K t (.ref C) = some b), fun h => by
  obtain ⟨h1, h2⟩ := b2 h
  obtain ⟨x1, x2, x3⟩ := Chk.ok h2
  exact kit_cls (by simpa using h1) x1 x2 x3⟩
instance chkExm {t : Value} {b : Bool} : Chk (PySem.W.exmOne K t (.ref C) = some b) := ⟨Chk.b (PySem.W.subIn K (.ref C) (.type "BaseException") = some true ∧ PySem.W.hasDictIn K C = true ∧ PySem.W.typeIn K (.ref C) = some (.type "type") ∧ PySem.W.subIn K t (.ref C) = some b), fun h => let ⟨x1, x2, x3, x4⟩ := Chk.ok h; PySem.W.exm_ref x1 x2 x3 x4⟩
instance chkBi {B : String} {n : Str} {i : String} : Chk (PySem.W.findCls K (.type B) (.type "type") n = some (.val (.builtin i))) := ⟨(match PySem.W.findCls K (.type B) (.type "type") n with
    | some (.val (.builtin j)) => decide (j = i)
    | _ => false), fun h => by
  split at h
  · rename_i j e
    rw [of_decide_eq_true h] at e
    exact e
  · cases h⟩
end
abbrev Pa := PySem.W.Frag → Addr
def gP (x : Str) : Pa := fun K => He.ga K x
def mP (c : Pa) (m : Str) : Pa := fun K => He.ma K (c K) m
def rP (p : Pa) (kind : String) : Pa := fun K => match PySem.W.recIn K (p K) kind with
  | some (.ref g :: _) => g
  | _ => 0
def smP (c : Pa) (m : Str) : Pa := fun K => match PySem.W.findCls K (.ref (c K)) (.type "type") m with
  | some (.get _ (.ref p) _ _) => p
  | _ => 0
structure DefX where
  at_ : Pa
  name : Str
  qual : Str
  params : Arguments
  body : List Stmt
  scope : Scope
  dfl : List He.Dv := []
  kwd : List (Str × He.Dv) := []
def DefX.val (d : DefX) : He.FnW := some (d.name, d.qual, d.params, .stmts d.body, d.scope, mainGlobals, [], builtinsNs)
def DefX.dvs (K : PySem.W.Frag) (d : DefX) : List V := d.dfl.map (He.Dv.v K)
def DefX.kws (K : PySem.W.Frag) (d : DefX) : List (Str × V) := d.kwd.map fun q => (q.1, q.2.v K)
def fnX (K : PySem.W.Frag) (a : Addr) : He.FnW := match K.lookup a with
  | some ⟨_, _, .func fd, _⟩ => some (fd.name, fd.qualname, fd.params, fd.body, fd.scope, fd.globals, fd.closure, fd.builtins)
  | _ => none
def DefX.ok (K : PySem.W.Frag) (d : DefX) : Bool := PySem.W.keepIn K (.ref (d.at_ K)) && (match K.lookup (d.at_ K) with
  | some ⟨_, _, .func fd, _⟩ => PySem.W.codeIn K fd.code d.qual && (He.dflB K fd.defaults (d.dvs K) && He.kwdB K fd.kwdefaults (d.kws K))
  | _ => false)
theorem DefX.funD {K : PySem.W.Frag} {d : DefX} (e : fnX K (d.at_ K) = d.val) (c : d.ok K = true) : ∃ fd, FunD K d.name d.qual d.params d.body d.scope (d.dvs K) (d.kws K) (d.at_ K) fd := by
  obtain ⟨kp, c2⟩ := b2 c
  unfold fnX at e
  split at e
  · rename_i oc od fd osl q
    rw [q] at c2
    obtain ⟨n1, n2, n3, n4, n5, n6, n7, n8, n9, n10, n11, n12, n13, n14, n15⟩ := fd
    have e2 : (some (n1, n2, n3, n4, n5, n6, n7, n15) : He.FnW) = some (d.name, d.qual, d.params, .stmts d.body, d.scope, mainGlobals, [], builtinsNs) := e
    simp only [Option.some.injEq, Prod.mk.injEq] at e2
    obtain ⟨h1, h2, h3, h4, h5, h6, h7, h8⟩ := e2
    subst h1 h2 h3 h4 h5 h6 h7 h8
    have c3 : (PySem.W.codeIn K n13 d.qual && (He.dflB K n8 (d.dvs K) && He.kwdB K n9 (d.kws K))) = true := c2
    obtain ⟨k1, k2⟩ := b2 c3
    obtain ⟨k3, k4⟩ := b2 k2
    exact ⟨_, ⟨oc, od, n8, n9, n10, n11, n12, n13, n14, osl, rfl, q, k1, He.dflB_ok k3, He.kwdB_ok k4⟩, kp⟩
  · cases e
theorem toFun {K : PySem.W.Frag} {x qual : Str} {st : Stmt} {f : Addr} {fd : FuncData} (h : FunD K x qual (defArgs st) (defBody st) (defScope st) [] [] f fd) : L2.Fun K x qual st f fd := by
  obtain ⟨oc, od, dV, kV, doc, pm, an, cdv, ct, osl, e, lk, hcd, hd, hk⟩ := h.ex
  rcases hd with ⟨_, rfl⟩ | ⟨z, _⟩
  · exact ⟨⟨oc, od, kV, doc, pm, an, cdv, ct, osl, e, lk, hcd⟩, h.kp⟩
  · exact absurd rfl z
structure Pc where
  p : PySem.W.Frag → Prop
  c : ∀ K, Chk (p K)
abbrev AlX : Type := Bool × List He.FnW
def obsX (fl : List Pc) (fn : List DefX) (K : PySem.W.Frag) : AlX := ((fl.all fun f => (f.c K).b) && fn.all fun d => d.ok K, fn.map fun d => fnX K (d.at_ K))
def valX (fn : List DefX) : AlX := (true, fn.map DefX.val)
def SaysX (fl : List Pc) (fn : List DefX) (K : PySem.W.Frag) : Prop := obsX fl fn K = valX fn
def reachT (g : Addr → Option Obj) : Nat → Nat → List (Addr × Obj) → List Addr → List (Addr × Obj)
  | 0, _, acc, _ => acc
  | n + 1, t, acc, front => match step front t acc [] with
    | (t', acc', nf) => reachT g n t' acc' nf
where step : List Addr → Nat → List (Addr × Obj) → List Addr → Nat × List (Addr × Obj) × List Addr
  | [], t, acc, nf => (t, acc, nf)
  | a :: as, t, acc, nf => match Nat.beq (Nat.land (Nat.shiftRight t a) 1) 0 with
    | false => step as t acc nf
    | true => match g a with
      | some o => step as (Nat.lor t (Nat.shiftLeft 1 a)) ((a, o) :: acc) (He.refsD o ++ nf)
      | none => step as t acc nf
def KX (g : Addr → Option Obj) (n : Nat) : PySem.W.Frag := (reachT g n 0 [] [mainGlobals, cStatics]).reverse
theorem reach_step {g : Addr → Option Obj} : ∀ {as : List Addr} {t : Nat} {acc : List (Addr × Obj)} {nf : List Addr}, (∀ q ∈ acc, g q.1 = some q.2) → ∀ q ∈ (reachT.step g as t acc nf).2.1, g q.1 = some q.2
  | [], t, acc, nf, h => h
  | a :: as, t, acc, nf, h => by
    unfold reachT.step
    split
    · exact reach_step h
    · split
      · rename_i o e
        exact reach_step fun q hq => by
          rcases List.mem_cons.mp hq with rfl | hq
          · exact e
          · exact h q hq
      · exact reach_step h
theorem reach_ok {g : Addr → Option Obj} : ∀ {n : Nat} {t : Nat} {acc : List (Addr × Obj)} {front : List Addr}, (∀ q ∈ acc, g q.1 = some q.2) → ∀ q ∈ reachT g n t acc front, g q.1 = some q.2
  | 0, _, _, _, h => h
  | n + 1, t, acc, front, h => by
    unfold reachT
    exact reach_ok (reach_step h)
theorem KX_in {h : Heap} {n : Nat} : (KX h.get? n).In h := fun a o e => by
  have hm : (a, o) ∈ KX h.get? n := by
    have : ∀ {l : PySem.W.Frag}, l.lookup a = some o → (a, o) ∈ l := by
      intro l
      induction l with
      | nil => intro e; cases e
      | cons p l ih =>
        intro e
        obtain ⟨b, ob⟩ := p
        rw [List.lookup_cons] at e
        cases q : a == b with
        | true =>
          rw [q] at e
          cases e
          rw [beq_iff_eq.mp q]
          exact List.mem_cons_self
        | false =>
          rw [q] at e
          exact List.mem_cons_of_mem _ (ih e)
    exact this e
  exact reach_ok (g := h.get?) (fun q hq => by cases hq) (a, o) (List.mem_reverse.mp hm)
def hookX (n : Nat) (fl : List Pc) (fn : List DefX) : PySem.W.Hook where
  α := AlX
  obs := fun s => obsX fl fn (KX s.heap.get? n)
  val := fun _ => valX fn
  says := fun _ h => ∃ K : PySem.W.Frag, K.In h ∧ SaysX fl fn K
  of := fun _ _ e => ⟨_, KX_in, e⟩
  keeps := fun _ _ _ ⟨K, hK, c⟩ k => ⟨K, PySem.W.Frag.In.keeps hK k, c⟩
def obX (n : Nat) (fl : List Pc) (fn : List DefX) (s : PySem.W.SharedT) : AlX := obsX fl fn (KX (HandSHeadRun.getT s) n)
theorem obX_eq (n : Nat) (fl : List Pc) (fn : List DefX) (s : PySem.W.SharedT) : obX n fl fn s = (hookX n fl fn).obs s.abs := by
  have e : HandSHeadRun.getT s = s.abs.heap.get? := funext (HandSHeadRun.getT_eq s)
  unfold obX
  rw [e]
  rfl
section
variable {fl : List Pc} {fn : List DefX} {K : PySem.W.Frag}
theorem SaysX.fact (c : SaysX fl fn K) (i : Nat) {f : Pc} (h : fl[i]? = some f := by rfl) : f.p K := by
  have c1 := (b2 (show ((fl.all fun f => (f.c K).b) && fn.all fun d => d.ok K) = true from congrArg (fun z : AlX => z.1) c)).1
  exact (f.c K).ok (List.all_eq_true.mp c1 f (List.mem_of_getElem? h))
theorem SaysX.def_ (c : SaysX fl fn K) (i : Nat) {d : DefX} (h : fn[i]? = some d := by rfl) : ∃ fd, FunD K d.name d.qual d.params d.body d.scope (d.dvs K) (d.kws K) (d.at_ K) fd := by
  have c2 := (b2 (show ((fl.all fun f => (f.c K).b) && fn.all fun d => d.ok K) = true from congrArg (fun z : AlX => z.1) c)).2
  have e : fn.map (fun d => fnX K (d.at_ K)) = fn.map DefX.val := congrArg (fun z : AlX => z.2) c
  have e2 : (fn.map fun d => fnX K (d.at_ K))[i]? = (fn.map DefX.val)[i]? := by rw [e]
  rw [List.getElem?_map, List.getElem?_map, h] at e2
  exact DefX.funD (Option.some.inj e2) (List.all_eq_true.mp c2 d (List.mem_of_getElem? h))
end
def Run1 {α : Type} (r : PySem.W.OpenRow) (M : Nat) (f : PySem.W.SharedT → α) (a : α) (w : World) : Prop := ∀ os : OsState, (HandSHeadRun.endF (HandSHeadRun.stepQ (HandSHeadRun.denQ HandSHeadRun.tabQ) r.prog w) M r.prog w os).map f = some a
theorem run3 {r : PySem.W.OpenRow} {q : Program} {H : PySem.W.Hook} {ob : PySem.W.SharedT → H.α} {M : Nat} {loose : List Str} {w : World} (h1 : Run1 r M (fun s => HandSHeadRun.looksF r.prog (PySem.W.boot_heap w.params) s.abs) true w)
    (h2 : Run1 r M (fun s => HandSHeadRun.seenQ q loose (importedModules r.prog.main.body) (fun s => PySem.W.xlAt q [] s && PySem.W.recOk r.toRowW.records s) s.abs) (PySem.W.openGood q loose) w) (h3 : Run1 r M ob (H.val w) w) : HandSHeadRun.RunEq r q H ob M loose w := fun os => by
  have a1 := h1 os
  have a2 := h2 os
  have a3 := h3 os
  cases e : HandSHeadRun.endF (HandSHeadRun.stepQ (HandSHeadRun.denQ HandSHeadRun.tabQ) r.prog w) M r.prog w os with
  | none => rw [e] at a1; cases a1
  | some s =>
    rw [e] at a1 a2 a3
    have b1 := Option.some.inj a1
    have b2 := Option.some.inj a2
    have b3 := Option.some.inj a3
    show some (_, _, _) = some _
    exact congrArg some (Prod.ext b1 (Prod.ext b2 b3))
theorem walk_xG {l : PySem.W.OpenLaw} {n k : Nat} {q : Program} {loose : List Str} {XP : (Str → Option Value) → Heap → Prop} {YP : World → Heap → Prop} {d : DefRec} {x : Str} (hn : l.most = some n) (hn2 : n ≤ sizeLine) (hdf : d.params.defaults = []) (hr : Room k callerA)
    (F : ∀ (w : World) (mg : Str → Option Value) (fa : Addr) (h : Heap), YP w h → h.Ns mainGlobals mg → mg d.name = some (.ref fa) → ∃ (K : PySem.W.Frag) (fd : FuncData), K.In h ∧ (∀ (s : Shared) (u : Value), BindsTo s fd ⟨[u], []⟩ [(x, u)]) ∧ ∀ base : Heap, K.In base → base.Ns mainGlobals mg → FnG l.prog w K mg base CX0 k fa fd [x] (spL K))
    (h63 : n ≤ 63) : PySem.W.WalkO q loose XP YP l.row.toRowW d [] (fun f vs => PySem.call f vs) := by
  refine Att.attach_callB hn hdf fun w s₀ s₁ mg mb fa o pm cd doc a vs ns G Y ho hd hcd hmg h1 h2 h3 h4 h5 => ?_
  obtain ⟨K, fd, KX, hb, hF⟩ := F w mg fa _ Y G.T.g hmg
  exact law_g KX G.T.g G.T.b G.T.builtins G.T.nolimit h5 h1 h2 (Nat.le_trans h3 hn2) hr hF hb fun H hO hS => Dl.spL_of H a ns (Nat.le_trans h3 h63) h4 hO hS
end Dl
namespace Dl
open PySem L2
section
variable {K : PySem.W.Frag} {C g p : Addr} {op : Operator} {m : Str}
instance chkInpC : Chk (InpC K C op g) := ⟨Chk.b (PySem.W.selfFirst K C = true ∧ PySem.W.findIn K (.ref C) (dunderI op.info.2) = some (some (.ref g)) ∧ PySem.W.isFn K (.ref g) = true), fun h => let ⟨x1, x2, x3⟩ := Chk.ok h; ⟨x1, x2, x3⟩⟩
instance chkCRead {mc : Value} : Chk (ClX.CRead K C mc) := ⟨Chk.b (PySem.W.readsIn K C mc = true ∧ PySem.W.specialIn K (.ref C) "__getattribute__" = some (some (.builtin "type.__getattribute__"))), fun h => let ⟨x1, x2⟩ := Chk.ok h; ⟨x1, x2⟩⟩
instance chkCMet : Chk (ClX.CMet K C (.type "type") m p g) := ⟨PySem.W.fnIn K g && ((match PySem.W.findCls K (.ref C) (.type "type") m with
    | some (.get (.builtin i) (.ref p') .none (.ref C')) => decide (i = "classmethod.__get__") && (decide (p' = p) && decide (C' = C))
    | _ => false) && (match PySem.W.recIn K p "classmethod" with
    | some (.ref f :: _) => decide (f = g)
    | _ => false)), fun h => by
  obtain ⟨h1, h⟩ := b2 h
  obtain ⟨h2, h3⟩ := b2 h
  refine ⟨?_, ?_, h1⟩
  · split at h2
    · rename_i i p' C' e
      obtain ⟨y1, y⟩ := b2 h2
      obtain ⟨y2, y3⟩ := b2 y
      rw [of_decide_eq_true y1, of_decide_eq_true y2, of_decide_eq_true y3] at e
      exact e
    · cases h2
  · split at h3
    · rename_i f r e
      rw [of_decide_eq_true h3] at e
      exact ⟨r, e⟩
    · cases h3⟩
end
end Dl
namespace K
open PySem L2 Dl
def top (i : Nat) : Stmt := PySem.Challenge.pw_clashcounts_k49_states_set_and_told.main.body.getD i (.Pass ⟨0, 0, 0, 0⟩)
abbrev FD (K : PySem.W.Frag) (x qual : Str) (st : Stmt) (dvs : List V) (kws : List (Str × V)) (f : Addr) (fd : FuncData) : Prop := FunD K x qual (defArgs st) (defBody st) (defScope st) dvs kws f fd
abbrev s__law_box : Stmt := top 13
theorem sc__law_box : FnScope ["_law_script", "_law_k", "_law_cell", "_law_seed"] ["_law_script", "_law_k"] (defScope s__law_box) := ⟨rfl, rfl, rfl, by decide +kernel, rfl, by decide +kernel, by decide +kernel⟩
abbrev s__law_take : Stmt := top 14
theorem sc__law_take : FnScope ["_law_box_here", "_law_many", "_law_digit", "_law_one"] ["_law_box_here", "_law_many"] (defScope s__law_take) := ⟨rfl, rfl, rfl, by decide +kernel, rfl, by decide +kernel, by decide +kernel⟩
abbrev s__law_far : Stmt := top 20
theorem sc__law_far : FnScope ["_law_box_here"] ["_law_box_here"] (defScope s__law_far) := ⟨rfl, rfl, rfl, by decide +kernel, rfl, by decide +kernel, by decide +kernel⟩
abbrev s__law_free : Stmt := top 16
theorem sc__law_free : FnScope ["_law_n", "_law_one", "_law_other", "_law_now", "_law_name", "_law_k"] ["_law_n", "_law_one", "_law_other"] (defScope s__law_free) := ⟨rfl, rfl, rfl, by decide +kernel, rfl, by decide +kernel, by decide +kernel⟩
abbrev s__law_pick : Stmt := top 15
theorem sc__law_pick : FnScope ["_law_box_here", "_law_some"] ["_law_box_here", "_law_some"] (defScope s__law_pick) := ⟨rfl, rfl, rfl, by decide +kernel, rfl, by decide +kernel, by decide +kernel⟩
abbrev s__law_some_value : Stmt := top 19
theorem sc__law_some_value : FnScope ["_law_box_here", "_law_some"] ["_law_box_here"] (defScope s__law_some_value) := ⟨rfl, rfl, rfl, by decide +kernel, rfl, by decide +kernel, by decide +kernel⟩
abbrev s__law_filled : Stmt := top 25
theorem sc__law_filled : FnScope ["_law_n", "_law_thing", "_law_now", "_law_name"] ["_law_n", "_law_thing"] (defScope s__law_filled) := ⟨rfl, rfl, rfl, by decide +kernel, rfl, by decide +kernel, by decide +kernel⟩
abbrev s_Ring_cells : Stmt := inClass (top 9) 7
theorem sc_Ring_cells : FnScope ["self"] ["self"] (defScope s_Ring_cells) := ⟨rfl, rfl, rfl, by decide +kernel, rfl, by decide +kernel, by decide +kernel⟩
abbrev s_UnknownName___init__ : Stmt := inClass (top 3) 0
theorem sc_UnknownName___init__ : FnScope ["self", "name"] ["self", "name"] (defScope s_UnknownName___init__) := ⟨rfl, rfl, rfl, by decide +kernel, rfl, by decide +kernel, by decide +kernel⟩
abbrev s_InvalidSize___init__ : Stmt := inClass (top 2) 0
theorem sc_InvalidSize___init__ : FnScope ["self", "size"] ["self", "size"] (defScope s_InvalidSize___init__) := ⟨rfl, rfl, rfl, by decide +kernel, rfl, by decide +kernel, by decide +kernel⟩
abbrev s_Ring___init__ : Stmt := inClass (top 9) 0
theorem sc_Ring___init__ : FnScope ["self", "values"] ["self", "values"] (defScope s_Ring___init__) := ⟨rfl, rfl, rfl, by decide +kernel, rfl, by decide +kernel, by decide +kernel⟩
abbrev s_State___getitem__ : Stmt := inClass (top 11) 3
theorem sc_State___getitem__ : FnScope ["self", "name"] ["self", "name"] (defScope s_State___getitem__) := ⟨rfl, rfl, rfl, by decide +kernel, rfl, by decide +kernel, by decide +kernel⟩
abbrev s__law_is_state : Stmt := top 18
theorem sc__law_is_state : FnScope ["_law_state", "_law_now", "_law_name"] ["_law_state", "_law_now"] (defScope s__law_is_state) := ⟨rfl, rfl, rfl, by decide +kernel, rfl, by decide +kernel, by decide +kernel⟩
abbrev s_Ring___len__ : Stmt := inClass (top 9) 1
theorem sc_Ring___len__ : FnScope ["self"] ["self"] (defScope s_Ring___len__) := ⟨rfl, rfl, rfl, by decide +kernel, rfl, by decide +kernel, by decide +kernel⟩
abbrev s_State___setitem__ : Stmt := inClass (top 11) 4
theorem sc_State___setitem__ : FnScope ["self", "name", "worth"] ["self", "name", "worth"] (defScope s_State___setitem__) := ⟨rfl, rfl, rfl, by decide +kernel, rfl, by decide +kernel, by decide +kernel⟩
abbrev s_Ring___setitem__ : Stmt := inClass (top 9) 3
theorem sc_Ring___setitem__ : FnScope ["self", "k", "worth"] ["self", "k", "worth"] (defScope s_Ring___setitem__) := ⟨rfl, rfl, rfl, by decide +kernel, rfl, by decide +kernel, by decide +kernel⟩
abbrev s__law_set : Stmt := top 23
theorem sc__law_set : FnScope ["_law_box_here", "_law_state", "_law_now", "_law_name", "_law_n", "_law_cells", "_law_k", "_law_ring", "_law_fresh"] ["_law_box_here", "_law_state", "_law_now"] (defScope s__law_set) := ⟨rfl, rfl, rfl, by decide +kernel, rfl, by decide +kernel, by decide +kernel⟩
abbrev s_State___init__ : Stmt := inClass (top 11) 0
theorem sc_State___init__ : FnScope ["self", "size", "i", "j", "fill", "name"] ["self", "size", "i", "j", "fill"] (defScope s_State___init__) := ⟨rfl, rfl, rfl, by decide +kernel, rfl, by decide +kernel, by decide +kernel⟩
abbrev s_State_free : Stmt := inClass (top 11) 1
theorem sc_State_free : FnScope ["cls", "size", "i", "j", "made", "k", "name"] ["cls", "size", "i", "j"] (defScope s_State_free) := ⟨rfl, rfl, rfl, by decide +kernel, rfl, by decide +kernel, by decide +kernel⟩
abbrev s__law_copy : Stmt := top 17
theorem sc__law_copy : FnScope ["_law_now", "_law_found", "_law_name"] ["_law_now"] (defScope s__law_copy) := ⟨rfl, rfl, rfl, by decide +kernel, rfl, by decide +kernel, by decide +kernel⟩
abbrev s_State_copied : Stmt := inClass (top 11) 5
theorem sc_State_copied : FnScope ["self", "fresh", "name", "cells"] ["self"] (defScope s_State_copied) := ⟨rfl, rfl, rfl, by decide +kernel, rfl, by decide +kernel, by decide +kernel⟩
abbrev s__law_no_state : Stmt := top 22
theorem sc__law_no_state : FnScope ["_law_size", "_law_way", "_law_found", "e"] ["_law_size", "_law_way"] (defScope s__law_no_state) := ⟨rfl, rfl, rfl, by decide +kernel, rfl, by decide +kernel, by decide +kernel⟩
abbrev s__law_refusal : Stmt := top 21
theorem sc__law_refusal : FnScope ["_law_state", "_law_name", "_law_thing", "_law_way", "_law_found", "e"] ["_law_state", "_law_name", "_law_thing", "_law_way"] (defScope s__law_refusal) := ⟨rfl, rfl, rfl, by decide +kernel, rfl, by decide +kernel, by decide +kernel⟩
abbrev s__law_refuses : Stmt := top 24
theorem sc__law_refuses : FnScope ["_law_box_here", "_law_state", "_law_now", "_law_n", "_law_bad", "_law_other", "_law_thing", "_law_way", "_law_refused"] ["_law_box_here", "_law_state", "_law_now"] (defScope s__law_refuses) := ⟨rfl, rfl, rfl, by decide +kernel, rfl, by decide +kernel, by decide +kernel⟩
abbrev s_State___eq__ : Stmt := inClass (top 11) 6
theorem sc_State___eq__ : FnScope ["self", "other"] ["self", "other"] (defScope s_State___eq__) := ⟨rfl, rfl, rfl, by decide +kernel, rfl, by decide +kernel, by decide +kernel⟩
abbrev s_law : Stmt := top 26
theorem sc_law : FnScope ["_law_script", "_law_box_here", "_law_n", "_law_one", "_law_other", "_law_now", "_law_state", "_law_filled_here", "_law_offsets", "_law_turn", "_law_twin", "_law_before", "_law_told", "_law_odd", "_law_thing", "_law_wide"] ["_law_script"] (defScope s_law) := ⟨rfl, rfl, rfl, by decide +kernel, rfl, by decide +kernel, by decide +kernel⟩
structure Tx (T : Tab) (K : PySem.W.Frag) (mg : Str → Option Value) where
  c_Ring : Addr
  T_Ring : T 0 = some (c_Ring, (["row"] : List Str))
  cl_Ring : Cls K c_Ring
  i_Ring : IsiC K c_Ring
  m_Ring : mg "Ring" = some (.ref c_Ring)
  no_Ring_row : NoAttr K c_Ring "row"
  c_State : Addr
  T_State : T 1 = some (c_State, (["size", "contents", "held", "offsets"] : List Str))
  cl_State : Cls K c_State
  i_State : IsiC K c_State
  m_State : mg "State" = some (.ref c_State)
  no_State_size : NoAttr K c_State "size"
  no_State_contents : NoAttr K c_State "contents"
  no_State_held : NoAttr K c_State "held"
  no_State_offsets : NoAttr K c_State "offsets"
  ga_ARRAYS : Addr
  gm_ARRAYS : mg "ARRAYS" = some (.ref ga_ARRAYS)
  ge_ARRAYS : SqT K (fun _ => none) ga_ARRAYS ((["A", "B", "C"] : List Str).map V.str)
  ga_REGISTERS : Addr
  gm_REGISTERS : mg "REGISTERS" = some (.ref ga_REGISTERS)
  ge_REGISTERS : SqT K (fun _ => none) ga_REGISTERS ((["r", "s", "t"] : List Str).map V.str)
  ga_OFFSETS : Addr
  gm_OFFSETS : mg "OFFSETS" = some (.ref ga_OFFSETS)
  ge_OFFSETS : SqT K (fun _ => none) ga_OFFSETS ((["i", "j"] : List Str).map V.str)
  c_ClashError : Addr
  m_ClashError : mg "ClashError" = some (.ref c_ClashError)
  ci_ClashError : CIn K c_ClashError
  bs_ClashError : PySem.W.subIn K (.ref c_ClashError) (.type "BaseException") = some true
  hd_ClashError : PySem.W.hasDictIn K c_ClashError = true
  c_InvalidSize : Addr
  T_InvalidSize : T 2 = some (c_InvalidSize, (["size"] : List Str))
  m_InvalidSize : mg "InvalidSize" = some (.ref c_InvalidSize)
  o_InvalidSize : OexC K c_InvalidSize
  x_InvalidSize : ExcC K c_InvalidSize
  xf_InvalidSize : XfC K c_InvalidSize
  no_InvalidSize_size : PySem.W.findIn K (.ref c_InvalidSize) "size" = some none
  c_UnknownName : Addr
  T_UnknownName : T 3 = some (c_UnknownName, (["name"] : List Str))
  m_UnknownName : mg "UnknownName" = some (.ref c_UnknownName)
  o_UnknownName : OexB K c_UnknownName keT "LookupError.__new__"
  x_UnknownName : ExcC K c_UnknownName
  xf_UnknownName : XfC K c_UnknownName
  no_UnknownName_name : PySem.W.findIn K (.ref c_UnknownName) "name" = some none
  z_KeyError : mg "KeyError" = none
  z_dict : mg "dict" = none
  z_int : mg "int" = none
  z_isinstance : mg "isinstance" = none
  z_len : mg "len" = none
  z_list : mg "list" = none
  z_max : mg "max" = none
  z_range : mg "range" = none
  z_repr : mg "repr" = none
  a__law_box : Addr
  fd__law_box : FuncData
  F__law_box : Fun K "_law_box" "_law_box" s__law_box a__law_box fd__law_box
  b__law_box : Binds K fd__law_box ["_law_script", "_law_k"] []
  m__law_box : mg "_law_box" = some (.ref a__law_box)
  a__law_take : Addr
  fd__law_take : FuncData
  F__law_take : Fun K "_law_take" "_law_take" s__law_take a__law_take fd__law_take
  b__law_take : Binds K fd__law_take ["_law_box_here", "_law_many"] []
  m__law_take : mg "_law_take" = some (.ref a__law_take)
  a__law_far : Addr
  fd__law_far : FuncData
  F__law_far : Fun K "_law_far" "_law_far" s__law_far a__law_far fd__law_far
  b__law_far : Binds K fd__law_far ["_law_box_here"] []
  m__law_far : mg "_law_far" = some (.ref a__law_far)
  a__law_free : Addr
  fd__law_free : FuncData
  F__law_free : Fun K "_law_free" "_law_free" s__law_free a__law_free fd__law_free
  b__law_free : Binds K fd__law_free ["_law_n", "_law_one", "_law_other"] []
  m__law_free : mg "_law_free" = some (.ref a__law_free)
  a__law_pick : Addr
  fd__law_pick : FuncData
  F__law_pick : Fun K "_law_pick" "_law_pick" s__law_pick a__law_pick fd__law_pick
  b__law_pick : Binds K fd__law_pick ["_law_box_here", "_law_some"] []
  m__law_pick : mg "_law_pick" = some (.ref a__law_pick)
  a__law_some_value : Addr
  fd__law_some_value : FuncData
  F__law_some_value : Fun K "_law_some_value" "_law_some_value" s__law_some_value a__law_some_value fd__law_some_value
  b__law_some_value : Binds K fd__law_some_value ["_law_box_here"] []
  m__law_some_value : mg "_law_some_value" = some (.ref a__law_some_value)
  a__law_filled : Addr
  fd__law_filled : FuncData
  F__law_filled : Fun K "_law_filled" "_law_filled" s__law_filled a__law_filled fd__law_filled
  b__law_filled : Binds K fd__law_filled ["_law_n", "_law_thing"] []
  m__law_filled : mg "_law_filled" = some (.ref a__law_filled)
  a_Ring_cells : Addr
  fd_Ring_cells : FuncData
  F_Ring_cells : Fun K "cells" "Ring.cells" s_Ring_cells a_Ring_cells fd_Ring_cells
  b_Ring_cells : Binds K fd_Ring_cells ["self"] []
  M_Ring_cells : Meth K c_Ring "cells" a_Ring_cells
  a_UnknownName___init__ : Addr
  fd_UnknownName___init__ : FuncData
  F_UnknownName___init__ : Fun K "__init__" "UnknownName.__init__" s_UnknownName___init__ a_UnknownName___init__ fd_UnknownName___init__
  b_UnknownName___init__ : Binds K fd_UnknownName___init__ ["self", "name"] []
  at_UnknownName___init__ : PySem.W.findIn K (.ref c_UnknownName) "__init__" = some (some (.ref a_UnknownName___init__))
  ty_UnknownName___init__ : PySem.W.typeIn K (.ref a_UnknownName___init__) = some (.type "function")
  a_InvalidSize___init__ : Addr
  fd_InvalidSize___init__ : FuncData
  F_InvalidSize___init__ : Fun K "__init__" "InvalidSize.__init__" s_InvalidSize___init__ a_InvalidSize___init__ fd_InvalidSize___init__
  b_InvalidSize___init__ : Binds K fd_InvalidSize___init__ ["self", "size"] []
  at_InvalidSize___init__ : PySem.W.findIn K (.ref c_InvalidSize) "__init__" = some (some (.ref a_InvalidSize___init__))
  ty_InvalidSize___init__ : PySem.W.typeIn K (.ref a_InvalidSize___init__) = some (.type "function")
  a_Ring___init__ : Addr
  fd_Ring___init__ : FuncData
  F_Ring___init__ : Fun K "__init__" "Ring.__init__" s_Ring___init__ a_Ring___init__ fd_Ring___init__
  b_Ring___init__ : Binds K fd_Ring___init__ ["self", "values"] []
  M_Ring___init__ : Meth K c_Ring "__init__" a_Ring___init__
  K_Ring : Mk K c_Ring a_Ring___init__
  a_State___getitem__ : Addr
  fd_State___getitem__ : FuncData
  F_State___getitem__ : Fun K "__getitem__" "State.__getitem__" s_State___getitem__ a_State___getitem__ fd_State___getitem__
  b_State___getitem__ : Binds K fd_State___getitem__ ["self", "name"] []
  M_State___getitem__ : Meth K c_State "__getitem__" a_State___getitem__
  a__law_is_state : Addr
  fd__law_is_state : FuncData
  F__law_is_state : Fun K "_law_is_state" "_law_is_state" s__law_is_state a__law_is_state fd__law_is_state
  b__law_is_state : Binds K fd__law_is_state ["_law_state", "_law_now"] []
  m__law_is_state : mg "_law_is_state" = some (.ref a__law_is_state)
  a_Ring___len__ : Addr
  fd_Ring___len__ : FuncData
  F_Ring___len__ : Fun K "__len__" "Ring.__len__" s_Ring___len__ a_Ring___len__ fd_Ring___len__
  b_Ring___len__ : Binds K fd_Ring___len__ ["self"] []
  M_Ring___len__ : Meth K c_Ring "__len__" a_Ring___len__
  a_State___setitem__ : Addr
  fd_State___setitem__ : FuncData
  F_State___setitem__ : Fun K "__setitem__" "State.__setitem__" s_State___setitem__ a_State___setitem__ fd_State___setitem__
  b_State___setitem__ : Binds K fd_State___setitem__ ["self", "name", "worth"] []
  M_State___setitem__ : Meth K c_State "__setitem__" a_State___setitem__
  a_Ring___setitem__ : Addr
  fd_Ring___setitem__ : FuncData
  F_Ring___setitem__ : Fun K "__setitem__" "Ring.__setitem__" s_Ring___setitem__ a_Ring___setitem__ fd_Ring___setitem__
  b_Ring___setitem__ : Binds K fd_Ring___setitem__ ["self", "k", "worth"] []
  M_Ring___setitem__ : Meth K c_Ring "__setitem__" a_Ring___setitem__
  a__law_set : Addr
  fd__law_set : FuncData
  F__law_set : Fun K "_law_set" "_law_set" s__law_set a__law_set fd__law_set
  b__law_set : Binds K fd__law_set ["_law_box_here", "_law_state", "_law_now"] []
  m__law_set : mg "_law_set" = some (.ref a__law_set)
  a_State___init__ : Addr
  fd_State___init__ : FuncData
  F_State___init__ : FD K "__init__" "State.__init__" s_State___init__ [] [("i", .int 0), ("j", .int 0), ("fill", .non)] a_State___init__ fd_State___init__
  K_State : Mk K c_State a_State___init__
  a_State_free : Addr
  fd_State_free : FuncData
  F_State_free : FD K "free" "State.free" s_State_free [] [("i", .int 0), ("j", .int 0)] a_State_free fd_State_free
  p_State_free : Addr
  CR_State_free : ClX.CRead K c_State (.type "type")
  CM_State_free : ClX.CMet K c_State (.type "type") "free" p_State_free a_State_free
  a__law_copy : Addr
  fd__law_copy : FuncData
  F__law_copy : Fun K "_law_copy" "_law_copy" s__law_copy a__law_copy fd__law_copy
  b__law_copy : Binds K fd__law_copy ["_law_now"] []
  m__law_copy : mg "_law_copy" = some (.ref a__law_copy)
  a_State_copied : Addr
  fd_State_copied : FuncData
  F_State_copied : Fun K "copied" "State.copied" s_State_copied a_State_copied fd_State_copied
  b_State_copied : Binds K fd_State_copied ["self"] []
  M_State_copied : Meth K c_State "copied" a_State_copied
  a__law_no_state : Addr
  fd__law_no_state : FuncData
  F__law_no_state : Fun K "_law_no_state" "_law_no_state" s__law_no_state a__law_no_state fd__law_no_state
  b__law_no_state : Binds K fd__law_no_state ["_law_size", "_law_way"] []
  m__law_no_state : mg "_law_no_state" = some (.ref a__law_no_state)
  a__law_refusal : Addr
  fd__law_refusal : FuncData
  F__law_refusal : Fun K "_law_refusal" "_law_refusal" s__law_refusal a__law_refusal fd__law_refusal
  b__law_refusal : Binds K fd__law_refusal ["_law_state", "_law_name", "_law_thing", "_law_way"] []
  m__law_refusal : mg "_law_refusal" = some (.ref a__law_refusal)
  a__law_refuses : Addr
  fd__law_refuses : FuncData
  F__law_refuses : Fun K "_law_refuses" "_law_refuses" s__law_refuses a__law_refuses fd__law_refuses
  b__law_refuses : Binds K fd__law_refuses ["_law_box_here", "_law_state", "_law_now"] []
  m__law_refuses : mg "_law_refuses" = some (.ref a__law_refuses)
  a_State___eq__ : Addr
  fd_State___eq__ : FuncData
  F_State___eq__ : Fun K "__eq__" "State.__eq__" s_State___eq__ a_State___eq__ fd_State___eq__
  b_State___eq__ : Binds K fd_State___eq__ ["self", "other"] []
  M_State___eq__ : Meth K c_State "__eq__" a_State___eq__
  a_law : Addr
  fd_law : FuncData
  F_law : Fun K "law" "law" s_law a_law fd_law
  b_law : Binds K fd_law ["_law_script"] []
  m_law : mg "law" = some (.ref a_law)
  kt_int_State : PySem.W.kitOne K (.type "int") (.ref c_State) = some false
  kt_bool_State : PySem.W.kitOne K (.type "bool") (.ref c_State) = some false
  kt_str_State : PySem.W.kitOne K (.type "str") (.ref c_State) = some false
  kt_tuple_State : PySem.W.kitOne K (.type "tuple") (.ref c_State) = some false
  kt_list_State : PySem.W.kitOne K (.type "list") (.ref c_State) = some false
  kt_NoneType_State : PySem.W.kitOne K (.type "NoneType") (.ref c_State) = some false
  kt_dict_State : PySem.W.kitOne K (.type "dict") (.ref c_State) = some false
  kt_Ring_State : PySem.W.kitOne K (.ref c_Ring) (.ref c_State) = some false
  ex_InvalidSize_ClashError : PySem.W.exmOne K (.ref c_InvalidSize) (.ref c_ClashError) = some true
  ex_UnknownName_ClashError : PySem.W.exmOne K (.ref c_UnknownName) (.ref c_ClashError) = some false
  ex_InvalidSize_InvalidSize : PySem.W.exmOne K (.ref c_InvalidSize) (.ref c_InvalidSize) = some true
  ex_UnknownName_InvalidSize : PySem.W.exmOne K (.ref c_UnknownName) (.ref c_InvalidSize) = some false
  ex_InvalidSize_UnknownName : PySem.W.exmOne K (.ref c_InvalidSize) (.ref c_UnknownName) = some false
  ex_UnknownName_UnknownName : PySem.W.exmOne K (.ref c_UnknownName) (.ref c_UnknownName) = some true
  no_InvalidSize_name : PySem.W.findIn K (.ref c_InvalidSize) "name" = some none
  no_UnknownName_size : PySem.W.findIn K (.ref c_UnknownName) "size" = some none
  kt_UnknownName_InvalidSize : PySem.W.kitOne K (.ref c_UnknownName) (.ref c_InvalidSize) = some false
  kt_InvalidSize_KeyError : PySem.W.kitOne K (.ref c_InvalidSize) (.type "KeyError") = some false
  kt_UnknownName_KeyError : PySem.W.kitOne K (.ref c_UnknownName) (.type "KeyError") = some true
  OT_State : OthC K c_State
  NE_State : NeC K c_State
  sD_State : PySem.W.subIn K (.type "dict") (.ref c_State) = some false
  sO_Ring_State : PySem.W.subIn K (.ref c_Ring) (.ref c_State) = some false
  NS_Ring : PySem.W.noSeq K c_Ring = true
  NS_State : PySem.W.noSeq K c_State = true
  FG_State : PySem.W.fnIn K a_State___getitem__ = true
  bi_KeyError : PySem.W.findCls K (.type "KeyError") (.type "type") "__init__" = some (.val (.builtin "KeyError.__init__"))
def tb_State (t : String) : Option Bool := if t = "int" then some false else if t = "bool" then some false else if t = "str" then some false else if t = "tuple" then some false else if t = "list" then some false else if t = "NoneType" then some false else if t = "dict" then some false else none
theorem Tx.tbIs_State {T : Tab} {K : PySem.W.Frag} {mg : Str → Option Value} (t : Tx T K mg) : ∀ z b, tb_State z = some b → PySem.W.kitOne K (.type z) (.ref t.c_State) = some b := fun z b h => by
  unfold tb_State at h
  split at h
  · rename_i e; subst e; cases h; exact t.kt_int_State
  split at h
  · rename_i e; subst e; cases h; exact t.kt_bool_State
  split at h
  · rename_i e; subst e; cases h; exact t.kt_str_State
  split at h
  · rename_i e; subst e; cases h; exact t.kt_tuple_State
  split at h
  · rename_i e; subst e; cases h; exact t.kt_list_State
  split at h
  · rename_i e; subst e; cases h; exact t.kt_NoneType_State
  split at h
  · rename_i e; subst e; cases h; exact t.kt_dict_State
  cases h
def ob_State (n : Nat) : Option Bool := match n with | 0 => some false | 1 => some true | _ => none
theorem Tx.obIs_State {T : Tab} {K : PySem.W.Frag} {mg : Str → Option Value} (t : Tx T K mg) : ObIs K T (.ref t.c_State) ob_State := fun n b h => by
  unfold ob_State at h
  split at h
  · cases h; exact ⟨_, _, t.T_Ring, t.i_Ring, t.kt_Ring_State⟩
  · cases h; exact ⟨_, _, t.T_State, t.i_State, kit_self⟩
  · cases h
theorem Tx.kb_Ring_1_ {T : Tab} {K : PySem.W.Frag} {mg : Str → Option Value} (t : Tx T K mg) : ∃ gg, KBn K t.fd_Ring___init__ ["self", "values"] 2 [] gg (fun us ws => us) := by
  exact ⟨_, kbn_all t.b_Ring___init__ rfl⟩
def fu_Ring_1_ (vs zs : List D) : List D := match vs, zs with | [d0], [] => [d0] | _, _ => []
theorem Tx.put_Ring_1_ {T : Tab} {K : PySem.W.Frag} {mg : Str → Option Value} (t : Tx T K mg) : ∀ vs zs : List D, vs.length = 1 → zs.length = ([] : List Str).length → Put K (fun us ws => us) vs zs (fu_Ring_1_ vs zs)
  | [d0], [], _, _ => fun x ws zs h1 h2 => match ws, zs, h1, h2 with | [w0], [], _, _ => ⟨[w0], rfl, fun _ _ _ r1 r2 => match r1, r2 with | .cons a0 .nil, .nil => .cons a0 .nil⟩
theorem Tx.kb_State_1_ {T : Tab} {K : PySem.W.Frag} {mg : Str → Option Value} (t : Tx T K mg) : ∃ gg, KBn K t.fd_State___init__ ["self", "size", "i", "j", "fill"] 2 [] gg (fun us ws => us ++ ((([.int 0, .int 0, .non] : List V).drop 0).take 1) ++ ((([.int 0, .int 0, .non] : List V).drop 1).take 1) ++ ((([.int 0, .int 0, .non] : List V).drop 2).take 1)) := by
  obtain ⟨mv, h⟩ := t.F_State___init__.kbinds0 (ps := ["self", "size", "i", "j", "fill"]) 2 [] [("i", .int 0), ("j", .int 0), ("fill", .non)] (fun us mv ws => us ++ ((mv.drop 0).take 1) ++ ((mv.drop 1).take 1) ++ ((mv.drop 2).take 1)) (by decide) (by decide) (fun a d b => (((a.append ((d.drop 0).take 1)).append ((d.drop 1).take 1)).append ((d.drop 2).take 1))) fun D doc pm an cdv ct us mv ws l1 l2 l3 =>
    match us, mv, ws, l1, l2, l3 with | [_, _], [_, _, _], [], _, _, _ => ⟨_, _, _, _, _, _, rfl, rfl, ⟨_, _, _, _, _, _, rfl, rfl, ⟨_, _, _, _, _, _, rfl, rfl, rfl⟩⟩⟩
  exact ⟨_, h⟩
def fu_State_1_ (vs zs : List D) : List D := match vs, zs with | [d0], [] => [d0, .int 0, .int 0, .non] | _, _ => []
theorem Tx.put_State_1_ {T : Tab} {K : PySem.W.Frag} {mg : Str → Option Value} (t : Tx T K mg) : ∀ vs zs : List D, vs.length = 1 → zs.length = ([] : List Str).length → Put K (fun us ws => us ++ ((([.int 0, .int 0, .non] : List V).drop 0).take 1) ++ ((([.int 0, .int 0, .non] : List V).drop 1).take 1) ++ ((([.int 0, .int 0, .non] : List V).drop 2).take 1)) vs zs (fu_State_1_ vs zs)
  | [d0], [], _, _ => fun x ws zs h1 h2 => match ws, zs, h1, h2 with | [w0], [], _, _ => ⟨[w0, .int 0, .int 0, .non], rfl, fun _ _ _ r1 r2 => match r1, r2 with | .cons a0 .nil, .nil => .cons a0 (.cons Rep.int (.cons Rep.int (.cons Rep.non .nil)))⟩
theorem Tx.kb_State_1_fill {T : Tab} {K : PySem.W.Frag} {mg : Str → Option Value} (t : Tx T K mg) : ∃ gg, KBn K t.fd_State___init__ ["self", "size", "i", "j", "fill"] 2 ["fill"] gg (fun us ws => us ++ ((([.int 0, .int 0] : List V).drop 0).take 1) ++ ((([.int 0, .int 0] : List V).drop 1).take 1) ++ ((ws.drop 0).take 1)) := by
  obtain ⟨mv, h⟩ := t.F_State___init__.kbinds0 (ps := ["self", "size", "i", "j", "fill"]) 2 ["fill"] [("i", .int 0), ("j", .int 0)] (fun us mv ws => us ++ ((mv.drop 0).take 1) ++ ((mv.drop 1).take 1) ++ ((ws.drop 0).take 1)) (by decide) (by decide) (fun a d b => (((a.append ((d.drop 0).take 1)).append ((d.drop 1).take 1)).append ((b.drop 0).take 1))) fun D doc pm an cdv ct us mv ws l1 l2 l3 =>
    match us, mv, ws, l1, l2, l3 with | [_, _], [_, _], [_], _, _, _ => ⟨_, _, _, _, _, _, rfl, rfl, ⟨_, _, _, _, _, _, rfl, rfl, rfl⟩⟩
  exact ⟨_, h⟩
def fu_State_1_fill (vs zs : List D) : List D := match vs, zs with | [d0], [e0] => [d0, .int 0, .int 0, e0] | _, _ => []
theorem Tx.put_State_1_fill {T : Tab} {K : PySem.W.Frag} {mg : Str → Option Value} (t : Tx T K mg) : ∀ vs zs : List D, vs.length = 1 → zs.length = (["fill"] : List Str).length → Put K (fun us ws => us ++ ((([.int 0, .int 0] : List V).drop 0).take 1) ++ ((([.int 0, .int 0] : List V).drop 1).take 1) ++ ((ws.drop 0).take 1)) vs zs (fu_State_1_fill vs zs)
  | [d0], [e0], _, _ => fun x ws zs h1 h2 => match ws, zs, h1, h2 with | [w0], [z0], _, _ => ⟨[w0, .int 0, .int 0, z0], rfl, fun _ _ _ r1 r2 => match r1, r2 with | .cons a0 .nil, .cons b0 .nil => .cons a0 (.cons Rep.int (.cons Rep.int (.cons b0 .nil)))⟩
theorem Tx.kb_State_1_i_j {T : Tab} {K : PySem.W.Frag} {mg : Str → Option Value} (t : Tx T K mg) : ∃ gg, KBn K t.fd_State___init__ ["self", "size", "i", "j", "fill"] 2 ["i", "j"] gg (fun us ws => us ++ ((ws.drop 0).take 1) ++ ((ws.drop 1).take 1) ++ ((([.non] : List V).drop 0).take 1)) := by
  obtain ⟨mv, h⟩ := t.F_State___init__.kbinds0 (ps := ["self", "size", "i", "j", "fill"]) 2 ["i", "j"] [("fill", .non)] (fun us mv ws => us ++ ((ws.drop 0).take 1) ++ ((ws.drop 1).take 1) ++ ((mv.drop 0).take 1)) (by decide) (by decide) (fun a d b => (((a.append ((b.drop 0).take 1)).append ((b.drop 1).take 1)).append ((d.drop 0).take 1))) fun D doc pm an cdv ct us mv ws l1 l2 l3 =>
    match us, mv, ws, l1, l2, l3 with | [_, _], [_], [_, _], _, _, _ => ⟨_, _, _, _, _, _, rfl, rfl, rfl⟩
  exact ⟨_, h⟩
def fu_State_1_i_j (vs zs : List D) : List D := match vs, zs with | [d0], [e0, e1] => [d0, e0, e1, .non] | _, _ => []
theorem Tx.put_State_1_i_j {T : Tab} {K : PySem.W.Frag} {mg : Str → Option Value} (t : Tx T K mg) : ∀ vs zs : List D, vs.length = 1 → zs.length = (["i", "j"] : List Str).length → Put K (fun us ws => us ++ ((ws.drop 0).take 1) ++ ((ws.drop 1).take 1) ++ ((([.non] : List V).drop 0).take 1)) vs zs (fu_State_1_i_j vs zs)
  | [d0], [e0, e1], _, _ => fun x ws zs h1 h2 => match ws, zs, h1, h2 with | [w0], [z0, z1], _, _ => ⟨[w0, z0, z1, .non], rfl, fun _ _ _ r1 r2 => match r1, r2 with | .cons a0 .nil, .cons b0 (.cons b1 .nil) => .cons a0 (.cons b0 (.cons b1 (.cons Rep.non .nil)))⟩
theorem Tx.kb_State_1_i_j_fill {T : Tab} {K : PySem.W.Frag} {mg : Str → Option Value} (t : Tx T K mg) : ∃ gg, KBn K t.fd_State___init__ ["self", "size", "i", "j", "fill"] 2 ["i", "j", "fill"] gg (fun us ws => us ++ ((ws.drop 0).take 1) ++ ((ws.drop 1).take 1) ++ ((ws.drop 2).take 1)) := by
  obtain ⟨mv, h⟩ := t.F_State___init__.kbinds0 (ps := ["self", "size", "i", "j", "fill"]) 2 ["i", "j", "fill"] [] (fun us mv ws => us ++ ((ws.drop 0).take 1) ++ ((ws.drop 1).take 1) ++ ((ws.drop 2).take 1)) (by decide) (by decide) (fun a d b => (((a.append ((b.drop 0).take 1)).append ((b.drop 1).take 1)).append ((b.drop 2).take 1))) fun D doc pm an cdv ct us mv ws l1 l2 l3 =>
    match us, mv, ws, l1, l2, l3 with | [_, _], [], [_, _, _], _, _, _ => rfl
  exact ⟨_, h⟩
def fu_State_1_i_j_fill (vs zs : List D) : List D := match vs, zs with | [d0], [e0, e1, e2] => [d0, e0, e1, e2] | _, _ => []
theorem Tx.put_State_1_i_j_fill {T : Tab} {K : PySem.W.Frag} {mg : Str → Option Value} (t : Tx T K mg) : ∀ vs zs : List D, vs.length = 1 → zs.length = (["i", "j", "fill"] : List Str).length → Put K (fun us ws => us ++ ((ws.drop 0).take 1) ++ ((ws.drop 1).take 1) ++ ((ws.drop 2).take 1)) vs zs (fu_State_1_i_j_fill vs zs)
  | [d0], [e0, e1, e2], _, _ => fun x ws zs h1 h2 => match ws, zs, h1, h2 with | [w0], [z0, z1, z2], _, _ => ⟨[w0, z0, z1, z2], rfl, fun _ _ _ r1 r2 => match r1, r2 with | .cons a0 .nil, .cons b0 (.cons b1 (.cons b2 .nil)) => .cons a0 (.cons b0 (.cons b1 (.cons b2 .nil)))⟩
theorem Tx.kb_State_free_1_i {T : Tab} {K : PySem.W.Frag} {mg : Str → Option Value} (t : Tx T K mg) : ∃ gg, KBn K t.fd_State_free ["cls", "size", "i", "j"] 2 ["i"] gg (fun us ws => us ++ ((ws.drop 0).take 1) ++ ((([.int 0] : List V).drop 0).take 1)) := by
  obtain ⟨mv, h⟩ := t.F_State_free.kbinds0 (ps := ["cls", "size", "i", "j"]) 2 ["i"] [("j", .int 0)] (fun us mv ws => us ++ ((ws.drop 0).take 1) ++ ((mv.drop 0).take 1)) (by decide) (by decide) (fun a d b => ((a.append ((b.drop 0).take 1)).append ((d.drop 0).take 1))) fun D doc pm an cdv ct us mv ws l1 l2 l3 =>
    match us, mv, ws, l1, l2, l3 with | [_, _], [_], [_], _, _, _ => ⟨_, _, _, _, _, _, rfl, rfl, rfl⟩
  exact ⟨_, h⟩
def fu_State_free_1_i (vs zs : List D) : List D := match vs, zs with | [d0], [e0] => [d0, e0, .int 0] | _, _ => []
theorem Tx.put_State_free_1_i {T : Tab} {K : PySem.W.Frag} {mg : Str → Option Value} (t : Tx T K mg) : ∀ vs zs : List D, vs.length = 1 → zs.length = (["i"] : List Str).length → Put K (fun us ws => us ++ ((ws.drop 0).take 1) ++ ((([.int 0] : List V).drop 0).take 1)) vs zs (fu_State_free_1_i vs zs)
  | [d0], [e0], _, _ => fun x ws zs h1 h2 => match ws, zs, h1, h2 with | [w0], [z0], _, _ => ⟨[w0, z0, .int 0], rfl, fun _ _ _ r1 r2 => match r1, r2 with | .cons a0 .nil, .cons b0 .nil => .cons a0 (.cons b0 (.cons Rep.int .nil))⟩
theorem Tx.kb_State_free_1_j_i {T : Tab} {K : PySem.W.Frag} {mg : Str → Option Value} (t : Tx T K mg) : ∃ gg, KBn K t.fd_State_free ["cls", "size", "i", "j"] 2 ["j", "i"] gg (fun us ws => us ++ ((ws.drop 1).take 1) ++ ((ws.drop 0).take 1)) := by
  obtain ⟨mv, h⟩ := t.F_State_free.kbinds0 (ps := ["cls", "size", "i", "j"]) 2 ["j", "i"] [] (fun us mv ws => us ++ ((ws.drop 1).take 1) ++ ((ws.drop 0).take 1)) (by decide) (by decide) (fun a d b => ((a.append ((b.drop 1).take 1)).append ((b.drop 0).take 1))) fun D doc pm an cdv ct us mv ws l1 l2 l3 =>
    match us, mv, ws, l1, l2, l3 with | [_, _], [], [_, _], _, _, _ => rfl
  exact ⟨_, h⟩
def fu_State_free_1_j_i (vs zs : List D) : List D := match vs, zs with | [d0], [e0, e1] => [d0, e1, e0] | _, _ => []
theorem Tx.put_State_free_1_j_i {T : Tab} {K : PySem.W.Frag} {mg : Str → Option Value} (t : Tx T K mg) : ∀ vs zs : List D, vs.length = 1 → zs.length = (["j", "i"] : List Str).length → Put K (fun us ws => us ++ ((ws.drop 1).take 1) ++ ((ws.drop 0).take 1)) vs zs (fu_State_free_1_j_i vs zs)
  | [d0], [e0, e1], _, _ => fun x ws zs h1 h2 => match ws, zs, h1, h2 with | [w0], [z0, z1], _, _ => ⟨[w0, z1, z0], rfl, fun _ _ _ r1 r2 => match r1, r2 with | .cons a0 .nil, .cons b0 (.cons b1 .nil) => .cons a0 (.cons b1 (.cons b0 .nil))⟩
def xfn (n : Nat) : List Str := match n with | 2 => ["size"] | 3 => ["name"] | _ => []
def isErr (n : Nat) : Bool := match n with | 2 => true | 3 => true | _ => false
def mt_ClashError (n : Nat) : Option Bool := match n with | 2 => some true | 3 => some false | _ => none
theorem Tx.nm_ClashError {X : Cx} {T : Tab} (t : Tx T X.K X.mg) (hg : Gl X "ClashError") : Names X "ClashError" (.ref t.c_ClashError) := ⟨hg, by decide, .inl t.m_ClashError⟩
theorem Tx.mt_of_ClashError {T : Tab} {K : PySem.W.Frag} {mg : Str → Option Value} (t : Tx T K mg) : ∀ m b, mt_ClashError m = some b → ∀ C fn, T m = some (C, fn) → PySem.W.exmOne K (.ref C) (.ref t.c_ClashError) = some b := fun m b h C fn hT => by
  unfold mt_ClashError at h
  split at h
  · cases h; have := t.T_InvalidSize; rw [hT] at this; cases this; exact t.ex_InvalidSize_ClashError
  · cases h; have := t.T_UnknownName; rw [hT] at this; cases this; exact t.ex_UnknownName_ClashError
  · cases h
theorem mt_err_ClashError {m : Nat} (h : mt_ClashError m = some true) : isErr m = true := by
  unfold mt_ClashError at h
  split at h
  · rfl
  · cases h
  · cases h
def mt_InvalidSize (n : Nat) : Option Bool := match n with | 2 => some true | 3 => some false | _ => none
theorem Tx.nm_InvalidSize {X : Cx} {T : Tab} (t : Tx T X.K X.mg) (hg : Gl X "InvalidSize") : Names X "InvalidSize" (.ref t.c_InvalidSize) := ⟨hg, by decide, .inl t.m_InvalidSize⟩
theorem Tx.mt_of_InvalidSize {T : Tab} {K : PySem.W.Frag} {mg : Str → Option Value} (t : Tx T K mg) : ∀ m b, mt_InvalidSize m = some b → ∀ C fn, T m = some (C, fn) → PySem.W.exmOne K (.ref C) (.ref t.c_InvalidSize) = some b := fun m b h C fn hT => by
  unfold mt_InvalidSize at h
  split at h
  · cases h; have := t.T_InvalidSize; rw [hT] at this; cases this; exact t.ex_InvalidSize_InvalidSize
  · cases h; have := t.T_UnknownName; rw [hT] at this; cases this; exact t.ex_UnknownName_InvalidSize
  · cases h
theorem mt_err_InvalidSize {m : Nat} (h : mt_InvalidSize m = some true) : isErr m = true := by
  unfold mt_InvalidSize at h
  split at h
  · rfl
  · cases h
  · cases h
def mt_UnknownName (n : Nat) : Option Bool := match n with | 2 => some false | 3 => some true | _ => none
theorem Tx.nm_UnknownName {X : Cx} {T : Tab} (t : Tx T X.K X.mg) (hg : Gl X "UnknownName") : Names X "UnknownName" (.ref t.c_UnknownName) := ⟨hg, by decide, .inl t.m_UnknownName⟩
theorem Tx.mt_of_UnknownName {T : Tab} {K : PySem.W.Frag} {mg : Str → Option Value} (t : Tx T K mg) : ∀ m b, mt_UnknownName m = some b → ∀ C fn, T m = some (C, fn) → PySem.W.exmOne K (.ref C) (.ref t.c_UnknownName) = some b := fun m b h C fn hT => by
  unfold mt_UnknownName at h
  split at h
  · cases h; have := t.T_InvalidSize; rw [hT] at this; cases this; exact t.ex_InvalidSize_UnknownName
  · cases h; have := t.T_UnknownName; rw [hT] at this; cases this; exact t.ex_UnknownName_UnknownName
  · cases h
theorem mt_err_UnknownName {m : Nat} (h : mt_UnknownName m = some true) : isErr m = true := by
  unfold mt_UnknownName at h
  split at h
  · cases h
  · rfl
  · cases h
theorem Tx.exc_of_ClashError {T : Tab} {K : PySem.W.Frag} {mg : Str → Option Value} {m : Nat} {Ce : Addr} {fn : List Str} (t : Tx T K mg) (hm : mt_ClashError m = some true) (hT : T m = some (Ce, fn)) : ExcC K Ce := by
  have he := mt_err_ClashError hm
  unfold isErr at he
  split at he
  · have := t.T_InvalidSize; rw [hT] at this; cases this; exact t.x_InvalidSize
  · have := t.T_UnknownName; rw [hT] at this; cases this; exact t.x_UnknownName
  · cases he
theorem Tx.err_of_ClashError {X : Cx} {T : Tab} {m : Nat} {Ce : Addr} {fn : List Str} {a : Addr} {oe : Obj} {d : Option Addr} (t : Tx T X.K X.mg) (hm : mt_ClashError m = some true) (hT : T m = some (Ce, fn)) (hz : Zc (.ref Ce) d oe) (hv : ∃ vs, oe.data = .fields vs) : Err X T m a d Ce oe := ⟨t.exc_of_ClashError hm hT, hz, hv, _, hT⟩
theorem Tx.xf_of_ClashError {T : Tab} {K : PySem.W.Frag} {mg : Str → Option Value} {m : Nat} {Ce : Addr} {fn : List Str} (t : Tx T K mg) (hm : mt_ClashError m = some true) (hT : T m = some (Ce, fn)) : XfC K Ce := by
  have he := mt_err_ClashError hm
  unfold isErr at he
  split at he
  · have := t.T_InvalidSize; rw [hT] at this; cases this; exact t.xf_InvalidSize
  · have := t.T_UnknownName; rw [hT] at this; cases this; exact t.xf_UnknownName
  · cases he
theorem Tx.T_of_ClashError {T : Tab} {K : PySem.W.Frag} {mg : Str → Option Value} {m : Nat} {Ce : Addr} {fn : List Str} (t : Tx T K mg) (hm : mt_ClashError m = some true) (hT : T m = some (Ce, fn)) : T m = some (Ce, xfn m) := by
  have he := mt_err_ClashError hm
  unfold isErr at he
  split at he
  · have := t.T_InvalidSize; rw [hT] at this; cases this; exact t.T_InvalidSize
  · have := t.T_UnknownName; rw [hT] at this; cases this; exact t.T_UnknownName
  · cases he
theorem Tx.no_of_ClashError_name {T : Tab} {K : PySem.W.Frag} {mg : Str → Option Value} {m : Nat} {Ce : Addr} {fn : List Str} (t : Tx T K mg) (hm : mt_ClashError m = some true) (hT : T m = some (Ce, fn)) : PySem.W.findIn K (.ref Ce) "name" = some none := by
  have he := mt_err_ClashError hm
  unfold isErr at he
  split at he
  · have := t.T_InvalidSize; rw [hT] at this; cases this; exact t.no_InvalidSize_name
  · have := t.T_UnknownName; rw [hT] at this; cases this; exact t.no_UnknownName_name
  · cases he
theorem Tx.no_of_ClashError_size {T : Tab} {K : PySem.W.Frag} {mg : Str → Option Value} {m : Nat} {Ce : Addr} {fn : List Str} (t : Tx T K mg) (hm : mt_ClashError m = some true) (hT : T m = some (Ce, fn)) : PySem.W.findIn K (.ref Ce) "size" = some none := by
  have he := mt_err_ClashError hm
  unfold isErr at he
  split at he
  · have := t.T_InvalidSize; rw [hT] at this; cases this; exact t.no_InvalidSize_size
  · have := t.T_UnknownName; rw [hT] at this; cases this; exact t.no_UnknownName_size
  · cases he
def kt_InvalidSize (n : Nat) : Option Bool := match n with | 2 => some true | 3 => some false | _ => none
theorem Tx.kt_of_ClashError_InvalidSize {T : Tab} {K : PySem.W.Frag} {mg : Str → Option Value} {m : Nat} {Ce : Addr} {fn : List Str} (t : Tx T K mg) (hm : mt_ClashError m = some true) (hT : T m = some (Ce, fn)) : ∀ b, kt_InvalidSize m = some b → PySem.W.kitOne K (.ref Ce) (.ref t.c_InvalidSize) = some b := by
  have he := mt_err_ClashError hm
  intro b h
  unfold kt_InvalidSize at h
  unfold isErr at he
  split at he
  · have := t.T_InvalidSize; rw [hT] at this; cases this; cases h; exact kit_self
  · have := t.T_UnknownName; rw [hT] at this; cases this; cases h; exact t.kt_UnknownName_InvalidSize
  · cases he
def kt_KeyError (n : Nat) : Option Bool := match n with | 2 => some false | 3 => some true | _ => none
theorem Tx.kt_of_ClashError_KeyError {T : Tab} {K : PySem.W.Frag} {mg : Str → Option Value} {m : Nat} {Ce : Addr} {fn : List Str} (t : Tx T K mg) (hm : mt_ClashError m = some true) (hT : T m = some (Ce, fn)) : ∀ b, kt_KeyError m = some b → PySem.W.kitOne K (.ref Ce) (.type "KeyError") = some b := by
  have he := mt_err_ClashError hm
  intro b h
  unfold kt_KeyError at h
  unfold isErr at he
  split at he
  · have := t.T_InvalidSize; rw [hT] at this; cases this; cases h; exact t.kt_InvalidSize_KeyError
  · have := t.T_UnknownName; rw [hT] at this; cases this; cases h; exact t.kt_UnknownName_KeyError
  · cases he
theorem Tx.exc_of_InvalidSize {T : Tab} {K : PySem.W.Frag} {mg : Str → Option Value} {m : Nat} {Ce : Addr} {fn : List Str} (t : Tx T K mg) (hm : mt_InvalidSize m = some true) (hT : T m = some (Ce, fn)) : ExcC K Ce := by
  have he := mt_err_InvalidSize hm
  unfold isErr at he
  split at he
  · have := t.T_InvalidSize; rw [hT] at this; cases this; exact t.x_InvalidSize
  · have := t.T_UnknownName; rw [hT] at this; cases this; exact t.x_UnknownName
  · cases he
theorem Tx.err_of_InvalidSize {X : Cx} {T : Tab} {m : Nat} {Ce : Addr} {fn : List Str} {a : Addr} {oe : Obj} {d : Option Addr} (t : Tx T X.K X.mg) (hm : mt_InvalidSize m = some true) (hT : T m = some (Ce, fn)) (hz : Zc (.ref Ce) d oe) (hv : ∃ vs, oe.data = .fields vs) : Err X T m a d Ce oe := ⟨t.exc_of_InvalidSize hm hT, hz, hv, _, hT⟩
theorem Tx.xf_of_InvalidSize {T : Tab} {K : PySem.W.Frag} {mg : Str → Option Value} {m : Nat} {Ce : Addr} {fn : List Str} (t : Tx T K mg) (hm : mt_InvalidSize m = some true) (hT : T m = some (Ce, fn)) : XfC K Ce := by
  have he := mt_err_InvalidSize hm
  unfold isErr at he
  split at he
  · have := t.T_InvalidSize; rw [hT] at this; cases this; exact t.xf_InvalidSize
  · have := t.T_UnknownName; rw [hT] at this; cases this; exact t.xf_UnknownName
  · cases he
theorem Tx.T_of_InvalidSize {T : Tab} {K : PySem.W.Frag} {mg : Str → Option Value} {m : Nat} {Ce : Addr} {fn : List Str} (t : Tx T K mg) (hm : mt_InvalidSize m = some true) (hT : T m = some (Ce, fn)) : T m = some (Ce, xfn m) := by
  have he := mt_err_InvalidSize hm
  unfold isErr at he
  split at he
  · have := t.T_InvalidSize; rw [hT] at this; cases this; exact t.T_InvalidSize
  · have := t.T_UnknownName; rw [hT] at this; cases this; exact t.T_UnknownName
  · cases he
theorem Tx.no_of_InvalidSize_name {T : Tab} {K : PySem.W.Frag} {mg : Str → Option Value} {m : Nat} {Ce : Addr} {fn : List Str} (t : Tx T K mg) (hm : mt_InvalidSize m = some true) (hT : T m = some (Ce, fn)) : PySem.W.findIn K (.ref Ce) "name" = some none := by
  have he := mt_err_InvalidSize hm
  unfold isErr at he
  split at he
  · have := t.T_InvalidSize; rw [hT] at this; cases this; exact t.no_InvalidSize_name
  · have := t.T_UnknownName; rw [hT] at this; cases this; exact t.no_UnknownName_name
  · cases he
theorem Tx.no_of_InvalidSize_size {T : Tab} {K : PySem.W.Frag} {mg : Str → Option Value} {m : Nat} {Ce : Addr} {fn : List Str} (t : Tx T K mg) (hm : mt_InvalidSize m = some true) (hT : T m = some (Ce, fn)) : PySem.W.findIn K (.ref Ce) "size" = some none := by
  have he := mt_err_InvalidSize hm
  unfold isErr at he
  split at he
  · have := t.T_InvalidSize; rw [hT] at this; cases this; exact t.no_InvalidSize_size
  · have := t.T_UnknownName; rw [hT] at this; cases this; exact t.no_UnknownName_size
  · cases he
theorem Tx.kt_of_InvalidSize_InvalidSize {T : Tab} {K : PySem.W.Frag} {mg : Str → Option Value} {m : Nat} {Ce : Addr} {fn : List Str} (t : Tx T K mg) (hm : mt_InvalidSize m = some true) (hT : T m = some (Ce, fn)) : ∀ b, kt_InvalidSize m = some b → PySem.W.kitOne K (.ref Ce) (.ref t.c_InvalidSize) = some b := by
  have he := mt_err_InvalidSize hm
  intro b h
  unfold kt_InvalidSize at h
  unfold isErr at he
  split at he
  · have := t.T_InvalidSize; rw [hT] at this; cases this; cases h; exact kit_self
  · have := t.T_UnknownName; rw [hT] at this; cases this; cases h; exact t.kt_UnknownName_InvalidSize
  · cases he
theorem Tx.kt_of_InvalidSize_KeyError {T : Tab} {K : PySem.W.Frag} {mg : Str → Option Value} {m : Nat} {Ce : Addr} {fn : List Str} (t : Tx T K mg) (hm : mt_InvalidSize m = some true) (hT : T m = some (Ce, fn)) : ∀ b, kt_KeyError m = some b → PySem.W.kitOne K (.ref Ce) (.type "KeyError") = some b := by
  have he := mt_err_InvalidSize hm
  intro b h
  unfold kt_KeyError at h
  unfold isErr at he
  split at he
  · have := t.T_InvalidSize; rw [hT] at this; cases this; cases h; exact t.kt_InvalidSize_KeyError
  · have := t.T_UnknownName; rw [hT] at this; cases this; cases h; exact t.kt_UnknownName_KeyError
  · cases he
theorem Tx.exc_of_UnknownName {T : Tab} {K : PySem.W.Frag} {mg : Str → Option Value} {m : Nat} {Ce : Addr} {fn : List Str} (t : Tx T K mg) (hm : mt_UnknownName m = some true) (hT : T m = some (Ce, fn)) : ExcC K Ce := by
  have he := mt_err_UnknownName hm
  unfold isErr at he
  split at he
  · have := t.T_InvalidSize; rw [hT] at this; cases this; exact t.x_InvalidSize
  · have := t.T_UnknownName; rw [hT] at this; cases this; exact t.x_UnknownName
  · cases he
theorem Tx.err_of_UnknownName {X : Cx} {T : Tab} {m : Nat} {Ce : Addr} {fn : List Str} {a : Addr} {oe : Obj} {d : Option Addr} (t : Tx T X.K X.mg) (hm : mt_UnknownName m = some true) (hT : T m = some (Ce, fn)) (hz : Zc (.ref Ce) d oe) (hv : ∃ vs, oe.data = .fields vs) : Err X T m a d Ce oe := ⟨t.exc_of_UnknownName hm hT, hz, hv, _, hT⟩
theorem Tx.xf_of_UnknownName {T : Tab} {K : PySem.W.Frag} {mg : Str → Option Value} {m : Nat} {Ce : Addr} {fn : List Str} (t : Tx T K mg) (hm : mt_UnknownName m = some true) (hT : T m = some (Ce, fn)) : XfC K Ce := by
  have he := mt_err_UnknownName hm
  unfold isErr at he
  split at he
  · have := t.T_InvalidSize; rw [hT] at this; cases this; exact t.xf_InvalidSize
  · have := t.T_UnknownName; rw [hT] at this; cases this; exact t.xf_UnknownName
  · cases he
theorem Tx.T_of_UnknownName {T : Tab} {K : PySem.W.Frag} {mg : Str → Option Value} {m : Nat} {Ce : Addr} {fn : List Str} (t : Tx T K mg) (hm : mt_UnknownName m = some true) (hT : T m = some (Ce, fn)) : T m = some (Ce, xfn m) := by
  have he := mt_err_UnknownName hm
  unfold isErr at he
  split at he
  · have := t.T_InvalidSize; rw [hT] at this; cases this; exact t.T_InvalidSize
  · have := t.T_UnknownName; rw [hT] at this; cases this; exact t.T_UnknownName
  · cases he
theorem Tx.no_of_UnknownName_name {T : Tab} {K : PySem.W.Frag} {mg : Str → Option Value} {m : Nat} {Ce : Addr} {fn : List Str} (t : Tx T K mg) (hm : mt_UnknownName m = some true) (hT : T m = some (Ce, fn)) : PySem.W.findIn K (.ref Ce) "name" = some none := by
  have he := mt_err_UnknownName hm
  unfold isErr at he
  split at he
  · have := t.T_InvalidSize; rw [hT] at this; cases this; exact t.no_InvalidSize_name
  · have := t.T_UnknownName; rw [hT] at this; cases this; exact t.no_UnknownName_name
  · cases he
theorem Tx.no_of_UnknownName_size {T : Tab} {K : PySem.W.Frag} {mg : Str → Option Value} {m : Nat} {Ce : Addr} {fn : List Str} (t : Tx T K mg) (hm : mt_UnknownName m = some true) (hT : T m = some (Ce, fn)) : PySem.W.findIn K (.ref Ce) "size" = some none := by
  have he := mt_err_UnknownName hm
  unfold isErr at he
  split at he
  · have := t.T_InvalidSize; rw [hT] at this; cases this; exact t.no_InvalidSize_size
  · have := t.T_UnknownName; rw [hT] at this; cases this; exact t.no_UnknownName_size
  · cases he
theorem Tx.kt_of_UnknownName_InvalidSize {T : Tab} {K : PySem.W.Frag} {mg : Str → Option Value} {m : Nat} {Ce : Addr} {fn : List Str} (t : Tx T K mg) (hm : mt_UnknownName m = some true) (hT : T m = some (Ce, fn)) : ∀ b, kt_InvalidSize m = some b → PySem.W.kitOne K (.ref Ce) (.ref t.c_InvalidSize) = some b := by
  have he := mt_err_UnknownName hm
  intro b h
  unfold kt_InvalidSize at h
  unfold isErr at he
  split at he
  · have := t.T_InvalidSize; rw [hT] at this; cases this; cases h; exact kit_self
  · have := t.T_UnknownName; rw [hT] at this; cases this; cases h; exact t.kt_UnknownName_InvalidSize
  · cases he
theorem Tx.kt_of_UnknownName_KeyError {T : Tab} {K : PySem.W.Frag} {mg : Str → Option Value} {m : Nat} {Ce : Addr} {fn : List Str} (t : Tx T K mg) (hm : mt_UnknownName m = some true) (hT : T m = some (Ce, fn)) : ∀ b, kt_KeyError m = some b → PySem.W.kitOne K (.ref Ce) (.type "KeyError") = some b := by
  have he := mt_err_UnknownName hm
  intro b h
  unfold kt_KeyError at h
  unfold isErr at he
  split at he
  · have := t.T_InvalidSize; rw [hT] at this; cases this; cases h; exact t.kt_InvalidSize_KeyError
  · have := t.T_UnknownName; rw [hT] at this; cases this; cases h; exact t.kt_UnknownName_KeyError
  · cases he

def w__law_box (n : Nat) : WS := (wConsS (wAsg 2 (wTwo (wTwo (wCon (.int 7919)) (wName 1) mulW) (wCon (.int 11)) addW))
  (wConsS (wIfS (wBl (wTwo (wName 1) (wCb (wCons (wName 0) wNil) lenW) ltW))
  (wConsS (wAsg 2 (wTwo (wName 0) (wName 1) ixW))
  wNilS)
  (wConsS (wIfS (wBl (wTwo (wCb (wCons (wName 0) wNil) lenW) (wCon (.int 0)) gtW))
  (wConsS (wAsg 2 (wTwo (wName 2) (wTwo (wTwo (wCb (wCons (wTwo (wName 0) (wTwo (wName 1) (wCb (wCons (wName 0) wNil) lenW) modW) ixW) wNil) intW1) (wCon (.int 2147483629)) modW) (wCon (.int 69623)) mulW) addW))
  wNilS)
  wNilS)
  wNilS))
  (wConsS (wAsg 3 (wTwo (wTwo (wTwo (wTwo (wTwo (wCb (wCons (wName 2) wNil) intW1) (wCon (.int 2147483629)) modW) (wTwo (wCon (.int 104729)) (wName 1) mulW) addW) (wCon (.int 1)) addW) (wCon (.int 5)) powW) (wCon (.int 2147483647)) modW))
  (wConsS (wRetC n (wLstC (wCons (wTwo (wLst (wCons (wCon (.int 0)) (wCons (wName 2) wNil))) (wCb (wCons (wTwo (wName 2) (wTwo (wCon (.int 10)) (wCon (.int 18)) powW) geW) wNil) intW1) ixW) (wCons (wTwo (wTwo (wCb (wCons (wName 3) wNil) intW1) (wCon (.int 2147483646)) modW) (wCon (.int 1)) addW) wNil))))
  wNilS))))
def c__law_box : Ct := ctOf ["_law_script", "_law_k", "_law_cell", "_law_seed"] ["_law_script", "_law_k"] (w__law_box)
section
variable {T : Tab} {P : Program} {w : World} {K : PySem.W.Frag} {mg : Str → Option Value} {base : Heap}
theorem Tx.ok__law_box (t : Tx T K mg) : FnOk P w K mg base CX0 1 t.a__law_box t.fd__law_box ["_law_script", "_law_k"] (spC T K c__law_box) := by
  have nd := sc__law_box.nd
  exact fn_J t.F__law_box sc__law_box fun cdv A outer sh H E hr n => (jss_cons (js_asg 2 nd (je_bin jb_add (je_bin jb_mul je_int (je_name 1)) je_int))
  (jss_cons (js_if (jt_cmp jc_lt (je_name 1) (je_cb t.z_len jc_len (ja_cons (je_name 0) ja_nil)))
  (jss_cons (js_asg 2 nd (je_sub ji_ix (je_name 0) (je_name 1)))
  jss_nil)
  (jss_cons (js_if (jt_cmp jc_gt (je_cb t.z_len jc_len (ja_cons (je_name 0) ja_nil)) je_int)
  (jss_cons (js_asg 2 nd (je_bin jb_add (je_name 2) (je_bin jb_mul (je_bin jb_mod (je_cb t.z_int jc_int (ja_cons (je_sub ji_ix (je_name 0) (je_bin jb_mod (je_name 1) (je_cb t.z_len jc_len (ja_cons (je_name 0) ja_nil)))) ja_nil)) je_int) je_int)))
  jss_nil)
  jss_nil)
  jss_nil))
  (jss_cons (js_asg 3 nd (je_bin jb_mod (je_bin jb_pow (je_bin jb_add (je_bin jb_add (je_bin jb_mod (je_cb t.z_int jc_int (ja_cons (je_name 2) ja_nil)) je_int) (je_bin jb_mul je_int (je_name 1))) je_int) je_int) je_int))
  (jss_cons (js_retC (je_lstC (ja_cons (je_sub ji_ix (je_lst (ja_cons je_int (ja_cons (je_name 2) ja_nil))) (je_cb t.z_int jc_int (ja_cons (je_cmp jc_ge (je_name 2) (je_bin jb_pow je_int je_int)) ja_nil))) (ja_cons (je_bin jb_add (je_bin jb_mod (je_cb t.z_int jc_int (ja_cons (je_name 3) ja_nil)) je_int) je_int) ja_nil))))
  jss_nil))))
end

def w__law_take (n : Nat) : WS := (wConsS (wIfS (wBl (wTwo (wTwo (wName 0) (wCon (.int 0)) ixW) (wCon (.int 0)) gtW))
  (wConsS (wAsg 2 (wTwo (wCb (wCons (wTwo (wName 0) (wCon (.int 0)) ixW) wNil) intW1) (wName 1) modW))
  (wConsS (wSetL (wTwo (wTwo (wName 0) (wCon (.int 0)) ixW) (wName 1) fdivW) (wName 0) (wCon (.int 0)))
  (wConsS (wRet n (wName 2))
  wNilS)))
  wNilS)
  (wConsS (wAsg 3 (wTwo (wCb (wCons (wTwo (wTwo (wName 0) (wCon (.int 1)) ixW) (wCon (.int 69623)) mulW) wNil) intW1) (wCon (.int 2147483647)) modW))
  (wConsS (wSetL (wTwo (wTwo (wCb (wCons (wTwo (wTwo (wName 3) (wCon (.int 48271)) mulW) (wCon (.int 30103)) addW) wNil) intW1) (wCon (.int 2147483629)) modW) (wCon (.int 1)) addW) (wName 0) (wCon (.int 1)))
  (wConsS (wRet n (wTwo (wCb (wCons (wTwo (wTwo (wTwo (wName 3) (wCon (.int 2147483647)) mulW) (wTwo (wName 0) (wCon (.int 1)) ixW) addW) (wCon (.int 8191)) fdivW) wNil) intW1) (wName 1) modW))
  wNilS))))
def c__law_take : Ct := ctOf ["_law_box_here", "_law_many", "_law_digit", "_law_one"] ["_law_box_here", "_law_many"] (w__law_take)
section
variable {T : Tab} {P : Program} {w : World} {K : PySem.W.Frag} {mg : Str → Option Value} {base : Heap}
theorem Tx.ok__law_take (t : Tx T K mg) : FnOk P w K mg base CX0 1 t.a__law_take t.fd__law_take ["_law_box_here", "_law_many"] (spC T K c__law_take) := by
  have nd := sc__law_take.nd
  exact fn_J t.F__law_take sc__law_take fun cdv A outer sh H E hr n => (jss_cons (js_if (jt_cmp jc_gt (je_sub ji_ix (je_name 0) je_int) je_int)
  (jss_cons (js_asg 2 nd (je_bin jb_mod (je_cb t.z_int jc_int (ja_cons (je_sub ji_ix (je_name 0) je_int) ja_nil)) (je_name 1)))
  (jss_cons (js_setL (je_bin jb_fdiv (je_sub ji_ix (je_name 0) je_int) (je_name 1)) (je_name 0) je_int)
  (jss_cons (js_ret (je_name 2))
  jss_nil)))
  jss_nil)
  (jss_cons (js_asg 3 nd (je_bin jb_mod (je_cb t.z_int jc_int (ja_cons (je_bin jb_mul (je_sub ji_ix (je_name 0) je_int) je_int) ja_nil)) je_int))
  (jss_cons (js_setL (je_bin jb_add (je_bin jb_mod (je_cb t.z_int jc_int (ja_cons (je_bin jb_add (je_bin jb_mul (je_name 3) je_int) je_int) ja_nil)) je_int) je_int) (je_name 0) je_int)
  (jss_cons (js_ret (je_bin jb_mod (je_cb t.z_int jc_int (ja_cons (je_bin jb_fdiv (je_bin jb_add (je_bin jb_mul (je_name 3) je_int) (je_sub ji_ix (je_name 0) je_int)) je_int) ja_nil)) (je_name 1)))
  jss_nil))))
end

def w__law_far (n : Nat) : WS := (wConsS (wRet n (wTwo (wLst (wCons (wTwo (wFn c__law_take (wCons (wName 0) (wCons (wCon (.int 130)) wNil))) (wCon (.int 65)) subW) (wCons (wTwo (wFn c__law_take (wCons (wName 0) (wCons (wTwo (wCon (.int 10)) (wCon (.int 20)) powW) wNil))) (wTwo (wCon (.int 10)) (wCon (.int 19)) powW) subW) wNil))) (wFn c__law_take (wCons (wName 0) (wCons (wCon (.int 2)) wNil))) ixW))
  wNilS)
def c__law_far : Ct := ctOf ["_law_box_here"] ["_law_box_here"] (w__law_far)
section
variable {T : Tab} {P : Program} {w : World} {K : PySem.W.Frag} {mg : Str → Option Value} {base : Heap}
theorem Tx.ok__law_far (t : Tx T K mg) : FnOk P w K mg base CX0 2 t.a__law_far t.fd__law_far ["_law_box_here"] (spC T K c__law_far) := by
  have nd := sc__law_far.nd
  exact fn_J t.F__law_far sc__law_far fun cdv A outer sh H E hr n => (jss_cons (js_ret (je_sub ji_ix (je_lst (ja_cons (je_bin jb_sub (je_call t.ok__law_take (hr.mono (by decide)) t.m__law_take t.F__law_take.kp t.b__law_take (ja_cons (je_name 0) (ja_cons je_int ja_nil))) je_int) (ja_cons (je_bin jb_sub (je_call t.ok__law_take (hr.mono (by decide)) t.m__law_take t.F__law_take.kp t.b__law_take (ja_cons (je_name 0) (ja_cons (je_bin jb_pow je_int je_int) ja_nil))) (je_bin jb_pow je_int je_int)) ja_nil))) (je_call t.ok__law_take (hr.mono (by decide)) t.m__law_take t.F__law_take.kp t.b__law_take (ja_cons (je_name 0) (ja_cons je_int ja_nil)))))
  jss_nil)
end

def w__law_free (n : Nat) : WS := (wConsS (wAsg 3 (wTag (wDisS ["n", "i", "j"] (wCons (wName 0) (wCons (wTwo (wCb (wCons (wName 1) wNil) (liWC intW1)) (wName 0) (liW2 modW)) (wCons (wTwo (wCb (wCons (wName 2) wNil) (liWC intW1)) (wName 0) (liW2 modW)) wNil))))))
  (wConsS (wFor (wItems (wTup (wCons (wCon (.str "r")) (wCons (wCon (.str "s")) (wCons (wCon (.str "t")) wNil))))) (.nm 4)
  (wConsS (wSetDA (wTup (wCons (wCon (.str "start")) (wCons (wName 4) wNil))) (wName 3) (wName 4))
  wNilS))
  (wConsS (wFor (wItems (wTup (wCons (wCon (.str "A")) (wCons (wCon (.str "B")) (wCons (wCon (.str "C")) wNil))))) (.nm 4)
  (wConsS (wSetDA (wLc (wRng1 (wCons (wName 0) wNil)) (.nm 5) wYes (wTup (wCons (wCon (.str "cell")) (wCons (wName 4) (wCons (wName 5) wNil)))) [5]) (wName 3) (wName 4))
  wNilS))
  (wConsS (wRetG (wName 3))
  wNilS))))
def c__law_free : CtG := cgOf ["_law_n", "_law_one", "_law_other", "_law_now", "_law_name", "_law_k"] ["_law_n", "_law_one", "_law_other"] (w__law_free)
section
variable {T : Tab} {P : Program} {w : World} {K : PySem.W.Frag} {mg : Str → Option Value} {base : Heap}
theorem Tx.ok__law_free (t : Tx T K mg) : FnOk P w K mg base CX0 1 t.a__law_free t.fd__law_free ["_law_n", "_law_one", "_law_other"] (spG T K c__law_free) := by
  have nd := sc__law_free.nd
  exact fn_G t.F__law_free sc__law_free fun cdv A outer sh H E hr n => (jss_cons (js_asg 3 nd (je_tag (je_disS (.cons (je_name 0) (.cons (je_binP (JBin.P (jb_li jb_mod)) (je_cb t.z_int (jk_li jc_int) (ja_cons (je_name 1) ja_nil)) (je_name 0)) (.cons (je_binP (JBin.P (jb_li jb_mod)) (je_cb t.z_int (jk_li jc_int) (ja_cons (je_name 2) ja_nil)) (je_name 0)) .nil))))))
  (jss_cons (js_for PassesOwn.never (ji_val (je_tup (ja_cons je_str (ja_cons je_str (ja_cons je_str ja_nil))))) (dg_name 4 nd)
  (jss_cons (js_setDA hr.units (je_tup (ja_cons je_str (ja_cons (je_name 4) ja_nil))) (je_name 3) (je_name 4))
  jss_nil))
  (jss_cons (js_for PassesOwn.never (ji_val (je_tup (ja_cons je_str (ja_cons je_str (ja_cons je_str ja_nil))))) (dg_name 4 nd)
  (jss_cons (js_setDA hr.units (je_lc nd ⟨(ji_range1 t.z_range (ja_cons (je_name 0) ja_nil)), blkOk_by (own := [("_law_k", 5)]) (by kernel_rfl), fun _ _ _ _ _ => (dg_name 5 nd), fun _ _ _ _ _ => jts_nil, fun _ _ _ _ _ => (je_tup (ja_cons je_str (ja_cons (je_name 4) (ja_cons (je_name 5) ja_nil)))), by decide⟩) (je_name 3) (je_name 4))
  jss_nil))
  (jss_cons (js_retG (je_name 3))
  jss_nil))))
end

def w__law_pick (n : Nat) : WS := (wConsS (wRet n (wTwo (wName 1) (wFn c__law_take (wCons (wName 0) (wCons (wCb (wCons (wName 1) wNil) lenW) wNil))) ixW))
  wNilS)
def c__law_pick : Ct := ctOf ["_law_box_here", "_law_some"] ["_law_box_here", "_law_some"] (w__law_pick)
section
variable {T : Tab} {P : Program} {w : World} {K : PySem.W.Frag} {mg : Str → Option Value} {base : Heap}
theorem Tx.ok__law_pick (t : Tx T K mg) : FnOk P w K mg base CX0 2 t.a__law_pick t.fd__law_pick ["_law_box_here", "_law_some"] (spC T K c__law_pick) := by
  have nd := sc__law_pick.nd
  exact fn_J t.F__law_pick sc__law_pick fun cdv A outer sh H E hr n => (jss_cons (js_ret (je_sub ji_ix (je_name 1) (je_call t.ok__law_take (hr.mono (by decide)) t.m__law_take t.F__law_take.kp t.b__law_take (ja_cons (je_name 0) (ja_cons (je_cb t.z_len jc_len (ja_cons (je_name 1) ja_nil)) ja_nil)))))
  jss_nil)
end

def w__law_some_value (n : Nat) : WS := (wConsS (wAsg 1 (wLst (wCons (wFn c__law_take (wCons (wName 0) (wCons (wCon (.int 5)) wNil))) (wCons (wTwo (wCon (.int 0)) (wFn c__law_take (wCons (wName 0) (wCons (wTwo (wCon (.int 10)) (wCon (.int 12)) powW) wNil))) subW) (wCons (wCon (.str "")) (wCons (wCon (.str "cell")) (wCons (wCon .non) (wCons (wCon (.bl true)) (wCons (wCon (.int 1)) wNil)))))))))
  (wConsS (wRet n (wFn c__law_pick (wCons (wName 0) (wCons (wTwo (wName 1) (wLst (wCons (wTup (wCons (wCon (.str "cell")) (wCons (wCon (.str "A")) (wCons (wFn c__law_take (wCons (wName 0) (wCons (wCon (.int 9)) wNil))) wNil)))) (wCons (wLst (wCons (wCon (.int 1)) (wCons (wTup wNil) wNil))) wNil))) addW) wNil))))
  wNilS))
def c__law_some_value : Ct := ctOf ["_law_box_here", "_law_some"] ["_law_box_here"] (w__law_some_value)
section
variable {T : Tab} {P : Program} {w : World} {K : PySem.W.Frag} {mg : Str → Option Value} {base : Heap}
theorem Tx.ok__law_some_value (t : Tx T K mg) : FnOk P w K mg base CX0 3 t.a__law_some_value t.fd__law_some_value ["_law_box_here"] (spC T K c__law_some_value) := by
  have nd := sc__law_some_value.nd
  exact fn_J t.F__law_some_value sc__law_some_value fun cdv A outer sh H E hr n => (jss_cons (js_asg 1 nd (je_lst (ja_cons (je_call t.ok__law_take (hr.mono (by decide)) t.m__law_take t.F__law_take.kp t.b__law_take (ja_cons (je_name 0) (ja_cons je_int ja_nil))) (ja_cons (je_bin jb_sub je_int (je_call t.ok__law_take (hr.mono (by decide)) t.m__law_take t.F__law_take.kp t.b__law_take (ja_cons (je_name 0) (ja_cons (je_bin jb_pow je_int je_int) ja_nil)))) (ja_cons je_str (ja_cons je_str (ja_cons je_non (ja_cons je_bl (ja_cons je_int ja_nil)))))))))
  (jss_cons (js_ret (je_call t.ok__law_pick (hr.mono (by decide)) t.m__law_pick t.F__law_pick.kp t.b__law_pick (ja_cons (je_name 0) (ja_cons (je_bin jb_add (je_name 1) (je_lst (ja_cons (je_tup (ja_cons je_str (ja_cons je_str (ja_cons (je_call t.ok__law_take (hr.mono (by decide)) t.m__law_take t.F__law_take.kp t.b__law_take (ja_cons (je_name 0) (ja_cons je_int ja_nil))) ja_nil)))) (ja_cons (je_lst (ja_cons je_int (ja_cons (je_tup ja_nil) ja_nil))) ja_nil)))) ja_nil))))
  jss_nil))
end

def w__law_filled (n : Nat) : WS := (wConsS (wAsg 2 (wFnG c__law_free (wCons (wName 0) (wCons (wCon (.int 0)) (wCons (wCon (.int 0)) wNil)))))
  (wConsS (wFor (wItems (wTup (wCons (wCon (.str "A")) (wCons (wCon (.str "B")) (wCons (wCon (.str "C")) wNil))))) (.nm 3)
  (wConsS (wSetDA (wTwo (wLst (wCons (wName 1) wNil)) (wName 0) (liW2 mulW)) (wName 2) (wName 3))
  wNilS))
  (wConsS (wFor (wItems (wTup (wCons (wCon (.str "r")) (wCons (wCon (.str "s")) (wCons (wCon (.str "t")) wNil))))) (.nm 3)
  (wConsS (wSetDA (wName 1) (wName 2) (wName 3))
  wNilS))
  (wConsS (wRetG (wName 2))
  wNilS))))
def c__law_filled : CtG := cgOf ["_law_n", "_law_thing", "_law_now", "_law_name"] ["_law_n", "_law_thing"] (w__law_filled)
section
variable {T : Tab} {P : Program} {w : World} {K : PySem.W.Frag} {mg : Str → Option Value} {base : Heap}
theorem Tx.ok__law_filled (t : Tx T K mg) : FnOk P w K mg base CX0 2 t.a__law_filled t.fd__law_filled ["_law_n", "_law_thing"] (spG T K c__law_filled) := by
  have nd := sc__law_filled.nd
  exact fn_G t.F__law_filled sc__law_filled fun cdv A outer sh H E hr n => (jss_cons (js_asg 2 nd (je_callHp t.ok__law_free (hr.mono (by decide)) t.m__law_free t.F__law_free.kp t.b__law_free (ja_cons (je_name 0) (ja_cons je_int (ja_cons je_int ja_nil)))))
  (jss_cons (js_for PassesOwn.never (ji_val (je_tup (ja_cons je_str (ja_cons je_str (ja_cons je_str ja_nil))))) (dg_name 3 nd)
  (jss_cons (js_setDA hr.units (je_binP (JBin.P (jb_li jb_mul)) (je_lst (ja_cons (je_name 1) ja_nil)) (je_name 0)) (je_name 2) (je_name 3))
  jss_nil))
  (jss_cons (js_for PassesOwn.never (ji_val (je_tup (ja_cons je_str (ja_cons je_str (ja_cons je_str ja_nil))))) (dg_name 3 nd)
  (jss_cons (js_setDA hr.units (je_name 1) (je_name 2) (je_name 3))
  jss_nil))
  (jss_cons (js_retG (je_name 2))
  jss_nil))))
end

def w_Ring_cells (n : Nat) : WS := (wConsS (wRetG (wCb (wCons (wFldA 0 "row" (wName 0)) wNil) (liWC listW)))
  wNilS)
def c_Ring_cells : CtG := cgOf ["self"] ["self"] (w_Ring_cells)
section
variable {T : Tab} {P : Program} {w : World} {K : PySem.W.Frag} {mg : Str → Option Value} {base : Heap}
theorem Tx.ok_Ring_cells (t : Tx T K mg) : FnOk P w K mg base CX0 1 t.a_Ring_cells t.fd_Ring_cells ["self"] (spG T K c_Ring_cells) := by
  have nd := sc_Ring_cells.nd
  exact fn_G t.F_Ring_cells sc_Ring_cells fun cdv A outer sh H E hr n => (jss_cons (js_retG (je_cb t.z_list (jk_li jc_list) (ja_cons (je_fldA t.T_Ring t.cl_Ring t.no_Ring_row (je_name 0)) ja_nil)))
  jss_nil)
end

section
variable {T : Tab} {P : Program} {w : World} {K : PySem.W.Frag} {mg : Str → Option Value} {base : Heap}
theorem Tx.ok_UnknownName___init__ (t : Tx T K mg) : FnOk P w K mg base CX0 1 t.a_UnknownName___init__ t.fd_UnknownName___init__ ["self", "name"] (spEn t.c_UnknownName ["name"]) := by
  refine t.F_UnknownName___init__.ok sc_UnknownName___init__ (fun vs H Q E h => ?_) (fun cdv A outer s H vs Q E hr h => ⟨_, (pss_cons (ps_expr (pe_biniB (tl := keT) (nid := "LookupError.__new__") ini_ke (by decide +kernel) t.z_KeyError (bic_ke t.bi_KeyError) (pa_cons (pv 0) (pa_cons pe_str pa_nil)))) (pss_one (ps_ostB tlf_ke (pv 0) (pv 1)))), ?_⟩)
  · obtain ⟨a, ws, rfl, hl, _⟩ := h
    rw [List.length_cons, hl] <;> rfl
  · obtain ⟨a, ws, rfl, hl, e, q0, q1⟩ := h
    match ws, hl with
    | [v0], _ => exact ⟨_, rfl, a, t.c_UnknownName, [_], rfl, by decide, t.o_UnknownName, e, _, rfl, _, rfl, a, t.c_UnknownName, rfl, t.o_UnknownName, t.no_UnknownName_name, .inl ⟨e, fun dx n1 n2 => q1 (by decide) dx n1 n2⟩⟩
end

section
variable {T : Tab} {P : Program} {w : World} {K : PySem.W.Frag} {mg : Str → Option Value} {base : Heap}
theorem Tx.ok_InvalidSize___init__ (t : Tx T K mg) : FnOk P w K mg base CX0 1 t.a_InvalidSize___init__ t.fd_InvalidSize___init__ ["self", "size"] (spE1 t.c_InvalidSize "size") := by
  refine t.F_InvalidSize___init__.ok sc_InvalidSize___init__ (fun vs H Q E h => ?_) (fun cdv A outer s H vs Q E hr h => ⟨_, pss_cons (ps_expr (pe_cinit rfl t.m_ClashError t.ci_ClashError (pa_cons (pv 0) (pa_cons pe_str pa_nil)) (by decide) rfl rfl rfl)) (pss_one (ps_ost (pv 0) (pv 1))), ?_⟩)
  · obtain ⟨a, v, rfl, _⟩ := h; rfl
  · obtain ⟨a, v, rfl, e, q⟩ := h
    exact ⟨_, rfl, a, t.c_InvalidSize, [_], rfl, by decide, t.o_InvalidSize, e, _, rfl, _, rfl, a, t.c_InvalidSize, rfl, t.o_InvalidSize, t.no_InvalidSize_size, .inl ⟨e, fun dx n1 n2 => q dx n1 n2⟩⟩
end

def w_Ring___init__ (n : Nat) : WS := (wConsS (wIfS (wBl (wTwo (wCb (wCons (wName 1) wNil) (liWC lenW)) (wCon (.int 0)) (liW2 (eqW false))))
  (wConsS (wRaise1 2 (wCon (.int 0)))
  wNilS)
  wNilS)
  (wConsS (wSetFA 0 "row" (wTag (wCb (wCons (wName 1) wNil) (liWC listWC))) (wName 0))
  wNilS))
def c_Ring___init__ : CtGX := cgxOf ["self", "values"] ["self", "values"] (w_Ring___init__)
section
variable {T : Tab} {P : Program} {w : World} {K : PySem.W.Frag} {mg : Str → Option Value} {base : Heap}
theorem Tx.ok_Ring___init__ (t : Tx T K mg) : FnOk P w K mg base (L2.CX P w) 3 t.a_Ring___init__ t.fd_Ring___init__ ["self", "values"] (spGX T K c_Ring___init__) := by
  have nd := sc_Ring___init__.nd
  exact fn_GX t.F_Ring___init__ sc_Ring___init__ fun cdv A outer sh H E hr tk n => (jss_cons (js_if (jt_cmpP (JCmp.P (jc_li (jc_eq hr.units))) (je_cb t.z_len (jk_li jc_len) (ja_cons (je_name 1) ja_nil)) je_int)
  (jss_cons (js_raise1 tk t.o_InvalidSize t.at_InvalidSize___init__ t.ty_InvalidSize___init__ t.ok_InvalidSize___init__ (hr.mono (by decide)) t.b_InvalidSize___init__ t.m_InvalidSize t.T_InvalidSize je_int)
  jss_nil)
  jss_nil)
  (jss_cons (js_fldA t.T_Ring t.cl_Ring t.no_Ring_row (je_tag (je_cb t.z_list (jk_li jc_listC) (ja_cons (je_name 1) ja_nil))) (je_name 0))
  jss_nil))
end

def w_State___getitem__ (n : Nat) : WS := (wConsS (wIfS (wBl (wTwo (wName 1) (wCon (.tup ((["A", "B", "C"] : List Str).map D.str))) (liW2 (selW PDc (inDW false) (inW' false)))))
  (wConsS (wRetG (wMakeAX 0 c_Ring___init__ 1 0 fu_Ring_1_ (wCons (wDgetA (wFldA 1 "contents" (wName 0)) (wName 1)) wNil) wNil))
  wNilS)
  wNilS)
  (wConsS (wIfS (wBl (wTwo (wName 1) (wCon (.tup ((["r", "s", "t"] : List Str).map D.str))) (liW2 (selW PDc (inDW false) (inW' false)))))
  (wConsS (wRetG (wDgetA (wFldA 1 "held" (wName 0)) (wName 1)))
  wNilS)
  wNilS)
  (wConsS (wIfS (wBl (wTwo (wName 1) (wCon (.tup ((["i", "j"] : List Str).map D.str))) (liW2 (selW PDc (inDW false) (inW' false)))))
  (wConsS (wRetG (wDgetA (wFldA 1 "offsets" (wName 0)) (wName 1)))
  wNilS)
  wNilS)
  (wConsS (wRaiseN 3 1 (wCons (wName 1) wNil))
  wNilS))))
def c_State___getitem__ : CtGX := cgxOf ["self", "name"] ["self", "name"] (w_State___getitem__)
section
variable {T : Tab} {P : Program} {w : World} {K : PySem.W.Frag} {mg : Str → Option Value} {base : Heap}
theorem Tx.ok_State___getitem__ (t : Tx T K mg) : FnOk P w K mg base (L2.CX P w) 5 t.a_State___getitem__ t.fd_State___getitem__ ["self", "name"] (spGX T K c_State___getitem__) := by
  have nd := sc_State___getitem__.nd
  exact fn_GX t.F_State___getitem__ sc_State___getitem__ fun cdv A outer sh H E hr tk n => (jss_cons (js_if (jt_cmpP (JCmp.P (jc_li (jc_inD false hr.units jc_in))) (je_name 1) (je_gtups t.gm_ARRAYS t.ge_ARRAYS))
  (jss_cons (js_retG (je_makeAX tk t.T_Ring t.K_Ring t.ok_Ring___init__ (hr.mono (by decide)) t.m_Ring t.kb_Ring_1_ t.put_Ring_1_ (ja_cons (je_dgetA hr.units (je_fldA t.T_State t.cl_State t.no_State_contents (je_name 0)) (je_name 1)) ja_nil) jk_nil))
  jss_nil)
  jss_nil)
  (jss_cons (js_if (jt_cmpP (JCmp.P (jc_li (jc_inD false hr.units jc_in))) (je_name 1) (je_gtups t.gm_REGISTERS t.ge_REGISTERS))
  (jss_cons (js_retG (je_dgetA hr.units (je_fldA t.T_State t.cl_State t.no_State_held (je_name 0)) (je_name 1)))
  jss_nil)
  jss_nil)
  (jss_cons (js_if (jt_cmpP (JCmp.P (jc_li (jc_inD false hr.units jc_in))) (je_name 1) (je_gtups t.gm_OFFSETS t.ge_OFFSETS))
  (jss_cons (js_retG (je_dgetA hr.units (je_fldA t.T_State t.cl_State t.no_State_offsets (je_name 0)) (je_name 1)))
  jss_nil)
  jss_nil)
  (jss_cons (js_raiseN tk tlf_ke t.o_UnknownName t.at_UnknownName___init__ t.ty_UnknownName___init__ t.ok_UnknownName___init__ (hr.mono (by decide)) t.b_UnknownName___init__ t.m_UnknownName t.T_UnknownName rfl (ja_cons (je_name 1) ja_nil))
  jss_nil))))
end

def w__law_is_state (n : Nat) : WS := (wConsS (wIfS (wBl (wTwo (wCb (wCons (wFldA 1 "size" (wName 0)) wNil) (liWC reprLW)) (wCb (wCons (wDgetA (wName 1) (wCon (.str "n"))) wNil) (liWC reprLW)) (liW2 (eqW true))))
  (wConsS (wRetG (wCon (.bl false)))
  wNilS)
  wNilS)
  (wConsS (wFor (wItems (wTup (wCons (wCon (.str "A")) (wCons (wCon (.str "B")) (wCons (wCon (.str "C")) wNil))))) (.nm 2)
  (wConsS (wIfS (wBl (wTwo (wCb (wCons (wMethA0 0 "cells" c_Ring_cells (wSubAX 1 c_State___getitem__ (wName 0) (wName 2))) wNil) (liWC reprLW)) (wCb (wCons (wDgetA (wName 1) (wName 2)) wNil) (liWC reprLW)) (liW2 (eqW true))))
  (wConsS (wRetG (wCon (.bl false)))
  wNilS)
  wNilS)
  wNilS))
  (wConsS (wFor (wItems (wTup (wCons (wCon (.str "r")) (wCons (wCon (.str "s")) (wCons (wCon (.str "t")) (wCons (wCon (.str "i")) (wCons (wCon (.str "j")) wNil))))))) (.nm 2)
  (wConsS (wIfS (wBl (wTwo (wCb (wCons (wSubAX 1 c_State___getitem__ (wName 0) (wName 2)) wNil) (liWC reprLW)) (wCb (wCons (wDgetA (wName 1) (wName 2)) wNil) (liWC reprLW)) (liW2 (eqW true))))
  (wConsS (wRetG (wCon (.bl false)))
  wNilS)
  wNilS)
  wNilS))
  (wConsS (wRetG (wCon (.bl true)))
  wNilS))))
def c__law_is_state : CtG := cgOf ["_law_state", "_law_now", "_law_name"] ["_law_state", "_law_now"] (w__law_is_state)
section
variable {T : Tab} {P : Program} {w : World} {K : PySem.W.Frag} {mg : Str → Option Value} {base : Heap}
theorem Tx.ok__law_is_state (t : Tx T K mg) : FnG P w K mg base CX0 7 t.a__law_is_state t.fd__law_is_state ["_law_state", "_law_now"] (spG T K c__law_is_state) := by
  have nd := sc__law_is_state.nd
  exact fn_HG t.F__law_is_state sc__law_is_state fun cdv A outer sh H E hG hr n => (jss_cons (js_if (jt_cmpP (JCmp.P (jc_li (jc_ne hr.units))) (je_cb t.z_repr (jk_li (jc_reprL hG hr.units)) (ja_cons (je_fldA t.T_State t.cl_State t.no_State_size (je_name 0)) ja_nil)) (je_cb t.z_repr (jk_li (jc_reprL hG hr.units)) (ja_cons (je_dgetA hr.units (je_name 1) je_str) ja_nil)))
  (jss_cons (js_retG je_bl)
  jss_nil)
  jss_nil)
  (jss_cons (js_for PassesOwn.never (ji_val (je_tup (ja_cons je_str (ja_cons je_str (ja_cons je_str ja_nil))))) (dg_name 2 nd)
  (jss_cons (js_if (jt_cmpP (JCmp.P (jc_li (jc_ne hr.units))) (je_cb t.z_repr (jk_li (jc_reprL hG hr.units)) (ja_cons (je_methA0 t.T_Ring t.cl_Ring t.M_Ring_cells t.ok_Ring_cells (hr.mono (by decide)) t.b_Ring_cells (je_subAX tk0 t.T_State t.ok_State___getitem__ (hr.mono (by decide)) t.b_State___getitem__ t.M_State___getitem__.at_ t.FG_State t.M_State___getitem__.fn (je_name 0) (je_name 2))) ja_nil)) (je_cb t.z_repr (jk_li (jc_reprL hG hr.units)) (ja_cons (je_dgetA hr.units (je_name 1) (je_name 2)) ja_nil)))
  (jss_cons (js_retG je_bl)
  jss_nil)
  jss_nil)
  jss_nil))
  (jss_cons (js_for PassesOwn.never (ji_val (je_tup (ja_cons je_str (ja_cons je_str (ja_cons je_str (ja_cons je_str (ja_cons je_str ja_nil))))))) (dg_name 2 nd)
  (jss_cons (js_if (jt_cmpP (JCmp.P (jc_li (jc_ne hr.units))) (je_cb t.z_repr (jk_li (jc_reprL hG hr.units)) (ja_cons (je_subAX tk0 t.T_State t.ok_State___getitem__ (hr.mono (by decide)) t.b_State___getitem__ t.M_State___getitem__.at_ t.FG_State t.M_State___getitem__.fn (je_name 0) (je_name 2)) ja_nil)) (je_cb t.z_repr (jk_li (jc_reprL hG hr.units)) (ja_cons (je_dgetA hr.units (je_name 1) (je_name 2)) ja_nil)))
  (jss_cons (js_retG je_bl)
  jss_nil)
  jss_nil)
  jss_nil))
  (jss_cons (js_retG je_bl)
  jss_nil))))
end

def w_Ring___len__ (n : Nat) : WS := (wConsS (wRetG (wCb (wCons (wFldA 0 "row" (wName 0)) wNil) (liWC lenW)))
  wNilS)
def c_Ring___len__ : CtG := cgOf ["self"] ["self"] (w_Ring___len__)
section
variable {T : Tab} {P : Program} {w : World} {K : PySem.W.Frag} {mg : Str → Option Value} {base : Heap}
theorem Tx.ok_Ring___len__ (t : Tx T K mg) : FnOk P w K mg base CX0 1 t.a_Ring___len__ t.fd_Ring___len__ ["self"] (spG T K c_Ring___len__) := by
  have nd := sc_Ring___len__.nd
  exact fn_G t.F_Ring___len__ sc_Ring___len__ fun cdv A outer sh H E hr n => (jss_cons (js_retG (je_cb t.z_len (jk_li jc_len) (ja_cons (je_fldA t.T_Ring t.cl_Ring t.no_Ring_row (je_name 0)) ja_nil)))
  jss_nil)
end

def w_State___setitem__ (n : Nat) : WS := (wConsS (wIfS (wBl (wTwo (wName 1) (wCon (.tup ((["A", "B", "C"] : List Str).map D.str))) (liW2 (selW PDc (inDW false) (inW' false)))))
  (wConsS (wIfS (wBl (wTwo (wCb (wCons (wName 2) wNil) (refLenW 0 c_Ring___len__ (liWC lenW))) (wFldA 1 "size" (wName 0)) (liW2 (eqW true))))
  (wConsS (wRaise1 2 (wCb (wCons (wName 2) wNil) (refLenW 0 c_Ring___len__ (liWC lenW))))
  wNilS)
  wNilS)
  (wConsS (wSetDA (wMethA0 0 "cells" c_Ring_cells (wName 2)) (wFldA 1 "contents" (wName 0)) (wName 1))
  wNilS))
  (wConsS (wIfS (wBl (wTwo (wName 1) (wCon (.tup ((["r", "s", "t"] : List Str).map D.str))) (liW2 (selW PDc (inDW false) (inW' false)))))
  (wConsS (wSetDA (wName 2) (wFldA 1 "held" (wName 0)) (wName 1))
  wNilS)
  (wConsS (wIfS (wBl (wTwo (wName 1) (wCon (.tup ((["i", "j"] : List Str).map D.str))) (liW2 (selW PDc (inDW false) (inW' false)))))
  (wConsS (wSetDA (wTwo (wName 2) (wFldA 1 "size" (wName 0)) (liW2 modW)) (wFldA 1 "offsets" (wName 0)) (wName 1))
  wNilS)
  (wConsS (wRaiseN 3 1 (wCons (wName 1) wNil))
  wNilS))
  wNilS))
  wNilS))
  wNilS)
def c_State___setitem__ : CtGX := cgxOf ["self", "name", "worth"] ["self", "name", "worth"] (w_State___setitem__)
section
variable {T : Tab} {P : Program} {w : World} {K : PySem.W.Frag} {mg : Str → Option Value} {base : Heap}
theorem Tx.ok_State___setitem__ (t : Tx T K mg) : FnOk P w K mg base (L2.CX P w) 3 t.a_State___setitem__ t.fd_State___setitem__ ["self", "name", "worth"] (spGX T K c_State___setitem__) := by
  have nd := sc_State___setitem__.nd
  exact fn_GX t.F_State___setitem__ sc_State___setitem__ fun cdv A outer sh H E hr tk n => (jss_cons (js_if (jt_cmpP (JCmp.P (jc_li (jc_inD false hr.units jc_in))) (je_name 1) (je_gtups t.gm_ARRAYS t.ge_ARRAYS))
  (jss_cons (js_if (jt_cmpP (JCmp.P (jc_li (jc_ne hr.units))) (je_cb t.z_len (jc_refLen (jk_li jc_len) t.T_Ring t.ok_Ring___len__ (hr.mono (by decide)) t.b_Ring___len__ t.M_Ring___len__.at_ t.M_Ring___len__.fn) (ja_cons (je_name 2) ja_nil)) (je_fldA t.T_State t.cl_State t.no_State_size (je_name 0)))
  (jss_cons (js_raise1 tk t.o_InvalidSize t.at_InvalidSize___init__ t.ty_InvalidSize___init__ t.ok_InvalidSize___init__ (hr.mono (by decide)) t.b_InvalidSize___init__ t.m_InvalidSize t.T_InvalidSize (je_cb t.z_len (jc_refLen (jk_li jc_len) t.T_Ring t.ok_Ring___len__ (hr.mono (by decide)) t.b_Ring___len__ t.M_Ring___len__.at_ t.M_Ring___len__.fn) (ja_cons (je_name 2) ja_nil)))
  jss_nil)
  jss_nil)
  (jss_cons (js_setDA hr.units (je_methA0 t.T_Ring t.cl_Ring t.M_Ring_cells t.ok_Ring_cells (hr.mono (by decide)) t.b_Ring_cells (je_name 2)) (je_fldA t.T_State t.cl_State t.no_State_contents (je_name 0)) (je_name 1))
  jss_nil))
  (jss_cons (js_if (jt_cmpP (JCmp.P (jc_li (jc_inD false hr.units jc_in))) (je_name 1) (je_gtups t.gm_REGISTERS t.ge_REGISTERS))
  (jss_cons (js_setDA hr.units (je_name 2) (je_fldA t.T_State t.cl_State t.no_State_held (je_name 0)) (je_name 1))
  jss_nil)
  (jss_cons (js_if (jt_cmpP (JCmp.P (jc_li (jc_inD false hr.units jc_in))) (je_name 1) (je_gtups t.gm_OFFSETS t.ge_OFFSETS))
  (jss_cons (js_setDA hr.units (je_binP (JBin.P (jb_li jb_mod)) (je_name 2) (je_fldA t.T_State t.cl_State t.no_State_size (je_name 0))) (je_fldA t.T_State t.cl_State t.no_State_offsets (je_name 0)) (je_name 1))
  jss_nil)
  (jss_cons (js_raiseN tk tlf_ke t.o_UnknownName t.at_UnknownName___init__ t.ty_UnknownName___init__ t.ok_UnknownName___init__ (hr.mono (by decide)) t.b_UnknownName___init__ t.m_UnknownName t.T_UnknownName rfl (ja_cons (je_name 1) ja_nil))
  jss_nil))
  jss_nil))
  jss_nil))
  jss_nil)
end

def w_Ring___setitem__ (n : Nat) : WS := (wConsS (wSetLA (wName 2) (wFldA 0 "row" (wName 0)) (wTwo (wName 1) (wCb (wCons (wFldA 0 "row" (wName 0)) wNil) (liWC lenW)) (liW2 modW)))
  wNilS)
def c_Ring___setitem__ : CtG := cgOf ["self", "k", "worth"] ["self", "k", "worth"] (w_Ring___setitem__)
section
variable {T : Tab} {P : Program} {w : World} {K : PySem.W.Frag} {mg : Str → Option Value} {base : Heap}
theorem Tx.ok_Ring___setitem__ (t : Tx T K mg) : FnOk P w K mg base CX0 1 t.a_Ring___setitem__ t.fd_Ring___setitem__ ["self", "k", "worth"] (spG T K c_Ring___setitem__) := by
  have nd := sc_Ring___setitem__.nd
  exact fn_G t.F_Ring___setitem__ sc_Ring___setitem__ fun cdv A outer sh H E hr n => (jss_cons (js_setLA (je_name 2) (je_fldA t.T_Ring t.cl_Ring t.no_Ring_row (je_name 0)) (je_binP (JBin.P (jb_li jb_mod)) (je_name 1) (je_cb t.z_len (jk_li jc_len) (ja_cons (je_fldA t.T_Ring t.cl_Ring t.no_Ring_row (je_name 0)) ja_nil))))
  jss_nil)
end

def w__law_set (n : Nat) : WS := (wConsS (wPar2 3 4 (wCons (wFn c__law_pick (wCons (wName 0) (wCons (wLst (wCons (wCon (.str "A")) (wCons (wCon (.str "B")) (wCons (wCon (.str "C")) (wCons (wCon (.str "r")) (wCons (wCon (.str "s")) (wCons (wCon (.str "t")) (wCons (wCon (.str "i")) (wCons (wCon (.str "j")) wNil))))))))) wNil))) (wCons (wDgetA (wName 2) (wCon (.str "n"))) wNil)))
  (wConsS (wIfS (wBl (wTwo (wName 3) (wTup (wCons (wCon (.str "A")) (wCons (wCon (.str "B")) (wCons (wCon (.str "C")) wNil)))) (liW2 (selW PDc (inDW false) (inW' false)))))
  (wConsS (wAsg 5 (wLc (wRng1 (wCons (wName 4) wNil)) (.nm 6) wYes (wFn c__law_some_value (wCons (wName 0) wNil)) [6]))
  (wConsS (wAsg 7 (wMakeAX 0 c_Ring___init__ 1 0 fu_Ring_1_ (wCons (wName 5) wNil) wNil))
  (wConsS (wSetAX 1 c_State___setitem__ (wName 7) (wName 1) (wName 3))
  (wConsS (wSetA 0 c_Ring___setitem__ (wCon (.str "later")) (wName 7) (wFn c__law_far (wCons (wName 0) wNil)))
  (wConsS (wSetDA (wName 5) (wName 2) (wName 3))
  wNilS)))))
  (wConsS (wIfS (wBl (wTwo (wName 3) (wTup (wCons (wCon (.str "r")) (wCons (wCon (.str "s")) (wCons (wCon (.str "t")) wNil)))) (liW2 (selW PDc (inDW false) (inW' false)))))
  (wConsS (wAsg 8 (wFn c__law_some_value (wCons (wName 0) wNil)))
  (wConsS (wSetAX 1 c_State___setitem__ (wName 8) (wName 1) (wName 3))
  (wConsS (wSetDA (wName 8) (wName 2) (wName 3))
  wNilS)))
  (wConsS (wAsg 8 (wFn c__law_far (wCons (wName 0) wNil)))
  (wConsS (wSetAX 1 c_State___setitem__ (wName 8) (wName 1) (wName 3))
  (wConsS (wSetDA (wTwo (wCb (wCons (wName 8) wNil) (liWC intW1)) (wName 4) (liW2 modW)) (wName 2) (wName 3))
  wNilS))))
  wNilS))
  wNilS))
def c__law_set : CtG := cgOf ["_law_box_here", "_law_state", "_law_now", "_law_name", "_law_n", "_law_cells", "_law_k", "_law_ring", "_law_fresh"] ["_law_box_here", "_law_state", "_law_now"] (w__law_set)
section
variable {T : Tab} {P : Program} {w : World} {K : PySem.W.Frag} {mg : Str → Option Value} {base : Heap}
theorem Tx.ok__law_set (t : Tx T K mg) : FnOk P w K mg base CX0 5 t.a__law_set t.fd__law_set ["_law_box_here", "_law_state", "_law_now"] (spG T K c__law_set) := by
  have nd := sc__law_set.nd
  exact fn_G t.F__law_set sc__law_set fun cdv A outer sh H E hr n => (jss_cons (js_par2 3 4 nd (ja_cons (je_call t.ok__law_pick (hr.mono (by decide)) t.m__law_pick t.F__law_pick.kp t.b__law_pick (ja_cons (je_name 0) (ja_cons (je_lst (ja_cons je_str (ja_cons je_str (ja_cons je_str (ja_cons je_str (ja_cons je_str (ja_cons je_str (ja_cons je_str (ja_cons je_str ja_nil))))))))) ja_nil))) (ja_cons (je_dgetA hr.units (je_name 2) je_str) ja_nil)))
  (jss_cons (js_if (jt_cmpP (JCmp.P (jc_li (jc_inD false hr.units jc_in))) (je_name 3) (je_tup (ja_cons je_str (ja_cons je_str (ja_cons je_str ja_nil)))))
  (jss_cons (js_lc 5 nd ⟨(ji_range1 t.z_range (ja_cons (je_name 4) ja_nil)), blkOk_by (own := [("_law_k", 6)]) (by kernel_rfl), fun _ _ _ _ _ => (dg_name 6 nd), fun _ _ _ _ _ => jts_nil, fun _ _ _ _ _ => (je_call t.ok__law_some_value (hr.mono (by decide)) t.m__law_some_value t.F__law_some_value.kp t.b__law_some_value (ja_cons (je_name 0) ja_nil)), by decide⟩)
  (jss_cons (js_asg 7 nd (je_makeAX tk0 t.T_Ring t.K_Ring t.ok_Ring___init__ (hr.mono (by decide)) t.m_Ring t.kb_Ring_1_ t.put_Ring_1_ (ja_cons (je_name 5) ja_nil) jk_nil))
  (jss_cons (js_setAX tk0 t.T_State t.ok_State___setitem__ (hr.mono (by decide)) t.b_State___setitem__ t.NS_State t.M_State___setitem__.at_ t.M_State___setitem__.fn (je_name 7) (je_name 1) (je_name 3))
  (jss_cons (js_setA t.T_Ring t.ok_Ring___setitem__ (hr.mono (by decide)) t.b_Ring___setitem__ t.NS_Ring t.M_Ring___setitem__.at_ t.M_Ring___setitem__.fn je_str (je_name 7) (je_call t.ok__law_far (hr.mono (by decide)) t.m__law_far t.F__law_far.kp t.b__law_far (ja_cons (je_name 0) ja_nil)))
  (jss_cons (js_setDA hr.units (je_name 5) (je_name 2) (je_name 3))
  jss_nil)))))
  (jss_cons (js_if (jt_cmpP (JCmp.P (jc_li (jc_inD false hr.units jc_in))) (je_name 3) (je_tup (ja_cons je_str (ja_cons je_str (ja_cons je_str ja_nil)))))
  (jss_cons (js_asg 8 nd (je_call t.ok__law_some_value (hr.mono (by decide)) t.m__law_some_value t.F__law_some_value.kp t.b__law_some_value (ja_cons (je_name 0) ja_nil)))
  (jss_cons (js_setAX tk0 t.T_State t.ok_State___setitem__ (hr.mono (by decide)) t.b_State___setitem__ t.NS_State t.M_State___setitem__.at_ t.M_State___setitem__.fn (je_name 8) (je_name 1) (je_name 3))
  (jss_cons (js_setDA hr.units (je_name 8) (je_name 2) (je_name 3))
  jss_nil)))
  (jss_cons (js_asg 8 nd (je_call t.ok__law_far (hr.mono (by decide)) t.m__law_far t.F__law_far.kp t.b__law_far (ja_cons (je_name 0) ja_nil)))
  (jss_cons (js_setAX tk0 t.T_State t.ok_State___setitem__ (hr.mono (by decide)) t.b_State___setitem__ t.NS_State t.M_State___setitem__.at_ t.M_State___setitem__.fn (je_name 8) (je_name 1) (je_name 3))
  (jss_cons (js_setDA hr.units (je_binP (JBin.P (jb_li jb_mod)) (je_cb t.z_int (jk_li jc_int) (ja_cons (je_name 8) ja_nil)) (je_name 4)) (je_name 2) (je_name 3))
  jss_nil))))
  jss_nil))
  jss_nil))
end

def w_State___init__ (n : Nat) : WS := (wConsS (wIfS (wBl (wTwo (wName 1) (wCon (.int 1)) (liW2 ltW)))
  (wConsS (wRaise1 2 (wName 1))
  wNilS)
  wNilS)
  (wConsS (wSetFA 1 "size" (wName 1) (wName 0))
  (wConsS (wSetFA 1 "contents" (wTag (wDcC (wItems (wCon (.tup ((["A", "B", "C"] : List Str).map D.str)))) (.nm 5) wYes (wName 5) (wTwo (wLst (wCons (wName 4) wNil)) (wName 1) (liW2 mulW)) [5])) (wName 0))
  (wConsS (wSetFA 1 "held" (wTag (wDcC (wItems (wCon (.tup ((["r", "s", "t"] : List Str).map D.str)))) (.nm 5) wYes (wName 5) (wName 4) [5])) (wName 0))
  (wConsS (wSetFA 1 "offsets" (wTag (wDisS ["i", "j"] (wCons (wTwo (wName 2) (wName 1) (liW2 modW)) (wCons (wTwo (wName 3) (wName 1) (liW2 modW)) wNil)))) (wName 0))
  wNilS)))))
def c_State___init__ : CtGX := cgxOf ["self", "size", "i", "j", "fill", "name"] ["self", "size", "i", "j", "fill"] (w_State___init__)
section
variable {T : Tab} {P : Program} {w : World} {K : PySem.W.Frag} {mg : Str → Option Value} {base : Heap}
theorem Tx.ok_State___init__ (t : Tx T K mg) : FnOk P w K mg base (L2.CX P w) 3 t.a_State___init__ t.fd_State___init__ ["self", "size", "i", "j", "fill"] (spGX T K c_State___init__) := by
  have nd := sc_State___init__.nd
  exact fn_GXD t.F_State___init__ sc_State___init__ fun cdv A outer sh H E hr tk n => (jss_cons (js_if (jt_cmpP (JCmp.P (jc_li jc_lt)) (je_name 1) je_int)
  (jss_cons (js_raise1 tk t.o_InvalidSize t.at_InvalidSize___init__ t.ty_InvalidSize___init__ t.ok_InvalidSize___init__ (hr.mono (by decide)) t.b_InvalidSize___init__ t.m_InvalidSize t.T_InvalidSize (je_name 1))
  jss_nil)
  jss_nil)
  (jss_cons (js_fldA t.T_State t.cl_State t.no_State_size (je_name 1) (je_name 0))
  (jss_cons (js_fldA t.T_State t.cl_State t.no_State_contents (je_tag (je_dcC nd ⟨(ji_val (je_gtups t.gm_ARRAYS t.ge_ARRAYS)), blkOk_by (own := [("name", 5)]) (by kernel_rfl), fun _ _ _ _ _ => (dg_name 5 nd), fun _ _ _ _ _ => jts_nil, fun _ _ _ _ _ => (je_name 5), fun _ _ _ _ _ => (je_binP (JBin.P (jb_li jb_mul)) (je_lst (ja_cons (je_name 4) ja_nil)) (je_name 1)), by decide⟩)) (je_name 0))
  (jss_cons (js_fldA t.T_State t.cl_State t.no_State_held (je_tag (je_dcC nd ⟨(ji_val (je_gtups t.gm_REGISTERS t.ge_REGISTERS)), blkOk_by (own := [("name", 5)]) (by kernel_rfl), fun _ _ _ _ _ => (dg_name 5 nd), fun _ _ _ _ _ => jts_nil, fun _ _ _ _ _ => (je_name 5), fun _ _ _ _ _ => (je_name 4), by decide⟩)) (je_name 0))
  (jss_cons (js_fldA t.T_State t.cl_State t.no_State_offsets (je_tag (je_disS (.cons (je_binP (JBin.P (jb_li jb_mod)) (je_name 2) (je_name 1)) (.cons (je_binP (JBin.P (jb_li jb_mod)) (je_name 3) (je_name 1)) .nil)))) (je_name 0))
  jss_nil)))))
end

def w_State_free (C_ : Addr) (n : Nat) : WS := (wConsS (wAsg 4 (wMakeAL C_ 0 1 c_State___init__ 1 2 fu_State_1_i_j (wCons (wName 1) wNil) (wCons (wName 2) (wCons (wName 3) wNil))))
  (wConsS (wSetFA 1 "contents" (wTag (wDcC (wItems (wCon (.tup ((["A", "B", "C"] : List Str).map D.str)))) (.nm 6) wYes (wName 6) (wLc (wRng1 (wCons (wName 1) wNil)) (.nm 5) wYes (wTup (wCons (wCon (.str "cell")) (wCons (wName 6) (wCons (wName 5) wNil)))) [5]) [6])) (wName 4))
  (wConsS (wSetFA 1 "held" (wTag (wDcC (wItems (wCon (.tup ((["r", "s", "t"] : List Str).map D.str)))) (.nm 6) wYes (wName 6) (wTup (wCons (wCon (.str "start")) (wCons (wName 6) wNil))) [6])) (wName 4))
  (wConsS (wRetG (wName 4))
  wNilS))))
def c_State_free : CtGX := ccOf ["cls", "size", "i", "j", "made", "k", "name"] ["cls", "size", "i", "j"] (w_State_free)
section
variable {T : Tab} {P : Program} {w : World} {K : PySem.W.Frag} {mg : Str → Option Value} {base : Heap}
theorem Tx.ok_State_free (t : Tx T K mg) : FnOk P w K mg base (L2.CX P w) 5 t.a_State_free t.fd_State_free ["cls", "size", "i", "j"] (spCM t.c_State T K c_State_free) := by
  have nd := sc_State_free.nd
  exact fn_CM t.c_State t.F_State_free sc_State_free fun cdv A outer sh H E hr tk n => (jss_cons (js_asg 4 nd (je_makeAL tk t.T_State t.K_State t.ok_State___init__ (hr.mono (by decide)) t.kb_State_1_i_j t.put_State_1_i_j 0 (ja_cons (je_name 1) ja_nil) (jk_cons (je_name 2) (jk_cons (je_name 3) jk_nil))))
  (jss_cons (js_fldA t.T_State t.cl_State t.no_State_contents (je_tag (je_dcC nd ⟨(ji_val (je_gtups t.gm_ARRAYS t.ge_ARRAYS)), blkOk_by (own := [("name", 6)]) (by kernel_rfl), fun _ _ _ _ _ => (dg_name 6 nd), fun _ _ _ _ _ => jts_nil, fun _ _ _ _ _ => (je_name 6), fun _ _ _ _ _ => (je_lc nd ⟨(ji_range1 t.z_range (ja_cons (je_name 1) ja_nil)), blkOk_by (own := [("k", 5)]) (by kernel_rfl), fun _ _ _ _ _ => (dg_name 5 nd), fun _ _ _ _ _ => jts_nil, fun _ _ _ _ _ => (je_tup (ja_cons je_str (ja_cons (je_name 6) (ja_cons (je_name 5) ja_nil)))), by decide⟩), by decide⟩)) (je_name 4))
  (jss_cons (js_fldA t.T_State t.cl_State t.no_State_held (je_tag (je_dcC nd ⟨(ji_val (je_gtups t.gm_REGISTERS t.ge_REGISTERS)), blkOk_by (own := [("name", 6)]) (by kernel_rfl), fun _ _ _ _ _ => (dg_name 6 nd), fun _ _ _ _ _ => jts_nil, fun _ _ _ _ _ => (je_name 6), fun _ _ _ _ _ => (je_tup (ja_cons je_str (ja_cons (je_name 6) ja_nil))), by decide⟩)) (je_name 4))
  (jss_cons (js_retG (je_name 4))
  jss_nil))))
end

def w__law_copy (n : Nat) : WS := (wConsS (wAsg 1 (wTag (wDictItems (wName 0))))
  (wConsS (wFor (wItems (wTup (wCons (wCon (.str "A")) (wCons (wCon (.str "B")) (wCons (wCon (.str "C")) wNil))))) (.nm 2)
  (wConsS (wSetDA (wCb (wCons (wDgetA (wName 0) (wName 2)) wNil) (liWC listW)) (wName 1) (wName 2))
  wNilS))
  (wConsS (wRetG (wName 1))
  wNilS)))
def c__law_copy : CtG := cgOf ["_law_now", "_law_found", "_law_name"] ["_law_now"] (w__law_copy)
section
variable {T : Tab} {P : Program} {w : World} {K : PySem.W.Frag} {mg : Str → Option Value} {base : Heap}
theorem Tx.ok__law_copy (t : Tx T K mg) : FnOk P w K mg base CX0 1 t.a__law_copy t.fd__law_copy ["_law_now"] (spG T K c__law_copy) := by
  have nd := sc__law_copy.nd
  exact fn_G t.F__law_copy sc__law_copy fun cdv A outer sh H E hr n => (jss_cons (js_asg 1 nd (je_tag (je_dictItems t.z_list t.z_dict rfl (je_name 0))))
  (jss_cons (js_for PassesOwn.never (ji_val (je_tup (ja_cons je_str (ja_cons je_str (ja_cons je_str ja_nil))))) (dg_name 2 nd)
  (jss_cons (js_setDA hr.units (je_cb t.z_list (jk_li jc_list) (ja_cons (je_dgetA hr.units (je_name 0) (je_name 2)) ja_nil)) (je_name 1) (je_name 2))
  jss_nil))
  (jss_cons (js_retG (je_name 1))
  jss_nil)))
end

def w_State_copied (n : Nat) : WS := (wConsS (wAsg 1 (wMakeAX 1 c_State___init__ 1 0 fu_State_1_ (wCons (wFldA 1 "size" (wName 0)) wNil) wNil))
  (wConsS (wSetFA 1 "contents" (wTag (wDcF 1 0 "contents" (.tp [(.nm 2), (.nm 3)]) wYes (wName 2) (wCb (wCons (wName 3) wNil) (liWC listW)) [2, 3])) (wName 1))
  (wConsS (wSetFA 1 "held" (wTag (wCb (wCons (wFldA 1 "held" (wName 0)) wNil) (liWC dictEW))) (wName 1))
  (wConsS (wSetFA 1 "offsets" (wTag (wCb (wCons (wFldA 1 "offsets" (wName 0)) wNil) (liWC dictEW))) (wName 1))
  (wConsS (wRetG (wName 1))
  wNilS)))))
def c_State_copied : CtG := cgOf ["self", "fresh", "name", "cells"] ["self"] (w_State_copied)
section
variable {T : Tab} {P : Program} {w : World} {K : PySem.W.Frag} {mg : Str → Option Value} {base : Heap}
theorem Tx.ok_State_copied (t : Tx T K mg) : FnOk P w K mg base CX0 5 t.a_State_copied t.fd_State_copied ["self"] (spG T K c_State_copied) := by
  have nd := sc_State_copied.nd
  exact fn_G t.F_State_copied sc_State_copied fun cdv A outer sh H E hr n => (jss_cons (js_asg 1 nd (je_makeAX tk0 t.T_State t.K_State t.ok_State___init__ (hr.mono (by decide)) t.m_State t.kb_State_1_ t.put_State_1_ (ja_cons (je_fldA t.T_State t.cl_State t.no_State_size (je_name 0)) ja_nil) jk_nil))
  (jss_cons (js_fldA t.T_State t.cl_State t.no_State_contents (je_tag (je_dcF t.T_State t.cl_State t.no_State_contents nd ⟨blkOk_by (own := [("name", 2), ("cells", 3)]) (by kernel_rfl), fun _ _ _ _ _ => (dg_tup rfl (dgs_cons (dg_name 2 nd) (dgs_cons (dg_name 3 nd) dgs_nil))), fun _ _ _ _ _ => jts_nil, fun _ _ _ _ _ => (je_name 2), fun _ _ _ _ _ => (je_cb t.z_list (jk_li jc_list) (ja_cons (je_name 3) ja_nil)), by decide⟩)) (je_name 1))
  (jss_cons (js_fldA t.T_State t.cl_State t.no_State_held (je_tag (je_cb t.z_dict (jk_li (jc_dictE rfl)) (ja_cons (je_fldA t.T_State t.cl_State t.no_State_held (je_name 0)) ja_nil))) (je_name 1))
  (jss_cons (js_fldA t.T_State t.cl_State t.no_State_offsets (je_tag (je_cb t.z_dict (jk_li (jc_dictE rfl)) (ja_cons (je_fldA t.T_State t.cl_State t.no_State_offsets (je_name 0)) ja_nil))) (je_name 1))
  (jss_cons (js_retG (je_name 1))
  jss_nil)))))
end

def w__law_no_state (n : Nat) : WS := (wConsS (wAsg 2 (wCon .non))
  (wConsS (wTry mt_InvalidSize 3 (wConsS (wAsg 2 (wIf (wBl (wTwo (wName 1) (wCon (.int 0)) (liW2 (eqW false)))) (wMakeAX 1 c_State___init__ 1 0 fu_State_1_ (wCons (wName 0) wNil) wNil) (wCmA c_State_free 1 1 fu_State_free_1_i (wCons (wName 0) wNil) (wCons (wCon (.int 3)) wNil))))
  wNilS)
  (fun m_ a_ d_ => (wConsS (wAsg 2 (wXf m_ a_ d_ xfn "size" (wName 3)))
  wNilS)))
  (wConsS (wRetG (wName 2))
  wNilS)))
def c__law_no_state : CtG := cgOf ["_law_size", "_law_way", "_law_found", "e"] ["_law_size", "_law_way"] (w__law_no_state)
section
variable {T : Tab} {P : Program} {w : World} {K : PySem.W.Frag} {mg : Str → Option Value} {base : Heap}
theorem Tx.ok__law_no_state (t : Tx T K mg) : FnOk P w K mg base CX0 6 t.a__law_no_state t.fd__law_no_state ["_law_size", "_law_way"] (spG T K c__law_no_state) := by
  have nd := sc__law_no_state.nd
  exact fn_G t.F__law_no_state sc__law_no_state fun cdv A outer sh H E hr n => (jss_cons (js_asg 2 nd je_non)
  (jss_cons (js_try tk0 nd (And.intro rfl (And.intro (by decide) (Or.inl t.m_InvalidSize))) t.mt_of_InvalidSize (fun V_ pn_ xe_ tk_ po_ => (jss_cons (js_asg 2 nd (je_if (jt_cmpP (JCmp.P (jc_li (jc_eq hr.units))) (je_name 1) je_int) (je_makeAX tk_ t.T_State t.K_State t.ok_State___init__ (hr.mono (by decide)) t.m_State t.kb_State_1_ t.put_State_1_ (ja_cons (je_name 0) ja_nil) jk_nil) (je_cmA tk_ t.m_State t.CR_State_free t.CM_State_free t.ok_State_free (hr.mono (by decide)) t.kb_State_free_1_i t.put_State_free_1_i (ja_cons (je_name 0) ja_nil) (jk_cons je_int jk_nil))))
  jss_nil))
  (fun m_ a_ oe_ d_ C_ fn_ pn_ hm_ hT_ hz_ hv_ => (jss_cons (js_asg 2 nd (je_xf (t.err_of_InvalidSize hm_ hT_ hz_ hv_) (t.xf_of_InvalidSize hm_ hT_) (t.no_of_InvalidSize_size hm_ hT_) (t.T_of_InvalidSize hm_ hT_) (je_name 3)))
  jss_nil)))
  (jss_cons (js_retG (je_name 2))
  jss_nil)))
end

def w__law_refusal (n : Nat) : WS := (wConsS (wAsg 4 (wCon .non))
  (wConsS (wTryM [(mt_UnknownName, some 5, fun m_ a_ d_ => (wConsS (wAsg 4 (wTup (wCons (wCon (.str "name")) (wCons (wXf m_ a_ d_ xfn "name" (wName 5)) (wCons (wIsiE m_ a_ d_ (kt_KeyError m_) (wName 5)) wNil)))))
  wNilS)), (mt_ClashError, some 5, fun m_ a_ d_ => (wConsS (wAsg 4 (wTup (wCons (wCon (.str "size")) (wCons (wIf (wTru (wIsiE m_ a_ d_ (kt_InvalidSize m_) (wName 5))) (wXf m_ a_ d_ xfn "size" (wName 5)) (wCon (.str "other"))) wNil))))
  wNilS))] (wConsS (wIfS (wBl (wTwo (wName 3) (wCon (.int 0)) (liW2 (eqW false))))
  (wConsS (wAsg 4 (wSubAX 1 c_State___getitem__ (wName 0) (wName 1)))
  wNilS)
  (wConsS (wSetAX 1 c_State___setitem__ (wName 2) (wName 0) (wName 1))
  wNilS))
  wNilS))
  (wConsS (wRetG (wName 4))
  wNilS)))
def c__law_refusal : CtG := cgOf ["_law_state", "_law_name", "_law_thing", "_law_way", "_law_found", "e"] ["_law_state", "_law_name", "_law_thing", "_law_way"] (w__law_refusal)
section
variable {T : Tab} {P : Program} {w : World} {K : PySem.W.Frag} {mg : Str → Option Value} {base : Heap}
theorem Tx.ok__law_refusal (t : Tx T K mg) : FnOk P w K mg base CX0 7 t.a__law_refusal t.fd__law_refusal ["_law_state", "_law_name", "_law_thing", "_law_way"] (spG T K c__law_refusal) := by
  have nd := sc__law_refusal.nd
  exact fn_G t.F__law_refusal sc__law_refusal fun cdv A outer sh H E hr n => (jss_cons (js_asg 4 nd je_non)
  (jss_cons (js_tryM tk0 nd (fun V_ pn_ xe_ tk_ po_ => (jss_cons (js_if (jt_cmpP (JCmp.P (jc_li (jc_eq hr.units))) (je_name 3) je_int)
  (jss_cons (js_asg 4 nd (je_subAX tk_ t.T_State t.ok_State___getitem__ (hr.mono (by decide)) t.b_State___getitem__ t.M_State___getitem__.at_ t.FG_State t.M_State___getitem__.fn (je_name 0) (je_name 1)))
  jss_nil)
  (jss_cons (js_setAX tk_ t.T_State t.ok_State___setitem__ (hr.mono (by decide)) t.b_State___setitem__ t.NS_State t.M_State___setitem__.at_ t.M_State___setitem__.fn (je_name 2) (je_name 0) (je_name 1))
  jss_nil))
  jss_nil))
  (.named (And.intro rfl (And.intro (by decide) (Or.inl t.m_UnknownName))) t.mt_of_UnknownName rfl rfl (fun m_ a_ oe_ d_ C_ fn_ pn_ hm_ hT_ hz_ hv_ => (jss_cons (js_asg 4 nd (je_tup (ja_cons je_str (ja_cons (je_xf (t.err_of_UnknownName hm_ hT_ hz_ hv_) (t.xf_of_UnknownName hm_ hT_) (t.no_of_UnknownName_name hm_ hT_) (t.T_of_UnknownName hm_ hT_) (je_name 5)) (ja_cons (je_isiEB (t.err_of_UnknownName hm_ hT_ hz_ hv_) t.z_isinstance t.z_KeyError (by rfl) (t.kt_of_UnknownName_KeyError hm_ hT_) (je_name 5)) ja_nil)))))
  jss_nil)) (.named (And.intro rfl (And.intro (by decide) (Or.inl t.m_ClashError))) t.mt_of_ClashError rfl rfl (fun m_ a_ oe_ d_ C_ fn_ pn_ hm_ hT_ hz_ hv_ => (jss_cons (js_asg 4 nd (je_tup (ja_cons je_str (ja_cons (je_if (jt_val (je_isiE (t.err_of_ClashError hm_ hT_ hz_ hv_) t.z_isinstance t.m_InvalidSize (t.kt_of_ClashError_InvalidSize hm_ hT_) (je_name 5))) (je_xf (t.err_of_ClashError hm_ hT_ hz_ hv_) (t.xf_of_ClashError hm_ hT_) (t.no_of_ClashError_size hm_ hT_) (t.T_of_ClashError hm_ hT_) (je_name 5)) je_str) ja_nil))))
  jss_nil)) .nil)))
  (jss_cons (js_retG (je_name 4))
  jss_nil)))
end

def w__law_refuses_no (n : Nat) : WS := (wConsS (wAsg 8 (wLst (wCons (wFnG c__law_no_state (wCons (wCon (.int 0)) (wCons (wCon (.int 0)) wNil))) (wCons (wFnG c__law_no_state (wCons (wTwo (wCon (.int 0)) (wName 3) (liW2 subW)) (wCons (wCon (.int 1)) wNil))) wNil))))
  (wConsS (wRetG (wAndV (wFnG c__law_is_state (wCons (wName 1) (wCons (wName 2) wNil))) (wTwo (wName 8) (wLst (wCons (wCon (.int 0)) (wCons (wTwo (wCon (.int 0)) (wName 3) (liW2 subW)) wNil))) (liW2 (eqW false)))))
  wNilS))
def w__law_refuses_size (n : Nat) : WS := (wConsS (wIfS (wAndT (wBl (wTwo (wCb (wCons (wName 5) wNil) (refLenW 0 c_Ring___len__ (liWC lenW))) (wName 3) (liW2 (eqW true)))) (wBl (wTwo (wFnG c__law_refusal (wCons (wName 1) (wCons (wCon (.str "B")) (wCons (wName 5) (wCons (wCon (.int 1)) wNil))))) (wTup (wCons (wCon (.str "size")) (wCons (wCb (wCons (wName 5) wNil) (refLenW 0 c_Ring___len__ (liWC lenW))) wNil))) (liW2 (eqW true)))))
  (wConsS (wRetG (wCon (.bl false)))
  wNilS)
  wNilS)
  (w__law_refuses_no n))
def w__law_refuses_loop (n : Nat) : WS := (wConsS (wFor (wItems (wTup (wCons (wTup (wCons (wCon (.int 3)) (wCons (wCon (.int 0)) wNil))) (wCons (wTup (wCons (wCon (.int 3)) (wCons (wCon (.int 1)) wNil))) (wCons (wTup (wCons (wName 5) (wCons (wCon (.int 1)) wNil))) wNil))))) (.tp [(.nm 6), (.nm 7)])
  (wConsS (wIfS (wBl (wTwo (wFnG c__law_refusal (wCons (wName 1) (wCons (wName 4) (wCons (wName 6) (wCons (wName 7) wNil))))) (wTup (wCons (wCon (.str "name")) (wCons (wName 4) (wCons (wCon (.bl true)) wNil)))) (liW2 (eqW true))))
  (wConsS (wRetG (wCon (.bl false)))
  wNilS)
  wNilS)
  wNilS))
  (w__law_refuses_size n))
def w__law_refuses_other (n : Nat) : WS := (wConsS (wAsg 5 (wMakeAX 0 c_Ring___init__ 1 0 fu_Ring_1_ (wCons (wTwo (wLst (wCons (wCon (.str "x")) wNil)) (wFn c__law_pick (wCons (wName 0) (wCons (wLst (wCons (wTwo (wName 3) (wCon (.int 1)) (liW2 addW)) (wCons (wCb (wCons (wCon (.int 1)) (wCons (wTwo (wName 3) (wCon (.int 1)) (liW2 subW)) wNil)) (liWC maxW2)) wNil))) wNil))) (liW2 mulW)) wNil) wNil))
  (w__law_refuses_loop n))
def w__law_refuses (n : Nat) : WS := (wConsS (wPar2 3 4 (wCons (wDgetA (wName 2) (wCon (.str "n"))) (wCons (wFn c__law_pick (wCons (wName 0) (wCons (wLst (wCons (wCon (.str "D")) (wCons (wCon (.str "a")) (wCons (wCon (.str "")) (wCons (wCon (.str "p")) (wCons (wCon (.str "f")) (wCons (wCon (.str "AB")) (wCons (wCon (.str "R")) (wCons (wCon (.str "cell")) wNil))))))))) wNil))) wNil)))
  (w__law_refuses_other n))
def c__law_refuses : CtG := cgOf ["_law_box_here", "_law_state", "_law_now", "_law_n", "_law_bad", "_law_other", "_law_thing", "_law_way", "_law_refused"] ["_law_box_here", "_law_state", "_law_now"] (w__law_refuses)
section
variable {T : Tab} {P : Program} {w : World} {K : PySem.W.Frag} {mg : Str → Option Value} {base : Heap}
theorem Tx.ok__law_refuses (t : Tx T K mg) : FnG P w K mg base CX0 8 t.a__law_refuses t.fd__law_refuses ["_law_box_here", "_law_state", "_law_now"] (spG T K c__law_refuses) := by
  have nd := sc__law_refuses.nd
  exact fn_HG t.F__law_refuses sc__law_refuses fun cdv A outer sh H E hG hr n => (jss_cons (js_par2 3 4 nd (ja_cons (je_dgetA hr.units (je_name 2) je_str) (ja_cons (je_call t.ok__law_pick (hr.mono (by decide)) t.m__law_pick t.F__law_pick.kp t.b__law_pick (ja_cons (je_name 0) (ja_cons (je_lst (ja_cons je_str (ja_cons je_str (ja_cons je_str (ja_cons je_str (ja_cons je_str (ja_cons je_str (ja_cons je_str (ja_cons je_str ja_nil))))))))) ja_nil))) ja_nil)))
  (jss_cons (js_asg 5 nd (je_makeAX tk0 t.T_Ring t.K_Ring t.ok_Ring___init__ (hr.mono (by decide)) t.m_Ring t.kb_Ring_1_ t.put_Ring_1_ (ja_cons (je_binP (JBin.P (jb_li jb_mul)) (je_lst (ja_cons je_str ja_nil)) (je_call t.ok__law_pick (hr.mono (by decide)) t.m__law_pick t.F__law_pick.kp t.b__law_pick (ja_cons (je_name 0) (ja_cons (je_lst (ja_cons (je_binP (JBin.P (jb_li jb_add)) (je_name 3) je_int) (ja_cons (je_cb t.z_max (jk_li (jc_max2 rfl)) (ja_cons je_int (ja_cons (je_binP (JBin.P (jb_li jb_sub)) (je_name 3) je_int) ja_nil))) ja_nil))) ja_nil)))) ja_nil) jk_nil))
  (jss_cons (js_for PassesOwn.never (ji_val (je_tup (ja_cons (je_tup (ja_cons je_int (ja_cons je_int ja_nil))) (ja_cons (je_tup (ja_cons je_int (ja_cons je_int ja_nil))) (ja_cons (je_tup (ja_cons (je_name 5) (ja_cons je_int ja_nil))) ja_nil))))) (dg_tup rfl (dgs_cons (dg_name 6 nd) (dgs_cons (dg_name 7 nd) dgs_nil)))
  (jss_cons (js_if (jt_cmpP (JCmp.P (jc_li (jc_ne hr.units))) (je_callHp t.ok__law_refusal (hr.mono (by decide)) t.m__law_refusal t.F__law_refusal.kp t.b__law_refusal (ja_cons (je_name 1) (ja_cons (je_name 4) (ja_cons (je_name 6) (ja_cons (je_name 7) ja_nil))))) (je_tup (ja_cons je_str (ja_cons (je_name 4) (ja_cons je_bl ja_nil)))))
  (jss_cons (js_retG je_bl)
  jss_nil)
  jss_nil)
  jss_nil))
  (jss_cons (js_if (JW.jt (jw_and (jt_cmpP (JCmp.P (jc_li (jc_ne hr.units))) (je_cb t.z_len (jc_refLen (jk_li jc_len) t.T_Ring t.ok_Ring___len__ (hr.mono (by decide)) t.b_Ring___len__ t.M_Ring___len__.at_ t.M_Ring___len__.fn) (ja_cons (je_name 5) ja_nil)) (je_name 3)) (jw_and1 (jt_cmpP (JCmp.P (jc_li (jc_ne hr.units))) (je_callHp t.ok__law_refusal (hr.mono (by decide)) t.m__law_refusal t.F__law_refusal.kp t.b__law_refusal (ja_cons (je_name 1) (ja_cons je_str (ja_cons (je_name 5) (ja_cons je_int ja_nil))))) (je_tup (ja_cons je_str (ja_cons (je_cb t.z_len (jc_refLen (jk_li jc_len) t.T_Ring t.ok_Ring___len__ (hr.mono (by decide)) t.b_Ring___len__ t.M_Ring___len__.at_ t.M_Ring___len__.fn) (ja_cons (je_name 5) ja_nil)) ja_nil)))))))
  (jss_cons (js_retG je_bl)
  jss_nil)
  jss_nil)
  (jss_cons (js_asg 8 nd (je_lst (ja_cons (je_callHp t.ok__law_no_state (hr.mono (by decide)) t.m__law_no_state t.F__law_no_state.kp t.b__law_no_state (ja_cons je_int (ja_cons je_int ja_nil))) (ja_cons (je_callHp t.ok__law_no_state (hr.mono (by decide)) t.m__law_no_state t.F__law_no_state.kp t.b__law_no_state (ja_cons (je_binP (JBin.P (jb_li jb_sub)) je_int (je_name 3)) (ja_cons je_int ja_nil))) ja_nil))))
  (jss_cons (js_retG (je_and (je_callHG t.ok__law_is_state hG (hr.mono (by decide)) t.m__law_is_state t.F__law_is_state.kp t.b__law_is_state (ja_cons (je_name 1) (ja_cons (je_name 2) ja_nil))) (je_one (je_cmpP (JCmp.P (jc_li (jc_eq hr.units))) (je_name 8) (je_lst (ja_cons je_int (ja_cons (je_binP (JBin.P (jb_li jb_sub)) je_int (je_name 3)) ja_nil)))))))
  jss_nil))))))
end

def w_State___eq__ (n : Nat) : WS := (wConsS (wIfS (wOrT (wNotT (wTru (wIsiK tb_State ob_State (wName 1)))) (wOrT (wBl (wTwo (wFldA 1 "size" (wName 0)) (wFldA 1 "size" (wName 1)) (orW (liW2 (eqKW true)) (liW2 (eqW true))))) (wBl (wTwo (wFldA 1 "offsets" (wName 0)) (wFldA 1 "offsets" (wName 1)) (orW (liW2 (eqKW true)) (liW2 (eqW true)))))))
  (wConsS (wRetG (wCon (.bl false)))
  wNilS)
  wNilS)
  (wConsS (wRetG (wAndV (wTwo (wFldA 1 "contents" (wName 0)) (wFldA 1 "contents" (wName 1)) (orW (liW2 (eqKW false)) (liW2 (eqW false)))) (wTwo (wFldA 1 "held" (wName 0)) (wFldA 1 "held" (wName 1)) (orW (liW2 (eqKW false)) (liW2 (eqW false))))))
  wNilS))
def c_State___eq__ : CtG := cgOf ["self", "other"] ["self", "other"] (w_State___eq__)
section
variable {T : Tab} {P : Program} {w : World} {K : PySem.W.Frag} {mg : Str → Option Value} {base : Heap}
theorem Tx.ok_State___eq__ (t : Tx T K mg) : FnOk P w K mg base CX0 1 t.a_State___eq__ t.fd_State___eq__ ["self", "other"] (spG T K c_State___eq__) := by
  have nd := sc_State___eq__.nd
  exact fn_G t.F_State___eq__ sc_State___eq__ fun cdv A outer sh H E hr n => (jss_cons (js_if (JW.jt (jw_or (jt_not (jt_val (je_isiK t.z_isinstance t.m_State t.tbIs_State t.obIs_State (je_name 1)))) (jw_or (jt_cmpP (jc_or (JCmp.P (jc_li (jc_eqK true (room_100 hr)))) (JCmp.P (jc_li (jc_ne hr.units)))) (je_fldA t.T_State t.cl_State t.no_State_size (je_name 0)) (je_fldA t.T_State t.cl_State t.no_State_size (je_name 1))) (jw_or1 (jt_cmpP (jc_or (JCmp.P (jc_li (jc_eqK true (room_100 hr)))) (JCmp.P (jc_li (jc_ne hr.units)))) (je_fldA t.T_State t.cl_State t.no_State_offsets (je_name 0)) (je_fldA t.T_State t.cl_State t.no_State_offsets (je_name 1)))))))
  (jss_cons (js_retG je_bl)
  jss_nil)
  jss_nil)
  (jss_cons (js_retG (je_and (je_cmpP (jc_or (JCmp.P (jc_li (jc_eqK false (room_100 hr)))) (JCmp.P (jc_li (jc_eq hr.units)))) (je_fldA t.T_State t.cl_State t.no_State_contents (je_name 0)) (je_fldA t.T_State t.cl_State t.no_State_contents (je_name 1))) (je_one (je_cmpP (jc_or (JCmp.P (jc_li (jc_eqK false (room_100 hr)))) (JCmp.P (jc_li (jc_eq hr.units)))) (je_fldA t.T_State t.cl_State t.no_State_held (je_name 0)) (je_fldA t.T_State t.cl_State t.no_State_held (je_name 1))))))
  jss_nil))
end

def w_law_fin (n : Nat) : WS := (wConsS (wRetG (wAndV (wTwo (wCb (wCons (wName 15) wNil) (liWC reprLW)) (wCon (.str "[False, False, True]")) (orW (refAW 1 0 c_State___eq__) (orW (refKW 1 c_State___eq__) (orW (refDW 1 c_State___eq__) (orW (ref2W 1 c_State___eq__) (orW (liW2 (eqKW false)) (liW2 (eqW false)))))))) (wFnG c__law_is_state (wCons (wMakeAX 1 c_State___init__ 1 0 fu_State_1_ (wCons (wName 2) wNil) wNil) (wCons (wFnG c__law_filled (wCons (wName 2) (wCons (wCon .non) wNil))) wNil)))))
  wNilS)
def w_law_wide (n : Nat) : WS := (wConsS (wAsg 15 (wLst (wCons (wTwo (wMakeAX 1 c_State___init__ 1 0 fu_State_1_ (wCons (wTwo (wName 2) (wCon (.int 1)) (liW2 addW)) wNil) wNil) (wMakeAX 1 c_State___init__ 1 0 fu_State_1_ (wCons (wName 2) wNil) wNil) (orW (refAW 1 0 c_State___eq__) (orW (refKW 1 c_State___eq__) (orW (refDW 1 c_State___eq__) (orW (ref2W 1 c_State___eq__) (orW (liW2 (eqKW false)) (liW2 (eqW false)))))))) (wCons (wTwo (wMakeAX 1 c_State___init__ 1 0 fu_State_1_ (wCons (wName 2) wNil) wNil) (wMakeAX 1 c_State___init__ 1 0 fu_State_1_ (wCons (wTwo (wName 2) (wCon (.int 1)) (liW2 addW)) wNil) wNil) (orW (refAW 1 0 c_State___eq__) (orW (refKW 1 c_State___eq__) (orW (refDW 1 c_State___eq__) (orW (ref2W 1 c_State___eq__) (orW (liW2 (eqKW false)) (liW2 (eqW false)))))))) (wCons (wTwo (wMakeAX 1 c_State___init__ 1 0 fu_State_1_ (wCons (wName 2) wNil) wNil) (wMakeAX 1 c_State___init__ 1 0 fu_State_1_ (wCons (wTwo (wName 2) (wCon (.int 1)) (liW2 addW)) wNil) wNil) (orW (refNeAW 1 0 c_State___eq__) (orW (refNeKW 1 c_State___eq__) (orW (refNeDW 1 c_State___eq__) (orW (refNeW 1 c_State___eq__) (orW (liW2 (eqKW true)) (liW2 (eqW true)))))))) wNil)))))
  (w_law_fin n))
def w_law_ones (n : Nat) : WS := (wConsS (wIfS (wOrT (wBl (wTwo (wName 13) (wLst wNil) (orW (refNeAW 1 0 c_State___eq__) (orW (refNeKW 1 c_State___eq__) (orW (refNeDW 1 c_State___eq__) (orW (refNeW 1 c_State___eq__) (orW (liW2 (eqKW true)) (liW2 (eqW true))))))))) (wBl (wTwo (wMakeAX 1 c_State___init__ 1 1 fu_State_1_fill (wCons (wName 2) wNil) (wCons (wCon (.int 1)) wNil)) (wMakeAX 1 c_State___init__ 1 1 fu_State_1_fill (wCons (wName 2) wNil) (wCons (wCon (.bl true)) wNil)) (orW (refNeAW 1 0 c_State___eq__) (orW (refNeKW 1 c_State___eq__) (orW (refNeDW 1 c_State___eq__) (orW (refNeW 1 c_State___eq__) (orW (liW2 (eqKW true)) (liW2 (eqW true))))))))))
  (wConsS (wRetG (wCon (.bl false)))
  wNilS)
  wNilS)
  (w_law_wide n))
def w_law_odd (n : Nat) : WS := (wConsS (wAsg 13 (wLc (wItems (wTup (wCons (wCon .non) (wCons (wCon (.str "")) (wCons (wCon (.int 0)) (wCons (wName 5) (wCons (wMakeAX 0 c_Ring___init__ 1 0 fu_Ring_1_ (wCons (wLst (wCons (wCon (.int 1)) wNil)) wNil) wNil) wNil))))))) (.nm 14) (wOrT (wBl (wTwo (wName 6) (wName 14) (orW (refAW 1 0 c_State___eq__) (orW (refKW 1 c_State___eq__) (orW (refDW 1 c_State___eq__) (orW (ref2W 1 c_State___eq__) (orW (liW2 (eqKW false)) (liW2 (eqW false))))))))) (wNotT (wBl (wTwo (wName 6) (wName 14) (orW (refNeAW 1 0 c_State___eq__) (orW (refNeKW 1 c_State___eq__) (orW (refNeDW 1 c_State___eq__) (orW (refNeW 1 c_State___eq__) (orW (liW2 (eqKW true)) (liW2 (eqW true))))))))))) (wName 14) [14]))
  (w_law_ones n))
def w_law_like (n : Nat) : WS := (wConsS (wIfS (wOrT (wBl (wTwo (wTwo (wName 10) (wName 6) (orW (refAW 1 0 c_State___eq__) (orW (refKW 1 c_State___eq__) (orW (refDW 1 c_State___eq__) (orW (ref2W 1 c_State___eq__) (orW (liW2 (eqKW false)) (liW2 (eqW false)))))))) (wTwo (wName 11) (wName 5) (orW (refAW 1 0 c_State___eq__) (orW (refKW 1 c_State___eq__) (orW (refDW 1 c_State___eq__) (orW (ref2W 1 c_State___eq__) (orW (liW2 (eqKW false)) (liW2 (eqW false)))))))) (orW (refNeAW 1 0 c_State___eq__) (orW (refNeKW 1 c_State___eq__) (orW (refNeDW 1 c_State___eq__) (orW (refNeW 1 c_State___eq__) (orW (liW2 (eqKW true)) (liW2 (eqW true))))))))) (wBl (wTwo (wTwo (wName 10) (wName 6) (orW (refNeAW 1 0 c_State___eq__) (orW (refNeKW 1 c_State___eq__) (orW (refNeDW 1 c_State___eq__) (orW (refNeW 1 c_State___eq__) (orW (liW2 (eqKW true)) (liW2 (eqW true)))))))) (wTwo (wName 11) (wName 5) (orW (refAW 1 0 c_State___eq__) (orW (refKW 1 c_State___eq__) (orW (refDW 1 c_State___eq__) (orW (ref2W 1 c_State___eq__) (orW (liW2 (eqKW false)) (liW2 (eqW false)))))))) (orW (refAW 1 0 c_State___eq__) (orW (refKW 1 c_State___eq__) (orW (refDW 1 c_State___eq__) (orW (ref2W 1 c_State___eq__) (orW (liW2 (eqKW false)) (liW2 (eqW false))))))))))
  (wConsS (wRetG (wCon (.bl false)))
  wNilS)
  wNilS)
  wNilS)
def w_law_both (n : Nat) : WS := (wConsS (wIfS (wOrT (wNotT (wTru (wFnG c__law_is_state (wCons (wName 6) (wCons (wName 5) wNil))))) (wNotT (wTru (wFnG c__law_is_state (wCons (wName 10) (wCons (wName 11) wNil))))))
  (wConsS (wRetG (wCon (.bl false)))
  wNilS)
  wNilS)
  (w_law_like n))
def w_law_told (n : Nat) : WS := (wConsS (wAsg 12 (wSubAX 1 c_State___getitem__ (wName 6) (wCon (.str "A"))))
  (wConsS (wSetA 0 c_Ring___setitem__ (wCon (.str "later")) (wName 12) (wCon (.int 0)))
  (w_law_both n)))
def w_law_set (n : Nat) : WS := (wConsS (wExpr (wFnG c__law_set (wCons (wName 1) (wCons (wName 6) (wCons (wName 5) wNil)))))
  (w_law_told n))
def w_law_same (n : Nat) : WS := (wConsS (wIfS (wOrT (wBl (wTwo (wTwo (wName 10) (wName 6) (orW (refAW 1 0 c_State___eq__) (orW (refKW 1 c_State___eq__) (orW (refDW 1 c_State___eq__) (orW (ref2W 1 c_State___eq__) (orW (liW2 (eqKW false)) (liW2 (eqW false)))))))) (wCon (.bl true)) (liW2 (isBW true)))) (wOrT (wBl (wTwo (wName 10) (wName 5) (orW (refAW 1 0 c_State___eq__) (orW (refKW 1 c_State___eq__) (orW (refDW 1 c_State___eq__) (orW (ref2W 1 c_State___eq__) (orW (liW2 (eqKW false)) (liW2 (eqW false))))))))) (wNotT (wTru (wFnG c__law_refuses (wCons (wName 1) (wCons (wName 6) (wCons (wName 5) wNil))))))))
  (wConsS (wRetG (wCon (.bl false)))
  wNilS)
  wNilS)
  (w_law_set n))
def w_law_turn (n : Nat) : WS := (wConsS (wPar2 10 11 (wCons (wMethA0 1 "copied" c_State_copied (wName 6)) (wCons (wFnG c__law_copy (wCons (wName 5) wNil)) wNil)))
  (w_law_same n))
def w_law_start (n : Nat) : WS := (wConsS (wIfS (wNotT (wTru (wFnG c__law_is_state (wCons (wName 6) (wCons (wName 5) wNil)))))
  (wConsS (wRetG (wCon (.bl false)))
  wNilS)
  wNilS)
  (wConsS (wFor (wRng1 (wCons (wTwo (wCon (.int 6)) (wFn c__law_take (wCons (wName 1) (wCons (wCon (.int 7)) wNil))) (liW2 addW)) wNil)) (.nm 9)
  (w_law_turn n))
  (w_law_odd n)))
def w_law_fill (n : Nat) : WS := (wConsS (wIfS (wBl (wTwo (wFn c__law_take (wCons (wName 1) (wCons (wCon (.int 2)) wNil))) (wCon (.int 0)) (orW (refAW 1 0 c_State___eq__) (orW (refKW 1 c_State___eq__) (orW (refDW 1 c_State___eq__) (orW (ref2W 1 c_State___eq__) (orW (liW2 (eqKW false)) (liW2 (eqW false)))))))))
  (wConsS (wAsg 7 (wFn c__law_some_value (wCons (wName 1) wNil)))
  (wConsS (wTupS [(.nm 6), (.nm 8)] (wTup (wCons (wMakeAX 1 c_State___init__ 1 3 fu_State_1_i_j_fill (wCons (wName 2) wNil) (wCons (wName 3) (wCons (wName 4) (wCons (wName 7) wNil)))) (wCons (wLst (wCons (wDgetA (wName 5) (wCon (.str "i"))) (wCons (wDgetA (wName 5) (wCon (.str "j"))) wNil))) wNil))))
  (wConsS (wAsg 5 (wFnG c__law_filled (wCons (wName 2) (wCons (wName 7) wNil))))
  (wConsS (wSetDA (wTwo (wName 8) (wCon (.int 0)) (liW2 ixW)) (wName 5) (wCon (.str "i")))
  (wConsS (wSetDA (wTwo (wName 8) (wCon (.int 1)) (liW2 ixW)) (wName 5) (wCon (.str "j")))
  wNilS)))))
  wNilS)
  (w_law_start n))
def w_law (n : Nat) : WS := (wConsS (wAsg 1 (wFn c__law_box (wCons (wName 0) (wCons (wCon (.int 0)) wNil))))
  (wConsS (wPar3 2 3 4 (wCons (wTwo (wCon (.int 1)) (wFn c__law_take (wCons (wName 1) (wCons (wTwo (wLst (wCons (wCon (.int 6)) (wCons (wCon (.int 59)) wNil))) (wFn c__law_take (wCons (wName 1) (wCons (wCon (.int 2)) wNil))) (liW2 ixW)) wNil))) (liW2 addW)) (wCons (wFn c__law_far (wCons (wName 1) wNil)) (wCons (wFn c__law_far (wCons (wName 1) wNil)) wNil))))
  (wConsS (wTupS [(.nm 5), (.nm 6)] (wTup (wCons (wFnG c__law_free (wCons (wName 2) (wCons (wName 3) (wCons (wName 4) wNil)))) (wCons (wCmA c_State_free 1 2 fu_State_free_1_j_i (wCons (wName 2) wNil) (wCons (wName 4) (wCons (wName 3) wNil))) wNil))))
  (w_law_fill n))))
def ch_law : CtG := cgOf ["_law_script", "_law_box_here", "_law_n", "_law_one", "_law_other", "_law_now", "_law_state", "_law_filled_here", "_law_offsets", "_law_turn", "_law_twin", "_law_before", "_law_told", "_law_odd", "_law_thing", "_law_wide"] ["_law_script"] (w_law)
def c_law : Ct := ctH ch_law
section
variable {T : Tab} {P : Program} {w : World} {K : PySem.W.Frag} {mg : Str → Option Value} {base : Heap}
theorem Tx.ok_law (t : Tx T K mg) : FnG P w K mg base CX0 9 t.a_law t.fd_law ["_law_script"] (spC T K c_law) := by
  have nd := sc_law.nd
  exact (fn_HG t.F_law sc_law fun cdv A outer sh H E hG hr n => (jss_cons (js_asg 1 nd (je_call t.ok__law_box (hr.mono (by decide)) t.m__law_box t.F__law_box.kp t.b__law_box (ja_cons (je_name 0) (ja_cons je_int ja_nil))))
  (jss_cons (js_par3 2 3 4 nd (ja_cons (je_binP (JBin.P (jb_li jb_add)) je_int (je_call t.ok__law_take (hr.mono (by decide)) t.m__law_take t.F__law_take.kp t.b__law_take (ja_cons (je_name 1) (ja_cons (je_sub (ji_li ji_ix) (je_lst (ja_cons je_int (ja_cons je_int ja_nil))) (je_call t.ok__law_take (hr.mono (by decide)) t.m__law_take t.F__law_take.kp t.b__law_take (ja_cons (je_name 1) (ja_cons je_int ja_nil)))) ja_nil)))) (ja_cons (je_call t.ok__law_far (hr.mono (by decide)) t.m__law_far t.F__law_far.kp t.b__law_far (ja_cons (je_name 1) ja_nil)) (ja_cons (je_call t.ok__law_far (hr.mono (by decide)) t.m__law_far t.F__law_far.kp t.b__law_far (ja_cons (je_name 1) ja_nil)) ja_nil))))
  (jss_cons (js_tup (je_tup (ja_cons (je_callHp t.ok__law_free (hr.mono (by decide)) t.m__law_free t.F__law_free.kp t.b__law_free (ja_cons (je_name 2) (ja_cons (je_name 3) (ja_cons (je_name 4) ja_nil)))) (ja_cons (je_cmA tk0 t.m_State t.CR_State_free t.CM_State_free t.ok_State_free (hr.mono (by decide)) t.kb_State_free_1_j_i t.put_State_free_1_j_i (ja_cons (je_name 2) ja_nil) (jk_cons (je_name 4) (jk_cons (je_name 3) jk_nil))) ja_nil))) (dgs_cons (dg_name 5 nd) (dgs_cons (dg_name 6 nd) dgs_nil)))
  (jss_cons (js_if (jt_cmpP (jc_or (jc_refA t.T_State t.T_Ring t.i_Ring t.sO_Ring_State t.ok_State___eq__ (hr.mono (by decide)) t.b_State___eq__ t.M_State___eq__.at_ t.M_State___eq__.fn) (jc_or (jc_refK t.T_State t.OT_State t.sD_State t.ok_State___eq__ (hr.mono (by decide)) t.b_State___eq__ t.M_State___eq__.at_ t.M_State___eq__.fn) (jc_or (jc_refD t.T_State t.OT_State t.ok_State___eq__ (hr.mono (by decide)) t.b_State___eq__ t.M_State___eq__.at_ t.M_State___eq__.fn) (jc_or (jc_ref2 t.T_State t.ok_State___eq__ (hr.mono (by decide)) t.b_State___eq__ t.M_State___eq__.at_ t.M_State___eq__.fn) (jc_or (JCmp.P (jc_li (jc_eqK false (room_100 hr)))) (JCmp.P (jc_li (jc_eq hr.units)))))))) (je_call t.ok__law_take (hr.mono (by decide)) t.m__law_take t.F__law_take.kp t.b__law_take (ja_cons (je_name 1) (ja_cons je_int ja_nil))) je_int)
  (jss_cons (js_asg 7 nd (je_call t.ok__law_some_value (hr.mono (by decide)) t.m__law_some_value t.F__law_some_value.kp t.b__law_some_value (ja_cons (je_name 1) ja_nil)))
  (jss_cons (js_tup (je_tup (ja_cons (je_makeAX tk0 t.T_State t.K_State t.ok_State___init__ (hr.mono (by decide)) t.m_State t.kb_State_1_i_j_fill t.put_State_1_i_j_fill (ja_cons (je_name 2) ja_nil) (jk_cons (je_name 3) (jk_cons (je_name 4) (jk_cons (je_name 7) jk_nil)))) (ja_cons (je_lst (ja_cons (je_dgetA hr.units (je_name 5) je_str) (ja_cons (je_dgetA hr.units (je_name 5) je_str) ja_nil))) ja_nil))) (dgs_cons (dg_name 6 nd) (dgs_cons (dg_name 8 nd) dgs_nil)))
  (jss_cons (js_asg 5 nd (je_callHp t.ok__law_filled (hr.mono (by decide)) t.m__law_filled t.F__law_filled.kp t.b__law_filled (ja_cons (je_name 2) (ja_cons (je_name 7) ja_nil))))
  (jss_cons (js_setDA hr.units (je_sub (ji_li ji_ix) (je_name 8) je_int) (je_name 5) je_str)
  (jss_cons (js_setDA hr.units (je_sub (ji_li ji_ix) (je_name 8) je_int) (je_name 5) je_str)
  jss_nil)))))
  jss_nil)
  (jss_cons (js_if (jt_not (jt_val (je_callHG t.ok__law_is_state hG (hr.mono (by decide)) t.m__law_is_state t.F__law_is_state.kp t.b__law_is_state (ja_cons (je_name 6) (ja_cons (je_name 5) ja_nil)))))
  (jss_cons (js_retG je_bl)
  jss_nil)
  jss_nil)
  (jss_cons (js_for PassesOwn.never (ji_range1 t.z_range (ja_cons (je_binP (JBin.P (jb_li jb_add)) je_int (je_call t.ok__law_take (hr.mono (by decide)) t.m__law_take t.F__law_take.kp t.b__law_take (ja_cons (je_name 1) (ja_cons je_int ja_nil)))) ja_nil)) (dg_name 9 nd)
  (jss_cons (js_par2 10 11 nd (ja_cons (je_methA0 t.T_State t.cl_State t.M_State_copied t.ok_State_copied (hr.mono (by decide)) t.b_State_copied (je_name 6)) (ja_cons (je_callHp t.ok__law_copy (hr.mono (by decide)) t.m__law_copy t.F__law_copy.kp t.b__law_copy (ja_cons (je_name 5) ja_nil)) ja_nil)))
  (jss_cons (js_if (JW.jt (jw_or (jt_cmpP (JCmp.P (jc_li jc_isntB)) (je_cmpP (jc_or (jc_refA t.T_State t.T_Ring t.i_Ring t.sO_Ring_State t.ok_State___eq__ (hr.mono (by decide)) t.b_State___eq__ t.M_State___eq__.at_ t.M_State___eq__.fn) (jc_or (jc_refK t.T_State t.OT_State t.sD_State t.ok_State___eq__ (hr.mono (by decide)) t.b_State___eq__ t.M_State___eq__.at_ t.M_State___eq__.fn) (jc_or (jc_refD t.T_State t.OT_State t.ok_State___eq__ (hr.mono (by decide)) t.b_State___eq__ t.M_State___eq__.at_ t.M_State___eq__.fn) (jc_or (jc_ref2 t.T_State t.ok_State___eq__ (hr.mono (by decide)) t.b_State___eq__ t.M_State___eq__.at_ t.M_State___eq__.fn) (jc_or (JCmp.P (jc_li (jc_eqK false (room_100 hr)))) (JCmp.P (jc_li (jc_eq hr.units)))))))) (je_name 10) (je_name 6)) je_bl) (jw_or (jt_cmpP (jc_or (jc_refA t.T_State t.T_Ring t.i_Ring t.sO_Ring_State t.ok_State___eq__ (hr.mono (by decide)) t.b_State___eq__ t.M_State___eq__.at_ t.M_State___eq__.fn) (jc_or (jc_refK t.T_State t.OT_State t.sD_State t.ok_State___eq__ (hr.mono (by decide)) t.b_State___eq__ t.M_State___eq__.at_ t.M_State___eq__.fn) (jc_or (jc_refD t.T_State t.OT_State t.ok_State___eq__ (hr.mono (by decide)) t.b_State___eq__ t.M_State___eq__.at_ t.M_State___eq__.fn) (jc_or (jc_ref2 t.T_State t.ok_State___eq__ (hr.mono (by decide)) t.b_State___eq__ t.M_State___eq__.at_ t.M_State___eq__.fn) (jc_or (JCmp.P (jc_li (jc_eqK false (room_100 hr)))) (JCmp.P (jc_li (jc_eq hr.units)))))))) (je_name 10) (je_name 5)) (jw_or1 (jt_not (jt_val (je_callHG t.ok__law_refuses hG (hr.mono (by decide)) t.m__law_refuses t.F__law_refuses.kp t.b__law_refuses (ja_cons (je_name 1) (ja_cons (je_name 6) (ja_cons (je_name 5) ja_nil))))))))))
  (jss_cons (js_retG je_bl)
  jss_nil)
  jss_nil)
  (jss_cons (js_expr (je_callHp t.ok__law_set (hr.mono (by decide)) t.m__law_set t.F__law_set.kp t.b__law_set (ja_cons (je_name 1) (ja_cons (je_name 6) (ja_cons (je_name 5) ja_nil)))))
  (jss_cons (js_asg 12 nd (je_subAX tk0 t.T_State t.ok_State___getitem__ (hr.mono (by decide)) t.b_State___getitem__ t.M_State___getitem__.at_ t.FG_State t.M_State___getitem__.fn (je_name 6) je_str))
  (jss_cons (js_setA t.T_Ring t.ok_Ring___setitem__ (hr.mono (by decide)) t.b_Ring___setitem__ t.NS_Ring t.M_Ring___setitem__.at_ t.M_Ring___setitem__.fn je_str (je_name 12) je_int)
  (jss_cons (js_if (JW.jt (jw_or (jt_not (jt_val (je_callHG t.ok__law_is_state hG (hr.mono (by decide)) t.m__law_is_state t.F__law_is_state.kp t.b__law_is_state (ja_cons (je_name 6) (ja_cons (je_name 5) ja_nil))))) (jw_or1 (jt_not (jt_val (je_callHG t.ok__law_is_state hG (hr.mono (by decide)) t.m__law_is_state t.F__law_is_state.kp t.b__law_is_state (ja_cons (je_name 10) (ja_cons (je_name 11) ja_nil))))))))
  (jss_cons (js_retG je_bl)
  jss_nil)
  jss_nil)
  (jss_cons (js_if (JW.jt (jw_or (jt_cmpP (jc_or (jc_refNeA t.T_State t.T_Ring t.NE_State t.i_Ring t.sO_Ring_State t.ok_State___eq__ (hr.mono (by decide)) t.b_State___eq__ t.M_State___eq__.at_ t.M_State___eq__.fn) (jc_or (jc_refNeK t.T_State t.NE_State t.sD_State t.ok_State___eq__ (hr.mono (by decide)) t.b_State___eq__ t.M_State___eq__.at_ t.M_State___eq__.fn) (jc_or (jc_refNeD t.T_State t.NE_State t.OT_State t.ok_State___eq__ (hr.mono (by decide)) t.b_State___eq__ t.M_State___eq__.at_ t.M_State___eq__.fn) (jc_or (jc_refNe t.T_State t.NE_State t.ok_State___eq__ (hr.mono (by decide)) t.b_State___eq__ t.M_State___eq__.at_ t.M_State___eq__.fn) (jc_or (JCmp.P (jc_li (jc_eqK true (room_100 hr)))) (JCmp.P (jc_li (jc_ne hr.units)))))))) (je_cmpP (jc_or (jc_refA t.T_State t.T_Ring t.i_Ring t.sO_Ring_State t.ok_State___eq__ (hr.mono (by decide)) t.b_State___eq__ t.M_State___eq__.at_ t.M_State___eq__.fn) (jc_or (jc_refK t.T_State t.OT_State t.sD_State t.ok_State___eq__ (hr.mono (by decide)) t.b_State___eq__ t.M_State___eq__.at_ t.M_State___eq__.fn) (jc_or (jc_refD t.T_State t.OT_State t.ok_State___eq__ (hr.mono (by decide)) t.b_State___eq__ t.M_State___eq__.at_ t.M_State___eq__.fn) (jc_or (jc_ref2 t.T_State t.ok_State___eq__ (hr.mono (by decide)) t.b_State___eq__ t.M_State___eq__.at_ t.M_State___eq__.fn) (jc_or (JCmp.P (jc_li (jc_eqK false (room_100 hr)))) (JCmp.P (jc_li (jc_eq hr.units)))))))) (je_name 10) (je_name 6)) (je_cmpP (jc_or (jc_refA t.T_State t.T_Ring t.i_Ring t.sO_Ring_State t.ok_State___eq__ (hr.mono (by decide)) t.b_State___eq__ t.M_State___eq__.at_ t.M_State___eq__.fn) (jc_or (jc_refK t.T_State t.OT_State t.sD_State t.ok_State___eq__ (hr.mono (by decide)) t.b_State___eq__ t.M_State___eq__.at_ t.M_State___eq__.fn) (jc_or (jc_refD t.T_State t.OT_State t.ok_State___eq__ (hr.mono (by decide)) t.b_State___eq__ t.M_State___eq__.at_ t.M_State___eq__.fn) (jc_or (jc_ref2 t.T_State t.ok_State___eq__ (hr.mono (by decide)) t.b_State___eq__ t.M_State___eq__.at_ t.M_State___eq__.fn) (jc_or (JCmp.P (jc_li (jc_eqK false (room_100 hr)))) (JCmp.P (jc_li (jc_eq hr.units)))))))) (je_name 11) (je_name 5))) (jw_or1 (jt_cmpP (jc_or (jc_refA t.T_State t.T_Ring t.i_Ring t.sO_Ring_State t.ok_State___eq__ (hr.mono (by decide)) t.b_State___eq__ t.M_State___eq__.at_ t.M_State___eq__.fn) (jc_or (jc_refK t.T_State t.OT_State t.sD_State t.ok_State___eq__ (hr.mono (by decide)) t.b_State___eq__ t.M_State___eq__.at_ t.M_State___eq__.fn) (jc_or (jc_refD t.T_State t.OT_State t.ok_State___eq__ (hr.mono (by decide)) t.b_State___eq__ t.M_State___eq__.at_ t.M_State___eq__.fn) (jc_or (jc_ref2 t.T_State t.ok_State___eq__ (hr.mono (by decide)) t.b_State___eq__ t.M_State___eq__.at_ t.M_State___eq__.fn) (jc_or (JCmp.P (jc_li (jc_eqK false (room_100 hr)))) (JCmp.P (jc_li (jc_eq hr.units)))))))) (je_cmpP (jc_or (jc_refNeA t.T_State t.T_Ring t.NE_State t.i_Ring t.sO_Ring_State t.ok_State___eq__ (hr.mono (by decide)) t.b_State___eq__ t.M_State___eq__.at_ t.M_State___eq__.fn) (jc_or (jc_refNeK t.T_State t.NE_State t.sD_State t.ok_State___eq__ (hr.mono (by decide)) t.b_State___eq__ t.M_State___eq__.at_ t.M_State___eq__.fn) (jc_or (jc_refNeD t.T_State t.NE_State t.OT_State t.ok_State___eq__ (hr.mono (by decide)) t.b_State___eq__ t.M_State___eq__.at_ t.M_State___eq__.fn) (jc_or (jc_refNe t.T_State t.NE_State t.ok_State___eq__ (hr.mono (by decide)) t.b_State___eq__ t.M_State___eq__.at_ t.M_State___eq__.fn) (jc_or (JCmp.P (jc_li (jc_eqK true (room_100 hr)))) (JCmp.P (jc_li (jc_ne hr.units)))))))) (je_name 10) (je_name 6)) (je_cmpP (jc_or (jc_refA t.T_State t.T_Ring t.i_Ring t.sO_Ring_State t.ok_State___eq__ (hr.mono (by decide)) t.b_State___eq__ t.M_State___eq__.at_ t.M_State___eq__.fn) (jc_or (jc_refK t.T_State t.OT_State t.sD_State t.ok_State___eq__ (hr.mono (by decide)) t.b_State___eq__ t.M_State___eq__.at_ t.M_State___eq__.fn) (jc_or (jc_refD t.T_State t.OT_State t.ok_State___eq__ (hr.mono (by decide)) t.b_State___eq__ t.M_State___eq__.at_ t.M_State___eq__.fn) (jc_or (jc_ref2 t.T_State t.ok_State___eq__ (hr.mono (by decide)) t.b_State___eq__ t.M_State___eq__.at_ t.M_State___eq__.fn) (jc_or (JCmp.P (jc_li (jc_eqK false (room_100 hr)))) (JCmp.P (jc_li (jc_eq hr.units)))))))) (je_name 11) (je_name 5))))))
  (jss_cons (js_retG je_bl)
  jss_nil)
  jss_nil)
  jss_nil))))))))
  (jss_cons (js_lc 13 nd ⟨(ji_val (je_tup (ja_cons je_non (ja_cons je_str (ja_cons je_int (ja_cons (je_name 5) (ja_cons (je_makeAX tk0 t.T_Ring t.K_Ring t.ok_Ring___init__ (hr.mono (by decide)) t.m_Ring t.kb_Ring_1_ t.put_Ring_1_ (ja_cons (je_lst (ja_cons je_int ja_nil)) ja_nil) jk_nil) ja_nil))))))), blkOk_by (own := [("_law_thing", 14)]) (by kernel_rfl), fun _ _ _ _ _ => (dg_name 14 nd), fun _ _ _ _ _ => (jts_one (JW.jt (jw_or (jt_cmpP (jc_or (jc_refA t.T_State t.T_Ring t.i_Ring t.sO_Ring_State t.ok_State___eq__ (hr.mono (by decide)) t.b_State___eq__ t.M_State___eq__.at_ t.M_State___eq__.fn) (jc_or (jc_refK t.T_State t.OT_State t.sD_State t.ok_State___eq__ (hr.mono (by decide)) t.b_State___eq__ t.M_State___eq__.at_ t.M_State___eq__.fn) (jc_or (jc_refD t.T_State t.OT_State t.ok_State___eq__ (hr.mono (by decide)) t.b_State___eq__ t.M_State___eq__.at_ t.M_State___eq__.fn) (jc_or (jc_ref2 t.T_State t.ok_State___eq__ (hr.mono (by decide)) t.b_State___eq__ t.M_State___eq__.at_ t.M_State___eq__.fn) (jc_or (JCmp.P (jc_li (jc_eqK false (room_100 hr)))) (JCmp.P (jc_li (jc_eq hr.units)))))))) (je_name 6) (je_name 14)) (jw_or1 (jt_not (jt_cmpP (jc_or (jc_refNeA t.T_State t.T_Ring t.NE_State t.i_Ring t.sO_Ring_State t.ok_State___eq__ (hr.mono (by decide)) t.b_State___eq__ t.M_State___eq__.at_ t.M_State___eq__.fn) (jc_or (jc_refNeK t.T_State t.NE_State t.sD_State t.ok_State___eq__ (hr.mono (by decide)) t.b_State___eq__ t.M_State___eq__.at_ t.M_State___eq__.fn) (jc_or (jc_refNeD t.T_State t.NE_State t.OT_State t.ok_State___eq__ (hr.mono (by decide)) t.b_State___eq__ t.M_State___eq__.at_ t.M_State___eq__.fn) (jc_or (jc_refNe t.T_State t.NE_State t.ok_State___eq__ (hr.mono (by decide)) t.b_State___eq__ t.M_State___eq__.at_ t.M_State___eq__.fn) (jc_or (JCmp.P (jc_li (jc_eqK true (room_100 hr)))) (JCmp.P (jc_li (jc_ne hr.units)))))))) (je_name 6) (je_name 14))))))), fun _ _ _ _ _ => (je_name 14), by decide⟩)
  (jss_cons (js_if (JW.jt (jw_or (jt_cmpP (jc_or (jc_refNeA t.T_State t.T_Ring t.NE_State t.i_Ring t.sO_Ring_State t.ok_State___eq__ (hr.mono (by decide)) t.b_State___eq__ t.M_State___eq__.at_ t.M_State___eq__.fn) (jc_or (jc_refNeK t.T_State t.NE_State t.sD_State t.ok_State___eq__ (hr.mono (by decide)) t.b_State___eq__ t.M_State___eq__.at_ t.M_State___eq__.fn) (jc_or (jc_refNeD t.T_State t.NE_State t.OT_State t.ok_State___eq__ (hr.mono (by decide)) t.b_State___eq__ t.M_State___eq__.at_ t.M_State___eq__.fn) (jc_or (jc_refNe t.T_State t.NE_State t.ok_State___eq__ (hr.mono (by decide)) t.b_State___eq__ t.M_State___eq__.at_ t.M_State___eq__.fn) (jc_or (JCmp.P (jc_li (jc_eqK true (room_100 hr)))) (JCmp.P (jc_li (jc_ne hr.units)))))))) (je_name 13) (je_lst ja_nil)) (jw_or1 (jt_cmpP (jc_or (jc_refNeA t.T_State t.T_Ring t.NE_State t.i_Ring t.sO_Ring_State t.ok_State___eq__ (hr.mono (by decide)) t.b_State___eq__ t.M_State___eq__.at_ t.M_State___eq__.fn) (jc_or (jc_refNeK t.T_State t.NE_State t.sD_State t.ok_State___eq__ (hr.mono (by decide)) t.b_State___eq__ t.M_State___eq__.at_ t.M_State___eq__.fn) (jc_or (jc_refNeD t.T_State t.NE_State t.OT_State t.ok_State___eq__ (hr.mono (by decide)) t.b_State___eq__ t.M_State___eq__.at_ t.M_State___eq__.fn) (jc_or (jc_refNe t.T_State t.NE_State t.ok_State___eq__ (hr.mono (by decide)) t.b_State___eq__ t.M_State___eq__.at_ t.M_State___eq__.fn) (jc_or (JCmp.P (jc_li (jc_eqK true (room_100 hr)))) (JCmp.P (jc_li (jc_ne hr.units)))))))) (je_makeAX tk0 t.T_State t.K_State t.ok_State___init__ (hr.mono (by decide)) t.m_State t.kb_State_1_fill t.put_State_1_fill (ja_cons (je_name 2) ja_nil) (jk_cons je_int jk_nil)) (je_makeAX tk0 t.T_State t.K_State t.ok_State___init__ (hr.mono (by decide)) t.m_State t.kb_State_1_fill t.put_State_1_fill (ja_cons (je_name 2) ja_nil) (jk_cons je_bl jk_nil))))))
  (jss_cons (js_retG je_bl)
  jss_nil)
  jss_nil)
  (jss_cons (js_asg 15 nd (je_lst (ja_cons (je_cmpP (jc_or (jc_refA t.T_State t.T_Ring t.i_Ring t.sO_Ring_State t.ok_State___eq__ (hr.mono (by decide)) t.b_State___eq__ t.M_State___eq__.at_ t.M_State___eq__.fn) (jc_or (jc_refK t.T_State t.OT_State t.sD_State t.ok_State___eq__ (hr.mono (by decide)) t.b_State___eq__ t.M_State___eq__.at_ t.M_State___eq__.fn) (jc_or (jc_refD t.T_State t.OT_State t.ok_State___eq__ (hr.mono (by decide)) t.b_State___eq__ t.M_State___eq__.at_ t.M_State___eq__.fn) (jc_or (jc_ref2 t.T_State t.ok_State___eq__ (hr.mono (by decide)) t.b_State___eq__ t.M_State___eq__.at_ t.M_State___eq__.fn) (jc_or (JCmp.P (jc_li (jc_eqK false (room_100 hr)))) (JCmp.P (jc_li (jc_eq hr.units)))))))) (je_makeAX tk0 t.T_State t.K_State t.ok_State___init__ (hr.mono (by decide)) t.m_State t.kb_State_1_ t.put_State_1_ (ja_cons (je_binP (JBin.P (jb_li jb_add)) (je_name 2) je_int) ja_nil) jk_nil) (je_makeAX tk0 t.T_State t.K_State t.ok_State___init__ (hr.mono (by decide)) t.m_State t.kb_State_1_ t.put_State_1_ (ja_cons (je_name 2) ja_nil) jk_nil)) (ja_cons (je_cmpP (jc_or (jc_refA t.T_State t.T_Ring t.i_Ring t.sO_Ring_State t.ok_State___eq__ (hr.mono (by decide)) t.b_State___eq__ t.M_State___eq__.at_ t.M_State___eq__.fn) (jc_or (jc_refK t.T_State t.OT_State t.sD_State t.ok_State___eq__ (hr.mono (by decide)) t.b_State___eq__ t.M_State___eq__.at_ t.M_State___eq__.fn) (jc_or (jc_refD t.T_State t.OT_State t.ok_State___eq__ (hr.mono (by decide)) t.b_State___eq__ t.M_State___eq__.at_ t.M_State___eq__.fn) (jc_or (jc_ref2 t.T_State t.ok_State___eq__ (hr.mono (by decide)) t.b_State___eq__ t.M_State___eq__.at_ t.M_State___eq__.fn) (jc_or (JCmp.P (jc_li (jc_eqK false (room_100 hr)))) (JCmp.P (jc_li (jc_eq hr.units)))))))) (je_makeAX tk0 t.T_State t.K_State t.ok_State___init__ (hr.mono (by decide)) t.m_State t.kb_State_1_ t.put_State_1_ (ja_cons (je_name 2) ja_nil) jk_nil) (je_makeAX tk0 t.T_State t.K_State t.ok_State___init__ (hr.mono (by decide)) t.m_State t.kb_State_1_ t.put_State_1_ (ja_cons (je_binP (JBin.P (jb_li jb_add)) (je_name 2) je_int) ja_nil) jk_nil)) (ja_cons (je_cmpP (jc_or (jc_refNeA t.T_State t.T_Ring t.NE_State t.i_Ring t.sO_Ring_State t.ok_State___eq__ (hr.mono (by decide)) t.b_State___eq__ t.M_State___eq__.at_ t.M_State___eq__.fn) (jc_or (jc_refNeK t.T_State t.NE_State t.sD_State t.ok_State___eq__ (hr.mono (by decide)) t.b_State___eq__ t.M_State___eq__.at_ t.M_State___eq__.fn) (jc_or (jc_refNeD t.T_State t.NE_State t.OT_State t.ok_State___eq__ (hr.mono (by decide)) t.b_State___eq__ t.M_State___eq__.at_ t.M_State___eq__.fn) (jc_or (jc_refNe t.T_State t.NE_State t.ok_State___eq__ (hr.mono (by decide)) t.b_State___eq__ t.M_State___eq__.at_ t.M_State___eq__.fn) (jc_or (JCmp.P (jc_li (jc_eqK true (room_100 hr)))) (JCmp.P (jc_li (jc_ne hr.units)))))))) (je_makeAX tk0 t.T_State t.K_State t.ok_State___init__ (hr.mono (by decide)) t.m_State t.kb_State_1_ t.put_State_1_ (ja_cons (je_name 2) ja_nil) jk_nil) (je_makeAX tk0 t.T_State t.K_State t.ok_State___init__ (hr.mono (by decide)) t.m_State t.kb_State_1_ t.put_State_1_ (ja_cons (je_binP (JBin.P (jb_li jb_add)) (je_name 2) je_int) ja_nil) jk_nil)) ja_nil)))))
  (jss_cons (js_retG (je_and (je_cmpP (jc_or (jc_refA t.T_State t.T_Ring t.i_Ring t.sO_Ring_State t.ok_State___eq__ (hr.mono (by decide)) t.b_State___eq__ t.M_State___eq__.at_ t.M_State___eq__.fn) (jc_or (jc_refK t.T_State t.OT_State t.sD_State t.ok_State___eq__ (hr.mono (by decide)) t.b_State___eq__ t.M_State___eq__.at_ t.M_State___eq__.fn) (jc_or (jc_refD t.T_State t.OT_State t.ok_State___eq__ (hr.mono (by decide)) t.b_State___eq__ t.M_State___eq__.at_ t.M_State___eq__.fn) (jc_or (jc_ref2 t.T_State t.ok_State___eq__ (hr.mono (by decide)) t.b_State___eq__ t.M_State___eq__.at_ t.M_State___eq__.fn) (jc_or (JCmp.P (jc_li (jc_eqK false (room_100 hr)))) (JCmp.P (jc_li (jc_eq hr.units)))))))) (je_cb t.z_repr (jk_li (jc_reprL hG hr.units)) (ja_cons (je_name 15) ja_nil)) je_str) (je_one (je_callHG t.ok__law_is_state hG (hr.mono (by decide)) t.m__law_is_state t.F__law_is_state.kp t.b__law_is_state (ja_cons (je_makeAX tk0 t.T_State t.K_State t.ok_State___init__ (hr.mono (by decide)) t.m_State t.kb_State_1_ t.put_State_1_ (ja_cons (je_name 2) ja_nil) jk_nil) (ja_cons (je_callHp t.ok__law_filled (hr.mono (by decide)) t.m__law_filled t.F__law_filled.kp t.b__law_filled (ja_cons (je_name 2) (ja_cons je_non ja_nil))) ja_nil))))))
  jss_nil))))))))))).toC
end

/-! ### take, feed -/
theorem take_c {b : B} {m : Int} (hm : 0 < m) (hm2 : m < 2 ^ 200) (hb : Ok b) : c__law_take [.cel 0, .dat (.int m)] [bx b] (.dat (.int (tk b m))) [bx (nx b m)] := by
  refine ⟨rfl, ?_⟩
  refine Br.dec (fun h => ?_) (fun h => ?_)
  · refine And.intro hm (And.intro ⟨hm, lg hm hm2⟩ (And.intro ?_ ?_))
    · rw [tk_p h]
    · rw [nx_p h]; rfl
  · obtain ⟨hy, hy2⟩ := hb
    refine And.intro (Dl.mul_l (by omega) (by omega)) (And.intro (pos_ (by decide)) ?_)
    refine And.intro (Dl.mul_l (by omega) (by omega)) (And.intro (pos_ (by decide)) ?_)
    refine And.intro (Dl.mul_l (by omega) (by omega)) (And.intro ⟨by decide, by decide⟩ (And.intro hm (And.intro ?_ ?_)))
    · rw [tk_n h]
    · rw [nx_n h]; rfl

theorem feed_c {ns : List Int} {k : Nat} (hk : k < 100) : c__law_box [.dat (scD ns), .dat (.int k)] [] (.cel 0) [bx (feedB ns k)] := by
  refine ⟨rfl, ?_⟩
  have tail : ∀ c : Int, c = feedC ns k → wConsS (wAsg 3 (wTwo (wTwo (wTwo (wTwo (wTwo (wCb (wCons (wName 2) wNil) intW1) (wCon (.int 2147483629)) modW) (wTwo (wCon (.int 104729)) (wName 1) mulW) addW) (wCon (.int 1)) addW) (wCon (.int 5)) powW) (wCon (.int 2147483647)) modW))
      (wConsS (wRetC 0 (wLstC (wCons (wTwo (wLst (wCons (wCon (.int 0)) (wCons (wName 2) wNil))) (wCb (wCons (wTwo (wName 2) (wTwo (wCon (.int 10)) (wCon (.int 18)) powW) geW) wNil) intW1) ixW) (wCons (wTwo (wTwo (wCb (wCons (wName 3) wNil) intW1) (wCon (.int 2147483646)) modW) (wCon (.int 1)) addW) wNil)))) wNilS)
      ⟨[some (.dat (scD ns)), some (.dat (.int k)), some (.dat (.int c)), none], []⟩ (endJ 0 (.cel 0) [bx (feedB ns k)]) := by
    rintro c rfl
    refine And.intro (pos_ (by decide)) (And.intro (Dl.mul_l (by decide) (by decide)) (And.intro ⟨by decide, by decide, by omega⟩ (And.intro (pos_ (by decide)) ?_)))
    refine And.intro (szk 2) (And.intro ⟨by decide, by decide, by decide⟩ ?_)
    have e : atI [D.int 0, D.int (feedC ns k)] (if decide ((10 : Int) ^ 18 ≤ feedC ns k) = true then 1 else 0) = some (.int (if 10 ^ 18 ≤ feedC ns k then feedC ns k else 0)) := by
      by_cases h : (10 : Int) ^ 18 ≤ feedC ns k
      · rw [if_pos h, if_pos (decide_eq_true h)]; rfl
      · rw [if_neg h, if_neg (by simpa using h)]; rfl
    refine atW_i e ?_
    exact And.intro (pos_ (by decide)) (And.intro (szk 2) (And.intro rfl (And.intro rfl rfl)))
  refine And.intro (Dl.mul_l (by decide) (by decide)) ?_
  refine Br.dec (fun hc => ?_) (fun hc => ?_)
  · have hc : k < ns.length := by simpa using hc
    exact atW_i (atI_scr hc) (tail _ (by unfold feedC; rw [if_pos hc]))
  · have hc : ¬ k < ns.length := by simpa using hc
    refine Br.dec (fun hd => ?_) (fun hd => ?_)
    · have hd : 0 < ns.length := by simpa using hd
      have hm : ((k : Nat) : Int) % (((ns.map D.int).length : Nat) : Int) = ((k % ns.length : Nat) : Int) := by rw [List.length_map]; exact (Int.natCast_emod k ns.length).symm
      refine And.intro (pos_ (by rw [List.length_map]; omega)) ?_
      refine atW_i (d := .int (ns.getD (k % ns.length) 0)) (by rw [hm]; exact atI_scr (Nat.mod_lt _ hd)) ?_
      refine And.intro (pos_ (by decide)) (And.intro (Dl.mul_l (by omega) (by omega)) ?_)
      exact tail _ (by unfold feedC; rw [if_neg hc, if_pos hd])
    · have hd : ¬ 0 < ns.length := by simpa using hd
      exact tail _ (by unfold feedC; rw [if_neg hc, if_neg hd])

/-! ### loops by existence: what a loop leads to is chosen turn by turn -/
theorem forW_ex {p : Pat} {wb : WS} {α : Type} (g : α → D) (I : List α → List α → Sta → Prop) : ∀ (pre post : List α) (S : Sta), I pre post S →
    (∀ pre x post S, I pre (x :: post) S → ∃ S', I (pre ++ [x]) post S' ∧ ∀ P : PJ, P.nx S' → asgW p (g x) S.sl fun sl' => wb ⟨sl', S.cs⟩ P) → ∃ S', I (pre ++ post) [] S' ∧ ∀ P : PJ, P.nx S' → forW p wb (post.map g) S P
  | pre, [], S, h, _ => ⟨S, by rw [List.append_nil]; exact h, fun P q => q⟩
  | pre, x :: post, S, h, hs => by
    obtain ⟨S1, h1, q1⟩ := hs pre x post S h
    obtain ⟨S2, h2, q2⟩ := forW_ex g I (pre ++ [x]) post S1 h1 hs
    refine ⟨S2, by rw [List.append_assoc] at h2; exact h2, fun P q => ?_⟩
    exact q1 _ (q2 P q)
/-- [.. for .. in ..] with draws, by existence -/
theorem lcW_ex {p : Pat} {wt : WpT} {we : WpE} {sl : Sls} {α : Type} (g : α → D) (Q : α → D → Prop) : ∀ (xs : List α) (b : B), Ok b →
    (∀ x ∈ xs, ∀ b, Ok b → ∃ sl' b', asgP p (g x) sl = some sl' ∧ Ok b' ∧ ((∀ (R : RB), R false [bx b'] → wt sl' [bx b] R noX) ∨ ∃ d, Q x d ∧ ∃ b1, (∀ (R : RB), R true [bx b1] → wt sl' [bx b] R noX) ∧ ∀ (R : RV), R (.dat d) [bx b'] → we sl' [bx b1] R noX)) →
    ∃ (ys : List (α × D)) (b' : B), Ok b' ∧ List.Sublist (ys.map (·.1)) xs ∧ (∀ y ∈ ys, Q y.1 y.2) ∧ ∀ R : List D → List Cell → Prop, R (ys.map (·.2)) [bx b'] → lcW p wt we sl (xs.map g) [bx b] R
  | [], b, hb, _ => ⟨[], b, hb, List.Sublist.refl _, (fun _ z => nomatch z), fun R h => h⟩
  | x :: xs, b, hb, hx => by
    obtain ⟨sl', b', e, ok, h⟩ := hx x List.mem_cons_self b hb
    obtain ⟨ys, b2, o2, s2, q2, r2⟩ := lcW_ex g Q xs b' ok fun y hy => hx y (List.mem_cons_of_mem _ hy)
    rcases h with h | ⟨d, hq, b1, h1, h3⟩
    · exact ⟨ys, b2, o2, s2.cons x, q2, fun R hR => asgW_i e (h _ ⟨(fun z => nomatch z), fun _ => r2 R hR⟩)⟩
    · refine ⟨(x, d) :: ys, b2, o2, s2.cons₂ x, fun y hy => ?_, fun R hR => asgW_i e (h1 _ ⟨(fun _ => h3 _ (r2 _ hR)), (fun z => nomatch z)⟩)⟩
      rcases List.mem_cons.mp hy with rfl | hy
      · exact hq
      · exact q2 y hy

theorem six_nat (n d k : Nat) : HT.sIx n d (some (k : Int)) = min k n := HT.sIx_nat n d k
theorem cut_take (ds : List D) (k : Nat) : cutD ds none (some (k : Int)) = ds.take k := by
  unfold cutD
  rw [six_nat]
  show (ds.drop 0).take (min k ds.length - 0) = _
  rw [List.drop_zero, Nat.sub_zero]
  exact (List.take_eq_take_min).symm
theorem cut_drop (ds : List D) (k : Nat) : cutD ds (some (k : Int)) none = ds.drop k := by
  unfold cutD
  rw [six_nat]
  show (ds.drop (min k ds.length)).take (ds.length - min k ds.length) = _
  rw [List.take_of_length_le (by rw [List.length_drop]; exact Nat.le_refl _)]
  rcases Nat.le_total k ds.length with h | h
  · rw [Nat.min_eq_left h]
  · rw [Nat.min_eq_right h, List.drop_of_length_le (Nat.le_refl _), List.drop_of_length_le h]

/-- one statement with what comes behind kept apart -/
theorem consS_i {w1 w2 : WS} {S S' : Sta} {P : PJ} (h1 : ∀ P' : PJ, P'.nx S' → w1 S P') (h2 : w2 S' P) : wConsS w1 w2 S P := h1 _ h2

/-! ### what may be compared -/
def okN (k : Nat) (d : D) : Prop := d.plain = true ∧ d.py.canLay0 = true ∧ d.py.depth ≤ k
theorem okl_all {k : Nat} : ∀ {xs : List D}, (∀ d ∈ xs, okN k d) → D.plains xs = true ∧ PyData.canLayAll0 (D.pys xs) = true ∧ PyData.depthAll (D.pys xs) ≤ k
  | [], _ => ⟨rfl, by simp [D.pys, PyData.canLayAll0], by simp [D.pys, PyData.depthAll]⟩
  | x :: xs, h => by
    obtain ⟨a, b, c⟩ := h x List.mem_cons_self
    obtain ⟨d, e, f⟩ := okl_all fun y hy => h y (List.mem_cons_of_mem _ hy)
    refine ⟨by simp [D.plains, a, d], by simp [D.pys, PyData.canLayAll0, b, e], ?_⟩
    simp only [D.pys, PyData.depthAll]
    exact Nat.max_le.mpr ⟨c, f⟩
theorem ok_lst {k : Nat} {xs : List D} (h : ∀ d ∈ xs, okN k d) (hk : k < 64) : okD (.lst xs) = true := by
  obtain ⟨a, b, c⟩ := okl_all h
  have e : (D.lst xs).py.depth ≤ 64 := by
    show PyData.depth (.list (D.pys xs)) ≤ 64
    simp only [PyData.depth]
    omega
  simp only [okD, SeqAt.shaped, Bool.and_eq_true]
  exact ⟨a, by show PyData.canLay0 (.list (D.pys xs)) = true; simpa [PyData.canLay0] using b, decide_eq_true e⟩

theorem ok_tup {k : Nat} {xs : List D} (h : ∀ d ∈ xs, okN k d) (hk : k < 64) : okD (.tup xs) = true := by
  obtain ⟨a, b, c⟩ := okl_all h
  have e : (D.tup xs).py.depth ≤ 64 := by
    show PyData.depth (.tuple (D.pys xs)) ≤ 64
    simp only [PyData.depth]
    omega
  simp only [okD, SeqAt.shaped, Bool.and_eq_true]
  exact ⟨a, by show PyData.canLay0 (.tuple (D.pys xs)) = true; simpa [PyData.canLay0] using b, decide_eq_true e⟩

/-! ### rings: what their methods do, over any cells -/
theorem rew_vw : ∀ cs : List Cell, rew cs (cs.map vwC) = cs
  | [] => by unfold rew; rfl
  | c :: cs => by
    show reC c (vwC c) :: rew cs (cs.map vwC) = c :: cs
    rw [rew_vw cs]
    congr 1
    cases c <;> rfl
theorem vw_at {cs : List Cell} {j : Nat} {c : Cell} (h : cs[j]? = some c) : (cs.map vwC)[j]? = some (vwC c) := by
  rw [List.getElem?_map, h]
  rfl
theorem rew_app : ∀ (cs ds : List Cell), rew cs (cs.map vwC ++ ds) = cs ++ ds
  | [], ds => by unfold rew; rfl
  | c :: cs, ds => by
    show reC c (vwC c) :: rew cs (cs.map vwC ++ ds) = c :: (cs ++ ds)
    rw [rew_app cs ds]
    congr 1
    cases c <;> rfl
theorem tag_new {cs : List Cell} {c : Cell} {n : Nat} {R : RV} (hn : n = cs.length) (q : ∀ p : Addr, R (.dat (.cls p)) (cs ++ [tgC p c])) : tagW (.cel n) (cs ++ [c]) R := by
  subst hn
  show (match (cs ++ [c])[cs.length]? with
    | some c' => ∀ p : Addr, R (.dat (.cls p)) ((cs ++ [c]).set cs.length (tgC p c'))
    | none => False)
  rw [List.getElem?_append_right (Nat.le_refl _), Nat.sub_self]
  intro p
  rw [List.set_append_right _ _ (Nat.le_refl _), Nat.sub_self]
  exact q p
/-- the ring at a: its row at r has these data -/
structure Rg (cs : List Cell) (a r : Addr) (i j : Nat) (ds : List D) : Prop where
  o : cs[i]? = some (.insA a 0 [("row", .cls r)])
  l : cs[j]? = some (.lstA r ds)
section
variable {cs : List Cell} {a r : Addr} {i j : Nat} {ds : List D} {R : RV} {sl : Sls} {Rx : RX} {x : Nat}
/-- x.row -/
theorem row_c (h : Rg cs a r i j ds) (hx : sl[x]? = some (some (.dat (.cls a)))) (q : R (.dat (.cls r)) cs) : wFldA 0 "row" (wName x) sl cs R Rx := by
  unfold wFldA wName
  rw [hx]
  exact ⟨a, i, _, rfl, h.o, _, rfl, q⟩
theorem de_r (h : Rg cs a r i j ds) : DeR cs (.dat (.cls r)) (.cel j) := .de h.l rfl
theorem wL_r {k : List D → Prop} (h : Rg cs a r i j ds) (q : k ds) : wL (cs.map vwC) (.cel j) k := by
  have e : lstOf (cs.map vwC) (.cel j) = some ds := by
    show (match (cs.map vwC)[j]? with
      | some (.lst ds) => some ds
      | _ => none) = some ds
    rw [vw_at h.l]
    rfl
  unfold wL
  rw [e]
  exact q
/-- len(x.row) -/
theorem lenrow_c (h : Rg cs a r i j ds) (hx : sl[x]? = some (some (.dat (.cls a)))) (q : R (.dat (.int ds.length)) cs) : wCb (wCons (wFldA 0 "row" (wName x)) wNil) (liWC lenW) sl cs R Rx := by
  unfold wCb wCons wNil
  refine row_c h hx ⟨[.cel j], .cons (de_r h) .nil, ?_⟩
  show wL (cs.map vwC) (.cel j) _
  refine wL_r h ?_
  show R (.dat (.int ds.length)) (rew cs (cs.map vwC))
  rw [rew_vw]
  exact q
theorem len_c (h : Rg cs a r i j ds) (q : R (.dat (.int ds.length)) cs) : c_Ring___len__ [.dat (.cls a)] cs R := by
  refine ⟨rfl, ?_⟩
  unfold w_Ring___len__ wConsS wRetG
  exact lenrow_c h rfl q
/-! any list, by its address or as data -/
/-- s is a list with these items -/
def Ls (cs : List Cell) (s : Sl) (ds : List D) : Prop := ∃ s', DeR cs s s' ∧ lstOf (cs.map vwC) s' = some ds
theorem ls_r (h : Rg cs a r i j ds) : Ls cs (.dat (.cls r)) ds := ⟨.cel j, de_r h, by
  show (match (cs.map vwC)[j]? with
    | some (.lst ds) => some ds
    | _ => none) = some ds
  rw [vw_at h.l]
  rfl⟩
theorem ls_d : Ls cs (.dat (.lst ds)) ds := ⟨_, .id, rfl⟩
theorem ls_a {p : Addr} (h : cs[j]? = some (.lstA p ds)) : Ls cs (.dat (.cls p)) ds := ⟨.cel j, .de h rfl, by
  show (match (cs.map vwC)[j]? with
    | some (.lst ds) => some ds
    | _ => none) = some ds
  rw [vw_at h]
  rfl⟩
theorem wL_l {s' : Sl} {k : List D → Prop} (h : lstOf (cs.map vwC) s' = some ds) (q : k ds) : wL (cs.map vwC) s' k := by
  unfold wL
  rw [h]
  exact q
theorem lenW_l {s' : Sl} {Q : RV} (h : lstOf (cs.map vwC) s' = some ds) (q : Q (.dat (.int ds.length)) (cs.map vwC)) : lenW [s'] (cs.map vwC) Q := by
  match s', h with
  | .dat (.lst es), h => exact wL_l (k := fun es => Q (.dat (.int es.length)) (cs.map vwC)) h q
  | .cel k, h => exact wL_l (k := fun es => Q (.dat (.int es.length)) (cs.map vwC)) h q
theorem len_l {s : Sl} (h : Ls cs s ds) (q : R (.dat (.int ds.length)) cs) : liWC lenW [s] cs R := by
  obtain ⟨s', d, e⟩ := h
  refine ⟨[s'], .cons d .nil, lenW_l e ?_⟩
  show R (.dat (.int ds.length)) (rew cs (cs.map vwC))
  rw [rew_vw]
  exact q
end

/-! ### readings over references, of plain data -/
section
variable {cs ts : List Cell} {a r : Addr} {i j : Nat} {ds : List D} {R : RV} {sl : Sls} {Rx : RX} {x : Nat} {s s1 s2 : Sl} {d : D}
theorem rw_ {P : List Cell → Prop} (q : P cs) : P (rew cs (cs.map vwC)) := by rw [rew_vw]; exact q
theorem li1 {W : WC} (h : ∀ Q : RV, Q s2 (cs.map vwC) → W [s1] (cs.map vwC) Q) (q : R s2 cs) : liWC W [s1] cs R := ⟨_, .cons .id .nil, h _ (rw_ (P := R s2) q)⟩
theorem li2 {W : W2} {s3 : Sl} (h : ∀ Q : RV, Q s3 (cs.map vwC) → W s1 s2 (cs.map vwC) Q) (q : R s3 cs) : liW2 W s1 s2 cs R := ⟨_, _, .id, .id, h _ (rw_ (P := R s3) q)⟩
theorem liU {W : W1} (h : ∀ Q : RV, Q s2 (cs.map vwC) → W s1 (cs.map vwC) Q) (q : R s2 cs) : liW1 W s1 cs R := ⟨_, .id, h _ (rw_ (P := R s2) q)⟩
theorem lmod {m n : Int} (h : 0 < n) (q : R (.dat (.int (m % n))) cs) : liW2 modW (.dat (.int m)) (.dat (.int n)) cs R := li2 (fun _ q => And.intro h q) q
theorem ladd {m n : Int} (q : R (.dat (.int (m + n))) cs) : liW2 addW (.dat (.int m)) (.dat (.int n)) cs R := li2 (fun _ q => q) q
theorem lsub {m n : Int} (q : R (.dat (.int (m - n))) cs) : liW2 subW (.dat (.int m)) (.dat (.int n)) cs R := li2 (fun _ q => q) q
theorem lneg {m : Int} (q : R (.dat (.int (-m))) cs) : liW1 negW (.dat (.int m)) cs R := liU (fun _ q => q) q
theorem lint {m : Int} (q : R (.dat (.int m)) cs) : liWC intW1 [.dat (.int m)] cs R := li1 (fun _ q => q) q
theorem leqI {b : Bool} {m n : Int} (q : R (.dat (.bl (b.xor (decide (m = n))))) cs) : liW2 (eqW b) (.dat (.int m)) (.dat (.int n)) cs R := li2 (fun _ q => q) q
theorem leqS {b : Bool} {m n : Str} (q : R (.dat (.bl (b.xor (decide (m = n))))) cs) : liW2 (eqW b) (.dat (.str m)) (.dat (.str n)) cs R := li2 (fun _ q => q) q
theorem leqB {b m n : Bool} (q : R (.dat (.bl (b.xor (m == n)))) cs) : liW2 (eqW b) (.dat (.bl m)) (.dat (.bl n)) cs R := li2 (fun _ q => q) q
theorem leqL {b : Bool} {xs ys : List D} (h1 : okD (.lst xs) = true) (h2 : okD (.lst ys) = true) (q : R (.dat (.bl (b.xor (eqD (.lst xs) (.lst ys))))) cs) : liW2 (eqW b) (.dat (.lst xs)) (.dat (.lst ys)) cs R := li2 (fun _ q => ⟨h1, h2, q⟩) q
theorem lisB {b m n : Bool} (q : R (.dat (.bl (b.xor (decide (m = n))))) cs) : liW2 (isBW b) (.dat (.bl m)) (.dat (.bl n)) cs R := li2 (fun _ q => q) q
theorem lix {xs : List D} {k : Int} (e : atI xs k = some d) (q : R (.dat d) cs) : liW2 ixW (.dat (.lst xs)) (.dat (.int k)) cs R := li2 (fun Q q => (atW_i (k := fun d => Q (.dat d) (cs.map vwC)) e q)) q
/-! ### rings: shifted, made -/
theorem deR_app {s s' : Sl} (h : DeR cs s s') : DeR (cs ++ ts) s s' := by
  cases h with
  | id => exact .id
  | de h1 h2 => exact .de (by rw [List.getElem?_append_left (List.getElem?_eq_some_iff.mp h1).1]; exact h1) h2
theorem Ls.app (h : Ls cs s ds) : Ls (cs ++ ts) s ds := by
  obtain ⟨s', d, e⟩ := h
  refine ⟨s', deR_app d, ?_⟩
  rw [List.map_append]
  unfold lstOf at e ⊢
  split at e
  · exact e
  · rename_i k
    split at e
    · rename_i es h
      cases e
      rw [List.getElem?_append_left (List.getElem?_eq_some_iff.mp h).1, h]
    · cases e
  · cases e
theorem Rg.app (h : Rg cs a r i j ds) : Rg (cs ++ ts) a r i j ds := ⟨by rw [List.getElem?_append_left (List.getElem?_eq_some_iff.mp h.o).1]; exact h.o, by rw [List.getElem?_append_left (List.getElem?_eq_some_iff.mp h.l).1]; exact h.l⟩
theorem slice_l {l u : Option Int} (h : Ls cs s ds) (q : R (.dat (.lst (cutD ds l u))) cs) : liSl s l u cs R := by
  obtain ⟨s', d, e⟩ := h
  refine ⟨s', d, ?_⟩
  have q2 : R (.dat (.lst (cutD ds l u))) (rew cs (cs.map vwC)) := rw_ (P := R (.dat (.lst (cutD ds l u)))) q
  match s', e with
  | .dat (.lst es), e => exact wL_l (k := fun es => R (.dat (.lst (cutD es l u))) (rew cs (cs.map vwC))) e q2
  | .cel k, e => exact wL_l (k := fun es => R (.dat (.lst (cutD es l u))) (rew cs (cs.map vwC))) e q2
/-- two lists, put together to a new one -/
theorem add_l {as bs : List D} (hl : as.length + bs.length ≤ 10000000) (q : ∀ p : Addr, R (.dat (.cls p)) (cs ++ [.lstA p (as ++ bs)])) : liW2 addWC (.dat (.lst as)) (.dat (.lst bs)) cs fun s c => tagW s c R := by
  refine ⟨_, _, .id, .id, ?_⟩
  have key : as.length + bs.length ≤ sizeLine ∧ tagW (.cel (cs.map vwC).length) (rew cs (cs.map vwC ++ [.lst (as ++ bs)])) R := by
    rw [rew_app]
    exact ⟨sz (by omega), tag_new (by rw [List.length_map]) q⟩
  exact key
/-- what a ring has, shifted -/
def mvD (ds : List D) (k : Int) : List D := cutD ds (some (k % (ds.length : Int))) none ++ cutD ds none (some (k % (ds.length : Int)))
theorem cut_len (ds : List D) (l u : Option Int) : (cutD ds l u).length ≤ ds.length := by
  unfold cutD
  rw [List.length_take, List.length_drop]
  omega
/-- list(..) of a list, a new one -/
theorem list_l (h : Ls cs s ds) (q : ∀ p : Addr, R (.dat (.cls p)) (cs ++ [.lstA p ds])) : liWC listWC [s] cs fun s c => tagW s c R := by
  obtain ⟨s', d, e⟩ := h
  refine ⟨[s'], .cons d .nil, ?_⟩
  have key : tagW (.cel (cs.map vwC).length) (rew cs (cs.map vwC ++ [.lst ds])) R := by
    rw [rew_app]
    exact tag_new (by rw [List.length_map]) q
  match s', e with
  | .dat (.lst es), e => exact wL_l (k := fun es => tagW (.cel (cs.map vwC).length) (rew cs (cs.map vwC ++ [.lst es])) R) e key
  | .cel k, e => exact wL_l (k := fun es => tagW (.cel (cs.map vwC).length) (rew cs (cs.map vwC ++ [.lst es])) R) e key
/-- x.row, x told -/
theorem fld_row {P : D → Prop} (h : Rg cs a r i j ds) (q : P (.cls r)) : refI 0 (.dat (.cls a)) cs fun _ _ fs => ∃ d, fs.lookup ("row" : Str) = some d ∧ P d := ⟨a, i, _, rfl, h.o, _, rfl, q⟩
/-- s is a list or a tuple with these items -/
def Sq (cs : List Cell) (s : Sl) (ds : List D) : Prop := Ls cs s ds ∨ s = .dat (.tup ds)
theorem Sq.app (h : Sq cs s ds) : Sq (cs ++ ts) s ds := h.imp (fun h => h.app) id
theorem len_q (h : Sq cs s ds) (q : R (.dat (.int ds.length)) cs) : liWC lenW [s] cs R := by
  rcases h with h | rfl
  · exact len_l h q
  · exact li1 (s2 := .dat (.int ds.length)) (fun _ q => q) q
theorem list_q (h : Sq cs s ds) (q : ∀ p : Addr, R (.dat (.cls p)) (cs ++ [.lstA p ds])) : liWC listWC [s] cs fun s c => tagW s c R := by
  rcases h with h | rfl
  · exact list_l h q
  · refine ⟨_, .cons .id .nil, ?_⟩
    have key : tagW (.cel (cs.map vwC).length) (rew cs (cs.map vwC ++ [.lst ds])) R := by
      rw [rew_app]
      exact tag_new (by rw [List.length_map]) q
    exact key
/-- __init__ of a ring -/
theorem init_c (hi : cs[i]? = some (.insA a 0 [])) (h : Sq cs s ds) (h0 : 0 < ds.length) (q : ∀ p : Addr, R (.dat .non) ((cs ++ [Cell.lstA p ds]).set i (Cell.insA a 0 [("row", .cls p)]))) : c_Ring___init__ [.dat (.cls a), s] cs R Rx := by
  refine ⟨rfl, (?_ : w_Ring___init__ _ ⟨[some (.dat (.cls a)), some s], cs⟩ (endGX R Rx))⟩
  unfold w_Ring___init__
  try dsimp only [wConsS, wNilS, wAsg, wTwo, wOne, wName, wCon, wCb, wCons, wNil, wRetG, wTag, wSlcA, wO0, wO1, wIfS, wBl, wFn, wFnG, wSetFA, wFldA, wMethA0, wNotT, wOrT, wAndV, Dl.wTru, wLst, wTup, wDats, dats, isB, wSubA, wSetA, wSetLA, wExpr, wPar2, par2, wPar3, par3, wItems, itemsW, wRng1, wFor, endG, List.set_cons_zero, List.set_cons_succ, List.getElem?_cons_zero, List.getElem?_cons_succ, Option.map_some]
  refine len_q h ?_
  refine leqI ?_
  refine Br.ff (by rw [Bool.false_xor]; exact decide_eq_false (by omega)) ?_
  refine list_q h fun p => ?_
  refine ⟨_, rfl, a, i, [], rfl, ?_, by decide, ?_⟩
  · rw [List.getElem?_append_left (List.getElem?_eq_some_iff.mp hi).1]
    exact hi
  · exact q p
/-- __init__ of a ring without a value -/
theorem init_no {y : Addr} (h : Sq cs s []) (q : Rx ⟨2, [.int 0]⟩ cs) : c_Ring___init__ [.dat (.cls y), s] cs R Rx := by
  refine ⟨rfl, (?_ : w_Ring___init__ _ ⟨[some (.dat (.cls y)), some s], cs⟩ (endGX R Rx))⟩
  unfold w_Ring___init__
  try dsimp only [wConsS, wNilS, wAsg, wTwo, wOne, wName, wCon, wCb, wCons, wNil, wRetG, wTag, wSlcA, wO0, wO1, wIfS, wBl, wFn, wFnG, wSetFA, wFldA, wMethA0, wNotT, wOrT, wAndV, Dl.wTru, wLst, wTup, wDats, dats, isB, wSubA, wSetA, wSetLA, wExpr, wPar2, par2, wPar3, par3, wItems, itemsW, wRng1, wFor, endG, List.set_cons_zero, List.set_cons_succ, List.getElem?_cons_zero, List.getElem?_cons_succ, Option.map_some]
  refine len_q h ?_
  refine leqI ?_
  refine Br.tt rfl ?_
  unfold wRaise1
  try dsimp only [wConsS, wNilS, wAsg, wTwo, wOne, wName, wCon, wCb, wCons, wNil, wRetG, wTag, wSlcA, wO0, wO1, wIfS, wBl, wFn, wFnG, wSetFA, wFldA, wMethA0, wNotT, wOrT, wAndV, Dl.wTru, wLst, wTup, wDats, dats, isB, wSubA, wSetA, wSetLA, wExpr, wPar2, par2, wPar3, par3, wItems, itemsW, wRng1, wFor, endG, List.set_cons_zero, List.set_cons_succ, List.getElem?_cons_zero, List.getElem?_cons_succ, Option.map_some]
  exact q
end

/-! ### what is due of shifted and turned rows, plain -/
/-- the item at a place, modulo the size -/
def itm (ds : List D) (m : Int) : D := ds.getD (m % (ds.length : Int)).toNat .non
/-- at each place q the item at f q -/
def dueD (ds : List D) (f : Int → Int) : List D := (List.range ds.length).map fun q : Nat => itm ds (f (q : Int))
theorem due_len (ds : List D) (f : Int → Int) : (dueD ds f).length = ds.length := by unfold dueD; rw [List.length_map, List.length_range]
theorem atI_get {ds : List D} {m : Int} {j : Nat} {d : D} (hm : m = (j : Int)) (h : ds[j]? = some d) : atI ds m = some d := by subst hm; exact atI_nat (j := j) h
theorem itm_lt {ds : List D} (h0 : 0 < ds.length) (m : Int) : (m % (ds.length : Int)).toNat < ds.length := by
  have a := Int.emod_nonneg m (show (ds.length : Int) ≠ 0 by omega)
  have b := Int.emod_lt_of_pos m (show 0 < (ds.length : Int) by omega)
  omega
theorem itm_at {ds : List D} (h0 : 0 < ds.length) (m : Int) : atI ds (m % (ds.length : Int)) = some (itm ds m) := by
  have a := Int.emod_nonneg m (show (ds.length : Int) ≠ 0 by omega)
  refine atI_get (j := (m % (ds.length : Int)).toNat) (by omega) ?_
  unfold itm
  rw [List.getD_eq_getElem?_getD, List.getElem?_eq_getElem (itm_lt h0 m)]
  rfl
theorem itm_mem {ds : List D} (h0 : 0 < ds.length) (m : Int) : itm ds m ∈ ds := by
  unfold itm
  rw [List.getD_eq_getElem?_getD, List.getElem?_eq_getElem (itm_lt h0 m)]
  exact List.getElem_mem _
theorem due_mem {ds : List D} {f : Int → Int} {d : D} (h : d ∈ dueD ds f) : d ∈ ds := by
  unfold dueD at h
  obtain ⟨q, hq, rfl⟩ := List.mem_map.mp h
  exact itm_mem (by have := List.mem_range.mp hq; omega) _
theorem due_at {ds : List D} {f : Int → Int} {q : Nat} (h : q < ds.length) : (dueD ds f)[q]? = some (itm ds (f (q : Int))) := by
  unfold dueD
  rw [List.getElem?_map, List.getElem?_range h]
  rfl
theorem itm_eq {ds : List D} {m : Int} {j : Nat} (hj : j < ds.length) (e : m % (ds.length : Int) = (j : Int)) : some (itm ds m) = ds[j]? := by
  unfold itm
  rw [e, Int.toNat_natCast, List.getD_eq_getElem?_getD, List.getElem?_eq_getElem hj]
  rfl
/-- shifted -/
theorem mv_due {ds : List D} (k : Int) (h0 : 0 < ds.length) : mvD ds k = dueD ds fun q => q + k := by
  have a := Int.emod_nonneg k (show (ds.length : Int) ≠ 0 by omega)
  have b := Int.emod_lt_of_pos k (show 0 < (ds.length : Int) by omega)
  obtain ⟨f, hf⟩ : ∃ f : Nat, k % (ds.length : Int) = (f : Int) := ⟨_, (Int.toNat_of_nonneg a).symm⟩
  have hfn : f < ds.length := by omega
  unfold mvD
  rw [hf, cut_drop, cut_take]
  refine List.ext_getElem? fun q => ?_
  by_cases hq : q < ds.length
  · rw [due_at hq]
    by_cases h1 : q < ds.length - f
    · rw [List.getElem?_append_left (by rw [List.length_drop]; exact h1), List.getElem?_drop]
      refine (itm_eq (by omega) ?_).symm
      rw [← Int.add_emod_emod, hf, Int.emod_eq_of_lt (by omega) (by omega)]
      omega
    · rw [List.getElem?_append_right (by rw [List.length_drop]; omega), List.length_drop, List.getElem?_take_of_lt (by omega)]
      refine (itm_eq (by omega) ?_).symm
      have e : ((q : Int) + k) % (ds.length : Int) = ((q : Int) + (f : Int) - (ds.length : Int)) % (ds.length : Int) := by
        rw [Int.sub_emod_right, ← hf, Int.add_emod_emod]
      rw [e, Int.emod_eq_of_lt (by omega) (by omega)]
      omega
  · rw [List.getElem?_eq_none (l := dueD ds _) (by rw [due_len]; omega), List.getElem?_eq_none (by rw [List.length_append, List.length_drop, List.length_take]; omega)]
/-- turned -/
def ngD (ds : List D) : List D := cutD ds none (some 1) ++ pickL (pickN ds.length none (some 0) (some (-1))) ds
theorem pick_neg {n : Nat} (h : 0 < n) : pickN n none (some 0) (some (-1)) = (List.range (n - 1)).map fun k => n - 1 - k := by
  have hb : sliceBounds none (some 0) (some (-1)) n = ((n : Int) - 1, 0, -1) := by
    unfold sliceBounds
    simp
    omega
  unfold pickN
  rw [hb]
  unfold sliceRange
  have hc : ((if (-1 : Int) > 0 then (if (n : Int) - 1 < 0 then (0 - ((n : Int) - 1) + -1 - 1) / -1 else 0) else (if (n : Int) - 1 > 0 then ((n : Int) - 1 - 0 - -1 - 1) / (- -1) else 0)) : Int).toNat = n - 1 := by
    rw [if_neg (by decide)]
    split
    · rw [show (- -1 : Int) = 1 from rfl, Int.ediv_one]; omega
    · omega
  show (List.range ((if (-1 : Int) > 0 then (if (n : Int) - 1 < 0 then (0 - ((n : Int) - 1) + -1 - 1) / -1 else 0) else (if (n : Int) - 1 > 0 then ((n : Int) - 1 - 0 - -1 - 1) / (- -1) else 0)) : Int).toNat).map (fun (k : Nat) => ((n : Int) - 1 + -1 * (k : Int)).toNat) = _
  rw [hc]
  refine List.map_congr_left fun k hk => ?_
  have := List.mem_range.mp hk
  omega
theorem pick_map {ds : List D} : ∀ {ns : List Nat}, (∀ i ∈ ns, i < ds.length) → pickL ns ds = ns.map fun i => ds.getD i .non
  | [], _ => rfl
  | i :: ns, h => by
    have ih := pick_map (ds := ds) (ns := ns) fun j hj => h j (List.mem_cons_of_mem _ hj)
    unfold pickL at ih ⊢
    have hi := h i List.mem_cons_self
    rw [List.filterMap_cons, List.map_cons, ih, List.getElem?_eq_getElem hi, List.getD_eq_getElem?_getD, List.getElem?_eq_getElem hi]
    rfl
theorem pk_len {ds : List D} (h0 : 0 < ds.length) : (pickL (pickN ds.length none (some 0) (some (-1))) ds).length = ds.length - 1 := by
  rw [pick_neg h0, pick_map fun i hi => by obtain ⟨k, hk, rfl⟩ := List.mem_map.mp hi; have := List.mem_range.mp hk; omega]
  simp
theorem ng_due {ds : List D} (h0 : 0 < ds.length) : ngD ds = dueD ds fun q => 0 - q := by
  unfold ngD
  rw [show (some (1 : Int)) = some ((1 : Nat) : Int) from rfl, cut_take, pick_neg h0, pick_map fun i hi => by obtain ⟨k, hk, rfl⟩ := List.mem_map.mp hi; have := List.mem_range.mp hk; omega]
  refine List.ext_getElem? fun q => ?_
  by_cases hq : q < ds.length
  · rw [due_at hq]
    by_cases h1 : q < 1
    · rw [List.getElem?_append_left (by rw [List.length_take]; omega), List.getElem?_take_of_lt h1]
      obtain rfl : q = 0 := by omega
      exact (itm_eq (j := 0) h0 (by simp)).symm
    · rw [List.getElem?_append_right (by rw [List.length_take]; omega), List.length_take, show min 1 ds.length = 1 by omega, List.getElem?_map, List.getElem?_map, List.getElem?_range (by omega)]
      have e : (0 - (q : Int)) % (ds.length : Int) = ((ds.length - q : Nat) : Int) := by
        rw [← Int.add_emod_right, Int.emod_eq_of_lt (by omega) (by omega)]
        omega
      rw [itm_eq (j := ds.length - q) (by omega) e, List.getElem?_eq_getElem (by omega)]
      show some (ds.getD (ds.length - 1 - (q - 1)) .non) = _
      rw [show ds.length - 1 - (q - 1) = ds.length - q by omega, List.getD_eq_getElem?_getD, List.getElem?_eq_getElem (by omega)]
      rfl
  · rw [List.getElem?_eq_none (l := dueD ds _) (by rw [due_len]; omega), List.getElem?_eq_none (by simp; omega)]

/-! ### rings: made -/
section
variable {cs ts : List Cell} {a r : Addr} {i j : Nat} {ds : List D} {R : RV} {sl : Sls} {Rx : RX} {x : Nat} {s s1 s2 : Sl} {d : D}
/-- a new ring: its row is behind it -/
theorem make_c (h : Sq cs (.dat d) ds) (h0 : 0 < ds.length) (q : ∀ x p : Addr, R (.dat (.cls x)) (cs ++ [Cell.insA x 0 [("row", .cls p)], Cell.lstA p ds])) : makeAX 0 c_Ring___init__ [d] cs R Rx := fun x => by
  refine init_c (i := cs.length) (by rw [List.getElem?_append_right (Nat.le_refl _), Nat.sub_self]; rfl) h.app h0 fun p => ⟨rfl, ?_⟩
  rw [List.append_assoc, List.set_append_right _ _ (Nat.le_refl _), Nat.sub_self]
  exact q x p
/-- a list told by the last cell -/
theorem ls_new {p : Addr} : Ls (cs ++ [Cell.lstA p ds]) (.dat (.cls p)) ds := ls_a (j := cs.length) (by rw [List.getElem?_append_right (Nat.le_refl _), Nat.sub_self]; rfl)
theorem rg_new {x p : Addr} : Rg (cs ++ [Cell.insA x 0 [("row", .cls p)], Cell.lstA p ds]) x p cs.length (cs.length + 1) ds := ⟨by rw [List.getElem?_append_right (Nat.le_refl _), Nat.sub_self]; rfl, by rw [List.getElem?_append_right (Nat.le_add_right _ _), Nat.add_sub_cancel_left]; rfl⟩
end

/-! ### rings: changed -/
section
variable {cs ts : List Cell} {a r : Addr} {i j : Nat} {ds : List D} {R : RV} {sl : Sls} {Rx : RX} {x : Nat} {s s1 s2 : Sl} {d : D}
theorem set_c {k : Int} (h : Rg cs a r i j ds) (h0 : 0 < ds.length) (q : R (.dat .non) (cs.set j (Cell.lstA r (ds.set (k % (ds.length : Int)).toNat d)))) : c_Ring___setitem__ [.dat (.cls a), .dat (.int k), .dat d] cs R := by
  refine ⟨rfl, (?_ : w_Ring___setitem__ _ ⟨[some (.dat (.cls a)), some (.dat (.int k)), some (.dat d)], cs⟩ (endG R))⟩
  unfold w_Ring___setitem__
  try dsimp only [wConsS, wNilS, wAsg, wTwo, wOne, wName, wCon, wCb, wCons, wNil, wRetG, wTag, wSlcA, wO0, wO1, wIfS, wBl, wFn, wFnG, wSetFA, wFldA, wMethA0, wNotT, wOrT, wAndV, Dl.wTru, wLst, wTup, wDats, dats, isB, wSubA, wSetA, wSetLA, wExpr, wPar2, par2, wPar3, par3, wItems, itemsW, wRng1, wFor, endG, List.set_cons_zero, List.set_cons_succ, List.getElem?_cons_zero, List.getElem?_cons_succ, Option.map_some]
  refine fld_row h ?_
  refine fld_row h ?_
  refine len_l (ls_r h) ?_
  refine lmod (show (0 : Int) < (ds.length : Int) by omega) ?_
  have e := Int.emod_nonneg k (show (ds.length : Int) ≠ 0 by omega)
  refine ⟨d, _, r, j, ds, (k % (ds.length : Int)).toNat, ⟨rfl, rfl, rfl⟩, h.l, ?_, q⟩
  obtain ⟨f, hf⟩ : ∃ f : Nat, k % (ds.length : Int) = (f : Int) := ⟨_, (Int.toNat_of_nonneg e).symm⟩
  have b := Int.emod_lt_of_pos k (show 0 < (ds.length : Int) by omega)
  rw [hf, Int.toNat_natCast]
  simp only [ixN, show (0 : Int) ≤ (f : Int) by omega, show (f : Int) < (ds.length : Int) by omega, if_true, Int.toNat_natCast]
end

/-! ### rings where other cells change -/
section
variable {cs ts : List Cell} {a r : Addr} {i j k : Nat} {ds es : List D} {R : RV} {sl : Sls} {Rx : RX} {x : Nat} {s s1 s2 : Sl} {d e : D} {b b' : B}
theorem Rg.box {c c' : List D} (h : Rg (Cell.lst c :: cs) a r i j ds) : Rg (Cell.lst c' :: (cs ++ ts)) a r i j ds := by
  obtain ⟨ho, hl⟩ := h
  cases i with
  | zero => cases ho
  | succ i =>
    cases j with
    | zero => cases hl
    | succ j => exact ⟨by rw [List.getElem?_cons_succ] at ho ⊢; rw [List.getElem?_append_left (List.getElem?_eq_some_iff.mp ho).1]; exact ho, by rw [List.getElem?_cons_succ] at hl ⊢; rw [List.getElem?_append_left (List.getElem?_eq_some_iff.mp hl).1]; exact hl⟩
theorem Rg.box0 {c c' : List D} (h : Rg (Cell.lst c :: cs) a r i j ds) : Rg (Cell.lst c' :: cs) a r i j ds := by
  have := h.box (c' := c') (ts := [])
  rw [List.append_nil] at this
  exact this
theorem Rg.ref (h : Rg cs a r i j ds) : isRf 0 (.dat (.cls a)) cs := ⟨a, i, _, rfl, h.o, trivial⟩
theorem met_c {m : Str} (h : Rg cs a r i j ds) (e : fIdx [("row" : Str)] m = none) : refI 0 (.dat (.cls a)) cs fun _ _ fs => fIdx (fs.map (·.1)) m = none := ⟨a, i, _, rfl, h.o, e⟩
theorem Rg.set_self (h : Rg cs a r i j ds) : Rg (cs.set j (.lstA r es)) a r i j es := by
  have hj := (List.getElem?_eq_some_iff.mp h.l).1
  have hij : j ≠ i := fun z => by
    have := h.o
    rw [← z, h.l] at this
    cases this
  exact ⟨by rw [List.getElem?_set_ne hij]; exact h.o, by rw [List.getElem?_set_self hj]⟩
theorem Rg.set_other {c : Cell} {r' : Addr} {ds' : List D} (h : Rg cs a r i j ds) (hk : cs[k]? = some (.lstA r' ds')) (hj : k ≠ j) : Rg (cs.set k c) a r i j ds := by
  have hki : k ≠ i := fun z => by
    have := h.o
    rw [← z, hk] at this
    cases this
  exact ⟨by rw [List.getElem?_set_ne hki]; exact h.o, by rw [List.getElem?_set_ne hj]; exact h.l⟩
theorem set_parts {f : Nat} (hf : f < ds.length) : ds.take f ++ [e] ++ ds.drop (f + 1) = ds.set f e := by
  refine List.ext_getElem? fun q => ?_
  rw [List.append_assoc, List.getElem?_set]
  by_cases h1 : q < f
  · rw [List.getElem?_append_left (by rw [List.length_take]; omega), List.getElem?_take_of_lt h1, if_neg (by omega)]
  · rw [List.getElem?_append_right (by rw [List.length_take]; omega), List.length_take, Nat.min_eq_left (by omega)]
    by_cases h2 : f = q
    · subst h2
      rw [if_pos rfl, if_pos hf, Nat.sub_self]
      rfl
    · rw [if_neg h2, show q - f = (q - f - 1) + 1 by omega]
      show (ds.drop (f + 1))[q - f - 1]? = _
      rw [List.getElem?_drop]
      congr 1
      omega
end

/-! ### cells: a new list, as data -/
section
variable {cs ts : List Cell} {a r : Addr} {i j : Nat} {ds es : List D} {R : RV} {sl : Sls} {Rx : RX} {x : Nat} {s s1 s2 : Sl} {d e : D}
/-- a new list of the same items, as data -/
theorem lsd_l (h : Ls cs s ds) (q : R (.dat (.lst ds)) cs) : liWC listW [s] cs R := by
  obtain ⟨s', d, e⟩ := h
  refine ⟨[s'], .cons d .nil, ?_⟩
  have q2 : R (.dat (.lst ds)) (rew cs (cs.map vwC)) := rw_ (P := R (.dat (.lst ds))) q
  match s', e with
  | .dat (.lst es), e => exact wL_l (k := fun es => R (.dat (.lst es)) (rew cs (cs.map vwC))) e q2
  | .cel k, e => exact wL_l (k := fun es => R (.dat (.lst es)) (rew cs (cs.map vwC))) e q2
theorem cells_d (h : Rg cs a r i j ds) (q : R (.dat (.lst ds)) cs) : c_Ring_cells [.dat (.cls a)] cs R := by
  refine ⟨rfl, (?_ : w_Ring_cells _ ⟨[some (.dat (.cls a))], cs⟩ (endG R))⟩
  unfold w_Ring_cells
  try dsimp only [wConsS, wNilS, wAsg, wTwo, wOne, wName, wCon, wCb, wCons, wNil, wRetG, wTag, wSlcA, wO0, wO1, wIfS, wBl, wFn, wFnG, wSetFA, wFldA, wMethA0, wNotT, wOrT, wAndV, Dl.wTru, wLst, wTup, wDats, dats, isB, wSubA, wSetA, wSetLA, wExpr, wPar2, par2, wPar3, par3, wItems, itemsW, wRng1, wFor, endG, List.set_cons_zero, List.set_cons_succ, List.getElem?_cons_zero, List.getElem?_cons_succ, Option.map_some]
  refine fld_row h ?_
  exact lsd_l (ls_r h) q
end

/-! ### drawn values -/
theorem pick_ex {L : List D} {b : B} (hb : Ok b) (h0 : 0 < L.length) (hl : L.length ≤ 1000) : ∃ d b', d ∈ L ∧ Ok b' ∧ c__law_pick [.cel 0, .dat (.lst L)] [bx b] (.dat d) [bx b'] := by
  have hm : (0 : Int) < (L.length : Int) := by omega
  have a := tk_lo (b := b) hm
  have c := tk_hi (b := b) hm
  have hj : (tk b (L.length : Int)).toNat < L.length := by omega
  refine ⟨L[(tk b (L.length : Int)).toNat], nx b L.length, List.getElem_mem hj, hb.nx _, ⟨rfl, ?_⟩⟩
  refine call_ (take_c hm (by omega) hb) ?_
  exact atW_i (atI_get (j := (tk b (L.length : Int)).toNat) (by omega) (List.getElem?_eq_getElem hj)) (And.intro rfl rfl)
/-- what may be drawn -/
def Vl (d : D) : Prop := (∃ n : Int, n.natAbs ≤ 10 ^ 12 ∧ d = .int n) ∨ d = .str "" ∨ d = .str "cell" ∨ d = .non ∨ d = .bl true ∨ (∃ n : Int, n.natAbs ≤ 9 ∧ d = .tup [.str "cell", .str "A", .int n]) ∨ d = .lst [.int 1, .tup []]
theorem some_ex {b : B} (hb : Ok b) : ∃ d b', Vl d ∧ Ok b' ∧ c__law_some_value [.cel 0] [bx b] (.dat d) [bx b'] := by
  have h1 := tk_lo (b := b) (m := 5) (by decide)
  have h2 := tk_hi (b := b) (m := 5) (by decide)
  have k1 : Ok (nx b 5) := hb.nx _
  have h3 := tk_lo (b := nx b 5) (m := 10 ^ 12) (by decide)
  have h4 := tk_hi (b := nx b 5) (m := 10 ^ 12) (by decide)
  have k2 : Ok (nx (nx b 5) (10 ^ 12)) := k1.nx _
  have h5 := tk_lo (b := nx (nx b 5) (10 ^ 12)) (m := 9) (by decide)
  have h6 := tk_hi (b := nx (nx b 5) (10 ^ 12)) (m := 9) (by decide)
  have k3 : Ok (nx (nx (nx b 5) (10 ^ 12)) 9) := k2.nx _
  obtain ⟨d, b', hd, hb', hp⟩ := pick_ex (L := [.int (tk b 5), .int (0 - tk (nx b 5) (10 ^ 12)), .str "", .str "cell", .non, .bl true, .int 1] ++ [.tup [.str "cell", .str "A", .int (tk (nx (nx b 5) (10 ^ 12)) 9)], .lst [.int 1, .tup []]]) k3 (by rw [List.length_append]; exact Nat.lt_of_lt_of_le (by decide : 0 < 9) (Nat.le_refl 9)) (by rw [List.length_append]; exact (by decide : 9 ≤ 1000))
  refine ⟨d, b', ?_, hb', ⟨rfl, ?_⟩⟩
  · simp only [List.mem_append, List.mem_cons, List.not_mem_nil, or_false] at hd
    rcases hd with (rfl | rfl | rfl | rfl | rfl | rfl | rfl) | (rfl | rfl)
    · exact .inl ⟨_, by omega, rfl⟩
    · exact .inl ⟨_, by omega, rfl⟩
    · exact .inr (.inl rfl)
    · exact .inr (.inr (.inl rfl))
    · exact .inr (.inr (.inr (.inl rfl)))
    · exact .inr (.inr (.inr (.inr (.inl rfl))))
    · exact .inl ⟨_, by decide, rfl⟩
    · exact .inr (.inr (.inr (.inr (.inr (.inl ⟨_, by omega, rfl⟩)))))
    · exact .inr (.inr (.inr (.inr (.inr (.inr rfl)))))
  · refine call_ (take_c (by decide) (by decide) hb) ?_
    refine And.intro ⟨by decide, by decide, by decide⟩ ?_
    refine call_ (take_c (by decide) (by decide) k1) ?_
    refine And.intro (szk 7) ?_
    refine call_ (take_c (by decide) (by decide) k2) ?_
    refine And.intro (szk 3) ?_
    refine And.intro (szk 0) ?_
    refine And.intro (szk 2) ?_
    refine And.intro (szk 2) ?_
    refine And.intro (szk 9) ?_
    exact call_ hp (And.intro rfl rfl)
/-! what is known of values -/
theorem mem2 {P : D → Prop} {a b : D} (ha : P a) (hb : P b) : ∀ d ∈ [a, b], P d := fun d hd => by
  rcases List.mem_cons.mp hd with rfl | hd
  · exact ha
  · rcases List.mem_cons.mp hd with rfl | hd
    · exact hb
    · cases hd
theorem mem3v {P : D → Prop} {a b c : D} (ha : P a) (hb : P b) (hc : P c) : ∀ d ∈ [a, b, c], P d := fun d hd => by
  rcases List.mem_cons.mp hd with rfl | hd
  · exact ha
  · exact mem2 hb hc d hd
theorem rn_s {x : Str} (h : (PySem.reprText x).length ≤ 43) (hs : (PyData.str x).showable = true) : RN 0 43 (.str x) := ⟨rfl, hs, rfl, Nat.le_refl _, h⟩
theorem Vl.rn {d : D} (h : Vl d) : RN 2 200 d := by
  rcases h with ⟨n, hn, rfl⟩ | rfl | rfl | rfl | rfl | ⟨n, hn, rfl⟩ | rfl
  · exact (RN.int (n := 40) (by omega) (by decide)).mono (by decide) (by decide)
  · exact (rn_s (by decide +kernel) (by decide +kernel)).mono (by decide) (by decide)
  · exact (rn_s (by decide +kernel) (by decide +kernel)).mono (by decide) (by decide)
  · exact ⟨rfl, rfl, rfl, Nat.zero_le _, by decide⟩
  · exact ⟨rfl, rfl, rfl, Nat.zero_le _, by decide⟩
  · exact (RN.tup (k := 0) (w := 43) (m := 3) (mem3v (rn_s (by decide +kernel) (by decide +kernel)) (rn_s (by decide +kernel) (by decide +kernel)) (RN.int (n := 40) (by omega) (by decide))) (Nat.le_refl _)).mono (by decide) (by decide)
  · exact (RN.lst (k := 1) (w := 50) (m := 2) (mem2 ((RN.int (n := 40) (by decide) (by decide)).mono (by decide) (by decide)) ⟨rfl, by decide, rfl, by decide, by decide⟩) (Nat.le_refl _)).mono (by decide) (by decide)
theorem Vl.okn {d : D} (h : Vl d) : okN 2 d := by
  rcases h with ⟨n, hn, rfl⟩ | rfl | rfl | rfl | rfl | ⟨n, hn, rfl⟩ | rfl
  · exact ⟨rfl, by simp [D.py, PyData.canLay0], Nat.zero_le _⟩
  · exact ⟨rfl, by decide +kernel, Nat.zero_le _⟩
  · exact ⟨rfl, by decide +kernel, Nat.zero_le _⟩
  · exact ⟨rfl, by decide +kernel, Nat.zero_le _⟩
  · exact ⟨rfl, by decide +kernel, Nat.zero_le _⟩
  · have e := okl_all (k := 0) (xs := [.str "cell", .str "A", .int n]) (mem3v ⟨rfl, by decide +kernel, Nat.zero_le _⟩ ⟨rfl, by decide +kernel, Nat.zero_le _⟩ ⟨rfl, by simp [D.py, PyData.canLay0], Nat.zero_le _⟩)
    refine ⟨e.1, ?_, ?_⟩
    · show PyData.canLay0 (.tuple (D.pys _)) = true
      simpa [PyData.canLay0] using e.2.1
    · show PyData.depth (.tuple (D.pys _)) ≤ 2
      simp only [PyData.depth]
      have := e.2.2
      omega
  · exact ⟨rfl, by decide +kernel, by decide +kernel⟩
theorem vl_ok {ds : List D} (h : ∀ d ∈ ds, Vl d) : okD (.lst ds) = true := ok_lst (k := 2) (fun d hd => (h d hd).okn) (by decide)
theorem vl_rn {ds : List D} (h : ∀ d ∈ ds, Vl d) (hl : ds.length ≤ 100) : RN 3 20203 (.lst ds) := (RN.lst (m := 100) (w := 200) (k := 2) (fun d hd => (h d hd).rn) hl)
section
variable {cs : List Cell} {R : RV} {s : Sl} {d : D} {ds : List D}
/-- repr of a list of values -/
theorem rep_l (h : Ls cs s ds) (hv : ∀ d ∈ ds, Vl d) (hl : ds.length ≤ 100) (q : R (.dat (.str (rprD (.lst ds)))) cs) : liWC reprLW [s] cs R := by
  obtain ⟨s', d, e⟩ := h
  refine ⟨[s'], .cons d .nil, ?_⟩
  unfold reprLW
  dsimp only
  rw [e]
  exact ⟨(vl_rn hv hl).ok (by decide), (vl_rn hv hl).len (by decide), rw_ (P := R (.dat (.str (rprD (.lst ds))))) q⟩
/-- repr of a value -/
theorem rep_v (h : Vl d) : ∃ t : Str, ∀ (cs : List Cell) (R : RV), R (.dat (.str t)) cs → liWC reprLW [.dat d] cs R := by
  have hr := h.rn
  rcases h with ⟨n, hn, rfl⟩ | rfl | rfl | rfl | rfl | ⟨n, hn, rfl⟩ | rfl
  · refine ⟨_, fun cs R q => li1 (s2 := .dat (.str (toString n))) (fun Q q => ?_) q⟩
    refine And.intro ?_ q
    rcases Nat.eq_zero_or_pos n.natAbs with z | z
    · rw [z]; decide
    · exact Nat.lt_trans ((Nat.log2_lt (k := 40) (by omega)).mpr (by omega)) (by decide)
  · exact ⟨_, fun cs R q => li1 (s2 := .dat (.str (PySem.reprText ""))) (fun Q q => And.intro (sz (by decide +kernel)) q) q⟩
  · exact ⟨_, fun cs R q => li1 (s2 := .dat (.str (PySem.reprText "cell"))) (fun Q q => And.intro (sz (by decide +kernel)) q) q⟩
  · exact ⟨_, fun cs R q => li1 (s2 := .dat (.str (Str.ofString "None"))) (fun Q q => q) q⟩
  · exact ⟨_, fun cs R q => li1 (s2 := .dat (.str (blS true))) (fun Q q => q) q⟩
  · exact ⟨_, fun cs R q => li1 (s2 := .dat (.str (rprD (.tup [.str "cell", .str "A", .int n])))) (fun Q q => ⟨hr.ok (by decide), hr.len (by decide), q⟩) q⟩
  · exact ⟨_, fun cs R q => li1 (s2 := .dat (.str (rprD (.lst [.int 1, .tup []])))) (fun Q q => ⟨hr.ok (by decide), hr.len (by decide), q⟩) q⟩
theorem rep_i {n : Nat} (h : n ≤ 1000) (q : R (.dat (.str (toString (n : Int)))) cs) : liWC reprLW [.dat (.int n)] cs R := li1 (s2 := .dat (.str (toString (n : Int)))) (fun Q q => And.intro (by
  rcases Nat.eq_zero_or_pos (n : Int).natAbs with z | z
  · rw [z]; decide
  · exact Nat.lt_trans ((Nat.log2_lt (k := 10) (by omega)).mpr (show (n : Int).natAbs < 2 ^ 10 by omega)) (by decide)) q) q
end

/-! ### states: what they hold, as data -/
structure Sd where
  n : Nat
  A : List D
  B : List D
  C : List D
  r : D
  s : D
  t : D
  i : Int
  j : Int
def kcon (d : Sd) : List (Key × D) := [(.inr "A", .lst d.A), (.inr "B", .lst d.B), (.inr "C", .lst d.C)]
def khel (d : Sd) : List (Key × D) := [(.inr "r", d.r), (.inr "s", d.s), (.inr "t", d.t)]
def koff (d : Sd) : List (Key × D) := [(.inr "i", .int d.i), (.inr "j", .int d.j)]
def know (d : Sd) : List (Key × D) := [(.inr "n", .int d.n), (.inr "i", .int d.i), (.inr "j", .int d.j), (.inr "r", d.r), (.inr "s", d.s), (.inr "t", d.t), (.inr "A", .lst d.A), (.inr "B", .lst d.B), (.inr "C", .lst d.C)]
inductive Na where | A | B | C
inductive Nr where | r | s | t
inductive No where | i | j
def Na.str : Na → Str | .A => "A" | .B => "B" | .C => "C"
def Nr.str : Nr → Str | .r => "r" | .s => "s" | .t => "t"
def No.str : No → Str | .i => "i" | .j => "j"
def Sd.a (d : Sd) : Na → List D | .A => d.A | .B => d.B | .C => d.C
def Sd.h (d : Sd) : Nr → D | .r => d.r | .s => d.s | .t => d.t
def Sd.o (d : Sd) : No → Int | .i => d.i | .j => d.j
def Sd.putA (d : Sd) (l : List D) : Na → Sd | .A => { d with A := l } | .B => { d with B := l } | .C => { d with C := l }
def Sd.putH (d : Sd) (v : D) : Nr → Sd | .r => { d with r := v } | .s => { d with s := v } | .t => { d with t := v }
def Sd.putO (d : Sd) (k : Int) : No → Sd | .i => { d with i := k } | .j => { d with j := k }
theorem kcon_get (d : Sd) (x : Na) : getK (kcon d) (.inr x.str) = some (.lst (d.a x)) := by cases x <;> kernel_rfl
theorem khel_get (d : Sd) (x : Nr) : getK (khel d) (.inr x.str) = some (d.h x) := by cases x <;> kernel_rfl
theorem koff_get (d : Sd) (x : No) : getK (koff d) (.inr x.str) = some (.int (d.o x)) := by cases x <;> kernel_rfl
theorem know_a (d : Sd) (x : Na) : getK (know d) (.inr x.str) = some (.lst (d.a x)) := by cases x <;> kernel_rfl
theorem know_h (d : Sd) (x : Nr) : getK (know d) (.inr x.str) = some (d.h x) := by cases x <;> kernel_rfl
theorem know_o (d : Sd) (x : No) : getK (know d) (.inr x.str) = some (.int (d.o x)) := by cases x <;> kernel_rfl
theorem know_n (d : Sd) : getK (know d) (.inr "n") = some (.int d.n) := by kernel_rfl
theorem kcon_put (d : Sd) (l : List D) (x : Na) : putD (kcon d) (.inr x.str) (.lst l) = kcon (d.putA l x) := by cases x <;> kernel_rfl
theorem khel_put (d : Sd) (v : D) (x : Nr) : putD (khel d) (.inr x.str) v = khel (d.putH v x) := by cases x <;> kernel_rfl
theorem koff_put (d : Sd) (k : Int) (x : No) : putD (koff d) (.inr x.str) (.int k) = koff (d.putO k x) := by cases x <;> kernel_rfl
theorem know_putA (d : Sd) (l : List D) (x : Na) : putD (know d) (.inr x.str) (.lst l) = know (d.putA l x) := by cases x <;> kernel_rfl
theorem know_putH (d : Sd) (v : D) (x : Nr) : putD (know d) (.inr x.str) v = know (d.putH v x) := by cases x <;> kernel_rfl
theorem know_putO (d : Sd) (k : Int) (x : No) : putD (know d) (.inr x.str) (.int k) = know (d.putO k x) := by cases x <;> kernel_rfl
theorem putA_h (d : Sd) (l : List D) (x : Na) : khel (d.putA l x) = khel d := by cases x <;> rfl
theorem putA_o (d : Sd) (l : List D) (x : Na) : koff (d.putA l x) = koff d := by cases x <;> rfl
theorem putA_n (d : Sd) (l : List D) (x : Na) : (d.putA l x).n = d.n := by cases x <;> rfl
theorem putH_a (d : Sd) (v : D) (x : Nr) : kcon (d.putH v x) = kcon d := by cases x <;> rfl
theorem putH_o (d : Sd) (v : D) (x : Nr) : koff (d.putH v x) = koff d := by cases x <;> rfl
theorem putH_n (d : Sd) (v : D) (x : Nr) : (d.putH v x).n = d.n := by cases x <;> rfl
theorem putO_a (d : Sd) (k : Int) (x : No) : kcon (d.putO k x) = kcon d := by cases x <;> rfl
theorem putO_h (d : Sd) (k : Int) (x : No) : khel (d.putO k x) = khel d := by cases x <;> rfl
theorem putO_n (d : Sd) (k : Int) (x : No) : (d.putO k x).n = d.n := by cases x <;> rfl
/-! the state at a -/
structure St (cs : List Cell) (a : Addr) (d : Sd) (o c h f : Nat) : Prop where
  ex : ∃ pc ph po : Addr, cs[o]? = some (.insA a 1 [("size", .int d.n), ("contents", .cls pc), ("held", .cls ph), ("offsets", .cls po)]) ∧
    cs[c]? = some (.dctA pc (kcon d)) ∧ cs[h]? = some (.dctA ph (khel d)) ∧ cs[f]? = some (.dctA po (koff d))
/-- the law's own at q -/
def Nq (cs : List Cell) (a : Addr) (d : Sd) (q : Nat) : Prop := cs[q]? = some (.dctA a (know d))
/-- cells that stay -/
def Kept (X : List Nat) (cs cs' : List Cell) : Prop := ∀ k c, k ∉ X → cs[k]? = some c → cs'[k]? = some c
section
variable {cs cs' ts : List Cell} {a b : Addr} {d d' : Sd} {o c h f q o2 c2 h2 f2 : Nat} {X : List Nat}
theorem St.kept (s : St cs a d o c h f) (k : Kept X cs cs') (h1 : o ∉ X) (h2 : c ∉ X) (h3 : h ∉ X) (h4 : f ∉ X) : St cs' a d o c h f := by
  obtain ⟨pc, ph, po, e1, e2, e3, e4⟩ := s.ex
  exact ⟨pc, ph, po, k _ _ h1 e1, k _ _ h2 e2, k _ _ h3 e3, k _ _ h4 e4⟩
theorem Kept.app : Kept X cs (cs ++ ts) := fun k c _ e => by rw [List.getElem?_append_left (List.getElem?_eq_some_iff.mp e).1]; exact e
theorem Kept.refl : Kept X cs cs := fun _ _ _ e => e
theorem Kept.trans {cs2 : List Cell} (x : Kept X cs cs') (y : Kept X cs' cs2) : Kept X cs cs2 := fun k c n e => y k c n (x k c n e)
theorem Kept.set {k : Nat} {v : Cell} (hk : k ∈ X) : Kept X cs (cs.set k v) := fun j c n e => by
  rw [List.getElem?_set_ne (fun z => n (by rw [← z]; exact hk))]
  exact e
theorem Kept.mono {Y : List Nat} (x : Kept X cs cs') (h : ∀ k ∈ X, k ∈ Y) : Kept Y cs cs' := fun k c n e => x k c (fun z => n (h k z)) e
theorem St.app (s : St cs a d o c h f) : St (cs ++ ts) a d o c h f := s.kept (X := []) Kept.app (by simp) (by simp) (by simp) (by simp)
theorem Nq.app (s : Nq cs a d q) : Nq (cs ++ ts) a d q := Kept.app (X := []) _ _ (by simp) s
theorem St.lt (s : St cs a d o c h f) : o < cs.length ∧ c < cs.length ∧ h < cs.length ∧ f < cs.length := by
  obtain ⟨pc, ph, po, e1, e2, e3, e4⟩ := s.ex
  exact ⟨(List.getElem?_eq_some_iff.mp e1).1, (List.getElem?_eq_some_iff.mp e2).1, (List.getElem?_eq_some_iff.mp e3).1, (List.getElem?_eq_some_iff.mp e4).1⟩
theorem St.ne (s : St cs a d o c h f) : (o ≠ c ∧ o ≠ h ∧ o ≠ f) ∧ c ≠ h ∧ c ≠ f ∧ h ≠ f := by
  obtain ⟨pc, ph, po, e1, e2, e3, e4⟩ := s.ex
  refine ⟨⟨fun z => ?_, fun z => ?_, fun z => ?_⟩, fun z => ?_, fun z => ?_, fun z => ?_⟩
  · rw [z, e2] at e1; cases e1
  · rw [z, e3] at e1; cases e1
  · rw [z, e4] at e1; cases e1
  · rw [z, e3] at e2
    have e : kcon d = khel d := by injection e2 with e2; injection e2 with _ e; exact e.symm
    have this : ([.inr "A", .inr "B", .inr "C"] : List Key) = [.inr "r", .inr "s", .inr "t"] := congrArg (List.map (Prod.fst (α := Key) (β := D))) e
    exact absurd this (by decide +kernel)
  · rw [z, e4] at e2
    have e : kcon d = koff d := by injection e2 with e2; injection e2 with _ e; exact e.symm
    have this : (3 : Nat) = 2 := congrArg List.length e
    exact absurd this (by decide)
  · rw [z, e4] at e3
    have e : khel d = koff d := by injection e3 with e3; injection e3 with _ e; exact e.symm
    have this : (3 : Nat) = 2 := congrArg List.length e
    exact absurd this (by decide)
end

/-! ### a state's parts read -/
theorem fvs_str : ∀ xs : List Str, fvs (xs.map D.str) = some (xs.map V.str)
  | [] => rfl
  | x :: xs => by
    show ((fv (.str x)).bind fun v => (fvs (xs.map D.str)).map (v :: ·)) = _
    rw [fvs_str xs]
    rfl
section
variable {cs cs' ts : List Cell} {a b r : Addr} {d d' : Sd} {i j o c h f q : Nat} {R : RV} {Rx : RX} {ds : List D} {v : D}
theorem St.ref (s : St cs a d o c h f) : isRf 1 (.dat (.cls a)) cs := by
  obtain ⟨pc, ph, po, e1, e2, e3, e4⟩ := s.ex
  exact ⟨a, o, _, rfl, e1, trivial⟩
theorem tin {x : Str} {xs : List Str} {b : Bool} (hb : (false.xor (inV (V.str x) (xs.map V.str))) = b) (q : R (.dat (.bl b)) cs) : liW2 (selW PDc (inDW false) (inW' false)) (.dat (.str x)) (.dat (.tup (xs.map D.str))) cs R := by
  refine li2 (s3 := .dat (.bl b)) (fun Q q => ?_) q
  show (match fv (.str x), fvs (xs.map D.str) with
    | some v, some ws => Q (.dat (.bl (false.xor (inV v ws)))) (cs.map vwC)
    | _, _ => False)
  rw [fvs_str]
  show Q (.dat (.bl (false.xor (inV (V.str x) (xs.map V.str))))) (cs.map vwC)
  rw [hb]
  exact q
theorem in_aa (x : Na) : (false.xor (inV (V.str x.str) ((["A", "B", "C"] : List Str).map V.str))) = true := by cases x <;> decide +kernel
theorem in_ha (x : Nr) : (false.xor (inV (V.str x.str) ((["A", "B", "C"] : List Str).map V.str))) = false := by cases x <;> decide +kernel
theorem in_oa (x : No) : (false.xor (inV (V.str x.str) ((["A", "B", "C"] : List Str).map V.str))) = false := by cases x <;> decide +kernel
theorem in_hh (x : Nr) : (false.xor (inV (V.str x.str) ((["r", "s", "t"] : List Str).map V.str))) = true := by cases x <;> decide +kernel
theorem in_oh (x : No) : (false.xor (inV (V.str x.str) ((["r", "s", "t"] : List Str).map V.str))) = false := by cases x <;> decide +kernel
theorem in_oo (x : No) : (false.xor (inV (V.str x.str) ((["i", "j"] : List Str).map V.str))) = true := by cases x <;> decide +kernel
/-- none of the names -/
def NoN (x : Str) : Prop := (false.xor (inV (V.str x) ((["A", "B", "C"] : List Str).map V.str))) = false ∧ (false.xor (inV (V.str x) ((["r", "s", "t"] : List Str).map V.str))) = false ∧ (false.xor (inV (V.str x) ((["i", "j"] : List Str).map V.str))) = false
/-! attributes -/
theorem fld_size {P : D → Prop} (s : St cs a d o c h f) (q : P (.int d.n)) : refI 1 (.dat (.cls a)) cs fun _ _ fs => ∃ e, fs.lookup ("size" : Str) = some e ∧ P e := by
  obtain ⟨pc, ph, po, e1, e2, e3, e4⟩ := s.ex
  exact ⟨a, o, _, rfl, e1, _, rfl, q⟩
theorem fld_con {P : D → Prop} (s : St cs a d o c h f) (q : ∀ pc : Addr, cs[c]? = some (.dctA pc (kcon d)) → P (.cls pc)) : refI 1 (.dat (.cls a)) cs fun _ _ fs => ∃ e, fs.lookup ("contents" : Str) = some e ∧ P e := by
  obtain ⟨pc, ph, po, e1, e2, e3, e4⟩ := s.ex
  exact ⟨a, o, _, rfl, e1, _, by kernel_rfl, q pc e2⟩
theorem fld_hel {P : D → Prop} (s : St cs a d o c h f) (q : ∀ ph : Addr, cs[h]? = some (.dctA ph (khel d)) → P (.cls ph)) : refI 1 (.dat (.cls a)) cs fun _ _ fs => ∃ e, fs.lookup ("held" : Str) = some e ∧ P e := by
  obtain ⟨pc, ph, po, e1, e2, e3, e4⟩ := s.ex
  exact ⟨a, o, _, rfl, e1, _, by kernel_rfl, q ph e3⟩
theorem fld_off {P : D → Prop} (s : St cs a d o c h f) (q : ∀ po : Addr, cs[f]? = some (.dctA po (koff d)) → P (.cls po)) : refI 1 (.dat (.cls a)) cs fun _ _ fs => ∃ e, fs.lookup ("offsets" : Str) = some e ∧ P e := by
  obtain ⟨pc, ph, po, e1, e2, e3, e4⟩ := s.ex
  exact ⟨a, o, _, rfl, e1, _, by kernel_rfl, q po e4⟩
/-- a dict by its address -/
theorem kd_at {p : Addr} {k : Nat} {kds : List (Key × D)} {P : List (Key × D) → Prop} (e : cs[k]? = some (.dctA p kds)) (q : P kds) : kdA cs (.dat (.cls p)) P := by
  refine ⟨.cel k, kds, .de e rfl, ?_, q⟩
  have e' : (cs.map vwC)[k]? = some (.dct kds) := vw_at e
  show (match (cs.map vwC)[k]? with
    | some (.dct kds) => some kds
    | _ => none) = some kds
  rw [e']
theorem get_a (s : St cs a d o c h f) (x : Na) (h0 : 0 < (d.a x).length) (q : ∀ y p : Addr, R (.dat (.cls y)) (cs ++ [Cell.insA y 0 [("row", .cls p)], Cell.lstA p (d.a x)])) : c_State___getitem__ [.dat (.cls a), .dat (.str x.str)] cs R Rx := by
  refine ⟨rfl, (?_ : w_State___getitem__ _ ⟨[some (.dat (.cls a)), some (.dat (.str x.str))], cs⟩ (endGX R Rx))⟩
  unfold w_State___getitem__ wMakeAX wDgetA
  try dsimp only [wConsS, wNilS, wAsg, wTwo, wOne, wName, wCon, wCb, wCons, wNil, wRetG, wTag, wSlcA, wO0, wO1, wIfS, wBl, wFn, wFnG, wSetFA, wFldA, wMethA0, wNotT, wOrT, wAndV, Dl.wTru, wLst, wTup, wDats, dats, isB, wSubA, wSetA, wSetLA, wExpr, wPar2, par2, wPar3, par3, wItems, itemsW, wRng1, wFor, endG, List.set_cons_zero, List.set_cons_succ, List.getElem?_cons_zero, List.getElem?_cons_succ, Option.map_some]
  refine tin (in_aa x) ?_
  refine Br.tt rfl ?_
  refine fld_con s fun pc e => ?_
  refine kd_at e ⟨_, _, rfl, kcon_get d x, ?_⟩
  refine ⟨rfl, rfl, ?_⟩
  exact make_c (.inl ls_d) h0 q
theorem get_h (s : St cs a d o c h f) (x : Nr) (q : R (.dat (d.h x)) cs) : c_State___getitem__ [.dat (.cls a), .dat (.str x.str)] cs R Rx := by
  refine ⟨rfl, (?_ : w_State___getitem__ _ ⟨[some (.dat (.cls a)), some (.dat (.str x.str))], cs⟩ (endGX R Rx))⟩
  unfold w_State___getitem__ wDgetA
  try dsimp only [wConsS, wNilS, wAsg, wTwo, wOne, wName, wCon, wCb, wCons, wNil, wRetG, wTag, wSlcA, wO0, wO1, wIfS, wBl, wFn, wFnG, wSetFA, wFldA, wMethA0, wNotT, wOrT, wAndV, Dl.wTru, wLst, wTup, wDats, dats, isB, wSubA, wSetA, wSetLA, wExpr, wPar2, par2, wPar3, par3, wItems, itemsW, wRng1, wFor, endG, List.set_cons_zero, List.set_cons_succ, List.getElem?_cons_zero, List.getElem?_cons_succ, Option.map_some]
  refine tin (in_ha x) ?_
  refine Br.ff rfl ?_
  refine tin (in_hh x) ?_
  refine Br.tt rfl ?_
  refine fld_hel s fun ph e => ?_
  exact kd_at e ⟨_, _, rfl, khel_get d x, q⟩
theorem get_o (s : St cs a d o c h f) (x : No) (q : R (.dat (.int (d.o x))) cs) : c_State___getitem__ [.dat (.cls a), .dat (.str x.str)] cs R Rx := by
  refine ⟨rfl, (?_ : w_State___getitem__ _ ⟨[some (.dat (.cls a)), some (.dat (.str x.str))], cs⟩ (endGX R Rx))⟩
  unfold w_State___getitem__ wDgetA
  try dsimp only [wConsS, wNilS, wAsg, wTwo, wOne, wName, wCon, wCb, wCons, wNil, wRetG, wTag, wSlcA, wO0, wO1, wIfS, wBl, wFn, wFnG, wSetFA, wFldA, wMethA0, wNotT, wOrT, wAndV, Dl.wTru, wLst, wTup, wDats, dats, isB, wSubA, wSetA, wSetLA, wExpr, wPar2, par2, wPar3, par3, wItems, itemsW, wRng1, wFor, endG, List.set_cons_zero, List.set_cons_succ, List.getElem?_cons_zero, List.getElem?_cons_succ, Option.map_some]
  refine tin (in_oa x) ?_
  refine Br.ff rfl ?_
  refine tin (in_oh x) ?_
  refine Br.ff rfl ?_
  refine tin (in_oo x) ?_
  refine Br.tt rfl ?_
  refine fld_off s fun po e => ?_
  exact kd_at e ⟨_, _, rfl, koff_get d x, q⟩
theorem get_no {x : Str} (n : NoN x) (q : Rx ⟨3, [.str x]⟩ cs) : c_State___getitem__ [.dat (.cls a), .dat (.str x)] cs R Rx := by
  refine ⟨rfl, (?_ : w_State___getitem__ _ ⟨[some (.dat (.cls a)), some (.dat (.str x))], cs⟩ (endGX R Rx))⟩
  unfold w_State___getitem__ wRaiseN
  try dsimp only [wConsS, wNilS, wAsg, wTwo, wOne, wName, wCon, wCb, wCons, wNil, wRetG, wTag, wSlcA, wO0, wO1, wIfS, wBl, wFn, wFnG, wSetFA, wFldA, wMethA0, wNotT, wOrT, wAndV, Dl.wTru, wLst, wTup, wDats, dats, isB, wSubA, wSetA, wSetLA, wExpr, wPar2, par2, wPar3, par3, wItems, itemsW, wRng1, wFor, endG, List.set_cons_zero, List.set_cons_succ, List.getElem?_cons_zero, List.getElem?_cons_succ, Option.map_some]
  refine tin n.1 ?_
  refine Br.ff rfl ?_
  refine tin n.2.1 ?_
  refine Br.ff rfl ?_
  refine tin n.2.2 ?_
  refine Br.ff rfl ?_
  exact ⟨rfl, q⟩
end

/-! ### a state set, made -/
section
variable {cs cs' ts : List Cell} {a b r pc ph po : Addr} {d d' : Sd} {i j o c h f q n : Nat} {R : RV} {Rx : RX} {ds l : List D} {v fill : D} {k m : Int}
theorem St.putA (s : St cs a d o c h f) (e : cs[c]? = some (.dctA pc (kcon d))) (x : Na) : St (cs.set c (.dctA pc (kcon (d.putA l x)))) a (d.putA l x) o c h f := by
  obtain ⟨pc', ph, po, e1, e2, e3, e4⟩ := s.ex
  obtain ⟨⟨n1, n2, n3⟩, n4, n5, n6⟩ := s.ne
  obtain ⟨_, lc, _, _⟩ := s.lt
  rw [e] at e2
  cases e2
  exact ⟨pc, ph, po, by rw [List.getElem?_set_ne (Ne.symm n1), putA_n]; exact e1, by rw [List.getElem?_set_self lc], by rw [List.getElem?_set_ne n4, putA_h]; exact e3, by rw [List.getElem?_set_ne n5, putA_o]; exact e4⟩
theorem St.putH (s : St cs a d o c h f) (e : cs[h]? = some (.dctA ph (khel d))) (x : Nr) : St (cs.set h (.dctA ph (khel (d.putH v x)))) a (d.putH v x) o c h f := by
  obtain ⟨pc, ph', po, e1, e2, e3, e4⟩ := s.ex
  obtain ⟨⟨n1, n2, n3⟩, n4, n5, n6⟩ := s.ne
  obtain ⟨_, _, lh, _⟩ := s.lt
  rw [e] at e3
  cases e3
  exact ⟨pc, ph, po, by rw [List.getElem?_set_ne (Ne.symm n2), putH_n]; exact e1, by rw [List.getElem?_set_ne (Ne.symm n4), putH_a]; exact e2, by rw [List.getElem?_set_self lh], by rw [List.getElem?_set_ne n6, putH_o]; exact e4⟩
theorem St.putO (s : St cs a d o c h f) (e : cs[f]? = some (.dctA po (koff d))) (x : No) : St (cs.set f (.dctA po (koff (d.putO k x)))) a (d.putO k x) o c h f := by
  obtain ⟨pc, ph, po', e1, e2, e3, e4⟩ := s.ex
  obtain ⟨⟨n1, n2, n3⟩, n4, n5, n6⟩ := s.ne
  obtain ⟨_, _, _, lf⟩ := s.lt
  rw [e] at e4
  cases e4
  exact ⟨pc, ph, po, by rw [List.getElem?_set_ne (Ne.symm n3), putO_n]; exact e1, by rw [List.getElem?_set_ne (Ne.symm n5), putO_a]; exact e2, by rw [List.getElem?_set_ne (Ne.symm n6), putO_h]; exact e3, by rw [List.getElem?_set_self lf]⟩
theorem k3_lt {α : Type} {x y z : α} : [x, y, z].length < sizeLine := Nat.lt_of_le_of_lt (show (3 : Nat) ≤ 3 from Nat.le_refl 3) (by decide)
theorem k2_lt {α : Type} {x y : α} : [x, y].length < sizeLine := Nat.lt_of_le_of_lt (show (2 : Nat) ≤ 3 by decide) (by decide)
theorem set_a (s : St cs a d o c h f) (x : Na) (g : Rg cs b r i j l) (hl : l.length = d.n) (h63 : l.length < 100000) (q : ∀ cs', Kept [c] cs cs' → cs'.length = cs.length → St cs' a (d.putA l x) o c h f → R (.dat .non) cs') : c_State___setitem__ [.dat (.cls a), .dat (.str x.str), .dat (.cls b)] cs R Rx := by
  refine ⟨rfl, (?_ : w_State___setitem__ _ ⟨[some (.dat (.cls a)), some (.dat (.str x.str)), some (.dat (.cls b))], cs⟩ (endGX R Rx))⟩
  unfold w_State___setitem__ wSetDA
  try dsimp only [wConsS, wNilS, wAsg, wTwo, wOne, wName, wCon, wCb, wCons, wNil, wRetG, wTag, wSlcA, wO0, wO1, wIfS, wBl, wFn, wFnG, wSetFA, wFldA, wMethA0, wNotT, wOrT, wAndV, Dl.wTru, wLst, wTup, wDats, dats, isB, wSubA, wSetA, wSetLA, wExpr, wPar2, par2, wPar3, par3, wItems, itemsW, wRng1, wFor, endG, List.set_cons_zero, List.set_cons_succ, List.getElem?_cons_zero, List.getElem?_cons_succ, Option.map_some]
  refine tin (in_aa x) ?_
  refine Br.tt rfl ?_
  refine .inl ⟨_, l.length, rfl, g.ref, ?_, ⟨by omega, by omega⟩, ?_⟩
  · exact len_c g ⟨rfl, rfl⟩
  refine fld_size s ?_
  rw [hl]
  refine leqI ?_
  refine Br.ff (by simp) ?_
  refine And.intro (met_c g (by decide)) ?_
  refine cells_d g ?_
  refine fld_con s fun pc e => ?_
  refine ⟨pc, c, kcon d, _, .lst l, ⟨rfl, rfl, rfl⟩, e, k3_lt, ?_⟩
  rw [kcon_put]
  exact q _ (Kept.set (List.mem_singleton.mpr rfl)) (by rw [List.length_set]) (s.putA e x)
theorem set_as (s : St cs a d o c h f) (x : Na) (g : Rg cs b r i j l) (hl : l.length ≠ d.n) (h63 : l.length < 100000) (q : Rx ⟨2, [.int l.length]⟩ cs) : c_State___setitem__ [.dat (.cls a), .dat (.str x.str), .dat (.cls b)] cs R Rx := by
  refine ⟨rfl, (?_ : w_State___setitem__ _ ⟨[some (.dat (.cls a)), some (.dat (.str x.str)), some (.dat (.cls b))], cs⟩ (endGX R Rx))⟩
  unfold w_State___setitem__ wRaise1
  try dsimp only [wConsS, wNilS, wAsg, wTwo, wOne, wName, wCon, wCb, wCons, wNil, wRetG, wTag, wSlcA, wO0, wO1, wIfS, wBl, wFn, wFnG, wSetFA, wFldA, wMethA0, wNotT, wOrT, wAndV, Dl.wTru, wLst, wTup, wDats, dats, isB, wSubA, wSetA, wSetLA, wExpr, wPar2, par2, wPar3, par3, wItems, itemsW, wRng1, wFor, endG, List.set_cons_zero, List.set_cons_succ, List.getElem?_cons_zero, List.getElem?_cons_succ, Option.map_some]
  refine tin (in_aa x) ?_
  refine Br.tt rfl ?_
  refine .inl ⟨_, l.length, rfl, g.ref, ?_, ⟨by omega, by omega⟩, ?_⟩
  · exact len_c g ⟨rfl, rfl⟩
  refine fld_size s ?_
  refine leqI ?_
  refine Br.tt (by rw [decide_eq_false (by omega)]; rfl) ?_
  refine .inl ⟨_, l.length, rfl, g.ref, ?_, ⟨by omega, by omega⟩, ?_⟩
  · exact len_c g ⟨rfl, rfl⟩
  exact q
theorem set_h (s : St cs a d o c h f) (x : Nr) (q : ∀ cs', Kept [h] cs cs' → cs'.length = cs.length → St cs' a (d.putH v x) o c h f → R (.dat .non) cs') : c_State___setitem__ [.dat (.cls a), .dat (.str x.str), .dat v] cs R Rx := by
  refine ⟨rfl, (?_ : w_State___setitem__ _ ⟨[some (.dat (.cls a)), some (.dat (.str x.str)), some (.dat v)], cs⟩ (endGX R Rx))⟩
  unfold w_State___setitem__ wSetDA
  try dsimp only [wConsS, wNilS, wAsg, wTwo, wOne, wName, wCon, wCb, wCons, wNil, wRetG, wTag, wSlcA, wO0, wO1, wIfS, wBl, wFn, wFnG, wSetFA, wFldA, wMethA0, wNotT, wOrT, wAndV, Dl.wTru, wLst, wTup, wDats, dats, isB, wSubA, wSetA, wSetLA, wExpr, wPar2, par2, wPar3, par3, wItems, itemsW, wRng1, wFor, endG, List.set_cons_zero, List.set_cons_succ, List.getElem?_cons_zero, List.getElem?_cons_succ, Option.map_some]
  refine tin (in_ha x) ?_
  refine Br.ff rfl ?_
  refine tin (in_hh x) ?_
  refine Br.tt rfl ?_
  refine fld_hel s fun ph e => ?_
  refine ⟨ph, h, khel d, _, v, ⟨rfl, rfl, rfl⟩, e, k3_lt, ?_⟩
  rw [khel_put]
  exact q _ (Kept.set (List.mem_singleton.mpr rfl)) (by rw [List.length_set]) (s.putH e x)
theorem set_o (s : St cs a d o c h f) (x : No) (hn : 0 < d.n) (q : ∀ cs', Kept [f] cs cs' → cs'.length = cs.length → St cs' a (d.putO (k % (d.n : Int)) x) o c h f → R (.dat .non) cs') : c_State___setitem__ [.dat (.cls a), .dat (.str x.str), .dat (.int k)] cs R Rx := by
  refine ⟨rfl, (?_ : w_State___setitem__ _ ⟨[some (.dat (.cls a)), some (.dat (.str x.str)), some (.dat (.int k))], cs⟩ (endGX R Rx))⟩
  unfold w_State___setitem__ wSetDA
  try dsimp only [wConsS, wNilS, wAsg, wTwo, wOne, wName, wCon, wCb, wCons, wNil, wRetG, wTag, wSlcA, wO0, wO1, wIfS, wBl, wFn, wFnG, wSetFA, wFldA, wMethA0, wNotT, wOrT, wAndV, Dl.wTru, wLst, wTup, wDats, dats, isB, wSubA, wSetA, wSetLA, wExpr, wPar2, par2, wPar3, par3, wItems, itemsW, wRng1, wFor, endG, List.set_cons_zero, List.set_cons_succ, List.getElem?_cons_zero, List.getElem?_cons_succ, Option.map_some]
  refine tin (in_oa x) ?_
  refine Br.ff rfl ?_
  refine tin (in_oh x) ?_
  refine Br.ff rfl ?_
  refine tin (in_oo x) ?_
  refine Br.tt rfl ?_
  refine fld_size s ?_
  refine lmod (show (0 : Int) < (d.n : Int) by omega) ?_
  refine fld_off s fun po e => ?_
  refine ⟨po, f, koff d, _, .int (k % (d.n : Int)), ⟨rfl, rfl, rfl⟩, e, k2_lt, ?_⟩
  rw [koff_put]
  exact q _ (Kept.set (List.mem_singleton.mpr rfl)) (by rw [List.length_set]) (s.putO e x)
theorem set_no {x : Str} {s1 : Sl} (n : NoN x) (q : Rx ⟨3, [.str x]⟩ cs) : c_State___setitem__ [.dat (.cls a), .dat (.str x), s1] cs R Rx := by
  refine ⟨rfl, (?_ : w_State___setitem__ _ ⟨[some (.dat (.cls a)), some (.dat (.str x)), some s1], cs⟩ (endGX R Rx))⟩
  unfold w_State___setitem__ wRaiseN
  try dsimp only [wConsS, wNilS, wAsg, wTwo, wOne, wName, wCon, wCb, wCons, wNil, wRetG, wTag, wSlcA, wO0, wO1, wIfS, wBl, wFn, wFnG, wSetFA, wFldA, wMethA0, wNotT, wOrT, wAndV, Dl.wTru, wLst, wTup, wDats, dats, isB, wSubA, wSetA, wSetLA, wExpr, wPar2, par2, wPar3, par3, wItems, itemsW, wRng1, wFor, endG, List.set_cons_zero, List.set_cons_succ, List.getElem?_cons_zero, List.getElem?_cons_succ, Option.map_some]
  refine tin n.1 ?_
  refine Br.ff rfl ?_
  refine tin n.2.1 ?_
  refine Br.ff rfl ?_
  refine tin n.2.2 ?_
  refine Br.ff rfl ?_
  exact ⟨rfl, q⟩
end

/-! ### a state made -/
theorem wN_i {i : Nat} {sl : Sls} {cs : List Cell} {R : RV} {Rx : RX} {s : Sl} (e : sl[i]? = some (some s)) (h : R s cs) : wName i sl cs R Rx := by unfold wName; rw [e]; exact h
theorem flat_one {n : Nat} {v : D} : (List.replicate n [v]).flatten = List.replicate n v := by
  induction n with
  | zero => rfl
  | succ n ih => rw [List.replicate_succ, List.flatten_cons, ih]; rfl
/-- all places and registers alike -/
def fillD (n : Nat) (i j : Int) (v : D) : Sd := ⟨n, List.replicate n v, List.replicate n v, List.replicate n v, v, v, v, i % (n : Int), j % (n : Int)⟩
/-- contents that are all different -/
def celL (n : Nat) (x : Str) : List D := (List.range n).map fun k : Nat => .tup [.str "cell", .str x, .int (k : Int)]
def freeD (n : Nat) (i j : Int) : Sd := ⟨n, celL n "A", celL n "B", celL n "C", .tup [.str "start", .str "r"], .tup [.str "start", .str "s"], .tup [.str "start", .str "t"], i % (n : Int), j % (n : Int)⟩
section
variable {cs cs' ts : List Cell} {a b r pc ph po : Addr} {d d' : Sd} {i j o c h f q n : Nat} {R : RV} {Rx : RX} {ds l : List D} {v fill : D} {k m : Int}
/-- what a new state is -/
def NewS (cs : List Cell) (d : Sd) (R : RV) : Prop := ∀ (x : Addr) (cs' : List Cell) (o c h f : Nat), Kept [] cs cs' → St cs' x d o c h f → (cs.length ≤ o ∧ cs.length ≤ c ∧ cs.length ≤ h ∧ cs.length ≤ f) → R (.dat (.cls x)) cs'
theorem dc_i {p : Pat} {wk wv : WpE} {sl sl' : Sls} {e : D} {es : List D} {acc : List (Key × D)} {R : List (Key × D) → List Cell → Prop} (h : asgP p e sl = some sl') (q : wk sl' cs (fun s1 c2 => wv sl' c2 (fun s2 c3 => isKey s1 fun k => isDat s2 fun e => dcW p wYes wk wv sl es (putD acc k e) c3 R) noX) noX) : dcW p wYes wk wv sl (e :: es) acc cs R := asgW_i h (Br.tt rfl q)
/-- {name: .. for name in ARRAYS} -/
theorem dc_con {wv : WpE} {sl : Sls} {i : Nat} {R : List (Key × D) → List Cell → Prop} (v : Na → List D) (hi : ∀ e : D, (sl.set i (some (.dat e)))[i]? = some (some (.dat e))) (hw : ∀ (x : Na) (Q : RV), Q (.dat (.lst (v x))) cs → wv (sl.set i (some (.dat (.str x.str)))) cs Q noX) (q : R [(.inr "A", .lst (v .A)), (.inr "B", .lst (v .B)), (.inr "C", .lst (v .C))] cs) : dcW (.nm i) wYes (wName i) wv sl (([("A" : Str), "B", "C"] : List Str).map D.str) [] cs R := by
  refine dc_i rfl (wN_i (hi _) (hw .A _ ?_))
  show dcW (.nm i) wYes (wName i) wv sl [D.str "B", D.str "C"] (putD [] (.inr "A") (D.lst (v .A))) cs R
  refine dc_i rfl (wN_i (hi _) (hw .B _ ?_))
  show dcW (.nm i) wYes (wName i) wv sl [D.str "C"] (putD (putD [] (.inr "A") (D.lst (v .A))) (.inr "B") (D.lst (v .B))) cs R
  refine dc_i rfl (wN_i (hi _) (hw .C _ ?_))
  show R (putD (putD (putD [] (.inr "A") (D.lst (v .A))) (.inr "B") (D.lst (v .B))) (.inr "C") (D.lst (v .C))) cs
  rw [show putD (putD (putD [] (.inr "A") (D.lst (v .A))) (.inr "B") (D.lst (v .B))) (.inr "C") (D.lst (v .C)) = [(.inr "A", (D.lst (v .A))), (.inr "B", (D.lst (v .B))), (.inr "C", (D.lst (v .C)))] by kernel_rfl]
  exact q
theorem dc_hel {wv : WpE} {sl : Sls} {i : Nat} {R : List (Key × D) → List Cell → Prop} (v : Nr → D) (hi : ∀ e : D, (sl.set i (some (.dat e)))[i]? = some (some (.dat e))) (hw : ∀ (x : Nr) (Q : RV), Q (.dat (v x)) cs → wv (sl.set i (some (.dat (.str x.str)))) cs Q noX) (q : R [(.inr "r", v .r), (.inr "s", v .s), (.inr "t", v .t)] cs) : dcW (.nm i) wYes (wName i) wv sl (([("r" : Str), "s", "t"] : List Str).map D.str) [] cs R := by
  refine dc_i rfl (wN_i (hi _) (hw .r _ ?_))
  show dcW (.nm i) wYes (wName i) wv sl [D.str "s", D.str "t"] (putD [] (.inr "r") (v .r)) cs R
  refine dc_i rfl (wN_i (hi _) (hw .s _ ?_))
  show dcW (.nm i) wYes (wName i) wv sl [D.str "t"] (putD (putD [] (.inr "r") (v .r)) (.inr "s") (v .s)) cs R
  refine dc_i rfl (wN_i (hi _) (hw .t _ ?_))
  show R (putD (putD (putD [] (.inr "r") (v .r)) (.inr "s") (v .s)) (.inr "t") (v .t)) cs
  rw [show putD (putD (putD [] (.inr "r") (v .r)) (.inr "s") (v .s)) (.inr "t") (v .t) = [(.inr "r", (v .r)), (.inr "s", (v .s)), (.inr "t", (v .t))] by kernel_rfl]
  exact q
theorem set_lt {k : Nat} {v : Cell} (h : k < cs.length) : k < (cs.set o v).length := by rw [List.length_set]; exact h
theorem tag_d {kds : List (Key × D)} (q : ∀ p : Addr, R (.dat (.cls p)) (cs ++ [.dctA p kds])) : tagW (.cel cs.length) (cs ++ [.dct kds]) R := tag_new rfl q
theorem init_s (ho : cs[o]? = some (.insA a 1 [])) (h0 : 0 < n) (hn : n ≤ 1000) (q : ∀ cs' c h f, Kept [o] cs cs' → St cs' a (fillD n k m v) o c h f → (cs.length ≤ c ∧ cs.length ≤ h ∧ cs.length ≤ f) → R (.dat .non) cs') : c_State___init__ [.dat (.cls a), .dat (.int n), .dat (.int k), .dat (.int m), .dat v] cs R Rx := by
  have hol := (List.getElem?_eq_some_iff.mp ho).1
  refine ⟨rfl, (?_ : w_State___init__ _ ⟨[some (.dat (.cls a)), some (.dat (.int n)), some (.dat (.int k)), some (.dat (.int m)), some (.dat v), none], cs⟩ (endGX R Rx))⟩
  unfold w_State___init__ wDcC wDisS
  try dsimp only [wConsS, wNilS, wAsg, wTwo, wOne, wName, wCon, wCb, wCons, wNil, wRetG, wTag, wSlcA, wO0, wO1, wIfS, wBl, wFn, wFnG, wSetFA, wFldA, wMethA0, wNotT, wOrT, wAndV, Dl.wTru, wLst, wTup, wDats, dats, isB, wSubA, wSetA, wSetLA, wExpr, wPar2, par2, wPar3, par3, wItems, itemsW, wRng1, wFor, endG, List.set_cons_zero, List.set_cons_succ, List.getElem?_cons_zero, List.getElem?_cons_succ, Option.map_some]
  refine li2 (s3 := .dat (.bl (decide ((n : Int) < 1)))) (fun Q q => q) ?_
  refine Br.ff (decide_eq_false (by omega)) ?_
  refine ⟨_, rfl, a, o, _, rfl, ho, by decide, ?_⟩
  refine ⟨k3_lt, ?_⟩
  generalize hI1 : putA "size" (.int n) [] = I1
  refine dc_con (fun _ => List.replicate n v) (fun _ => rfl) (fun x Q q => ?_) ?_
  · refine And.intro (szk 1) ?_
    refine li2 (s3 := .dat (.lst (List.replicate (n : Int).toNat [v]).flatten)) (fun Q q => And.intro ⟨by omega, by omega, sz ?_⟩ q) ?_
    · show 1 * (n : Int).toNat ≤ _
      omega
    · rw [Int.toNat_natCast, flat_one]
      exact q
  refine tag_d fun pc => ?_
  generalize hL1 : cs.set o (.insA a 1 I1) = L1
  have l1 : L1.length = cs.length := by rw [← hL1, List.length_set]
  have o1 : (L1 ++ [Cell.dctA pc [(.inr "A", .lst (List.replicate n v)), (.inr "B", .lst (List.replicate n v)), (.inr "C", .lst (List.replicate n v))]])[o]? = some (.insA a 1 I1) := by
    rw [List.getElem?_append_left (by omega), ← hL1, List.getElem?_set_self hol]
  refine ⟨_, rfl, a, o, _, rfl, o1, by rw [← hI1]; exact Nat.lt_of_le_of_lt (Nat.le_refl 1) (by decide), ?_⟩
  refine ⟨k3_lt, ?_⟩
  generalize hI2 : putA "contents" (.cls pc) I1 = I2
  refine dc_hel (fun _ => v) (fun _ => rfl) (fun x Q q => q) ?_
  refine tag_d fun ph => ?_
  generalize hL2 : (L1 ++ [Cell.dctA pc [(.inr "A", .lst (List.replicate n v)), (.inr "B", .lst (List.replicate n v)), (.inr "C", .lst (List.replicate n v))]]).set o (.insA a 1 I2) = L2
  have l2 : L2.length = cs.length + 1 := by rw [← hL2, List.length_set, List.length_append, l1]; rfl
  have o2 : (L2 ++ [Cell.dctA ph [(.inr "r", v), (.inr "s", v), (.inr "t", v)]])[o]? = some (.insA a 1 I2) := by
    rw [List.getElem?_append_left (by omega), ← hL2, List.getElem?_set_self (by rw [List.length_append]; omega)]
  refine ⟨_, rfl, a, o, _, rfl, o2, by rw [← hI2, ← hI1]; exact Nat.lt_of_le_of_lt (Nat.le_refl 2) (by decide), ?_⟩
  generalize hI3 : putA "held" (.cls ph) I2 = I3
  generalize hL3 : (L2 ++ [Cell.dctA ph [(.inr "r", v), (.inr "s", v), (.inr "t", v)]]).set o (.insA a 1 I3) = L3
  have l3 : L3.length = cs.length + 2 := by rw [← hL3, List.length_set, List.length_append, l2]; rfl
  refine lmod (show (0 : Int) < (n : Int) by omega) ?_
  refine lmod (show (0 : Int) < (n : Int) by omega) ?_
  refine ⟨rfl, rfl, ?_⟩
  refine tag_d fun po => ?_
  have o3 : (L3 ++ [Cell.dctA po (koff (fillD n k m v))])[o]? = some (.insA a 1 I3) := by
    rw [List.getElem?_append_left (by omega), ← hL3, List.getElem?_set_self (by rw [List.length_append]; omega)]
  refine ⟨_, rfl, a, o, _, rfl, o3, by rw [← hI3, ← hI2, ← hI1]; exact Nat.lt_of_le_of_lt (Nat.le_refl 3) (by decide), ?_⟩
  have hI4 : putA "offsets" (.cls po) I3 = ([("size", .int n), ("contents", .cls pc), ("held", .cls ph), ("offsets", .cls po)] : List (Str × D)) := by
    rw [← hI3, ← hI2, ← hI1]
    kernel_rfl
  rw [hI4]
  refine q _ cs.length (cs.length + 1) (cs.length + 2) (fun j x nj e => ?_) ⟨pc, ph, po, ?_, ?_, ?_, ?_⟩ ⟨by omega, by omega, by omega⟩
  · have nj : ¬ j = o := fun z => nj (by rw [z]; exact List.mem_singleton.mpr rfl)
    have lj := (List.getElem?_eq_some_iff.mp e).1
    rw [List.getElem?_set_ne (Ne.symm nj), List.getElem?_append_left (by omega), ← hL3, List.getElem?_set_ne (Ne.symm nj), List.getElem?_append_left (by omega), ← hL2, List.getElem?_set_ne (Ne.symm nj), List.getElem?_append_left (by omega), ← hL1, List.getElem?_set_ne (Ne.symm nj)]
    exact e
  · rw [List.getElem?_set_self (by rw [List.length_append]; omega)]
    rfl
  · rw [List.getElem?_set_ne (by omega), List.getElem?_append_left (by omega), ← hL3, List.getElem?_set_ne (by omega), List.getElem?_append_left (by omega), ← hL2, List.getElem?_set_ne (by omega), List.getElem?_append_right (by omega), l1, Nat.sub_self]
    rfl
  · rw [List.getElem?_set_ne (by omega), List.getElem?_append_left (by omega), ← hL3, List.getElem?_set_ne (by omega), List.getElem?_append_right (by omega), l2, Nat.sub_self]
    rfl
  · rw [List.getElem?_set_ne (by omega), List.getElem?_append_right (by omega), l3, Nat.sub_self]
    rfl
/-- a size below 1 -/
theorem inis_no {s1 s2 s3 : Sl} (hk : k < 1) (q : Rx ⟨2, [.int k]⟩ cs) : c_State___init__ [.dat (.cls a), .dat (.int k), s1, s2, s3] cs R Rx := by
  refine ⟨rfl, (?_ : w_State___init__ _ ⟨[some (.dat (.cls a)), some (.dat (.int k)), some s1, some s2, some s3, none], cs⟩ (endGX R Rx))⟩
  unfold w_State___init__ wRaise1
  try dsimp only [wConsS, wNilS, wAsg, wTwo, wOne, wName, wCon, wCb, wCons, wNil, wRetG, wTag, wSlcA, wO0, wO1, wIfS, wBl, wFn, wFnG, wSetFA, wFldA, wMethA0, wNotT, wOrT, wAndV, Dl.wTru, wLst, wTup, wDats, dats, isB, wSubA, wSetA, wSetLA, wExpr, wPar2, par2, wPar3, par3, wItems, itemsW, wRng1, wFor, endG, List.set_cons_zero, List.set_cons_succ, List.getElem?_cons_zero, List.getElem?_cons_succ, Option.map_some]
  refine li2 (s3 := .dat (.bl (decide (k < 1)))) (fun Q q => q) ?_
  exact Br.tt (decide_eq_true hk) q
theorem new_s (h0 : 0 < n) (hn : n ≤ 1000) (q : NewS cs (fillD n k m v) R) : makeAX 1 c_State___init__ [.int n, .int k, .int m, v] cs R Rx := fun x => by
  refine init_s (o := cs.length) (by rw [List.getElem?_append_right (Nat.le_refl _), Nat.sub_self]; rfl) h0 hn fun cs' c h f kp s hl => ⟨rfl, ?_⟩
  refine q x cs' _ c h f (fun j y _ e => ?_) s ?_
  · have lj := (List.getElem?_eq_some_iff.mp e).1
    exact kp j y (fun z => by have := List.mem_singleton.mp z; omega) (by rw [List.getElem?_append_left lj]; exact e)
  · rw [List.length_append] at hl
    exact ⟨Nat.le_refl _, by omega, by omega, by omega⟩
theorem new_no (hk : k < 1) {e1 e2 e3 : D} (q : ∀ ts, Rx ⟨2, [.int k]⟩ (cs ++ ts)) : makeAX 1 c_State___init__ [.int k, e1, e2, e3] cs R Rx := fun x => inis_no hk (q _)
end

/-! ### a free state, a copy -/
section
variable {cs cs' ts : List Cell} {a b r pc ph po : Addr} {d d' : Sd} {i j o c h f q n : Nat} {R : RV} {Rx : RX} {ds l : List D} {v fill : D} {k m : Int}
/-- another dict at contents, held, offsets -/
theorem St.newC {kds : List (Key × D)} (s : St cs a d o c h f) (e : kds = kcon d') (e1 : d'.n = d.n) (e2 : khel d' = khel d) (e3 : koff d' = koff d) (p : Addr) : ∃ fs, (cs ++ [Cell.dctA p kds])[o]? = some (.insA a 1 fs) ∧ fs.length < 1000 ∧ St ((cs ++ [Cell.dctA p kds]).set o (.insA a 1 (Dl.putA "contents" (.cls p) fs))) a d' o cs.length h f := by
  obtain ⟨pc, ph, po, g1, g2, g3, g4⟩ := s.ex
  obtain ⟨⟨n1, n2, n3⟩, n4, n5, n6⟩ := s.ne
  obtain ⟨lo, lc, lh, lf⟩ := s.lt
  refine ⟨_, by rw [List.getElem?_append_left lo]; exact g1, Nat.lt_of_le_of_lt (Nat.le_refl 4) (by decide), p, ph, po, ?_, ?_, ?_, ?_⟩
  · rw [List.getElem?_set_self (by rw [List.length_append]; omega), e1]
    kernel_rfl
  · rw [List.getElem?_set_ne (by omega), List.getElem?_append_right (Nat.le_refl _), Nat.sub_self, e]
    rfl
  · rw [List.getElem?_set_ne n2, List.getElem?_append_left lh, e2]; exact g3
  · rw [List.getElem?_set_ne n3, List.getElem?_append_left lf, e3]; exact g4
theorem St.newH {kds : List (Key × D)} (s : St cs a d o c h f) (e : kds = khel d') (e1 : d'.n = d.n) (e2 : kcon d' = kcon d) (e3 : koff d' = koff d) (p : Addr) : ∃ fs, (cs ++ [Cell.dctA p kds])[o]? = some (.insA a 1 fs) ∧ fs.length < 1000 ∧ St ((cs ++ [Cell.dctA p kds]).set o (.insA a 1 (Dl.putA "held" (.cls p) fs))) a d' o c cs.length f := by
  obtain ⟨pc, ph, po, g1, g2, g3, g4⟩ := s.ex
  obtain ⟨⟨n1, n2, n3⟩, n4, n5, n6⟩ := s.ne
  obtain ⟨lo, lc, lh, lf⟩ := s.lt
  refine ⟨_, by rw [List.getElem?_append_left lo]; exact g1, Nat.lt_of_le_of_lt (Nat.le_refl 4) (by decide), pc, p, po, ?_, ?_, ?_, ?_⟩
  · rw [List.getElem?_set_self (by rw [List.length_append]; omega), e1]
    kernel_rfl
  · rw [List.getElem?_set_ne n1, List.getElem?_append_left lc, e2]; exact g2
  · rw [List.getElem?_set_ne (by omega), List.getElem?_append_right (Nat.le_refl _), Nat.sub_self, e]
    rfl
  · rw [List.getElem?_set_ne n3, List.getElem?_append_left lf, e3]; exact g4
theorem St.newO {kds : List (Key × D)} (s : St cs a d o c h f) (e : kds = koff d') (e1 : d'.n = d.n) (e2 : kcon d' = kcon d) (e3 : khel d' = khel d) (p : Addr) : ∃ fs, (cs ++ [Cell.dctA p kds])[o]? = some (.insA a 1 fs) ∧ fs.length < 1000 ∧ St ((cs ++ [Cell.dctA p kds]).set o (.insA a 1 (Dl.putA "offsets" (.cls p) fs))) a d' o c h cs.length := by
  obtain ⟨pc, ph, po, g1, g2, g3, g4⟩ := s.ex
  obtain ⟨⟨n1, n2, n3⟩, n4, n5, n6⟩ := s.ne
  obtain ⟨lo, lc, lh, lf⟩ := s.lt
  refine ⟨_, by rw [List.getElem?_append_left lo]; exact g1, Nat.lt_of_le_of_lt (Nat.le_refl 4) (by decide), pc, ph, p, ?_, ?_, ?_, ?_⟩
  · rw [List.getElem?_set_self (by rw [List.length_append]; omega), e1]
    kernel_rfl
  · rw [List.getElem?_set_ne n1, List.getElem?_append_left lc, e2]; exact g2
  · rw [List.getElem?_set_ne n2, List.getElem?_append_left lh, e3]; exact g3
  · rw [List.getElem?_set_ne (by omega), List.getElem?_append_right (Nat.le_refl _), Nat.sub_self, e]
    rfl
theorem Kept.as (x : Kept [] cs cs') (ho : cs.length ≤ o) {y : Cell} {ts : List Cell} : Kept [] cs ((cs' ++ ts).set o y) := fun k c _ e => by
  have lk := (List.getElem?_eq_some_iff.mp e).1
  rw [List.getElem?_set_ne (by omega)]
  exact (x.trans Kept.app) k c (by simp) e
theorem Kept.len (x : Kept [] cs cs') : cs.length ≤ cs'.length := by
  rcases Nat.eq_zero_or_pos cs.length with z | z
  · omega
  · have e : cs[cs.length - 1]? = some cs[cs.length - 1] := List.getElem?_eq_getElem (by omega)
    have := (List.getElem?_eq_some_iff.mp (x _ _ (by simp) e)).1
    omega
theorem rngD_len {lo : Int} {n : Nat} : (rangeD lo n).length = n := by unfold rangeD; rw [List.length_map, List.length_range]
theorem cell_lc {i : Nat} {x : Str} {sl : Sls} {Q : List D → List Cell → Prop} (h1 : ∀ e : D, (sl.set 5 (some (.dat e)))[5]? = some (some (.dat e))) (h2 : ∀ e : D, (sl.set 5 (some (.dat e)))[6]? = some (some (.dat (.str x)))) (q : Q (celL n x) cs) : lcW (.nm 5) wYes (wTup (wCons (wCon (.str "cell")) (wCons (wName 6) (wCons (wName 5) wNil)))) sl (rangeD 0 n) cs Q := by
  refine lcW_map (fun i : Nat => D.int (0 + (i : Int))) (fun k : Nat => .tup [.str "cell", .str x, .int (k : Int)]) (fun k _ => ⟨_, rfl, fun R' hR => ?_⟩) q
  rw [Int.zero_add]
  unfold wTup wCons wCon
  refine wN_i (h2 _) ?_
  refine wN_i (h1 _) ?_
  exact And.intro (szk 3) hR
theorem free_s (h0 : 0 < n) (hn : n ≤ 1000) (q : NewS cs (freeD n k m) R) : c_State_free [.dat (.int n), .dat (.int k), .dat (.int m)] cs R Rx := fun C => by
  refine ⟨rfl, (?_ : w_State_free C _ ⟨[some (.dat (.cls C)), some (.dat (.int n)), some (.dat (.int k)), some (.dat (.int m)), none, none, none], cs⟩ (endGX R Rx))⟩
  unfold w_State_free wMakeAL wMakeAX wDcC
  try dsimp only [wConsS, wNilS, wAsg, wTwo, wOne, wName, wCon, wCb, wCons, wNil, wRetG, wTag, wSlcA, wO0, wO1, wIfS, wBl, wFn, wFnG, wSetFA, wFldA, wMethA0, wNotT, wOrT, wAndV, Dl.wTru, wLst, wTup, wDats, dats, isB, wSubA, wSetA, wSetLA, wExpr, wPar2, par2, wPar3, par3, wItems, itemsW, wRng1, wFor, endG, List.set_cons_zero, List.set_cons_succ, List.getElem?_cons_zero, List.getElem?_cons_succ, Option.map_some]
  refine ⟨rfl, rfl, rfl, ?_⟩
  refine new_s h0 hn fun x c1 o c h f kp s hl => ?_
  try dsimp only [wConsS, wNilS, wAsg, wTwo, wOne, wName, wCon, wCb, wCons, wNil, wRetG, wTag, wSlcA, wO0, wO1, wIfS, wBl, wFn, wFnG, wSetFA, wFldA, wMethA0, wNotT, wOrT, wAndV, Dl.wTru, wLst, wTup, wDats, dats, isB, wSubA, wSetA, wSetLA, wExpr, wPar2, par2, wPar3, par3, wItems, itemsW, wRng1, wFor, endG, List.set_cons_zero, List.set_cons_succ, List.getElem?_cons_zero, List.getElem?_cons_succ, Option.map_some]
  refine ⟨k3_lt, ?_⟩
  refine dc_con (fun y => celL n y.str) (fun _ => rfl) (fun y Q q => ?_) ?_
  · refine And.intro (show SmI (n : Int) by unfold SmI; omega) ?_
    refine And.intro (by rw [rngD_len]; exact Nat.lt_of_le_of_lt (show _ ≤ 1000 by omega) (by decide)) ?_
    rw [Int.toNat_natCast]
    exact cell_lc (i := 0) (fun _ => rfl) (fun _ => rfl) q
  refine tag_d fun pc => ?_
  obtain ⟨fs, e1, e2, s1⟩ := s.newC (d' := { fillD n k m .non with A := celL n "A", B := celL n "B", C := celL n "C" }) (kds := [(.inr "A", .lst (celL n "A")), (.inr "B", .lst (celL n "B")), (.inr "C", .lst (celL n "C"))]) rfl rfl rfl rfl pc
  refine ⟨_, rfl, x, o, fs, rfl, e1, e2, ?_⟩
  refine ⟨k3_lt, ?_⟩
  refine dc_hel (fun y => .tup [.str "start", .str y.str]) (fun _ => rfl) (fun y Q q => ?_) ?_
  · exact And.intro (szk 2) q
  refine tag_d fun ph => ?_
  obtain ⟨fs2, e3, e4, s2⟩ := s1.newH (d' := freeD n k m) (kds := [(.inr "r", .tup [.str "start", .str "r"]), (.inr "s", .tup [.str "start", .str "s"]), (.inr "t", .tup [.str "start", .str "t"])]) rfl rfl rfl rfl ph
  refine ⟨_, rfl, x, o, fs2, rfl, e3, e4, ?_⟩
  have kl := kp.len
  refine q x _ o c1.length (c1.length + 1) f ((kp.as hl.1).as hl.1) ?_ ⟨hl.1, kl, by omega, hl.2.2.2⟩
  rw [List.length_set, List.length_append] at s2
  exact s2
end

/-! ### a state copied -/
theorem rew_app' {cs ds : List Cell} {R : List Cell → Prop} (q : R (cs ++ ds)) : R (rew cs (cs.map vwC ++ ds)) := by rw [rew_app]; exact q
section
variable {cs cs' ts : List Cell} {a b r pc ph po : Addr} {d d' : Sd} {i j o c h f q n : Nat} {R : RV} {Rx : RX} {ds l : List D} {v fill : D} {k m : Int}
/-- dict(d), by its address -/
theorem dict_at {p : Addr} {k : Nat} {kds : List (Key × D)} (e : cs[k]? = some (.dctA p kds)) (q : R (.cel cs.length) (cs ++ [.dct kds])) : liWC dictEW [.dat (.cls p)] cs R := by
  refine ⟨[.cel k], .cons (.de e rfl) .nil, ?_⟩
  have e' : (cs.map vwC)[k]? = some (.dct kds) := vw_at e
  refine ⟨kds, ?_, ?_⟩
  · unfold dictOf
    have : kdOf (cs.map vwC) (.cel k) = some kds := by
      show (match (cs.map vwC)[k]? with
        | some (.dct kds) => some kds
        | _ => none) = some kds
      rw [e']
    rw [this]
  · rw [List.length_map]
    exact rew_app' (R := R (.cel cs.length)) q
theorem copied_s (s : St cs a d o c h f) (h0 : 0 < d.n) (hn : d.n ≤ 1000) (hd : noDc (kcon d) = true) (q : NewS cs d R) : c_State_copied [.dat (.cls a)] cs R := by
  refine ⟨rfl, (?_ : w_State_copied _ ⟨[some (.dat (.cls a)), none, none, none], cs⟩ (endG R))⟩
  unfold w_State_copied wMakeAX wDcF
  try dsimp only [wConsS, wNilS, wAsg, wTwo, wOne, wName, wCon, wCb, wCons, wNil, wRetG, wTag, wSlcA, wO0, wO1, wIfS, wBl, wFn, wFnG, wSetFA, wFldA, wMethA0, wNotT, wOrT, wAndV, Dl.wTru, wLst, wTup, wDats, dats, isB, wSubA, wSetA, wSetLA, wExpr, wPar2, par2, wPar3, par3, wItems, itemsW, wRng1, wFor, endG, List.set_cons_zero, List.set_cons_succ, List.getElem?_cons_zero, List.getElem?_cons_succ, Option.map_some]
  refine fld_size s ?_
  refine ⟨rfl, rfl, ?_⟩
  refine new_s h0 hn fun x c1 o1 c1' h1 f1 kp s1 hl => ?_
  try dsimp only [wConsS, wNilS, wAsg, wTwo, wOne, wName, wCon, wCb, wCons, wNil, wRetG, wTag, wSlcA, wO0, wO1, wIfS, wBl, wFn, wFnG, wSetFA, wFldA, wMethA0, wNotT, wOrT, wAndV, Dl.wTru, wLst, wTup, wDats, dats, isB, wSubA, wSetA, wSetLA, wExpr, wPar2, par2, wPar3, par3, wItems, itemsW, wRng1, wFor, endG, List.set_cons_zero, List.set_cons_succ, List.getElem?_cons_zero, List.getElem?_cons_succ, Option.map_some]
  have s' := s.kept kp (by simp) (by simp) (by simp) (by simp)
  obtain ⟨pc, ph, po, g1, g2, g3, g4⟩ := s'.ex
  refine ⟨a, pc, _, o, c, kcon d, ⟨⟨rfl, g1⟩, ⟨by kernel_rfl, g2⟩, rfl⟩, by show 3 < _; exact k3_lt (x := 0) (y := 0) (z := 0), ?_⟩
  rw [show pairsD (kcon d) = [.tup [.str "A", .lst d.A], .tup [.str "B", .lst d.B], .tup [.str "C", .lst d.C]] from rfl]
  refine dc_i rfl (wN_i rfl ?_)
  try dsimp only [wConsS, wNilS, wAsg, wTwo, wOne, wName, wCon, wCb, wCons, wNil, wRetG, wTag, wSlcA, wO0, wO1, wIfS, wBl, wFn, wFnG, wSetFA, wFldA, wMethA0, wNotT, wOrT, wAndV, Dl.wTru, wLst, wTup, wDats, dats, isB, wSubA, wSetA, wSetLA, wExpr, wPar2, par2, wPar3, par3, wItems, itemsW, wRng1, wFor, endG, List.set_cons_zero, List.set_cons_succ, List.getElem?_cons_zero, List.getElem?_cons_succ, Option.map_some]
  refine lsd_l ls_d ?_
  show dcW _ _ _ _ _ _ (putD [] (.inr "A") (D.lst d.A)) _ _
  refine dc_i rfl (wN_i rfl ?_)
  try dsimp only [wConsS, wNilS, wAsg, wTwo, wOne, wName, wCon, wCb, wCons, wNil, wRetG, wTag, wSlcA, wO0, wO1, wIfS, wBl, wFn, wFnG, wSetFA, wFldA, wMethA0, wNotT, wOrT, wAndV, Dl.wTru, wLst, wTup, wDats, dats, isB, wSubA, wSetA, wSetLA, wExpr, wPar2, par2, wPar3, par3, wItems, itemsW, wRng1, wFor, endG, List.set_cons_zero, List.set_cons_succ, List.getElem?_cons_zero, List.getElem?_cons_succ, Option.map_some]
  refine lsd_l ls_d ?_
  show dcW _ _ _ _ _ _ (putD (putD [] (.inr "A") (D.lst d.A)) (.inr "B") (D.lst d.B)) _ _
  refine dc_i rfl (wN_i rfl ?_)
  try dsimp only [wConsS, wNilS, wAsg, wTwo, wOne, wName, wCon, wCb, wCons, wNil, wRetG, wTag, wSlcA, wO0, wO1, wIfS, wBl, wFn, wFnG, wSetFA, wFldA, wMethA0, wNotT, wOrT, wAndV, Dl.wTru, wLst, wTup, wDats, dats, isB, wSubA, wSetA, wSetLA, wExpr, wPar2, par2, wPar3, par3, wItems, itemsW, wRng1, wFor, endG, List.set_cons_zero, List.set_cons_succ, List.getElem?_cons_zero, List.getElem?_cons_succ, Option.map_some]
  refine lsd_l ls_d ?_
  show dcW _ _ _ _ _ _ (putD (putD (putD [] (.inr "A") (D.lst d.A)) (.inr "B") (D.lst d.B)) (.inr "C") (D.lst d.C)) _ _
  rw [show putD (putD (putD [] (.inr "A") (D.lst d.A)) (.inr "B") (D.lst d.B)) (.inr "C") (D.lst d.C) = kcon d by kernel_rfl]
  refine And.intro rfl (And.intro hd ?_)
  refine tag_d fun pc' => ?_
  obtain ⟨fs, e1, e2, s2⟩ := s1.newC (d' := { fillD d.n 0 0 .non with A := d.A, B := d.B, C := d.C }) (kds := kcon d) rfl rfl rfl rfl pc'
  refine ⟨_, rfl, x, o1, fs, rfl, e1, e2, ?_⟩
  have t1 := s.kept (kp.as (y := .insA x 1 (Dl.putA "contents" (.cls pc') fs)) (ts := [Cell.dctA pc' (kcon d)]) hl.1) (by simp) (by simp) (by simp) (by simp)
  have k1 := kp.as (y := .insA x 1 (Dl.putA "contents" (.cls pc') fs)) (ts := [Cell.dctA pc' (kcon d)]) hl.1
  refine fld_hel t1 fun ph' e3 => ?_
  refine dict_at e3 ?_
  refine tag_d fun ph2 => ?_
  obtain ⟨fs2, e4, e5, s3⟩ := s2.newH (d' := { fillD d.n 0 0 .non with A := d.A, B := d.B, C := d.C, r := d.r, s := d.s, t := d.t }) (kds := khel d) rfl rfl rfl rfl ph2
  refine ⟨_, rfl, x, o1, fs2, rfl, e4, e5, ?_⟩
  have k2 := k1.as (y := .insA x 1 (Dl.putA "held" (.cls ph2) fs2)) (ts := [Cell.dctA ph2 (khel d)]) hl.1
  refine fld_off (s.kept k2 (by simp) (by simp) (by simp) (by simp)) fun po' e6 => ?_
  refine dict_at e6 ?_
  refine tag_d fun po2 => ?_
  obtain ⟨fs3, e7, e8, s4⟩ := s3.newO (d' := d) (kds := koff d) rfl rfl rfl rfl po2
  refine ⟨_, rfl, x, o1, fs3, rfl, e7, e8, ?_⟩
  have k3 := k2.as (y := .insA x 1 (Dl.putA "offsets" (.cls po2) fs3)) (ts := [Cell.dctA po2 (koff d)]) hl.1
  exact q x _ o1 _ _ _ k3 s4 ⟨hl.1, kp.len, k1.len, k2.len⟩
end

/-! ### states compared -/
theorem eqD_int (m n : Int) : eqD (.int m) (.int n) = decide (m = n) := rfl
def eqS (d d' : Sd) : Bool := decide ((d.n : Int) = (d'.n : Int)) && (eqK (koff d) (koff d') && (eqK (kcon d) (kcon d') && eqK (khel d) (khel d')))
theorem eqS_know (d d' : Sd) : eqS d d' = eqK (know d) (know d') := by
  have e1 : eqK (koff d) (koff d') = (eqD (.int d.i) (.int d'.i) && (eqD (.int d.j) (.int d'.j) && true)) := by kernel_rfl
  have e2 : eqK (kcon d) (kcon d') = (eqD (.lst d.A) (.lst d'.A) && (eqD (.lst d.B) (.lst d'.B) && (eqD (.lst d.C) (.lst d'.C) && true))) := by kernel_rfl
  have e3 : eqK (khel d) (khel d') = (eqD d.r d'.r && (eqD d.s d'.s && (eqD d.t d'.t && true))) := by kernel_rfl
  have e4 : eqK (know d) (know d') = (eqD (.int d.n) (.int d'.n) && (eqD (.int d.i) (.int d'.i) && (eqD (.int d.j) (.int d'.j) && (eqD d.r d'.r && (eqD d.s d'.s && (eqD d.t d'.t && (eqD (.lst d.A) (.lst d'.A) && (eqD (.lst d.B) (.lst d'.B) && (eqD (.lst d.C) (.lst d'.C) && true))))))))) := by kernel_rfl
  unfold eqS
  rw [e1, e2, e3, e4, ← eqD_int]
  generalize eqD (.int d.n) (.int d'.n) = x1
  generalize eqD (.int d.i) (.int d'.i) = x2
  generalize eqD (.int d.j) (.int d'.j) = x3
  generalize eqD d.r d'.r = x4
  generalize eqD d.s d'.s = x5
  generalize eqD d.t d'.t = x6
  generalize eqD (.lst d.A) (.lst d'.A) = x7
  generalize eqD (.lst d.B) (.lst d'.B) = x8
  generalize eqD (.lst d.C) (.lst d'.C) = x9
  cases x1 <;> cases x2 <;> cases x3 <;> try rfl
  simp only [Bool.and_true, Bool.true_and]
  rw [Bool.and_comm (x7 && (x8 && x9))]
  simp only [Bool.and_assoc]
section
variable {cs cs' ts : List Cell} {a b r pc ph po p1 p2 : Addr} {d d' : Sd} {i j o c h f q n o2 c2 h2 f2 k1 k2 : Nat} {R : RV} {Rx : RX} {ds l : List D} {v fill : D} {k m : Int}
theorem keq_at {neg : Bool} {kd ke : List (Key × D)} (e1 : cs[k1]? = some (.dctA p1 kd)) (e2 : cs[k2]? = some (.dctA p2 ke)) (o1 : okKs kd = true) (o2 : okKs ke = true) (q : R (.dat (.bl (neg.xor (eqK kd ke)))) cs) : liW2 (eqKW neg) (.dat (.cls p1)) (.dat (.cls p2)) cs R := by
  have w : ∀ {k : Nat} {p : Addr} {kds : List (Key × D)} {P : List (Key × D) → Prop}, cs[k]? = some (.dctA p kds) → P kds → wD (cs.map vwC) (.cel k) P := fun {k p kds P} e hp => by
    have e' : (cs.map vwC)[k]? = some (.dct kds) := vw_at e
    have : kdOf (cs.map vwC) (.cel k) = some kds := by
      show (match (cs.map vwC)[k]? with
        | some (.dct kds) => some kds
        | _ => none) = some kds
      rw [e']
    unfold wD
    rw [this]
    exact hp
  refine ⟨.cel k1, .cel k2, .de e1 rfl, .de e2 rfl, ?_⟩
  exact w (P := fun x => wD (cs.map vwC) (.cel k2) fun y => (okKs x = true ∧ okKs y = true) ∧ R (.dat (.bl (neg.xor (eqK x y)))) (rew cs (cs.map vwC))) e1 (w (P := fun y => (okKs kd = true ∧ okKs y = true) ∧ R (.dat (.bl (neg.xor (eqK kd y)))) (rew cs (cs.map vwC))) e2 ⟨⟨o1, o2⟩, rw_ (P := R (.dat (.bl (neg.xor (eqK kd ke))))) q⟩)
/-- what may be compared -/
structure Sd.ok (d : Sd) : Prop where
  c : okKs (kcon d) = true
  h : okKs (khel d) = true
theorem koff_ok (d : Sd) : okKs (koff d) = true := by
  have e : ∀ k : Int, okD (.int k) = true := fun k => rfl
  show (okD (.int d.i) && (okD (.int d.j) && true)) = true
  rw [e, e]
  rfl
theorem eq_s (s : St cs a d o c h f) (s2 : St cs b d' o2 c2 h2 f2) (k1 : d.ok) (k2 : d'.ok) (q : R (.dat (.bl (eqS d d'))) cs) : c_State___eq__ [.dat (.cls a), .dat (.cls b)] cs R := by
  refine ⟨rfl, (?_ : w_State___eq__ _ ⟨[some (.dat (.cls a)), some (.dat (.cls b))], cs⟩ (endG R))⟩
  unfold w_State___eq__ wIsiK
  try dsimp only [wConsS, wNilS, wAsg, wTwo, wOne, wName, wCon, wCb, wCons, wNil, wRetG, wTag, wSlcA, wO0, wO1, wIfS, wBl, wFn, wFnG, wSetFA, wFldA, wMethA0, wNotT, wOrT, wAndV, Dl.wTru, wLst, wTup, wDats, dats, isB, wSubA, wSetA, wSetLA, wExpr, wPar2, par2, wPar3, par3, wItems, itemsW, wRng1, wFor, endG, List.set_cons_zero, List.set_cons_succ, List.getElem?_cons_zero, List.getElem?_cons_succ, Option.map_some]
  obtain ⟨pc, ph, po, g1, g2, g3, g4⟩ := s2.ex
  refine .inr (.inl ⟨b, o2, 1, _, rfl, g1, ?_⟩)
  refine Br.ff rfl ?_
  refine fld_size s (fld_size s2 (.inr (leqI ?_)))
  unfold eqS at q
  by_cases en : (d.n : Int) = (d'.n : Int)
  · refine Br.ff (by rw [decide_eq_true en]; rfl) ?_
    rw [decide_eq_true en, Bool.true_and] at q
    refine fld_off s fun po1 e1 => fld_off s2 fun po2 e2 => .inl (keq_at e1 e2 (koff_ok d) (koff_ok d') ?_)
    cases eo : eqK (koff d) (koff d') with
    | false =>
      rw [eo] at q
      exact Br.tt rfl q
    | true =>
      rw [eo, Bool.true_and] at q
      refine Br.ff rfl ?_
      refine fld_con s fun pc1 e3 => fld_con s2 fun pc2 e4 => .inl (keq_at e3 e4 k1.c k2.c ?_)
      cases ec : eqK (kcon d) (kcon d') with
      | false =>
        rw [ec] at q
        exact Br.ff rfl q
      | true =>
        rw [ec, Bool.true_and] at q
        refine Br.tt rfl ?_
        exact fld_hel s fun ph1 e5 => fld_hel s2 fun ph2 e6 => .inl (keq_at e5 e6 k1.h k2.h (by rw [Bool.false_xor]; exact q))
  · refine Br.tt (by rw [decide_eq_false en]; rfl) ?_
    rw [decide_eq_false en] at q
    exact Br.tt rfl q
theorem isi_non {k : Bool → Prop} (h : k false) : isiW tb_State ob_State (.dat .non) k := by
  show optW (tb_State "NoneType") k
  rw [show tb_State "NoneType" = some false by decide +kernel]
  exact h
theorem isi_str {x : Str} {k : Bool → Prop} (h : k false) : isiW tb_State ob_State (.dat (.str x)) k := by
  show optW (tb_State "str") k
  rw [show tb_State "str" = some false by decide +kernel]
  exact h
theorem isi_int {x : Int} {k : Bool → Prop} (h : k false) : isiW tb_State ob_State (.dat (.int x)) k := by
  show optW (tb_State "int") k
  rw [show tb_State "int" = some false by decide +kernel]
  exact h
/-- what is no state -/
def NoS (s : Sl) (cs : List Cell) : Prop := isDk s cs ∨ (∃ (p : Addr) (j : Nat) (fs : List (Str × D)), s = .dat (.cls p) ∧ cs[j]? = some (Cell.insA p 0 fs)) ∨ (s = .dat .non ∨ s = .dat (.str "") ∨ s = .dat (.int 0))
theorem eq_oth {s1 : Sl} (h : NoS s1 cs) (q : R (.dat (.bl false)) cs) : c_State___eq__ [.dat (.cls a), s1] cs R := by
  refine ⟨rfl, (?_ : w_State___eq__ _ ⟨[some (.dat (.cls a)), some s1], cs⟩ (endG R))⟩
  unfold w_State___eq__ wIsiK
  try dsimp only [wConsS, wNilS, wAsg, wTwo, wOne, wName, wCon, wCb, wCons, wNil, wRetG, wTag, wSlcA, wO0, wO1, wIfS, wBl, wFn, wFnG, wSetFA, wFldA, wMethA0, wNotT, wOrT, wAndV, Dl.wTru, wLst, wTup, wDats, dats, isB, wSubA, wSetA, wSetLA, wExpr, wPar2, par2, wPar3, par3, wItems, itemsW, wRng1, wFor, endG, List.set_cons_zero, List.set_cons_succ, List.getElem?_cons_zero, List.getElem?_cons_succ, Option.map_some]
  rcases h with h | ⟨p, j, fs, rfl, e⟩ | rfl | rfl | rfl
  · exact .inl ⟨h, false, by decide +kernel, Br.tt rfl (Br.tt rfl q)⟩
  · exact .inr (.inl ⟨p, j, 0, fs, rfl, e, Br.tt rfl (Br.tt rfl q)⟩)
  · exact .inr (.inr (isi_non (Br.tt rfl (Br.tt rfl q))))
  · exact .inr (.inr (isi_str (Br.tt rfl (Br.tt rfl q))))
  · exact .inr (.inr (isi_int (Br.tt rfl (Br.tt rfl q))))
end

/-! ### values -/
/-- what is known of values -/
structure Gv (d : D) : Prop where
  rn : RN 2 200 d
  okn : okN 2 d
  nod : noD d = true
  rep : ∃ t : Str, ∀ (cs : List Cell) (R : RV), R (.dat (.str t)) cs → liWC reprLW [.dat d] cs R
theorem Vl.gv {d : D} (h : Vl d) : Gv d := ⟨h.rn, h.okn, by rcases h with ⟨n, hn, rfl⟩ | rfl | rfl | rfl | rfl | ⟨n, hn, rfl⟩ | rfl <;> rfl, rep_v h⟩
theorem okn_s (x : Str) (h : PyData.canLay0 (D.str x).py = true) : okN 2 (.str x) := ⟨rfl, h, Nat.zero_le _⟩
theorem okn_i (n : Int) : okN 2 (.int n) := ⟨rfl, by simp [D.py, PyData.canLay0], Nat.zero_le _⟩
theorem okn_tup {xs : List D} (h : ∀ d ∈ xs, okN 1 d) : okN 2 (.tup xs) := by
  have e := okl_all h
  refine ⟨e.1, ?_, ?_⟩
  · show PyData.canLay0 (.tuple (D.pys _)) = true
    simpa [PyData.canLay0] using e.2.1
  · show PyData.depth (.tuple (D.pys _)) ≤ 2
    simp only [PyData.depth]
    have := e.2.2
    omega
theorem gv_tup {xs : List D} (h : ∀ d ∈ xs, okN 1 d) (hr : RN 2 200 (.tup xs)) (hn : noD (.tup xs) = true) : Gv (.tup xs) :=
  ⟨hr, okn_tup h, hn, ⟨_, fun cs R q => li1 (s2 := .dat (.str (rprD (.tup xs)))) (fun Q q => ⟨hr.ok (by decide), hr.len (by decide), q⟩) q⟩⟩
theorem gv_cell (x : Na) {k : Nat} (hk : k ≤ 1000) : Gv (.tup [.str "cell", .str x.str, .int (k : Int)]) := by
  refine gv_tup (mem3v ⟨rfl, by decide +kernel, Nat.zero_le _⟩ ?_ ⟨rfl, by simp [D.py, PyData.canLay0], Nat.zero_le _⟩) ?_ rfl
  · cases x <;> exact ⟨rfl, by decide +kernel, Nat.zero_le _⟩
  · refine (RN.tup (k := 0) (w := 43) (m := 3) (mem3v (rn_s (by decide +kernel) (by decide +kernel)) ?_ (RN.int (n := 40) (by omega) (by decide))) (Nat.le_refl _)).mono (by decide) (by decide)
    cases x <;> exact rn_s (by decide +kernel) (by decide +kernel)
theorem gv_start (x : Nr) : Gv (.tup [.str "start", .str x.str]) := by
  refine gv_tup (mem2 ⟨rfl, by decide +kernel, Nat.zero_le _⟩ ?_) ?_ rfl
  · cases x <;> exact ⟨rfl, by decide +kernel, Nat.zero_le _⟩
  · refine (RN.tup (k := 0) (w := 43) (m := 2) (mem2 (rn_s (by decide +kernel) (by decide +kernel)) ?_) (Nat.le_refl _)).mono (by decide) (by decide)
    cases x <;> exact rn_s (by decide +kernel) (by decide +kernel)
theorem gv_non : Gv .non := (show Vl .non from .inr (.inr (.inr (.inl rfl)))).gv
theorem gv_okD {d : D} (h : Gv d) : okD d = true := by
  have := h.okn
  unfold okD
  rw [this.1, Bool.true_and]
  unfold SeqAt.shaped
  rw [this.2.1, Bool.true_and]
  exact decide_eq_true (by have := this.2.2; omega)
theorem gv_ok {ds : List D} (h : ∀ d ∈ ds, Gv d) : okD (.lst ds) = true := ok_lst (k := 2) (fun d hd => (h d hd).okn) (by decide)
theorem gv_nod {ds : List D} (h : ∀ d ∈ ds, Gv d) : noDs ds = true := by
  induction ds with
  | nil => rfl
  | cons x xs ih =>
    show (noD x && noDs xs) = true
    rw [(h x List.mem_cons_self).nod, ih fun d hd => h d (List.mem_cons_of_mem _ hd)]
    rfl
theorem gv_rn {ds : List D} (h : ∀ d ∈ ds, Gv d) (hl : ds.length ≤ 100) : RN 3 20203 (.lst ds) := (RN.lst (m := 100) (w := 200) (k := 2) (fun d hd => (h d hd).rn) hl)
/-- a state as the law has them -/
structure Sd.gd (d : Sd) : Prop where
  n0 : 0 < d.n
  n1 : d.n ≤ 60
  la : ∀ x, (d.a x).length = d.n
  va : ∀ x, ∀ e ∈ d.a x, Gv e
  vh : ∀ x, Gv (d.h x)
  vo : ∀ x, 0 ≤ d.o x ∧ d.o x < d.n
theorem Sd.gd.vA {d : Sd} (g : d.gd) : ∀ e ∈ d.A, Gv e := g.va .A
theorem Sd.gd.vB {d : Sd} (g : d.gd) : ∀ e ∈ d.B, Gv e := g.va .B
theorem Sd.gd.vC {d : Sd} (g : d.gd) : ∀ e ∈ d.C, Gv e := g.va .C
theorem Sd.gd.vr {d : Sd} (g : d.gd) : Gv d.r := g.vh .r
theorem Sd.gd.vs {d : Sd} (g : d.gd) : Gv d.s := g.vh .s
theorem Sd.gd.vt {d : Sd} (g : d.gd) : Gv d.t := g.vh .t
theorem Sd.gd.lA {d : Sd} (g : d.gd) : d.A.length = d.n := g.la .A
theorem Sd.gd.lB {d : Sd} (g : d.gd) : d.B.length = d.n := g.la .B
theorem Sd.gd.lC {d : Sd} (g : d.gd) : d.C.length = d.n := g.la .C
theorem Sd.gd.oi {d : Sd} (g : d.gd) : 0 ≤ d.i ∧ d.i < d.n := g.vo .i
theorem Sd.gd.oj {d : Sd} (g : d.gd) : 0 ≤ d.j ∧ d.j < d.n := g.vo .j
theorem Sd.gd.ok {d : Sd} (g : d.gd) : d.ok := by
  refine ⟨?_, ?_⟩
  · show (okD (.lst d.A) && (okD (.lst d.B) && (okD (.lst d.C) && true))) = true
    rw [gv_ok g.vA, gv_ok g.vB, gv_ok g.vC]
    rfl
  · show (okD d.r && (okD d.s && (okD d.t && true))) = true
    rw [gv_okD g.vr, gv_okD g.vs, gv_okD g.vt]
    rfl
theorem Sd.gd.nod {d : Sd} (g : d.gd) : noDc (kcon d) = true := by
  show (noDs d.A && (noDs d.B && (noDs d.C && true))) = true
  rw [gv_nod g.vA, gv_nod g.vB, gv_nod g.vC]
  rfl
theorem Sd.gd.know_ok {d : Sd} (g : d.gd) : okKs (know d) = true := by
  show (true && (true && (true && (okD d.r && (okD d.s && (okD d.t && (okD (.lst d.A) && (okD (.lst d.B) && (okD (.lst d.C) && true))))))))) = true
  rw [gv_okD g.vr, gv_okD g.vs, gv_okD g.vt, gv_ok g.vA, gv_ok g.vB, gv_ok g.vC]
  rfl
theorem fill_gd {n : Nat} {i j : Int} {v : D} (h0 : 0 < n) (h1 : n ≤ 60) (hv : Gv v) : (fillD n i j v).gd := by
  refine ⟨h0, h1, fun x => ?_, fun x e he => ?_, fun x => ?_, fun x => ?_⟩
  · cases x <;> exact List.length_replicate
  · cases x <;> exact List.eq_of_mem_replicate he ▸ hv
  · cases x <;> exact hv
  · cases x <;> exact ⟨Int.emod_nonneg _ (by omega), Int.emod_lt_of_pos _ (by show (0 : Int) < (n : Int); omega)⟩
theorem cel_gv {n : Nat} {x : Na} (h : n ≤ 60) : ∀ e ∈ celL n x.str, Gv e := fun e he => by
  obtain ⟨k, hk, rfl⟩ := List.mem_map.mp he
  exact gv_cell x (by have := List.mem_range.mp hk; omega)
theorem free_gd {n : Nat} {i j : Int} (h0 : 0 < n) (h1 : n ≤ 60) : (freeD n i j).gd := by
  refine ⟨h0, h1, fun x => ?_, fun x e he => ?_, fun x => ?_, fun x => ?_⟩
  · cases x <;> (show ((List.range n).map _).length = n; rw [List.length_map, List.length_range])
  · cases x with
    | A => exact cel_gv (x := .A) h1 e he
    | B => exact cel_gv (x := .B) h1 e he
    | C => exact cel_gv (x := .C) h1 e he
  · cases x with
    | r => exact gv_start .r
    | s => exact gv_start .s
    | t => exact gv_start .t
  · cases x <;> exact ⟨Int.emod_nonneg _ (by omega), Int.emod_lt_of_pos _ (by show (0 : Int) < (n : Int); omega)⟩
theorem gd_putA {d : Sd} (g : d.gd) {l : List D} (x : Na) (hl : l.length = d.n) (hv : ∀ e ∈ l, Gv e) : (d.putA l x).gd := by
  refine ⟨by rw [putA_n]; exact g.n0, by rw [putA_n]; exact g.n1, fun y => ?_, fun y e he => ?_, fun y => ?_, fun y => ?_⟩
  · rw [putA_n]
    cases x <;> cases y <;> first | exact hl | exact g.lA | exact g.lB | exact g.lC
  · cases x <;> cases y <;> first | exact hv e he | exact g.vA e he | exact g.vB e he | exact g.vC e he
  · cases x <;> cases y <;> first | exact g.vr | exact g.vs | exact g.vt
  · rw [putA_n]
    cases x <;> cases y <;> first | exact g.oi | exact g.oj
theorem gd_putH {d : Sd} (g : d.gd) {v : D} (x : Nr) (hv : Gv v) : (d.putH v x).gd := by
  refine ⟨by rw [putH_n]; exact g.n0, by rw [putH_n]; exact g.n1, fun y => ?_, fun y e he => ?_, fun y => ?_, fun y => ?_⟩
  · rw [putH_n]
    cases x <;> cases y <;> first | exact g.lA | exact g.lB | exact g.lC
  · cases x <;> cases y <;> first | exact g.vA e he | exact g.vB e he | exact g.vC e he
  · cases x <;> cases y <;> first | exact hv | exact g.vr | exact g.vs | exact g.vt
  · rw [putH_n]
    cases x <;> cases y <;> first | exact g.oi | exact g.oj
theorem gd_putO {d : Sd} (g : d.gd) {k : Int} (x : No) : (d.putO (k % (d.n : Int)) x).gd := by
  have h0 := g.n0
  have hk : 0 ≤ k % (d.n : Int) ∧ k % (d.n : Int) < d.n := ⟨Int.emod_nonneg _ (by omega), Int.emod_lt_of_pos _ (by omega)⟩
  refine ⟨by rw [putO_n]; exact g.n0, by rw [putO_n]; exact g.n1, fun y => ?_, fun y e he => ?_, fun y => ?_, fun y => ?_⟩
  · rw [putO_n]
    cases x <;> cases y <;> first | exact g.lA | exact g.lB | exact g.lC
  · cases x <;> cases y <;> first | exact g.vA e he | exact g.vB e he | exact g.vC e he
  · cases x <;> cases y <;> first | exact g.vr | exact g.vs | exact g.vt
  · rw [putO_n]
    cases x <;> cases y <;> first | exact hk | exact g.oi | exact g.oj

/-! ### the law's own states -/
theorem far2_ex {b : B} (hb : Ok b) : ∃ (k : Int) (b' : B), Ok b' ∧ c__law_far [.cel 0] [bx b] (.dat (.int k)) [bx b'] := by
  have k1 : Ok (nx b 130) := hb.nx _
  have k2 : Ok (nx (nx b 130) (10 ^ 20)) := k1.nx _
  have h5 := tk_lo (b := nx (nx b 130) (10 ^ 20)) (m := 2) (by decide)
  have h6 := tk_hi (b := nx (nx b 130) (10 ^ 20)) (m := 2) (by decide)
  refine ⟨if tk (nx (nx b 130) (10 ^ 20)) 2 = 0 then tk b 130 - 65 else tk (nx b 130) (10 ^ 20) - 10 ^ 19, _, k2.nx 2, ⟨rfl, ?_⟩⟩
  refine call_ (take_c (by decide) (by decide) hb) ?_
  refine And.intro ⟨by decide, by decide, by decide⟩ ?_
  refine call_ (take_c (by decide) (by decide) k1) ?_
  refine And.intro ⟨by decide, by decide, by decide⟩ ?_
  refine And.intro (szk 2) ?_
  refine call_ (take_c (by decide) (by decide) k2) ?_
  refine atW_i (d := .int (if tk (nx (nx b 130) (10 ^ 20)) 2 = 0 then tk b 130 - 65 else tk (nx b 130) (10 ^ 20) - 10 ^ 19)) ?_ (And.intro rfl rfl)
  show atI [D.int (tk b 130 - 65), D.int (tk (nx b 130) (10 ^ 20) - 10 ^ 19)] (tk (nx (nx b 130) (10 ^ 20)) 2) = _
  rcases (show tk (nx (nx b 130) (10 ^ 20)) 2 = 0 ∨ tk (nx (nx b 130) (10 ^ 20)) 2 = 1 by omega) with e | e
  · rw [e]; rfl
  · rw [e]; rfl
theorem set_last {cs : List Cell} {x y : Cell} : (cs ++ [x]).set cs.length y = cs ++ [y] := by
  rw [List.set_append_right _ _ (Nat.le_refl _), Nat.sub_self]
  rfl
theorem at_last {cs : List Cell} {x : Cell} : (cs ++ [x])[cs.length]? = some x := by
  rw [List.getElem?_append_right (Nat.le_refl _), Nat.sub_self]
  rfl
theorem kl_lt {α : Type} {xs : List α} {k : Nat} (h : xs.length = k) (hk : k ≤ 1000) : xs.length < sizeLine := by
  rw [h]
  exact Nat.lt_of_le_of_lt hk (by decide)
theorem put_len {kds : List (Key × D)} {k : Key} {d : D} {m : Nat} (h : kds.length ≤ m) : (putD kds k d).length ≤ m + 1 := Nat.le_trans (putD_len kds k d) (Nat.add_le_add_right h 1)
theorem kl_le {α : Type} {xs : List α} {k : Nat} (h : xs.length ≤ k) (hk : k ≤ 1000) : xs.length < sizeLine := Nat.lt_of_le_of_lt (Nat.le_trans h hk) (by decide)
section
variable {cs cs' ts : List Cell} {a b r pc ph po p : Addr} {d d' : Sd} {i j o c h f q n : Nat} {R : RV} {Rx : RX} {ds l : List D} {v fill : D} {k m : Int}
theorem cell_l {x : Str} {sl : Sls} {Q : List D → List Cell → Prop} (h1 : ∀ e : D, (sl.set 5 (some (.dat e)))[5]? = some (some (.dat e))) (h2 : ∀ e : D, (sl.set 5 (some (.dat e)))[4]? = some (some (.dat (.str x)))) (q : Q (celL n x) cs) : lcW (.nm 5) wYes (wTup (wCons (wCon (.str "cell")) (wCons (wName 4) (wCons (wName 5) wNil)))) sl (rangeD 0 n) cs Q := by
  refine lcW_map (fun i : Nat => D.int (0 + (i : Int))) (fun k : Nat => .tup [.str "cell", .str x, .int (k : Int)]) (fun k _ => ⟨_, rfl, fun R' hR => ?_⟩) q
  rw [Int.zero_add]
  unfold wTup wCons wCon
  refine wN_i (h2 _) ?_
  refine wN_i (h1 _) ?_
  exact And.intro (szk 3) hR
theorem free_c (h0 : 0 < n) (hn : n ≤ 1000) (q : ∀ p : Addr, R (.dat (.cls p)) (cs ++ [.dctA p (know (freeD n k m))])) : c__law_free [.dat (.int n), .dat (.int k), .dat (.int m)] cs R := by
  refine ⟨rfl, (?_ : w__law_free _ ⟨[some (.dat (.int n)), some (.dat (.int k)), some (.dat (.int m)), none, none, none], cs⟩ (endG R))⟩
  unfold w__law_free wDisS wSetDA wLc
  try dsimp only [wConsS, wNilS, wAsg, wTwo, wOne, wName, wCon, wCb, wCons, wNil, wRetG, wTag, wSlcA, wO0, wO1, wIfS, wBl, wFn, wFnG, wSetFA, wFldA, wMethA0, wNotT, wOrT, wAndV, Dl.wTru, wLst, wTup, wDats, dats, isB, wSubA, wSetA, wSetLA, wExpr, wPar2, par2, wPar3, par3, wItems, itemsW, wRng1, wFor, endG, List.set_cons_zero, List.set_cons_succ, List.getElem?_cons_zero, List.getElem?_cons_succ, Option.map_some]
  refine lint ?_
  refine lmod (show (0 : Int) < (n : Int) by omega) ?_
  refine lint ?_
  refine lmod (show (0 : Int) < (n : Int) by omega) ?_
  refine And.intro rfl ?_
  refine And.intro rfl ?_
  have q' : ∀ (p : Addr) (kds : List (Key × D)), kds = know (freeD n k m) → R (.dat (.cls p)) (cs ++ [.dctA p kds]) := fun p kds e => e ▸ q p
  refine tag_d fun p => ?_
  try dsimp only [wConsS, wNilS, wAsg, wTwo, wOne, wName, wCon, wCb, wCons, wNil, wRetG, wTag, wSlcA, wO0, wO1, wIfS, wBl, wFn, wFnG, wSetFA, wFldA, wMethA0, wNotT, wOrT, wAndV, Dl.wTru, wLst, wTup, wDats, dats, isB, wSubA, wSetA, wSetLA, wExpr, wPar2, par2, wPar3, par3, wItems, itemsW, wRng1, wFor, endG, List.set_cons_zero, List.set_cons_succ, List.getElem?_cons_zero, List.getElem?_cons_succ, Option.map_some]
  refine And.intro (szk 3) ?_
  refine asgW_i rfl ?_
  try dsimp only [wConsS, wNilS, wAsg, wTwo, wOne, wName, wCon, wCb, wCons, wNil, wRetG, wTag, wSlcA, wO0, wO1, wIfS, wBl, wFn, wFnG, wSetFA, wFldA, wMethA0, wNotT, wOrT, wAndV, Dl.wTru, wLst, wTup, wDats, dats, isB, wSubA, wSetA, wSetLA, wExpr, wPar2, par2, wPar3, par3, wItems, itemsW, wRng1, wFor, endG, List.set_cons_zero, List.set_cons_succ, List.getElem?_cons_zero, List.getElem?_cons_succ, Option.map_some]
  refine And.intro (szk 2) ?_
  refine ⟨p, cs.length, _, _, _, ⟨rfl, rfl, rfl⟩, at_last, kl_le (k := 3) (Nat.le_refl 3) (by decide), ?_⟩
  rw [set_last]
  refine asgW_i rfl ?_
  try dsimp only [wConsS, wNilS, wAsg, wTwo, wOne, wName, wCon, wCb, wCons, wNil, wRetG, wTag, wSlcA, wO0, wO1, wIfS, wBl, wFn, wFnG, wSetFA, wFldA, wMethA0, wNotT, wOrT, wAndV, Dl.wTru, wLst, wTup, wDats, dats, isB, wSubA, wSetA, wSetLA, wExpr, wPar2, par2, wPar3, par3, wItems, itemsW, wRng1, wFor, endG, List.set_cons_zero, List.set_cons_succ, List.getElem?_cons_zero, List.getElem?_cons_succ, Option.map_some]
  refine And.intro (szk 2) ?_
  refine ⟨p, cs.length, _, _, _, ⟨rfl, rfl, rfl⟩, at_last, kl_le (k := 4) (put_len (Nat.le_refl 3)) (by decide), ?_⟩
  rw [set_last]
  refine asgW_i rfl ?_
  try dsimp only [wConsS, wNilS, wAsg, wTwo, wOne, wName, wCon, wCb, wCons, wNil, wRetG, wTag, wSlcA, wO0, wO1, wIfS, wBl, wFn, wFnG, wSetFA, wFldA, wMethA0, wNotT, wOrT, wAndV, Dl.wTru, wLst, wTup, wDats, dats, isB, wSubA, wSetA, wSetLA, wExpr, wPar2, par2, wPar3, par3, wItems, itemsW, wRng1, wFor, endG, List.set_cons_zero, List.set_cons_succ, List.getElem?_cons_zero, List.getElem?_cons_succ, Option.map_some]
  refine And.intro (szk 2) ?_
  refine ⟨p, cs.length, _, _, _, ⟨rfl, rfl, rfl⟩, at_last, kl_le (k := 5) (put_len (put_len (Nat.le_refl 3))) (by decide), ?_⟩
  rw [set_last]
  try dsimp only [wConsS, wNilS, wAsg, wTwo, wOne, wName, wCon, wCb, wCons, wNil, wRetG, wTag, wSlcA, wO0, wO1, wIfS, wBl, wFn, wFnG, wSetFA, wFldA, wMethA0, wNotT, wOrT, wAndV, Dl.wTru, wLst, wTup, wDats, dats, isB, wSubA, wSetA, wSetLA, wExpr, wPar2, par2, wPar3, par3, wItems, itemsW, wRng1, wFor, endG, List.set_cons_zero, List.set_cons_succ, List.getElem?_cons_zero, List.getElem?_cons_succ, Option.map_some]
  refine And.intro (szk 3) ?_
  refine asgW_i rfl ?_
  try dsimp only [wConsS, wNilS, wAsg, wTwo, wOne, wName, wCon, wCb, wCons, wNil, wRetG, wTag, wSlcA, wO0, wO1, wIfS, wBl, wFn, wFnG, wSetFA, wFldA, wMethA0, wNotT, wOrT, wAndV, Dl.wTru, wLst, wTup, wDats, dats, isB, wSubA, wSetA, wSetLA, wExpr, wPar2, par2, wPar3, par3, wItems, itemsW, wRng1, wFor, endG, List.set_cons_zero, List.set_cons_succ, List.getElem?_cons_zero, List.getElem?_cons_succ, Option.map_some]
  refine And.intro (show SmI (n : Int) by unfold SmI; omega) ?_
  refine And.intro (by rw [rngD_len]; exact Nat.lt_of_le_of_lt (show _ ≤ 1000 by omega) (by decide)) ?_
  rw [Int.toNat_natCast]
  refine cell_l (x := "A") (fun _ => rfl) (fun _ => rfl) ?_
  refine ⟨p, cs.length, _, _, _, ⟨rfl, rfl, rfl⟩, at_last, kl_le (k := 6) (put_len (put_len (put_len (Nat.le_refl 3)))) (by decide), ?_⟩
  rw [set_last]
  refine asgW_i rfl ?_
  try dsimp only [wConsS, wNilS, wAsg, wTwo, wOne, wName, wCon, wCb, wCons, wNil, wRetG, wTag, wSlcA, wO0, wO1, wIfS, wBl, wFn, wFnG, wSetFA, wFldA, wMethA0, wNotT, wOrT, wAndV, Dl.wTru, wLst, wTup, wDats, dats, isB, wSubA, wSetA, wSetLA, wExpr, wPar2, par2, wPar3, par3, wItems, itemsW, wRng1, wFor, endG, List.set_cons_zero, List.set_cons_succ, List.getElem?_cons_zero, List.getElem?_cons_succ, Option.map_some]
  refine And.intro (show SmI (n : Int) by unfold SmI; omega) ?_
  refine And.intro (by rw [rngD_len]; exact Nat.lt_of_le_of_lt (show _ ≤ 1000 by omega) (by decide)) ?_
  rw [Int.toNat_natCast]
  refine cell_l (x := "B") (fun _ => rfl) (fun _ => rfl) ?_
  refine ⟨p, cs.length, _, _, _, ⟨rfl, rfl, rfl⟩, at_last, kl_le (k := 7) (put_len (put_len (put_len (put_len (Nat.le_refl 3))))) (by decide), ?_⟩
  rw [set_last]
  refine asgW_i rfl ?_
  try dsimp only [wConsS, wNilS, wAsg, wTwo, wOne, wName, wCon, wCb, wCons, wNil, wRetG, wTag, wSlcA, wO0, wO1, wIfS, wBl, wFn, wFnG, wSetFA, wFldA, wMethA0, wNotT, wOrT, wAndV, Dl.wTru, wLst, wTup, wDats, dats, isB, wSubA, wSetA, wSetLA, wExpr, wPar2, par2, wPar3, par3, wItems, itemsW, wRng1, wFor, endG, List.set_cons_zero, List.set_cons_succ, List.getElem?_cons_zero, List.getElem?_cons_succ, Option.map_some]
  refine And.intro (show SmI (n : Int) by unfold SmI; omega) ?_
  refine And.intro (by rw [rngD_len]; exact Nat.lt_of_le_of_lt (show _ ≤ 1000 by omega) (by decide)) ?_
  rw [Int.toNat_natCast]
  refine cell_l (x := "C") (fun _ => rfl) (fun _ => rfl) ?_
  refine ⟨p, cs.length, _, _, _, ⟨rfl, rfl, rfl⟩, at_last, kl_le (k := 8) (put_len (put_len (put_len (put_len (put_len (Nat.le_refl 3)))))) (by decide), ?_⟩
  rw [set_last]
  refine q' p _ ?_
  kernel_rfl
end

/-! ### the law's own states: one value everywhere, copied -/
section
variable {cs cs' ts : List Cell} {a b r pc ph po p : Addr} {d d' : Sd} {i j o c h f q n : Nat} {R : RV} {Rx : RX} {ds l : List D} {v fill : D} {k m : Int}
theorem filled_c (h0 : 0 < n) (hn : n ≤ 1000) (q : ∀ p : Addr, R (.dat (.cls p)) (cs ++ [.dctA p (know (fillD n 0 0 v))])) : c__law_filled [.dat (.int n), .dat v] cs R := by
  have q' : ∀ (p : Addr) (kds : List (Key × D)), kds = know (fillD n 0 0 v) → R (.dat (.cls p)) (cs ++ [.dctA p kds]) := fun p kds e => e ▸ q p
  refine ⟨rfl, (?_ : w__law_filled _ ⟨[some (.dat (.int n)), some (.dat v), none, none], cs⟩ (endG R))⟩
  unfold w__law_filled wSetDA
  try dsimp only [wConsS, wNilS, wAsg, wTwo, wOne, wName, wCon, wCb, wCons, wNil, wRetG, wTag, wSlcA, wO0, wO1, wIfS, wBl, wFn, wFnG, wSetFA, wFldA, wMethA0, wNotT, wOrT, wAndV, Dl.wTru, wLst, wTup, wDats, dats, isB, wSubA, wSetA, wSetLA, wExpr, wPar2, par2, wPar3, par3, wItems, itemsW, wRng1, wFor, endG, List.set_cons_zero, List.set_cons_succ, List.getElem?_cons_zero, List.getElem?_cons_succ, Option.map_some]
  refine free_c h0 hn fun p => ?_
  try dsimp only [wConsS, wNilS, wAsg, wTwo, wOne, wName, wCon, wCb, wCons, wNil, wRetG, wTag, wSlcA, wO0, wO1, wIfS, wBl, wFn, wFnG, wSetFA, wFldA, wMethA0, wNotT, wOrT, wAndV, Dl.wTru, wLst, wTup, wDats, dats, isB, wSubA, wSetA, wSetLA, wExpr, wPar2, par2, wPar3, par3, wItems, itemsW, wRng1, wFor, endG, List.set_cons_zero, List.set_cons_succ, List.getElem?_cons_zero, List.getElem?_cons_succ, Option.map_some]
  refine And.intro (szk 3) ?_
  refine asgW_i rfl ?_
  try dsimp only [wConsS, wNilS, wAsg, wTwo, wOne, wName, wCon, wCb, wCons, wNil, wRetG, wTag, wSlcA, wO0, wO1, wIfS, wBl, wFn, wFnG, wSetFA, wFldA, wMethA0, wNotT, wOrT, wAndV, Dl.wTru, wLst, wTup, wDats, dats, isB, wSubA, wSetA, wSetLA, wExpr, wPar2, par2, wPar3, par3, wItems, itemsW, wRng1, wFor, endG, List.set_cons_zero, List.set_cons_succ, List.getElem?_cons_zero, List.getElem?_cons_succ, Option.map_some]
  refine And.intro (szk 1) ?_
  refine li2 (s3 := .dat (.lst (List.replicate (n : Int).toNat [v]).flatten)) (fun Q q => And.intro ⟨by omega, by omega, sz (show 1 * (n : Int).toNat ≤ _ by omega)⟩ q) ?_
  rw [Int.toNat_natCast, flat_one]
  refine ⟨p, cs.length, _, _, _, ⟨rfl, rfl, rfl⟩, at_last, kl_le (k := 9) (Nat.le_refl 9) (by decide), ?_⟩
  rw [set_last]
  refine asgW_i rfl ?_
  try dsimp only [wConsS, wNilS, wAsg, wTwo, wOne, wName, wCon, wCb, wCons, wNil, wRetG, wTag, wSlcA, wO0, wO1, wIfS, wBl, wFn, wFnG, wSetFA, wFldA, wMethA0, wNotT, wOrT, wAndV, Dl.wTru, wLst, wTup, wDats, dats, isB, wSubA, wSetA, wSetLA, wExpr, wPar2, par2, wPar3, par3, wItems, itemsW, wRng1, wFor, endG, List.set_cons_zero, List.set_cons_succ, List.getElem?_cons_zero, List.getElem?_cons_succ, Option.map_some]
  refine And.intro (szk 1) ?_
  refine li2 (s3 := .dat (.lst (List.replicate (n : Int).toNat [v]).flatten)) (fun Q q => And.intro ⟨by omega, by omega, sz (show 1 * (n : Int).toNat ≤ _ by omega)⟩ q) ?_
  rw [Int.toNat_natCast, flat_one]
  refine ⟨p, cs.length, _, _, _, ⟨rfl, rfl, rfl⟩, at_last, kl_le (k := 10) (put_len (Nat.le_refl 9)) (by decide), ?_⟩
  rw [set_last]
  refine asgW_i rfl ?_
  try dsimp only [wConsS, wNilS, wAsg, wTwo, wOne, wName, wCon, wCb, wCons, wNil, wRetG, wTag, wSlcA, wO0, wO1, wIfS, wBl, wFn, wFnG, wSetFA, wFldA, wMethA0, wNotT, wOrT, wAndV, Dl.wTru, wLst, wTup, wDats, dats, isB, wSubA, wSetA, wSetLA, wExpr, wPar2, par2, wPar3, par3, wItems, itemsW, wRng1, wFor, endG, List.set_cons_zero, List.set_cons_succ, List.getElem?_cons_zero, List.getElem?_cons_succ, Option.map_some]
  refine And.intro (szk 1) ?_
  refine li2 (s3 := .dat (.lst (List.replicate (n : Int).toNat [v]).flatten)) (fun Q q => And.intro ⟨by omega, by omega, sz (show 1 * (n : Int).toNat ≤ _ by omega)⟩ q) ?_
  rw [Int.toNat_natCast, flat_one]
  refine ⟨p, cs.length, _, _, _, ⟨rfl, rfl, rfl⟩, at_last, kl_le (k := 11) (put_len (put_len (Nat.le_refl 9))) (by decide), ?_⟩
  rw [set_last]
  try dsimp only [wConsS, wNilS, wAsg, wTwo, wOne, wName, wCon, wCb, wCons, wNil, wRetG, wTag, wSlcA, wO0, wO1, wIfS, wBl, wFn, wFnG, wSetFA, wFldA, wMethA0, wNotT, wOrT, wAndV, Dl.wTru, wLst, wTup, wDats, dats, isB, wSubA, wSetA, wSetLA, wExpr, wPar2, par2, wPar3, par3, wItems, itemsW, wRng1, wFor, endG, List.set_cons_zero, List.set_cons_succ, List.getElem?_cons_zero, List.getElem?_cons_succ, Option.map_some]
  refine And.intro (szk 3) ?_
  refine asgW_i rfl ?_
  try dsimp only [wConsS, wNilS, wAsg, wTwo, wOne, wName, wCon, wCb, wCons, wNil, wRetG, wTag, wSlcA, wO0, wO1, wIfS, wBl, wFn, wFnG, wSetFA, wFldA, wMethA0, wNotT, wOrT, wAndV, Dl.wTru, wLst, wTup, wDats, dats, isB, wSubA, wSetA, wSetLA, wExpr, wPar2, par2, wPar3, par3, wItems, itemsW, wRng1, wFor, endG, List.set_cons_zero, List.set_cons_succ, List.getElem?_cons_zero, List.getElem?_cons_succ, Option.map_some]
  refine ⟨p, cs.length, _, _, _, ⟨rfl, rfl, rfl⟩, at_last, kl_le (k := 12) (put_len (put_len (put_len (Nat.le_refl 9)))) (by decide), ?_⟩
  rw [set_last]
  refine asgW_i rfl ?_
  try dsimp only [wConsS, wNilS, wAsg, wTwo, wOne, wName, wCon, wCb, wCons, wNil, wRetG, wTag, wSlcA, wO0, wO1, wIfS, wBl, wFn, wFnG, wSetFA, wFldA, wMethA0, wNotT, wOrT, wAndV, Dl.wTru, wLst, wTup, wDats, dats, isB, wSubA, wSetA, wSetLA, wExpr, wPar2, par2, wPar3, par3, wItems, itemsW, wRng1, wFor, endG, List.set_cons_zero, List.set_cons_succ, List.getElem?_cons_zero, List.getElem?_cons_succ, Option.map_some]
  refine ⟨p, cs.length, _, _, _, ⟨rfl, rfl, rfl⟩, at_last, kl_le (k := 13) (put_len (put_len (put_len (put_len (Nat.le_refl 9))))) (by decide), ?_⟩
  rw [set_last]
  refine asgW_i rfl ?_
  try dsimp only [wConsS, wNilS, wAsg, wTwo, wOne, wName, wCon, wCb, wCons, wNil, wRetG, wTag, wSlcA, wO0, wO1, wIfS, wBl, wFn, wFnG, wSetFA, wFldA, wMethA0, wNotT, wOrT, wAndV, Dl.wTru, wLst, wTup, wDats, dats, isB, wSubA, wSetA, wSetLA, wExpr, wPar2, par2, wPar3, par3, wItems, itemsW, wRng1, wFor, endG, List.set_cons_zero, List.set_cons_succ, List.getElem?_cons_zero, List.getElem?_cons_succ, Option.map_some]
  refine ⟨p, cs.length, _, _, _, ⟨rfl, rfl, rfl⟩, at_last, kl_le (k := 14) (put_len (put_len (put_len (put_len (put_len (Nat.le_refl 9)))))) (by decide), ?_⟩
  rw [set_last]
  refine q' p _ ?_
  kernel_rfl
theorem copy_c (e : cs[q]? = some (.dctA a (know d))) (q : ∀ p : Addr, R (.dat (.cls p)) (cs ++ [.dctA p (know d)])) : c__law_copy [.dat (.cls a)] cs R := by
  have q' : ∀ (p : Addr) (kds : List (Key × D)), kds = know d → R (.dat (.cls p)) (cs ++ [.dctA p kds]) := fun p kds e => e ▸ q p
  refine ⟨rfl, (?_ : w__law_copy _ ⟨[some (.dat (.cls a)), none, none], cs⟩ (endG R))⟩
  unfold w__law_copy wSetDA wDictItems wDgetA
  try dsimp only [wConsS, wNilS, wAsg, wTwo, wOne, wName, wCon, wCb, wCons, wNil, wRetG, wTag, wSlcA, wO0, wO1, wIfS, wBl, wFn, wFnG, wSetFA, wFldA, wMethA0, wNotT, wOrT, wAndV, Dl.wTru, wLst, wTup, wDats, dats, isB, wSubA, wSetA, wSetLA, wExpr, wPar2, par2, wPar3, par3, wItems, itemsW, wRng1, wFor, endG, List.set_cons_zero, List.set_cons_succ, List.getElem?_cons_zero, List.getElem?_cons_succ, Option.map_some]
  refine ⟨a, _, _, rfl, e, ?_⟩
  rw [show mergeD [] (know d) = know d by kernel_rfl]
  refine tag_d fun p => ?_
  try dsimp only [wConsS, wNilS, wAsg, wTwo, wOne, wName, wCon, wCb, wCons, wNil, wRetG, wTag, wSlcA, wO0, wO1, wIfS, wBl, wFn, wFnG, wSetFA, wFldA, wMethA0, wNotT, wOrT, wAndV, Dl.wTru, wLst, wTup, wDats, dats, isB, wSubA, wSetA, wSetLA, wExpr, wPar2, par2, wPar3, par3, wItems, itemsW, wRng1, wFor, endG, List.set_cons_zero, List.set_cons_succ, List.getElem?_cons_zero, List.getElem?_cons_succ, Option.map_some]
  refine And.intro (szk 3) ?_
  refine asgW_i rfl ?_
  try dsimp only [wConsS, wNilS, wAsg, wTwo, wOne, wName, wCon, wCb, wCons, wNil, wRetG, wTag, wSlcA, wO0, wO1, wIfS, wBl, wFn, wFnG, wSetFA, wFldA, wMethA0, wNotT, wOrT, wAndV, Dl.wTru, wLst, wTup, wDats, dats, isB, wSubA, wSetA, wSetLA, wExpr, wPar2, par2, wPar3, par3, wItems, itemsW, wRng1, wFor, endG, List.set_cons_zero, List.set_cons_succ, List.getElem?_cons_zero, List.getElem?_cons_succ, Option.map_some]
  refine kd_at (kds := know d) (Kept.app (X := []) _ _ (by simp) e) ⟨_, .lst d.A, rfl, know_a d .A, ?_⟩
  refine lsd_l ls_d ?_
  refine ⟨p, cs.length, _, _, _, ⟨rfl, rfl, rfl⟩, at_last, kl_le (k := 9) (Nat.le_refl 9) (by decide), ?_⟩
  rw [set_last]
  refine asgW_i rfl ?_
  try dsimp only [wConsS, wNilS, wAsg, wTwo, wOne, wName, wCon, wCb, wCons, wNil, wRetG, wTag, wSlcA, wO0, wO1, wIfS, wBl, wFn, wFnG, wSetFA, wFldA, wMethA0, wNotT, wOrT, wAndV, Dl.wTru, wLst, wTup, wDats, dats, isB, wSubA, wSetA, wSetLA, wExpr, wPar2, par2, wPar3, par3, wItems, itemsW, wRng1, wFor, endG, List.set_cons_zero, List.set_cons_succ, List.getElem?_cons_zero, List.getElem?_cons_succ, Option.map_some]
  refine kd_at (kds := know d) (Kept.app (X := []) _ _ (by simp) e) ⟨_, .lst d.B, rfl, know_a d .B, ?_⟩
  refine lsd_l ls_d ?_
  refine ⟨p, cs.length, _, _, _, ⟨rfl, rfl, rfl⟩, at_last, kl_le (k := 10) (put_len (Nat.le_refl 9)) (by decide), ?_⟩
  rw [set_last]
  refine asgW_i rfl ?_
  try dsimp only [wConsS, wNilS, wAsg, wTwo, wOne, wName, wCon, wCb, wCons, wNil, wRetG, wTag, wSlcA, wO0, wO1, wIfS, wBl, wFn, wFnG, wSetFA, wFldA, wMethA0, wNotT, wOrT, wAndV, Dl.wTru, wLst, wTup, wDats, dats, isB, wSubA, wSetA, wSetLA, wExpr, wPar2, par2, wPar3, par3, wItems, itemsW, wRng1, wFor, endG, List.set_cons_zero, List.set_cons_succ, List.getElem?_cons_zero, List.getElem?_cons_succ, Option.map_some]
  refine kd_at (kds := know d) (Kept.app (X := []) _ _ (by simp) e) ⟨_, .lst d.C, rfl, know_a d .C, ?_⟩
  refine lsd_l ls_d ?_
  refine ⟨p, cs.length, _, _, _, ⟨rfl, rfl, rfl⟩, at_last, kl_le (k := 11) (put_len (put_len (Nat.le_refl 9))) (by decide), ?_⟩
  rw [set_last]
  refine q' p _ ?_
  kernel_rfl
end

/-! ### whether a state is the law's -/
section
variable {cs cs' ts : List Cell} {a b r pc ph po p : Addr} {d d' : Sd} {i j o c h f q n : Nat} {R : RV} {Rx : RX} {ds l : List D} {v fill : D} {k m : Int} {w1 : WS} {P : PJ}
/-- repr of a list of values -/
theorem rep_lg (h : Ls cs s1 ds) (hv : ∀ d ∈ ds, Gv d) (hl : ds.length ≤ 100) (q : R (.dat (.str (rprD (.lst ds)))) cs) : liWC reprLW [s1] cs R := by
  obtain ⟨s', d, e⟩ := h
  refine ⟨[s'], .cons d .nil, ?_⟩
  unfold reprLW
  dsimp only
  rw [e]
  exact ⟨(gv_rn hv hl).ok (by decide), (gv_rn hv hl).len (by decide), rw_ (P := R (.dat (.str (rprD (.lst ds))))) q⟩
theorem rep_n {k : Int} (h : k.natAbs < 2 ^ 40) (q : R (.dat (.str (toString k))) cs) : liWC reprLW [.dat (.int k)] cs R := li1 (s2 := .dat (.str (toString k))) (fun Q q => And.intro (by
  rcases Nat.eq_zero_or_pos k.natAbs with z | z
  · rw [z]; decide
  · exact Nat.lt_trans ((Nat.log2_lt (k := 40) (by omega)).mpr h) (by decide)) q) q
theorem isA_s (s : St cs a d o c h f) (e : cs[q]? = some (.dctA p (know d))) (g : d.gd) (x : Na) (hn : ∀ ts, P.nx ⟨[some (.dat (.cls a)), some (.dat (.cls p)), some (.dat (.str x.str))], cs ++ ts⟩) :
    wConsS (wIfS (wBl (wTwo (wCb (wCons (wMethA0 0 "cells" c_Ring_cells (wSubAX 1 c_State___getitem__ (wName 0) (wName 2))) wNil) (liWC reprLW)) (wCb (wCons (wDgetA (wName 1) (wName 2)) wNil) (liWC reprLW)) (liW2 (eqW true)))) w1 wNilS) wNilS ⟨[some (.dat (.cls a)), some (.dat (.cls p)), some (.dat (.str x.str))], cs⟩ P := by
  unfold wSubAX wDgetA
  try dsimp only [wConsS, wNilS, wAsg, wTwo, wOne, wName, wCon, wCb, wCons, wNil, wRetG, wTag, wSlcA, wO0, wO1, wIfS, wBl, wFn, wFnG, wSetFA, wFldA, wMethA0, wNotT, wOrT, wAndV, Dl.wTru, wLst, wTup, wDats, dats, isB, wSubA, wSetA, wSetLA, wExpr, wPar2, par2, wPar3, par3, wItems, itemsW, wRng1, wFor, endG, List.set_cons_zero, List.set_cons_succ, List.getElem?_cons_zero, List.getElem?_cons_succ, Option.map_some]
  refine And.intro s.ref ?_
  refine get_a s x (by rw [g.la]; exact g.n0) fun y p2 => ?_
  try dsimp only [wConsS, wNilS, wAsg, wTwo, wOne, wName, wCon, wCb, wCons, wNil, wRetG, wTag, wSlcA, wO0, wO1, wIfS, wBl, wFn, wFnG, wSetFA, wFldA, wMethA0, wNotT, wOrT, wAndV, Dl.wTru, wLst, wTup, wDats, dats, isB, wSubA, wSetA, wSetLA, wExpr, wPar2, par2, wPar3, par3, wItems, itemsW, wRng1, wFor, endG, List.set_cons_zero, List.set_cons_succ, List.getElem?_cons_zero, List.getElem?_cons_succ, Option.map_some]
  refine And.intro (met_c rg_new (by decide)) ?_
  refine cells_d rg_new ?_
  try dsimp only [wConsS, wNilS, wAsg, wTwo, wOne, wName, wCon, wCb, wCons, wNil, wRetG, wTag, wSlcA, wO0, wO1, wIfS, wBl, wFn, wFnG, wSetFA, wFldA, wMethA0, wNotT, wOrT, wAndV, Dl.wTru, wLst, wTup, wDats, dats, isB, wSubA, wSetA, wSetLA, wExpr, wPar2, par2, wPar3, par3, wItems, itemsW, wRng1, wFor, endG, List.set_cons_zero, List.set_cons_succ, List.getElem?_cons_zero, List.getElem?_cons_succ, Option.map_some]
  refine rep_lg ls_d (g.va x) (by rw [g.la]; have := g.n1; omega) ?_
  refine kd_at (kds := know d) (Kept.app (X := []) _ _ (by simp) e) ⟨_, .lst (d.a x), rfl, know_a d x, ?_⟩
  refine rep_lg ls_d (g.va x) (by rw [g.la]; have := g.n1; omega) ?_
  refine leqS ?_
  refine Br.ff (by rw [decide_eq_true rfl]; rfl) ?_
  exact hn _
theorem isH_s (s : St cs a d o c h f) (e : cs[q]? = some (.dctA p (know d))) (g : d.gd) (x : Nr) (hn : P.nx ⟨[some (.dat (.cls a)), some (.dat (.cls p)), some (.dat (.str x.str))], cs⟩) :
    wConsS (wIfS (wBl (wTwo (wCb (wCons (wSubAX 1 c_State___getitem__ (wName 0) (wName 2)) wNil) (liWC reprLW)) (wCb (wCons (wDgetA (wName 1) (wName 2)) wNil) (liWC reprLW)) (liW2 (eqW true)))) w1 wNilS) wNilS ⟨[some (.dat (.cls a)), some (.dat (.cls p)), some (.dat (.str x.str))], cs⟩ P := by
  unfold wSubAX wDgetA
  try dsimp only [wConsS, wNilS, wAsg, wTwo, wOne, wName, wCon, wCb, wCons, wNil, wRetG, wTag, wSlcA, wO0, wO1, wIfS, wBl, wFn, wFnG, wSetFA, wFldA, wMethA0, wNotT, wOrT, wAndV, Dl.wTru, wLst, wTup, wDats, dats, isB, wSubA, wSetA, wSetLA, wExpr, wPar2, par2, wPar3, par3, wItems, itemsW, wRng1, wFor, endG, List.set_cons_zero, List.set_cons_succ, List.getElem?_cons_zero, List.getElem?_cons_succ, Option.map_some]
  obtain ⟨t, ht⟩ := (g.vh x).rep
  refine And.intro s.ref ?_
  refine get_h s x ?_
  try dsimp only [wConsS, wNilS, wAsg, wTwo, wOne, wName, wCon, wCb, wCons, wNil, wRetG, wTag, wSlcA, wO0, wO1, wIfS, wBl, wFn, wFnG, wSetFA, wFldA, wMethA0, wNotT, wOrT, wAndV, Dl.wTru, wLst, wTup, wDats, dats, isB, wSubA, wSetA, wSetLA, wExpr, wPar2, par2, wPar3, par3, wItems, itemsW, wRng1, wFor, endG, List.set_cons_zero, List.set_cons_succ, List.getElem?_cons_zero, List.getElem?_cons_succ, Option.map_some]
  refine ht _ _ ?_
  refine kd_at (kds := know d) e ⟨_, d.h x, rfl, know_h d x, ?_⟩
  refine ht _ _ ?_
  refine leqS ?_
  refine Br.ff (by rw [decide_eq_true rfl]; rfl) ?_
  exact hn
theorem isO_s (s : St cs a d o c h f) (e : cs[q]? = some (.dctA p (know d))) (g : d.gd) (x : No) (hn : P.nx ⟨[some (.dat (.cls a)), some (.dat (.cls p)), some (.dat (.str x.str))], cs⟩) :
    wConsS (wIfS (wBl (wTwo (wCb (wCons (wSubAX 1 c_State___getitem__ (wName 0) (wName 2)) wNil) (liWC reprLW)) (wCb (wCons (wDgetA (wName 1) (wName 2)) wNil) (liWC reprLW)) (liW2 (eqW true)))) w1 wNilS) wNilS ⟨[some (.dat (.cls a)), some (.dat (.cls p)), some (.dat (.str x.str))], cs⟩ P := by
  unfold wSubAX wDgetA
  try dsimp only [wConsS, wNilS, wAsg, wTwo, wOne, wName, wCon, wCb, wCons, wNil, wRetG, wTag, wSlcA, wO0, wO1, wIfS, wBl, wFn, wFnG, wSetFA, wFldA, wMethA0, wNotT, wOrT, wAndV, Dl.wTru, wLst, wTup, wDats, dats, isB, wSubA, wSetA, wSetLA, wExpr, wPar2, par2, wPar3, par3, wItems, itemsW, wRng1, wFor, endG, List.set_cons_zero, List.set_cons_succ, List.getElem?_cons_zero, List.getElem?_cons_succ, Option.map_some]
  have hk : (d.o x).natAbs < 2 ^ 40 := by
    have := g.vo x
    have := g.n1
    omega
  refine And.intro s.ref ?_
  refine get_o s x ?_
  try dsimp only [wConsS, wNilS, wAsg, wTwo, wOne, wName, wCon, wCb, wCons, wNil, wRetG, wTag, wSlcA, wO0, wO1, wIfS, wBl, wFn, wFnG, wSetFA, wFldA, wMethA0, wNotT, wOrT, wAndV, Dl.wTru, wLst, wTup, wDats, dats, isB, wSubA, wSetA, wSetLA, wExpr, wPar2, par2, wPar3, par3, wItems, itemsW, wRng1, wFor, endG, List.set_cons_zero, List.set_cons_succ, List.getElem?_cons_zero, List.getElem?_cons_succ, Option.map_some]
  refine rep_n hk ?_
  refine kd_at (kds := know d) e ⟨_, .int (d.o x), rfl, know_o d x, ?_⟩
  refine rep_n hk ?_
  refine leqS ?_
  refine Br.ff (by rw [decide_eq_true rfl]; rfl) ?_
  exact hn
theorem for3 {d1 d2 d3 : D} {x : Pat} {body rest : WS} {S : Sta} (h : forW x body [d1, d2, d3] S { P with nx := fun S' => rest S' P }) : wConsS (wFor (wItems (wTup (wCons (wCon d1) (wCons (wCon d2) (wCons (wCon d3) wNil))))) x body) rest S P := And.intro (szk 3) h
theorem for5 {d1 d2 d3 d4 d5 : D} {x : Pat} {body rest : WS} {S : Sta} (h : forW x body [d1, d2, d3, d4, d5] S { P with nx := fun S' => rest S' P }) : wConsS (wFor (wItems (wTup (wCons (wCon d1) (wCons (wCon d2) (wCons (wCon d3) (wCons (wCon d4) (wCons (wCon d5) wNil))))))) x body) rest S P := And.intro (szk 5) h
theorem forW_i {x : Pat} {wb : WS} {e : D} {es : List D} {S : Sta} {sl' : Sls} (hx : asgP x e S.sl = some sl') (h : wb ⟨sl', S.cs⟩ { P with nx := fun S' => forW x wb es S' P, ct := fun S' => forW x wb es S' P, bk := P.nx }) : forW x wb (e :: es) S P := asgW_i hx h
theorem is_c (s : St cs a d o c h f) (e : cs[q]? = some (.dctA p (know d))) (g : d.gd) (hq : ∀ ts, R (.dat (.bl true)) (cs ++ ts)) : c__law_is_state [.dat (.cls a), .dat (.cls p)] cs R := by
  refine ⟨rfl, (?_ : w__law_is_state _ ⟨[some (.dat (.cls a)), some (.dat (.cls p)), none], cs⟩ (endG R))⟩
  unfold w__law_is_state
  refine consS_i (S' := ⟨[some (.dat (.cls a)), some (.dat (.cls p)), none], cs⟩) (fun P' hP' => ?_) ?_
  · unfold wDgetA
    try dsimp only [wConsS, wNilS, wAsg, wTwo, wOne, wName, wCon, wCb, wCons, wNil, wRetG, wTag, wSlcA, wO0, wO1, wIfS, wBl, wFn, wFnG, wSetFA, wFldA, wMethA0, wNotT, wOrT, wAndV, Dl.wTru, wLst, wTup, wDats, dats, isB, wSubA, wSetA, wSetLA, wExpr, wPar2, par2, wPar3, par3, wItems, itemsW, wRng1, wFor, endG, List.set_cons_zero, List.set_cons_succ, List.getElem?_cons_zero, List.getElem?_cons_succ, Option.map_some]
    refine fld_size s ?_
    refine rep_n (by have := g.n1; omega) ?_
    refine kd_at (kds := know d) e ⟨_, .int d.n, rfl, know_n d, ?_⟩
    refine rep_n (by have := g.n1; omega) ?_
    refine leqS ?_
    refine Br.ff (by rw [decide_eq_true rfl]; rfl) ?_
    exact hP'
  have e' : ∀ ts, (cs ++ ts)[q]? = some (.dctA p (know d)) := fun ts => Kept.app (X := []) _ _ (by simp) e
  refine for3 ?_
  refine forW_i rfl ?_
  refine isA_s s e g .A fun t1 => ?_
  dsimp only
  refine forW_i rfl ?_
  refine isA_s s.app (e' t1) g .B fun t2 => ?_
  dsimp only
  refine forW_i rfl ?_
  refine isA_s s.app.app (Kept.app (X := []) _ _ (by simp) (e' t1)) g .C fun t3 => ?_
  rw [List.append_assoc, List.append_assoc]
  generalize t1 ++ (t2 ++ t3) = t
  dsimp only [forW]
  refine for5 ?_
  refine forW_i rfl ?_
  refine isH_s s.app (e' t) g .r ?_
  dsimp only
  refine forW_i rfl ?_
  refine isH_s s.app (e' t) g .s ?_
  dsimp only
  refine forW_i rfl ?_
  refine isH_s s.app (e' t) g .t ?_
  dsimp only
  refine forW_i rfl ?_
  refine isO_s s.app (e' t) g .i ?_
  dsimp only
  refine forW_i rfl ?_
  refine isO_s s.app (e' t) g .j ?_
  exact hq t
end

/-! ### the box and the cells around it -/
section
variable {cs cs' cs2 ts : List Cell} {a r p : Addr} {d d' e : D} {sd sd' : Sd} {i j k o c h f q : Nat} {R : RV} {ds : List D} {b b' : B} {X : List Nat} {y : Cell} {w : Ct}
theorem box_ {k0 : Nat} (e : cs[0]? = some (bx b)) : Kept [0] cs (cs.set 0 (bx b')) ∧ (cs.set 0 (bx b'))[0]? = some (bx b') ∧ (cs.set 0 (bx b')).length = cs.length :=
  ⟨Kept.set (List.mem_singleton.mpr rfl), List.getElem?_set_self (List.getElem?_eq_some_iff.mp e).1, List.length_set⟩
theorem box0 (hb : cs[0]? = some (bx b)) (hc : w [.cel 0] [bx b] (.dat d) [bx b']) (q : ∀ cs', Kept [0] cs cs' → cs'[0]? = some (bx b') → cs'.length = cs.length → R (.dat d) cs') : callW w [.cel 0] cs R := by
  obtain ⟨e1, e2, e3⟩ := box_ (b' := b') (k0 := 0) hb
  show (match cs[0]? with
    | some c0 => ∃ d c1, w [.cel 0] [c0] (.dat d) [c1] ∧ R (.dat d) (cs.set 0 c1)
    | none => False)
  rw [hb]
  exact ⟨d, bx b', hc, q _ e1 e2 e3⟩
theorem box1 (hb : cs[0]? = some (bx b)) (hc : w [.cel 0, .dat e] [bx b] (.dat d) [bx b']) (q : ∀ cs', Kept [0] cs cs' → cs'[0]? = some (bx b') → cs'.length = cs.length → R (.dat d) cs') : callW w [.cel 0, .dat e] cs R := by
  obtain ⟨e1, e2, e3⟩ := box_ (b' := b') (k0 := 0) hb
  show (match cs[0]? with
    | some c0 => ∃ d c1, w [.cel 0, .dat e] [c0] (.dat d) [c1] ∧ R (.dat d) (cs.set 0 c1)
    | none => False)
  rw [hb]
  exact ⟨d, bx b', hc, q _ e1 e2 e3⟩
theorem Rg.kept (g : Rg cs a r i j ds) (k : Kept X cs cs') (h1 : i ∉ X) (h2 : j ∉ X) : Rg cs' a r i j ds := ⟨k _ _ h1 g.o, k _ _ h2 g.l⟩
theorem Kept.new (x : Kept X cs cs') (hj : cs.length ≤ j) : Kept X cs (cs'.set j y) := fun k c n e => by
  have lk := (List.getElem?_eq_some_iff.mp e).1
  rw [List.getElem?_set_ne (by omega)]
  exact x k c n e
theorem Kept.more (x : Kept X cs cs') : Kept X cs (cs' ++ ts) := x.trans Kept.app
theorem St.n0 (s : St cs a sd o c h f) (hb : cs[0]? = some (bx b)) : o ≠ 0 ∧ c ≠ 0 ∧ h ≠ 0 ∧ f ≠ 0 := by
  obtain ⟨pc, ph, po, e1, e2, e3, e4⟩ := s.ex
  refine ⟨fun z => ?_, fun z => ?_, fun z => ?_, fun z => ?_⟩
  · rw [z, hb] at e1; cases e1
  · rw [z, hb] at e2; cases e2
  · rw [z, hb] at e3; cases e3
  · rw [z, hb] at e4; cases e4
theorem nq0 (hq : cs[q]? = some (.dctA p (know sd'))) (hb : cs[0]? = some (bx b)) : q ≠ 0 := fun z => by rw [z, hb] at hq; cases hq
theorem St.nq (s : St cs a sd o c h f) (hq : cs[q]? = some (.dctA p (know sd'))) : q ≠ o ∧ q ≠ c ∧ q ≠ h ∧ q ≠ f := by
  obtain ⟨pc, ph, po, e1, e2, e3, e4⟩ := s.ex
  refine ⟨fun z => ?_, fun z => ?_, fun z => ?_, fun z => ?_⟩
  · rw [z, e1] at hq; cases hq
  · rw [z, e2] at hq
    have e : kcon sd = know sd' := by injection hq with hq; injection hq with _ e
    have this : (3 : Nat) = 9 := congrArg List.length e
    exact absurd this (by decide)
  · rw [z, e3] at hq
    have e : khel sd = know sd' := by injection hq with hq; injection hq with _ e
    have this : (3 : Nat) = 9 := congrArg List.length e
    exact absurd this (by decide)
  · rw [z, e4] at hq
    have e : koff sd = know sd' := by injection hq with hq; injection hq with _ e
    have this : (2 : Nat) = 9 := congrArg List.length e
    exact absurd this (by decide)
theorem wFn0 {x : Nat} {sl : Sls} {s : Sl} {Rx : RX} (e : sl[x]? = some (some s)) (h : callW w [s] cs R) : wFn w (wCons (wName x) wNil) sl cs R Rx := by
  unfold wFn wCons wNil
  exact wN_i (Rx := Rx) e h
end
/-- a list of drawn values, over any cells -/
theorem cells2_ex : ∀ (xs : List D) (b : B), Ok b → ∃ ds b', Ok b' ∧ ds.length = xs.length ∧ (∀ d ∈ ds, Vl d) ∧ ∀ (cs : List Cell) (sl : Sls) (Q : List D → List Cell → Prop), cs[0]? = some (bx b) → (∀ e : D, (sl.set 6 (some (.dat e)))[0]? = some (some (.cel 0))) →
    (∀ cs', Kept [0] cs cs' → cs'[0]? = some (bx b') → cs'.length = cs.length → Q ds cs') → lcW (.nm 6) wYes (wFn c__law_some_value (wCons (wName 0) wNil)) sl xs cs Q
  | [], b, hb => ⟨[], b, hb, rfl, (fun _ z => nomatch z), fun cs sl Q e _ q => q cs Kept.refl e rfl⟩
  | x :: xs, b, hb => by
    obtain ⟨d, b1, hv, o1, hc⟩ := some_ex hb
    obtain ⟨ds, b2, o2, hl, hvs, k⟩ := cells2_ex xs b1 o1
    refine ⟨d :: ds, b2, o2, by rw [List.length_cons, List.length_cons, hl], fun e he => ?_, fun cs sl Q e hs q => ?_⟩
    · rcases List.mem_cons.mp he with rfl | he
      · exact hv
      · exact hvs e he
    · refine asgW_i rfl (Br.tt rfl ?_)
      refine wFn0 (hs x) ?_
      refine box0 e hc fun cs' k1 e1 l1 => ?_
      exact k cs' sl _ e1 hs fun cs2 k2 e2 l2 => q cs2 (k1.trans k2) e2 (l2.trans l1)

/-! ### a drawn name set -/
section
variable {cs : List Cell} {a p : Addr} {d : Sd} {o c h f q : Nat} {R : RV} {b b1 b' : B}
def c8 : List D := [.str "A", .str "B", .str "C", .str "r", .str "s", .str "t", .str "i", .str "j"]
/-- what setting does, by the cells -/
def SetC (d d' : Sd) (b b' : B) : Prop := ∀ (cs : List Cell) (a p : Addr) (o c h f q : Nat) (R : RV), cs[0]? = some (bx b) → St cs a d o c h f → cs[q]? = some (.dctA p (know d)) →
  (∀ cs', Kept [0, c, h, f, q] cs cs' → cs'[0]? = some (bx b') → St cs' a d' o c h f → cs'[q]? = some (.dctA p (know d')) → R (.dat .non) cs') → c__law_set [.cel 0, .dat (.cls a), .dat (.cls p)] cs R
theorem setA_ex (g : d.gd) (o1 : Ok b1) (x : Na) (hp : c__law_pick [.cel 0, .dat (.lst c8)] [bx b] (.dat (.str x.str)) [bx b1]) : ∃ d' b', Ok b' ∧ d'.gd ∧ d'.n = d.n ∧ SetC d d' b b' := by
  obtain ⟨ds, b2, o2, hl, hv, kc⟩ := cells2_ex (rangeD 0 (d.n : Int).toNat) b1 o1
  obtain ⟨k, b3, o3, hf⟩ := far2_ex o2
  rw [rngD_len, Int.toNat_natCast] at hl
  have n0 := g.n0
  have n1 := g.n1
  refine ⟨d.putA ds x, b3, o3, gd_putA g x hl fun e he => (hv e he).gv, putA_n d ds x, fun cs a p o c h f q R hb s e hq => ?_⟩
  obtain ⟨no, nc, nh, nf⟩ := s.n0 hb
  have nq := nq0 e hb
  obtain ⟨qo, qc, qh, qf⟩ := s.nq e
  obtain ⟨⟨oc, oh, of⟩, ch, cf, hf'⟩ := s.ne
  obtain ⟨lo, lc, lh, lf⟩ := s.lt
  have lq := (List.getElem?_eq_some_iff.mp e).1
  refine ⟨rfl, (?_ : w__law_set _ ⟨[some (.cel 0), some (.dat (.cls a)), some (.dat (.cls p)), none, none, none, none, none, none], cs⟩ (endG R))⟩
  unfold w__law_set wDgetA wSetDA wSetAX wMakeAX wLc
  try dsimp only [wConsS, wNilS, wAsg, wTwo, wOne, wName, wCon, wCb, wCons, wNil, wRetG, wTag, wSlcA, wO0, wO1, wIfS, wBl, wFn, wFnG, wSetFA, wFldA, wMethA0, wNotT, wOrT, wAndV, Dl.wTru, wLst, wTup, wDats, dats, isB, wSubA, wSetA, wSetLA, wExpr, wPar2, par2, wPar3, par3, wItems, itemsW, wRng1, wFor, endG, List.set_cons_zero, List.set_cons_succ, List.getElem?_cons_zero, List.getElem?_cons_succ, Option.map_some]
  refine And.intro (szk 8) ?_
  refine box1 hb hp fun c1 k1 e1 l1 => ?_
  try dsimp only [wConsS, wNilS, wAsg, wTwo, wOne, wName, wCon, wCb, wCons, wNil, wRetG, wTag, wSlcA, wO0, wO1, wIfS, wBl, wFn, wFnG, wSetFA, wFldA, wMethA0, wNotT, wOrT, wAndV, Dl.wTru, wLst, wTup, wDats, dats, isB, wSubA, wSetA, wSetLA, wExpr, wPar2, par2, wPar3, par3, wItems, itemsW, wRng1, wFor, endG, List.set_cons_zero, List.set_cons_succ, List.getElem?_cons_zero, List.getElem?_cons_succ, Option.map_some]
  refine kd_at (kds := know d) (k1 _ _ (by simpa using nq) e) ⟨_, .int d.n, rfl, know_n d, ?_⟩
  try dsimp only [wConsS, wNilS, wAsg, wTwo, wOne, wName, wCon, wCb, wCons, wNil, wRetG, wTag, wSlcA, wO0, wO1, wIfS, wBl, wFn, wFnG, wSetFA, wFldA, wMethA0, wNotT, wOrT, wAndV, Dl.wTru, wLst, wTup, wDats, dats, isB, wSubA, wSetA, wSetLA, wExpr, wPar2, par2, wPar3, par3, wItems, itemsW, wRng1, wFor, endG, List.set_cons_zero, List.set_cons_succ, List.getElem?_cons_zero, List.getElem?_cons_succ, Option.map_some]
  refine And.intro (szk 3) ?_
  refine tin (in_aa x) ?_
  refine Br.tt rfl ?_
  refine And.intro (show SmI (d.n : Int) by unfold SmI; omega) ?_
  refine And.intro (by rw [rngD_len]; exact Nat.lt_of_le_of_lt (show _ ≤ 1000 by omega) (by decide)) ?_
  refine kc c1 _ _ e1 (fun _ => rfl) fun c2 k2 e2 l2 => ?_
  try dsimp only [wConsS, wNilS, wAsg, wTwo, wOne, wName, wCon, wCb, wCons, wNil, wRetG, wTag, wSlcA, wO0, wO1, wIfS, wBl, wFn, wFnG, wSetFA, wFldA, wMethA0, wNotT, wOrT, wAndV, Dl.wTru, wLst, wTup, wDats, dats, isB, wSubA, wSetA, wSetLA, wExpr, wPar2, par2, wPar3, par3, wItems, itemsW, wRng1, wFor, endG, List.set_cons_zero, List.set_cons_succ, List.getElem?_cons_zero, List.getElem?_cons_succ, Option.map_some]
  refine ⟨rfl, rfl, ?_⟩
  refine make_c (.inl ls_d) (by omega) fun y py => ?_
  try dsimp only [wConsS, wNilS, wAsg, wTwo, wOne, wName, wCon, wCb, wCons, wNil, wRetG, wTag, wSlcA, wO0, wO1, wIfS, wBl, wFn, wFnG, wSetFA, wFldA, wMethA0, wNotT, wOrT, wAndV, Dl.wTru, wLst, wTup, wDats, dats, isB, wSubA, wSetA, wSetLA, wExpr, wPar2, par2, wPar3, par3, wItems, itemsW, wRng1, wFor, endG, List.set_cons_zero, List.set_cons_succ, List.getElem?_cons_zero, List.getElem?_cons_succ, Option.map_some]
  have lc2 : cs.length = c2.length := by omega
  have k12 := k1.trans k2
  have s2 : St c2 a d o c h f := s.kept k12 (by simpa using no) (by simpa using nc) (by simpa using nh) (by simpa using nf)
  have s3 : St (c2 ++ [Cell.insA y 0 [("row", .cls py)], Cell.lstA py ds]) a d o c h f := s2.app
  refine And.intro s3.ref ?_
  refine set_a s3 x (rg_new (x := y) (p := py)) hl (by omega) fun c4 k4 l4 s4 => ?_
  have g4 : Rg c4 y py c2.length (c2.length + 1) ds := rg_new.kept k4 (by simp; omega) (by simp; omega)
  have e4 : c4[0]? = some (bx b2) := k4 _ _ (by simp; omega) (Kept.app (X := []) _ _ (by simp) e2)
  refine box0 e4 hf fun c5 k5 e5 l5 => ?_
  have g5 := g4.kept k5 (fun z => by have := List.mem_singleton.mp z; omega) (by simp)
  refine And.intro g5.ref ?_
  refine set_c g5 (by omega) ?_
  have k05 : Kept [0, c, h, f, q] cs c5 := (((k12.more (ts := [Cell.insA y 0 [("row", .cls py)], Cell.lstA py ds])).mono (by simp)).trans (k4.mono (by simp))).trans (k5.mono (by simp))
  have k06 := k05.new (j := c2.length + 1) (y := Cell.lstA py (ds.set (k % (ds.length : Int)).toNat (.str "later"))) (by omega)
  have s5 : St c5 a (d.putA ds x) o c h f := s4.kept k5 (by simpa using no) (by simpa using nc) (by simpa using nh) (by simpa using nf)
  have s6 := s5.kept (X := [c2.length + 1]) (cs' := c5.set (c2.length + 1) (Cell.lstA py (ds.set (k % (ds.length : Int)).toNat (.str "later")))) (Kept.set (by simp)) (by simp; omega) (by simp; omega) (by simp; omega) (by simp; omega)
  have k4q : (c2 ++ [Cell.insA y 0 [("row", .cls py)], Cell.lstA py ds])[q]? = some (.dctA p (know d)) := Kept.app (X := []) _ _ (by simp) (k12 _ _ (by simpa using nq) e)
  have q5 : c5[q]? = some (.dctA p (know d)) := k5 _ _ (by simpa using nq) (k4 _ _ (by simpa using qc) k4q)
  have q6 : (c5.set (c2.length + 1) (Cell.lstA py (ds.set (k % (ds.length : Int)).toNat (.str "later"))))[q]? = some (.dctA p (know d)) := by
    rw [List.getElem?_set_ne (by omega)]
    exact q5
  refine ⟨p, q, know d, _, .lst ds, ⟨rfl, rfl, rfl⟩, q6, kl_lt (k := 9) rfl (by decide), ?_⟩
  rw [know_putA]
  have lq6 := (List.getElem?_eq_some_iff.mp q6).1
  refine hq _ (k06.trans (Kept.set (by simp))) ?_ (s6.kept (X := [q]) (Kept.set (by simp)) (by simpa using Ne.symm qo) (by simpa using Ne.symm qc) (by simpa using Ne.symm qh) (by simpa using Ne.symm qf)) ?_
  · rw [List.getElem?_set_ne nq, List.getElem?_set_ne (by omega)]
    exact e5
  · rw [List.getElem?_set_self lq6]
end

/-! ### a register, an offset set; any name -/
section
variable {cs : List Cell} {a p : Addr} {d : Sd} {o c h f q : Nat} {R : RV} {b b1 b' : B}
theorem setH_ex (g : d.gd) (o1 : Ok b1) (x : Nr) (hp : c__law_pick [.cel 0, .dat (.lst c8)] [bx b] (.dat (.str x.str)) [bx b1]) : ∃ d' b', Ok b' ∧ d'.gd ∧ d'.n = d.n ∧ SetC d d' b b' := by
  obtain ⟨v, b2, hv, o2, hc⟩ := some_ex o1
  refine ⟨d.putH v x, b2, o2, gd_putH g x hv.gv, putH_n d v x, fun cs a p o c h f q R hb s e hq => ?_⟩
  obtain ⟨no, nc, nh, nf⟩ := s.n0 hb
  have nq := nq0 e hb
  obtain ⟨qo, qc, qh, qf⟩ := s.nq e
  refine ⟨rfl, (?_ : w__law_set _ ⟨[some (.cel 0), some (.dat (.cls a)), some (.dat (.cls p)), none, none, none, none, none, none], cs⟩ (endG R))⟩
  unfold w__law_set wDgetA wSetDA wSetAX wMakeAX wLc
  try dsimp only [wConsS, wNilS, wAsg, wTwo, wOne, wName, wCon, wCb, wCons, wNil, wRetG, wTag, wSlcA, wO0, wO1, wIfS, wBl, wFn, wFnG, wSetFA, wFldA, wMethA0, wNotT, wOrT, wAndV, Dl.wTru, wLst, wTup, wDats, dats, isB, wSubA, wSetA, wSetLA, wExpr, wPar2, par2, wPar3, par3, wItems, itemsW, wRng1, wFor, endG, List.set_cons_zero, List.set_cons_succ, List.getElem?_cons_zero, List.getElem?_cons_succ, Option.map_some]
  refine And.intro (szk 8) ?_
  refine box1 hb hp fun c1 k1 e1 l1 => ?_
  try dsimp only [wConsS, wNilS, wAsg, wTwo, wOne, wName, wCon, wCb, wCons, wNil, wRetG, wTag, wSlcA, wO0, wO1, wIfS, wBl, wFn, wFnG, wSetFA, wFldA, wMethA0, wNotT, wOrT, wAndV, Dl.wTru, wLst, wTup, wDats, dats, isB, wSubA, wSetA, wSetLA, wExpr, wPar2, par2, wPar3, par3, wItems, itemsW, wRng1, wFor, endG, List.set_cons_zero, List.set_cons_succ, List.getElem?_cons_zero, List.getElem?_cons_succ, Option.map_some]
  refine kd_at (kds := know d) (k1 _ _ (by simpa using nq) e) ⟨_, .int d.n, rfl, know_n d, ?_⟩
  try dsimp only [wConsS, wNilS, wAsg, wTwo, wOne, wName, wCon, wCb, wCons, wNil, wRetG, wTag, wSlcA, wO0, wO1, wIfS, wBl, wFn, wFnG, wSetFA, wFldA, wMethA0, wNotT, wOrT, wAndV, Dl.wTru, wLst, wTup, wDats, dats, isB, wSubA, wSetA, wSetLA, wExpr, wPar2, par2, wPar3, par3, wItems, itemsW, wRng1, wFor, endG, List.set_cons_zero, List.set_cons_succ, List.getElem?_cons_zero, List.getElem?_cons_succ, Option.map_some]
  refine And.intro (szk 3) ?_
  refine tin (in_ha x) ?_
  refine Br.ff rfl ?_
  refine And.intro (szk 3) ?_
  refine tin (in_hh x) ?_
  refine Br.tt rfl ?_
  refine box0 e1 hc fun c2 k2 e2 l2 => ?_
  try dsimp only [wConsS, wNilS, wAsg, wTwo, wOne, wName, wCon, wCb, wCons, wNil, wRetG, wTag, wSlcA, wO0, wO1, wIfS, wBl, wFn, wFnG, wSetFA, wFldA, wMethA0, wNotT, wOrT, wAndV, Dl.wTru, wLst, wTup, wDats, dats, isB, wSubA, wSetA, wSetLA, wExpr, wPar2, par2, wPar3, par3, wItems, itemsW, wRng1, wFor, endG, List.set_cons_zero, List.set_cons_succ, List.getElem?_cons_zero, List.getElem?_cons_succ, Option.map_some]
  have k12 := k1.trans k2
  have s2 : St c2 a d o c h f := s.kept k12 (by simpa using no) (by simpa using nc) (by simpa using nh) (by simpa using nf)
  refine And.intro s2.ref ?_
  refine set_h s2 x fun c4 k4 l4 s4 => ?_
  have q4 : c4[q]? = some (.dctA p (know d)) := k4 _ _ (by simpa using qh) (k12 _ _ (by simpa using nq) e)
  refine ⟨p, q, know d, _, v, ⟨rfl, rfl, rfl⟩, q4, kl_lt (k := 9) rfl (by decide), ?_⟩
  rw [know_putH]
  have lq4 := (List.getElem?_eq_some_iff.mp q4).1
  refine hq _ (((k12.mono (by simp)).trans (k4.mono (by simp))).trans (Kept.set (by simp))) ?_ (s4.kept (X := [q]) (Kept.set (by simp)) (by simpa using Ne.symm qo) (by simpa using Ne.symm qc) (by simpa using Ne.symm qh) (by simpa using Ne.symm qf)) ?_
  · rw [List.getElem?_set_ne nq]
    exact k4 _ _ (by simpa using Ne.symm nh) e2
  · rw [List.getElem?_set_self lq4]
theorem setO_ex (g : d.gd) (o1 : Ok b1) (x : No) (hp : c__law_pick [.cel 0, .dat (.lst c8)] [bx b] (.dat (.str x.str)) [bx b1]) : ∃ d' b', Ok b' ∧ d'.gd ∧ d'.n = d.n ∧ SetC d d' b b' := by
  obtain ⟨v, b2, o2, hc⟩ := far2_ex o1
  have n0 := g.n0
  refine ⟨d.putO (v % (d.n : Int)) x, b2, o2, gd_putO g x, putO_n d _ x, fun cs a p o c h f q R hb s e hq => ?_⟩
  obtain ⟨no, nc, nh, nf⟩ := s.n0 hb
  have nq := nq0 e hb
  obtain ⟨qo, qc, qh, qf⟩ := s.nq e
  refine ⟨rfl, (?_ : w__law_set _ ⟨[some (.cel 0), some (.dat (.cls a)), some (.dat (.cls p)), none, none, none, none, none, none], cs⟩ (endG R))⟩
  unfold w__law_set wDgetA wSetDA wSetAX wMakeAX wLc
  try dsimp only [wConsS, wNilS, wAsg, wTwo, wOne, wName, wCon, wCb, wCons, wNil, wRetG, wTag, wSlcA, wO0, wO1, wIfS, wBl, wFn, wFnG, wSetFA, wFldA, wMethA0, wNotT, wOrT, wAndV, Dl.wTru, wLst, wTup, wDats, dats, isB, wSubA, wSetA, wSetLA, wExpr, wPar2, par2, wPar3, par3, wItems, itemsW, wRng1, wFor, endG, List.set_cons_zero, List.set_cons_succ, List.getElem?_cons_zero, List.getElem?_cons_succ, Option.map_some]
  refine And.intro (szk 8) ?_
  refine box1 hb hp fun c1 k1 e1 l1 => ?_
  try dsimp only [wConsS, wNilS, wAsg, wTwo, wOne, wName, wCon, wCb, wCons, wNil, wRetG, wTag, wSlcA, wO0, wO1, wIfS, wBl, wFn, wFnG, wSetFA, wFldA, wMethA0, wNotT, wOrT, wAndV, Dl.wTru, wLst, wTup, wDats, dats, isB, wSubA, wSetA, wSetLA, wExpr, wPar2, par2, wPar3, par3, wItems, itemsW, wRng1, wFor, endG, List.set_cons_zero, List.set_cons_succ, List.getElem?_cons_zero, List.getElem?_cons_succ, Option.map_some]
  refine kd_at (kds := know d) (k1 _ _ (by simpa using nq) e) ⟨_, .int d.n, rfl, know_n d, ?_⟩
  try dsimp only [wConsS, wNilS, wAsg, wTwo, wOne, wName, wCon, wCb, wCons, wNil, wRetG, wTag, wSlcA, wO0, wO1, wIfS, wBl, wFn, wFnG, wSetFA, wFldA, wMethA0, wNotT, wOrT, wAndV, Dl.wTru, wLst, wTup, wDats, dats, isB, wSubA, wSetA, wSetLA, wExpr, wPar2, par2, wPar3, par3, wItems, itemsW, wRng1, wFor, endG, List.set_cons_zero, List.set_cons_succ, List.getElem?_cons_zero, List.getElem?_cons_succ, Option.map_some]
  refine And.intro (szk 3) ?_
  refine tin (in_oa x) ?_
  refine Br.ff rfl ?_
  refine And.intro (szk 3) ?_
  refine tin (in_oh x) ?_
  refine Br.ff rfl ?_
  refine box0 e1 hc fun c2 k2 e2 l2 => ?_
  try dsimp only [wConsS, wNilS, wAsg, wTwo, wOne, wName, wCon, wCb, wCons, wNil, wRetG, wTag, wSlcA, wO0, wO1, wIfS, wBl, wFn, wFnG, wSetFA, wFldA, wMethA0, wNotT, wOrT, wAndV, Dl.wTru, wLst, wTup, wDats, dats, isB, wSubA, wSetA, wSetLA, wExpr, wPar2, par2, wPar3, par3, wItems, itemsW, wRng1, wFor, endG, List.set_cons_zero, List.set_cons_succ, List.getElem?_cons_zero, List.getElem?_cons_succ, Option.map_some]
  have k12 := k1.trans k2
  have s2 : St c2 a d o c h f := s.kept k12 (by simpa using no) (by simpa using nc) (by simpa using nh) (by simpa using nf)
  refine And.intro s2.ref ?_
  refine set_o s2 x n0 fun c4 k4 l4 s4 => ?_
  have q4 : c4[q]? = some (.dctA p (know d)) := k4 _ _ (by simpa using qf) (k12 _ _ (by simpa using nq) e)
  refine lint ?_
  refine lmod (show (0 : Int) < (d.n : Int) by omega) ?_
  refine ⟨p, q, know d, _, .int (v % (d.n : Int)), ⟨rfl, rfl, rfl⟩, q4, kl_lt (k := 9) rfl (by decide), ?_⟩
  rw [know_putO]
  have lq4 := (List.getElem?_eq_some_iff.mp q4).1
  refine hq _ (((k12.mono (by simp)).trans (k4.mono (by simp))).trans (Kept.set (by simp))) ?_ (s4.kept (X := [q]) (Kept.set (by simp)) (by simpa using Ne.symm qo) (by simpa using Ne.symm qc) (by simpa using Ne.symm qh) (by simpa using Ne.symm qf)) ?_
  · rw [List.getElem?_set_ne nq]
    exact k4 _ _ (by simpa using Ne.symm nf) e2
  · rw [List.getElem?_set_self lq4]
theorem set_ex (g : d.gd) (hb : Ok b) : ∃ d' b', Ok b' ∧ d'.gd ∧ d'.n = d.n ∧ SetC d d' b b' := by
  obtain ⟨e, b1, he, o1, hp⟩ := pick_ex (L := c8) hb (by decide) (by decide)
  unfold c8 at he
  simp only [List.mem_cons, List.not_mem_nil, or_false] at he
  rcases he with rfl | rfl | rfl | rfl | rfl | rfl | rfl | rfl
  · exact setA_ex g o1 .A hp
  · exact setA_ex g o1 .B hp
  · exact setA_ex g o1 .C hp
  · exact setH_ex g o1 .r hp
  · exact setH_ex g o1 .s hp
  · exact setH_ex g o1 .t hp
  · exact setO_ex g o1 .i hp
  · exact setO_ex g o1 .j hp
end

/-! ### refusals -/
section
variable {cs cs' ts : List Cell} {a b r pc ph po p : Addr} {d d' : Sd} {i j o c h f q n : Nat} {R : RV} {Rx : RX} {ds l : List D} {v fill : D} {k m : Int}
theorem free_no {e1 e2 : D} (hk : k < 1) (q : ∀ ts, Rx ⟨2, [.int k]⟩ (cs ++ ts)) : c_State_free [.dat (.int k), .dat e1, .dat e2] cs R Rx := fun C => by
  refine ⟨rfl, (?_ : w_State_free C _ ⟨[some (.dat (.cls C)), some (.dat (.int k)), some (.dat e1), some (.dat e2), none, none, none], cs⟩ (endGX R Rx))⟩
  unfold w_State_free wMakeAL wMakeAX wDcC
  try dsimp only [wConsS, wNilS, wAsg, wTwo, wOne, wName, wCon, wCb, wCons, wNil, wRetG, wTag, wSlcA, wO0, wO1, wIfS, wBl, wFn, wFnG, wSetFA, wFldA, wMethA0, wNotT, wOrT, wAndV, Dl.wTru, wLst, wTup, wDats, dats, isB, wSubA, wSetA, wSetLA, wExpr, wPar2, par2, wPar3, par3, wItems, itemsW, wRng1, wFor, endG, List.set_cons_zero, List.set_cons_succ, List.getElem?_cons_zero, List.getElem?_cons_succ, Option.map_some]
  refine ⟨rfl, rfl, rfl, ?_⟩
  exact new_no hk q
theorem nost_c {w : Int} (hk : k < 1) (q : ∀ ts, R (.dat (.int k)) (cs ++ ts)) : c__law_no_state [.dat (.int k), .dat (.int w)] cs R := by
  refine ⟨rfl, (?_ : w__law_no_state _ ⟨[some (.dat (.int k)), some (.dat (.int w)), none, none], cs⟩ (endG R))⟩
  unfold w__law_no_state wTry wIf wMakeAX wCmA wXf
  try dsimp only [wConsS, wNilS, wAsg, wTwo, wOne, wName, wCon, wCb, wCons, wNil, wRetG, wTag, wSlcA, wO0, wO1, wIfS, wBl, wFn, wFnG, wSetFA, wFldA, wMethA0, wNotT, wOrT, wAndV, Dl.wTru, wLst, wTup, wDats, dats, isB, wSubA, wSetA, wSetLA, wExpr, wPar2, par2, wPar3, par3, wItems, itemsW, wRng1, wFor, endG, List.set_cons_zero, List.set_cons_succ, List.getElem?_cons_zero, List.getElem?_cons_succ, Option.map_some]
  refine leqI ?_
  rw [Bool.false_xor]
  by_cases e : w = 0
  · refine Br.tt (decide_eq_true e) ?_
    refine ⟨rfl, rfl, ?_⟩
    refine new_no hk fun ts => ?_
    try dsimp only [wConsS, wNilS, wAsg, wTwo, wOne, wName, wCon, wCb, wCons, wNil, wRetG, wTag, wSlcA, wO0, wO1, wIfS, wBl, wFn, wFnG, wSetFA, wFldA, wMethA0, wNotT, wOrT, wAndV, Dl.wTru, wLst, wTup, wDats, dats, isB, wSubA, wSetA, wSetLA, wExpr, wPar2, par2, wPar3, par3, wItems, itemsW, wRng1, wFor, endG, List.set_cons_zero, List.set_cons_succ, List.getElem?_cons_zero, List.getElem?_cons_succ, Option.map_some]
    exact fun a0 d0 => ⟨⟨rfl, rfl, rfl⟩, q ts⟩
  · refine Br.ff (decide_eq_false e) ?_
    refine ⟨rfl, rfl, ?_⟩
    refine free_no hk fun ts => ?_
    try dsimp only [wConsS, wNilS, wAsg, wTwo, wOne, wName, wCon, wCb, wCons, wNil, wRetG, wTag, wSlcA, wO0, wO1, wIfS, wBl, wFn, wFnG, wSetFA, wFldA, wMethA0, wNotT, wOrT, wAndV, Dl.wTru, wLst, wTup, wDats, dats, isB, wSubA, wSetA, wSetLA, wExpr, wPar2, par2, wPar3, par3, wItems, itemsW, wRng1, wFor, endG, List.set_cons_zero, List.set_cons_succ, List.getElem?_cons_zero, List.getElem?_cons_succ, Option.map_some]
    exact fun a0 d0 => ⟨⟨rfl, rfl, rfl⟩, q ts⟩
/-- how a name that is none is refused -/
theorem refn_c {x : Str} {v : D} {w : Int} (s : St cs a d o c h f) (n : NoN x) (q : R (.dat (.tup [.str "name", .str x, .bl true])) cs) : c__law_refusal [.dat (.cls a), .dat (.str x), .dat v, .dat (.int w)] cs R := by
  refine ⟨rfl, (?_ : w__law_refusal _ ⟨[some (.dat (.cls a)), some (.dat (.str x)), some (.dat v), some (.dat (.int w)), none, none], cs⟩ (endG R))⟩
  unfold w__law_refusal wTryM wIf wSubAX wSetAX
  try dsimp only [wConsS, wNilS, wAsg, wTwo, wOne, wName, wCon, wCb, wCons, wNil, wRetG, wTag, wSlcA, wO0, wO1, wIfS, wBl, wFn, wFnG, wSetFA, wFldA, wMethA0, wNotT, wOrT, wAndV, Dl.wTru, wLst, wTup, wDats, dats, isB, wSubA, wSetA, wSetLA, wExpr, wPar2, par2, wPar3, par3, wItems, itemsW, wRng1, wFor, endG, List.set_cons_zero, List.set_cons_succ, List.getElem?_cons_zero, List.getElem?_cons_succ, Option.map_some]
  refine leqI ?_
  rw [Bool.false_xor]
  by_cases e : w = 0
  · refine Br.tt (decide_eq_true e) ?_
    refine And.intro s.ref ?_
    refine get_no n ?_
    try dsimp only [wConsS, wNilS, wAsg, wTwo, wOne, wName, wCon, wCb, wCons, wNil, wRetG, wTag, wSlcA, wO0, wO1, wIfS, wBl, wFn, wFnG, wSetFA, wFldA, wMethA0, wNotT, wOrT, wAndV, Dl.wTru, wLst, wTup, wDats, dats, isB, wSubA, wSetA, wSetLA, wExpr, wPar2, par2, wPar3, par3, wItems, itemsW, wRng1, wFor, endG, List.set_cons_zero, List.set_cons_succ, List.getElem?_cons_zero, List.getElem?_cons_succ, Option.map_some]
    unfold hdW
    refine (fun a0 d0 => ?_ : ∀ (a0 : Addr) (d0 : Option Addr), _)
    unfold wXf wIsiE
    try dsimp only [wConsS, wNilS, wAsg, wTwo, wOne, wName, wCon, wCb, wCons, wNil, wRetG, wTag, wSlcA, wO0, wO1, wIfS, wBl, wFn, wFnG, wSetFA, wFldA, wMethA0, wNotT, wOrT, wAndV, Dl.wTru, wLst, wTup, wDats, dats, isB, wSubA, wSetA, wSetLA, wExpr, wPar2, par2, wPar3, par3, wItems, itemsW, wRng1, wFor, endG, List.set_cons_zero, List.set_cons_succ, List.getElem?_cons_zero, List.getElem?_cons_succ, Option.map_some]
    unfold Dl.stM sufM
    try dsimp only [wConsS, wNilS, wAsg, wTwo, wOne, wName, wCon, wCb, wCons, wNil, wRetG, wTag, wSlcA, wO0, wO1, wIfS, wBl, wFn, wFnG, wSetFA, wFldA, wMethA0, wNotT, wOrT, wAndV, Dl.wTru, wLst, wTup, wDats, dats, isB, wSubA, wSetA, wSetLA, wExpr, wPar2, par2, wPar3, par3, wItems, itemsW, wRng1, wFor, endG, List.set_cons_zero, List.set_cons_succ, List.getElem?_cons_zero, List.getElem?_cons_succ, Option.map_some]
    refine ⟨⟨rfl, rfl, rfl⟩, ?_⟩
    refine ⟨⟨rfl, rfl, rfl⟩, ?_⟩
    refine And.intro (szk 3) ?_
    exact q
  · refine Br.ff (decide_eq_false e) ?_
    refine And.intro s.ref ?_
    refine set_no n ?_
    try dsimp only [wConsS, wNilS, wAsg, wTwo, wOne, wName, wCon, wCb, wCons, wNil, wRetG, wTag, wSlcA, wO0, wO1, wIfS, wBl, wFn, wFnG, wSetFA, wFldA, wMethA0, wNotT, wOrT, wAndV, Dl.wTru, wLst, wTup, wDats, dats, isB, wSubA, wSetA, wSetLA, wExpr, wPar2, par2, wPar3, par3, wItems, itemsW, wRng1, wFor, endG, List.set_cons_zero, List.set_cons_succ, List.getElem?_cons_zero, List.getElem?_cons_succ, Option.map_some]
    unfold hdW
    refine (fun a0 d0 => ?_ : ∀ (a0 : Addr) (d0 : Option Addr), _)
    unfold wXf wIsiE
    try dsimp only [wConsS, wNilS, wAsg, wTwo, wOne, wName, wCon, wCb, wCons, wNil, wRetG, wTag, wSlcA, wO0, wO1, wIfS, wBl, wFn, wFnG, wSetFA, wFldA, wMethA0, wNotT, wOrT, wAndV, Dl.wTru, wLst, wTup, wDats, dats, isB, wSubA, wSetA, wSetLA, wExpr, wPar2, par2, wPar3, par3, wItems, itemsW, wRng1, wFor, endG, List.set_cons_zero, List.set_cons_succ, List.getElem?_cons_zero, List.getElem?_cons_succ, Option.map_some]
    unfold Dl.stM sufM
    try dsimp only [wConsS, wNilS, wAsg, wTwo, wOne, wName, wCon, wCb, wCons, wNil, wRetG, wTag, wSlcA, wO0, wO1, wIfS, wBl, wFn, wFnG, wSetFA, wFldA, wMethA0, wNotT, wOrT, wAndV, Dl.wTru, wLst, wTup, wDats, dats, isB, wSubA, wSetA, wSetLA, wExpr, wPar2, par2, wPar3, par3, wItems, itemsW, wRng1, wFor, endG, List.set_cons_zero, List.set_cons_succ, List.getElem?_cons_zero, List.getElem?_cons_succ, Option.map_some]
    refine ⟨⟨rfl, rfl, rfl⟩, ?_⟩
    refine ⟨⟨rfl, rfl, rfl⟩, ?_⟩
    refine And.intro (szk 3) ?_
    exact q
end

/-! ### refusals: a ring of another size; the law's own refusals -/
section
variable {cs cs' ts : List Cell} {a b r pc ph po p : Addr} {d d' : Sd} {i j o c h f q n : Nat} {R : RV} {Rx : RX} {ds l : List D} {v fill : D} {k m : Int} {bx0 : B}
theorem refz_c {x : Na} (s : St cs a d o c h f) (g : Rg cs b r i j l) (hl : l.length ≠ d.n) (h63 : l.length < 100000) (q : R (.dat (.tup [.str "size", .int l.length])) cs) : c__law_refusal [.dat (.cls a), .dat (.str x.str), .dat (.cls b), .dat (.int 1)] cs R := by
  refine ⟨rfl, (?_ : w__law_refusal _ ⟨[some (.dat (.cls a)), some (.dat (.str x.str)), some (.dat (.cls b)), some (.dat (.int 1)), none, none], cs⟩ (endG R))⟩
  unfold w__law_refusal wTryM wIf wSubAX wSetAX
  try dsimp only [wConsS, wNilS, wAsg, wTwo, wOne, wName, wCon, wCb, wCons, wNil, wRetG, wTag, wSlcA, wO0, wO1, wIfS, wBl, wFn, wFnG, wSetFA, wFldA, wMethA0, wNotT, wOrT, wAndV, Dl.wTru, wLst, wTup, wDats, dats, isB, wSubA, wSetA, wSetLA, wExpr, wPar2, par2, wPar3, par3, wItems, itemsW, wRng1, wFor, endG, List.set_cons_zero, List.set_cons_succ, List.getElem?_cons_zero, List.getElem?_cons_succ, Option.map_some]
  refine leqI ?_
  refine Br.ff rfl ?_
  refine And.intro s.ref ?_
  refine set_as s x g hl h63 ?_
  try dsimp only [wConsS, wNilS, wAsg, wTwo, wOne, wName, wCon, wCb, wCons, wNil, wRetG, wTag, wSlcA, wO0, wO1, wIfS, wBl, wFn, wFnG, wSetFA, wFldA, wMethA0, wNotT, wOrT, wAndV, Dl.wTru, wLst, wTup, wDats, dats, isB, wSubA, wSetA, wSetLA, wExpr, wPar2, par2, wPar3, par3, wItems, itemsW, wRng1, wFor, endG, List.set_cons_zero, List.set_cons_succ, List.getElem?_cons_zero, List.getElem?_cons_succ, Option.map_some]
  unfold hdW
  refine (?_ : hdW _ _ _ _)
  unfold hdW
  refine (fun a0 d0 => ?_ : ∀ (a0 : Addr) (d0 : Option Addr), _)
  unfold wXf wIsiE
  try dsimp only [wConsS, wNilS, wAsg, wTwo, wOne, wName, wCon, wCb, wCons, wNil, wRetG, wTag, wSlcA, wO0, wO1, wIfS, wBl, wFn, wFnG, wSetFA, wFldA, wMethA0, wNotT, wOrT, wAndV, Dl.wTru, wLst, wTup, wDats, dats, isB, wSubA, wSetA, wSetLA, wExpr, wPar2, par2, wPar3, par3, wItems, itemsW, wRng1, wFor, endG, List.set_cons_zero, List.set_cons_succ, List.getElem?_cons_zero, List.getElem?_cons_succ, Option.map_some]
  unfold Dl.stM sufM
  try dsimp only [wConsS, wNilS, wAsg, wTwo, wOne, wName, wCon, wCb, wCons, wNil, wRetG, wTag, wSlcA, wO0, wO1, wIfS, wBl, wFn, wFnG, wSetFA, wFldA, wMethA0, wNotT, wOrT, wAndV, Dl.wTru, wLst, wTup, wDats, dats, isB, wSubA, wSetA, wSetLA, wExpr, wPar2, par2, wPar3, par3, wItems, itemsW, wRng1, wFor, endG, List.set_cons_zero, List.set_cons_succ, List.getElem?_cons_zero, List.getElem?_cons_succ, Option.map_some]
  refine ⟨⟨rfl, rfl, rfl⟩, ?_⟩
  refine Br.tt rfl ?_
  refine ⟨⟨rfl, rfl, rfl⟩, ?_⟩
  refine And.intro (szk 2) ?_
  exact q
def b8 : List Str := ["D", "a", "", "p", "f", "AB", "R", "cell"]
theorem b8_no : ∀ x ∈ b8, NoN x := by
  intro x hx
  unfold b8 at hx
  simp only [List.mem_cons, List.not_mem_nil, or_false] at hx
  rcases hx with rfl | rfl | rfl | rfl | rfl | rfl | rfl | rfl <;> exact ⟨by decide +kernel, by decide +kernel, by decide +kernel⟩
theorem b8_ok : ∀ x ∈ b8, okD (.tup [.str "name", .str x, .bl true]) = true := by
  intro x hx
  unfold b8 at hx
  simp only [List.mem_cons, List.not_mem_nil, or_false] at hx
  rcases hx with rfl | rfl | rfl | rfl | rfl | rfl | rfl | rfl <;> decide +kernel
theorem sz_ok (n : Int) : okD (.tup [.str "size", .int n]) = true := ok_tup (k := 0) (mem2 ⟨rfl, by decide +kernel, Nat.zero_le _⟩ ⟨rfl, by simp [D.py, PyData.canLay0], Nat.zero_le _⟩) (by decide)
end

/-! ### what is refused, all -/
section
variable {cs cs' ts : List Cell} {a b r pc ph po p : Addr} {d d' : Sd} {i j o c h f q n m : Nat} {R : RV} {Rx : RX} {ds l : List D} {v fill : D} {bb : B} {x : Str} {s7 s8 s9 : Option Sl}
theorem no_c (hb : cs[0]? = some (bx bb)) (s : St cs a d o c h f) (e : cs[q]? = some (.dctA p (know d))) (g : d.gd) (hr : ∀ ts, R (.dat (.bl true)) (cs ++ ts)) {s4 s5 s6 : Option Sl} :
    w__law_refuses_no m ⟨[some (.cel 0), some (.dat (.cls a)), some (.dat (.cls p)), some (.dat (.int d.n)), s4, s5, s6, s7, s8], cs⟩ (endG R) := by
  unfold w__law_refuses_no
  have n0 := g.n0
  have e' : ∀ ts, (cs ++ ts)[q]? = some (.dctA p (know d)) := fun ts => Kept.app (X := []) _ _ (by simp) e
  try dsimp only [wConsS, wNilS, wAsg, wTwo, wOne, wName, wCon, wCb, wCons, wNil, wRetG, wTag, wSlcA, wO0, wO1, wIfS, wBl, wFn, wFnG, wSetFA, wFldA, wMethA0, wNotT, wOrT, wAndV, Dl.wTru, wLst, wTup, wDats, dats, isB, wSubA, wSetA, wSetLA, wExpr, wPar2, par2, wPar3, par3, wItems, itemsW, wRng1, wFor, endG, List.set_cons_zero, List.set_cons_succ, List.getElem?_cons_zero, List.getElem?_cons_succ, Option.map_some]
  refine nost_c (by decide) fun t1 => ?_
  refine lsub ?_
  refine nost_c (by omega) fun t2 => ?_
  try dsimp only [wConsS, wNilS, wAsg, wTwo, wOne, wName, wCon, wCb, wCons, wNil, wRetG, wTag, wSlcA, wO0, wO1, wIfS, wBl, wFn, wFnG, wSetFA, wFldA, wMethA0, wNotT, wOrT, wAndV, Dl.wTru, wLst, wTup, wDats, dats, isB, wSubA, wSetA, wSetLA, wExpr, wPar2, par2, wPar3, par3, wItems, itemsW, wRng1, wFor, endG, List.set_cons_zero, List.set_cons_succ, List.getElem?_cons_zero, List.getElem?_cons_succ, Option.map_some]
  rw [List.append_assoc]
  refine And.intro (szk 2) ?_
  try dsimp only [wConsS, wNilS, wAsg, wTwo, wOne, wName, wCon, wCb, wCons, wNil, wRetG, wTag, wSlcA, wO0, wO1, wIfS, wBl, wFn, wFnG, wSetFA, wFldA, wMethA0, wNotT, wOrT, wAndV, Dl.wTru, wLst, wTup, wDats, dats, isB, wSubA, wSetA, wSetLA, wExpr, wPar2, par2, wPar3, par3, wItems, itemsW, wRng1, wFor, endG, List.set_cons_zero, List.set_cons_succ, List.getElem?_cons_zero, List.getElem?_cons_succ, Option.map_some]
  refine is_c s.app (e' _) g fun t3 => ?_
  try dsimp only [wConsS, wNilS, wAsg, wTwo, wOne, wName, wCon, wCb, wCons, wNil, wRetG, wTag, wSlcA, wO0, wO1, wIfS, wBl, wFn, wFnG, wSetFA, wFldA, wMethA0, wNotT, wOrT, wAndV, Dl.wTru, wLst, wTup, wDats, dats, isB, wSubA, wSetA, wSetLA, wExpr, wPar2, par2, wPar3, par3, wItems, itemsW, wRng1, wFor, endG, List.set_cons_zero, List.set_cons_succ, List.getElem?_cons_zero, List.getElem?_cons_succ, Option.map_some]
  refine Br.tt rfl ?_
  refine lsub ?_
  refine And.intro (szk 2) ?_
  have ok : okD (.lst [.int 0, .int (0 - (d.n : Int))]) = true := ok_lst (k := 0) (mem2 ⟨rfl, by decide +kernel, Nat.zero_le _⟩ ⟨rfl, by simp [D.py, PyData.canLay0], Nat.zero_le _⟩) (by decide)
  refine leqL ok ok ?_
  rw [eqD_refl ok, List.append_assoc]
  exact hr _
theorem size_c (hb : cs[0]? = some (bx bb)) (s : St cs a d o c h f) (e : cs[q]? = some (.dctA p (know d))) (g : d.gd) (gr : Rg cs b r i j l) (h6 : l.length < 1000) (hr : ∀ ts, R (.dat (.bl true)) (cs ++ ts)) {s4 s6 : Option Sl} :
    w__law_refuses_size m ⟨[some (.cel 0), some (.dat (.cls a)), some (.dat (.cls p)), some (.dat (.int d.n)), s4, some (.dat (.cls b)), s6, s7, s8], cs⟩ (endG R) := by
  unfold w__law_refuses_size wAndT
  refine consS_i (S' := ⟨[some (.cel 0), some (.dat (.cls a)), some (.dat (.cls p)), some (.dat (.int d.n)), s4, some (.dat (.cls b)), s6, s7, s8], cs⟩) (fun P' hP => ?_) (no_c hb s e g hr)
  try dsimp only [wConsS, wNilS, wAsg, wTwo, wOne, wName, wCon, wCb, wCons, wNil, wRetG, wTag, wSlcA, wO0, wO1, wIfS, wBl, wFn, wFnG, wSetFA, wFldA, wMethA0, wNotT, wOrT, wAndV, Dl.wTru, wLst, wTup, wDats, dats, isB, wSubA, wSetA, wSetLA, wExpr, wPar2, par2, wPar3, par3, wItems, itemsW, wRng1, wFor, endG, List.set_cons_zero, List.set_cons_succ, List.getElem?_cons_zero, List.getElem?_cons_succ, Option.map_some]
  refine .inl ⟨_, l.length, rfl, gr.ref, len_c gr ⟨rfl, rfl⟩, ⟨by omega, by omega⟩, ?_⟩
  refine leqI ?_
  by_cases en : l.length = d.n
  · refine Br.ff (by rw [en, decide_eq_true rfl]; rfl) ?_
    exact Br.ff rfl hP
  · refine Br.tt (by rw [decide_eq_false (by omega)]; rfl) ?_
    refine refz_c (x := .B) s gr en (by omega) ?_
    try dsimp only [wConsS, wNilS, wAsg, wTwo, wOne, wName, wCon, wCb, wCons, wNil, wRetG, wTag, wSlcA, wO0, wO1, wIfS, wBl, wFn, wFnG, wSetFA, wFldA, wMethA0, wNotT, wOrT, wAndV, Dl.wTru, wLst, wTup, wDats, dats, isB, wSubA, wSetA, wSetLA, wExpr, wPar2, par2, wPar3, par3, wItems, itemsW, wRng1, wFor, endG, List.set_cons_zero, List.set_cons_succ, List.getElem?_cons_zero, List.getElem?_cons_succ, Option.map_some]
    refine .inl ⟨_, l.length, rfl, gr.ref, len_c gr ⟨rfl, rfl⟩, ⟨by omega, by omega⟩, ?_⟩
    refine And.intro (szk 2) ?_
    refine li2 (s3 := .dat (.bl (true.xor (eqD (.tup [.str "size", .int l.length]) (.tup [.str "size", .int l.length]))))) (fun Q q => ⟨sz_ok _, sz_ok _, q⟩) ?_
    rw [eqD_refl (sz_ok _)]
    exact Br.ff rfl hP
end

/-! ### what is refused, by existence -/
section
variable {cs cs' ts : List Cell} {a b r pc ph po p : Addr} {d d' : Sd} {i j o c h f q n m : Nat} {R : RV} {Rx : RX} {ds l : List D} {v fill : D} {bb : B} {x : Str} {s7 s8 s9 : Option Sl} {P : PJ}
theorem lmax2 {i j : Int} (q : R (.dat (.int (if j > i then j else i))) cs) : liWC maxW2 [.dat (.int i), .dat (.int j)] cs R := ⟨_, .cons .id (.cons .id .nil), rw_ (P := R (.dat (.int (if j > i then j else i)))) q⟩
theorem turnr_c {w1 : WS} {s5 : Option Sl} {k : Int} {nm : Int} (s : St cs a d o c h f) (hx : x ∈ b8) (hn : P.nx ⟨[some (.cel 0), some (.dat (.cls a)), some (.dat (.cls p)), some (.dat (.int nm)), some (.dat (.str x)), s5, some (.dat v), some (.dat (.int k)), s8], cs⟩) :
    wConsS (wIfS (wBl (wTwo (wFnG c__law_refusal (wCons (wName 1) (wCons (wName 4) (wCons (wName 6) (wCons (wName 7) wNil))))) (wTup (wCons (wCon (.str "name")) (wCons (wName 4) (wCons (wCon (.bl true)) wNil)))) (liW2 (eqW true)))) w1 wNilS) wNilS ⟨[some (.cel 0), some (.dat (.cls a)), some (.dat (.cls p)), some (.dat (.int nm)), some (.dat (.str x)), s5, some (.dat v), some (.dat (.int k)), s8], cs⟩ P := by
  try dsimp only [wConsS, wNilS, wAsg, wTwo, wOne, wName, wCon, wCb, wCons, wNil, wRetG, wTag, wSlcA, wO0, wO1, wIfS, wBl, wFn, wFnG, wSetFA, wFldA, wMethA0, wNotT, wOrT, wAndV, Dl.wTru, wLst, wTup, wDats, dats, isB, wSubA, wSetA, wSetLA, wExpr, wPar2, par2, wPar3, par3, wItems, itemsW, wRng1, wFor, endG, List.set_cons_zero, List.set_cons_succ, List.getElem?_cons_zero, List.getElem?_cons_succ, Option.map_some]
  refine refn_c s (b8_no x hx) ?_
  try dsimp only [wConsS, wNilS, wAsg, wTwo, wOne, wName, wCon, wCb, wCons, wNil, wRetG, wTag, wSlcA, wO0, wO1, wIfS, wBl, wFn, wFnG, wSetFA, wFldA, wMethA0, wNotT, wOrT, wAndV, Dl.wTru, wLst, wTup, wDats, dats, isB, wSubA, wSetA, wSetLA, wExpr, wPar2, par2, wPar3, par3, wItems, itemsW, wRng1, wFor, endG, List.set_cons_zero, List.set_cons_succ, List.getElem?_cons_zero, List.getElem?_cons_succ, Option.map_some]
  refine And.intro (szk 3) ?_
  have ok := b8_ok x hx
  refine li2 (s3 := .dat (.bl (true.xor (eqD (.tup [.str "name", .str x, .bl true]) (.tup [.str "name", .str x, .bl true]))))) (fun Q q => ⟨ok, ok, q⟩) ?_
  rw [eqD_refl ok]
  exact Br.ff rfl hn
theorem forT {d1 d2 d3 d4 d5 d6 : D} {x : Pat} {body rest : WS} {S : Sta} (e : S.sl[5]? = some (some (.dat d5))) (h : forW x body [.tup [d1, d2], .tup [d3, d4], .tup [d5, d6]] S { P with nx := fun S' => rest S' P }) : wConsS (wFor (wItems (wTup (wCons (wTup (wCons (wCon d1) (wCons (wCon d2) wNil))) (wCons (wTup (wCons (wCon d3) (wCons (wCon d4) wNil))) (wCons (wTup (wCons (wName 5) (wCons (wCon d6) wNil))) wNil))))) x body) rest S P := by
  dsimp only [wConsS, wFor, wItems, wTup, wCons, wCon, wNil, wDats, dats, Option.map_some, itemsW]
  refine And.intro (szk 2) ?_
  refine And.intro (szk 2) ?_
  refine wN_i e ?_
  refine And.intro (szk 2) ?_
  exact And.intro (szk 3) h
theorem loop_c {s6 : Option Sl} (hb : cs[0]? = some (bx bb)) (s : St cs a d o c h f) (e : cs[q]? = some (.dctA p (know d))) (g : d.gd) (hx : x ∈ b8) (gr : Rg cs b r i j l) (h6 : l.length < 1000) (hr : ∀ ts, R (.dat (.bl true)) (cs ++ ts)) :
    w__law_refuses_loop m ⟨[some (.cel 0), some (.dat (.cls a)), some (.dat (.cls p)), some (.dat (.int d.n)), some (.dat (.str x)), some (.dat (.cls b)), s6, s7, s8], cs⟩ (endG R) := by
  unfold w__law_refuses_loop
  generalize hW : (w__law_refuses_size m) = W
  have hz : ∀ v k, W ⟨[some (.cel 0), some (.dat (.cls a)), some (.dat (.cls p)), some (.dat (.int d.n)), some (.dat (.str x)), some (.dat (.cls b)), some (.dat v), some (.dat (.int k)), s8], cs⟩ (endG R) := fun v k => by
    rw [← hW]
    exact size_c hb s e g gr h6 hr
  refine forT rfl ?_
  refine forW_i rfl ?_
  refine turnr_c s hx ?_
  dsimp only
  refine forW_i rfl ?_
  refine turnr_c s hx ?_
  dsimp only
  refine forW_i rfl ?_
  refine turnr_c s hx ?_
  exact hz _ _
theorem refuses_ex (g : d.gd) (hb : Ok bb) : ∃ b', Ok b' ∧ ∀ (cs : List Cell) (a p : Addr) (o c h f q : Nat) (R : RV), cs[0]? = some (bx bb) → St cs a d o c h f → cs[q]? = some (.dctA p (know d)) →
    (∀ cs', Kept [0] cs cs' → cs'[0]? = some (bx b') → R (.dat (.bl true)) cs') → c__law_refuses [.cel 0, .dat (.cls a), .dat (.cls p)] cs R := by
  have n0 := g.n0
  have n1 := g.n1
  obtain ⟨e0, b1, he, o1, hp⟩ := pick_ex (L := b8.map D.str) hb (by decide) (by decide)
  obtain ⟨x, hx, rfl⟩ := List.mem_map.mp he
  generalize hM : (if (d.n : Int) - 1 > 1 then (d.n : Int) - 1 else 1) = M
  have hM1 : 1 ≤ M ∧ M ≤ 60 := by rw [← hM]; split <;> omega
  obtain ⟨e2, b2, he2, o2, hp2⟩ := pick_ex (L := [.int ((d.n : Int) + 1), .int M]) o1 (show 0 < 2 by decide) (show 2 ≤ 1000 by decide)
  obtain ⟨N, rfl, hN⟩ : ∃ N : Nat, e2 = .int (N : Int) ∧ 0 < N ∧ N ≤ 61 := by
    rcases List.mem_cons.mp he2 with rfl | he2
    · exact ⟨d.n + 1, by rw [Int.natCast_add]; rfl, by omega, by omega⟩
    · rcases List.mem_cons.mp he2 with rfl | he2
      · exact ⟨M.toNat, by rw [Int.toNat_of_nonneg (by omega)], by omega, by omega⟩
      · cases he2
  refine ⟨b2, o2, fun cs a p o c h f q R hbx s e hr => ?_⟩
  obtain ⟨no, nc, nh, nf⟩ := s.n0 hbx
  have nq := nq0 e hbx
  refine ⟨rfl, (?_ : w__law_refuses _ ⟨[some (.cel 0), some (.dat (.cls a)), some (.dat (.cls p)), none, none, none, none, none, none], cs⟩ (endG R))⟩
  unfold w__law_refuses wDgetA w__law_refuses_other wMakeAX
  generalize hW : (w__law_refuses_loop _) = W
  try dsimp only [wConsS, wNilS, wAsg, wTwo, wOne, wName, wCon, wCb, wCons, wNil, wRetG, wTag, wSlcA, wO0, wO1, wIfS, wBl, wFn, wFnG, wSetFA, wFldA, wMethA0, wNotT, wOrT, wAndV, Dl.wTru, wLst, wTup, wDats, dats, isB, wSubA, wSetA, wSetLA, wExpr, wPar2, par2, wPar3, par3, wItems, itemsW, wRng1, wFor, endG, List.set_cons_zero, List.set_cons_succ, List.getElem?_cons_zero, List.getElem?_cons_succ, Option.map_some]
  refine kd_at (kds := know d) e ⟨_, .int d.n, rfl, know_n d, ?_⟩
  try dsimp only [wConsS, wNilS, wAsg, wTwo, wOne, wName, wCon, wCb, wCons, wNil, wRetG, wTag, wSlcA, wO0, wO1, wIfS, wBl, wFn, wFnG, wSetFA, wFldA, wMethA0, wNotT, wOrT, wAndV, Dl.wTru, wLst, wTup, wDats, dats, isB, wSubA, wSetA, wSetLA, wExpr, wPar2, par2, wPar3, par3, wItems, itemsW, wRng1, wFor, endG, List.set_cons_zero, List.set_cons_succ, List.getElem?_cons_zero, List.getElem?_cons_succ, Option.map_some]
  refine And.intro (szk 8) ?_
  refine box1 hbx hp fun c1 k1 e1 l1 => ?_
  try dsimp only [wConsS, wNilS, wAsg, wTwo, wOne, wName, wCon, wCb, wCons, wNil, wRetG, wTag, wSlcA, wO0, wO1, wIfS, wBl, wFn, wFnG, wSetFA, wFldA, wMethA0, wNotT, wOrT, wAndV, Dl.wTru, wLst, wTup, wDats, dats, isB, wSubA, wSetA, wSetLA, wExpr, wPar2, par2, wPar3, par3, wItems, itemsW, wRng1, wFor, endG, List.set_cons_zero, List.set_cons_succ, List.getElem?_cons_zero, List.getElem?_cons_succ, Option.map_some]
  refine And.intro (szk 1) ?_
  refine ladd ?_
  refine lsub ?_
  refine lmax2 ?_
  rw [hM]
  refine And.intro (szk 2) ?_
  refine box1 e1 hp2 fun c2 k2 e2 l2 => ?_
  refine li2 (s3 := .dat (.lst (List.replicate (N : Int).toNat [D.str "x"]).flatten)) (fun Q q => And.intro ⟨by omega, by omega, sz (show 1 * (N : Int).toNat ≤ _ by omega)⟩ q) ?_
  rw [Int.toNat_natCast, flat_one]
  refine ⟨rfl, rfl, ?_⟩
  have k12 := k1.trans k2
  refine make_c (.inl ls_d) (by rw [List.length_replicate]; omega) fun y py => ?_
  try dsimp only [wConsS, wNilS, wAsg, wTwo, wOne, wName, wCon, wCb, wCons, wNil, wRetG, wTag, wSlcA, wO0, wO1, wIfS, wBl, wFn, wFnG, wSetFA, wFldA, wMethA0, wNotT, wOrT, wAndV, Dl.wTru, wLst, wTup, wDats, dats, isB, wSubA, wSetA, wSetLA, wExpr, wPar2, par2, wPar3, par3, wItems, itemsW, wRng1, wFor, endG, List.set_cons_zero, List.set_cons_succ, List.getElem?_cons_zero, List.getElem?_cons_succ, Option.map_some]
  subst hW
  refine loop_c (Kept.app (X := []) _ _ (by simp) e2) (s.kept k12 (by simpa using no) (by simpa using nc) (by simpa using nh) (by simpa using nf)).app (Kept.app (X := []) _ _ (by simp) (k12 _ _ (by simpa using nq) e)) g hx rg_new (by rw [List.length_replicate]; omega) fun ts => ?_
  refine hr _ (k12.more.more) ?_
  exact Kept.app (X := []) _ _ (by simp) (Kept.app (X := []) _ _ (by simp) e2)
end

/-! ### the law's end: states of other sizes -/
theorem eqS_ne {d d' : Sd} (h : d.n ≠ d'.n) : eqS d d' = false := by
  unfold eqS
  rw [decide_eq_false (by omega)]
  rfl
theorem fill_ok {n : Nat} {i j : Int} {v : D} (hv : Gv v) : (fillD n i j v).ok := by
  have e : okD (.lst (List.replicate n v)) = true := gv_ok fun e he => List.eq_of_mem_replicate he ▸ hv
  refine ⟨?_, ?_⟩
  · show (okD (.lst (List.replicate n v)) && (okD (.lst (List.replicate n v)) && (okD (.lst (List.replicate n v)) && true))) = true
    rw [e]
    rfl
  · show (okD v && (okD v && (okD v && true))) = true
    rw [gv_okD hv]
    rfl
theorem fin_r : rprD (.lst [.bl false, .bl false, .bl true]) = "[False, False, True]" := by kernel_rfl
section
variable {cs cs' ts : List Cell} {a b r pc ph po p : Addr} {d d' : Sd} {i j o c h f q n m : Nat} {R : RV} {Rx : RX} {ds l : List D} {v fill : D} {bb : B} {x : Str} {s0 s1 s3 s4 s5 s6 s7 s8 s9 s10 s11 s12 s13 s14 s15 : Option Sl}
theorem fin_c (h0 : 0 < n) (hn : n ≤ 60) (q : ∀ c, R (.dat (.bl true)) c) : w_law_fin m ⟨[s0, s1, some (.dat (.int n)), s3, s4, s5, s6, s7, s8, s9, s10, s11, s12, s13, s14, some (.dat (.lst [.bl false, .bl false, .bl true]))], cs⟩ (endG R) := by
  unfold w_law_fin wMakeAX
  try dsimp only [wConsS, wNilS, wAsg, wTwo, wOne, wName, wCon, wCb, wCons, wNil, wRetG, wTag, wSlcA, wO0, wO1, wIfS, wBl, wFn, wFnG, wSetFA, wFldA, wMethA0, wNotT, wOrT, wAndV, Dl.wTru, wLst, wTup, wDats, dats, isB, wSubA, wSetA, wSetLA, wExpr, wPar2, par2, wPar3, par3, wItems, itemsW, wRng1, wFor, endG, List.set_cons_zero, List.set_cons_succ, List.getElem?_cons_zero, List.getElem?_cons_succ, Option.map_some]
  refine li1 (s2 := .dat (.str "[False, False, True]")) (fun Q q => ⟨by decide +kernel, by rw [fin_r]; decide +kernel, by rw [fin_r]; exact q⟩) ?_
  refine .inr (.inr (.inr (.inr (.inr (leqS ?_)))))
  refine Br.tt (by rw [decide_eq_true rfl]; rfl) ?_
  refine ⟨rfl, rfl, ?_⟩
  refine new_s h0 (by omega) fun x c1 o c h f k1 s1 l1 => ?_
  try dsimp only [wConsS, wNilS, wAsg, wTwo, wOne, wName, wCon, wCb, wCons, wNil, wRetG, wTag, wSlcA, wO0, wO1, wIfS, wBl, wFn, wFnG, wSetFA, wFldA, wMethA0, wNotT, wOrT, wAndV, Dl.wTru, wLst, wTup, wDats, dats, isB, wSubA, wSetA, wSetLA, wExpr, wPar2, par2, wPar3, par3, wItems, itemsW, wRng1, wFor, endG, List.set_cons_zero, List.set_cons_succ, List.getElem?_cons_zero, List.getElem?_cons_succ, Option.map_some]
  refine filled_c h0 (by omega) fun p => ?_
  try dsimp only [wConsS, wNilS, wAsg, wTwo, wOne, wName, wCon, wCb, wCons, wNil, wRetG, wTag, wSlcA, wO0, wO1, wIfS, wBl, wFn, wFnG, wSetFA, wFldA, wMethA0, wNotT, wOrT, wAndV, Dl.wTru, wLst, wTup, wDats, dats, isB, wSubA, wSetA, wSetLA, wExpr, wPar2, par2, wPar3, par3, wItems, itemsW, wRng1, wFor, endG, List.set_cons_zero, List.set_cons_succ, List.getElem?_cons_zero, List.getElem?_cons_succ, Option.map_some]
  exact is_c (s1.app) at_last (fill_gd h0 hn gv_non) fun ts => q _
theorem wide_c (h0 : 0 < n) (hn : n ≤ 60) (q : ∀ c, R (.dat (.bl true)) c) : w_law_wide m ⟨[s0, s1, some (.dat (.int n)), s3, s4, s5, s6, s7, s8, s9, s10, s11, s12, s13, s14, s15], cs⟩ (endG R) := by
  unfold w_law_wide wMakeAX
  generalize hW : w_law_fin m = W
  have e1 : ((n + 1 : Nat) : Int) = (n : Int) + 1 := by omega
  try dsimp only [wConsS, wNilS, wAsg, wTwo, wOne, wName, wCon, wCb, wCons, wNil, wRetG, wTag, wSlcA, wO0, wO1, wIfS, wBl, wFn, wFnG, wSetFA, wFldA, wMethA0, wNotT, wOrT, wAndV, Dl.wTru, wLst, wTup, wDats, dats, isB, wSubA, wSetA, wSetLA, wExpr, wPar2, par2, wPar3, par3, wItems, itemsW, wRng1, wFor, endG, List.set_cons_zero, List.set_cons_succ, List.getElem?_cons_zero, List.getElem?_cons_succ, Option.map_some]
  refine ladd ?_
  rw [← e1]
  refine ⟨rfl, rfl, ?_⟩
  refine new_s (by omega) (by omega) fun x1 c1 o1 k1 h1 f1 _ t1 _ => ?_
  try dsimp only [wConsS, wNilS, wAsg, wTwo, wOne, wName, wCon, wCb, wCons, wNil, wRetG, wTag, wSlcA, wO0, wO1, wIfS, wBl, wFn, wFnG, wSetFA, wFldA, wMethA0, wNotT, wOrT, wAndV, Dl.wTru, wLst, wTup, wDats, dats, isB, wSubA, wSetA, wSetLA, wExpr, wPar2, par2, wPar3, par3, wItems, itemsW, wRng1, wFor, endG, List.set_cons_zero, List.set_cons_succ, List.getElem?_cons_zero, List.getElem?_cons_succ, Option.map_some]
  refine ⟨rfl, rfl, ?_⟩
  refine new_s h0 (by omega) fun x2 c2 o2 k2 h2 f2 kp2 t2 _ => ?_
  try dsimp only [wConsS, wNilS, wAsg, wTwo, wOne, wName, wCon, wCb, wCons, wNil, wRetG, wTag, wSlcA, wO0, wO1, wIfS, wBl, wFn, wFnG, wSetFA, wFldA, wMethA0, wNotT, wOrT, wAndV, Dl.wTru, wLst, wTup, wDats, dats, isB, wSubA, wSetA, wSetLA, wExpr, wPar2, par2, wPar3, par3, wItems, itemsW, wRng1, wFor, endG, List.set_cons_zero, List.set_cons_succ, List.getElem?_cons_zero, List.getElem?_cons_succ, Option.map_some]
  have t1' := t1.kept kp2 (by simp) (by simp) (by simp) (by simp)
  refine .inr (.inr (.inr (.inl ⟨t1'.ref, t2.ref, eq_s t1' t2 (fill_ok gv_non) (fill_ok gv_non) ?_⟩)))
  rw [eqS_ne (show n + 1 ≠ n by omega)]
  try dsimp only [wConsS, wNilS, wAsg, wTwo, wOne, wName, wCon, wCb, wCons, wNil, wRetG, wTag, wSlcA, wO0, wO1, wIfS, wBl, wFn, wFnG, wSetFA, wFldA, wMethA0, wNotT, wOrT, wAndV, Dl.wTru, wLst, wTup, wDats, dats, isB, wSubA, wSetA, wSetLA, wExpr, wPar2, par2, wPar3, par3, wItems, itemsW, wRng1, wFor, endG, List.set_cons_zero, List.set_cons_succ, List.getElem?_cons_zero, List.getElem?_cons_succ, Option.map_some]
  refine ⟨rfl, rfl, ?_⟩
  refine new_s h0 (by omega) fun x1 c1 o1 k1 h1 f1 _ t1 _ => ?_
  try dsimp only [wConsS, wNilS, wAsg, wTwo, wOne, wName, wCon, wCb, wCons, wNil, wRetG, wTag, wSlcA, wO0, wO1, wIfS, wBl, wFn, wFnG, wSetFA, wFldA, wMethA0, wNotT, wOrT, wAndV, Dl.wTru, wLst, wTup, wDats, dats, isB, wSubA, wSetA, wSetLA, wExpr, wPar2, par2, wPar3, par3, wItems, itemsW, wRng1, wFor, endG, List.set_cons_zero, List.set_cons_succ, List.getElem?_cons_zero, List.getElem?_cons_succ, Option.map_some]
  refine ladd ?_
  rw [← e1]
  refine ⟨rfl, rfl, ?_⟩
  refine new_s (by omega) (by omega) fun x2 c2 o2 k2 h2 f2 kp2 t2 _ => ?_
  try dsimp only [wConsS, wNilS, wAsg, wTwo, wOne, wName, wCon, wCb, wCons, wNil, wRetG, wTag, wSlcA, wO0, wO1, wIfS, wBl, wFn, wFnG, wSetFA, wFldA, wMethA0, wNotT, wOrT, wAndV, Dl.wTru, wLst, wTup, wDats, dats, isB, wSubA, wSetA, wSetLA, wExpr, wPar2, par2, wPar3, par3, wItems, itemsW, wRng1, wFor, endG, List.set_cons_zero, List.set_cons_succ, List.getElem?_cons_zero, List.getElem?_cons_succ, Option.map_some]
  have t1' := t1.kept kp2 (by simp) (by simp) (by simp) (by simp)
  refine .inr (.inr (.inr (.inl ⟨t1'.ref, t2.ref, eq_s t1' t2 (fill_ok gv_non) (fill_ok gv_non) ?_⟩)))
  rw [eqS_ne (show n ≠ n + 1 by omega)]
  try dsimp only [wConsS, wNilS, wAsg, wTwo, wOne, wName, wCon, wCb, wCons, wNil, wRetG, wTag, wSlcA, wO0, wO1, wIfS, wBl, wFn, wFnG, wSetFA, wFldA, wMethA0, wNotT, wOrT, wAndV, Dl.wTru, wLst, wTup, wDats, dats, isB, wSubA, wSetA, wSetLA, wExpr, wPar2, par2, wPar3, par3, wItems, itemsW, wRng1, wFor, endG, List.set_cons_zero, List.set_cons_succ, List.getElem?_cons_zero, List.getElem?_cons_succ, Option.map_some]
  refine ⟨rfl, rfl, ?_⟩
  refine new_s h0 (by omega) fun x1 c1 o1 k1 h1 f1 _ t1 _ => ?_
  try dsimp only [wConsS, wNilS, wAsg, wTwo, wOne, wName, wCon, wCb, wCons, wNil, wRetG, wTag, wSlcA, wO0, wO1, wIfS, wBl, wFn, wFnG, wSetFA, wFldA, wMethA0, wNotT, wOrT, wAndV, Dl.wTru, wLst, wTup, wDats, dats, isB, wSubA, wSetA, wSetLA, wExpr, wPar2, par2, wPar3, par3, wItems, itemsW, wRng1, wFor, endG, List.set_cons_zero, List.set_cons_succ, List.getElem?_cons_zero, List.getElem?_cons_succ, Option.map_some]
  refine ladd ?_
  rw [← e1]
  refine ⟨rfl, rfl, ?_⟩
  refine new_s (by omega) (by omega) fun x2 c2 o2 k2 h2 f2 kp2 t2 _ => ?_
  try dsimp only [wConsS, wNilS, wAsg, wTwo, wOne, wName, wCon, wCb, wCons, wNil, wRetG, wTag, wSlcA, wO0, wO1, wIfS, wBl, wFn, wFnG, wSetFA, wFldA, wMethA0, wNotT, wOrT, wAndV, Dl.wTru, wLst, wTup, wDats, dats, isB, wSubA, wSetA, wSetLA, wExpr, wPar2, par2, wPar3, par3, wItems, itemsW, wRng1, wFor, endG, List.set_cons_zero, List.set_cons_succ, List.getElem?_cons_zero, List.getElem?_cons_succ, Option.map_some]
  have t1' := t1.kept kp2 (by simp) (by simp) (by simp) (by simp)
  refine .inr (.inr (.inr (.inl ⟨t1'.ref, t2.ref, eq_s t1' t2 (fill_ok gv_non) (fill_ok gv_non) ?_⟩)))
  rw [eqS_ne (show n ≠ n + 1 by omega)]
  try dsimp only [wConsS, wNilS, wAsg, wTwo, wOne, wName, wCon, wCb, wCons, wNil, wRetG, wTag, wSlcA, wO0, wO1, wIfS, wBl, wFn, wFnG, wSetFA, wFldA, wMethA0, wNotT, wOrT, wAndV, Dl.wTru, wLst, wTup, wDats, dats, isB, wSubA, wSetA, wSetLA, wExpr, wPar2, par2, wPar3, par3, wItems, itemsW, wRng1, wFor, endG, List.set_cons_zero, List.set_cons_succ, List.getElem?_cons_zero, List.getElem?_cons_succ, Option.map_some]
  refine And.intro (szk 3) ?_
  subst hW
  exact fin_c h0 hn q
end

/-! ### the law's end: 1 and True; what is no state -/
theorem pys_rep (v : D) : ∀ n : Nat, D.pys (List.replicate n v) = List.replicate n v.py
  | 0 => rfl
  | n + 1 => by
    rw [List.replicate_succ, List.replicate_succ]
    show v.py :: D.pys (List.replicate n v) = _
    rw [pys_rep v n]
theorem eqvs_rep {v w : PyData} (h : PyData.eqv v w = true) : ∀ n : Nat, PyData.eqvAll (List.replicate n v) (List.replicate n w) = true
  | 0 => by simp [PyData.eqvAll]
  | n + 1 => by
    rw [List.replicate_succ, List.replicate_succ]
    simp only [PyData.eqvAll, Bool.and_eq_true]
    exact ⟨h, eqvs_rep h n⟩
theorem eqD_rep {v w : D} (h : eqD v w = true) (n : Nat) : eqD (.lst (List.replicate n v)) (.lst (List.replicate n w)) = true := by
  unfold eqD
  show PyData.eqv (.list (D.pys (List.replicate n v))) (.list (D.pys (List.replicate n w))) = true
  rw [pys_rep, pys_rep]
  simpa [PyData.eqv] using eqvs_rep h n
theorem eqS_fill {n : Nat} {i j : Int} {v w : D} (h : eqD v w = true) : eqS (fillD n i j v) (fillD n i j w) = true := by
  have e0 := eqD_rep h n
  have e1 : eqK (koff (fillD n i j v)) (koff (fillD n i j w)) = (eqD (.int (i % (n : Int))) (.int (i % (n : Int))) && (eqD (.int (j % (n : Int))) (.int (j % (n : Int))) && true)) := by kernel_rfl
  have e2 : eqK (kcon (fillD n i j v)) (kcon (fillD n i j w)) = (eqD (.lst (List.replicate n v)) (.lst (List.replicate n w)) && (eqD (.lst (List.replicate n v)) (.lst (List.replicate n w)) && (eqD (.lst (List.replicate n v)) (.lst (List.replicate n w)) && true))) := by kernel_rfl
  have e3 : eqK (khel (fillD n i j v)) (khel (fillD n i j w)) = (eqD v w && (eqD v w && (eqD v w && true))) := by kernel_rfl
  unfold eqS
  rw [e1, e2, e3, e0, h, eqD_int, eqD_int, decide_eq_true rfl, decide_eq_true rfl, decide_eq_true (show ((fillD n i j v).n : Int) = ((fillD n i j w).n : Int) from rfl)]
  rfl
section
variable {cs cs' ts : List Cell} {a b r pc ph po p : Addr} {d d' : Sd} {i j o c h f q n m : Nat} {R : RV} {Rx : RX} {ds l : List D} {v fill : D} {bb : B} {x : Str} {s0 s1 s3 s4 s5 s6 s7 s8 s9 s10 s11 s12 s13 s14 s15 : Option Sl}
theorem ones_c (h0 : 0 < n) (hn : n ≤ 60) (q : ∀ c, R (.dat (.bl true)) c) : w_law_ones m ⟨[s0, s1, some (.dat (.int n)), s3, s4, s5, s6, s7, s8, s9, s10, s11, s12, some (.dat (.lst [])), s14, s15], cs⟩ (endG R) := by
  unfold w_law_ones wMakeAX
  generalize hW : w_law_wide m = W
  try dsimp only [wConsS, wNilS, wAsg, wTwo, wOne, wName, wCon, wCb, wCons, wNil, wRetG, wTag, wSlcA, wO0, wO1, wIfS, wBl, wFn, wFnG, wSetFA, wFldA, wMethA0, wNotT, wOrT, wAndV, Dl.wTru, wLst, wTup, wDats, dats, isB, wSubA, wSetA, wSetLA, wExpr, wPar2, par2, wPar3, par3, wItems, itemsW, wRng1, wFor, endG, List.set_cons_zero, List.set_cons_succ, List.getElem?_cons_zero, List.getElem?_cons_succ, Option.map_some]
  refine And.intro (szk 0) ?_
  refine .inr (.inr (.inr (.inr (.inr (leqL (by decide +kernel) (by decide +kernel) ?_)))))
  refine Br.ff (by decide +kernel) ?_
  refine ⟨rfl, rfl, ?_⟩
  refine new_s h0 (by omega) fun x1 c1 o1 k1 h1 f1 _ t1 _ => ?_
  try dsimp only [wConsS, wNilS, wAsg, wTwo, wOne, wName, wCon, wCb, wCons, wNil, wRetG, wTag, wSlcA, wO0, wO1, wIfS, wBl, wFn, wFnG, wSetFA, wFldA, wMethA0, wNotT, wOrT, wAndV, Dl.wTru, wLst, wTup, wDats, dats, isB, wSubA, wSetA, wSetLA, wExpr, wPar2, par2, wPar3, par3, wItems, itemsW, wRng1, wFor, endG, List.set_cons_zero, List.set_cons_succ, List.getElem?_cons_zero, List.getElem?_cons_succ, Option.map_some]
  refine ⟨rfl, rfl, ?_⟩
  refine new_s h0 (by omega) fun x2 c2 o2 k2 h2 f2 kp2 t2 _ => ?_
  try dsimp only [wConsS, wNilS, wAsg, wTwo, wOne, wName, wCon, wCb, wCons, wNil, wRetG, wTag, wSlcA, wO0, wO1, wIfS, wBl, wFn, wFnG, wSetFA, wFldA, wMethA0, wNotT, wOrT, wAndV, Dl.wTru, wLst, wTup, wDats, dats, isB, wSubA, wSetA, wSetLA, wExpr, wPar2, par2, wPar3, par3, wItems, itemsW, wRng1, wFor, endG, List.set_cons_zero, List.set_cons_succ, List.getElem?_cons_zero, List.getElem?_cons_succ, Option.map_some]
  have t1' := t1.kept kp2 (by simp) (by simp) (by simp) (by simp)
  have g1 : Gv (.int 1) := (show Vl (.int 1) from .inl ⟨1, by decide, rfl⟩).gv
  have g2 : Gv (.bl true) := (show Vl (.bl true) from .inr (.inr (.inr (.inr (.inl rfl))))).gv
  refine .inr (.inr (.inr (.inl ⟨t1'.ref, t2.ref, eq_s t1' t2 (fill_ok g1) (fill_ok g2) ?_⟩)))
  rw [eqS_fill (by decide +kernel)]
  refine Br.ff rfl ?_
  subst hW
  exact wide_c h0 hn q
end

/-! ### what is no state -/
section
variable {cs cs' ts : List Cell} {a b r pc ph po p : Addr} {d d' : Sd} {i j o c h f q n m : Nat} {R : RV} {Rx : RX} {ds l : List D} {v e : D} {bb : B} {x : Str} {s0 s1 s2 s3 s4 s5 s6 s7 s8 s9 s10 s11 s12 s13 s14 s15 : Option Sl}
theorem lc_no {p : Pat} {wt : WpT} {we : WpE} {sl sl' : Sls} {d : D} {xs : List D} {R : List D → List Cell → Prop} (e : asgP p d sl = some sl') (h : ∀ k : RB, k false cs → wt sl' cs k noX) (q : lcW p wt we sl xs cs R) : lcW p wt we sl (d :: xs) cs R := asgW_i e (h _ ⟨(fun z => nomatch z), fun _ => q⟩)
abbrev EqR : W2 := orW (refAW 1 0 c_State___eq__) (orW (refKW 1 c_State___eq__) (orW (refDW 1 c_State___eq__) (orW (ref2W 1 c_State___eq__) (orW (liW2 (eqKW false)) (liW2 (eqW false))))))
abbrev NeR : W2 := orW (refNeAW 1 0 c_State___eq__) (orW (refNeKW 1 c_State___eq__) (orW (refNeDW 1 c_State___eq__) (orW (refNeW 1 c_State___eq__) (orW (liW2 (eqKW true)) (liW2 (eqW true))))))
theorem eq_no (s : St cs a d o c h f) (hn : NoS (.dat e) cs) (q : R (.dat (.bl false)) cs) : EqR (.dat (.cls a)) (.dat e) cs R := by
  rcases hn with hk | ⟨p, j, fs, he, ec⟩ | hs
  · exact .inr (.inl ⟨s.ref, hk, eq_oth (.inl hk) q⟩)
  · exact .inl ⟨s.ref, ⟨p, j, fs, he, ec, trivial⟩, eq_oth (.inr (.inl ⟨p, j, fs, he, ec⟩)) q⟩
  · refine .inr (.inr (.inl ⟨s.ref, ?_, eq_oth (.inr (.inr hs)) q⟩))
    rcases hs with hs | hs | hs <;> (cases hs; rfl)
theorem ne_no (s : St cs a d o c h f) (hn : NoS (.dat e) cs) (q : R (.dat (.bl true)) cs) : NeR (.dat (.cls a)) (.dat e) cs R := by
  rcases hn with hk | ⟨p, j, fs, he, ec⟩ | hs
  · exact .inr (.inl ⟨s.ref, hk, eq_oth (.inl hk) q⟩)
  · exact .inl ⟨s.ref, ⟨p, j, fs, he, ec, trivial⟩, eq_oth (.inr (.inl ⟨p, j, fs, he, ec⟩)) q⟩
  · refine .inr (.inr (.inl ⟨s.ref, ?_, eq_oth (.inr (.inr hs)) q⟩))
    rcases hs with hs | hs | hs <;> (cases hs; rfl)
/-- the test of a thing -/
abbrev oddT : WpT := wOrT (wBl (wTwo (wName 6) (wName 14) EqR)) (wNotT (wBl (wTwo (wName 6) (wName 14) NeR)))
theorem oddT_c {k : RB} {kx : RX} (s : St cs a d o c h f) (hn : NoS (.dat e) cs) (q : k false cs) : oddT [s0, s1, s2, s3, s4, s5, some (.dat (.cls a)), s7, s8, s9, s10, s11, s12, s13, some (.dat e), s15] cs k kx := by
  try dsimp only [wConsS, wNilS, wAsg, wTwo, wOne, wName, wCon, wCb, wCons, wNil, wRetG, wTag, wSlcA, wO0, wO1, wIfS, wBl, wFn, wFnG, wSetFA, wFldA, wMethA0, wNotT, wOrT, wAndV, Dl.wTru, wLst, wTup, wDats, dats, isB, wSubA, wSetA, wSetLA, wExpr, wPar2, par2, wPar3, par3, wItems, itemsW, wRng1, wFor, endG, List.set_cons_zero, List.set_cons_succ, List.getElem?_cons_zero, List.getElem?_cons_succ, Option.map_some]
  refine eq_no s hn ?_
  refine Br.ff rfl ?_
  refine ne_no s hn ?_
  exact q
theorem odd_c (s : St cs a d o c h f) (e : cs[q]? = some (.dctA p (know d))) (h0 : 0 < n) (hn : n ≤ 60) (hr : ∀ c, R (.dat (.bl true)) c) : w_law_odd m ⟨[s0, s1, some (.dat (.int n)), s3, s4, some (.dat (.cls p)), some (.dat (.cls a)), s7, s8, s9, s10, s11, s12, s13, s14, s15], cs⟩ (endG R) := by
  unfold w_law_odd wLc wMakeAX
  generalize hW : w_law_ones m = W
  try dsimp only [wConsS, wNilS, wAsg, wTwo, wOne, wName, wCon, wCb, wCons, wNil, wRetG, wTag, wSlcA, wO0, wO1, wIfS, wBl, wFn, wFnG, wSetFA, wFldA, wMethA0, wNotT, wOrT, wAndV, Dl.wTru, wLst, wTup, wDats, dats, isB, wSubA, wSetA, wSetLA, wExpr, wPar2, par2, wPar3, par3, wItems, itemsW, wRng1, wFor, endG, List.set_cons_zero, List.set_cons_succ, List.getElem?_cons_zero, List.getElem?_cons_succ, Option.map_some]
  refine And.intro (szk 1) ?_
  refine ⟨rfl, rfl, ?_⟩
  refine make_c (.inl ls_d) (show 0 < 1 by decide) fun y py => ?_
  try dsimp only [wConsS, wNilS, wAsg, wTwo, wOne, wName, wCon, wCb, wCons, wNil, wRetG, wTag, wSlcA, wO0, wO1, wIfS, wBl, wFn, wFnG, wSetFA, wFldA, wMethA0, wNotT, wOrT, wAndV, Dl.wTru, wLst, wTup, wDats, dats, isB, wSubA, wSetA, wSetLA, wExpr, wPar2, par2, wPar3, par3, wItems, itemsW, wRng1, wFor, endG, List.set_cons_zero, List.set_cons_succ, List.getElem?_cons_zero, List.getElem?_cons_succ, Option.map_some]
  refine And.intro (szk 5) ?_
  refine And.intro (Nat.lt_of_le_of_lt (show _ ≤ 5 from Nat.le_refl 5) (by decide)) ?_
  have s' : St (cs ++ [Cell.insA y 0 [("row", .cls py)], Cell.lstA py [.int 1]]) a d o c h f := s.app
  have e' : (cs ++ [Cell.insA y 0 [("row", .cls py)], Cell.lstA py [.int 1]])[q]? = some (.dctA p (know d)) := Kept.app (X := []) _ _ (by simp) e
  refine lc_no rfl (fun k q => oddT_c s' (.inr (.inr (.inl rfl))) q) ?_
  refine lc_no rfl (fun k q => oddT_c s' (.inr (.inr (.inr (.inl rfl)))) q) ?_
  refine lc_no rfl (fun k q => oddT_c s' (.inr (.inr (.inr (.inr rfl)))) q) ?_
  refine lc_no rfl (fun k q => oddT_c s' (.inl ⟨p, _, _, rfl, e'⟩) q) ?_
  refine lc_no rfl (fun k q => oddT_c s' (.inr (.inl ⟨y, cs.length, _, rfl, rg_new.o⟩)) q) ?_
  subst hW
  exact ones_c h0 hn hr
end

/-! ### behind each setting -/
theorem eqS_refl {d : Sd} (g : d.gd) : eqS d d = true := by
  have e2 : eqK (kcon d) (kcon d) = (eqD (.lst d.A) (.lst d.A) && (eqD (.lst d.B) (.lst d.B) && (eqD (.lst d.C) (.lst d.C) && true))) := by kernel_rfl
  have e3 : eqK (khel d) (khel d) = (eqD d.r d.r && (eqD d.s d.s && (eqD d.t d.t && true))) := by kernel_rfl
  have e1 : eqK (koff d) (koff d) = (eqD (.int d.i) (.int d.i) && (eqD (.int d.j) (.int d.j) && true)) := by kernel_rfl
  unfold eqS
  rw [e1, e2, e3, eqD_refl (gv_ok g.vA), eqD_refl (gv_ok g.vB), eqD_refl (gv_ok g.vC), eqD_refl (gv_okD g.vr), eqD_refl (gv_okD g.vs), eqD_refl (gv_okD g.vt), eqD_int, eqD_int, decide_eq_true rfl, decide_eq_true rfl, decide_eq_true rfl]
  rfl
section
variable {cs cs' ts : List Cell} {a b r pc ph po p pb t : Addr} {d d' : Sd} {i j o c h f q o2 c2 h2 f2 q2 n m : Nat} {R : RV} {Rx : RX} {ds l : List D} {v e : D} {bb : B} {x : Str} {s0 s1 s2 s3 s4 s5 s6 s7 s8 s9 s10 s11 s12 s13 s14 s15 : Option Sl} {P : PJ}
theorem eq_yes (s : St cs a d o c h f) (s2 : St cs b d' o2 c2 h2 f2) (k1 : d.ok) (k2 : d'.ok) (q : R (.dat (.bl (eqS d d'))) cs) : EqR (.dat (.cls a)) (.dat (.cls b)) cs R := .inr (.inr (.inr (.inl ⟨s.ref, s2.ref, eq_s s s2 k1 k2 q⟩)))
theorem ne_yes (s : St cs a d o c h f) (s2 : St cs b d' o2 c2 h2 f2) (k1 : d.ok) (k2 : d'.ok) (q : R (.dat (.bl (!(eqS d d')))) cs) : NeR (.dat (.cls a)) (.dat (.cls b)) cs R := .inr (.inr (.inr (.inl ⟨s.ref, s2.ref, eq_s s s2 k1 k2 q⟩)))
theorem eq_know (e1 : cs[q]? = some (.dctA p (know d))) (e2 : cs[q2]? = some (.dctA pb (know d'))) (g : d.gd) (g' : d'.gd) (hr : R (.dat (.bl (eqS d d'))) cs) : EqR (.dat (.cls p)) (.dat (.cls pb)) cs R :=
  .inr (.inr (.inr (.inr (.inl (keq_at e1 e2 g.know_ok g'.know_ok (by rw [Bool.false_xor, ← eqS_know]; exact hr))))))
theorem like_c (s : St cs a d' o c h f) (s' : St cs t d o2 c2 h2 f2) (e : cs[q]? = some (.dctA p (know d'))) (e' : cs[q2]? = some (.dctA pb (know d))) (g : d.gd) (g' : d'.gd)
    (hn : P.nx ⟨[s0, s1, s2, s3, s4, some (.dat (.cls p)), some (.dat (.cls a)), s7, s8, s9, some (.dat (.cls t)), some (.dat (.cls pb)), s12, s13, s14, s15], cs⟩) :
    w_law_like m ⟨[s0, s1, s2, s3, s4, some (.dat (.cls p)), some (.dat (.cls a)), s7, s8, s9, some (.dat (.cls t)), some (.dat (.cls pb)), s12, s13, s14, s15], cs⟩ P := by
  unfold w_law_like
  try dsimp only [wConsS, wNilS, wAsg, wTwo, wOne, wName, wCon, wCb, wCons, wNil, wRetG, wTag, wSlcA, wO0, wO1, wIfS, wBl, wFn, wFnG, wSetFA, wFldA, wMethA0, wNotT, wOrT, wAndV, Dl.wTru, wLst, wTup, wDats, dats, isB, wSubA, wSetA, wSetLA, wExpr, wPar2, par2, wPar3, par3, wItems, itemsW, wRng1, wFor, endG, List.set_cons_zero, List.set_cons_succ, List.getElem?_cons_zero, List.getElem?_cons_succ, Option.map_some]
  refine eq_yes s' s g.ok g'.ok ?_
  refine eq_know e' e g g' ?_
  refine .inr (.inr (.inr (.inr (.inr (leqB ?_)))))
  generalize hX : eqS d d' = X
  refine Br.ff (by cases X <;> rfl) ?_
  refine ne_yes s' s g.ok g'.ok ?_
  refine eq_know e' e g g' ?_
  refine .inr (.inr (.inr (.inr (.inr (leqB ?_)))))
  rw [hX]
  refine Br.ff (by cases X <;> rfl) ?_
  exact hn
theorem both_c (s : St cs a d' o c h f) (s' : St cs t d o2 c2 h2 f2) (e : cs[q]? = some (.dctA p (know d'))) (e' : cs[q2]? = some (.dctA pb (know d))) (g : d.gd) (g' : d'.gd)
    (hn : ∀ ts, P.nx ⟨[s0, s1, s2, s3, s4, some (.dat (.cls p)), some (.dat (.cls a)), s7, s8, s9, some (.dat (.cls t)), some (.dat (.cls pb)), s12, s13, s14, s15], cs ++ ts⟩) :
    w_law_both m ⟨[s0, s1, s2, s3, s4, some (.dat (.cls p)), some (.dat (.cls a)), s7, s8, s9, some (.dat (.cls t)), some (.dat (.cls pb)), s12, s13, s14, s15], cs⟩ P := by
  unfold w_law_both
  generalize hW : w_law_like m = W
  try dsimp only [wConsS, wNilS, wAsg, wTwo, wOne, wName, wCon, wCb, wCons, wNil, wRetG, wTag, wSlcA, wO0, wO1, wIfS, wBl, wFn, wFnG, wSetFA, wFldA, wMethA0, wNotT, wOrT, wAndV, Dl.wTru, wLst, wTup, wDats, dats, isB, wSubA, wSetA, wSetLA, wExpr, wPar2, par2, wPar3, par3, wItems, itemsW, wRng1, wFor, endG, List.set_cons_zero, List.set_cons_succ, List.getElem?_cons_zero, List.getElem?_cons_succ, Option.map_some]
  refine is_c s e g' fun t1 => ?_
  try dsimp only [wConsS, wNilS, wAsg, wTwo, wOne, wName, wCon, wCb, wCons, wNil, wRetG, wTag, wSlcA, wO0, wO1, wIfS, wBl, wFn, wFnG, wSetFA, wFldA, wMethA0, wNotT, wOrT, wAndV, Dl.wTru, wLst, wTup, wDats, dats, isB, wSubA, wSetA, wSetLA, wExpr, wPar2, par2, wPar3, par3, wItems, itemsW, wRng1, wFor, endG, List.set_cons_zero, List.set_cons_succ, List.getElem?_cons_zero, List.getElem?_cons_succ, Option.map_some]
  refine Br.ff rfl ?_
  refine is_c s'.app (Kept.app (X := []) _ _ (by simp) e') g fun t2 => ?_
  try dsimp only [wConsS, wNilS, wAsg, wTwo, wOne, wName, wCon, wCb, wCons, wNil, wRetG, wTag, wSlcA, wO0, wO1, wIfS, wBl, wFn, wFnG, wSetFA, wFldA, wMethA0, wNotT, wOrT, wAndV, Dl.wTru, wLst, wTup, wDats, dats, isB, wSubA, wSetA, wSetLA, wExpr, wPar2, par2, wPar3, par3, wItems, itemsW, wRng1, wFor, endG, List.set_cons_zero, List.set_cons_succ, List.getElem?_cons_zero, List.getElem?_cons_succ, Option.map_some]
  refine Br.ff rfl ?_
  subst hW
  rw [List.append_assoc]
  exact like_c s.app s'.app (Kept.app (X := []) _ _ (by simp) e) (Kept.app (X := []) _ _ (by simp) e') g g' (hn _)
theorem told_c (s : St cs a d' o c h f) (s' : St cs t d o2 c2 h2 f2) (e : cs[q]? = some (.dctA p (know d'))) (e' : cs[q2]? = some (.dctA pb (know d))) (g : d.gd) (g' : d'.gd)
    (hn : ∀ ts s12, P.nx ⟨[s0, s1, s2, s3, s4, some (.dat (.cls p)), some (.dat (.cls a)), s7, s8, s9, some (.dat (.cls t)), some (.dat (.cls pb)), s12, s13, s14, s15], cs ++ ts⟩) :
    w_law_told m ⟨[s0, s1, s2, s3, s4, some (.dat (.cls p)), some (.dat (.cls a)), s7, s8, s9, some (.dat (.cls t)), some (.dat (.cls pb)), s12, s13, s14, s15], cs⟩ P := by
  unfold w_law_told wSubAX
  generalize hW : w_law_both m = W
  try dsimp only [wConsS, wNilS, wAsg, wTwo, wOne, wName, wCon, wCb, wCons, wNil, wRetG, wTag, wSlcA, wO0, wO1, wIfS, wBl, wFn, wFnG, wSetFA, wFldA, wMethA0, wNotT, wOrT, wAndV, Dl.wTru, wLst, wTup, wDats, dats, isB, wSubA, wSetA, wSetLA, wExpr, wPar2, par2, wPar3, par3, wItems, itemsW, wRng1, wFor, endG, List.set_cons_zero, List.set_cons_succ, List.getElem?_cons_zero, List.getElem?_cons_succ, Option.map_some]
  refine And.intro s.ref ?_
  refine get_a s .A (by rw [g'.la]; exact g'.n0) fun y py => ?_
  try dsimp only [wConsS, wNilS, wAsg, wTwo, wOne, wName, wCon, wCb, wCons, wNil, wRetG, wTag, wSlcA, wO0, wO1, wIfS, wBl, wFn, wFnG, wSetFA, wFldA, wMethA0, wNotT, wOrT, wAndV, Dl.wTru, wLst, wTup, wDats, dats, isB, wSubA, wSetA, wSetLA, wExpr, wPar2, par2, wPar3, par3, wItems, itemsW, wRng1, wFor, endG, List.set_cons_zero, List.set_cons_succ, List.getElem?_cons_zero, List.getElem?_cons_succ, Option.map_some]
  refine And.intro (rg_new (x := y) (p := py)).ref ?_
  refine set_c rg_new (by rw [g'.la]; exact g'.n0) ?_
  subst hW
  have ee : (cs ++ [Cell.insA y 0 [("row", .cls py)], Cell.lstA py (d'.a .A)]).set (cs.length + 1) (Cell.lstA py ((d'.a .A).set ((0 : Int) % ((d'.a .A).length : Int)).toNat (.str "later"))) = cs ++ [Cell.insA y 0 [("row", .cls py)], Cell.lstA py ((d'.a .A).set ((0 : Int) % ((d'.a .A).length : Int)).toNat (.str "later"))] := by
    rw [List.set_append_right _ _ (by omega), Nat.add_sub_cancel_left]
    rfl
  rw [ee]
  exact both_c s.app s'.app (Kept.app (X := []) _ _ (by simp) e) (Kept.app (X := []) _ _ (by simp) e') g g' (fun ts => by rw [List.append_assoc]; exact hn _ _)
end

/-! ### a turn -/
section
variable {cs cs' ts : List Cell} {a b r pc ph po p pb t : Addr} {d d' : Sd} {i j o c h f q o2 c2 h2 f2 q2 n m L : Nat} {R : RV} {Rx : RX} {ds l : List D} {v e : D} {bb b2 b3 : B} {x : Str} {s0 s1 s2 s3 s4 s5 s6 s7 s8 s9 s10 s11 s12 s13 s14 s15 : Option Sl} {P : PJ}
/-- one statement with what comes behind kept apart, for all cells of a kind -/
theorem consS_q {α : Type} {Q : α → Prop} {w1 w2 : WS} {S : Sta} {S' : α → Sta} {P : PJ} (h1 : ∀ P' : PJ, (∀ x, Q x → P'.nx (S' x)) → w1 S P') (h2 : ∀ x, Q x → w2 (S' x) P) : wConsS w1 w2 S P := h1 _ h2
theorem notin {k : Nat} (hk : L ≤ k) (h1 : 0 < L ∧ c < L ∧ h < L ∧ f < L ∧ q < L) : k ∉ [0, c, h, f, q] := fun z => by
  simp only [List.mem_cons, List.not_mem_nil, or_false] at z
  omega
theorem sset_c (hS : SetC d d' bb b2) (hb : cs[0]? = some (bx bb)) (s : St cs a d o c h f) (s' : St cs t d o2 c2 h2 f2) (e : cs[q]? = some (.dctA p (know d))) (e' : cs[q2]? = some (.dctA pb (know d))) (g : d.gd) (g' : d'.gd)
    (hl : 0 < L ∧ c < L ∧ h < L ∧ f < L ∧ q < L) (hg : L ≤ o2 ∧ L ≤ c2 ∧ L ≤ h2 ∧ L ≤ f2 ∧ L ≤ q2)
    (hn : ∀ cs' s12, cs'[0]? = some (bx b2) → St cs' a d' o c h f → cs'[q]? = some (.dctA p (know d')) → P.nx ⟨[s0, some (.cel 0), s2, s3, s4, some (.dat (.cls p)), some (.dat (.cls a)), s7, s8, s9, some (.dat (.cls t)), some (.dat (.cls pb)), s12, s13, s14, s15], cs'⟩) :
    w_law_set m ⟨[s0, some (.cel 0), s2, s3, s4, some (.dat (.cls p)), some (.dat (.cls a)), s7, s8, s9, some (.dat (.cls t)), some (.dat (.cls pb)), s12, s13, s14, s15], cs⟩ P := by
  unfold w_law_set
  generalize hW : w_law_told m = W
  try dsimp only [wConsS, wNilS, wAsg, wTwo, wOne, wName, wCon, wCb, wCons, wNil, wRetG, wTag, wSlcA, wO0, wO1, wIfS, wBl, wFn, wFnG, wSetFA, wFldA, wMethA0, wNotT, wOrT, wAndV, Dl.wTru, wLst, wTup, wDats, dats, isB, wSubA, wSetA, wSetLA, wExpr, wPar2, par2, wPar3, par3, wItems, itemsW, wRng1, wFor, endG, List.set_cons_zero, List.set_cons_succ, List.getElem?_cons_zero, List.getElem?_cons_succ, Option.map_some]
  refine hS cs a p o c h f q _ hb s e fun cs3 k3 e3 s3 q3 => ?_
  subst hW
  have t3 := s'.kept k3 (notin hg.1 hl) (notin hg.2.1 hl) (notin hg.2.2.1 hl) (notin hg.2.2.2.1 hl)
  have b3 := k3 _ _ (notin hg.2.2.2.2 hl) e'
  exact told_c s3 t3 q3 b3 g g' fun ts s12 => hn _ _ (Kept.app (X := []) _ _ (by simp) e3) s3.app (Kept.app (X := []) _ _ (by simp) q3)
/-- what the law's refusals do, by the cells -/
def RefC (d : Sd) (bb b' : B) : Prop := ∀ (cs : List Cell) (a p : Addr) (o c h f q : Nat) (R : RV), cs[0]? = some (bx bb) → St cs a d o c h f → cs[q]? = some (.dctA p (know d)) →
    (∀ cs', Kept [0] cs cs' → cs'[0]? = some (bx b') → R (.dat (.bl true)) cs') → c__law_refuses [.cel 0, .dat (.cls a), .dat (.cls p)] cs R
theorem same_c (hF : RefC d bb b2) (hS : SetC d d' b2 b3) (hb : cs[0]? = some (bx bb)) (s : St cs a d o c h f) (s' : St cs t d o2 c2 h2 f2) (e : cs[q]? = some (.dctA p (know d))) (e' : cs[q2]? = some (.dctA pb (know d))) (g : d.gd) (g' : d'.gd)
    (hl : 0 < L ∧ c < L ∧ h < L ∧ f < L ∧ q < L) (hg : L ≤ o2 ∧ L ≤ c2 ∧ L ≤ h2 ∧ L ≤ f2 ∧ L ≤ q2)
    (hn : ∀ cs' s12, cs'[0]? = some (bx b3) → St cs' a d' o c h f → cs'[q]? = some (.dctA p (know d')) → P.nx ⟨[s0, some (.cel 0), s2, s3, s4, some (.dat (.cls p)), some (.dat (.cls a)), s7, s8, s9, some (.dat (.cls t)), some (.dat (.cls pb)), s12, s13, s14, s15], cs'⟩) :
    w_law_same m ⟨[s0, some (.cel 0), s2, s3, s4, some (.dat (.cls p)), some (.dat (.cls a)), s7, s8, s9, some (.dat (.cls t)), some (.dat (.cls pb)), s12, s13, s14, s15], cs⟩ P := by
  unfold w_law_same
  obtain ⟨no, nc, nh, nf⟩ := s.n0 hb
  have nq := nq0 e hb
  refine consS_q (S' := fun cs3 => ⟨[s0, some (.cel 0), s2, s3, s4, some (.dat (.cls p)), some (.dat (.cls a)), s7, s8, s9, some (.dat (.cls t)), some (.dat (.cls pb)), s12, s13, s14, s15], cs3⟩) (Q := fun cs3 => Kept [0] cs cs3 ∧ cs3[0]? = some (bx b2)) (fun P' hP => ?_) fun cs3 hk => ?_
  · dsimp only [wIfS, wOrT, wBl, wTwo, wName, List.getElem?_cons_succ, List.getElem?_cons_zero, wCon]
    refine eq_yes s' s g.ok g.ok ?_
    rw [eqS_refl g]
    refine lisB ?_
    dsimp only [isB]
    refine Br.ff (by rw [decide_eq_true rfl]; rfl) ?_
    refine eq_no s' (.inl ⟨p, q, _, rfl, e⟩) ?_
    dsimp only [isB]
    refine Br.ff rfl ?_
    dsimp only [wNotT, Dl.wTru, wFnG, wCons, wName, List.getElem?_cons_succ, List.getElem?_cons_zero, wNil]
    refine hF cs a p o c h f q _ hb s e fun cs3 k3 e3 => ?_
    refine Br.ff rfl ?_
    exact hP cs3 ⟨k3, e3⟩
  obtain ⟨k3, e3⟩ := hk
  have z : ∀ {k : Nat}, L ≤ k → k ∉ [0] := fun hk z => by have := List.mem_singleton.mp z; omega
  exact sset_c hS e3 (s.kept k3 (by simpa using no) (by simpa using nc) (by simpa using nh) (by simpa using nf)) (s'.kept k3 (z hg.1) (z hg.2.1) (z hg.2.2.1) (z hg.2.2.2.1)) (k3 _ _ (by simpa using nq) e) (k3 _ _ (z hg.2.2.2.2) e') g g' hl hg hn
end

/-! ### a turn, all -/
section
variable {cs cs' ts : List Cell} {a b r pc ph po p pb t : Addr} {d d' : Sd} {i j o c h f q o2 c2 h2 f2 q2 n m L : Nat} {R : RV} {Rx : RX} {ds l : List D} {v e : D} {bb b2 b3 : B} {x : Str} {s0 s1 s2 s3 s4 s5 s6 s7 s8 s9 s10 s11 s12 s13 s14 s15 : Option Sl} {P : PJ}
theorem turn_c (hF : RefC d bb b2) (hS : SetC d d' b2 b3) (hb : cs[0]? = some (bx bb)) (s : St cs a d o c h f) (e : cs[q]? = some (.dctA p (know d))) (g : d.gd) (g' : d'.gd)
    (hn : ∀ cs' s10 s11 s12, cs'[0]? = some (bx b3) → St cs' a d' o c h f → cs'[q]? = some (.dctA p (know d')) → P.nx ⟨[s0, some (.cel 0), s2, s3, s4, some (.dat (.cls p)), some (.dat (.cls a)), s7, s8, s9, s10, s11, s12, s13, s14, s15], cs'⟩) :
    w_law_turn m ⟨[s0, some (.cel 0), s2, s3, s4, some (.dat (.cls p)), some (.dat (.cls a)), s7, s8, s9, s10, s11, s12, s13, s14, s15], cs⟩ P := by
  unfold w_law_turn
  have n0 := g.n0
  have n1 := g.n1
  obtain ⟨lo, lc, lh, lf⟩ := s.lt
  have lq := (List.getElem?_eq_some_iff.mp e).1
  have l0 := (List.getElem?_eq_some_iff.mp hb).1
  refine consS_q (S' := fun x : Addr × Addr × List Cell => ⟨[s0, some (.cel 0), s2, s3, s4, some (.dat (.cls p)), some (.dat (.cls a)), s7, s8, s9, some (.dat (.cls x.1)), some (.dat (.cls x.2.1)), s12, s13, s14, s15], x.2.2⟩)
    (Q := fun x => ∃ o2 c2 h2 f2 q2, Kept [] cs x.2.2 ∧ St x.2.2 x.1 d o2 c2 h2 f2 ∧ x.2.2[q2]? = some (.dctA x.2.1 (know d)) ∧ cs.length ≤ o2 ∧ cs.length ≤ c2 ∧ cs.length ≤ h2 ∧ cs.length ≤ f2 ∧ cs.length ≤ q2) (fun P' hP => ?_) fun x hx => ?_
  · dsimp only [wPar2, wCons, wNil, wMethA0, wName, wFnG, List.getElem?_cons_succ, List.getElem?_cons_zero]
    obtain ⟨pc, ph, po, g1, g2, g3, g4⟩ := s.ex
    refine And.intro ⟨a, o, _, rfl, g1, by kernel_rfl⟩ ?_
    refine copied_s s g.n0 (by omega) g.nod fun t c1 o2 c2 h2 f2 k1 t1 l1 => ?_
    refine copy_c (k1 _ _ (by simp) e) fun pb => ?_
    have kl := k1.len
    exact hP (t, pb, c1 ++ [.dctA pb (know d)]) ⟨o2, c2, h2, f2, c1.length, k1.more, t1.app, at_last, l1.1, l1.2.1, l1.2.2.1, l1.2.2.2, kl⟩
  · obtain ⟨o2, c2, h2, f2, q2, k1, t1, e1, z1, z2, z3, z4, z5⟩ := hx
    exact same_c (L := cs.length) hF hS (k1 _ _ (by simp) hb) (s.kept k1 (by simp) (by simp) (by simp) (by simp)) t1 (k1 _ _ (by simp) e) e1 g g' ⟨l0, lc, lh, lf, lq⟩ ⟨z1, z2, z3, z4, z5⟩ fun cs' s12 x1 x2 x3 => hn _ _ _ _ x1 x2 x3
end

/-! ### the turns, and what comes behind -/
section
variable {cs cs' ts : List Cell} {a b r pc ph po p pb t : Addr} {d d' : Sd} {i j o c h f q o2 c2 h2 f2 q2 n m L : Nat} {R : RV} {Rx : RX} {ds l : List D} {v e : D} {bb b2 b3 : B} {x : Str} {s0 s1 s2 s3 s4 s5 s6 s7 s8 s9 s10 s11 s12 s13 s14 s15 : Option Sl} {P : PJ}
theorem turns_c {items : List D} (ok : Ok bb) (hb : cs[0]? = some (bx bb)) (s : St cs a d o c h f) (e : cs[q]? = some (.dctA p (know d))) (g : d.gd)
    (hn : ∀ cs' d' s9 s10 s11 s12, d'.gd → St cs' a d' o c h f → cs'[q]? = some (.dctA p (know d')) → P.nx ⟨[s0, some (.cel 0), s2, s3, s4, some (.dat (.cls p)), some (.dat (.cls a)), s7, s8, s9, s10, s11, s12, s13, s14, s15], cs'⟩) :
    forW (.nm 9) (w_law_turn m) items ⟨[s0, some (.cel 0), s2, s3, s4, some (.dat (.cls p)), some (.dat (.cls a)), s7, s8, s9, s10, s11, s12, s13, s14, s15], cs⟩ P := by
  refine forW_ind (fun S => ∃ cs' b d' s9 s10 s11 s12, Ok b ∧ d'.gd ∧ cs'[0]? = some (bx b) ∧ St cs' a d' o c h f ∧ cs'[q]? = some (.dctA p (know d')) ∧ S = ⟨[s0, some (.cel 0), s2, s3, s4, some (.dat (.cls p)), some (.dat (.cls a)), s7, s8, s9, s10, s11, s12, s13, s14, s15], cs'⟩) items ?_ ?_ _ ⟨cs, bb, d, s9, s10, s11, s12, ok, g, hb, s, e, rfl⟩
  · intro it _ S hS nx' hnx
    obtain ⟨cs1, b1, d1, t9, t10, t11, t12, ok1, g1, hb1, s1, e1, rfl⟩ := hS
    refine asgW_i rfl ?_
    obtain ⟨b2, ok2, hF⟩ := refuses_ex g1 ok1
    obtain ⟨d2, b3, ok3, g3, _, hS⟩ := set_ex g1 ok2
    exact turn_c (d' := d2) (b2 := b2) (b3 := b3) hF hS hb1 s1 e1 g1 g3 fun cs' s10 s11 s12 x1 x2 x3 => hnx _ ⟨cs', b3, d2, _, s10, s11, s12, ok3, g3, x1, x2, x3, rfl⟩
  · intro S hS
    obtain ⟨cs1, b1, d1, t9, t10, t11, t12, ok1, g1, hb1, s1, e1, rfl⟩ := hS
    exact hn _ _ _ _ _ _ g1 s1 e1
theorem start_c (ok : Ok bb) (hb : cs[0]? = some (bx bb)) (s : St cs a d o c h f) (e : cs[q]? = some (.dctA p (know d))) (g : d.gd) (h0 : 0 < n) (hn : n ≤ 60) (hr : ∀ c, R (.dat (.bl true)) c) :
    w_law_start m ⟨[s0, some (.cel 0), some (.dat (.int n)), s3, s4, some (.dat (.cls p)), some (.dat (.cls a)), s7, s8, s9, s10, s11, s12, s13, s14, s15], cs⟩ (endG R) := by
  unfold w_law_start
  refine consS_q (S' := fun ts : List Cell => ⟨[s0, some (.cel 0), some (.dat (.int n)), s3, s4, some (.dat (.cls p)), some (.dat (.cls a)), s7, s8, s9, s10, s11, s12, s13, s14, s15], cs ++ ts⟩) (Q := fun _ => True) (fun P' hP => ?_) fun ts _ => ?_
  · try dsimp only [wConsS, wNilS, wAsg, wTwo, wOne, wName, wCon, wCb, wCons, wNil, wRetG, wTag, wSlcA, wO0, wO1, wIfS, wBl, wFn, wFnG, wSetFA, wFldA, wMethA0, wNotT, wOrT, wAndV, Dl.wTru, wLst, wTup, wDats, dats, isB, wSubA, wSetA, wSetLA, wExpr, wPar2, par2, wPar3, par3, wItems, itemsW, wRng1, wFor, endG, List.set_cons_zero, List.set_cons_succ, List.getElem?_cons_zero, List.getElem?_cons_succ, Option.map_some]
    refine is_c s e g fun ts => ?_
    try dsimp only [wConsS, wNilS, wAsg, wTwo, wOne, wName, wCon, wCb, wCons, wNil, wRetG, wTag, wSlcA, wO0, wO1, wIfS, wBl, wFn, wFnG, wSetFA, wFldA, wMethA0, wNotT, wOrT, wAndV, Dl.wTru, wLst, wTup, wDats, dats, isB, wSubA, wSetA, wSetLA, wExpr, wPar2, par2, wPar3, par3, wItems, itemsW, wRng1, wFor, endG, List.set_cons_zero, List.set_cons_succ, List.getElem?_cons_zero, List.getElem?_cons_succ, Option.map_some]
    exact Br.ff rfl (hP ts trivial)
  have hb' : (cs ++ ts)[0]? = some (bx bb) := Kept.app (X := []) _ _ (by simp) hb
  have h7 := tk_lo (b := bb) (m := 7) (by decide)
  have h8 := tk_hi (b := bb) (m := 7) (by decide)
  refine consS_q (S' := fun x : List Cell × Sd × Option Sl × Option Sl × Option Sl × Option Sl => ⟨[s0, some (.cel 0), some (.dat (.int n)), s3, s4, some (.dat (.cls p)), some (.dat (.cls a)), s7, s8, x.2.2.1, x.2.2.2.1, x.2.2.2.2.1, x.2.2.2.2.2, s13, s14, s15], x.1⟩) (Q := fun x => x.2.1.gd ∧ St x.1 a x.2.1 o c h f ∧ x.1[q]? = some (.dctA p (know x.2.1))) (fun P' hP => ?_) fun x hx => ?_
  · generalize hW : w_law_turn m = W
    try dsimp only [wConsS, wNilS, wAsg, wTwo, wOne, wName, wCon, wCb, wCons, wNil, wRetG, wTag, wSlcA, wO0, wO1, wIfS, wBl, wFn, wFnG, wSetFA, wFldA, wMethA0, wNotT, wOrT, wAndV, Dl.wTru, wLst, wTup, wDats, dats, isB, wSubA, wSetA, wSetLA, wExpr, wPar2, par2, wPar3, par3, wItems, itemsW, wRng1, wFor, endG, List.set_cons_zero, List.set_cons_succ, List.getElem?_cons_zero, List.getElem?_cons_succ, Option.map_some]
    refine box1 hb' (take_c (by decide) (by decide) ok) fun cs2 k2 e2 l2 => ?_
    refine ladd ?_
    refine And.intro (show SmI _ by unfold SmI; omega) ?_
    subst hW
    obtain ⟨no, nc, nh, nf⟩ := s.n0 hb
    have nq := nq0 e hb
    exact turns_c (ok.nx 7) e2 (s.app.kept k2 (by simpa using no) (by simpa using nc) (by simpa using nh) (by simpa using nf)) (k2 _ _ (by simpa using nq) (Kept.app (X := []) _ _ (by simp) e)) g fun cs' d' s9 s10 s11 s12 x1 x2 x3 => hP (cs', d', s9, s10, s11, s12) ⟨x1, x2, x3⟩
  · exact odd_c hx.2.1 hx.2.2 h0 hn hr
end

/-! ### the law -/
section
variable {cs cs' ts : List Cell} {a b r pc ph po p pb t : Addr} {d d' : Sd} {i j o c h f q o2 c2 h2 f2 q2 n m L : Nat} {R : RV} {Rx : RX} {ds l : List D} {v e : D} {bb b2 b3 : B} {x : Str} {s0 s1 s2 s3 s4 s5 s6 s7 s8 s9 s10 s11 s12 s13 s14 s15 : Option Sl} {P : PJ} {k1 k2 : Int}
theorem fill_c (ok : Ok bb) (hb : cs[0]? = some (bx bb)) (s : St cs a (freeD n k1 k2) o c h f) (e : cs[q]? = some (.dctA p (know (freeD n k1 k2)))) (h0 : 0 < n) (hn : n ≤ 60) (hr : ∀ c, R (.dat (.bl true)) c) :
    w_law_fill m ⟨[s0, some (.cel 0), some (.dat (.int n)), some (.dat (.int k1)), some (.dat (.int k2)), some (.dat (.cls p)), some (.dat (.cls a)), none, none, none, none, none, none, none, none, none], cs⟩ (endG R) := by
  unfold w_law_fill
  have nq := nq0 e hb
  obtain ⟨no, nc, nh, nf⟩ := s.n0 hb
  refine consS_q (S' := fun x : List Cell × Addr × Addr × Option Sl × Option Sl => ⟨[s0, some (.cel 0), some (.dat (.int n)), some (.dat (.int k1)), some (.dat (.int k2)), some (.dat (.cls x.2.1)), some (.dat (.cls x.2.2.1)), x.2.2.2.1, x.2.2.2.2, none, none, none, none, none, none, none], x.1⟩)
    (Q := fun x : List Cell × Addr × Addr × Option Sl × Option Sl => ∃ b d o c h f, ∃ q : Nat, Ok b ∧ Sd.gd d ∧ x.1[0]? = some (bx b) ∧ St x.1 x.2.2.1 d o c h f ∧ x.1[q]? = some (.dctA x.2.1 (know d))) (fun P' hP => ?_) fun x hx => ?_
  · have h7 := tk_lo (b := bb) (m := 2) (by decide)
    have h8 := tk_hi (b := bb) (m := 2) (by decide)
    obtain ⟨v, b2, hv, ok2, hc⟩ := some_ex (ok.nx 2)
    unfold wMakeAX wDgetA wSetDA wTupS
    try dsimp only [wConsS, wNilS, wAsg, wTwo, wOne, wName, wCon, wCb, wCons, wNil, wRetG, wTag, wSlcA, wO0, wO1, wIfS, wBl, wFn, wFnG, wSetFA, wFldA, wMethA0, wNotT, wOrT, wAndV, Dl.wTru, wLst, wTup, wDats, dats, isB, wSubA, wSetA, wSetLA, wExpr, wPar2, par2, wPar3, par3, wItems, itemsW, wRng1, wFor, endG, List.set_cons_zero, List.set_cons_succ, List.getElem?_cons_zero, List.getElem?_cons_succ, Option.map_some]
    refine box1 hb (take_c (by decide) (by decide) ok) fun cs2 j2 e2 l2 => ?_
    have s2 := s.kept j2 (by simpa using no) (by simpa using nc) (by simpa using nh) (by simpa using nf)
    have q2 := j2 _ _ (by simpa using nq) e
    refine .inr (.inr (.inr (.inr (.inr (leqI ?_)))))
    by_cases ez : tk bb 2 = 0
    · refine Br.tt (by rw [decide_eq_true ez]; rfl) ?_
      refine box0 e2 hc fun cs3 j3 e3 l3 => ?_
      try dsimp only [wConsS, wNilS, wAsg, wTwo, wOne, wName, wCon, wCb, wCons, wNil, wRetG, wTag, wSlcA, wO0, wO1, wIfS, wBl, wFn, wFnG, wSetFA, wFldA, wMethA0, wNotT, wOrT, wAndV, Dl.wTru, wLst, wTup, wDats, dats, isB, wSubA, wSetA, wSetLA, wExpr, wPar2, par2, wPar3, par3, wItems, itemsW, wRng1, wFor, endG, List.set_cons_zero, List.set_cons_succ, List.getElem?_cons_zero, List.getElem?_cons_succ, Option.map_some]
      have q3 := j3 _ _ (by simpa using nq) q2
      refine ⟨rfl, rfl, ?_⟩
      refine new_s h0 (by omega) fun y c4 o4 k4 h4 f4 kp4 t4 _ => ?_
      try dsimp only [wConsS, wNilS, wAsg, wTwo, wOne, wName, wCon, wCb, wCons, wNil, wRetG, wTag, wSlcA, wO0, wO1, wIfS, wBl, wFn, wFnG, wSetFA, wFldA, wMethA0, wNotT, wOrT, wAndV, Dl.wTru, wLst, wTup, wDats, dats, isB, wSubA, wSetA, wSetLA, wExpr, wPar2, par2, wPar3, par3, wItems, itemsW, wRng1, wFor, endG, List.set_cons_zero, List.set_cons_succ, List.getElem?_cons_zero, List.getElem?_cons_succ, Option.map_some]
      have q4 := kp4 _ _ (by simp) q3
      refine kd_at (kds := know (freeD n k1 k2)) q4 ⟨_, .int (k1 % (n : Int)), rfl, know_o _ .i, ?_⟩
      refine kd_at (kds := know (freeD n k1 k2)) q4 ⟨_, .int (k2 % (n : Int)), rfl, know_o _ .j, ?_⟩
      try dsimp only [wConsS, wNilS, wAsg, wTwo, wOne, wName, wCon, wCb, wCons, wNil, wRetG, wTag, wSlcA, wO0, wO1, wIfS, wBl, wFn, wFnG, wSetFA, wFldA, wMethA0, wNotT, wOrT, wAndV, Dl.wTru, wLst, wTup, wDats, dats, isB, wSubA, wSetA, wSetLA, wExpr, wPar2, par2, wPar3, par3, wItems, itemsW, wRng1, wFor, endG, List.set_cons_zero, List.set_cons_succ, List.getElem?_cons_zero, List.getElem?_cons_succ, Option.map_some]
      refine And.intro (szk 2) (And.intro (szk 2) ?_)
      unfold unpW
      dsimp only
      refine asgW_i rfl ?_
      try dsimp only [wConsS, wNilS, wAsg, wTwo, wOne, wName, wCon, wCb, wCons, wNil, wRetG, wTag, wSlcA, wO0, wO1, wIfS, wBl, wFn, wFnG, wSetFA, wFldA, wMethA0, wNotT, wOrT, wAndV, Dl.wTru, wLst, wTup, wDats, dats, isB, wSubA, wSetA, wSetLA, wExpr, wPar2, par2, wPar3, par3, wItems, itemsW, wRng1, wFor, endG, List.set_cons_zero, List.set_cons_succ, List.getElem?_cons_zero, List.getElem?_cons_succ, Option.map_some]
      refine filled_c h0 (by omega) fun pf => ?_
      try dsimp only [wConsS, wNilS, wAsg, wTwo, wOne, wName, wCon, wCb, wCons, wNil, wRetG, wTag, wSlcA, wO0, wO1, wIfS, wBl, wFn, wFnG, wSetFA, wFldA, wMethA0, wNotT, wOrT, wAndV, Dl.wTru, wLst, wTup, wDats, dats, isB, wSubA, wSetA, wSetLA, wExpr, wPar2, par2, wPar3, par3, wItems, itemsW, wRng1, wFor, endG, List.set_cons_zero, List.set_cons_succ, List.getElem?_cons_zero, List.getElem?_cons_succ, Option.map_some]
      refine lix (d := .int (k1 % (n : Int))) rfl ?_
      refine ⟨pf, c4.length, know (fillD n 0 0 v), _, .int (k1 % (n : Int)), ⟨rfl, rfl, rfl⟩, at_last, kl_lt (k := 9) rfl (by decide), ?_⟩
      rw [set_last]
      refine lix (d := .int (k2 % (n : Int))) rfl ?_
      refine ⟨pf, c4.length, _, _, .int (k2 % (n : Int)), ⟨rfl, rfl, rfl⟩, at_last, kl_le (k := 10) (put_len (Nat.le_refl 9)) (by decide), ?_⟩
      rw [set_last, show putD (putD (know (fillD n 0 0 v)) (.inr "i") (.int (k1 % (n : Int)))) (.inr "j") (.int (k2 % (n : Int))) = know (fillD n k1 k2 v) by kernel_rfl]
      refine hP (c4 ++ [.dctA pf (know (fillD n k1 k2 v))], pf, y, _, _) ⟨b2, fillD n k1 k2 v, o4, k4, h4, f4, c4.length, ok2, fill_gd h0 hn hv.gv, Kept.app (X := []) _ _ (by simp) (kp4 _ _ (by simp) e3), t4.app, at_last⟩
    · refine Br.ff (by rw [decide_eq_false ez]; rfl) ?_
      exact hP (cs2, p, a, none, none) ⟨_, _, o, c, h, f, q, ok.nx 2, free_gd h0 hn, e2, s2, q2⟩
  · obtain ⟨b, d, o, c, h, f, q, ok1, g1, hb1, s1, e1⟩ := hx
    exact start_c ok1 hb1 s1 e1 g1 h0 hn hr
end

/-! ### the law, from the script on -/
theorem law_of (ns : List Int) (hl : ns.length ≤ 63) (hb : ∀ z ∈ ns, Builtin.Int.intBits z ≤ 1048576) : c_law [.dat (.scr (ns.map D.int))] [] (.dat (.bl true)) [] := by
  have hb0 := feedB_ok ns 0
  generalize hB : feedB ns 0 = b0 at hb0
  have h1 := tk_lo (b := b0) (m := 2) (by decide)
  have h2 := tk_hi (b := b0) (m := 2) (by decide)
  obtain ⟨g, hg, gl, gh⟩ : ∃ g : Int, atI [D.int 6, D.int 59] (tk b0 2) = some (.int g) ∧ 0 < g ∧ g ≤ 59 := by
    rcases (show tk b0 2 = 0 ∨ tk b0 2 = 1 by omega) with e | e
    · exact ⟨6, by rw [e]; rfl, by decide, by decide⟩
    · exact ⟨59, by rw [e]; rfl, by decide, by decide⟩
  have k1 : Ok (nx b0 2) := hb0.nx _
  have h3 := tk_lo (b := nx b0 2) (m := g) gl
  have h4 := tk_hi (b := nx b0 2) (m := g) gl
  have k2 : Ok (nx (nx b0 2) g) := k1.nx _
  generalize hn : (1 + tk (nx b0 2) g).toNat = n
  have en : 1 + tk (nx b0 2) g = (n : Int) := by omega
  obtain ⟨i, b3, o3, hf3⟩ := far2_ex k2
  obtain ⟨j, b4, o4, hf4⟩ := far2_ex o3
  refine ⟨⟨_, rfl⟩, rfl, (?_ : w_law _ ⟨[some (.dat (scD ns)), none, none, none, none, none, none, none, none, none, none, none, none, none, none, none], []⟩ (endG _))⟩
  unfold w_law
  refine consS_i (S' := ⟨[some (.dat (scD ns)), some (.cel 0), none, none, none, none, none, none, none, none, none, none, none, none, none, none], [bx b0]⟩) (fun P' q => ?_) ?_
  · refine call_ (feed_c (k := 0) (by decide)) ?_
    rw [hB]
    exact q
  refine consS_i (S' := ⟨[some (.dat (scD ns)), some (.cel 0), some (.dat (.int n)), some (.dat (.int i)), some (.dat (.int j)), none, none, none, none, none, none, none, none, none, none, none], [bx b4]⟩) (fun P' q => ?_) ?_
  · refine And.intro (szk 2) ?_
    refine ⟨_, _, take_c (by decide) (by decide) hb0, ?_⟩
    refine lix hg ?_
    refine ⟨_, _, take_c gl (by omega) k1, ?_⟩
    refine ladd ?_
    rw [en]
    refine ⟨_, _, hf3, ?_⟩
    refine ⟨_, _, hf4, ?_⟩
    exact q
  refine consS_q (S' := fun x : List Cell × Addr × Addr => ⟨[some (.dat (scD ns)), some (.cel 0), some (.dat (.int n)), some (.dat (.int i)), some (.dat (.int j)), some (.dat (.cls x.2.1)), some (.dat (.cls x.2.2)), none, none, none, none, none, none, none, none, none], x.1⟩)
    (Q := fun x : List Cell × Addr × Addr => ∃ o c h f, ∃ q : Nat, x.1[0]? = some (bx b4) ∧ St x.1 x.2.2 (freeD n i j) o c h f ∧ x.1[q]? = some (.dctA x.2.1 (know (freeD n i j)))) (fun P' hP => ?_) fun x hx => ?_
  · unfold wTupS wCmA
    try dsimp only [wConsS, wNilS, wAsg, wTwo, wOne, wName, wCon, wCb, wCons, wNil, wRetG, wTag, wSlcA, wO0, wO1, wIfS, wBl, wFn, wFnG, wSetFA, wFldA, wMethA0, wNotT, wOrT, wAndV, Dl.wTru, wLst, wTup, wDats, dats, isB, wSubA, wSetA, wSetLA, wExpr, wPar2, par2, wPar3, par3, wItems, itemsW, wRng1, wFor, endG, List.set_cons_zero, List.set_cons_succ, List.getElem?_cons_zero, List.getElem?_cons_succ, Option.map_some]
    refine free_c (by omega) (by omega) fun p => ?_
    try dsimp only [wConsS, wNilS, wAsg, wTwo, wOne, wName, wCon, wCb, wCons, wNil, wRetG, wTag, wSlcA, wO0, wO1, wIfS, wBl, wFn, wFnG, wSetFA, wFldA, wMethA0, wNotT, wOrT, wAndV, Dl.wTru, wLst, wTup, wDats, dats, isB, wSubA, wSetA, wSetLA, wExpr, wPar2, par2, wPar3, par3, wItems, itemsW, wRng1, wFor, endG, List.set_cons_zero, List.set_cons_succ, List.getElem?_cons_zero, List.getElem?_cons_succ, Option.map_some]
    refine ⟨rfl, rfl, ?_⟩
    refine free_s (by omega) (by omega) fun a c1 o c h f kp s _ => ?_
    try dsimp only [wConsS, wNilS, wAsg, wTwo, wOne, wName, wCon, wCb, wCons, wNil, wRetG, wTag, wSlcA, wO0, wO1, wIfS, wBl, wFn, wFnG, wSetFA, wFldA, wMethA0, wNotT, wOrT, wAndV, Dl.wTru, wLst, wTup, wDats, dats, isB, wSubA, wSetA, wSetLA, wExpr, wPar2, par2, wPar3, par3, wItems, itemsW, wRng1, wFor, endG, List.set_cons_zero, List.set_cons_succ, List.getElem?_cons_zero, List.getElem?_cons_succ, Option.map_some]
    refine And.intro (szk 2) ?_
    unfold unpW
    dsimp only
    refine asgW_i rfl ?_
    try dsimp only [wConsS, wNilS, wAsg, wTwo, wOne, wName, wCon, wCb, wCons, wNil, wRetG, wTag, wSlcA, wO0, wO1, wIfS, wBl, wFn, wFnG, wSetFA, wFldA, wMethA0, wNotT, wOrT, wAndV, Dl.wTru, wLst, wTup, wDats, dats, isB, wSubA, wSetA, wSetLA, wExpr, wPar2, par2, wPar3, par3, wItems, itemsW, wRng1, wFor, endG, List.set_cons_zero, List.set_cons_succ, List.getElem?_cons_zero, List.getElem?_cons_succ, Option.map_some]
    exact hP (c1, p, a) ⟨o, c, h, f, 1, kp _ _ (by simp) rfl, s, kp _ _ (by simp) rfl⟩
  · obtain ⟨o, c, h, f, q, e1, s, e2⟩ := hx
    exact fill_c o4 e1 s e2 (by omega) (by omega) fun c => ⟨rfl, rfl⟩

def pp_c_Ring : Pa := gP "Ring"
def pp_c_State : Pa := gP "State"
def pp_ga_ARRAYS : Pa := gP "ARRAYS"
def pp_ga_REGISTERS : Pa := gP "REGISTERS"
def pp_ga_OFFSETS : Pa := gP "OFFSETS"
def pp_c_ClashError : Pa := gP "ClashError"
def pp_c_InvalidSize : Pa := gP "InvalidSize"
def pp_c_UnknownName : Pa := gP "UnknownName"
def pp_a__law_box : Pa := gP "_law_box"
def pp_a__law_take : Pa := gP "_law_take"
def pp_a__law_far : Pa := gP "_law_far"
def pp_a__law_free : Pa := gP "_law_free"
def pp_a__law_pick : Pa := gP "_law_pick"
def pp_a__law_some_value : Pa := gP "_law_some_value"
def pp_a__law_filled : Pa := gP "_law_filled"
def pp_a_Ring_cells : Pa := mP (pp_c_Ring) "cells"
def pp_a_UnknownName___init__ : Pa := mP (pp_c_UnknownName) "__init__"
def pp_a_InvalidSize___init__ : Pa := mP (pp_c_InvalidSize) "__init__"
def pp_a_Ring___init__ : Pa := mP (pp_c_Ring) "__init__"
def pp_a_State___getitem__ : Pa := mP (pp_c_State) "__getitem__"
def pp_a__law_is_state : Pa := gP "_law_is_state"
def pp_a_Ring___len__ : Pa := mP (pp_c_Ring) "__len__"
def pp_a_State___setitem__ : Pa := mP (pp_c_State) "__setitem__"
def pp_a_Ring___setitem__ : Pa := mP (pp_c_Ring) "__setitem__"
def pp_a__law_set : Pa := gP "_law_set"
def pp_a_State___init__ : Pa := mP (pp_c_State) "__init__"
def pp_p_State_free : Pa := smP (pp_c_State) "free"
def pp_a_State_free : Pa := rP (pp_p_State_free) "classmethod"
def pp_a__law_copy : Pa := gP "_law_copy"
def pp_a_State_copied : Pa := mP (pp_c_State) "copied"
def pp_a__law_no_state : Pa := gP "_law_no_state"
def pp_a__law_refusal : Pa := gP "_law_refusal"
def pp_a__law_refuses : Pa := gP "_law_refuses"
def pp_a_State___eq__ : Pa := mP (pp_c_State) "__eq__"
def pp_a_law : Pa := gP "law"
def dd__law_box : DefX := ⟨pp_a__law_box, "_law_box", "_law_box", defArgs s__law_box, defBody s__law_box, defScope s__law_box, [], []⟩
def dd__law_take : DefX := ⟨pp_a__law_take, "_law_take", "_law_take", defArgs s__law_take, defBody s__law_take, defScope s__law_take, [], []⟩
def dd__law_far : DefX := ⟨pp_a__law_far, "_law_far", "_law_far", defArgs s__law_far, defBody s__law_far, defScope s__law_far, [], []⟩
def dd__law_free : DefX := ⟨pp_a__law_free, "_law_free", "_law_free", defArgs s__law_free, defBody s__law_free, defScope s__law_free, [], []⟩
def dd__law_pick : DefX := ⟨pp_a__law_pick, "_law_pick", "_law_pick", defArgs s__law_pick, defBody s__law_pick, defScope s__law_pick, [], []⟩
def dd__law_some_value : DefX := ⟨pp_a__law_some_value, "_law_some_value", "_law_some_value", defArgs s__law_some_value, defBody s__law_some_value, defScope s__law_some_value, [], []⟩
def dd__law_filled : DefX := ⟨pp_a__law_filled, "_law_filled", "_law_filled", defArgs s__law_filled, defBody s__law_filled, defScope s__law_filled, [], []⟩
def dd_Ring_cells : DefX := ⟨pp_a_Ring_cells, "cells", "Ring.cells", defArgs s_Ring_cells, defBody s_Ring_cells, defScope s_Ring_cells, [], []⟩
def dd_UnknownName___init__ : DefX := ⟨pp_a_UnknownName___init__, "__init__", "UnknownName.__init__", defArgs s_UnknownName___init__, defBody s_UnknownName___init__, defScope s_UnknownName___init__, [], []⟩
def dd_InvalidSize___init__ : DefX := ⟨pp_a_InvalidSize___init__, "__init__", "InvalidSize.__init__", defArgs s_InvalidSize___init__, defBody s_InvalidSize___init__, defScope s_InvalidSize___init__, [], []⟩
def dd_Ring___init__ : DefX := ⟨pp_a_Ring___init__, "__init__", "Ring.__init__", defArgs s_Ring___init__, defBody s_Ring___init__, defScope s_Ring___init__, [], []⟩
def dd_State___getitem__ : DefX := ⟨pp_a_State___getitem__, "__getitem__", "State.__getitem__", defArgs s_State___getitem__, defBody s_State___getitem__, defScope s_State___getitem__, [], []⟩
def dd__law_is_state : DefX := ⟨pp_a__law_is_state, "_law_is_state", "_law_is_state", defArgs s__law_is_state, defBody s__law_is_state, defScope s__law_is_state, [], []⟩
def dd_Ring___len__ : DefX := ⟨pp_a_Ring___len__, "__len__", "Ring.__len__", defArgs s_Ring___len__, defBody s_Ring___len__, defScope s_Ring___len__, [], []⟩
def dd_State___setitem__ : DefX := ⟨pp_a_State___setitem__, "__setitem__", "State.__setitem__", defArgs s_State___setitem__, defBody s_State___setitem__, defScope s_State___setitem__, [], []⟩
def dd_Ring___setitem__ : DefX := ⟨pp_a_Ring___setitem__, "__setitem__", "Ring.__setitem__", defArgs s_Ring___setitem__, defBody s_Ring___setitem__, defScope s_Ring___setitem__, [], []⟩
def dd__law_set : DefX := ⟨pp_a__law_set, "_law_set", "_law_set", defArgs s__law_set, defBody s__law_set, defScope s__law_set, [], []⟩
def dd_State___init__ : DefX := ⟨pp_a_State___init__, "__init__", "State.__init__", defArgs s_State___init__, defBody s_State___init__, defScope s_State___init__, [], [("i", .int 0), ("j", .int 0), ("fill", .non)]⟩
def dd_State_free : DefX := ⟨pp_a_State_free, "free", "State.free", defArgs s_State_free, defBody s_State_free, defScope s_State_free, [], [("i", .int 0), ("j", .int 0)]⟩
def dd__law_copy : DefX := ⟨pp_a__law_copy, "_law_copy", "_law_copy", defArgs s__law_copy, defBody s__law_copy, defScope s__law_copy, [], []⟩
def dd_State_copied : DefX := ⟨pp_a_State_copied, "copied", "State.copied", defArgs s_State_copied, defBody s_State_copied, defScope s_State_copied, [], []⟩
def dd__law_no_state : DefX := ⟨pp_a__law_no_state, "_law_no_state", "_law_no_state", defArgs s__law_no_state, defBody s__law_no_state, defScope s__law_no_state, [], []⟩
def dd__law_refusal : DefX := ⟨pp_a__law_refusal, "_law_refusal", "_law_refusal", defArgs s__law_refusal, defBody s__law_refusal, defScope s__law_refusal, [], []⟩
def dd__law_refuses : DefX := ⟨pp_a__law_refuses, "_law_refuses", "_law_refuses", defArgs s__law_refuses, defBody s__law_refuses, defScope s__law_refuses, [], []⟩
def dd_State___eq__ : DefX := ⟨pp_a_State___eq__, "__eq__", "State.__eq__", defArgs s_State___eq__, defBody s_State___eq__, defScope s_State___eq__, [], []⟩
def dd_law : DefX := ⟨pp_a_law, "law", "law", defArgs s_law, defBody s_law, defScope s_law, [], []⟩
def fnl : List DefX := ([dd__law_box, dd__law_take, dd__law_far, dd__law_free, dd__law_pick, dd__law_some_value, dd__law_filled, dd_Ring_cells, dd_UnknownName___init__, dd_InvalidSize___init__, dd_Ring___init__, dd_State___getitem__, dd__law_is_state, dd_Ring___len__, dd_State___setitem__, dd_Ring___setitem__, dd__law_set, dd_State___init__, dd_State_free, dd__law_copy, dd_State_copied, dd__law_no_state, dd__law_refusal, dd__law_refuses, dd_State___eq__] : List DefX) ++ ([dd_law] : List DefX)
def fc_0 : List Pc := [
  ⟨fun K => PySem.W.nsIn K mainGlobals "Ring" = some (some (.ref (pp_c_Ring K))), fun K => inferInstance⟩,
  ⟨fun K => PySem.W.plainGet K (pp_c_Ring K) Str.empty = true, fun K => inferInstance⟩,
  ⟨fun K => PySem.W.hasDictIn K (pp_c_Ring K) = true, fun K => inferInstance⟩,
  ⟨fun K => PySem.W.plainOver K (pp_c_Ring K) = true, fun K => inferInstance⟩,
  ⟨fun K => PySem.W.findIn K (.ref (pp_c_Ring K)) "__setattr__" = some (some (.builtin "object.__setattr__")), fun K => inferInstance⟩,
  ⟨fun K => PySem.W.findIn K (.ref (pp_c_Ring K)) "__class__" = some (some (.builtin "object.__class__")), fun K => inferInstance⟩,
  ⟨fun K => PySem.W.specialIn K (.builtin "object.__class__") "__get__" = some (some (.builtin "getset_descriptor.__get__")), fun K => inferInstance⟩,
  ⟨fun K => PySem.W.takesIn K (.builtin "object.__class__") = some true, fun K => inferInstance⟩,
  ⟨fun K => PySem.W.mroIn K (pp_c_Ring K) (.type "object") = some true, fun K => inferInstance⟩,
  ⟨fun K => PySem.W.makesIn K (pp_c_Ring K) = true, fun K => inferInstance⟩,
  ⟨fun K => PySem.W.keepIn K (.ref (pp_c_Ring K)) = true, fun K => inferInstance⟩,
  ⟨fun K => PySem.W.findIn K (.ref (pp_c_Ring K)) "row" = some none, fun K => inferInstance⟩,
  ⟨fun K => PySem.W.nsIn K mainGlobals "State" = some (some (.ref (pp_c_State K))), fun K => inferInstance⟩,
  ⟨fun K => PySem.W.plainGet K (pp_c_State K) Str.empty = true, fun K => inferInstance⟩,
  ⟨fun K => PySem.W.hasDictIn K (pp_c_State K) = true, fun K => inferInstance⟩,
  ⟨fun K => PySem.W.plainOver K (pp_c_State K) = true, fun K => inferInstance⟩,
  ⟨fun K => PySem.W.findIn K (.ref (pp_c_State K)) "__setattr__" = some (some (.builtin "object.__setattr__")), fun K => inferInstance⟩,
  ⟨fun K => PySem.W.findIn K (.ref (pp_c_State K)) "__class__" = some (some (.builtin "object.__class__")), fun K => inferInstance⟩,
  ⟨fun K => PySem.W.specialIn K (.builtin "object.__class__") "__get__" = some (some (.builtin "getset_descriptor.__get__")), fun K => inferInstance⟩,
  ⟨fun K => PySem.W.takesIn K (.builtin "object.__class__") = some true, fun K => inferInstance⟩,
  ⟨fun K => PySem.W.mroIn K (pp_c_State K) (.type "object") = some true, fun K => inferInstance⟩,
  ⟨fun K => PySem.W.makesIn K (pp_c_State K) = true, fun K => inferInstance⟩,
  ⟨fun K => PySem.W.keepIn K (.ref (pp_c_State K)) = true, fun K => inferInstance⟩,
  ⟨fun K => PySem.W.findIn K (.ref (pp_c_State K)) "size" = some none, fun K => inferInstance⟩,
  ⟨fun K => PySem.W.findIn K (.ref (pp_c_State K)) "contents" = some none, fun K => inferInstance⟩]
def fc_1 : List Pc := [
  ⟨fun K => PySem.W.findIn K (.ref (pp_c_State K)) "held" = some none, fun K => inferInstance⟩,
  ⟨fun K => PySem.W.findIn K (.ref (pp_c_State K)) "offsets" = some none, fun K => inferInstance⟩,
  ⟨fun K => PySem.W.nsIn K mainGlobals "ARRAYS" = some (some (.ref (pp_ga_ARRAYS K))), fun K => inferInstance⟩,
  ⟨fun K => SqT K (fun _ => none) (pp_ga_ARRAYS K) ((["A", "B", "C"] : List Str).map V.str), fun K => inferInstance⟩,
  ⟨fun K => PySem.W.nsIn K mainGlobals "REGISTERS" = some (some (.ref (pp_ga_REGISTERS K))), fun K => inferInstance⟩,
  ⟨fun K => SqT K (fun _ => none) (pp_ga_REGISTERS K) ((["r", "s", "t"] : List Str).map V.str), fun K => inferInstance⟩,
  ⟨fun K => PySem.W.nsIn K mainGlobals "OFFSETS" = some (some (.ref (pp_ga_OFFSETS K))), fun K => inferInstance⟩,
  ⟨fun K => SqT K (fun _ => none) (pp_ga_OFFSETS K) ((["i", "j"] : List Str).map V.str), fun K => inferInstance⟩,
  ⟨fun K => PySem.W.nsIn K mainGlobals "ClashError" = some (some (.ref (pp_c_ClashError K))), fun K => inferInstance⟩,
  ⟨fun K => CIn K (pp_c_ClashError K), fun K => inferInstance⟩,
  ⟨fun K => PySem.W.subIn K (.ref (pp_c_ClashError K)) (.type "BaseException") = some true, fun K => inferInstance⟩,
  ⟨fun K => PySem.W.hasDictIn K (pp_c_ClashError K) = true, fun K => inferInstance⟩,
  ⟨fun K => PySem.W.nsIn K mainGlobals "InvalidSize" = some (some (.ref (pp_c_InvalidSize K))), fun K => inferInstance⟩,
  ⟨fun K => OexC K (pp_c_InvalidSize K), fun K => inferInstance⟩,
  ⟨fun K => ExcC K (pp_c_InvalidSize K), fun K => inferInstance⟩,
  ⟨fun K => XfC K (pp_c_InvalidSize K), fun K => inferInstance⟩,
  ⟨fun K => PySem.W.findIn K (.ref (pp_c_InvalidSize K)) "size" = some none, fun K => inferInstance⟩,
  ⟨fun K => PySem.W.nsIn K mainGlobals "UnknownName" = some (some (.ref (pp_c_UnknownName K))), fun K => inferInstance⟩,
  ⟨fun K => OexB K (pp_c_UnknownName K) keT "LookupError.__new__", fun K => inferInstance⟩,
  ⟨fun K => ExcC K (pp_c_UnknownName K), fun K => inferInstance⟩,
  ⟨fun K => XfC K (pp_c_UnknownName K), fun K => inferInstance⟩,
  ⟨fun K => PySem.W.findIn K (.ref (pp_c_UnknownName K)) "name" = some none, fun K => inferInstance⟩,
  ⟨fun K => PySem.W.nsIn K mainGlobals "KeyError" = some none, fun K => inferInstance⟩,
  ⟨fun K => PySem.W.nsIn K mainGlobals "dict" = some none, fun K => inferInstance⟩,
  ⟨fun K => PySem.W.nsIn K mainGlobals "int" = some none, fun K => inferInstance⟩]
def fc_2 : List Pc := [
  ⟨fun K => PySem.W.nsIn K mainGlobals "isinstance" = some none, fun K => inferInstance⟩,
  ⟨fun K => PySem.W.nsIn K mainGlobals "len" = some none, fun K => inferInstance⟩,
  ⟨fun K => PySem.W.nsIn K mainGlobals "list" = some none, fun K => inferInstance⟩,
  ⟨fun K => PySem.W.nsIn K mainGlobals "max" = some none, fun K => inferInstance⟩,
  ⟨fun K => PySem.W.nsIn K mainGlobals "range" = some none, fun K => inferInstance⟩,
  ⟨fun K => PySem.W.nsIn K mainGlobals "repr" = some none, fun K => inferInstance⟩,
  ⟨fun K => PySem.W.nsIn K mainGlobals "_law_box" = some (some (.ref (pp_a__law_box K))), fun K => inferInstance⟩,
  ⟨fun K => PySem.W.nsIn K mainGlobals "_law_take" = some (some (.ref (pp_a__law_take K))), fun K => inferInstance⟩,
  ⟨fun K => PySem.W.nsIn K mainGlobals "_law_far" = some (some (.ref (pp_a__law_far K))), fun K => inferInstance⟩,
  ⟨fun K => PySem.W.nsIn K mainGlobals "_law_free" = some (some (.ref (pp_a__law_free K))), fun K => inferInstance⟩,
  ⟨fun K => PySem.W.nsIn K mainGlobals "_law_pick" = some (some (.ref (pp_a__law_pick K))), fun K => inferInstance⟩,
  ⟨fun K => PySem.W.nsIn K mainGlobals "_law_some_value" = some (some (.ref (pp_a__law_some_value K))), fun K => inferInstance⟩,
  ⟨fun K => PySem.W.nsIn K mainGlobals "_law_filled" = some (some (.ref (pp_a__law_filled K))), fun K => inferInstance⟩,
  ⟨fun K => PySem.W.findIn K (.ref (pp_c_Ring K)) "cells" = some (some (.ref (pp_a_Ring_cells K))), fun K => inferInstance⟩,
  ⟨fun K => PySem.W.isFn K (.ref (pp_a_Ring_cells K)) = true, fun K => inferInstance⟩,
  ⟨fun K => PySem.W.findIn K (.ref (pp_c_UnknownName K)) "__init__" = some (some (.ref (pp_a_UnknownName___init__ K))), fun K => inferInstance⟩,
  ⟨fun K => PySem.W.typeIn K (.ref (pp_a_UnknownName___init__ K)) = some (.type "function"), fun K => inferInstance⟩,
  ⟨fun K => PySem.W.findIn K (.ref (pp_c_InvalidSize K)) "__init__" = some (some (.ref (pp_a_InvalidSize___init__ K))), fun K => inferInstance⟩,
  ⟨fun K => PySem.W.typeIn K (.ref (pp_a_InvalidSize___init__ K)) = some (.type "function"), fun K => inferInstance⟩,
  ⟨fun K => PySem.W.findIn K (.ref (pp_c_Ring K)) "__init__" = some (some (.ref (pp_a_Ring___init__ K))), fun K => inferInstance⟩,
  ⟨fun K => PySem.W.isFn K (.ref (pp_a_Ring___init__ K)) = true, fun K => inferInstance⟩,
  ⟨fun K => PySem.W.findIn K (.ref (pp_c_State K)) "__getitem__" = some (some (.ref (pp_a_State___getitem__ K))), fun K => inferInstance⟩,
  ⟨fun K => PySem.W.isFn K (.ref (pp_a_State___getitem__ K)) = true, fun K => inferInstance⟩,
  ⟨fun K => PySem.W.nsIn K mainGlobals "_law_is_state" = some (some (.ref (pp_a__law_is_state K))), fun K => inferInstance⟩,
  ⟨fun K => PySem.W.findIn K (.ref (pp_c_Ring K)) "__len__" = some (some (.ref (pp_a_Ring___len__ K))), fun K => inferInstance⟩]
def fc_3 : List Pc := [
  ⟨fun K => PySem.W.isFn K (.ref (pp_a_Ring___len__ K)) = true, fun K => inferInstance⟩,
  ⟨fun K => PySem.W.findIn K (.ref (pp_c_State K)) "__setitem__" = some (some (.ref (pp_a_State___setitem__ K))), fun K => inferInstance⟩,
  ⟨fun K => PySem.W.isFn K (.ref (pp_a_State___setitem__ K)) = true, fun K => inferInstance⟩,
  ⟨fun K => PySem.W.findIn K (.ref (pp_c_Ring K)) "__setitem__" = some (some (.ref (pp_a_Ring___setitem__ K))), fun K => inferInstance⟩,
  ⟨fun K => PySem.W.isFn K (.ref (pp_a_Ring___setitem__ K)) = true, fun K => inferInstance⟩,
  ⟨fun K => PySem.W.nsIn K mainGlobals "_law_set" = some (some (.ref (pp_a__law_set K))), fun K => inferInstance⟩,
  ⟨fun K => PySem.W.findIn K (.ref (pp_c_State K)) "__init__" = some (some (.ref (pp_a_State___init__ K))), fun K => inferInstance⟩,
  ⟨fun K => PySem.W.isFn K (.ref (pp_a_State___init__ K)) = true, fun K => inferInstance⟩,
  ⟨fun K => ClX.CRead K (pp_c_State K) (.type "type"), fun K => inferInstance⟩,
  ⟨fun K => ClX.CMet K (pp_c_State K) (.type "type") "free" (pp_p_State_free K) (pp_a_State_free K), fun K => inferInstance⟩,
  ⟨fun K => PySem.W.nsIn K mainGlobals "_law_copy" = some (some (.ref (pp_a__law_copy K))), fun K => inferInstance⟩,
  ⟨fun K => PySem.W.findIn K (.ref (pp_c_State K)) "copied" = some (some (.ref (pp_a_State_copied K))), fun K => inferInstance⟩,
  ⟨fun K => PySem.W.isFn K (.ref (pp_a_State_copied K)) = true, fun K => inferInstance⟩,
  ⟨fun K => PySem.W.nsIn K mainGlobals "_law_no_state" = some (some (.ref (pp_a__law_no_state K))), fun K => inferInstance⟩,
  ⟨fun K => PySem.W.nsIn K mainGlobals "_law_refusal" = some (some (.ref (pp_a__law_refusal K))), fun K => inferInstance⟩,
  ⟨fun K => PySem.W.nsIn K mainGlobals "_law_refuses" = some (some (.ref (pp_a__law_refuses K))), fun K => inferInstance⟩,
  ⟨fun K => PySem.W.findIn K (.ref (pp_c_State K)) "__eq__" = some (some (.ref (pp_a_State___eq__ K))), fun K => inferInstance⟩,
  ⟨fun K => PySem.W.isFn K (.ref (pp_a_State___eq__ K)) = true, fun K => inferInstance⟩,
  ⟨fun K => PySem.W.nsIn K mainGlobals "law" = some (some (.ref (pp_a_law K))), fun K => inferInstance⟩,
  ⟨fun K => PySem.W.kitOne K (.type "int") (.ref (pp_c_State K)) = some false, fun K => inferInstance⟩,
  ⟨fun K => PySem.W.kitOne K (.type "bool") (.ref (pp_c_State K)) = some false, fun K => inferInstance⟩,
  ⟨fun K => PySem.W.kitOne K (.type "str") (.ref (pp_c_State K)) = some false, fun K => inferInstance⟩,
  ⟨fun K => PySem.W.kitOne K (.type "tuple") (.ref (pp_c_State K)) = some false, fun K => inferInstance⟩,
  ⟨fun K => PySem.W.kitOne K (.type "list") (.ref (pp_c_State K)) = some false, fun K => inferInstance⟩,
  ⟨fun K => PySem.W.kitOne K (.type "NoneType") (.ref (pp_c_State K)) = some false, fun K => inferInstance⟩]
def fc_4 : List Pc := [
  ⟨fun K => PySem.W.kitOne K (.type "dict") (.ref (pp_c_State K)) = some false, fun K => inferInstance⟩,
  ⟨fun K => PySem.W.kitOne K (.ref (pp_c_Ring K)) (.ref (pp_c_State K)) = some false, fun K => inferInstance⟩,
  ⟨fun K => PySem.W.exmOne K (.ref (pp_c_InvalidSize K)) (.ref (pp_c_ClashError K)) = some true, fun K => inferInstance⟩,
  ⟨fun K => PySem.W.exmOne K (.ref (pp_c_UnknownName K)) (.ref (pp_c_ClashError K)) = some false, fun K => inferInstance⟩,
  ⟨fun K => PySem.W.exmOne K (.ref (pp_c_InvalidSize K)) (.ref (pp_c_InvalidSize K)) = some true, fun K => inferInstance⟩,
  ⟨fun K => PySem.W.exmOne K (.ref (pp_c_UnknownName K)) (.ref (pp_c_InvalidSize K)) = some false, fun K => inferInstance⟩,
  ⟨fun K => PySem.W.exmOne K (.ref (pp_c_InvalidSize K)) (.ref (pp_c_UnknownName K)) = some false, fun K => inferInstance⟩,
  ⟨fun K => PySem.W.exmOne K (.ref (pp_c_UnknownName K)) (.ref (pp_c_UnknownName K)) = some true, fun K => inferInstance⟩,
  ⟨fun K => PySem.W.findIn K (.ref (pp_c_InvalidSize K)) "name" = some none, fun K => inferInstance⟩,
  ⟨fun K => PySem.W.findIn K (.ref (pp_c_UnknownName K)) "size" = some none, fun K => inferInstance⟩,
  ⟨fun K => PySem.W.kitOne K (.ref (pp_c_UnknownName K)) (.ref (pp_c_InvalidSize K)) = some false, fun K => inferInstance⟩,
  ⟨fun K => PySem.W.kitOne K (.ref (pp_c_InvalidSize K)) (.type "KeyError") = some false, fun K => inferInstance⟩,
  ⟨fun K => PySem.W.kitOne K (.ref (pp_c_UnknownName K)) (.type "KeyError") = some true, fun K => inferInstance⟩,
  ⟨fun K => OthC K (pp_c_State K), fun K => inferInstance⟩,
  ⟨fun K => NeC K (pp_c_State K), fun K => inferInstance⟩,
  ⟨fun K => PySem.W.subIn K (.type "dict") (.ref (pp_c_State K)) = some false, fun K => inferInstance⟩,
  ⟨fun K => PySem.W.subIn K (.ref (pp_c_Ring K)) (.ref (pp_c_State K)) = some false, fun K => inferInstance⟩,
  ⟨fun K => PySem.W.noSeq K (pp_c_Ring K) = true, fun K => inferInstance⟩,
  ⟨fun K => PySem.W.noSeq K (pp_c_State K) = true, fun K => inferInstance⟩,
  ⟨fun K => PySem.W.fnIn K (pp_a_State___getitem__ K) = true, fun K => inferInstance⟩,
  ⟨fun K => PySem.W.findCls K (.type "KeyError") (.type "type") "__init__" = some (.val (.builtin "KeyError.__init__")), fun K => inferInstance⟩]
def fcl : List Pc := fc_0 ++ fc_1 ++ fc_2 ++ fc_3 ++ fc_4
def tab (c_Ring : Addr) (c_State : Addr) (c_InvalidSize : Addr) (c_UnknownName : Addr) : Tab := fun n => match n with | 0 => some (c_Ring, (["row"] : List Str)) | 1 => some (c_State, (["size", "contents", "held", "offsets"] : List Str)) | 2 => some (c_InvalidSize, (["size"] : List Str)) | 3 => some (c_UnknownName, (["name"] : List Str)) | _ => none
set_option maxHeartbeats 0 in
theorem all_mk {P : Program} {w : World} {K : PySem.W.Frag} {h : Heap} {mg : Str → Option Value} {fa : Addr} (X : K.In h) (G : h.Ns mainGlobals mg) (hfa : mg "law" = some (.ref fa)) (c : SaysX fcl fnl K) : ∃ fd : FuncData, (∀ (s : Shared) (v : Value), BindsTo s fd ⟨[v], []⟩ [("_law_script", v)]) ∧ ∀ base : Heap, K.In base → base.Ns mainGlobals mg → FnG P w K mg base CX0 9 fa fd ["_law_script"] (spL K) := by
  have aC_Ring : PySem.W.nsIn K mainGlobals "Ring" = some (some (.ref (pp_c_Ring K))) := c.fact 0
  have pg_Ring : PySem.W.plainGet K (pp_c_Ring K) Str.empty = true := c.fact 1
  have hd_Ring : PySem.W.hasDictIn K (pp_c_Ring K) = true := c.fact 2
  have po_Ring : PySem.W.plainOver K (pp_c_Ring K) = true := c.fact 3
  have sa_Ring : PySem.W.findIn K (.ref (pp_c_Ring K)) "__setattr__" = some (some (.builtin "object.__setattr__")) := c.fact 4
  have ca_Ring : PySem.W.findIn K (.ref (pp_c_Ring K)) "__class__" = some (some (.builtin "object.__class__")) := c.fact 5
  have cn_Ring : PySem.W.specialIn K (.builtin "object.__class__") "__get__" = some (some (.builtin "getset_descriptor.__get__")) := c.fact 6
  have ct_Ring : PySem.W.takesIn K (.builtin "object.__class__") = some true := c.fact 7
  have cm_Ring : PySem.W.mroIn K (pp_c_Ring K) (.type "object") = some true := c.fact 8
  have mk_Ring : PySem.W.makesIn K (pp_c_Ring K) = true := c.fact 9
  have kc_Ring : PySem.W.keepIn K (.ref (pp_c_Ring K)) = true := c.fact 10
  have no_Ring_row : PySem.W.findIn K (.ref (pp_c_Ring K)) "row" = some none := c.fact 11
  have aC_State : PySem.W.nsIn K mainGlobals "State" = some (some (.ref (pp_c_State K))) := c.fact 12
  have pg_State : PySem.W.plainGet K (pp_c_State K) Str.empty = true := c.fact 13
  have hd_State : PySem.W.hasDictIn K (pp_c_State K) = true := c.fact 14
  have po_State : PySem.W.plainOver K (pp_c_State K) = true := c.fact 15
  have sa_State : PySem.W.findIn K (.ref (pp_c_State K)) "__setattr__" = some (some (.builtin "object.__setattr__")) := c.fact 16
  have ca_State : PySem.W.findIn K (.ref (pp_c_State K)) "__class__" = some (some (.builtin "object.__class__")) := c.fact 17
  have cn_State : PySem.W.specialIn K (.builtin "object.__class__") "__get__" = some (some (.builtin "getset_descriptor.__get__")) := c.fact 18
  have ct_State : PySem.W.takesIn K (.builtin "object.__class__") = some true := c.fact 19
  have cm_State : PySem.W.mroIn K (pp_c_State K) (.type "object") = some true := c.fact 20
  have mk_State : PySem.W.makesIn K (pp_c_State K) = true := c.fact 21
  have kc_State : PySem.W.keepIn K (.ref (pp_c_State K)) = true := c.fact 22
  have no_State_size : PySem.W.findIn K (.ref (pp_c_State K)) "size" = some none := c.fact 23
  have no_State_contents : PySem.W.findIn K (.ref (pp_c_State K)) "contents" = some none := c.fact 24
  have no_State_held : PySem.W.findIn K (.ref (pp_c_State K)) "held" = some none := c.fact 25
  have no_State_offsets : PySem.W.findIn K (.ref (pp_c_State K)) "offsets" = some none := c.fact 26
  have aG_ARRAYS : PySem.W.nsIn K mainGlobals "ARRAYS" = some (some (.ref (pp_ga_ARRAYS K))) := c.fact 27
  have ge_ARRAYS : SqT K (fun _ => none) (pp_ga_ARRAYS K) ((["A", "B", "C"] : List Str).map V.str) := c.fact 28
  have aG_REGISTERS : PySem.W.nsIn K mainGlobals "REGISTERS" = some (some (.ref (pp_ga_REGISTERS K))) := c.fact 29
  have ge_REGISTERS : SqT K (fun _ => none) (pp_ga_REGISTERS K) ((["r", "s", "t"] : List Str).map V.str) := c.fact 30
  have aG_OFFSETS : PySem.W.nsIn K mainGlobals "OFFSETS" = some (some (.ref (pp_ga_OFFSETS K))) := c.fact 31
  have ge_OFFSETS : SqT K (fun _ => none) (pp_ga_OFFSETS K) ((["i", "j"] : List Str).map V.str) := c.fact 32
  have aC_ClashError : PySem.W.nsIn K mainGlobals "ClashError" = some (some (.ref (pp_c_ClashError K))) := c.fact 33
  have iX_ClashError : CIn K (pp_c_ClashError K) := c.fact 34
  have bs_ClashError : PySem.W.subIn K (.ref (pp_c_ClashError K)) (.type "BaseException") = some true := c.fact 35
  have hd_ClashError : PySem.W.hasDictIn K (pp_c_ClashError K) = true := c.fact 36
  have aC_InvalidSize : PySem.W.nsIn K mainGlobals "InvalidSize" = some (some (.ref (pp_c_InvalidSize K))) := c.fact 37
  have oX_InvalidSize : OexC K (pp_c_InvalidSize K) := c.fact 38
  have xX_InvalidSize : ExcC K (pp_c_InvalidSize K) := c.fact 39
  have fX_InvalidSize : XfC K (pp_c_InvalidSize K) := c.fact 40
  have no_InvalidSize_size : PySem.W.findIn K (.ref (pp_c_InvalidSize K)) "size" = some none := c.fact 41
  have aC_UnknownName : PySem.W.nsIn K mainGlobals "UnknownName" = some (some (.ref (pp_c_UnknownName K))) := c.fact 42
  have oX_UnknownName : OexB K (pp_c_UnknownName K) keT "LookupError.__new__" := c.fact 43
  have xX_UnknownName : ExcC K (pp_c_UnknownName K) := c.fact 44
  have fX_UnknownName : XfC K (pp_c_UnknownName K) := c.fact 45
  have no_UnknownName_name : PySem.W.findIn K (.ref (pp_c_UnknownName K)) "name" = some none := c.fact 46
  have z_KeyError : PySem.W.nsIn K mainGlobals "KeyError" = some none := c.fact 47
  have z_dict : PySem.W.nsIn K mainGlobals "dict" = some none := c.fact 48
  have z_int : PySem.W.nsIn K mainGlobals "int" = some none := c.fact 49
  have z_isinstance : PySem.W.nsIn K mainGlobals "isinstance" = some none := c.fact 50
  have z_len : PySem.W.nsIn K mainGlobals "len" = some none := c.fact 51
  have z_list : PySem.W.nsIn K mainGlobals "list" = some none := c.fact 52
  have z_max : PySem.W.nsIn K mainGlobals "max" = some none := c.fact 53
  have z_range : PySem.W.nsIn K mainGlobals "range" = some none := c.fact 54
  have z_repr : PySem.W.nsIn K mainGlobals "repr" = some none := c.fact 55
  have at__law_box : PySem.W.nsIn K mainGlobals "_law_box" = some (some (.ref (pp_a__law_box K))) := c.fact 56
  have at__law_take : PySem.W.nsIn K mainGlobals "_law_take" = some (some (.ref (pp_a__law_take K))) := c.fact 57
  have at__law_far : PySem.W.nsIn K mainGlobals "_law_far" = some (some (.ref (pp_a__law_far K))) := c.fact 58
  have at__law_free : PySem.W.nsIn K mainGlobals "_law_free" = some (some (.ref (pp_a__law_free K))) := c.fact 59
  have at__law_pick : PySem.W.nsIn K mainGlobals "_law_pick" = some (some (.ref (pp_a__law_pick K))) := c.fact 60
  have at__law_some_value : PySem.W.nsIn K mainGlobals "_law_some_value" = some (some (.ref (pp_a__law_some_value K))) := c.fact 61
  have at__law_filled : PySem.W.nsIn K mainGlobals "_law_filled" = some (some (.ref (pp_a__law_filled K))) := c.fact 62
  have at_Ring_cells : PySem.W.findIn K (.ref (pp_c_Ring K)) "cells" = some (some (.ref (pp_a_Ring_cells K))) := c.fact 63
  have fn_Ring_cells : PySem.W.isFn K (.ref (pp_a_Ring_cells K)) = true := c.fact 64
  have at_UnknownName___init__ : PySem.W.findIn K (.ref (pp_c_UnknownName K)) "__init__" = some (some (.ref (pp_a_UnknownName___init__ K))) := c.fact 65
  have ty_UnknownName___init__ : PySem.W.typeIn K (.ref (pp_a_UnknownName___init__ K)) = some (.type "function") := c.fact 66
  have at_InvalidSize___init__ : PySem.W.findIn K (.ref (pp_c_InvalidSize K)) "__init__" = some (some (.ref (pp_a_InvalidSize___init__ K))) := c.fact 67
  have ty_InvalidSize___init__ : PySem.W.typeIn K (.ref (pp_a_InvalidSize___init__ K)) = some (.type "function") := c.fact 68
  have at_Ring___init__ : PySem.W.findIn K (.ref (pp_c_Ring K)) "__init__" = some (some (.ref (pp_a_Ring___init__ K))) := c.fact 69
  have fn_Ring___init__ : PySem.W.isFn K (.ref (pp_a_Ring___init__ K)) = true := c.fact 70
  have at_State___getitem__ : PySem.W.findIn K (.ref (pp_c_State K)) "__getitem__" = some (some (.ref (pp_a_State___getitem__ K))) := c.fact 71
  have fn_State___getitem__ : PySem.W.isFn K (.ref (pp_a_State___getitem__ K)) = true := c.fact 72
  have at__law_is_state : PySem.W.nsIn K mainGlobals "_law_is_state" = some (some (.ref (pp_a__law_is_state K))) := c.fact 73
  have at_Ring___len__ : PySem.W.findIn K (.ref (pp_c_Ring K)) "__len__" = some (some (.ref (pp_a_Ring___len__ K))) := c.fact 74
  have fn_Ring___len__ : PySem.W.isFn K (.ref (pp_a_Ring___len__ K)) = true := c.fact 75
  have at_State___setitem__ : PySem.W.findIn K (.ref (pp_c_State K)) "__setitem__" = some (some (.ref (pp_a_State___setitem__ K))) := c.fact 76
  have fn_State___setitem__ : PySem.W.isFn K (.ref (pp_a_State___setitem__ K)) = true := c.fact 77
  have at_Ring___setitem__ : PySem.W.findIn K (.ref (pp_c_Ring K)) "__setitem__" = some (some (.ref (pp_a_Ring___setitem__ K))) := c.fact 78
  have fn_Ring___setitem__ : PySem.W.isFn K (.ref (pp_a_Ring___setitem__ K)) = true := c.fact 79
  have at__law_set : PySem.W.nsIn K mainGlobals "_law_set" = some (some (.ref (pp_a__law_set K))) := c.fact 80
  have at_State___init__ : PySem.W.findIn K (.ref (pp_c_State K)) "__init__" = some (some (.ref (pp_a_State___init__ K))) := c.fact 81
  have fn_State___init__ : PySem.W.isFn K (.ref (pp_a_State___init__ K)) = true := c.fact 82
  have CR0_State_free : ClX.CRead K (pp_c_State K) (.type "type") := c.fact 83
  have CM0_State_free : ClX.CMet K (pp_c_State K) (.type "type") "free" (pp_p_State_free K) (pp_a_State_free K) := c.fact 84
  have at__law_copy : PySem.W.nsIn K mainGlobals "_law_copy" = some (some (.ref (pp_a__law_copy K))) := c.fact 85
  have at_State_copied : PySem.W.findIn K (.ref (pp_c_State K)) "copied" = some (some (.ref (pp_a_State_copied K))) := c.fact 86
  have fn_State_copied : PySem.W.isFn K (.ref (pp_a_State_copied K)) = true := c.fact 87
  have at__law_no_state : PySem.W.nsIn K mainGlobals "_law_no_state" = some (some (.ref (pp_a__law_no_state K))) := c.fact 88
  have at__law_refusal : PySem.W.nsIn K mainGlobals "_law_refusal" = some (some (.ref (pp_a__law_refusal K))) := c.fact 89
  have at__law_refuses : PySem.W.nsIn K mainGlobals "_law_refuses" = some (some (.ref (pp_a__law_refuses K))) := c.fact 90
  have at_State___eq__ : PySem.W.findIn K (.ref (pp_c_State K)) "__eq__" = some (some (.ref (pp_a_State___eq__ K))) := c.fact 91
  have fn_State___eq__ : PySem.W.isFn K (.ref (pp_a_State___eq__ K)) = true := c.fact 92
  have at_law : PySem.W.nsIn K mainGlobals "law" = some (some (.ref (pp_a_law K))) := c.fact 93
  have kt_int_State : PySem.W.kitOne K (.type "int") (.ref (pp_c_State K)) = some false := c.fact 94
  have kt_bool_State : PySem.W.kitOne K (.type "bool") (.ref (pp_c_State K)) = some false := c.fact 95
  have kt_str_State : PySem.W.kitOne K (.type "str") (.ref (pp_c_State K)) = some false := c.fact 96
  have kt_tuple_State : PySem.W.kitOne K (.type "tuple") (.ref (pp_c_State K)) = some false := c.fact 97
  have kt_list_State : PySem.W.kitOne K (.type "list") (.ref (pp_c_State K)) = some false := c.fact 98
  have kt_NoneType_State : PySem.W.kitOne K (.type "NoneType") (.ref (pp_c_State K)) = some false := c.fact 99
  have kt_dict_State : PySem.W.kitOne K (.type "dict") (.ref (pp_c_State K)) = some false := c.fact 100
  have kt_Ring_State : PySem.W.kitOne K (.ref (pp_c_Ring K)) (.ref (pp_c_State K)) = some false := c.fact 101
  have ex_InvalidSize_ClashError : PySem.W.exmOne K (.ref (pp_c_InvalidSize K)) (.ref (pp_c_ClashError K)) = some true := c.fact 102
  have ex_UnknownName_ClashError : PySem.W.exmOne K (.ref (pp_c_UnknownName K)) (.ref (pp_c_ClashError K)) = some false := c.fact 103
  have ex_InvalidSize_InvalidSize : PySem.W.exmOne K (.ref (pp_c_InvalidSize K)) (.ref (pp_c_InvalidSize K)) = some true := c.fact 104
  have ex_UnknownName_InvalidSize : PySem.W.exmOne K (.ref (pp_c_UnknownName K)) (.ref (pp_c_InvalidSize K)) = some false := c.fact 105
  have ex_InvalidSize_UnknownName : PySem.W.exmOne K (.ref (pp_c_InvalidSize K)) (.ref (pp_c_UnknownName K)) = some false := c.fact 106
  have ex_UnknownName_UnknownName : PySem.W.exmOne K (.ref (pp_c_UnknownName K)) (.ref (pp_c_UnknownName K)) = some true := c.fact 107
  have no_InvalidSize_name : PySem.W.findIn K (.ref (pp_c_InvalidSize K)) "name" = some none := c.fact 108
  have no_UnknownName_size : PySem.W.findIn K (.ref (pp_c_UnknownName K)) "size" = some none := c.fact 109
  have kt_UnknownName_InvalidSize : PySem.W.kitOne K (.ref (pp_c_UnknownName K)) (.ref (pp_c_InvalidSize K)) = some false := c.fact 110
  have kt_InvalidSize_KeyError : PySem.W.kitOne K (.ref (pp_c_InvalidSize K)) (.type "KeyError") = some false := c.fact 111
  have kt_UnknownName_KeyError : PySem.W.kitOne K (.ref (pp_c_UnknownName K)) (.type "KeyError") = some true := c.fact 112
  have OT_State : OthC K (pp_c_State K) := c.fact 113
  have NE_State : NeC K (pp_c_State K) := c.fact 114
  have sD_State : PySem.W.subIn K (.type "dict") (.ref (pp_c_State K)) = some false := c.fact 115
  have sO_Ring_State : PySem.W.subIn K (.ref (pp_c_Ring K)) (.ref (pp_c_State K)) = some false := c.fact 116
  have NS_Ring : PySem.W.noSeq K (pp_c_Ring K) = true := c.fact 117
  have NS_State : PySem.W.noSeq K (pp_c_State K) = true := c.fact 118
  have FG_State : PySem.W.fnIn K (pp_a_State___getitem__ K) = true := c.fact 119
  have bi_KeyError : PySem.W.findCls K (.type "KeyError") (.type "type") "__init__" = some (.val (.builtin "KeyError.__init__")) := c.fact 120
  obtain ⟨fd__law_box, F0__law_box⟩ := c.def_ 0 (d := dd__law_box)
  obtain ⟨fd__law_take, F0__law_take⟩ := c.def_ 1 (d := dd__law_take)
  obtain ⟨fd__law_far, F0__law_far⟩ := c.def_ 2 (d := dd__law_far)
  obtain ⟨fd__law_free, F0__law_free⟩ := c.def_ 3 (d := dd__law_free)
  obtain ⟨fd__law_pick, F0__law_pick⟩ := c.def_ 4 (d := dd__law_pick)
  obtain ⟨fd__law_some_value, F0__law_some_value⟩ := c.def_ 5 (d := dd__law_some_value)
  obtain ⟨fd__law_filled, F0__law_filled⟩ := c.def_ 6 (d := dd__law_filled)
  obtain ⟨fd_Ring_cells, F0_Ring_cells⟩ := c.def_ 7 (d := dd_Ring_cells)
  obtain ⟨fd_UnknownName___init__, F0_UnknownName___init__⟩ := c.def_ 8 (d := dd_UnknownName___init__)
  obtain ⟨fd_InvalidSize___init__, F0_InvalidSize___init__⟩ := c.def_ 9 (d := dd_InvalidSize___init__)
  obtain ⟨fd_Ring___init__, F0_Ring___init__⟩ := c.def_ 10 (d := dd_Ring___init__)
  obtain ⟨fd_State___getitem__, F0_State___getitem__⟩ := c.def_ 11 (d := dd_State___getitem__)
  obtain ⟨fd__law_is_state, F0__law_is_state⟩ := c.def_ 12 (d := dd__law_is_state)
  obtain ⟨fd_Ring___len__, F0_Ring___len__⟩ := c.def_ 13 (d := dd_Ring___len__)
  obtain ⟨fd_State___setitem__, F0_State___setitem__⟩ := c.def_ 14 (d := dd_State___setitem__)
  obtain ⟨fd_Ring___setitem__, F0_Ring___setitem__⟩ := c.def_ 15 (d := dd_Ring___setitem__)
  obtain ⟨fd__law_set, F0__law_set⟩ := c.def_ 16 (d := dd__law_set)
  obtain ⟨fd_State___init__, F0_State___init__⟩ := c.def_ 17 (d := dd_State___init__)
  obtain ⟨fd_State_free, F0_State_free⟩ := c.def_ 18 (d := dd_State_free)
  obtain ⟨fd__law_copy, F0__law_copy⟩ := c.def_ 19 (d := dd__law_copy)
  obtain ⟨fd_State_copied, F0_State_copied⟩ := c.def_ 20 (d := dd_State_copied)
  obtain ⟨fd__law_no_state, F0__law_no_state⟩ := c.def_ 21 (d := dd__law_no_state)
  obtain ⟨fd__law_refusal, F0__law_refusal⟩ := c.def_ 22 (d := dd__law_refusal)
  obtain ⟨fd__law_refuses, F0__law_refuses⟩ := c.def_ 23 (d := dd__law_refuses)
  obtain ⟨fd_State___eq__, F0_State___eq__⟩ := c.def_ 24 (d := dd_State___eq__)
  obtain ⟨fd_law, F0_law⟩ := c.def_ 25 (d := dd_law)
  have e : (pp_a_law K) = fa := by
    have e := (PySem.W.mg_of X G at_law).symm.trans hfa
    injection e with e
    injection e
  subst e
  let t : Tx (tab (pp_c_Ring K) (pp_c_State K) (pp_c_InvalidSize K) (pp_c_UnknownName K)) K mg := {
    c_Ring := (pp_c_Ring K),
    T_Ring := rfl,
    cl_Ring := ⟨pg_Ring, hd_Ring, po_Ring, sa_Ring⟩,
    i_Ring := ⟨⟨pg_Ring, hd_Ring, po_Ring, sa_Ring⟩, ca_Ring, cn_Ring, ct_Ring, cm_Ring⟩,
    m_Ring := PySem.W.mg_of X G aC_Ring,
    no_Ring_row := no_Ring_row,
    c_State := (pp_c_State K),
    T_State := rfl,
    cl_State := ⟨pg_State, hd_State, po_State, sa_State⟩,
    i_State := ⟨⟨pg_State, hd_State, po_State, sa_State⟩, ca_State, cn_State, ct_State, cm_State⟩,
    m_State := PySem.W.mg_of X G aC_State,
    no_State_size := no_State_size,
    no_State_contents := no_State_contents,
    no_State_held := no_State_held,
    no_State_offsets := no_State_offsets,
    ga_ARRAYS := (pp_ga_ARRAYS K),
    gm_ARRAYS := PySem.W.mg_of X G aG_ARRAYS,
    ge_ARRAYS := ge_ARRAYS,
    ga_REGISTERS := (pp_ga_REGISTERS K),
    gm_REGISTERS := PySem.W.mg_of X G aG_REGISTERS,
    ge_REGISTERS := ge_REGISTERS,
    ga_OFFSETS := (pp_ga_OFFSETS K),
    gm_OFFSETS := PySem.W.mg_of X G aG_OFFSETS,
    ge_OFFSETS := ge_OFFSETS,
    c_ClashError := (pp_c_ClashError K),
    m_ClashError := PySem.W.mg_of X G aC_ClashError,
    ci_ClashError := iX_ClashError,
    bs_ClashError := bs_ClashError,
    hd_ClashError := hd_ClashError,
    c_InvalidSize := (pp_c_InvalidSize K),
    T_InvalidSize := rfl,
    m_InvalidSize := PySem.W.mg_of X G aC_InvalidSize,
    o_InvalidSize := oX_InvalidSize,
    x_InvalidSize := xX_InvalidSize,
    xf_InvalidSize := fX_InvalidSize,
    no_InvalidSize_size := no_InvalidSize_size,
    c_UnknownName := (pp_c_UnknownName K),
    T_UnknownName := rfl,
    m_UnknownName := PySem.W.mg_of X G aC_UnknownName,
    o_UnknownName := oX_UnknownName,
    x_UnknownName := xX_UnknownName,
    xf_UnknownName := fX_UnknownName,
    no_UnknownName_name := no_UnknownName_name,
    z_KeyError := PySem.W.mg_none_of X G z_KeyError,
    z_dict := PySem.W.mg_none_of X G z_dict,
    z_int := PySem.W.mg_none_of X G z_int,
    z_isinstance := PySem.W.mg_none_of X G z_isinstance,
    z_len := PySem.W.mg_none_of X G z_len,
    z_list := PySem.W.mg_none_of X G z_list,
    z_max := PySem.W.mg_none_of X G z_max,
    z_range := PySem.W.mg_none_of X G z_range,
    z_repr := PySem.W.mg_none_of X G z_repr,
    a__law_box := (pp_a__law_box K),
    fd__law_box := fd__law_box,
    F__law_box := toFun (st := s__law_box) F0__law_box,
    b__law_box := (toFun (st := s__law_box) F0__law_box).binds (ps := ["_law_script", "_law_k"]) fun _ _ _ _ _ _ us hl => match us, hl with | [_, _], _ => rfl,
    m__law_box := PySem.W.mg_of X G at__law_box,
    a__law_take := (pp_a__law_take K),
    fd__law_take := fd__law_take,
    F__law_take := toFun (st := s__law_take) F0__law_take,
    b__law_take := (toFun (st := s__law_take) F0__law_take).binds (ps := ["_law_box_here", "_law_many"]) fun _ _ _ _ _ _ us hl => match us, hl with | [_, _], _ => rfl,
    m__law_take := PySem.W.mg_of X G at__law_take,
    a__law_far := (pp_a__law_far K),
    fd__law_far := fd__law_far,
    F__law_far := toFun (st := s__law_far) F0__law_far,
    b__law_far := (toFun (st := s__law_far) F0__law_far).binds (ps := ["_law_box_here"]) fun _ _ _ _ _ _ us hl => match us, hl with | [_], _ => rfl,
    m__law_far := PySem.W.mg_of X G at__law_far,
    a__law_free := (pp_a__law_free K),
    fd__law_free := fd__law_free,
    F__law_free := toFun (st := s__law_free) F0__law_free,
    b__law_free := (toFun (st := s__law_free) F0__law_free).binds (ps := ["_law_n", "_law_one", "_law_other"]) fun _ _ _ _ _ _ us hl => match us, hl with | [_, _, _], _ => rfl,
    m__law_free := PySem.W.mg_of X G at__law_free,
    a__law_pick := (pp_a__law_pick K),
    fd__law_pick := fd__law_pick,
    F__law_pick := toFun (st := s__law_pick) F0__law_pick,
    b__law_pick := (toFun (st := s__law_pick) F0__law_pick).binds (ps := ["_law_box_here", "_law_some"]) fun _ _ _ _ _ _ us hl => match us, hl with | [_, _], _ => rfl,
    m__law_pick := PySem.W.mg_of X G at__law_pick,
    a__law_some_value := (pp_a__law_some_value K),
    fd__law_some_value := fd__law_some_value,
    F__law_some_value := toFun (st := s__law_some_value) F0__law_some_value,
    b__law_some_value := (toFun (st := s__law_some_value) F0__law_some_value).binds (ps := ["_law_box_here"]) fun _ _ _ _ _ _ us hl => match us, hl with | [_], _ => rfl,
    m__law_some_value := PySem.W.mg_of X G at__law_some_value,
    a__law_filled := (pp_a__law_filled K),
    fd__law_filled := fd__law_filled,
    F__law_filled := toFun (st := s__law_filled) F0__law_filled,
    b__law_filled := (toFun (st := s__law_filled) F0__law_filled).binds (ps := ["_law_n", "_law_thing"]) fun _ _ _ _ _ _ us hl => match us, hl with | [_, _], _ => rfl,
    m__law_filled := PySem.W.mg_of X G at__law_filled,
    a_Ring_cells := (pp_a_Ring_cells K),
    fd_Ring_cells := fd_Ring_cells,
    F_Ring_cells := toFun (st := s_Ring_cells) F0_Ring_cells,
    b_Ring_cells := (toFun (st := s_Ring_cells) F0_Ring_cells).binds (ps := ["self"]) fun _ _ _ _ _ _ us hl => match us, hl with | [_], _ => rfl,
    M_Ring_cells := ⟨at_Ring_cells, fn_Ring_cells, F0_Ring_cells.kp⟩,
    a_UnknownName___init__ := (pp_a_UnknownName___init__ K),
    fd_UnknownName___init__ := fd_UnknownName___init__,
    F_UnknownName___init__ := toFun (st := s_UnknownName___init__) F0_UnknownName___init__,
    b_UnknownName___init__ := (toFun (st := s_UnknownName___init__) F0_UnknownName___init__).binds (ps := ["self", "name"]) fun _ _ _ _ _ _ us hl => match us, hl with | [_, _], _ => rfl,
    at_UnknownName___init__ := at_UnknownName___init__,
    ty_UnknownName___init__ := ty_UnknownName___init__,
    a_InvalidSize___init__ := (pp_a_InvalidSize___init__ K),
    fd_InvalidSize___init__ := fd_InvalidSize___init__,
    F_InvalidSize___init__ := toFun (st := s_InvalidSize___init__) F0_InvalidSize___init__,
    b_InvalidSize___init__ := (toFun (st := s_InvalidSize___init__) F0_InvalidSize___init__).binds (ps := ["self", "size"]) fun _ _ _ _ _ _ us hl => match us, hl with | [_, _], _ => rfl,
    at_InvalidSize___init__ := at_InvalidSize___init__,
    ty_InvalidSize___init__ := ty_InvalidSize___init__,
    a_Ring___init__ := (pp_a_Ring___init__ K),
    fd_Ring___init__ := fd_Ring___init__,
    F_Ring___init__ := toFun (st := s_Ring___init__) F0_Ring___init__,
    b_Ring___init__ := (toFun (st := s_Ring___init__) F0_Ring___init__).binds (ps := ["self", "values"]) fun _ _ _ _ _ _ us hl => match us, hl with | [_, _], _ => rfl,
    M_Ring___init__ := ⟨at_Ring___init__, fn_Ring___init__, F0_Ring___init__.kp⟩,
    K_Ring := ⟨mk_Ring, at_Ring___init__, fn_Ring___init__, kc_Ring⟩,
    a_State___getitem__ := (pp_a_State___getitem__ K),
    fd_State___getitem__ := fd_State___getitem__,
    F_State___getitem__ := toFun (st := s_State___getitem__) F0_State___getitem__,
    b_State___getitem__ := (toFun (st := s_State___getitem__) F0_State___getitem__).binds (ps := ["self", "name"]) fun _ _ _ _ _ _ us hl => match us, hl with | [_, _], _ => rfl,
    M_State___getitem__ := ⟨at_State___getitem__, fn_State___getitem__, F0_State___getitem__.kp⟩,
    a__law_is_state := (pp_a__law_is_state K),
    fd__law_is_state := fd__law_is_state,
    F__law_is_state := toFun (st := s__law_is_state) F0__law_is_state,
    b__law_is_state := (toFun (st := s__law_is_state) F0__law_is_state).binds (ps := ["_law_state", "_law_now"]) fun _ _ _ _ _ _ us hl => match us, hl with | [_, _], _ => rfl,
    m__law_is_state := PySem.W.mg_of X G at__law_is_state,
    a_Ring___len__ := (pp_a_Ring___len__ K),
    fd_Ring___len__ := fd_Ring___len__,
    F_Ring___len__ := toFun (st := s_Ring___len__) F0_Ring___len__,
    b_Ring___len__ := (toFun (st := s_Ring___len__) F0_Ring___len__).binds (ps := ["self"]) fun _ _ _ _ _ _ us hl => match us, hl with | [_], _ => rfl,
    M_Ring___len__ := ⟨at_Ring___len__, fn_Ring___len__, F0_Ring___len__.kp⟩,
    a_State___setitem__ := (pp_a_State___setitem__ K),
    fd_State___setitem__ := fd_State___setitem__,
    F_State___setitem__ := toFun (st := s_State___setitem__) F0_State___setitem__,
    b_State___setitem__ := (toFun (st := s_State___setitem__) F0_State___setitem__).binds (ps := ["self", "name", "worth"]) fun _ _ _ _ _ _ us hl => match us, hl with | [_, _, _], _ => rfl,
    M_State___setitem__ := ⟨at_State___setitem__, fn_State___setitem__, F0_State___setitem__.kp⟩,
    a_Ring___setitem__ := (pp_a_Ring___setitem__ K),
    fd_Ring___setitem__ := fd_Ring___setitem__,
    F_Ring___setitem__ := toFun (st := s_Ring___setitem__) F0_Ring___setitem__,
    b_Ring___setitem__ := (toFun (st := s_Ring___setitem__) F0_Ring___setitem__).binds (ps := ["self", "k", "worth"]) fun _ _ _ _ _ _ us hl => match us, hl with | [_, _, _], _ => rfl,
    M_Ring___setitem__ := ⟨at_Ring___setitem__, fn_Ring___setitem__, F0_Ring___setitem__.kp⟩,
    a__law_set := (pp_a__law_set K),
    fd__law_set := fd__law_set,
    F__law_set := toFun (st := s__law_set) F0__law_set,
    b__law_set := (toFun (st := s__law_set) F0__law_set).binds (ps := ["_law_box_here", "_law_state", "_law_now"]) fun _ _ _ _ _ _ us hl => match us, hl with | [_, _, _], _ => rfl,
    m__law_set := PySem.W.mg_of X G at__law_set,
    a_State___init__ := (pp_a_State___init__ K),
    fd_State___init__ := fd_State___init__,
    F_State___init__ := F0_State___init__,
    K_State := ⟨mk_State, at_State___init__, fn_State___init__, kc_State⟩,
    a_State_free := (pp_a_State_free K),
    fd_State_free := fd_State_free,
    F_State_free := F0_State_free,
    p_State_free := (pp_p_State_free K),
    CR_State_free := CR0_State_free,
    CM_State_free := CM0_State_free,
    a__law_copy := (pp_a__law_copy K),
    fd__law_copy := fd__law_copy,
    F__law_copy := toFun (st := s__law_copy) F0__law_copy,
    b__law_copy := (toFun (st := s__law_copy) F0__law_copy).binds (ps := ["_law_now"]) fun _ _ _ _ _ _ us hl => match us, hl with | [_], _ => rfl,
    m__law_copy := PySem.W.mg_of X G at__law_copy,
    a_State_copied := (pp_a_State_copied K),
    fd_State_copied := fd_State_copied,
    F_State_copied := toFun (st := s_State_copied) F0_State_copied,
    b_State_copied := (toFun (st := s_State_copied) F0_State_copied).binds (ps := ["self"]) fun _ _ _ _ _ _ us hl => match us, hl with | [_], _ => rfl,
    M_State_copied := ⟨at_State_copied, fn_State_copied, F0_State_copied.kp⟩,
    a__law_no_state := (pp_a__law_no_state K),
    fd__law_no_state := fd__law_no_state,
    F__law_no_state := toFun (st := s__law_no_state) F0__law_no_state,
    b__law_no_state := (toFun (st := s__law_no_state) F0__law_no_state).binds (ps := ["_law_size", "_law_way"]) fun _ _ _ _ _ _ us hl => match us, hl with | [_, _], _ => rfl,
    m__law_no_state := PySem.W.mg_of X G at__law_no_state,
    a__law_refusal := (pp_a__law_refusal K),
    fd__law_refusal := fd__law_refusal,
    F__law_refusal := toFun (st := s__law_refusal) F0__law_refusal,
    b__law_refusal := (toFun (st := s__law_refusal) F0__law_refusal).binds (ps := ["_law_state", "_law_name", "_law_thing", "_law_way"]) fun _ _ _ _ _ _ us hl => match us, hl with | [_, _, _, _], _ => rfl,
    m__law_refusal := PySem.W.mg_of X G at__law_refusal,
    a__law_refuses := (pp_a__law_refuses K),
    fd__law_refuses := fd__law_refuses,
    F__law_refuses := toFun (st := s__law_refuses) F0__law_refuses,
    b__law_refuses := (toFun (st := s__law_refuses) F0__law_refuses).binds (ps := ["_law_box_here", "_law_state", "_law_now"]) fun _ _ _ _ _ _ us hl => match us, hl with | [_, _, _], _ => rfl,
    m__law_refuses := PySem.W.mg_of X G at__law_refuses,
    a_State___eq__ := (pp_a_State___eq__ K),
    fd_State___eq__ := fd_State___eq__,
    F_State___eq__ := toFun (st := s_State___eq__) F0_State___eq__,
    b_State___eq__ := (toFun (st := s_State___eq__) F0_State___eq__).binds (ps := ["self", "other"]) fun _ _ _ _ _ _ us hl => match us, hl with | [_, _], _ => rfl,
    M_State___eq__ := ⟨at_State___eq__, fn_State___eq__, F0_State___eq__.kp⟩,
    a_law := (pp_a_law K),
    fd_law := fd_law,
    F_law := toFun (st := s_law) F0_law,
    b_law := (toFun (st := s_law) F0_law).binds (ps := ["_law_script"]) fun _ _ _ _ _ _ us hl => match us, hl with | [_], _ => rfl,
    m_law := PySem.W.mg_of X G at_law,
    kt_int_State := kt_int_State,
    kt_bool_State := kt_bool_State,
    kt_str_State := kt_str_State,
    kt_tuple_State := kt_tuple_State,
    kt_list_State := kt_list_State,
    kt_NoneType_State := kt_NoneType_State,
    kt_dict_State := kt_dict_State,
    kt_Ring_State := kt_Ring_State,
    ex_InvalidSize_ClashError := ex_InvalidSize_ClashError,
    ex_UnknownName_ClashError := ex_UnknownName_ClashError,
    ex_InvalidSize_InvalidSize := ex_InvalidSize_InvalidSize,
    ex_UnknownName_InvalidSize := ex_UnknownName_InvalidSize,
    ex_InvalidSize_UnknownName := ex_InvalidSize_UnknownName,
    ex_UnknownName_UnknownName := ex_UnknownName_UnknownName,
    no_InvalidSize_name := no_InvalidSize_name,
    no_UnknownName_size := no_UnknownName_size,
    kt_UnknownName_InvalidSize := kt_UnknownName_InvalidSize,
    kt_InvalidSize_KeyError := kt_InvalidSize_KeyError,
    kt_UnknownName_KeyError := kt_UnknownName_KeyError,
    OT_State := OT_State,
    NE_State := NE_State,
    sD_State := sD_State,
    sO_Ring_State := sO_Ring_State,
    NS_Ring := NS_Ring,
    NS_State := NS_State,
    FG_State := FG_State,
    bi_KeyError := bi_KeyError }
  exact ⟨fd_law, fun s v => FunD.bindsA (ps := ["_law_script"]) F0_law (fun _ _ _ _ _ _ us hl => match us, hl with | [_], _ => rfl) s [v] rfl, fun base _ _ => (Tx.ok_law t).to fun vs H Q E q => spL_to (T := (tab (pp_c_Ring K) (pp_c_State K) (pp_c_InvalidSize K) (pp_c_UnknownName K))) law_of q⟩
end K
namespace KH
open PySem PySem.W PySem.Calls PyProof.Rows
abbrev R : OpenRow := OpenLaw.row PySem.Challenge.rw_clashcounts_k49_states_set_and_told
abbrev qv : Program := view R.prog [26]
def nms : List PySem.Str := (["ClashError", "InvalidSize", "UnknownName", "ARRAYS", "REGISTERS", "OFFSETS", "moved_on", "Ring", "State", "_law_box", "_law_take", "_law_pick", "_law_free", "_law_copy", "_law_is_state", "_law_some_value", "_law_far", "_law_refusal", "_law_no_state", "_law_set", "_law_refuses", "_law_filled"] : List PySem.Str)
set_option maxHeartbeats 0 in
theorem run_false0 (w : World) : Dl.Run1 R 100000 (fun s => HandSHeadRun.looksF R.prog (PySem.W.boot_heap (w.withFollow "special-get-raises" false).params) s.abs) true (w.withFollow "special-get-raises" false) := by
  intro os
  kernel_rfl
set_option maxHeartbeats 0 in
theorem run_false1 (w : World) : Dl.Run1 R 100000 (fun s => HandSHeadRun.seenQ qv nms (importedModules R.prog.main.body) (fun s => PySem.W.xlAt qv [] s && PySem.W.recOk R.toRowW.records s) s.abs) (PySem.W.openGood qv nms) (w.withFollow "special-get-raises" false) := by
  intro os
  kernel_rfl
set_option maxHeartbeats 0 in
theorem run_false2 (w : World) : Dl.Run1 R 100000 (Dl.obX 6 K.fcl K.fnl) ((Dl.hookX 6 K.fcl K.fnl).val (w.withFollow "special-get-raises" false)) (w.withFollow "special-get-raises" false) := by
  intro os
  kernel_rfl
theorem run_false (w : World) : HandSHeadRun.RunEq R qv (Dl.hookX 6 K.fcl K.fnl) (Dl.obX 6 K.fcl K.fnl) 100000 nms (w.withFollow "special-get-raises" false) := Dl.run3 (run_false0 w) (run_false1 w) (run_false2 w)
set_option maxHeartbeats 0 in
theorem run_true0 (w : World) : Dl.Run1 R 100000 (fun s => HandSHeadRun.looksF R.prog (PySem.W.boot_heap (w.withFollow "special-get-raises" true).params) s.abs) true (w.withFollow "special-get-raises" true) := by
  intro os
  kernel_rfl
set_option maxHeartbeats 0 in
theorem run_true1 (w : World) : Dl.Run1 R 100000 (fun s => HandSHeadRun.seenQ qv nms (importedModules R.prog.main.body) (fun s => PySem.W.xlAt qv [] s && PySem.W.recOk R.toRowW.records s) s.abs) (PySem.W.openGood qv nms) (w.withFollow "special-get-raises" true) := by
  intro os
  kernel_rfl
set_option maxHeartbeats 0 in
theorem run_true2 (w : World) : Dl.Run1 R 100000 (Dl.obX 6 K.fcl K.fnl) ((Dl.hookX 6 K.fcl K.fnl).val (w.withFollow "special-get-raises" true)) (w.withFollow "special-get-raises" true) := by
  intro os
  kernel_rfl
theorem run_true (w : World) : HandSHeadRun.RunEq R qv (Dl.hookX 6 K.fcl K.fnl) (Dl.obX 6 K.fcl K.fnl) 100000 nms (w.withFollow "special-get-raises" true) := Dl.run3 (run_true0 w) (run_true1 w) (run_true2 w)
theorem run (w : World) : HandSHeadRun.RunEq R qv (Dl.hookX 6 K.fcl K.fnl) (Dl.obX 6 K.fcl K.fnl) 100000 nms w := byRow2 "special-get-raises" (P := fun w => HandSHeadRun.RunEq R qv (Dl.hookX 6 K.fcl K.fnl) (Dl.obX 6 K.fcl K.fnl) 100000 nms w) run_false run_true w
end KH
open PySem PySem.W PySem.Calls PyProof.Rows in
set_option maxRecDepth 100000 in
set_option maxHeartbeats 0 in
theorem PySem.Challenge.cw_clashcounts_k49_states_set_and_told_holds : PySem.Challenge.rw_clashcounts_k49_states_set_and_told.Holds := by
  w_on; o_law
  refine HandSHeadRun.head_any (r := OpenLaw.row PySem.Challenge.rw_clashcounts_k49_states_set_and_told) (q := KH.qv) (H := Dl.hookX 6 K.fcl K.fnl) (ob := Dl.obX 6 K.fcl K.fnl) (M := 100000) (loose := KH.nms) (d := HandSHeadRun.topDef (OpenLaw.row PySem.Challenge.rw_clashcounts_k49_states_set_and_told).prog 26) (kwd := []) (Dl.obX_eq 6 K.fcl K.fnl) (by kernel_rfl) (fun s => by kernel_rfl) KH.run (by kernel_rfl) (by kernel_rfl) (by kernel_rfl) (by rfl) (by first | assumption | decide +kernel) (by decide +kernel) ⟨rfl, rfl, rfl, rfl, rfl, by decide +kernel⟩ ?hw ?hc
  case hw => w_witness2
  case hc =>
    refine Dl.walk_xG (l := PySem.Challenge.rw_clashcounts_k49_states_set_and_told) (n := 63) (k := 9) (x := "_law_script") rfl (by decide) (by kernel_rfl) ⟨rfl, by decide, by decide⟩ ?F (by decide)
    intro w mg fa h Y G hmg0
    obtain ⟨K, KX, c⟩ := Y
    have hmg : mg ("law" : PySem.Str) = some (.ref fa) := by
      have e : (HandSHeadRun.topDef (OpenLaw.row PySem.Challenge.rw_clashcounts_k49_states_set_and_told).prog 26).name = ("law" : PySem.Str) := by kernel_rfl
      rw [← e]
      exact hmg0
    obtain ⟨fd, hb, hF⟩ := _root_.K.all_mk (P := (PySem.Challenge.rw_clashcounts_k49_states_set_and_told).prog) (w := w) KX G hmg c
    exact ⟨K, fd, KX, hb, hF⟩
