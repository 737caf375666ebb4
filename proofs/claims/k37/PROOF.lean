import PyProof.Rows.All
import Wide.All
import OpenK.AllK
import Wide.FinOn
import HandS.ForMost
import HandS.Wide
import HandS.EndBits
import HandS.Zip
import HandS.IsInst
import HandS.Defaults
import HandS.MakeKwOnly
import HandS.Property
import HandS.OwnEq
import HandS.Lambda
import KE.KDictKeyed
import HandS.Exc
import HandS.WordsExc
import HandS.TupAny
import HandS.Flow
import HandS.Style
import KE.KOpsOwn
import KE.GoesEnum
import HandS.NoneIn
import HandS.ExcInit
import HandS.ExcIs
import HandS.ExcField
import HandS.TryMany
import HandS.ExcOwn
import HandS.Text
import PyProof.StrOps2
import HandS.Iter
import HandS.TupMul
import HandS.RaiseMore
import KE.GoesMore
import HandS.TupLe
import HandS.More
import OpenK.KMeth
import OpenK.KOps
import KE.KCallOwn
import HandS.Conv
import HandS.MakeKw
import PyProof.Rows.Range3
import HandS.Dict
import HandS.Small
import HandS.DictComp
import HandS.SortInts
import HandS.ListItems
import HandS.WordsDict
import HandS.Star
import HandS.EndTab
import HandS.NestedK
import KE.KNestM
import HandS.StrMore
import HandS.FStr
import HandS.ReplaceLit
import HandS.Replace
import HandS.ReplaceList
import KE.KExcInit
import HandS.Records
import HandS.TryOnly
import HandS.DictTup
import HandS.HeadHook3
import PyProof.NeKinds
import PyProof.AutoSeq1
import KE.KUnpackStar
import KE.DataEq
import PyProof.Rows.StrRev
import HandS.ExcCtx
import HandS.SuiteRaise
import HandS.RaiseFrom
import HandS.ExcInitHot
import KE.GoesRaise
import KE.KStateDown
import HandS.Head0
import HandS.Head1
import HandS.Head2
import HandS.HeadEnd
import HandS.HeadHook1
import HandS.HeadHook2
import PySem.Challenge.RW_clashcounts_k37_texts_that_are_none
set_option Elab.async false
set_option linter.all false
set_option maxRecDepth 100000
set_option maxHeartbeats 1000000
namespace Dl
open PySem L2
structure LamF where
  q : Str
  ps : Arguments
  b : Expr
  sc : Scope
def LamO (f : Addr) (F : LamF) (c : Addr) : HO := .ext fun h => ∃ pm ctv : Value, h.get? f = some (PySem.W.kla_obj "<lambda>" F.q F.ps F.b F.sc [] pm c ctv)
inductive D where
  | non | bl (b : Bool) | int (i : Int) | str (x : Str) | tup (xs : List D) | lst (xs : List D) | obj (n : Nat) (xs : List D) | scr (xs : List D)
  /-- a caught error: its class, where it stands, its dict, its attributes -/
  | err (n : Nat) (a : Addr) (dd : Option Addr) (xs : List D)
  /-- a class -/
  | cls (C : Addr)
  /-- a dict that is only read: its keys, its values -/
  | dct (ks : List Key) (xs : List D)
  /-- a lambda -/
  | fn (F : LamF)
  /-- a dict that is only read, its keys tuples of ints and such tuples -/
  | dcn (ks xs : List D)
def nkD : D → Option NestedKey
  | .int i => some (.num i)
  | .tup ds => (go ds).map .tup
  | _ => none
where go : List D → Option (List NestedKey)
  | [] => some []
  | d :: ds => match nkD d, go ds with
    | some k, some ks => some (k :: ks)
    | _, _ => none
def DN (xs : List (NestedKey × Addr × Value)) (o : Obj) : Prop := o.ExactDict ∧ (∃ es ep, o.data = .dict es ep ∧ ∀ (P : Program) (w : World), es.toList = xs.map (entryOfKey (nestedKind P w))) ∧ (xs.map (·.1)).Nodup ∧ ∀ x ∈ xs, x.1.depth ≤ 8
def dN (a : Addr) (o : Obj) : HO := .ext fun h => h.get? a = some o
abbrev Tab := Nat → Option (Addr × List Str)
def TAt (K : PySem.W.Frag) (M : Addr → Prop) (H : Hp) (a : Addr) (vs : List V) : Prop := (¬ M a ∧ Rd H a (.tup vs)) ∨ SqT K (fun _ => none) a vs
def LAt (K : PySem.W.Frag) (M : Addr → Prop) (H : Hp) (a : Addr) (vs : List V) : Prop := (¬ M a ∧ ∃ o, H a = some (.frz o (.lst vs))) ∨ SqL K (fun _ => none) a vs
def XAt (M : Addr → Prop) (H : Hp) (dd : Option Addr) (fn : List Str) (vs : List V) : Prop := (fn = [] ∧ vs = [] ∧ dd = none) ∨ ∃ d, dd = some d ∧ ¬ M d ∧ H d = some (.xd (fn.zip vs)) ∧ vs.length = fn.length
mutual
inductive Rep (T : Tab) (K : PySem.W.Frag) (M : Addr → Prop) (H : Hp) : V → D → Prop
  | non : Rep T K M H .non .non
  | bl {b : Bool} : Rep T K M H (.bl b) (.bl b)
  | int {i : Int} : Rep T K M H (.int i) (.int i)
  | str {x : Str} : Rep T K M H (.str x) (.str x)
  | tup {a : Addr} {vs : List V} {ds : List D} : TAt K M H a vs → Reps T K M H vs ds → Rep T K M H (.ref a) (.tup ds)
  | lst {a : Addr} {vs : List V} {ds : List D} : ¬ M a → H a = some (.lst vs) → Reps T K M H vs ds → Rep T K M H (.ref a) (.lst ds)
  | scr {a : Addr} {vs : List V} {ds : List D} : LAt K M H a vs → Reps T K M H vs ds → Rep T K M H (.ref a) (.scr ds)
  | obj {a C dx : Addr} {n : Nat} {fn : List Str} {vs : List V} {ds : List D} : T n = some (C, fn) → ¬ M a → H a = some (.ins C dx (fn.zip vs)) → vs.length = fn.length → Reps T K M H vs ds → Rep T K M H (.ref a) (.obj n ds)
  | err {a C : Addr} {n : Nat} {fn : List Str} {dd : Option Addr} {vs : List V} {ds : List D} : T n = some (C, fn) → XAt M H dd fn vs → Reps T K M H vs ds → Rep T K M H (.ref a) (.err n a dd ds)
  | cls {C : Addr} : Rep T K M H (.ref C) (.cls C)
  | dct {a : Addr} {o : Obj} {kvs : List (Key × V)} {ks : List Key} {ds : List D} : ¬ M a → H a = some (.frz o (.dK kvs)) → kvs.map (·.1) = ks → Reps T K M H (kvs.map (·.2)) ds → Rep T K M H (.ref a) (.dct ks ds)
  | fn {f c : Addr} {F : LamF} : ¬ M f → ¬ M c → H f = some (LamO f F c) → H c = some (LamX.CodeO c F.q) → Rep T K M H (.ref f) (.fn F)
  | dcn {a : Addr} {o od : Obj} {xs : List (NestedKey × Addr × Value)} {vs : List V} {ks ds : List D} : ¬ M a → H a = some (.frz od (dN a o)) → DN xs o → (a == sysModules) = false → xs.length ≤ sizeLine → Reps T K M H (xs.map fun x => V.ref x.2.1) ks → ks.map nkD = xs.map (fun x => some x.1) → Vals vs (xs.map fun x => x.2.2) → Reps T K M H vs ds → Rep T K M H (.ref a) (.dcn ks ds)
inductive Reps (T : Tab) (K : PySem.W.Frag) (M : Addr → Prop) (H : Hp) : List V → List D → Prop
  | nil : Reps T K M H [] []
  | cons {v : V} {d : D} {vs : List V} {ds : List D} : Rep T K M H v d → Reps T K M H vs ds → Reps T K M H (v :: vs) (d :: ds)
end
section
variable {T : Tab} {K : PySem.W.Frag} {M M' : Addr → Prop} {H H' : Hp} {a : Addr} {v : V} {d : D} {vs : List V} {ds : List D}
def Kp (M : Addr → Prop) (H : Hp) (M' : Addr → Prop) (H' : Hp) : Prop := ∀ a o, H a = some o → ¬ M a → H' a = some o ∧ ¬ M' a
theorem Kp.refl : Kp M H M H := fun _ _ h n => ⟨h, n⟩
theorem Kp.trans {M2 : Addr → Prop} {H2 : Hp} (x : Kp M H M' H') (y : Kp M' H' M2 H2) : Kp M H M2 H2 := fun a o h n =>
  let ⟨h1, n1⟩ := x a o h n
  y a o h1 n1
theorem TAt.kp (k : Kp M H M' H') (h : TAt K M H a vs) : TAt K M' H' a vs := by
  rcases h with ⟨n, h | ⟨o, h⟩⟩ | h
  · exact .inl ⟨(k _ _ h n).2, .inl (k _ _ h n).1⟩
  · exact .inl ⟨(k _ _ h n).2, .inr ⟨o, (k _ _ h n).1⟩⟩
  · exact .inr h
theorem LAt.kp (k : Kp M H M' H') (h : LAt K M H a vs) : LAt K M' H' a vs := by
  rcases h with ⟨n, o, h⟩ | h
  · exact .inl ⟨(k _ _ h n).2, o, (k _ _ h n).1⟩
  · exact .inr h
theorem TAt.sq (h : TAt K M H a vs) : SqT K H a vs := by
  rcases h with ⟨n, h⟩ | h
  · exact .inl h
  · rcases h with (h | ⟨_, h⟩) | h
    · cases h
    · cases h
    · exact .inr h
theorem LAt.sq (h : LAt K M H a vs) : SqL K H a vs := by
  rcases h with h | h
  · exact .inl (.inr h.2)
  · rcases h with (h | ⟨_, h⟩) | h
    · cases h
    · cases h
    · exact .inr h
theorem LAt.of (hO : Only H) (h : SqL K H a vs) : LAt K (fun _ => False) H a vs := by
  rcases h with (h | ⟨o, h⟩) | h
  · rcases hO a with e | ⟨o, xs, e⟩ <;> rw [e] at h <;> cases h
  · exact .inl ⟨id, o, h⟩
  · exact .inr (.inr h)
theorem XAt.kp {dd : Option Addr} {fn : List Str} (k : Kp M H M' H') (h : XAt M H dd fn vs) : XAt M' H' dd fn vs := by
  rcases h with h | ⟨d, e, n, h1, h2⟩
  · exact .inl h
  · exact .inr ⟨d, e, (k _ _ h1 n).2, (k _ _ h1 n).1, h2⟩
mutual
theorem Rep.kp (k : Kp M H M' H') {v : V} {d : D} (h : Rep T K M H v d) : Rep T K M' H' v d :=
  match h with
  | .non => .non
  | .bl => .bl
  | .int => .int
  | .str => .str
  | .tup h1 h2 => .tup (h1.kp k) (Reps.kp k h2)
  | .lst n h1 h2 => .lst (k _ _ h1 n).2 (k _ _ h1 n).1 (Reps.kp k h2)
  | .scr h1 h2 => .scr (h1.kp k) (Reps.kp k h2)
  | .obj ht hm h1 hl h2 => .obj ht (k _ _ h1 hm).2 (k _ _ h1 hm).1 hl (Reps.kp k h2)
  | .err ht h1 h2 => .err ht (h1.kp k) (Reps.kp k h2)
  | .cls => .cls
  | .dct n h1 hl h2 => .dct (k _ _ h1 n).2 (k _ _ h1 n).1 hl (Reps.kp k h2)
  | .fn n m h1 h2 => .fn (k _ _ h1 n).2 (k _ _ h2 m).2 (k _ _ h1 n).1 (k _ _ h2 m).1
  | .dcn n h1 h2 h3 h4 h5 h6 h7 h8 => .dcn (k _ _ h1 n).2 (k _ _ h1 n).1 h2 h3 h4 (Reps.kp k h5) h6 h7 (Reps.kp k h8)
theorem Reps.kp (k : Kp M H M' H') {vs : List V} {ds : List D} (h : Reps T K M H vs ds) : Reps T K M' H' vs ds :=
  match h with
  | .nil => .nil
  | .cons h1 h2 => .cons (Rep.kp k h1) (Reps.kp k h2)
end
theorem Reps.length (h : Reps T K M H vs ds) : vs.length = ds.length := by
  induction ds generalizing vs with
  | nil => cases h; rfl
  | cons d ds ih => cases h with | cons h1 h2 => simp [ih h2]
theorem Reps.get : ∀ {vs : List V} {ds : List D} {i : Nat} {d : D}, Reps T K M H vs ds → ds[i]? = some d → ∃ v, vs[i]? = some v ∧ Rep T K M H v d
  | _, _, _, _, .nil, e => by simp at e
  | _, _, 0, _, .cons r _, e => by simp at e; subst e; exact ⟨_, rfl, r⟩
  | _, _, i + 1, d, .cons _ t, e => by
    obtain ⟨u, h1, h2⟩ := Reps.get (i := i) (d := d) t (by simpa using e)
    exact ⟨u, by simpa using h1, h2⟩
theorem Reps.getV : ∀ {vs : List V} {ds : List D} {i : Nat} {v : V}, Reps T K M H vs ds → vs[i]? = some v → ∃ d, ds[i]? = some d ∧ Rep T K M H v d
  | _, _, _, _, .nil, e => by simp at e
  | _, _, 0, _, .cons r _, e => by simp at e; subst e; exact ⟨_, rfl, r⟩
  | _, _, i + 1, d, .cons _ t, e => by
    obtain ⟨u, h1, h2⟩ := Reps.getV (i := i) t (by simpa using e)
    exact ⟨u, by simpa using h1, h2⟩
theorem Reps.append : ∀ {vs ws : List V} {ds es : List D}, Reps T K M H vs ds → Reps T K M H ws es → Reps T K M H (vs ++ ws) (ds ++ es)
  | _, _, _, _, .nil, s => s
  | _, _, _, _, .cons r t, s => .cons r (Reps.append t s)
theorem Reps.take : ∀ {vs : List V} {ds : List D} (n : Nat), Reps T K M H vs ds → Reps T K M H (vs.take n) (ds.take n)
  | _, _, 0, _ => .nil
  | _, _, _ + 1, .nil => .nil
  | _, _, n + 1, .cons r t => .cons r (Reps.take n t)
theorem Reps.drop : ∀ {vs : List V} {ds : List D} (n : Nat), Reps T K M H vs ds → Reps T K M H (vs.drop n) (ds.drop n)
  | _, _, 0, r => r
  | _, _, _ + 1, .nil => .nil
  | _, _, n + 1, .cons _ t => Reps.drop n t
theorem Reps.set {v : V} {d : D} (r : Rep T K M H v d) : ∀ {vs : List V} {ds : List D} (i : Nat), Reps T K M H vs ds → Reps T K M H (vs.set i v) (ds.set i d)
  | _, _, _, .nil => .nil
  | _, _, 0, .cons _ t => .cons r t
  | _, _, i + 1, .cons q t => .cons q (Reps.set r i t)
theorem Reps.rev : ∀ {vs : List V} {ds : List D}, Reps T K M H vs ds → Reps T K M H vs.reverse ds.reverse
  | _, _, .nil => .nil
  | _, _, .cons r t => by
    rw [List.reverse_cons, List.reverse_cons]
    exact (Reps.rev t).append (.cons r .nil)
theorem Reps.replicate {v : V} {d : D} (r : Rep T K M H v d) : ∀ n, Reps T K M H (List.replicate n v) (List.replicate n d)
  | 0 => .nil
  | n + 1 => .cons r (Reps.replicate r n)
theorem Reps.ints : ∀ (ns : List Int), Reps T K M H (ns.map V.int) (ns.map D.int)
  | [] => .nil
  | _ :: r => .cons .int (Reps.ints r)
theorem Reps.of_ints : ∀ {ns : List Int} {vs : List V}, Reps T K M H vs (ns.map D.int) → vs = ns.map V.int
  | [], _, .nil => rfl
  | _ :: r, _, .cons h t => by
    cases h
    rw [Reps.of_ints t]
    rfl
end
inductive Cell where
  | lst (xs : List D)
  | dct (kvs : List (Key × D))
  | ins (n : Nat) (fs : List (Str × D))
  | dcn (kds : List (D × D))
  /-- a list, a dict, an instance whose address is known -/
  | lstA (p : Addr) (xs : List D)
  | dctA (p : Addr) (kvs : List (Key × D))
  | insA (p : Addr) (n : Nat) (fs : List (Str × D))
inductive Sl where
  | dat (d : D)
  | cel (k : Nat)
structure Sta where
  sl : List (Option Sl)
  cs : List Cell
abbrev Mm (ad : List Addr) (F : Addr → Prop) : Addr → Prop := fun a => a ∈ ad ∨ F a
def NDat (T : Tab) (K : PySem.W.Frag) (M : Addr → Prop) (H : Hp) (a : Addr) (o : Obj) (kds : List (D × D)) : Prop := ∃ xs vs, DN xs o ∧ (a == sysModules) = false ∧ xs.length ≤ sizeLine ∧ Reps T K M H (xs.map fun x => V.ref x.2.1) (kds.map (·.1)) ∧ (kds.map (·.1)).map nkD = xs.map (fun x => some x.1) ∧ Vals vs (xs.map fun x => x.2.2) ∧ Reps T K M H vs (kds.map (·.2))
theorem NDat.kp {T : Tab} {K : PySem.W.Frag} {M M' : Addr → Prop} {H H' : Hp} {a : Addr} {o : Obj} {kds : List (D × D)} (k : Kp M H M' H') (h : NDat T K M H a o kds) : NDat T K M' H' a o kds :=
  let ⟨xs, vs, h1, h2, h3, h4, h5, h6, h7⟩ := h
  ⟨xs, vs, h1, h2, h3, h4.kp k, h5, h6, h7.kp k⟩
abbrev NoC (o : HO) : Prop := ∀ φ, o = .ext φ → ∀ c q, HO.ext φ ≠ LamX.CodeO c q
theorem dN_noc {a : Addr} {o : Obj} (hd : ∃ es ep, o.data = .dict es ep) : NoC (dN a o) := fun φ e c q z => by
  obtain ⟨es, ep, hd⟩ := hd
  have z : dN a o = LamX.CodeO c q := e.trans z
  unfold dN LamX.CodeO at z
  injection z with z
  have hh : ∀ h : Heap, (h.get? a = some o) = (∃ (oc : Obj) (vs : Array Value) (t : Tok), h.get? c = some oc ∧ oc.data = .fields vs ∧ vs[1]? = some (.str q t)) := fun h => congrFun z h
  have g : ∀ b : Addr, Heap.get? { (default : Heap) with objs := (Array.replicate (a + 1) o) } b = if b < a + 1 then some o else none := fun b => by
    obtain ⟨x1, x2, x3, x4⟩ := o
    have hd : x3 = .dict es ep := hd
    subst hd
    unfold Heap.get?
    rw [Array.getElem?_replicate]
    by_cases z : b < a + 1
    · rw [if_pos z]
    · rw [if_neg z]
  have h1 := hh { (default : Heap) with objs := (Array.replicate (a + 1) o) }
  rw [g, g, if_pos (Nat.lt_succ_self a)] at h1
  obtain ⟨oc, vs, t, e1, e2, _⟩ := h1.mp rfl
  split at e1
  · cases e1
    rw [hd] at e2
    cases e2
  · cases e1
def CellAt (T : Tab) (K : PySem.W.Frag) (M : Addr → Prop) (H : Hp) (a : Addr) : Cell → Prop
  | .lst ds => ∃ vs, H a = some (.lst vs) ∧ Reps T K M H vs ds
  | .dct kds => ∃ kvs, H a = some (.dK kvs) ∧ kvs.map (·.1) = kds.map (·.1) ∧ Reps T K M H (kvs.map (·.2)) (kds.map (·.2))
  | .dcn kds => ∃ o, H a = some (dN a o) ∧ NDat T K M H a o kds
  | .ins n fs => ∃ C fn dx vs, T n = some (C, fn) ∧ H a = some (.ins C dx ((fs.map (·.1)).zip vs)) ∧ vs.length = fs.length ∧ Reps T K M H vs (fs.map (·.2))
  | .lstA p ds => ∃ vs, (H a = some (.lst vs) ∧ Reps T K M H vs ds) ∧ p = a
  | .dctA p kds => ∃ kvs, (H a = some (.dK kvs) ∧ kvs.map (·.1) = kds.map (·.1) ∧ Reps T K M H (kvs.map (·.2)) (kds.map (·.2))) ∧ p = a
  | .insA p n fs => ∃ C fn dx vs, (T n = some (C, fn) ∧ H a = some (.ins C dx ((fs.map (·.1)).zip vs)) ∧ vs.length = fs.length ∧ Reps T K M H vs (fs.map (·.2))) ∧ p = a
def SlRep (T : Tab) (K : PySem.W.Frag) (ad : List Addr) (F : Addr → Prop) (H : Hp) (v : V) : Sl → Prop
  | .dat d => Rep T K (Mm ad F) H v d
  | .cel k => ∃ a, ad[k]? = some a ∧ v = .ref a
def Fr1 (H H' : Hp) (a : Addr) : Prop := H' a = H a ∨ ∃ ps qs, H a = some (.tbl ps) ∧ H' a = some (.tbl qs)
def TbOk (T : Tab) (F : Addr → Prop) (H : Hp) : Prop := ∀ P q, T 900 = some (P, [q]) → F P ∧ LamX.TabS H P q ∧ ∀ a, F a → ∃ o, H a = some o ∧ NoC o
structure HoldC (T : Tab) (K : PySem.W.Frag) (ad : List Addr) (F : Addr → Prop) (H : Hp) (cs : List Cell) : Prop where
  nd : ad.Nodup
  fr : ∀ a ∈ ad, ¬ F a
  al : ∀ a, F a → ∃ o, H a = some o
  tb : TbOk T F H
  ln : ad.length = cs.length
  ce : ∀ (k : Nat) a c, ad[k]? = some a → cs[k]? = some c → CellAt T K (Mm ad F) H a c
structure Hold (T : Tab) (K : PySem.W.Frag) (S : Sta) (ad : List Addr) (F : Addr → Prop) (σ : St) (H : Hp) : Prop where
  hc : HoldC T K ad F H S.cs
  sz : σ.length = S.sl.length
  sl : ∀ (i : Nat) s, S.sl[i]? = some (some s) → ∃ v, σ[i]? = some (some v) ∧ SlRep T K ad F H v s
structure Ext (ad : List Addr) (F : Addr → Prop) (H : Hp) (ad' : List Addr) (H' : Hp) : Prop where
  pre : ∃ t, ad' = ad ++ t ∧ ∀ a ∈ t, H a = none
  keep : ∀ a o, H a = some o → ¬ Mm ad F a → H' a = some o
  frm : ∀ a, F a → Fr1 H H' a
section
variable {T : Tab} {K : PySem.W.Frag} {F : Addr → Prop} {ad ad1 ad2 : List Addr} {H H1 H2 : Hp} {cs : List Cell} {S : Sta} {σ : St} {v : V} {d : D} {s : Sl}
theorem Fr1.same {a : Addr} (e : H1 a = H a) : Fr1 H H1 a := .inl e
theorem Fr1.trans {a : Addr} (x : Fr1 H H1 a) (y : Fr1 H1 H2 a) : Fr1 H H2 a := by
  rcases x with x | ⟨p, q, x1, x2⟩ <;> rcases y with y | ⟨p', q', y1, y2⟩
  · exact .inl (y.trans x)
  · exact .inr ⟨p', q', x ▸ y1, y2⟩
  · exact .inr ⟨p, q, x1, y.trans x2⟩
  · exact .inr ⟨p, q', x1, y2⟩
theorem Fr1.ex {a : Addr} (x : Fr1 H H1 a) (h : ∃ o, H a = some o) : ∃ o, H1 a = some o := by
  rcases x with x | ⟨_, q, _, x2⟩
  · rw [x]; exact h
  · exact ⟨_, x2⟩
theorem Fr1.eq {a : Addr} {o : HO} (x : Fr1 H H1 a) (h : H a = some o) (n : ∀ ps, o ≠ .tbl ps) : H1 a = some o := by
  rcases x with x | ⟨p, q, x1, _⟩
  · rw [x]; exact h
  · rw [h] at x1
    cases x1
    exact absurd rfl (n p)
theorem TbOk.ext (t : TbOk T F H) (e : ∀ b o, H b = some o → H1 b = some o) : TbOk T F H1 := fun P q h => by
  obtain ⟨t1, t2, t3⟩ := t P q h
  refine ⟨t1, t2.ext e, fun a fa => ?_⟩
  obtain ⟨o, o1, o2⟩ := t3 a fa
  exact ⟨o, e a o o1, o2⟩
theorem TbOk.upd {a : Addr} {o o' : HO} (t : TbOk T F H) (h : H a = some o) (n1 : ∀ ps, o ≠ .tbl ps) (n2 : NoC o) (n3 : NoC o') : TbOk T F (L2.upd H a o') := fun P q e => by
  obtain ⟨fp, ⟨ps, e1, e2, e3⟩, t3⟩ := t P q e
  have h1 : P ≠ a := fun z => n1 ps (Option.some.inj (h.symm.trans (z ▸ e1)))
  refine ⟨fp, ⟨ps, by rw [upd_ne h1]; exact e1, e2, fun pos cv hc => ?_⟩, fun b fb => ?_⟩
  · obtain ⟨c, c1, c2⟩ := e3 pos cv hc
    have h2 : c ≠ a := fun z => n2 _ (Option.some.inj (h.symm.trans (z ▸ c2))) c q rfl
    exact ⟨c, c1, by rw [upd_ne h2]; exact c2⟩
  · by_cases z : b = a
    · rw [z]; exact ⟨o', upd_same, n3⟩
    · rw [upd_ne z]; exact t3 b fb
theorem TbOk.new {a : Addr} {o' : HO} (t : TbOk T F H) (h : H a = none) : TbOk T F (L2.upd H a o') := t.ext fun b o e => by rw [upd_ne (ne_of_none e h)]; exact e
theorem TbOk.to {F1 : Addr → Prop} (t : TbOk T F H) (f : ∀ a, F a → F1 a) (g : ∀ a, F1 a → F a ∨ ∃ o, H a = some o ∧ NoC o) : TbOk T F1 H := fun P q e => by
  obtain ⟨t1, t2, t3⟩ := t P q e
  exact ⟨f P t1, t2, fun a fa => (g a fa).elim (t3 a) id⟩
theorem TbOk.newF {a : Addr} {o' : HO} (t : TbOk T F H) (h : H a = none) (n : NoC o') : TbOk T (fun b => F b ∨ b = a) (L2.upd H a o') := (t.new h).to (fun _ z => .inl z) fun b z => z.imp id fun y => by rw [y]; exact ⟨o', upd_same, n⟩
theorem TbOk.back {F1 : Addr → Prop} (t : TbOk T F H) (f : ∀ a, F a → F1 a) (t1 : TbOk T F1 H1) : TbOk T F H1 := fun P q h => ⟨(t P q h).1, (t1 P q h).2.1, fun a fa => (t1 P q h).2.2 a (f a fa)⟩
theorem CellAt.is {M : Addr → Prop} {a : Addr} {c : Cell} (h : CellAt T K M H a c) : ∃ o, H a = some o ∧ (∀ ps, o ≠ .tbl ps) ∧ NoC o := by
  cases c with
  | lst ds => obtain ⟨vs, e, _⟩ := h; exact ⟨_, e, fun _ z => (nomatch z), fun _ z => nomatch z⟩
  | dct kvs => obtain ⟨vs, e, _⟩ := h; exact ⟨_, e, fun _ z => (nomatch z), fun _ z => nomatch z⟩
  | ins n fs => obtain ⟨C, fn, dx, vs, _, e, _⟩ := h; exact ⟨_, e, fun _ z => (nomatch z), fun _ z => nomatch z⟩
  | dcn kds => obtain ⟨o, e, _, _, ⟨_, ⟨es, ep, h1, _⟩, _⟩, _⟩ := h; exact ⟨_, e, fun _ z => (nomatch z), dN_noc ⟨es, ep, h1⟩⟩
  | lstA p ds => obtain ⟨vs, ⟨e, _⟩, _⟩ := h; exact ⟨_, e, fun _ z => (nomatch z), fun _ z => nomatch z⟩
  | dctA p kvs => obtain ⟨vs, ⟨e, _⟩, _⟩ := h; exact ⟨_, e, fun _ z => (nomatch z), fun _ z => nomatch z⟩
  | insA p n fs => obtain ⟨C, fn, dx, vs, ⟨_, e, _⟩, _⟩ := h; exact ⟨_, e, fun _ z => (nomatch z), fun _ z => nomatch z⟩
theorem CellAt.some {M : Addr → Prop} {a : Addr} {c : Cell} (h : CellAt T K M H a c) : ∃ o, H a = some o := by
  cases c with
  | lst ds => obtain ⟨vs, e, _⟩ := h; exact ⟨_, e⟩
  | dct kvs => obtain ⟨vs, e, _⟩ := h; exact ⟨_, e⟩
  | ins n fs => obtain ⟨C, fn, dx, vs, _, e, _⟩ := h; exact ⟨_, e⟩
  | dcn kds => obtain ⟨o, e, _⟩ := h; exact ⟨_, e⟩
  | lstA p ds => obtain ⟨vs, ⟨e, _⟩, _⟩ := h; exact ⟨_, e⟩
  | dctA p kvs => obtain ⟨vs, ⟨e, _⟩, _⟩ := h; exact ⟨_, e⟩
  | insA p n fs => obtain ⟨C, fn, dx, vs, ⟨_, e, _⟩, _⟩ := h; exact ⟨_, e⟩
theorem CellAt.kp {M M' : Addr → Prop} {a : Addr} {c : Cell} (k : Kp M H M' H1) (e : H1 a = H a) (h : CellAt T K M H a c) : CellAt T K M' H1 a c := by
  cases c with
  | lst ds => obtain ⟨vs, h1, h2⟩ := h; exact ⟨vs, e.trans h1, h2.kp k⟩
  | dct kvs => obtain ⟨vs, h1, hl, h2⟩ := h; exact ⟨vs, e.trans h1, hl, h2.kp k⟩
  | ins n fs => obtain ⟨C, fn, dx, vs, ht, h1, hl, h2⟩ := h; exact ⟨C, fn, dx, vs, ht, e.trans h1, hl, h2.kp k⟩
  | dcn kds => obtain ⟨o, h1, h2⟩ := h; exact ⟨o, e.trans h1, h2.kp k⟩
  | lstA p ds => obtain ⟨vs, ⟨h1, h2⟩, hp⟩ := h; exact ⟨vs, ⟨e.trans h1, h2.kp k⟩, hp⟩
  | dctA p kvs => obtain ⟨vs, ⟨h1, hl, h2⟩, hp⟩ := h; exact ⟨vs, ⟨e.trans h1, hl, h2.kp k⟩, hp⟩
  | insA p n fs => obtain ⟨C, fn, dx, vs, ⟨ht, h1, hl, h2⟩, hp⟩ := h; exact ⟨C, fn, dx, vs, ⟨ht, e.trans h1, hl, h2.kp k⟩, hp⟩
theorem CellAt.kp1 {M M' : Addr → Prop} {a : Addr} {c : Cell} (k : Kp M H M' H1) (e : Fr1 H H1 a) (h : CellAt T K M H a c) : CellAt T K M' H1 a c := by
  obtain ⟨o, e1, n1, _⟩ := h.is
  exact h.kp k ((e.eq e1 n1).trans e1.symm)
theorem HoldC.mem (h : HoldC T K ad F H cs) {a : Addr} (ha : a ∈ ad) : ∃ o, H a = some o := by
  obtain ⟨k, hk, e⟩ := List.getElem_of_mem ha
  have h1 : ad[k]? = some a := by rw [List.getElem?_eq_getElem hk, e]
  have h2 : cs[k]? = some (cs[k]'(by rw [← h.ln]; exact hk)) := List.getElem?_eq_getElem _
  exact (h.ce k a _ h1 h2).some
theorem HoldC.is (h : HoldC T K ad F H cs) {a : Addr} (ha : a ∈ ad) : ∃ o, H a = some o ∧ (∀ ps, o ≠ .tbl ps) ∧ NoC o := by
  obtain ⟨k, hk, e⟩ := List.getElem_of_mem ha
  have h1 : ad[k]? = some a := by rw [List.getElem?_eq_getElem hk, e]
  have h2 : cs[k]? = some (cs[k]'(by rw [← h.ln]; exact hk)) := List.getElem?_eq_getElem _
  exact (h.ce k a _ h1 h2).is
theorem HoldC.isx (h : HoldC T K ad F H cs) {a : Addr} (ha : a ∈ ad) : ∃ o, H a = some o ∧ NoC o := let ⟨o, e, _, n⟩ := h.is ha; ⟨o, e, n⟩
theorem HoldC.new (h : HoldC T K ad F H cs) {p : Addr} (hp : H p = none) : ¬ Mm ad F p := fun z => by
  rcases z with z | z
  · obtain ⟨o, e⟩ := h.mem z
    rw [e] at hp
    cases hp
  · obtain ⟨o, e⟩ := h.al p z
    rw [e] at hp
    cases hp
theorem Ext.refl : Ext ad F H ad H := ⟨⟨[], by simp, fun _ h => nomatch h⟩, fun _ _ h _ => h, fun _ _ => .inl rfl⟩
theorem Ext.kp (x : Ext ad F H ad1 H1) : Kp (Mm ad F) H (Mm ad1 F) H1 := fun a o h n => by
  refine ⟨x.keep a o h n, fun z => ?_⟩
  obtain ⟨t, e, ht⟩ := x.pre
  rcases z with z | z
  · rw [e] at z
    rcases List.mem_append.mp z with z | z
    · exact n (.inl z)
    · rw [ht a z] at h
      cases h
  · exact n (.inr z)
theorem Ext.trans (h : HoldC T K ad1 F H1 cs) (x : Ext ad F H ad1 H1) (y : Ext ad1 F H1 ad2 H2) : Ext ad F H ad2 H2 := by
  obtain ⟨t, e, ht⟩ := x.pre
  obtain ⟨u, e2, hu⟩ := y.pre
  refine ⟨⟨t ++ u, by rw [e2, e, List.append_assoc], fun a ha => ?_⟩, fun a o q n => ?_, fun a q => (x.frm a q).trans (y.frm a q)⟩
  · rcases List.mem_append.mp ha with z | z
    · exact ht a z
    · have h1 := hu a z
      cases q : H a with
      | none => rfl
      | some o =>
        exfalso
        by_cases n : Mm ad F a
        · rcases n with n | n
          · obtain ⟨o', e'⟩ := h.mem (a := a) (by rw [e]; exact List.mem_append_left _ n)
            rw [e'] at h1
            cases h1
          · obtain ⟨o', e'⟩ := (x.frm a n).ex ⟨o, q⟩
            rw [e'] at h1
            cases h1
        · rw [x.keep a o q n] at h1
          cases h1
  · exact y.keep a o (x.keep a o q n) (x.kp a o q n).2
end
end Dl
namespace Dl
open PySem L2
theorem ix_inj {α : Type} {l : List α} (h : l.Nodup) {i j : Nat} {x : α} (a : l[i]? = some x) (b : l[j]? = some x) : i = j := by
  have hi := (List.getElem?_eq_some_iff.mp a).1
  exact (List.getElem?_inj hi h).mp (a.trans b.symm)
section
variable {T : Tab} {K : PySem.W.Frag} {F : Addr → Prop} {ad ad1 ad2 : List Addr} {H H1 H2 : Hp} {cs cs' : List Cell} {S S1 S2 : Sta} {σ : St} {v w : V} {d : D} {s s1 s2 : Sl}
theorem SlRep.ext (x : Ext ad F H ad1 H1) (h : SlRep T K ad F H v s) : SlRep T K ad1 F H1 v s := by
  cases s with
  | dat d => exact Rep.kp x.kp h
  | cel k =>
    obtain ⟨a, e, hv⟩ := h
    obtain ⟨t, e1, _⟩ := x.pre
    refine ⟨a, ?_, hv⟩
    rw [e1, List.getElem?_append_left (List.getElem?_eq_some_iff.mp e).1]
    exact e
theorem Hold.to (h : Hold T K S ad F σ H) (x : Ext ad F H ad1 H1) (c : HoldC T K ad1 F H1 cs) : Hold T K ⟨S.sl, cs⟩ ad1 F σ H1 :=
  ⟨c, h.sz, fun i s e => let ⟨v, hv, r⟩ := h.sl i s e; ⟨v, hv, r.ext x⟩⟩
theorem HoldC.newo (h : HoldC T K ad F H cs) {p : Addr} {o : HO} (hp : H p = none) : HoldC T K ad F (upd H p o) cs ∧ Ext ad F H ad (upd H p o) := by
  have ne : ∀ a o', H a = some o' → a ≠ p := fun a o' e => ne_of_none e hp
  have x : Ext ad F H ad (L2.upd H p o) := by
    refine ⟨⟨[], by simp, fun _ z => nomatch z⟩, fun a o' e _ => ?_, fun a fa => ?_⟩
    · rw [upd_ne (ne a o' e)]; exact e
    · obtain ⟨o', e⟩ := h.al a fa
      exact .inl (by rw [upd_ne (ne a o' e)])
  refine ⟨⟨h.nd, h.fr, fun a fa => ?_, h.tb.new hp, h.ln, fun k a c h1 h2 => ?_⟩, x⟩
  · obtain ⟨o', e⟩ := h.al a fa
    exact ⟨o', by rw [upd_ne (ne a o' e)]; exact e⟩
  · have q := h.ce k a c h1 h2
    obtain ⟨o', e⟩ := q.some
    exact q.kp x.kp (upd_ne (ne a o' e))
theorem HoldC.cell (h : HoldC T K ad F H cs) {p : Addr} {o : HO} {c : Cell} (hp : H p = none) (hc : CellAt T K (Mm (ad ++ [p]) F) (upd H p o) p c) :
    HoldC T K (ad ++ [p]) F (upd H p o) (cs ++ [c]) ∧ Ext ad F H (ad ++ [p]) (upd H p o) := by
  have ne : ∀ a o', H a = some o' → a ≠ p := fun a o' e => ne_of_none e hp
  have x : Ext ad F H (ad ++ [p]) (L2.upd H p o) := by
    refine ⟨⟨[p], rfl, fun a z => ?_⟩, fun a o' e _ => ?_, fun a fa => ?_⟩
    · have := List.mem_singleton.mp z; subst this; exact hp
    · rw [upd_ne (ne a o' e)]; exact e
    · obtain ⟨o', e⟩ := h.al a fa
      exact .inl (by rw [upd_ne (ne a o' e)])
  have np : p ∉ ad := fun z => h.new hp (.inl z)
  refine ⟨⟨?_, fun a ha fa => ?_, fun a fa => ?_, h.tb.new hp, by simp [h.ln], fun k a c' h1 h2 => ?_⟩, x⟩
  · rw [List.nodup_append]
    refine ⟨h.nd, by simp, fun a ha b hb e => ?_⟩
    have := List.mem_singleton.mp hb
    exact np (this ▸ e ▸ ha)
  · rcases List.mem_append.mp ha with z | z
    · exact h.fr a z fa
    · have := List.mem_singleton.mp z; subst this; exact h.new hp (.inr fa)
  · obtain ⟨o', e⟩ := h.al a fa
    exact ⟨o', by rw [upd_ne (ne a o' e)]; exact e⟩
  · by_cases hk : k < ad.length
    · rw [List.getElem?_append_left hk] at h1
      rw [List.getElem?_append_left (by rw [← h.ln]; exact hk)] at h2
      have q := h.ce k a c' h1 h2
      obtain ⟨o', e⟩ := q.some
      exact q.kp x.kp (upd_ne (ne a o' e))
    · have hk' : k = ad.length := by
        have := (List.getElem?_eq_some_iff.mp h1).1
        simp at this
        omega
      subst hk'
      rw [List.getElem?_append_right (Nat.le_refl _)] at h1
      rw [h.ln, List.getElem?_append_right (Nat.le_refl _)] at h2
      simp at h1 h2
      subst h1 h2
      exact hc
theorem HoldC.setc (h : HoldC T K ad F H cs) {k : Nat} {a : Addr} {o : HO} {c : Cell} (ha : ad[k]? = some a) (hc : CellAt T K (Mm ad F) (upd H a o) a c) : HoldC T K ad F (upd H a o) (cs.set k c) ∧ Ext ad F H ad (upd H a o) := by
  have hm : a ∈ ad := List.mem_of_getElem? ha
  have nb : ∀ b, ¬ Mm ad F b → b ≠ a := fun b n z => n (.inl (by rw [z]; exact hm))
  have nf : ∀ b, F b → b ≠ a := fun b fb z => h.fr a hm (by rw [← z]; exact fb)
  have x : Ext ad F H ad (L2.upd H a o) := by
    refine ⟨⟨[], by simp, fun _ z => nomatch z⟩, fun b o' e n => ?_, fun b fb => ?_⟩
    · rw [upd_ne (nb b n)]; exact e
    · exact .inl (by rw [upd_ne (nf b fb)])
  obtain ⟨o0, e0, n1, n2⟩ := h.is hm
  have n3 : NoC o := by
    obtain ⟨o', e', _, y⟩ := hc.is
    rw [upd_same] at e'
    cases e'
    exact y
  refine ⟨⟨h.nd, h.fr, fun b fb => ?_, h.tb.upd e0 n1 n2 n3, by simp [h.ln], fun j b c' h1 h2 => ?_⟩, x⟩
  · obtain ⟨o', e⟩ := h.al b fb
    exact ⟨o', by rw [upd_ne (nf b fb)]; exact e⟩
  · by_cases hj : k = j
    · subst hj
      have hlt : k < cs.length := by rw [← h.ln]; exact (List.getElem?_eq_some_iff.mp ha).1
      rw [List.getElem?_set_self hlt] at h2
      rw [ha] at h1
      cases h1; cases h2
      exact hc
    · rw [List.getElem?_set_ne hj] at h2
      have hb : b ≠ a := fun z => by
        subst z
        obtain ⟨l1, e1⟩ := List.getElem?_eq_some_iff.mp ha
        obtain ⟨l2, e2⟩ := List.getElem?_eq_some_iff.mp h1
        exact hj (ix_inj h.nd ha h1)
      exact (h.ce j b c' h1 h2).kp x.kp (upd_ne hb)
theorem HoldC.take (h : HoldC T K ad F H cs) (n : Nat) : HoldC T K (ad.take n) F H (cs.take n) := by
  have sub : ∀ a, Mm (ad.take n) F a → Mm ad F a := fun a z => z.elim (fun z => .inl (List.mem_of_mem_take z)) .inr
  have kp : Kp (Mm ad F) H (Mm (ad.take n) F) H := fun a o e z => ⟨e, fun y => z (sub a y)⟩
  refine ⟨h.nd.sublist (List.take_sublist _ _), fun a ha => h.fr a (List.mem_of_mem_take ha), h.al, h.tb, by simp [h.ln], fun k a c h1 h2 => ?_⟩
  have k1 : ad[k]? = some a := by
    rw [List.getElem?_take] at h1
    split at h1
    · exact h1
    · cases h1
  have k2 : cs[k]? = some c := by
    rw [List.getElem?_take] at h2
    split at h2
    · exact h2
    · cases h2
  exact (h.ce k a c k1 k2).kp kp rfl
end
def tD (T : Tab) (K : PySem.W.Frag) (S : Sta) (s : Sl) (S' : Sta) : TE := fun σ H Q => ∃ ad F, Hold T K S ad F σ H ∧
  ∀ v H' ad', Ext ad F H ad' H' → Hold T K S' ad' F σ H' → SlRep T K ad' F H' v s → Q v H'
def DE (X : Cx) (T : Tab) (S : Sta) (e : Expr) (s : Sl) (S' : Sta) : Prop := PE X e (tD T X.K S s S')
theorem weak {X : Cx} {e : Expr} {t t' : TE} (h : PE X e t) (q : ∀ σ H Q, t' σ H Q → t σ H Q) : PE X e t' := ⟨fun pins s σ H Q I z => h.run pins s σ H Q I (q σ H Q z)⟩
theorem weakT {X : Cx} {e : Expr} {t t' : TT} (h : PT X e t) (q : ∀ σ H Q, t' σ H Q → t σ H Q) : PT X e t' := ⟨fun pins s σ H Q I z => h.run pins s σ H Q I (q σ H Q z)⟩
theorem weakA {X : Cx} {e : List Expr} {t t' : TA} (h : PA X e t) (q : ∀ σ H Q, t' σ H Q → t σ H Q) : PA X e t' := ⟨fun pos pins s σ H Q I z => h.run pos pins s σ H Q I (q σ H Q z)⟩
theorem weakS {X : Cx} {e : Stmt} {t t' : TS} (h : PS X e t) (q : ∀ D σ H, t' D σ H → t D σ H) : PS X e t' := ⟨fun pins s σ H D I z => h.run pins s σ H D I (q D σ H z)⟩
theorem weakSs {X : Cx} {e : List Stmt} {t t' : TS} (h : PSs X e t) (q : ∀ D σ H, t' D σ H → t D σ H) : PSs X e t' := ⟨fun pins s σ H D I z => h.run pins s σ H D I (q D σ H z)⟩
section
variable {X : Cx} {T : Tab} {S S1 S2 S3 : Sta} {a b e : Expr} {pos : Pos} {s s1 s2 : Sl} {cs cs' : List Cell} {d d1 d2 : D} {i j : Int}
def R2D (T : Tab) (K : PySem.W.Frag) (r : R2) (s1 s2 : Sl) (cs : List Cell) (s : Sl) (cs' : List Cell) : Prop :=
  ∀ ad F H v w (Q : VK), HoldC T K ad F H cs → SlRep T K ad F H v s1 → SlRep T K ad F H w s2 → (∀ z H' ad', Ext ad F H ad' H' → HoldC T K ad' F H' cs' → SlRep T K ad' F H' z s → Q z H') → r v w H Q
theorem de_name (i : Nat) {x : Str} (hs : S.sl[i]? = some (some s)) (hN : X.N[i]? = some x := by rfl) (hv : Vis X.env.scope x := by first | exact Or.inl rfl | exact Or.inr (Or.inl rfl) | exact Or.inr (Or.inr rfl)) (hd : (x == ("__debug__" : Str)) = false := by decide)
    (hcd : (x == ("__classdict__" : Str)) = false := by decide) : DE X T S (.Name x pos) s S :=
  weak (pe_var hN hv hd hcd) fun σ H Q ⟨ad, F, h, q⟩ => let ⟨v, e, r⟩ := h.sl i s hs; ⟨v, e, q v H ad .refl h r⟩
theorem de_c {v : V} (h : PE X e (tC v)) (r : ∀ ad F H, SlRep T X.K ad F H v s) : DE X T S e s S := weak h fun σ H Q ⟨ad, F, h, q⟩ => q v H ad .refl h (r ad F H)
theorem de_int {k : Nat} : DE X T S (.Constant (.int i) k pos) (.dat (.int i)) S := de_c pe_int fun _ _ _ => .int
theorem de_bl {b : Bool} {k : Nat} : DE X T S (.Constant (.bool b) k pos) (.dat (.bl b)) S := de_c pe_bl fun _ _ _ => .bl
theorem de_str {x : Str} {k : Nat} : DE X T S (.Constant (.str x) k pos) (.dat (.str x)) S := de_c pe_str fun _ _ _ => .str
theorem r2_I {K : PySem.W.Frag} {C : Int → Int → Prop} {g : Int → Int → Int} (hc : C i j) : R2D T K (rI C fun i j => .int (g i j)) (.dat (.int i)) (.dat (.int j)) cs (.dat (.int (g i j))) cs := fun ad F H v w Q c r1 r2 q => by
  cases r1; cases r2
  exact ⟨i, j, rfl, rfl, hc, q _ H ad .refl c .int⟩
theorem r2_I0 {K : PySem.W.Frag} {g : Int → Int → Int} : R2D T K (rI0 fun i j => .int (g i j)) (.dat (.int i)) (.dat (.int j)) cs (.dat (.int (g i j))) cs := fun ad F H v w Q c r1 r2 q => by
  cases r1; cases r2
  exact ⟨i, j, rfl, rfl, q _ H ad .refl c .int⟩
theorem r2_B0 {K : PySem.W.Frag} {g : Int → Int → Bool} : R2D T K (rI0 fun i j => .bl (g i j)) (.dat (.int i)) (.dat (.int j)) cs (.dat (.bl (g i j))) cs := fun ad F H v w Q c r1 r2 q => by
  cases r1; cases r2
  exact ⟨i, j, rfl, rfl, q _ H ad .refl c .bl⟩
theorem reps_at {K : PySem.W.Frag} {M : Addr → Prop} {H : Hp} {vs : List V} {ds : List D} (h : Reps T K M H vs ds) (e : atI ds i = some d) : ∃ v, atI vs i = some v ∧ Rep T K M H v d := by
  unfold atI at e ⊢
  rw [h.length]
  cases q : ixN ds.length i with
  | none => rw [q] at e; cases e
  | some j =>
    rw [q] at e
    obtain ⟨v, h1, h2⟩ := h.get (i := j) e
    exact ⟨v, h1, h2⟩
def SlReps (T : Tab) (K : PySem.W.Frag) (ad : List Addr) (F : Addr → Prop) (H : Hp) : List V → List Sl → Prop
  | [], [] => True
  | v :: vs, s :: ss => SlRep T K ad F H v s ∧ SlReps T K ad F H vs ss
  | _, _ => False
theorem SlReps.ext {K : PySem.W.Frag} {ad ad1 : List Addr} {F : Addr → Prop} {H H1 : Hp} (x : Ext ad F H ad1 H1) : ∀ {vs : List V} {ss : List Sl}, SlReps T K ad F H vs ss → SlReps T K ad1 F H1 vs ss
  | [], [], _ => trivial
  | _ :: _, _ :: _, h => ⟨h.1.ext x, SlReps.ext x h.2⟩
theorem SlReps.len {K : PySem.W.Frag} {ad : List Addr} {F : Addr → Prop} {H : Hp} : ∀ {vs : List V} {ss : List Sl}, SlReps T K ad F H vs ss → vs.length = ss.length
  | [], [], _ => rfl
  | _ :: _, _ :: _, h => by rw [List.length_cons, List.length_cons, SlReps.len h.2]
theorem SlReps.dats {K : PySem.W.Frag} {ad : List Addr} {F : Addr → Prop} {H : Hp} : ∀ {vs : List V} {ds : List D}, SlReps T K ad F H vs (ds.map Sl.dat) → Reps T K (Mm ad F) H vs ds
  | [], [], _ => .nil
  | _ :: _, _ :: _, h => .cons h.1 (SlReps.dats h.2)
theorem SlReps.of {K : PySem.W.Frag} {ad : List Addr} {F : Addr → Prop} {H : Hp} : ∀ {vs : List V} {ds : List D}, Reps T K (Mm ad F) H vs ds → SlReps T K ad F H vs (ds.map Sl.dat)
  | _, _, .nil => trivial
  | _, _, .cons h t => ⟨h, SlReps.of t⟩
def RCD (T : Tab) (K : PySem.W.Frag) (r : List V → Hp → VK → Prop) (ss : List Sl) (cs : List Cell) (s : Sl) (cs' : List Cell) : Prop :=
  ∀ ad F H vs (Q : VK), HoldC T K ad F H cs → SlReps T K ad F H vs ss → (∀ z H' ad', Ext ad F H ad' H' → HoldC T K ad' F H' cs' → SlRep T K ad' F H' z s → Q z H') → r vs H Q
end
end Dl
namespace Dl
open PySem L2
def tDT (T : Tab) (K : PySem.W.Frag) (S : Sta) (b : Bool) (S' : Sta) : TT := fun σ H Q => ∃ ad F, Hold T K S ad F σ H ∧ ∀ H' ad', Ext ad F H ad' H' → Hold T K S' ad' F σ H' → Q b H'
def DT (X : Cx) (T : Tab) (S : Sta) (e : Expr) (b : Bool) (S' : Sta) : Prop := PT X e (tDT T X.K S b S')
def DW (X : Cx) (T : Tab) (S : Sta) (e : Expr) (b : Bool) (S' : Sta) : Prop := PW X e (tDT T X.K S b S')
theorem weakW {X : Cx} {e : Expr} {t t' : TT} (h : PW X e t) (q : ∀ σ H Q, t' σ H Q → t σ H Q) : PW X e t' := ⟨fun whole pins s σ H Q I z => h.run whole pins s σ H Q I (q σ H Q z)⟩
section
variable {X : Cx} {T : Tab} {S S1 S2 S3 : Sta} {a b e c : Expr} {pos : Pos} {s s1 s2 : Sl} {cs cs' : List Cell} {d d1 d2 : D} {i j : Int} {k k1 k2 : Bool} {rest : List Expr}
theorem DW.pt (h : DW X T S e k S1) : DT X T S e k S1 := PW.pt h
end
structure Exc where
  n : Nat
  fs : List D
def ExRep (T : Tab) (K : PySem.W.Frag) (M : Addr → Prop) (H : Hp) (cls : Value) (d : Option Addr) (x : Exc) : Prop :=
  ∃ C fn, T x.n = some (C, fn) ∧ cls = .ref C ∧ ((fn = [] ∧ x.fs = [] ∧ d = none) ∨ ∃ dd vs, d = some dd ∧ ¬ M dd ∧ H dd = some (.xd (fn.zip vs)) ∧ vs.length = fn.length ∧ Reps T K M H vs x.fs)
structure Post where
  nx : Sta → Prop
  rt : Sl → List Cell → Prop
  bk : Sta → Prop := fun _ => False
  ct : Sta → Prop := fun _ => False
  ex : Exc → Sta → Prop := fun _ _ => False
  W : WX := fun _ _ _ _ => False
structure ExtS (n : Nat) (ad : List Addr) (F : Addr → Prop) (H : Hp) (ad' : List Addr) (H' : Hp) : Prop where
  pre : ad'.take n = ad.take n
  sub : ∀ a ∈ ad', a ∈ ad ∨ H a = none
  keep : ∀ a o, H a = some o → ¬ Mm ad F a → H' a = some o
  frm : ∀ a, F a → Fr1 H H' a
theorem ExtS.refl {n : Nat} {ad : List Addr} {F : Addr → Prop} {H : Hp} : ExtS n ad F H ad H := ⟨rfl, fun _ h => .inl h, fun _ _ h _ => h, fun _ _ => .inl rfl⟩
theorem ExtS.kp {n : Nat} {ad ad1 : List Addr} {F : Addr → Prop} {H H1 : Hp} (x : ExtS n ad F H ad1 H1) : Kp (Mm ad F) H (Mm ad1 F) H1 := fun a o h n => by
  refine ⟨x.keep a o h n, fun z => ?_⟩
  rcases z with z | z
  · rcases x.sub a z with q | q
    · exact n (.inl q)
    · rw [q] at h; cases h
  · exact n (.inr z)
theorem ExtS.trans {n : Nat} {ad ad1 ad2 : List Addr} {F : Addr → Prop} {H H1 H2 : Hp} (x : ExtS n ad F H ad1 H1) (y : ExtS n ad1 F H1 ad2 H2) : ExtS n ad F H ad2 H2 := by
  refine ⟨y.pre.trans x.pre, fun a ha => ?_, fun a o h n => y.keep a o (x.keep a o h n) (x.kp a o h n).2, fun a fa => (x.frm a fa).trans (y.frm a fa)⟩
  rcases y.sub a ha with q | q
  · exact x.sub a q
  · cases e : H a with
    | none => exact .inr rfl
    | some o =>
      by_cases m : Mm ad F a
      · rcases m with m | m
        · exact .inl m
        · obtain ⟨o', e'⟩ := (x.frm a m).ex ⟨_, e⟩
          rw [e'] at q; cases q
      · rw [x.keep a o e m] at q; cases q
theorem Ext.s {n : Nat} {ad ad1 : List Addr} {F : Addr → Prop} {H H1 : Hp} (x : Ext ad F H ad1 H1) (hn : n ≤ ad.length) : ExtS n ad F H ad1 H1 := by
  obtain ⟨t, e, ht⟩ := x.pre
  refine ⟨by rw [e, List.take_append_of_le_length hn], fun a ha => ?_, x.keep, x.frm⟩
  rw [e] at ha
  exact (List.mem_append.mp ha).imp id (ht a)
def tDS (T : Tab) (K : PySem.W.Frag) (n : Nat) (S : Sta) (P : Post) : TS := fun D σ H => ∃ ad F, n ≤ ad.length ∧ Hold T K S ad F σ H ∧
  (∀ S' σ' H' ad', ExtS n ad F H ad' H' → n ≤ ad'.length → Hold T K S' ad' F σ' H' → P.nx S' → D.nx σ' H') ∧
  (∀ s cs' v H' ad', ExtS n ad F H ad' H' → n ≤ ad'.length → HoldC T K ad' F H' cs' → SlRep T K ad' F H' v s → P.rt s cs' → D.rt v H') ∧
  (∀ S' σ' H' ad', ExtS n ad F H ad' H' → n ≤ ad'.length → Hold T K S' ad' F σ' H' → P.bk S' → D.bk σ' H') ∧
  (∀ S' σ' H' ad', ExtS n ad F H ad' H' → n ≤ ad'.length → Hold T K S' ad' F σ' H' → P.ct S' → D.ct σ' H') ∧
  (∀ x S' cls d σ' H' ad', ExtS n ad F H ad' H' → n ≤ ad'.length → Hold T K S' ad' F σ' H' → ExRep T K (Mm ad' F) H' cls d x → P.ex x S' → P.W cls d σ' H')
def DS (X : Cx) (T : Tab) (n : Nat) (S : Sta) (st : Stmt) (P : Post) : Prop := PS X st (tDS T X.K n S P)
def DSs (X : Cx) (T : Tab) (n : Nat) (S : Sta) (sts : List Stmt) (P : Post) : Prop := PSs X sts (tDS T X.K n S P)
section
variable {X : Cx} {T : Tab} {n : Nat} {S S1 S2 S3 : Sta} {a b e c : Expr} {pos : Pos} {s s1 s2 : Sl} {cs cs' : List Cell} {d d1 d2 : D} {i j : Int} {k k1 k2 : Bool} {rest body els : List Stmt} {st : Stmt} {P : Post}
theorem dss_nil (h : P.nx S) : DSs X T n S [] P := weakSs pss_nil fun D σ H ⟨ad, F, hn, h0, q, _⟩ => q S σ H ad .refl hn h0 h
theorem dss_cons (h : DS X T n S st { P with nx := fun S' => DSs X T n S' rest P }) : DSs X T n S (st :: rest) P := by
  have h2 : PSs X rest (fun D σ H => ∃ S', DSs X T n S' rest P ∧ tDS T X.K n S' P D σ H) := ⟨fun pins s σ H D I ⟨S', hS, z⟩ => hS.run pins s σ H D I z⟩
  refine weakSs (pss_cons h h2) fun D σ H ⟨ad, F, hn, h0, q1, q2, q3, q4, q5⟩ => ⟨ad, F, hn, h0, fun S' σ' H' ad' x hn' h' hS => ⟨S', hS, ad', F, hn', h', ?_, ?_, ?_, ?_, ?_⟩, q2, q3, q4, q5⟩
  · exact fun S2 σ2 H2 ad2 x2 hn2 h2 p => q1 S2 σ2 H2 ad2 (x.trans x2) hn2 h2 p
  · exact fun s cs2 v H2 ad2 x2 hn2 c2 r p => q2 s cs2 v H2 ad2 (x.trans x2) hn2 c2 r p
  · exact fun S2 σ2 H2 ad2 x2 hn2 h2 p => q3 S2 σ2 H2 ad2 (x.trans x2) hn2 h2 p
  · exact fun S2 σ2 H2 ad2 x2 hn2 h2 p => q4 S2 σ2 H2 ad2 (x.trans x2) hn2 h2 p
  · exact fun z S2 cls d σ2 H2 ad2 x2 hn2 h2 r p => q5 z S2 cls d σ2 H2 ad2 (x.trans x2) hn2 h2 r p
theorem Ext.le {ad ad1 : List Addr} {F : Addr → Prop} {H H1 : Hp} (x : Ext ad F H ad1 H1) (h : n ≤ ad.length) : n ≤ ad1.length := by
  obtain ⟨t, e, _⟩ := x.pre
  rw [e, List.length_append]
  omega
theorem tDS.go {K : PySem.W.Frag} {D : Ends} {σ σ' : St} {H H1 : Hp} {ad ad1 : List Addr} {F : Addr → Prop} (x : ExtS n ad F H ad1 H1) (hn : n ≤ ad1.length) (h : Hold T K S1 ad1 F σ' H1)
    (q1 : ∀ S' σ' H' ad', ExtS n ad F H ad' H' → n ≤ ad'.length → Hold T K S' ad' F σ' H' → P.nx S' → D.nx σ' H')
    (q2 : ∀ s cs' v H' ad', ExtS n ad F H ad' H' → n ≤ ad'.length → HoldC T K ad' F H' cs' → SlRep T K ad' F H' v s → P.rt s cs' → D.rt v H')
    (q3 : ∀ S' σ' H' ad', ExtS n ad F H ad' H' → n ≤ ad'.length → Hold T K S' ad' F σ' H' → P.bk S' → D.bk σ' H')
    (q4 : ∀ S' σ' H' ad', ExtS n ad F H ad' H' → n ≤ ad'.length → Hold T K S' ad' F σ' H' → P.ct S' → D.ct σ' H')
    (q5 : ∀ x S' cls d σ' H' ad', ExtS n ad F H ad' H' → n ≤ ad'.length → Hold T K S' ad' F σ' H' → ExRep T K (Mm ad' F) H' cls d x → P.ex x S' → P.W cls d σ' H') : tDS T K n S1 P D σ' H1 :=
  ⟨ad1, F, hn, h, fun S2 σ2 H2 ad2 x2 hn2 h2 p => q1 S2 σ2 H2 ad2 (x.trans x2) hn2 h2 p, fun s cs2 v H2 ad2 x2 hn2 c2 r p => q2 s cs2 v H2 ad2 (x.trans x2) hn2 c2 r p,
    fun S2 σ2 H2 ad2 x2 hn2 h2 p => q3 S2 σ2 H2 ad2 (x.trans x2) hn2 h2 p, fun S2 σ2 H2 ad2 x2 hn2 h2 p => q4 S2 σ2 H2 ad2 (x.trans x2) hn2 h2 p,
    fun z S2 cls d σ2 H2 ad2 x2 hn2 h2 r p => q5 z S2 cls d σ2 H2 ad2 (x.trans x2) hn2 h2 r p⟩
theorem Hold.set {K : PySem.W.Frag} {ad : List Addr} {F : Addr → Prop} {σ : St} {H : Hp} {v : V} (h : Hold T K S ad F σ H) (r : SlRep T K ad F H v s) (i : Nat) : Hold T K ⟨S.sl.set i (some s), S.cs⟩ ad F (σ.set i (some v)) H := by
  refine ⟨h.hc, by simp [h.sz], fun j u e => ?_⟩
  by_cases hj : i = j
  · subst hj
    have hl : i < S.sl.length := by
      have := (List.getElem?_eq_some_iff.mp e).1
      simpa using this
    rw [List.getElem?_set_self hl] at e
    cases e
    exact ⟨v, by rw [List.getElem?_set_self (by rw [h.sz]; exact hl)], r⟩
  · rw [List.getElem?_set_ne hj] at e
    obtain ⟨w, hw, rw'⟩ := h.sl j u e
    exact ⟨w, by rw [List.getElem?_set_ne hj]; exact hw, rw'⟩
theorem ds_mono {P' : Post} (h : DS X T n S st P) (h1 : ∀ S, P.nx S → P'.nx S) (h2 : ∀ s cs, P.rt s cs → P'.rt s cs) (h3 : ∀ S, P.bk S → P'.bk S) (h4 : ∀ S, P.ct S → P'.ct S) (h5 : ∀ x S, P.ex x S → P'.ex x S) (hW : P'.W = P.W) : DS X T n S st P' :=
  weakS h fun D σ H ⟨ad, F, hn, h0, q1, q2, q3, q4, q5⟩ => ⟨ad, F, hn, h0, fun S2 σ2 H2 ad2 x2 hn2 h2' p => q1 S2 σ2 H2 ad2 x2 hn2 h2' (h1 _ p), fun s cs2 v H2 ad2 x2 hn2 c2 r p => q2 s cs2 v H2 ad2 x2 hn2 c2 r (h2 _ _ p),
    fun S2 σ2 H2 ad2 x2 hn2 h2' p => q3 S2 σ2 H2 ad2 x2 hn2 h2' (h3 _ p), fun S2 σ2 H2 ad2 x2 hn2 h2' p => q4 S2 σ2 H2 ad2 x2 hn2 h2' (h4 _ p),
    fun z S2 cls d σ2 H2 ad2 x2 hn2 h2' r p => by rw [← hW]; exact q5 z S2 cls d σ2 H2 ad2 x2 hn2 h2' r (h5 _ _ p)⟩
theorem dss_mono {sts : List Stmt} {P' : Post} (h : DSs X T n S sts P) (h1 : ∀ S, P.nx S → P'.nx S) (h2 : ∀ s cs, P.rt s cs → P'.rt s cs) (h3 : ∀ S, P.bk S → P'.bk S) (h4 : ∀ S, P.ct S → P'.ct S) (h5 : ∀ x S, P.ex x S → P'.ex x S) (hW : P'.W = P.W) : DSs X T n S sts P' :=
  weakSs h fun D σ H ⟨ad, F, hn, h0, q1, q2, q3, q4, q5⟩ => ⟨ad, F, hn, h0, fun S2 σ2 H2 ad2 x2 hn2 h2' p => q1 S2 σ2 H2 ad2 x2 hn2 h2' (h1 _ p), fun s cs2 v H2 ad2 x2 hn2 c2 r p => q2 s cs2 v H2 ad2 x2 hn2 c2 r (h2 _ _ p),
    fun S2 σ2 H2 ad2 x2 hn2 h2' p => q3 S2 σ2 H2 ad2 x2 hn2 h2' (h3 _ p), fun S2 σ2 H2 ad2 x2 hn2 h2' p => q4 S2 σ2 H2 ad2 x2 hn2 h2' (h4 _ p),
    fun z S2 cls d σ2 H2 ad2 x2 hn2 h2' r p => by rw [← hW]; exact q5 z S2 cls d σ2 H2 ad2 x2 hn2 h2' r (h5 _ _ p)⟩
theorem dss_forget {sts : List Stmt} {sl' : List (Option Sl)} (m : Nat) (h : DSs X T n ⟨sl', S.cs.take m⟩ sts P) (hm : n ≤ m) (hl : sl'.length = S.sl.length) (hs : ∀ (i : Nat) s, sl'[i]? = some (some s) → S.sl[i]? = some (some s) ∧ (∀ k, s = .cel k → k < m)) : DSs X T n S sts P :=
  weakSs h fun D σ H ⟨ad, F, hn, h0, q1, q2, q3, q4, q5⟩ => by
    have kp : Kp (Mm ad F) H (Mm (ad.take m) F) H := fun a o e z => ⟨e, fun y => z (y.imp List.mem_of_mem_take id)⟩
    have x : ExtS n ad F H (ad.take m) H := ⟨by rw [List.take_take, Nat.min_eq_left hm], fun a ha => .inl (List.mem_of_mem_take ha), fun _ _ e _ => e, fun _ _ => .inl rfl⟩
    refine tDS.go (σ := σ) x (by rw [List.length_take]; omega) ⟨h0.hc.take m, by rw [h0.sz, hl], fun i s e => ?_⟩ q1 q2 q3 q4 q5
    obtain ⟨e1, e2⟩ := hs i s e
    obtain ⟨v, hv, r⟩ := h0.sl i s e1
    refine ⟨v, hv, ?_⟩
    cases s with
    | dat d => exact Rep.kp kp r
    | cel k =>
      obtain ⟨a, ha, ev⟩ := r
      exact ⟨a, by rw [List.getElem?_take_of_lt (e2 k rfl)]; exact ha, ev⟩
end
abbrev Ct := List Sl → List Cell → Sl → List Cell → Prop
def spC (T : Tab) (K : PySem.W.Frag) (c : Ct) : Sp := fun vs H Q _ => ∃ ad F args cs s cs', HoldC T K ad F H cs ∧ SlReps T K ad F H vs args ∧ c args cs s cs' ∧
  ∀ v H' ad', ExtS cs.length ad F H ad' H' → cs.length ≤ ad'.length → HoldC T K ad' F H' cs' → SlRep T K ad' F H' v s → Q v H'
theorem start_hold {T : Tab} {K : PySem.W.Frag} {N : List Str} {ad : List Addr} {F : Addr → Prop} {H : Hp} {vs : List V} {args : List Sl} {cs : List Cell} (hc : HoldC T K ad F H cs) (r : SlReps T K ad F H vs args) :
    Hold T K ⟨args.map some ++ List.replicate (N.length - args.length) none, cs⟩ ad F (L2.start N vs) H := by
  have hl := r.len
  refine ⟨hc, by unfold L2.start; simp [hl], fun i s e => ?_⟩
  have hi : i < args.length := by
    by_cases hi : i < args.length
    · exact hi
    · have e : (args.map some ++ List.replicate (N.length - args.length) none)[i]? = some (some s) := e
      rw [List.getElem?_append_right (by simpa using hi), List.getElem?_replicate] at e
      split at e <;> cases e
  have e : (args.map some ++ List.replicate (N.length - args.length) none)[i]? = some (some s) := e
  rw [List.getElem?_append_left (by simpa using hi), List.getElem?_map] at e
  have ea : args[i]? = some s := by
    cases q : args[i]? with
    | none => rw [q] at e; cases e
    | some z => rw [q] at e; cases e; rfl
  have get : ∀ {vs : List V} {args : List Sl} {i : Nat}, SlReps T K ad F H vs args → args[i]? = some s → ∃ v, vs[i]? = some v ∧ SlRep T K ad F H v s := by
    intro vs args
    induction args generalizing vs with
    | nil => intro i _ e; simp at e
    | cons a args ih =>
      intro i r e
      cases vs with
      | nil => exact r.elim
      | cons v vs =>
        cases i with
        | zero => simp at e; subst e; exact ⟨v, rfl, r.1⟩
        | succ i => simpa using ih r.2 (by simpa using e)
  obtain ⟨v, hv, rv⟩ := get r ea
  refine ⟨v, ?_, rv⟩
  unfold L2.start
  rw [List.getElem?_append_left (by simpa using (hl ▸ hi : i < vs.length)), List.getElem?_map, hv]
  rfl
section
variable {T : Tab} {P : Program} {w : World} {K : PySem.W.Frag} {mg : Str → Option Value} {base : Heap}
abbrev st0 (N : List Str) (args : List Sl) (cs : List Cell) : Sta := ⟨args.map some ++ List.replicate (N.length - args.length) none, cs⟩
abbrev endOf (n : Nat) (s : Sl) (cs' : List Cell) : Post := { nx := fun S => s = .dat .non ∧ S.cs.take n = cs', rt := fun r c => r = s ∧ c = cs' }
abbrev cx0 (P : Program) (w : World) (K : PySem.W.Frag) (mg : Str → Option Value) (base : Heap) (N : List Str) (qual : Str) (st : Stmt) (f : Addr) (cdv : Value) (A : Around) (outer : List Env) (s : Shared) (H : Hp) (E : XK) : Cx := (cxOf CX0 P w K mg base N qual (defScope st) f cdv A outer s H E).nox
theorem fn_ok {x qual : Str} {st : Stmt} {f : Addr} {fd : FuncData} {N ps : List Str} {k : Nat} {c : Ct} (F : Fun K x qual st f fd) (Sc : FnScope N ps (defScope st)) (len : ∀ args cs s cs', c args cs s cs' → args.length = ps.length)
    (body : ∀ cdv A outer sh H E, Room k (cx0 P w K mg base N qual st f cdv A outer sh H E).A → ∀ args cs s cs', c args cs s cs' →
      DSs (cx0 P w K mg base N qual st f cdv A outer sh H E) T cs.length (st0 N args cs) (defBody st) (endOf cs.length s cs')) : FnOk P w K mg base CX0 (k + 1) f fd ps (spC T K c) := by
  refine F.ok Sc (fun vs H Q E h => ?_) (fun cdv A outer s H vs Q E hr h => ?_)
  · obtain ⟨ad, F', args, cs, s, cs', _, r, hc, _⟩ := h
    rw [r.len, len _ _ _ _ hc]
  · obtain ⟨ad, F', args, cs, s0, cs', hc, r, h, q⟩ := h
    refine ⟨_, body cdv A outer s H E hr args cs s0 cs' h, ad, F', Nat.le_of_eq hc.ln.symm, start_hold hc r, ?_, ?_, fun _ _ _ _ _ _ _ z => z.elim, fun _ _ _ _ _ _ _ z => z.elim, fun _ _ _ _ _ _ _ _ _ _ _ z => z.elim⟩
    · rintro S' σ' H' ad' x hn h' ⟨rfl, e⟩
      subst e
      refine q .non H' (ad'.take cs.length) ⟨by rw [List.take_take, Nat.min_self]; exact x.pre, fun a ha => x.sub a (List.mem_of_mem_take ha), x.keep, x.frm⟩ (by rw [List.length_take]; omega) (h'.hc.take _) Rep.non
    · rintro s2 cs2 v H' ad' x hn c2 r2 ⟨rfl, rfl⟩
      exact q v H' ad' x hn c2 r2
end
end Dl
namespace Dl
open PySem L2
section
variable {T : Tab} {K : PySem.W.Frag} {F : Addr → Prop} {ad ad' : List Addr} {H H' : Hp} {cs cs' : List Cell} {v : V} {d : D} {s : Sl} {k : Nat} {c0 c1 : Cell} {a : Addr}
theorem frame0 (h : HoldC T K ad F H cs) : HoldC T K [] (Mm ad F) H [] := ⟨List.nodup_nil, fun _ z => (nomatch z), fun a z => z.elim (fun z => h.mem z) (h.al a), h.tb.to (fun _ z => .inr z) fun a z => z.elim (fun y => .inr (h.isx y)) .inl, rfl, fun k a c e => nomatch e⟩
theorem kp_in (h : HoldC T K ad F H cs) : Kp (Mm ad F) H (Mm [] (Mm ad F)) H := fun a o e n => ⟨e, fun z => n (Or.resolve_left z (by simp))⟩
theorem kp_out {ad2 : List Addr} : Kp (Mm ad2 (Mm ad F)) H (Mm ad F) H := fun a o e n => ⟨e, fun z => n (.inr z)⟩
theorem SlReps.kp {M : Addr → Prop} {ad2 : List Addr} {F2 : Addr → Prop} {H2 : Hp} (k : Kp (Mm ad F) H (Mm ad2 F2) H2) : ∀ {vs : List V} {ds : List D}, SlReps T K ad F H vs (ds.map Sl.dat) → SlReps T K ad2 F2 H2 vs (ds.map Sl.dat)
  | [], [], _ => trivial
  | _ :: _, _ :: _, h => ⟨Rep.kp k h.1, SlReps.kp (M := M) k h.2⟩
theorem back0 (h : HoldC T K ad F H cs) {ad2 : List Addr} {n : Nat} (t2 : TbOk T (Mm ad F) H') (x : ExtS n [] (Mm ad F) H ad2 H') : HoldC T K ad F H' cs ∧ Ext ad F H ad H' := by
  have e : Ext ad F H ad H' := ⟨⟨[], by simp, fun _ z => nomatch z⟩, fun a o e n => x.keep a o e fun z => n (Or.resolve_left z (by simp)), fun a fa => x.frm a (.inr fa)⟩
  refine ⟨⟨h.nd, h.fr, fun a fa => ?_, h.tb.back (fun _ z => .inr z) t2, h.ln, fun k a c h1 h2 => ?_⟩, e⟩
  · exact (e.frm a fa).ex (h.al a fa)
  · exact (h.ce k a c h1 h2).kp1 e.kp (x.frm a (.inl (List.mem_of_getElem? h1)))
def Fk (ad : List Addr) (F : Addr → Prop) (a : Addr) : Addr → Prop := fun b => F b ∨ (b ∈ ad ∧ b ≠ a)
theorem mm_k (ha : a ∈ ad) (b : Addr) : Mm [a] (Fk ad F a) b ↔ Mm ad F b := by
  constructor
  · rintro (z | z | z)
    · rw [List.mem_singleton.mp z]; exact .inl ha
    · exact .inr z
    · exact .inl z.1
  · rintro (z | z)
    · by_cases e : b = a
      · exact .inl (by rw [e]; exact List.mem_singleton_self _)
      · exact .inr (.inr ⟨z, e⟩)
    · exact .inr (.inl z)
theorem frame1 (h : HoldC T K ad F H cs) (ha : ad[k]? = some a) (hc : cs[k]? = some c0) : HoldC T K [a] (Fk ad F a) H [c0] := by
  have hm : a ∈ ad := List.mem_of_getElem? ha
  refine ⟨by simp, fun b hb z => ?_, fun b z => ?_, ?_, rfl, fun j b c e1 e2 => ?_⟩
  · have := List.mem_singleton.mp hb
    subst this
    rcases z with z | z
    · exact h.fr _ hm z
    · exact z.2 rfl
  · rcases z with z | z
    · exact h.al b z
    · exact h.mem z.1
  · exact h.tb.to (fun _ z => .inl z) fun b z => z.imp id fun y => h.isx y.1
  · cases j with
    | zero =>
      simp at e1 e2
      subst e1 e2
      refine (h.ce k a _ ha hc).kp (fun b o e n => ⟨e, fun z => n ((mm_k hm b).mp z)⟩) rfl
    | succ j => simp at e1
theorem back1 (h : HoldC T K ad F H cs) (ha : ad[k]? = some a) (x : ExtS 1 [a] (Fk ad F a) H [a] H') (c : HoldC T K [a] (Fk ad F a) H' [c1]) : HoldC T K ad F H' (cs.set k c1) ∧ Ext ad F H ad H' := by
  have hm : a ∈ ad := List.mem_of_getElem? ha
  have e : Ext ad F H ad H' := ⟨⟨[], by simp, fun _ z => nomatch z⟩, fun b o e n => x.keep b o e fun z => n ((mm_k hm b).mp z), fun b fb => x.frm b (.inl fb)⟩
  refine ⟨⟨h.nd, h.fr, fun b fb => ?_, h.tb.back (fun _ z => .inl z) c.tb, by simp [h.ln], fun j b c' h1 h2 => ?_⟩, e⟩
  · exact (e.frm b fb).ex (h.al b fb)
  · by_cases hj : k = j
    · subst hj
      have hlt : k < cs.length := by rw [← h.ln]; exact (List.getElem?_eq_some_iff.mp ha).1
      rw [List.getElem?_set_self hlt] at h2
      rw [ha] at h1
      cases h1; cases h2
      exact (c.ce 0 a _ rfl rfl).kp (fun b o e n => ⟨e, fun z => n ((mm_k hm b).mpr z)⟩) rfl
    · rw [List.getElem?_set_ne hj] at h2
      have hb : b ≠ a := fun z => hj (ix_inj h.nd ha (z ▸ h1))
      exact (h.ce j b c' h1 h2).kp1 e.kp (x.frm b (.inr ⟨List.mem_of_getElem? h1, hb⟩))
end
def low : Sl → Sl
  | .dat d => .dat d
  | .cel _ => .cel 0
def onlyCell (k : Nat) : Sl → Bool
  | .dat _ => true
  | .cel j => j == k
theorem low_reps {T : Tab} {K : PySem.W.Frag} {F : Addr → Prop} {ad : List Addr} {H : Hp} {k : Nat} {a : Addr} (ha : ad[k]? = some a) : ∀ {vs : List V} {ss : List Sl}, ss.all (onlyCell k) = true → SlReps T K ad F H vs ss → SlReps T K [a] (Fk ad F a) H vs (ss.map low)
  | [], [], _, _ => trivial
  | v :: vs, s :: ss, h, r => by
    rw [List.all_cons, Bool.and_eq_true] at h
    refine ⟨?_, low_reps ha h.2 r.2⟩
    have r1 := r.1
    cases s with
    | dat d => exact Rep.kp (fun b o e n => ⟨e, fun z => n ((mm_k (List.mem_of_getElem? ha) b).mp z)⟩) r1
    | cel j =>
      obtain ⟨b, hb, ev⟩ := r1
      have hj : j = k := beq_iff_eq.mp h.1
      subst hj
      rw [ha] at hb
      cases hb
      exact ⟨a, rfl, ev⟩
section
variable {X : Cx} {T : Tab} {S S1 S2 : Sta} {e : Expr} {es : List Expr} {pos p : Pos} {x : Str} {f : Addr} {fd : FuncData} {ps : List Str} {k : Nat} {c : Ct} {ds : List D} {d : D} {ss : List Sl} {c0 c1 : Cell}
theorem spC0 {K : PySem.W.Frag} {ad : List Addr} {F : Addr → Prop} {H : Hp} {cs : List Cell} {vs : List V} {Q : VK} {E : XK} (hc : c (ds.map Sl.dat) [] (.dat d) []) (h : HoldC T K ad F H cs) (r : SlReps T K ad F H vs (ds.map Sl.dat))
    (q : ∀ v H', Ext ad F H ad H' → HoldC T K ad F H' cs → SlRep T K ad F H' v (.dat d) → Q v H') : spC T K c vs H Q E := by
  refine ⟨[], Mm ad F, ds.map Sl.dat, [], .dat d, [], frame0 h, SlReps.kp (M := fun _ => False) (kp_in h) r, hc, fun v H' ad' x hn c2 r2 => ?_⟩
  obtain ⟨c3, x3⟩ := back0 h c2.tb x
  exact q v H' x3 c3 (Rep.kp kp_out r2)
theorem spC1 {K : PySem.W.Frag} {ad : List Addr} {F : Addr → Prop} {H : Hp} {cs : List Cell} {vs : List V} {Q : VK} {E : XK} {j : Nat} (hj : cs[j]? = some c0) (ho : ss.all (onlyCell j) = true) (hc : c (ss.map low) [c0] (.dat d) [c1]) (h : HoldC T K ad F H cs) (r : SlReps T K ad F H vs ss)
    (q : ∀ v H', Ext ad F H ad H' → HoldC T K ad F H' (cs.set j c1) → SlRep T K ad F H' v (.dat d) → Q v H') : spC T K c vs H Q E := by
  have hlt : j < ad.length := by rw [h.ln]; exact (List.getElem?_eq_some_iff.mp hj).1
  have ha : ad[j]? = some ad[j] := List.getElem?_eq_getElem hlt
  refine ⟨[ad[j]], Fk ad F ad[j], ss.map low, [c0], .dat d, [c1], frame1 h ha hj, low_reps ha ho r, hc, fun v H' ad' x hn c2 r2 => ?_⟩
  have e : ad' = [ad[j]] := by
    have h1 : ad'.length = 1 := c2.ln
    have h2 : ad'.take 1 = [ad[j]] := x.pre
    rw [List.take_of_length_le (by omega)] at h2
    exact h2
  subst e
  obtain ⟨c3, x3⟩ := back1 h ha x c2
  exact q v H' x3 c3 (Rep.kp (fun b o e n => ⟨e, fun z => n ((mm_k (List.mem_of_getElem? ha) b).mpr z)⟩) r2)
theorem spCN {K : PySem.W.Frag} {ad : List Addr} {F : Addr → Prop} {H : Hp} {cs : List Cell} {vs : List V} {Q : VK} {E : XK} (hc : c (ds.map Sl.dat) [] (.cel 0) [c0]) (h : HoldC T K ad F H cs) (r : SlReps T K ad F H vs (ds.map Sl.dat))
    (q : ∀ v H' a, Ext ad F H (ad ++ [a]) H' → HoldC T K (ad ++ [a]) F H' (cs ++ [c0]) → v = .ref a → Q v H') : spC T K c vs H Q E := by
  refine ⟨[], Mm ad F, ds.map Sl.dat, [], .cel 0, [c0], frame0 h, SlReps.kp (M := fun _ => False) (kp_in h) r, hc, fun v H' ad' x hn c2 r2 => ?_⟩
  obtain ⟨c3, x3⟩ := back0 h c2.tb x
  obtain ⟨a, ha, rfl⟩ := r2
  have e : ad' = [a] := by
    have h1 : ad'.length = 1 := c2.ln
    match ad', h1, ha with
    | [b], _, ha => simpa using ha
  subst e
  have na : H a = none := (x.sub a (List.mem_singleton_self _)).elim (fun z => absurd z (by simp)) id
  have nm : ¬ Mm ad F a := c2.fr a (List.mem_singleton_self _)
  have x4 : Ext ad F H (ad ++ [a]) H' := ⟨⟨[a], rfl, fun b hb => by rw [List.mem_singleton.mp hb]; exact na⟩, x3.keep, x3.frm⟩
  have kp2 : Kp (Mm ad F) H' (Mm (ad ++ [a]) F) H' → True := fun _ => trivial
  refine q _ H' a x4 ⟨?_, fun b hb fb => ?_, c3.al, c3.tb, by simp [h.ln], fun j b c' h1 h2 => ?_⟩ rfl
  · rw [List.nodup_append]
    refine ⟨h.nd, by simp, fun b hb b' hb' e => ?_⟩
    rw [List.mem_singleton.mp hb'] at e
    exact nm (.inl (e ▸ hb))
  · rcases List.mem_append.mp hb with z | z
    · exact h.fr b z fb
    · rw [List.mem_singleton.mp z] at fb; exact nm (.inr fb)
  · by_cases hj : j < ad.length
    · rw [List.getElem?_append_left hj] at h1
      rw [List.getElem?_append_left (by rw [← h.ln]; exact hj)] at h2
      exact (h.ce j b c' h1 h2).kp1 x4.kp (x.frm b (.inl (List.mem_of_getElem? h1)))
    · have hj' : j = ad.length := by
        have := (List.getElem?_eq_some_iff.mp h1).1
        simp at this
        omega
      subst hj'
      rw [List.getElem?_append_right (Nat.le_refl _)] at h1
      rw [h.ln, List.getElem?_append_right (Nat.le_refl _)] at h2
      simp at h1 h2
      subst h1 h2
      refine (c2.ce 0 a _ rfl rfl).kp (fun b o e n => ⟨e, fun z => n ?_⟩) rfl
      rcases z with z | z
      · rcases List.mem_append.mp z with z | z
        · exact .inr (.inl z)
        · exact .inl z
      · exact .inr (.inr z)
variable (G : FnOk X.prog X.w X.K X.mg X.base CX0 k f fd ps (spC T X.K c)) (hr : Room k X.A) (hm : X.mg x = some (.ref f)) (hk : PySem.W.keepIn X.K (.ref f) = true) (hb : Binds X.K fd ps [])
include G hr hm hk hb
end
inductive Pat where
  | nm (i : Nat)
  | tp (ps : List Pat)
mutual
/-- the slots behind target = data -/
def asgP : Pat → D → List (Option Sl) → Option (List (Option Sl))
  | .nm i, d, sl => some (sl.set i (some (.dat d)))
  | .tp ps, .tup ds, sl => asgPs ps ds sl
  | _, _, _ => none
def asgPs : List Pat → List D → List (Option Sl) → Option (List (Option Sl))
  | [], [], sl => some sl
  | p :: ps, d :: ds, sl => (asgP p d sl).bind fun sl' => asgPs ps ds sl'
  | _, _, _ => none
end
mutual
def slotsP : Pat → List Nat
  | .nm i => [i]
  | .tp ps => slotsPs ps
def slotsPs : List Pat → List Nat
  | [] => []
  | p :: ps => slotsP p ++ slotsPs ps
end
def AsIs (ns : List Nat) (σ σ' : St) : Prop := σ'.length = σ.length ∧ ∀ j : Nat, j ∉ ns → σ'[j]? = σ[j]?
def tDG (T : Tab) (K : PySem.W.Frag) (p : Pat) : TG := fun v σ H Q => ∃ ad F S d sl', Hold T K S ad F σ H ∧ Rep T K (Mm ad F) H v d ∧ asgP p d S.sl = some sl' ∧ ∀ σ', AsIs (slotsP p) σ σ' → Hold T K ⟨sl', S.cs⟩ ad F σ' H → Q σ' H
def tDGs (T : Tab) (K : PySem.W.Frag) (ps : List Pat) : TGs := fun vs σ H Q => ∃ ad F S ds sl', Hold T K S ad F σ H ∧ Reps T K (Mm ad F) H vs ds ∧ asgPs ps ds S.sl = some sl' ∧ ∀ σ', AsIs (slotsPs ps) σ σ' → Hold T K ⟨sl', S.cs⟩ ad F σ' H → Q σ' H
def DG (X : Cx) (T : Tab) (tg : Expr) (p : Pat) : Prop := PG X tg (tDG T X.K p)
def DGs (X : Cx) (T : Tab) (tgs : List Expr) (ps : List Pat) : Prop := PGs X tgs (tDGs T X.K ps)
theorem weakG {X : Cx} {tg : Expr} {t t' : TG} (h : PG X tg t) (q : ∀ v σ H Q, t' v σ H Q → t v σ H Q) : PG X tg t' := ⟨fun pins s σ H v u Q I r z => h.run pins s σ H v u Q I r (q v σ H Q z)⟩
theorem weakGs {X : Cx} {tg : List Expr} {t t' : TGs} (h : PGs X tg t) (q : ∀ v σ H Q, t' v σ H Q → t v σ H Q) : PGs X tg t' := ⟨fun pins s σ H v u Q I r z => h.run pins s σ H v u Q I r (q v σ H Q z)⟩
section
variable {X : Cx} {T : Tab} {pos : Pos} {e : Expr} {es : List Expr} {p : Pat} {ps : List Pat}
theorem dg_name (i : Nat) {x : Str} (hN : X.N.Nodup) (hi : X.N[i]? = some x := by rfl) (hx : Loc X.env.scope x := by first | exact Or.inl rfl | exact Or.inr rfl) (hf : X.fn x = true ∨ X.env.scope.names.lookup x = some .local := by first | exact .inl rfl | exact .inr rfl) : DG X T (.Name x pos) (.nm i) :=
  weakG (pg_name hN hi hx hf) fun v σ H Q ⟨ad, F, S, d, sl', h, r, e, q⟩ => by
    have e' : S.sl.set i (some (.dat d)) = sl' := Option.some.inj e
    subst e'
    exact q _ ⟨by simp, fun j hj => List.getElem?_set_ne (fun z => hj (by rw [← z]; exact List.mem_singleton_self _))⟩ (h.set (s := .dat d) r i)
theorem dgs_nil : DGs X T [] [] := weakGs pgs_nil fun vs σ H Q ⟨ad, F, S, ds, sl', h, r, e, q⟩ => by
  cases ds with
  | nil =>
    cases r
    have e' : S.sl = sl' := Option.some.inj e
    subst e'
    exact ⟨rfl, q σ ⟨rfl, fun _ _ => rfl⟩ h⟩
  | cons d ds => exact nomatch e
theorem dgs_cons (h1 : DG X T e p) (h2 : DGs X T es ps) (hs : (assignEach (e :: es) X.env).map (·.2) = assign e X.env :: (assignEach es X.env).map (·.2) := by rfl) : DGs X T (e :: es) (p :: ps) :=
  weakGs (pgs_cons h1 h2 hs) fun vs σ H Q ⟨ad, F, S, ds, sl', h, r, e, q⟩ => by
    cases ds with
    | nil => exact nomatch e
    | cons d ds =>
      cases r with
      | cons r1 r2 =>
        have e : (asgP p d S.sl).bind (fun sl' => asgPs ps ds sl') = some sl' := e
        cases e1 : asgP p d S.sl with
        | none => rw [e1] at e; cases e
        | some sl1 =>
          rw [e1] at e
          refine ⟨_, _, rfl, ad, F, S, d, sl1, h, r1, e1, fun σ1 a1 h1 => ⟨ad, F, _, ds, sl', h1, r2, e, fun σ2 a2 h2 => q σ2 ⟨a2.1.trans a1.1, fun j hj => ?_⟩ h2⟩⟩
          have hj' : j ∉ slotsP p ++ slotsPs ps := hj
          rw [a2.2 j fun z => hj' (List.mem_append_right _ z), a1.2 j fun z => hj' (List.mem_append_left _ z)]
theorem asgPs_len : ∀ {ps : List Pat} {ds : List D} {sl sl' : List (Option Sl)}, asgPs ps ds sl = some sl' → ds.length = ps.length
  | [], [], _, _, _ => rfl
  | p :: ps, d :: ds, sl, sl', e => by
    have e : (asgP p d sl).bind (fun sl' => asgPs ps ds sl') = some sl' := e
    cases e1 : asgP p d sl with
    | none => rw [e1] at e; cases e
    | some sl1 =>
      rw [e1] at e
      rw [List.length_cons, List.length_cons, asgPs_len (ps := ps) (ds := ds) e]
  | [], _ :: _, _, _, e => nomatch e
  | _ :: _, [], _, _, e => nomatch e
theorem dg_tup {k : Nat} {n : Nat} (hc : X.calm = true) (h : DGs X T es ps) (hn : (assignEach es X.env).length = n := by rfl) (hp : ps.length = n := by rfl) (hst : (assignEach es X.env).findIdx? (·.1) = none := by rfl) : DG X T (.Tuple es k pos) (.tp ps) :=
  weakG (pg_tup (n := n) hc h hn hst) fun v σ H Q ⟨ad, F, S, d, sl', h, r, e, q⟩ => by
    cases r with
    | tup h1 h2 => exact ⟨_, _, rfl, h1.sq, by rw [h2.length, ← hp]; exact asgPs_len e, ad, F, S, _, sl', h, h2, e, q⟩
    | _ => exact nomatch e
end
def ItOk (T : Tab) (K : PySem.W.Frag) (F : Addr → Prop) (J : It) (items : List D) (ad1 : List Addr) (H1 : Hp) : Prop :=
  ∀ (F2 : Addr → Prop) ad2 H2 cs2, HoldC T K ad2 F2 H2 cs2 → Kp (Mm ad1 F) H1 (Mm ad2 F2) H2 → ∀ i : Nat,
    (∀ d, items[i]? = some d → J.go i H2 ∧ ∀ v H3, J.yld i H2 v H3 → (∀ a o, H2 a = some o → H3 a = some o) ∧ Rep T K (Mm ad2 F2) H3 v d) ∧ (i = items.length → J.stop i H2)
theorem weakI {X : Cx} {tg it : Expr} {t t' : TI} (h : PI X tg it t) (q : ∀ σ H R, t' σ H R → t σ H R) : PI X tg it t' := ⟨fun pins s σ H R I z => h.run pins s σ H R I (q σ H R z)⟩
section
variable {X : Cx} {T : Tab} {S S1 S2 : Sta} {e tg : Expr} {pos p : Pos} {ds : List D} {i j : Int}
def rangeD (lo : Int) (n : Nat) : List D := (List.range n).map fun i : Nat => D.int (lo + (i : Int))
theorem rangeD_get {lo : Int} {n i : Nat} {d : D} (h : (rangeD lo n)[i]? = some d) : i < n ∧ d = .int (lo + (i : Int)) := by
  unfold rangeD at h
  rw [List.getElem?_map] at h
  by_cases hi : i < n
  · rw [List.getElem?_range hi] at h
    exact ⟨hi, (Option.some.inj h).symm⟩
  · rw [List.getElem?_eq_none (by simpa using hi)] at h
    cases h
theorem itr_ok {K : PySem.W.Frag} {F : Addr → Prop} {lo : Int} {n : Nat} {ad1 : List Addr} {H1 : Hp} : ItOk T K F (Itr lo n) (rangeD lo n) ad1 H1 := fun F2 ad2 H2 cs2 c2 kp i => by
  refine ⟨fun d hd => ?_, fun hi => ?_⟩
  · obtain ⟨hi, rfl⟩ := rangeD_get hd
    refine ⟨hi, fun v H3 y => ?_⟩
    obtain ⟨rfl, rfl⟩ := y
    exact ⟨fun _ _ z => z, .int⟩
  · unfold rangeD at hi
    simp at hi
    subst hi
    exact Nat.le_refl _
end
def DFor (X : Cx) (T : Tab) (n : Nat) (p : Pat) (body : List Stmt) : List D → Sta → Post → Prop
  | [], S, P => P.nx S
  | d :: ds, S, P => ∃ sl', asgP p d S.sl = some sl' ∧ DSs X T n ⟨sl', S.cs⟩ body { P with nx := fun S' => DFor X T n p body ds S' P, ct := fun S' => DFor X T n p body ds S' P, bk := P.nx }
theorem grow {T : Tab} {K : PySem.W.Frag} {F : Addr → Prop} {ad : List Addr} {H H' : Hp} {cs : List Cell} (h : HoldC T K ad F H cs) (g : ∀ a o, H a = some o → H' a = some o) : HoldC T K ad F H' cs ∧ Ext ad F H ad H' := by
  have x : Ext ad F H ad H' := ⟨⟨[], by simp, fun _ z => nomatch z⟩, fun a o e _ => g a o e, fun a fa => by obtain ⟨o, e⟩ := h.al a fa; exact .inl (by rw [g a o e, e])⟩
  refine ⟨⟨h.nd, h.fr, fun a fa => (x.frm a fa).ex (h.al a fa), h.tb.ext g, h.ln, fun k a c h1 h2 => ?_⟩, x⟩
  have q := h.ce k a c h1 h2
  obtain ⟨o, e⟩ := q.some
  exact q.kp x.kp (by rw [g a o e, e])
section
variable {X : Cx} {T : Tab} {n : Nat} {S S1 S2 : Sta} {it tg : Expr} {pos : Pos} {items : List D} {body : List Stmt} {p : Pat} {P : Post}
end
end Dl
namespace Dl
open PySem L2
def BinD (X : Cx) (T : Tab) (op : Operator) (s1 s2 : Sl) (cs : List Cell) (s : Sl) (cs' : List Cell) : Prop := ∃ r, OpR X (binaryOp op) r ∧ R2D T X.K r s1 s2 cs s cs'
def CmpD (X : Cx) (T : Tab) (op : CmpOp) (s1 s2 : Sl) (cs : List Cell) (s : Sl) (cs' : List Cell) : Prop := ∃ r, OpR X (compareOp op) r ∧ R2D T X.K r s1 s2 cs s cs'
def IxD (X : Cx) (T : Tab) (s1 s2 : Sl) (cs : List Cell) (s : Sl) (cs' : List Cell) : Prop := ∃ r, IxR X r ∧ R2D T X.K r s1 s2 cs s cs'
def CalB (X : Cx) (T : Tab) (x : Str) (ss : List Sl) (cs : List Cell) (s : Sl) (cs' : List Cell) : Prop := ∃ u r, bootBuiltins x = some u ∧ ((∃ id, u = .builtin id) ∨ ∃ id, u = .type id) ∧ CallR X u r ∧ RCD T X.K r ss cs s cs'
section
variable {X : Cx} {T : Tab} {S S1 S2 S3 : Sta} {a b e : Expr} {pos p : Pos} {s s1 s2 : Sl} {cs cs' : List Cell} {d d1 d2 : D} {i j : Int} {ds es : List D}
theorem bin_add : BinD X T .Add (.dat (.int i)) (.dat (.int j)) cs (.dat (.int (i + j))) cs := ⟨_, op_add, r2_I0⟩
theorem bin_sub : BinD X T .Sub (.dat (.int i)) (.dat (.int j)) cs (.dat (.int (i - j))) cs := ⟨_, op_sub, r2_I0⟩
theorem op_mulI : OpR X (binaryOp .Mult) (rI IntMulOk fun i j => .int (i * j)) := opI fun _ _ _ _ _ _ _ hc q => PyProof.Rows.mul_int q hc
theorem bin_mul (h : IntMulOk i j) : BinD X T .Mult (.dat (.int i)) (.dat (.int j)) cs (.dat (.int (i * j))) cs := ⟨_, op_mulI, r2_I h⟩
theorem bin_fdiv (h : CDivW i j) : BinD X T .FloorDiv (.dat (.int i)) (.dat (.int j)) cs (.dat (.int (i / j))) cs := ⟨_, op_fdivW, r2_I h⟩
theorem bin_mod (h : 0 < j) : BinD X T .Mod (.dat (.int i)) (.dat (.int j)) cs (.dat (.int (i % j))) cs := ⟨_, op_mod, r2_I (C := fun _ j => 0 < j) h⟩
theorem bin_pow (h : CPow i j) : BinD X T .Pow (.dat (.int i)) (.dat (.int j)) cs (.dat (.int (i ^ j.toNat))) cs := ⟨_, op_pow, r2_I h⟩
theorem cmp_lt : CmpD X T .Lt (.dat (.int i)) (.dat (.int j)) cs (.dat (.bl (decide (i < j)))) cs := ⟨_, op_lt, r2_B0⟩
theorem cmp_le : CmpD X T .LtE (.dat (.int i)) (.dat (.int j)) cs (.dat (.bl (decide (i ≤ j)))) cs := ⟨_, op_le, r2_B0⟩
theorem cmp_gt : CmpD X T .Gt (.dat (.int i)) (.dat (.int j)) cs (.dat (.bl (decide (j < i)))) cs := ⟨_, op_gt, r2_B0⟩
theorem cmp_ge : CmpD X T .GtE (.dat (.int i)) (.dat (.int j)) cs (.dat (.bl (decide (j ≤ i)))) cs := ⟨_, op_ge, r2_B0⟩
theorem dec_V (i j : Int) : decide (V.int i = V.int j) = decide (i = j) := by
  by_cases h : i = j
  · subst h; simp
  · rw [decide_eq_false h, decide_eq_false fun z => h (V.int.inj z)]
theorem cmp_eqI : CmpD X T .Eq (.dat (.int i)) (.dat (.int j)) cs (.dat (.bl (decide (i = j)))) cs := ⟨_, op_eq, fun ad F H v w Q c r1 r2 q => by
  cases r1; cases r2
  exact ⟨rfl, by rw [dec_V]; exact q _ H ad .refl c Rep.bl⟩⟩
theorem cmp_neI : CmpD X T .NotEq (.dat (.int i)) (.dat (.int j)) cs (.dat (.bl (!decide (i = j)))) cs := ⟨_, op_ne, fun ad F H v w Q c r1 r2 q => by
  cases r1; cases r2
  exact ⟨rfl, by rw [dec_V]; exact q _ H ad .refl c Rep.bl⟩⟩
theorem dec_S (i j : Str) : decide (V.str i = V.str j) = decide (i = j) := by
  by_cases h : i = j
  · subst h; simp
  · rw [decide_eq_false h, decide_eq_false fun z => h (V.str.inj z)]
theorem cmp_eqS {x y : Str} : CmpD X T .Eq (.dat (.str x)) (.dat (.str y)) cs (.dat (.bl (decide (x = y)))) cs := ⟨_, op_eq, fun ad F H v w Q c r1 r2 q => by
  cases r1; cases r2
  exact ⟨rfl, by rw [dec_S]; exact q _ H ad .refl c Rep.bl⟩⟩
theorem cmp_neS {x y : Str} : CmpD X T .NotEq (.dat (.str x)) (.dat (.str y)) cs (.dat (.bl (!decide (x = y)))) cs := ⟨_, op_ne, fun ad F H v w Q c r1 r2 q => by
  cases r1; cases r2
  exact ⟨rfl, by rw [dec_S]; exact q _ H ad .refl c Rep.bl⟩⟩
theorem dec_B (i j : Bool) : decide (V.bl i = V.bl j) = (i == j) := by cases i <;> cases j <;> decide
theorem cmp_eqB {x y : Bool} : CmpD X T .Eq (.dat (.bl x)) (.dat (.bl y)) cs (.dat (.bl (x == y))) cs := ⟨_, op_eq, fun ad F H v w Q c r1 r2 q => by
  cases r1; cases r2
  exact ⟨rfl, by rw [dec_B]; exact q _ H ad .refl c Rep.bl⟩⟩
theorem cmp_neB {x y : Bool} : CmpD X T .NotEq (.dat (.bl x)) (.dat (.bl y)) cs (.dat (.bl (!(x == y)))) cs := ⟨_, op_ne, fun ad F H v w Q c r1 r2 q => by
  cases r1; cases r2
  exact ⟨rfl, by rw [dec_B]; exact q _ H ad .refl c Rep.bl⟩⟩
theorem ix_L (hi : atI ds i = some d) : IxD X T (.dat (.lst ds)) (.dat (.int i)) cs (.dat d) cs := ⟨_, ix_list, fun ad F H v w Q c r1 r2 q => by
  cases r2
  cases r1 with
  | lst n e r =>
    obtain ⟨u, h1, h2⟩ := reps_at r hi
    exact ⟨_, _, i, u, rfl, rfl, SqL.of e, h1, q u H ad .refl c h2⟩⟩
theorem ix_R (hi : atI ds i = some d) : IxD X T (.dat (.scr ds)) (.dat (.int i)) cs (.dat d) cs := ⟨_, ix_list, fun ad F H v w Q c r1 r2 q => by
  cases r2
  cases r1 with
  | scr e r =>
    obtain ⟨u, h1, h2⟩ := reps_at r hi
    exact ⟨_, _, i, u, rfl, rfl, e.sq, h1, q u H ad .refl c h2⟩⟩
theorem ix_T (hi : atI ds i = some d) : IxD X T (.dat (.tup ds)) (.dat (.int i)) cs (.dat d) cs := ⟨_, ix_tup, fun ad F H v w Q c r1 r2 q => by
  cases r2
  cases r1 with
  | tup e r =>
    obtain ⟨u, h1, h2⟩ := reps_at r hi
    exact ⟨_, _, i, u, rfl, rfl, e.sq, h1, q u H ad .refl c h2⟩⟩
theorem ix_C {k : Nat} (hk : cs[k]? = some (.lst ds)) (hi : atI ds i = some d) : IxD X T (.cel k) (.dat (.int i)) cs (.dat d) cs := ⟨_, ix_list, fun ad F H v w Q c r1 r2 q => by
  cases r2
  obtain ⟨p, e, rfl⟩ := r1
  obtain ⟨vs, h1, h2⟩ := c.ce k p _ e hk
  obtain ⟨u, h3, h4⟩ := reps_at h2 hi
  exact ⟨_, _, i, u, rfl, rfl, SqL.of h1, h3, q u H ad .refl c h4⟩⟩
theorem ix_S {x : Str} {c : Nat} (hl : x.length ≤ sizeLine) (hi : atI x.cps.toList i = some c) : IxD X T (.dat (.str x)) (.dat (.int i)) cs (.dat (.str ⟨#[c]⟩)) cs := ⟨_, ix_str, fun ad F H v w Q c' r1 r2 q => by
  cases r1; cases r2
  exact ⟨x, i, c, rfl, rfl, hl, hi, q _ H ad .refl c' Rep.str⟩⟩
theorem new_lst {K : PySem.W.Frag} {ad : List Addr} {F : Addr → Prop} {H : Hp} {vs : List V} {Q : VK} (c : HoldC T K ad F H cs) (r : Reps T K (Mm ad F) H vs ds) (q : ∀ z H' ad', Ext ad F H ad' H' → HoldC T K ad' F H' cs → SlRep T K ad' F H' z (.dat (.lst ds)) → Q z H')
    {p : Addr} (hp : H p = none) : Q (.ref p) (upd H p (.lst vs)) := by
  obtain ⟨c2, x2⟩ := c.newo (o := .lst vs) hp
  exact q _ _ ad x2 c2 (Rep.lst (vs := vs) (c.new hp) upd_same (r.kp x2.kp))
theorem new_tup {K : PySem.W.Frag} {ad : List Addr} {F : Addr → Prop} {H : Hp} {vs : List V} {Q : VK} (c : HoldC T K ad F H cs) (r : Reps T K (Mm ad F) H vs ds) (q : ∀ z H' ad', Ext ad F H ad' H' → HoldC T K ad' F H' cs → SlRep T K ad' F H' z (.dat (.tup ds)) → Q z H')
    {p : Addr} (hp : H p = none) : Q (.ref p) (upd H p (.tup vs)) := by
  obtain ⟨c2, x2⟩ := c.newo (o := .tup vs) hp
  exact q _ _ ad x2 c2 (Rep.tup (vs := vs) (.inl ⟨c.new hp, .inl upd_same⟩) (r.kp x2.kp))
theorem new_lstC {K : PySem.W.Frag} {ad : List Addr} {F : Addr → Prop} {H : Hp} {vs : List V} {Q : VK} (c : HoldC T K ad F H cs) (r : Reps T K (Mm ad F) H vs ds) (q : ∀ z H' ad', Ext ad F H ad' H' → HoldC T K ad' F H' (cs ++ [.lst ds]) → SlRep T K ad' F H' z (.cel cs.length) → Q z H')
    {p : Addr} (hp : H p = none) : Q (.ref p) (upd H p (.lst vs)) := by
  have kp : Kp (Mm ad F) H (Mm (ad ++ [p]) F) (upd H p (.lst vs)) := fun a o e n => by
    have np : a ≠ p := ne_of_none e hp
    refine ⟨by rw [upd_ne np]; exact e, fun z => ?_⟩
    rcases z with z | z
    · rcases List.mem_append.mp z with z | z
      · exact n (.inl z)
      · exact np (List.mem_singleton.mp z)
    · exact n (.inr z)
  obtain ⟨c2, x2⟩ := c.cell (o := .lst vs) (c := .lst ds) hp ⟨vs, upd_same, r.kp kp⟩
  refine q _ _ _ x2 c2 ⟨p, ?_, rfl⟩
  rw [← c.ln, List.getElem?_append_right (Nat.le_refl _)]
  simp
def isLst (cs : List Cell) (ds : List D) : Sl → Prop
  | .dat d => d = .lst ds
  | .cel k => cs[k]? = some (.lst ds)
theorem rd_lst {K : PySem.W.Frag} {ad : List Addr} {F : Addr → Prop} {H : Hp} {v : V} (h : isLst cs ds s) (c : HoldC T K ad F H cs) (r : SlRep T K ad F H v s) : ∃ a vs, v = .ref a ∧ H a = some (.lst vs) ∧ Reps T K (Mm ad F) H vs ds := by
  cases s with
  | dat d =>
    obtain rfl : d = .lst ds := h
    cases r with
    | lst n e r => exact ⟨_, _, rfl, e, r⟩
  | cel k =>
    obtain ⟨a, e, rfl⟩ := r
    obtain ⟨vs, h1, h2⟩ := c.ce k a _ e h
    exact ⟨a, vs, rfl, h1, h2⟩
theorem bin_addL (h1 : isLst cs ds s1) (h2 : isLst cs es s2) (hl : ds.length + es.length ≤ sizeLine) : BinD X T .Add s1 s2 cs (.dat (.lst (ds ++ es))) cs := ⟨_, op_cat, fun ad F H v w Q c r1 r2 q => by
  obtain ⟨a, vs, rfl, e1, q1⟩ := rd_lst h1 c r1
  obtain ⟨b, ws, rfl, e2, q2⟩ := rd_lst h2 c r2
  exact ⟨a, b, vs, ws, rfl, rfl, e1, e2, by rw [q1.length, q2.length]; exact hl, fun p hp => new_lst c (q1.append q2) q hp⟩⟩
theorem bin_addT (hl : ds.length + es.length ≤ sizeLine) : BinD X T .Add (.dat (.tup ds)) (.dat (.tup es)) cs (.dat (.tup (ds ++ es))) cs := ⟨_, op_catA, fun ad F H v w Q c r1 r2 q => by
  cases r1 with
  | @tup a vs _ e1 q1 =>
    cases r2 with
    | @tup b ws _ e2 q2 =>
      refine ⟨a, b, vs, ws, rfl, rfl, e1.sq, e2.sq, by rw [q1.length, q2.length]; exact hl, ?_⟩
      refine ⟨fun h => ?_, fun h => ?_, fun h h' p hp => new_tup c (q1.append q2) q hp⟩
      · subst h
        cases q1
        exact q _ H ad .refl c (Rep.tup e2 q2)
      · first
          | (intro h'; subst h'; cases q2; refine q _ H ad .refl c ?_; rw [List.append_nil]; exact Rep.tup e1 q1)
          | (subst h; cases q2; refine q _ H ad .refl c ?_; rw [List.append_nil]; exact Rep.tup e1 q1)⟩
theorem bin_addS {x y : Str} (hl : x.length + y.length ≤ sizeLine) : BinD X T .Add (.dat (.str x)) (.dat (.str y)) cs (.dat (.str (x ++ y))) cs := ⟨_, op_add_str, fun ad F H v w Q c r1 r2 q => by
  cases r1; cases r2
  exact ⟨x, y, rfl, rfl, hl, q _ H ad .refl c Rep.str⟩⟩
theorem reps_rep {K : PySem.W.Frag} {M : Addr → Prop} {H : Hp} {vs : List V} (h : Reps T K M H vs ds) : ∀ n, Reps T K M H (List.replicate n vs).flatten (List.replicate n ds).flatten
  | 0 => .nil
  | n + 1 => by
    rw [List.replicate_succ, List.replicate_succ, List.flatten_cons, List.flatten_cons]
    exact h.append (reps_rep h n)
theorem bin_repL (h1 : isLst cs ds s1) (h2 : -(2 ^ 63) ≤ j) (h3 : j < 2 ^ 63) (hl : ds.length * j.toNat ≤ sizeLine) : BinD X T .Mult s1 (.dat (.int j)) cs (.dat (.lst (List.replicate j.toNat ds).flatten)) cs := ⟨_, op_rep, fun ad F H v w Q c r1 r2 q => by
  cases r2
  obtain ⟨a, vs, rfl, e1, q1⟩ := rd_lst h1 c r1
  refine ⟨a, j, vs, rfl, rfl, e1, h2, h3, by rw [q1.length]; exact hl, fun p hp => ?_⟩
  first
    | exact new_lst c (reps_rep q1 _) q hp
    | (have z := new_lst c (reps_rep q1 j.toNat) q hp; simpa using z)⟩
def cutD (ds : List D) (lo hi : Option Int) : List D := (ds.drop (HT.sIx ds.length 0 lo)).take (HT.sIx ds.length ds.length hi - HT.sIx ds.length 0 lo)
theorem reps_cut {K : PySem.W.Frag} {M : Addr → Prop} {H : Hp} {vs : List V} (h : Reps T K M H vs ds) (lo hi : Option Int) : Reps T K M H (cutV vs lo hi) (cutD ds lo hi) := by
  unfold cutV cutD
  rw [h.length]
  exact (h.drop _).take _
theorem weakO {X : Cx} {e : Option Expr} {t t' : TO} (h : PO X e t) (q : ∀ σ H Q, t' σ H Q → t σ H Q) : PO X e t' := ⟨fun pins s σ H Q I z => h.run pins s σ H Q I (q σ H Q z)⟩
def SlcD (X : Cx) (T : Tab) (s1 : Sl) (lo hi : Option Int) (cs : List Cell) (s : Sl) (cs' : List Cell) : Prop := ∃ r, SlR X r ∧ ∀ ad F H v (Q : VK), HoldC T X.K ad F H cs → SlRep T X.K ad F H v s1 → (∀ z H' ad', Ext ad F H ad' H' → HoldC T X.K ad' F H' cs' → SlRep T X.K ad' F H' z s → Q z H') → r v lo hi H Q
theorem slc_L {lo hi : Option Int} (h1 : isLst cs ds s1) : SlcD X T s1 lo hi cs (.dat (.lst (cutD ds lo hi))) cs := ⟨_, sl_list, fun ad F H v Q c r1 q => by
  obtain ⟨a, vs, rfl, e1, q1⟩ := rd_lst h1 c r1
  exact ⟨a, vs, rfl, SqL.of e1, fun p hp => new_lst c (reps_cut q1 lo hi) q hp⟩⟩
theorem slc_T {lo hi : Option Int} : SlcD X T (.dat (.tup ds)) lo hi cs (.dat (.tup (cutD ds lo hi))) cs := ⟨_, sl_tupA, fun ad F H v Q c r1 q => by
  cases r1 with
  | @tup a vs _ e1 q1 =>
    refine ⟨a, vs, rfl, e1.sq, fun hw => ?_, fun hw p hp => new_tup c (reps_cut q1 lo hi) q hp⟩
    have e : cutD ds lo hi = ds := by
      unfold cutD
      rw [q1.length] at hw
      rw [hw.1, hw.2]
      simp
    rw [e] at q
    exact q _ H ad .refl c (Rep.tup e1 q1)⟩
mutual
def D.py : D → PyData
  | .non => .none
  | .bl b => .bool b
  | .int i => .int i
  | .str x => .str x
  | .tup xs => .tuple (D.pys xs)
  | .lst xs => .list (D.pys xs)
  | .scr xs => .list (D.pys xs)
  | .obj _ _ => .none
  | .err _ _ _ _ => .none
  | .cls _ => .none
  | .dct _ _ => .none
  | .fn _ => .none
  | .dcn _ _ => .none
def D.pys : List D → List PyData
  | [] => []
  | x :: xs => D.py x :: D.pys xs
end
mutual
def D.plain : D → Bool
  | .tup xs => D.plains xs
  | .lst xs => D.plains xs
  | .scr xs => D.plains xs
  | .obj _ _ => false
  | .err _ _ _ _ => false
  | .cls _ => false
  | .dct _ _ => false
  | .fn _ => false
  | .dcn _ _ => false
  | _ => true
def D.plains : List D → Bool
  | [] => true
  | x :: xs => D.plain x && D.plains xs
end
mutual
theorem Rep.dp {K : PySem.W.Frag} {M : Addr → Prop} {H : Hp} {v : V} {d : D} (r : Rep T K M H v d) (h : d.plain = true) : Dp K H v d.py :=
  match r with
  | .non => .non
  | .bl => .bl _
  | .int => .int _
  | .str => .str _
  | .tup h1 h2 => .tup h1.sq (Reps.dp h2 h)
  | .lst n h1 h2 => .lst (SqL.of h1) (Reps.dp h2 h)
  | .scr h1 h2 => .lst h1.sq (Reps.dp h2 h)
  | .obj .. => Bool.noConfusion (show false = true from h)
  | .err .. => Bool.noConfusion (show false = true from h)
  | .cls => Bool.noConfusion (show false = true from h)
  | .dct .. => Bool.noConfusion (show false = true from h)
  | .fn .. => Bool.noConfusion (show false = true from h)
  | .dcn .. => Bool.noConfusion (show false = true from h)
theorem Reps.dp {K : PySem.W.Frag} {M : Addr → Prop} {H : Hp} {vs : List V} {ds : List D} (r : Reps T K M H vs ds) (h : D.plains ds = true) : DpAll K H vs (D.pys ds) :=
  match r, h with
  | .nil, _ => .nil
  | .cons h1 h2, h => .cons (Rep.dp h1 (Bool.and_eq_true_iff.mp h).1) (Reps.dp h2 (Bool.and_eq_true_iff.mp h).2)
end
def okD (d : D) : Bool := d.plain && SeqAt.shaped d.py
def eqD (d e : D) : Bool := PyData.eqv d.py e.py
theorem cmp_eqD (hu : X.A.units + 64 < cLine) (h1 : okD d1 = true) (h2 : okD d2 = true) : CmpD X T .Eq (.dat d1) (.dat d2) cs (.dat (.bl (eqD d1 d2))) cs := ⟨_, op_eqD hu, fun ad F H v w Q c r1 r2 q => by
  have a1 := Bool.and_eq_true_iff.mp h1
  have a2 := Bool.and_eq_true_iff.mp h2
  exact ⟨_, _, Rep.dp r1 a1.1, Rep.dp r2 a2.1, a1.2, a2.2, q _ H ad .refl c Rep.bl⟩⟩
theorem cmp_neD (hu : X.A.units + 64 < cLine) (h1 : okD d1 = true) (h2 : okD d2 = true) : CmpD X T .NotEq (.dat d1) (.dat d2) cs (.dat (.bl (!eqD d1 d2))) cs := ⟨_, op_neD hu, fun ad F H v w Q c r1 r2 q => by
  have a1 := Bool.and_eq_true_iff.mp h1
  have a2 := Bool.and_eq_true_iff.mp h2
  exact ⟨_, _, Rep.dp r1 a1.1, Rep.dp r2 a2.1, a1.2, a2.2, q _ H ad .refl c Rep.bl⟩⟩
theorem eqD_refl (h : okD d = true) : eqD d d = true := by
  have a1 := Bool.and_eq_true_iff.mp h
  exact SeqAt.eqv_refl _ (SeqAt.canLay_of_shaped a1.2)
theorem cb_len (h : isLst cs ds s1) : CalB X T "len" [s1] cs (.dat (.int ds.length)) cs := ⟨_, _, PySem.boot_len, .inl ⟨_, rfl⟩, call_len_seq, fun ad F H vs Q c r q => by
  match vs, r with
  | [v], r =>
    obtain ⟨a, ws, rfl, e1, q1⟩ := rd_lst h c r.1
    exact ⟨a, ws, rfl, .inl (SqL.of e1), by rw [q1.length]; exact q _ H ad .refl c Rep.int⟩⟩
theorem cb_lenR : CalB X T "len" [.dat (.scr ds)] cs (.dat (.int ds.length)) cs := ⟨_, _, PySem.boot_len, .inl ⟨_, rfl⟩, call_len_seq, fun ad F H vs Q c r q => by
  match vs, r with
  | [v], r =>
    have r1 := r.1
    cases r1 with
    | @scr a ws _ e1 q1 => exact ⟨a, ws, rfl, .inl e1.sq, by rw [q1.length]; exact q _ H ad .refl c Rep.int⟩⟩
theorem cb_lenT : CalB X T "len" [.dat (.tup ds)] cs (.dat (.int ds.length)) cs := ⟨_, _, PySem.boot_len, .inl ⟨_, rfl⟩, call_len_seq, fun ad F H vs Q c r q => by
  match vs, r with
  | [v], r =>
    have r1 := r.1
    cases r1 with
    | @tup a ws _ e1 q1 => exact ⟨a, ws, rfl, .inr e1.sq, by rw [q1.length]; exact q _ H ad .refl c Rep.int⟩⟩
theorem cb_lenS {x : Str} (hl : x.length ≤ sizeLine) : CalB X T "len" [.dat (.str x)] cs (.dat (.int x.length)) cs := ⟨_, _, PySem.boot_len, .inl ⟨_, rfl⟩, call_len_str, fun ad F H vs Q c r q => by
  match vs, r with
  | [v], r =>
    have r1 := r.1
    cases r1
    exact ⟨x, rfl, hl, q _ H ad .refl c Rep.int⟩⟩
theorem cb_int : CalB X T "int" [.dat (.int i)] cs (.dat (.int i)) cs := ⟨_, _, by decide +kernel, .inr ⟨_, rfl⟩, call_int1, fun ad F H vs Q c r q => by
  match vs, r with
  | [v], r =>
    have r1 := r.1
    cases r1
    exact .inl ⟨i, rfl, q _ H ad .refl c Rep.int⟩⟩
theorem cb_intB {k : Bool} : CalB X T "int" [.dat (.bl k)] cs (.dat (.int (if k then 1 else 0))) cs := ⟨_, _, by decide +kernel, .inr ⟨_, rfl⟩, call_int1, fun ad F H vs Q c r q => by
  match vs, r with
  | [v], r =>
    have r1 := r.1
    cases r1
    exact .inr ⟨k, rfl, q _ H ad .refl c Rep.int⟩⟩
theorem cb_abs : CalB X T "abs" [.dat (.int i)] cs (.dat (.int (if i < 0 then -i else i))) cs := ⟨_, _, by decide +kernel, .inl ⟨_, rfl⟩, call_abs, fun ad F H vs Q c r q => by
  match vs, r with
  | [v], r =>
    have r1 := r.1
    cases r1
    exact ⟨i, rfl, q _ H ad .refl c Rep.int⟩⟩
theorem cb_max (hc : X.calm = true) : CalB X T "max" [.dat (.int i), .dat (.int j)] cs (.dat (.int (if j > i then j else i))) cs := ⟨_, _, by decide +kernel, .inl ⟨_, rfl⟩, call_max2 hc, fun ad F H vs Q c r q => by
  match vs, r with
  | [v, w], r =>
    have r1 := r.1
    have r2 := r.2.1
    cases r1; cases r2
    exact ⟨i, j, rfl, q _ H ad .refl c Rep.int⟩⟩
theorem cb_min (hc : X.calm = true) : CalB X T "min" [.dat (.int i), .dat (.int j)] cs (.dat (.int (if j < i then j else i))) cs := ⟨_, _, by decide +kernel, .inl ⟨_, rfl⟩, call_min2 hc, fun ad F H vs Q c r q => by
  match vs, r with
  | [v, w], r =>
    have r1 := r.1
    have r2 := r.2.1
    cases r1; cases r2
    exact ⟨i, j, rfl, q _ H ad .refl c Rep.int⟩⟩
theorem cb_tupL (h : isLst cs ds s1) : CalB X T "tuple" [s1] cs (.dat (.tup ds)) cs := ⟨_, _, by decide +kernel, .inr ⟨_, rfl⟩, call_tuple_of, fun ad F H vs Q c r q => by
  match vs, r with
  | [v], r =>
    obtain ⟨a, ws, rfl, e1, q1⟩ := rd_lst h c r.1
    exact ⟨a, ws, rfl, .inl ⟨SqL.of e1, fun l hl => new_tup c q1 q hl⟩⟩⟩
theorem cb_tupT : CalB X T "tuple" [.dat (.tup ds)] cs (.dat (.tup ds)) cs := ⟨_, _, by decide +kernel, .inr ⟨_, rfl⟩, call_tuple_of, fun ad F H vs Q c r q => by
  match vs, r with
  | [v], r =>
    have r1 := r.1
    cases r1 with
    | @tup a ws _ e1 q1 => exact ⟨a, ws, rfl, .inr ⟨e1.sq, q _ H ad .refl c (Rep.tup e1 q1)⟩⟩⟩
end
section
variable {X : Cx} {T : Tab} {n : Nat} {S S1 S2 S3 : Sta} {e o ix : Expr} {pos p' : Pos} {d : D} {ds : List D} {k j : Nat} {i : Int} {P : Post}
end
end Dl
namespace Dl
open PySem L2
def wipeS (sl : List (Option Sl)) : List Nat → List (Option Sl)
  | [] => sl
  | v :: vs => (wipeS sl vs).set v none
theorem wipeS_len (sl : List (Option Sl)) : ∀ vs, (wipeS sl vs).length = sl.length
  | [] => rfl
  | v :: vs => by unfold wipeS; rw [List.length_set, wipeS_len sl vs]
theorem wipeS_some {sl : List (Option Sl)} {i : Nat} {s : Sl} : ∀ {vs : List Nat}, (wipeS sl vs)[i]? = some (some s) → sl[i]? = some (some s) ∧ i ∉ vs
  | [], h => ⟨h, by simp⟩
  | v :: vs, h => by
    unfold wipeS at h
    by_cases e : v = i
    · subst e
      rw [List.getElem?_set] at h
      split at h
      · split at h <;> cases h
      · rename_i z; exact absurd rfl z
    · rw [List.getElem?_set_ne e] at h
      obtain ⟨h1, h2⟩ := wipeS_some h
      exact ⟨h1, fun z => (List.mem_cons.mp z).elim (fun q => e q.symm) h2⟩
theorem weakTs {X : Cx} {e : List Expr} {t t' : TT} (h : PTs X e t) (q : ∀ σ H Q, t' σ H Q → t σ H Q) : PTs X e t' := ⟨fun pins s σ H Q I z => h.run pins s σ H Q I (q σ H Q z)⟩
abbrev Turn1 := List (Option Sl) → List Cell → Option D → List Cell → Prop
def InB (X : Cx) (scope : Scope) (f : Cx → Prop) : Prop := ∀ (s : Shared) (H : Hp) (C : Addr) (cl : List (Str × Addr)) (fp : List Addr), f (X.blk s H scope (compEnvC scope cl C X.env) fp)
structure DLC (X : Cx) (T : Tab) (S : Sta) (elt tg iter : Expr) (ifs : List Expr) (scope : Scope) (own : List (Str × Nat)) (wi : TI) (g : TG) (tt : TT) (te : TE) (s : Sl) (S' : Sta) : Prop where
  hi : PI X tg iter wi
  ok : BlkOk X.N X.env.scope scope own
  hg : ∀ (s : Shared) (H : Hp) (C : Addr) (cl : List (Str × Addr)) (fp : List Addr), PG (X.blk s H scope (compEnvC scope cl C X.env) fp) tg g
  ht : ∀ (s : Shared) (H : Hp) (C : Addr) (cl : List (Str × Addr)) (fp : List Addr), PTs (X.blk s H scope (compEnvC scope cl C X.env) fp) ifs tt
  he : ∀ (s : Shared) (H : Hp) (C : Addr) (cl : List (Str × Addr)) (fp : List Addr), PE (X.blk s H scope (compEnvC scope cl C X.env) fp) elt te
  rd : ∀ σ H Q, tD T X.K S s S' σ H Q → tLc wi g tt te (own.map (·.2)) σ H Q
section
variable {X : Cx} {T : Tab} {S S1 : Sta} {elt tg iter : Expr} {ifs : List Expr} {scope : Scope} {own : List (Str × Nat)} {p : Pat} {items acc : List D} {cs' : List Cell}
theorem wipe_asis {σ σ' : St} {vs : List Nat} {ns : List Nat} (h : AsIs ns (wipe σ vs) σ') (hs : ∀ i ∈ ns, i ∈ vs) : wipe σ' vs = wipe σ vs := by
  apply List.ext_getElem?
  intro i
  by_cases hi : i ∈ vs
  · have : ∀ (τ : St) (us : List Nat), i ∈ us → (wipe τ us)[i]? = if i < τ.length then some none else none := by
      intro τ us
      induction us with
      | nil => intro h; cases h
      | cons v us ih =>
        intro h
        unfold wipe
        by_cases e : v = i
        · subst e
          rw [List.getElem?_set, if_pos rfl, wipe_length]
        · rw [List.getElem?_set_ne e]
          exact ih ((List.mem_cons.mp h).resolve_left (fun q => e q.symm))
    rw [this _ _ hi, this _ _ hi, h.1, wipe_length]
  · rw [wipe_out hi, wipe_out hi, h.2 i fun z => hi (hs i z), wipe_out hi]
variable {wi : TI} {g : TG} {tt : TT} {te : TE} {s : Sl} {S' : Sta} {pos : Pos}
end
section
variable {B : Turn1} {p : Pat} {sl : List (Option Sl)} {cs : List Cell}
variable {X : Cx} {T : Tab} {scope : Scope} {elt c : Expr} {sl' : List (Option Sl)} {cs1 : List Cell} {d : D} {S2 S3 : Sta}
end
end Dl
namespace Dl
open PySem L2
section
variable {X : Cx} {T : Tab} {S S1 S2 : Sta} {e e2 : Expr} {pos p tpos : Pos} {ds es : List D} {elts : List Expr} {kk : Nat}
def zipD (ds es : List D) : List D := (ds.zip es).map fun q => D.tup [q.1, q.2]
theorem zipD_get {i : Nat} {d : D} (h : (zipD ds es)[i]? = some d) : ∃ x y, ds[i]? = some x ∧ es[i]? = some y ∧ d = .tup [x, y] := by
  unfold zipD at h
  rw [List.getElem?_map] at h
  cases q : (ds.zip es)[i]? with
  | none => rw [q] at h; cases h
  | some z =>
    rw [q] at h
    rw [List.getElem?_zip_eq_some] at q
    exact ⟨z.1, z.2, q.1, q.2, (Option.some.inj h).symm⟩
theorem zipD_len : (zipD ds es).length = min ds.length es.length := by unfold zipD; rw [List.length_map, List.length_zip]
end
section
variable {X : Cx} {T : Tab} {n : Nat} {S S1 S2 : Sta} {a b c e tg : Expr} {pos px py pz pt pt2 : Pos} {kt k2 : Nat} {s1 s2 s3 : Sl} {d : D} {x y z : Str} {P : Post} {p : Pat} {sl' : List (Option Sl)}
end
section
variable {X : Cx} {T : Tab} {n : Nat} {S S1 : Sta} {c : Expr} {body : List Stmt} {pos : Pos} {P : Post}
end
def fIdx : List Str → Str → Option Nat
  | [], _ => none
  | g :: r, f => if f == g then some 0 else (fIdx r f).map (· + 1)
theorem fIdx_look : ∀ {fn : List Str} {f : Str} {j : Nat} {vs : List V}, fIdx fn f = some j → vs.length = fn.length → ∃ v, vs[j]? = some v ∧ (fn.zip vs).lookup f = some v
  | [], _, _, _, h, _ => nomatch h
  | g :: r, f, j, [], h, hl => by simp at hl
  | g :: r, f, j, v :: vs, h, hl => by
    unfold fIdx at h
    by_cases e : (f == g) = true
    · rw [if_pos e] at h
      cases h
      exact ⟨v, rfl, by rw [List.zip_cons_cons, List.lookup_cons, e]⟩
    · rw [if_neg e] at h
      cases q : fIdx r f with
      | none => rw [q] at h; cases h
      | some k =>
        rw [q] at h
        cases h
        obtain ⟨w, h1, h2⟩ := fIdx_look (vs := vs) q (by simpa using hl)
        exact ⟨w, by simpa using h1, by rw [List.zip_cons_cons, List.lookup_cons]; simp only [Bool.not_eq_true] at e; rw [e]; exact h2⟩
theorem fIdx_none : ∀ {fn : List Str} {f : Str} {vs : List V}, fIdx fn f = none → (fn.zip vs).lookup f = none
  | [], _, _, _ => rfl
  | g :: r, f, [], _ => rfl
  | g :: r, f, v :: vs, h => by
    unfold fIdx at h
    by_cases e : (f == g) = true
    · rw [if_pos e] at h; cases h
    · rw [if_neg e] at h
      have q : fIdx r f = none := by
        cases q : fIdx r f with
        | none => rfl
        | some k => rw [q] at h; cases h
      rw [List.zip_cons_cons, List.lookup_cons]
      simp only [Bool.not_eq_true] at e
      rw [e]
      exact fIdx_none q
theorem putF_new : ∀ {fn : List Str} {f : Str} {v : V} {vs : List V}, fIdx fn f = none → vs.length = fn.length → putF f v (fn.zip vs) = (fn ++ [f]).zip (vs ++ [v])
  | [], f, v, [], _, _ => rfl
  | [], _, _, _ :: _, _, hl => by simp at hl
  | g :: r, f, v, [], _, hl => by simp at hl
  | g :: r, f, v, w :: vs, h, hl => by
    unfold fIdx at h
    by_cases e : (f == g) = true
    · rw [if_pos e] at h; cases h
    · rw [if_neg e] at h
      have q : fIdx r f = none := by
        cases q : fIdx r f with
        | none => rfl
        | some k => rw [q] at h; cases h
      have ne : ¬ g = f := fun z => e (by rw [z]; exact beq_self_eq_true _)
      show (if g = f then _ else (g, w) :: putF f v (r.zip vs)) = _
      rw [if_neg ne, putF_new q (by simpa using hl)]
      rfl
section
variable {X : Cx} {T : Tab} {n : Nat} {S S1 S2 : Sta} {e o : Expr} {es : List Expr} {pos apos p' : Pos} {ds vs : List D} {d : D} {f m : Str} {C g : Addr} {fn : List Str} {c : Ct} {k j cn : Nat} {fd : FuncData} {ps : List Str} {P : Post} {s : Sl} {ss : List Sl} {c0 c1 : Cell}
theorem mk_then {K : PySem.W.Frag} {ad : List Addr} {F : Addr → Prop} {H : Hp} {cs : List Cell} {ws : List V} {args : List D} {Q : VK} {E : XK} {x dx : Addr} (hT : T cn = some (C, fn)) (h : HoldC T K ad F H cs) (r : Reps T K (Mm ad F) H ws args) (hx : H x = none) (hdx : H dx = none) (ne : dx ≠ x)
    (hq : c (.cel 0 :: args.map Sl.dat) [.ins cn []] (.dat .non) [.ins cn (fn.zip ds)]) (hl : ds.length = fn.length) (q : ∀ H', Ext ad F H ad H' → HoldC T K ad F H' cs → Rep T K (Mm ad F) H' (.ref x) (.obj cn ds) → Q (.ref x) H') :
    spC T K c (.ref x :: ws) (upd (upd H dx (.own x)) x (.ins C dx [])) (fun v H2 => v = .non ∧ Q (.ref x) H2) E := by
  obtain ⟨h1, x1⟩ := h.newo (o := .own x) hdx
  have hx1 : upd H dx (.own x) x = none := by rw [upd_ne ne.symm]; exact hx
  obtain ⟨h2, x2⟩ := h1.cell (c := .ins cn []) (o := .ins C dx []) hx1 ⟨C, fn, dx, [], hT, upd_same, rfl, .nil⟩
  have ha : (ad ++ [x])[ad.length]? = some x := by rw [List.getElem?_append_right (Nat.le_refl _)]; simp
  have hlen : cs.length = ad.length := h.ln.symm
  have x12 : Ext ad F H (ad ++ [x]) (upd (upd H dx (.own x)) x (.ins C dx [])) := x1.trans h1 x2
  have rr : SlReps T K (ad ++ [x]) F (upd (upd H dx (.own x)) x (.ins C dx [])) (.ref x :: ws) (.cel ad.length :: args.map Sl.dat) := ⟨⟨x, ha, rfl⟩, SlReps.of (r.kp x12.kp)⟩
  have ho : ∀ l : List D, (l.map Sl.dat).all (onlyCell ad.length) = true := fun l => by
    rw [List.all_map, List.all_eq_true]
    intro d _
    rfl
  have hm : (Sl.cel ad.length :: args.map Sl.dat).map low = .cel 0 :: args.map Sl.dat := by
    rw [List.map_cons, List.map_map]
    rfl
  refine spC1 (ss := .cel ad.length :: args.map Sl.dat) (c0 := .ins cn []) (c1 := .ins cn (fn.zip ds)) (d := .non) (j := ad.length) (by rw [← hlen, List.getElem?_append_right (Nat.le_refl _)]; simp) (by rw [List.all_cons, ho]; simp [onlyCell]) (by rw [hm]; exact hq) h2 rr fun v H' x3 c3 r3 => ?_
  cases r3
  refine ⟨rfl, ?_⟩
  have c4 := c3.take ad.length
  have e1 : (ad ++ [x]).take ad.length = ad := by rw [List.take_append_of_le_length (Nat.le_refl _), List.take_length]
  have e2 : ((cs ++ [Cell.ins cn []]).set ad.length (Cell.ins cn (fn.zip ds))).take ad.length = cs := by
    rw [List.take_set_of_le (Nat.le_refl _), ← hlen, List.take_append_of_le_length (Nat.le_refl _), List.take_length]
  rw [e1, e2] at c4
  have nx : ¬ Mm ad F x := h.new hx
  obtain ⟨C', fn', dx', vs, ht, ea, lv, rv⟩ := c3.ce ad.length x (.ins cn (fn.zip ds)) ha (by rw [List.getElem?_set_self (by simp [hlen])])
  rw [hT] at ht
  cases ht
  have z1 : (fn.zip ds).map (·.1) = fn := List.map_fst_zip (by omega)
  have z2 : (fn.zip ds).map (·.2) = ds := List.map_snd_zip (by omega)
  rw [z1] at ea
  rw [z2] at rv
  have kp : Kp (Mm (ad ++ [x]) F) H' (Mm ad F) H' := fun a o e n => ⟨e, fun z => n (z.imp (List.mem_append_left _) id)⟩
  have xf : Ext ad F H ad H' := by
    have x13 : Ext ad F H (ad ++ [x]) H' := x12.trans h2 x3
    exact ⟨⟨[], by simp, fun _ z => nomatch z⟩, x13.keep, x13.frm⟩
  refine q H' xf c4 (.obj hT nx ea ?_ (rv.kp kp))
  rw [List.length_zip] at lv
  omega
end
end Dl
namespace Dl
open PySem L2
theorem weakK {X : Cx} {e : List Keyword} {t t' : TA} (h : PK X e t) (q : ∀ σ H Q, t' σ H Q → t σ H Q) : PK X e t' := ⟨fun pos pins s σ H Q I z => h.run pos pins s σ H Q I (q σ H Q z)⟩
section
variable {X : Cx} {T : Tab} {S S1 S2 S3 : Sta} {e o : Expr} {es : List Expr} {kws : List Keyword} {nm : Option Str} {pos kpos p apos : Pos} {s : Sl} {ss : List Sl} {ds args kargs full : List D} {d : D} {x m : Str} {C g : Addr} {fn : List Str} {c : Ct} {k cn pn : Nat} {fd : FuncData} {ps ks : List Str}
  {gg : List Value → List Value → List Value} {gV : List V → List V → List V}
def Put (K : PySem.W.Frag) (gV : List V → List V → List V) (args kargs full : List D) : Prop := ∀ (x : V) (ws zs : List V), ws.length = args.length → zs.length = kargs.length → ∃ us, gV (x :: ws) zs = x :: us ∧ ∀ T M H, Reps T K M H ws args → Reps T K M H zs kargs → Reps T K M H us full
end
def tyD : D → Option String
  | .non => some "NoneType"
  | .bl _ => some "bool"
  | .int _ => some "int"
  | .str _ => some "str"
  | .tup _ => some "tuple"
  | .lst _ => some "list"
  | .scr _ => some "list"
  | .obj _ _ => none
  | .err _ _ _ _ => none
  | .cls _ => none
  | .dct _ _ => none
  | .fn _ => none
  | .dcn _ _ => none
structure IsiC (K : PySem.W.Frag) (C : Addr) : Prop where
  cl : Cls K C
  ca : PySem.W.findIn K (.ref C) "__class__" = some (some (.builtin "object.__class__"))
  cn : PySem.W.specialIn K (.builtin "object.__class__") "__get__" = some (some (.builtin "getset_descriptor.__get__"))
  ct : PySem.W.takesIn K (.builtin "object.__class__") = some true
  cm : PySem.W.mroIn K C (.type "object") = some true
theorem tyx_of {T : Tab} {K : PySem.W.Frag} {M : Addr → Prop} {H : Hp} {v : V} {d : D} {t : String} (r : Rep T K M H v d) (h : tyD d = some t) : TyX K H v (.type t) := by
  cases r with
  | non => cases h; exact .base .non
  | bl => cases h; exact .base (.bl _)
  | int => cases h; exact .base (.int _)
  | str => cases h; exact .base (.str _)
  | tup h1 _ =>
    cases h
    rcases h1 with ⟨_, h1 | ⟨o, h1⟩⟩ | h1
    · exact .base (.tup h1)
    · exact .fTuple h1
    · rcases h1 with (z | ⟨_, z⟩) | ⟨o, its, n, e, c, _⟩
      · cases z
      · cases z
      · exact .kTuple e c
  | lst _ h1 _ => cases h; exact .base (.lst h1)
  | scr h1 _ =>
    cases h
    rcases h1 with ⟨_, o, h1⟩ | h1
    · exact .base (.frz h1)
    · rcases h1 with (z | ⟨_, z⟩) | ⟨o, its, n, e, c, _⟩
      · cases z
      · cases z
      · exact .kList e c
  | obj => cases h
  | err => cases h
  | cls => cases h
  | dct _ _ _ _ => cases h
  | fn _ _ _ _ => cases h
  | dcn => cases h
section
variable {X : Cx} {T : Tab} {S S1 : Sta} {e : Expr} {pos p p2 : Pos} {d : D} {t u : String} {b : Bool} {x : Str} {C C2 : Addr} {cn : Nat} {fn : List Str} {ds : List D}
end
theorem run_vals {X : Cx} {g : Addr} {fd : FuncData} {ps : List Str} {k : Nat} {sp : Sp} {pins : List (Addr × Obj)} {σ : St} {H : Hp} {s : Shared} {Q : VK} {us : List Value} {vs : List V} (F : FnOk X.prog X.w X.K X.mg X.base CX0 k g fd ps sp) (hr : Room k X.A) (hb : Binds X.K fd ps [])
    (I : Inv X pins σ H s) (r : Vals vs us) (h : sp vs H Q E0) : wpAny (model X.prog X.w) X.A (call (.ref g) us) (EP X pins σ Q) X.xe s :=
  run_fn F hr hb .nil pass0 I r (by rw [List.append_nil]; exact h)
theorem cmpb {X : Cx} {pins : List (Addr × Obj)} {σ : St} {Q : VK} {v : Value} {s : Shared} (h : EP X pins σ Q v s) : PySem.W.CmpBack (EP X pins σ Q) v s := by
  obtain ⟨z, H', I, r, q⟩ := id h
  cases z with
  | non => cases (show v = Value.none from r); exact h
  | bl b => cases (show v = Value.bool b from r); exact h
  | int i => obtain ⟨t, e⟩ := (show ∃ t, v = Value.int i t from r); cases e; exact h
  | str x => obtain ⟨t, e⟩ := (show ∃ t, v = Value.str x t from r); cases e; exact h
  | byt b => obtain ⟨t, e⟩ := (show ∃ t, v = Value.bytes b t from r); cases e; exact h
  | flt b => obtain ⟨t, e⟩ := (show ∃ t, v = Value.float b t from r); cases e; exact h
  | ref a => cases (show v = Value.ref a from r); exact h
  | ty n => cases (show v = Value.type n from r); exact h
section
variable {X : Cx} {T : Tab} {C g : Addr} {fd : FuncData} {ps : List Str} {k cn : Nat} {c : Ct} {fn : List Str} {op : Operator} {ds es : List D} {d : D} {cs : List Cell} {i : Int} {uop : UnaryOp}
end
end Dl
namespace Dl
open PySem L2
section
open PySem.W
variable {prog : Program} {w : World} {A : Around} {E : Value → Shared → Prop} {s : Shared} {K : Frag} {x C f g : Addr} {ox : Obj} {od : Option Obj}
end
structure OpC (K : PySem.W.Frag) (C : Addr) (op : Operator) (g : Addr) : Prop where
  sf : PySem.W.selfFirst K C = true
  at_ : PySem.W.findIn K (.ref C) (PySem.dunder op.info.2) = some (some (.ref g))
  fn : PySem.W.isFn K (.ref g) = true
  rc : ∃ rc, PySem.W.findIn K (.ref C) (dunderR op.info.2) = some rc ∧ (rc = none ∨ ∃ g : Addr, rc = some (.ref g))
  i1 : ∃ fo, PySem.W.findIn K (.type "int") (PySem.dunder op.info.2) = some fo
  i2 : ∃ ro, PySem.W.findIn K (.type "int") (dunderR op.info.2) = some ro
  su : PySem.W.subIn K (.type "int") (.ref C) = some false
structure OpR' (K : PySem.W.Frag) (C : Addr) (op : Operator) (g : Addr) : Prop where
  sf : PySem.W.selfFirst K C = true
  lf : ∃ f : Addr, PySem.W.findIn K (.ref C) (PySem.dunder op.info.2) = some (some (.ref f))
  at_ : PySem.W.findIn K (.ref C) (dunderR op.info.2) = some (some (.ref g))
  fn : PySem.W.isFn K (.ref g) = true
  ii : ∃ fo ro, PySem.W.findIn K (.type "int") (PySem.dunder op.info.2) = some fo ∧ PySem.W.findIn K (.type "int") (dunderR op.info.2) = some ro ∧ ((fo.isSome && !isSeqSlot fo) || (ro.isSome && !isSeqSlot ro)) = true
  su : PySem.W.subIn K (.ref C) (.type "int") = some false
structure NoIn (K : PySem.W.Frag) (C : Addr) (op : Operator) : Prop where
  cl : ∃ cd, PySem.W.clsIn K C = some cd ∧ cd.mro = [.ref C, .type "object"]
  at_ : PySem.W.findIn K (.ref C) (dunderI op.info.2) = some none
  ob : PySem.W.findIn K (.type "object") (dunderI op.info.2) = some none
structure IntNi (op : Operator) : Prop where
  ex : ∃ id name F, Slot "int" (PySem.dunder op.info.2) id ∧ entryFor table id = some (Builtin.Int.intBinary name F false) ∧ ∀ a b : Value, argsOk id ⟨[a, b], []⟩
section
variable {X : Cx} {T : Tab} {C g : Addr} {fd : FuncData} {ps : List Str} {k cn : Nat} {c : Ct} {fn : List Str} {op : Operator} {ds es : List D} {d : D} {cs : List Cell} {i j : Int}
end
end Dl
namespace Dl
open PySem L2
end Dl
namespace Dl
open PySem L2
section
variable {X : Cx} {T : Tab} {C g : Addr} {fd : FuncData} {ps : List Str} {k cn : Nat} {c : Ct} {fn : List Str} {op : CmpOp} {ds es : List D} {d : D} {cs : List Cell}
theorem cop_own2 {sp : Sp} (G : FnOk X.prog X.w X.K X.mg X.base CX0 k g fd ps sp) (hr : Room k X.A) (hb : Binds X.K fd ps []) (hs : PySem.W.findIn X.K (.ref C) (cmpInfo op).2.1 = some (some (.ref g))) (hf : PySem.W.isFn X.K (.ref g) = true) (ho : compareOp op = richCompare op) :
    OpR X (compareOp op) (fun x y H Q => ∃ a b dx dy fs gs, x = .ref a ∧ y = .ref b ∧ H a = some (.ins C dx fs) ∧ H b = some (.ins C dy gs) ∧ sp [x, y] H Q E0) := by
  intro pins s σ H x y v u Q I rx ry h
  obtain ⟨a, b, dx, dy, fs, gs, rfl, rfl, ea, eb, hsp⟩ := h
  cases rx; cases ry
  obtain ⟨mA, J, _⟩ := ins_get I.hok ea
  obtain ⟨mB, J', _⟩ := ins_get I.hok eb
  obtain ⟨od, J, _⟩ := J.look
  obtain ⟨od', J', _⟩ := J'.look
  obtain ⟨m, hF⟩ := I.fr
  rw [ho]
  exact PySem.W.cmp_K (tb := .ref C) hr.units0 hF I.ok.mod.kin J J'.type (by simp [PySem.W.notFirst]) hs hf (thn (run_vals (us := [.ref a, .ref b]) (vs := [.ref a, .ref b]) G hr hb I (.cons rfl (.cons rfl .nil)) hsp) fun _ _ z => cmpb z)
theorem cmp_own2 (hT : T cn = some (C, fn)) (G : FnOk X.prog X.w X.K X.mg X.base CX0 k g fd ps (spC T X.K c)) (hr : Room k X.A) (hb : Binds X.K fd ps []) (hs : PySem.W.findIn X.K (.ref C) (cmpInfo op).2.1 = some (some (.ref g))) (hf : PySem.W.isFn X.K (.ref g) = true)
    (hq : c [.dat (.obj cn ds), .dat (.obj cn es)] [] (.dat d) []) (ho : compareOp op = richCompare op := by rfl) : CmpD X T op (.dat (.obj cn ds)) (.dat (.obj cn es)) cs (.dat d) cs := ⟨_, cop_own2 G hr hb hs hf ho, fun ad F H v w Q cc r1 r2 q => by
  have s1 := r1
  have s2 := r2
  cases r1 with
  | @obj a C' dx _ fn' vs' _ ht na e1 hl r =>
    rw [hT] at ht
    cases ht
    cases r2 with
    | @obj b C' dy _ fn' ws' _ ht nb e2 hl2 r' =>
      rw [hT] at ht
      cases ht
      exact ⟨a, b, dx, dy, _, _, rfl, rfl, e1, e2, spC0 (ds := [.obj cn ds, .obj cn es]) hq cc ⟨s1, s2, trivial⟩ fun v H' x2 c2 r2 => q v H' ad x2 c2 r2⟩⟩
end
section
variable {X : Cx} {T : Tab} {ds : List D} {d : D} {cs : List Cell}
def fv : D → Option V
  | .non => some .non
  | .bl b => some (.bl b)
  | .int i => some (.int i)
  | .str x => some (.str x)
  | _ => none
def fvs : List D → Option (List V)
  | [] => some []
  | d :: ds => (fv d).bind fun v => (fvs ds).map (v :: ·)
theorem fv_rep {K : PySem.W.Frag} {M : Addr → Prop} {H : Hp} {v w : V} (r : Rep T K M H v d) (h : fv d = some w) : v = w ∧ flatV w = true := by
  cases r <;> first | (cases h; exact ⟨rfl, rfl⟩) | exact nomatch h
theorem fvs_reps {K : PySem.W.Frag} {M : Addr → Prop} {H : Hp} : ∀ {vs : List V} {ds : List D} {ws : List V}, Reps T K M H vs ds → fvs ds = some ws → vs = ws ∧ ws.all flatV = true
  | _, _, _, .nil, h => by cases h; exact ⟨rfl, rfl⟩
  | _, d :: ds, ws, .cons r rs, h => by
    cases e : fv d with
    | none => rw [fvs, e] at h; cases h
    | some v =>
      cases e2 : fvs ds with
      | none => rw [fvs, e, e2] at h; cases h
      | some l =>
        rw [fvs, e, e2] at h
        cases h
        obtain ⟨a, fa⟩ := fv_rep r e
        obtain ⟨b, fb⟩ := fvs_reps rs e2
        exact ⟨by rw [a, b], by rw [List.all_cons, fa, fb]; rfl⟩
theorem cmp_ninT {v : V} {ws : List V} (h1 : fv d = some v) (h2 : fvs ds = some ws) : CmpD X T .NotIn (.dat d) (.dat (.tup ds)) cs (.dat (.bl (!inV v ws))) cs := ⟨_, op_notIn_seq, fun ad F H x y Q c r1 r2 q => by
  cases r2 with
  | @tup a xs _ e1 q1 =>
    obtain ⟨rfl, fx⟩ := fv_rep r1 h1
    obtain ⟨rfl, fs⟩ := fvs_reps q1 h2
    exact ⟨a, _, rfl, .inr e1.sq, fx, fs, q _ H ad .refl c Rep.bl⟩⟩
end
theorem mul_l {i j : Int} (h1 : -(2 ^ 64) < i) (h2 : i < 2 ^ 64) : IntMulOk i j := CMul.ok (.inl ⟨h1, h2⟩)
end Dl
namespace Dl
open PySem L2
def frzS (m : Nat) (ds : List D) : Option Sl → Option Sl
  | some (.cel k) => if k = m then some (.dat (.lst ds)) else if k < m then some (.cel k) else none
  | x => x
theorem dss_freeze {X : Cx} {T : Tab} {n : Nat} {S : Sta} {P : Post} {sts : List Stmt} {ds : List D} (m : Nat) (hm : n ≤ m) (hc : S.cs[m]? = some (.lst ds)) (h : DSs X T n ⟨S.sl.map (frzS m ds), S.cs.take m⟩ sts P) : DSs X T n S sts P :=
  weakSs h fun D σ H ⟨ad, F, hn, h0, q1, q2, q3, q4, q5⟩ => by
    have kp : Kp (Mm ad F) H (Mm (ad.take m) F) H := fun a o e z => ⟨e, fun y => z (y.imp List.mem_of_mem_take id)⟩
    have x : ExtS n ad F H (ad.take m) H := ⟨by rw [List.take_take, Nat.min_eq_left hm], fun a ha => .inl (List.mem_of_mem_take ha), fun _ _ e _ => e, fun _ _ => .inl rfl⟩
    have ml : m < ad.length := by rw [h0.hc.ln]; exact (List.getElem?_eq_some_iff.mp hc).1
    refine tDS.go (σ := σ) x (by rw [List.length_take]; omega) ⟨h0.hc.take m, by rw [h0.sz]; simp, fun i s e => ?_⟩ q1 q2 q3 q4 q5
    have e : (S.sl.map (frzS m ds))[i]? = some (some s) := e
    rw [List.getElem?_map] at e
    cases e0 : S.sl[i]? with
    | none => rw [e0] at e; cases e
    | some o =>
      rw [e0] at e
      have e : frzS m ds o = some s := Option.some.inj e
      cases o with
      | none => cases e
      | some s0 =>
        obtain ⟨v, hv, r⟩ := h0.sl i s0 e0
        refine ⟨v, hv, ?_⟩
        cases s0 with
        | dat d => cases e; exact Rep.kp kp r
        | cel k =>
          obtain ⟨a, ha, ev⟩ := r
          by_cases k1 : k = m
          · subst k1
            have e : some (Sl.dat (.lst ds)) = some s := by simpa [frzS] using e
            cases e
            obtain ⟨vs, e1, r1⟩ := h0.hc.ce k a _ ha hc
            have na : ¬ Mm (ad.take k) F a := fun y => by
              rcases y with y | y
              · obtain ⟨j, hj, ej⟩ := List.getElem_of_mem y
                have hj' : j < k := by rw [List.length_take] at hj; omega
                rw [List.getElem_take] at ej
                have hj2 : j < ad.length := by omega
                have := ix_inj (j := j) h0.hc.nd ha (by rw [List.getElem?_eq_getElem hj2, ej])
                omega
              · exact h0.hc.fr a (List.mem_of_getElem? ha) y
            rw [ev]
            exact Rep.lst na e1 (r1.kp kp)
          · by_cases k2 : k < m
            · have e : some (Sl.cel k) = some s := by simpa [frzS, k1, k2] using e
              cases e
              exact ⟨a, by rw [List.getElem?_take_of_lt k2]; exact ha, ev⟩
            · have e : (none : Option Sl) = some s := by simpa [frzS, k1, k2] using e
              cases e
end Dl
namespace Dl
open PySem L2
def spL (K : PySem.W.Frag) : Sp := fun vs H Q _ => ∃ (a : Addr) (ns : List Int), vs = [.ref a] ∧ LAt K (fun _ => False) H a (ns.map V.int) ∧ ns.length ≤ 63 ∧ (∀ z ∈ ns, Builtin.Int.intBits z ≤ 1048576) ∧ ∀ H', Q (.bl true) H'
theorem spL_to {T : Tab} {K : PySem.W.Frag} {c : Ct} (h : ∀ ns : List Int, ns.length ≤ 63 → (∀ z ∈ ns, Builtin.Int.intBits z ≤ 1048576) → c [.dat (.scr (ns.map D.int))] [] (.dat (.bl true)) []) {vs : List V} {H : Hp} {Q : VK} {E : XK} (q : spL K vs H Q E) (hT : T 900 = none := by rfl) : spC T K c vs H Q E := by
  obtain ⟨a, ns, rfl, hl, hn, hb, hq⟩ := q
  refine ⟨[], fun _ => False, [.dat (.scr (ns.map D.int))], [], _, _, ⟨List.nodup_nil, fun _ z => (nomatch z), fun _ z => z.elim, fun P q z => (by rw [hT] at z; cases z), rfl, fun _ _ _ e => nomatch e⟩, ⟨Rep.scr (vs := ns.map V.int) ?_ (Reps.ints ns), trivial⟩, h ns hn hb, ?_⟩
  · rcases hl with ⟨_, o, e⟩ | e
    · exact .inl ⟨fun z => z.elim (fun z => nomatch z) id, o, e⟩
    · exact .inr e
  · intro v H' ad' _ _ _ r
    cases r
    exact hq H'
theorem spL_of {K : PySem.W.Frag} (H : Hp) (a : Addr) (ns : List Int) (hl : ns.length ≤ 63) (hb : ∀ z ∈ ns, Builtin.Int.intBits z ≤ 1048576) (hO : Only H) (hS : SqL K H a (ns.map V.int)) : spL K [.ref a] H (fun v _ => v = .bl true) fun _ _ _ => False :=
  ⟨a, ns, rfl, LAt.of hO hS, hl, hb, fun _ => rfl⟩
theorem kit_self {K : PySem.W.Frag} {C : Addr} : PySem.W.kitOne K (.ref C) (.ref C) = some true := if_pos (beq_self_eq_true _)
theorem kit_sub {K : PySem.W.Frag} {C : Addr} {T : String} {b : Bool} (h : PySem.W.subIn K (.ref C) (.type T) = some b) (hm : PySem.W.kitMeta T = true) : PySem.W.kitOne K (.ref C) (.type T) = some b := by
  show (if (Value.ref C == Value.type T) = true then some true else PySem.W.kitCls K (.ref C) (.type T)) = some b
  rw [if_neg (by intro z; cases (beq_iff_eq.mp z))]
  show (if PySem.W.kitMeta T = true then PySem.W.subIn K (.ref C) (.type T) else none) = some b
  rw [if_pos hm]
  exact h
theorem km_int : PySem.W.kitMeta "int" = true := by decide +kernel
end Dl
namespace Dl
open PySem L2
structure CIn (K : PySem.W.Frag) (C : Addr) : Prop where
  ty : PySem.W.typeIn K (.ref C) = some (.type "type")
  rd : PySem.W.readsIn K C (.type "type") = true
  ga : PySem.W.specialIn K (.ref C) "__getattribute__" = some (some (.builtin "type.__getattribute__"))
  at_ : PySem.W.findCls K (.ref C) (.type "type") "__init__" = some (.val (.builtin "ValueError.__init__"))
open PySem.Spec PyProof.Rows in
theorem pe_cinit {X : Cx} {x : Str} {C0 : Addr} {e : Expr} {es : List Expr} {ta : TA} {p1 p2 pos : Pos} {pl : Sem Bool} (hg : Gl X x) (hm : X.mg x = some (.ref C0)) (c : CIn X.K C0) (ha : PA X (e :: es) ta) (hdb : (x == ("__debug__" : Str)) = false)
    (ht : eval (.Call (.Attribute (.Name x p1) "__init__" p2) (e :: es) [] pos) X.env = (do
      let ov ← eval (.Name x p1) X.env
      standAt p2.atName
      let (f, first) ← holding [ov] (getMethod ov "__init__" pl)
      callWith pos f first (backTo pos (starEach (e :: es) X.env)) (backToKw pos (keywordEach [] X.env))))
    (he : starEach (e :: es) X.env = (false, eval e X.env) :: starEach es X.env) (hpl : (backTo pos (starEach es X.env)).any (·.1) = false) :
    PE X (.Call (.Attribute (.Name x p1) "__init__" p2) (e :: es) [] pos) (tVeI X.K ta) := by
  constructor
  intro pins s σ H Q I h
  obtain ⟨m, fr⟩ := I.fr
  refine PySem.W.methodCall_KW (ld_glob I hg hm (PySem.W.method_of_cls fr I.ok.mod.kin c.ga (PySem.W.cls_val fr I.ok.mod.kin c.ty c.rd c.at_ (by decide +kernel) ?_)) hdb) ht
  show wpAny _ _ (callWith pos (Value.builtin "ValueError.__init__") [] (backTo pos (starEach (e :: es) X.env)) []) _ _ _
  refine PyProof.Rows.callWith_method1 (thn (ha.run pos pins _ σ H _ (I.tok _) h) fun us s1 z => ?_) he hpl
  obtain ⟨vs, H1, I1, r1, a, C, ws, ev, hl, T, ea, q⟩ := z
  subst ev
  cases r1 with
  | @cons _ u0 _ ur ra rw' =>
    cases (show u0 = Value.ref a from ra)
    exact oinit_ok T I1 ea (by rw [← Paired.length rw', sizeLine_eq]; omega) fun s' J => ⟨.non, H1, J, rfl, q⟩
section
variable {X : Cx} {T : Tab} {a C Ce : Addr} {oe : Obj} {d : Option Addr} {pn : List (Addr × Obj)} {S S1 S2 : Sta} {e e2 : Expr} {pos p : Pos} {n : Nat} {fs : List D} {b : Bool} {fn : List Str} {x : Str}
structure Err (X : Cx) (T : Tab) (n : Nat) (a : Addr) (d : Option Addr) (Ce : Addr) (oe : Obj) : Prop where
  ec : ExcC X.K Ce
  hz : Zc (.ref Ce) d oe
  hf : ∃ vs, oe.data = .fields vs
  ht : ∃ fn, T n = some (Ce, fn)
end
end Dl
namespace Dl
open PySem L2
def spE1 (C : Addr) (f : Str) : Sp := fun vs H Q _ => ∃ (a : Addr) (v : V), vs = [.ref a, v] ∧ H a = some (exo a C none) ∧ ∀ dx, H dx = none → dx ≠ a → Q .non (upd (upd H dx (exd dx [(f, v)])) a (exo a C (some dx)))
abbrev CtX := List Sl → List Cell → Exc → List Cell → Prop
def spX (T : Tab) (K : PySem.W.Frag) (c : Ct) (cx : CtX) : Sp := fun vs H Q E => spC T K c vs H Q E ∨ ∃ ad F args cs x cs', HoldC T K ad F H cs ∧ SlReps T K ad F H vs args ∧ cx args cs x cs' ∧
  ∀ cls d H' ad', ExtS cs.length ad F H ad' H' → cs.length ≤ ad'.length → HoldC T K ad' F H' cs' → ExRep T K (Mm ad' F) H' cls d x → E cls d H'
abbrev endX (n : Nat) (E : XK) (x : Exc) (cs' : List Cell) : Post := { nx := fun _ => False, rt := fun _ _ => False, ex := fun y S => y = x ∧ S.cs.take n = cs', W := fun cls d _ H => E cls d H }
abbrev cxX (P : Program) (w : World) (K : PySem.W.Frag) (mg : Str → Option Value) (base : Heap) (N : List Str) (qual : Str) (st : Stmt) (f : Addr) (cdv : Value) (A : Around) (outer : List Env) (s : Shared) (H : Hp) (E : XK) : Cx := cxOf (L2.CX P w) P w K mg base N qual (defScope st) f cdv A outer s H E
section
variable {T : Tab} {P : Program} {w : World} {K : PySem.W.Frag} {mg : Str → Option Value} {base : Heap}
theorem fn_okX {x qual : Str} {st : Stmt} {f : Addr} {fd : FuncData} {N ps : List Str} {k : Nat} {c : Ct} {cx : CtX} (F : Fun K x qual st f fd) (Sc : FnScope N ps (defScope st)) (len : ∀ args cs s cs', c args cs s cs' → args.length = ps.length) (lenX : ∀ args cs x cs', cx args cs x cs' → args.length = ps.length)
    (body : ∀ cdv A outer sh H E, Room k (cxX P w K mg base N qual st f cdv A outer sh H E).nox.A → ∀ args cs s cs', c args cs s cs' →
      DSs (cxX P w K mg base N qual st f cdv A outer sh H E).nox T cs.length (st0 N args cs) (defBody st) (endOf cs.length s cs'))
    (bodyX : ∀ cdv A outer sh H E, Room k (cxX P w K mg base N qual st f cdv A outer sh H E).A → Takes (cxX P w K mg base N qual st f cdv A outer sh H E) (fun cls d _ H => E cls d H) → ∀ args cs x cs', cx args cs x cs' →
      DSs (cxX P w K mg base N qual st f cdv A outer sh H E) T cs.length (st0 N args cs) (defBody st) (endX cs.length E x cs')) : FnOk P w K mg base (L2.CX P w) (k + 1) f fd ps (spX T K c cx) := by
  refine F.okX Sc (fun vs H Q E h => ?_) (fun cdv A outer s H vs Q E hr h => ?_)
  · rcases h with ⟨ad, F', args, cs, s, cs', _, r, hc, _⟩ | ⟨ad, F', args, cs, s, cs', _, r, hc, _⟩
    · rw [r.len, len _ _ _ _ hc]
    · rw [r.len, lenX _ _ _ _ hc]
  · rcases h with ⟨ad, F', args, cs, s0, cs', hc, r, h, q⟩ | ⟨ad, F', args, cs, x0, cs', hc, r, h, q⟩
    · refine ⟨_, PSs.nox (body cdv A outer s H E hr args cs s0 cs' h), ad, F', Nat.le_of_eq hc.ln.symm, start_hold hc r, ?_, ?_, fun _ _ _ _ _ _ _ z => z.elim, fun _ _ _ _ _ _ _ z => z.elim, fun _ _ _ _ _ _ _ _ _ _ _ z => z.elim⟩
      · rintro S' σ' H' ad' x hn h' ⟨rfl, e⟩
        subst e
        refine q .non H' (ad'.take cs.length) ⟨by rw [List.take_take, Nat.min_self]; exact x.pre, fun a ha => x.sub a (List.mem_of_mem_take ha), x.keep, x.frm⟩ (by rw [List.length_take]; omega) (h'.hc.take _) Rep.non
      · rintro s2 cs2 v H' ad' x hn c2 r2 ⟨rfl, rfl⟩
        exact q v H' ad' x hn c2 r2
    · have tk : Takes (cxX P w K mg base N qual st f cdv A outer s H E) (fun cls d _ H => E cls d H) := takes_of rfl rfl rfl rfl
      refine ⟨_, bodyX cdv A outer s H E hr tk args cs x0 cs' h, ad, F', Nat.le_of_eq hc.ln.symm, start_hold hc r, fun _ _ _ _ _ _ _ z => z.elim, fun _ _ _ _ _ _ _ _ _ z => z.elim, fun _ _ _ _ _ _ _ z => z.elim, fun _ _ _ _ _ _ _ z => z.elim, ?_⟩
      rintro y S' cls d σ' H' ad' x hn h' er ⟨rfl, e⟩
      subst e
      have kp : Kp (Mm ad' F') H' (Mm (ad'.take cs.length) F') H' := fun a o e z => ⟨e, fun y => z (y.imp List.mem_of_mem_take id)⟩
      refine q cls d H' (ad'.take cs.length) ⟨by rw [List.take_take, Nat.min_self]; exact x.pre, fun a ha => x.sub a (List.mem_of_mem_take ha), x.keep, x.frm⟩ (by rw [List.length_take]; omega) (h'.hc.take _) ?_
      obtain ⟨C, fn, e1, e2, er⟩ := er
      refine ⟨C, fn, e1, e2, er.imp id ?_⟩
      rintro ⟨dd, vs', a1, a2, a3, a4, a5⟩
      exact ⟨dd, vs', a1, (kp _ _ a3 a2).2, a3, a4, a5.kp kp⟩
end
end Dl
namespace Dl
open PySem L2
theorem noA {X : Cx} {es : List Expr} : PA X es (fun _ _ _ => False) := ⟨fun _ _ _ _ _ _ _ z => z.elim⟩
section
variable {X : Cx} {T : Tab} {W : WX} {S S1 S2 : Sta} {e e2 o : Expr} {es : List Expr} {x : Exc} {s : Sl} {pos p apos : Pos} {n : Nat} {P : Post}
theorem spX_at {K : PySem.W.Frag} {ad : List Addr} {F : Addr → Prop} {H : Hp} {cs : List Cell} {vs : List V} {Q : VK} {E : XK} {c : Ct} {cx : CtX} {ds : List D} (hx : cx (ds.map Sl.dat) [] x []) (h : HoldC T K ad F H cs) (r : SlReps T K ad F H vs (ds.map Sl.dat))
    (q : ∀ cls d H' , Ext ad F H ad H' → HoldC T K ad F H' cs → ExRep T K (Mm ad F) H' cls d x → E cls d H') : spX T K c cx vs H Q E := by
  refine .inr ⟨[], Mm ad F, ds.map Sl.dat, [], x, [], frame0 h, SlReps.kp (M := Mm ad F) (kp_in h) r, hx, fun cls d H' ad' x2 _ c2 er => ?_⟩
  obtain ⟨c3, x3⟩ := back0 h c2.tb x2
  refine q cls d H' x3 c3 ?_
  obtain ⟨C, fn, e1, e2, er⟩ := er
  refine ⟨C, fn, e1, e2, er.imp id ?_⟩
  rintro ⟨dd, vs', a1, a2, a3, a4, a5⟩
  exact ⟨dd, vs', a1, fun z => a2 (.inr z), a3, a4, a5.kp kp_out⟩
end
end Dl
namespace Dl
open PySem L2
section
variable {X : Cx} {T : Tab} {n : Nat} {S S1 : Sta} {P : Post} {body suite orelse : List Stmt} {b0 h0' : Stmt} {hs' : List ExceptHandler} {pos pos' np : Pos}
theorem Hold.unset {K : PySem.W.Frag} {ad : List Addr} {F : Addr → Prop} {σ : St} {H : Hp} (h : Hold T K S ad F σ H) (i : Nat) : Hold T K ⟨S.sl.set i none, S.cs⟩ ad F (σ.set i none) H := by
  refine ⟨h.hc, by simp [h.sz], fun j u e => ?_⟩
  have e : (S.sl.set i none)[j]? = some (some u) := e
  by_cases hj : i = j
  · subst hj
    rw [List.getElem?_set] at e
    split at e
    · split at e <;> cases e
    · exact absurd rfl ‹_›
  · rw [List.getElem?_set_ne hj] at e
    obtain ⟨v, hv, r⟩ := h.sl j u e
    exact ⟨v, by rw [List.getElem?_set_ne hj]; exact hv, r⟩
end
end Dl
namespace Dl
open PySem L2
section
variable {X : Cx} {T : Tab} {C g : Addr} {fd : FuncData} {ps : List Str} {k cn : Nat} {c : Ct} {fn : List Str} {ds : List D} {d : D} {cs : List Cell}
theorem run_in1 {pins : List (Addr × Obj)} {σ : St} {H : Hp} {s : Shared} {Q : VK} {us : List Value} {vs : List V} {sp : Sp} (F : FnOk X.prog X.w X.K X.mg X.base CX0 k g fd ps sp) (hr : Room (k + 1) X.A) (hb : Binds X.K fd ps [])
    (I : Inv X pins σ H s) (r : Vals vs us) (h : sp vs H Q E0) : wpAny (model X.prog X.w) X.A.in1 (call (.ref g) us) (EP X pins σ Q) X.xe s := by
  have hl : us.length = ps.length := by rw [← r.length]; exact F.len _ _ _ _ h
  have b := hb s us I.kIn (by rw [List.append_nil]; exact hl)
  rw [List.append_nil] at b
  have e := I.env0
  refine wpAny_call (codeAny_mono (F.run X.A.in1 X.stack s H ⟨us, []⟩ us vs Q E0 hr.in1 ⟨e.frames, e.mod, e.bs, e.bsz, e.funs, e.frf, e.hok, e.bare⟩ b r h) fun r s' hq => ?_)
  cases r with
  | error e => exact False.elim hq
  | ok fl =>
    cases fl with
    | ret u => exact I.after hq
    | next => exact False.elim hq
    | brk => exact False.elim hq
    | cont => exact False.elim hq
end
end Dl
namespace Dl
open PySem L2
section
variable {X : Cx} {T : Tab} {cs : List Cell}
def repS (x : Str) (n : Int) : Str := if n < 1 then Str.empty else if (n == 1 || x.length == 0) = true then x else ⟨(List.replicate n.toNat x.cps).foldl (· ++ ·) #[]⟩
theorem op_mulS : OpR X (binaryOp .Mult) (fun x y H Q => ∃ (z : Str) (n : Int), x = .str z ∧ y = .int n ∧ z.length ≤ 1000 ∧ (-1000 ≤ n ∧ n ≤ 1000) ∧ (repS z n).length ≤ sizeLine ∧ Q (.str (repS z n)) H) := by
  intro pins s σ H x y v u Q I rx ry h
  obtain ⟨z, n, rfl, rfl, hz, ⟨h1, h2⟩, hl, q⟩ := h
  obtain ⟨t, rfl⟩ := rx
  obtain ⟨t2, rfl⟩ := ry
  refine PySem.P.mul_str ?_ (fun a _ => ?_) (fun a _ => ?_) ?_
  · rw [decide_eq_false (by omega), decide_eq_false (by omega)]; rfl
  · have e : (z.length : Int) * n ≤ 1000 * 1000 := Int.mul_le_mul (by omega) h2 (by omega) (by decide)
    have e2 : (z.length : Int) ≤ (2 ^ 63 - 1) / n := (Int.le_ediv_iff_mul_le (by omega)).mpr (by omega)
    omega
  · have e : z.length * n.toNat ≤ 1000 * 1000 := Nat.mul_le_mul hz (by omega)
    have e3 : sizeLine = 16777216 := sizeLine_eq
    exact decide_eq_false (by omega)
  · unfold repS at q hl
    split
    · rename_i h
      rw [if_pos h] at q hl
      exact ⟨hl, .str _, H, I.tok _, ⟨_, rfl⟩, q⟩
    · rename_i h
      rw [if_neg h] at q hl
      split
      · rename_i h'
        rw [if_pos h'] at q hl
        exact ⟨.str _, H, I, ⟨_, rfl⟩, q⟩
      · rename_i h'
        rw [if_neg h'] at q hl
        exact ⟨hl, .str _, H, I.tok _, ⟨_, rfl⟩, q⟩
theorem bin_mulS {x : Str} {n : Int} (h1 : x.length ≤ 1000) (h2 : -1000 ≤ n ∧ n ≤ 1000) (hl : (repS x n).length ≤ sizeLine) : BinD X T .Mult (.dat (.str x)) (.dat (.int n)) cs (.dat (.str (repS x n))) cs := ⟨_, op_mulS, fun ad F H v w Q c r1 r2 q => by
  cases r1
  cases r2
  exact ⟨x, n, rfl, rfl, h1, h2, hl, q _ H ad .refl c Rep.str⟩⟩
theorem cb_intS {x : Str} {n : Int} (h : PySem.intText? x = some n) (hl : x.length ≤ 640) : CalB X T "int" [.dat (.str x)] cs (.dat (.int n)) cs := ⟨_, _, by decide +kernel, .inr ⟨_, rfl⟩, call_int_str, fun ad F H vs Q c r q => by
  match vs, r with
  | [v], r =>
    have r1 := r.1
    cases r1
    exact ⟨x, n, rfl, h, hl, q _ H ad .refl c Rep.int⟩⟩
end
end Dl
namespace Dl
open PySem L2
abbrev Sls := List (Option Sl)
abbrev RV := Sl → List Cell → Prop
abbrev RB := Bool → List Cell → Prop
abbrev RA := List Sl → List Cell → Prop
abbrev RX := Exc → List Cell → Prop
abbrev WpE := Sls → List Cell → RV → RX → Prop
abbrev WpT := Sls → List Cell → RB → RX → Prop
abbrev WpA := Sls → List Cell → RA → RX → Prop
structure Br (b : Bool) (p q : Prop) : Prop where
  t : b = true → p
  f : b = false → q
def noX : RX := fun _ _ => False
def W0 : WX := fun _ _ _ _ => False
theorem tk0 {X : Cx} : Takes X W0 := fun u s' ⟨_, _, _, _, _, _, _, _, _, _, _, _, _, _, _, _, w⟩ => w.elim
def Raz (T : Tab) (K : PySem.W.Frag) (W : WX) (σ : St) (ad : List Addr) (F : Addr → Prop) (H : Hp) (sl : Sls) (Rx : RX) : Prop := ∀ x c cls d H' ad', Rx x c → Ext ad F H ad' H' → Hold T K ⟨sl, c⟩ ad' F σ H' → ExRep T K (Mm ad' F) H' cls d x → W cls d σ H'
theorem Raz.on {T : Tab} {K : PySem.W.Frag} {W : WX} {σ : St} {ad ad1 : List Addr} {F : Addr → Prop} {H H1 : Hp} {sl : Sls} {Rx : RX} {S : Sta} (q : Raz T K W σ ad F H sl Rx) (x1 : Ext ad F H ad1 H1) (h1 : Hold T K S ad1 F σ H1) : Raz T K W σ ad1 F H1 sl Rx := fun x c cls d H' ad' hx x2 h2 er => q x c cls d H' ad' hx (x1.trans h1.hc x2) h2 er
theorem Raz.no {T : Tab} {K : PySem.W.Frag} {W : WX} {σ : St} {ad : List Addr} {F : Addr → Prop} {H : Hp} {sl : Sls} : Raz T K W σ ad F H sl noX := fun _ _ _ _ _ _ z => z.elim
def tJ (T : Tab) (K : PySem.W.Frag) (W : WX) (w : WpE) : TE := fun σ H Q => ∃ ad F sl cs R Rx, Hold T K ⟨sl, cs⟩ ad F σ H ∧ w sl cs R Rx ∧
  (∀ s c v H' ad', R s c → Ext ad F H ad' H' → Hold T K ⟨sl, c⟩ ad' F σ H' → SlRep T K ad' F H' v s → Q v H') ∧ Raz T K W σ ad F H sl Rx
def tJT (T : Tab) (K : PySem.W.Frag) (W : WX) (w : WpT) : TT := fun σ H Q => ∃ ad F sl cs R Rx, Hold T K ⟨sl, cs⟩ ad F σ H ∧ w sl cs R Rx ∧
  (∀ b c H' ad', R b c → Ext ad F H ad' H' → Hold T K ⟨sl, c⟩ ad' F σ H' → Q b H') ∧ Raz T K W σ ad F H sl Rx
def tJA (T : Tab) (K : PySem.W.Frag) (W : WX) (w : WpA) : TA := fun σ H Q => ∃ ad F sl cs R Rx, Hold T K ⟨sl, cs⟩ ad F σ H ∧ w sl cs R Rx ∧
  (∀ ss c vs H' ad', R ss c → Ext ad F H ad' H' → Hold T K ⟨sl, c⟩ ad' F σ H' → SlReps T K ad' F H' vs ss → Q vs H') ∧ Raz T K W σ ad F H sl Rx
def JE (X : Cx) (T : Tab) (W : WX) (e : Expr) (w : WpE) : Prop := PE X e (tJ T X.K W w)
def JT (X : Cx) (T : Tab) (W : WX) (e : Expr) (w : WpT) : Prop := PT X e (tJT T X.K W w)
def JW (X : Cx) (T : Tab) (W : WX) (e : Expr) (w : WpT) : Prop := PW X e (tJT T X.K W w)
def JA (X : Cx) (T : Tab) (W : WX) (es : List Expr) (w : WpA) : Prop := PA X es (tJA T X.K W w)
abbrev W2 := Sl → Sl → List Cell → RV → Prop
def JBin (X : Cx) (T : Tab) (op : Operator) (w : W2) : Prop := ∀ s1 s2 cs R, w s1 s2 cs R → ∃ s cs', BinD X T op s1 s2 cs s cs' ∧ R s cs'
def JCmp (X : Cx) (T : Tab) (op : CmpOp) (w : W2) : Prop := ∀ s1 s2 cs R, w s1 s2 cs R → ∃ s cs', CmpD X T op s1 s2 cs s cs' ∧ R s cs'
def JIx (X : Cx) (T : Tab) (w : W2) : Prop := ∀ s1 s2 cs R, w s1 s2 cs R → ∃ s cs', IxD X T s1 s2 cs s cs' ∧ R s cs'
section
variable {X : Cx} {T : Tab}
def dats : List Sl → Option (List D)
  | [] => some []
  | .dat d :: r => (dats r).map (d :: ·)
  | .cel _ :: _ => none
theorem dats_eq : ∀ {ss : List Sl} {ds : List D}, dats ss = some ds → ss = ds.map Sl.dat
  | [], ds, h => by cases h; rfl
  | .dat d :: r, ds, h => by
    cases q : dats r with
    | none => simp [dats, q] at h
    | some l =>
      simp [dats, q] at h
      subst h
      rw [dats_eq q]
      rfl
  | .cel _ :: _, _, h => nomatch h
def wDats (ss : List Sl) (k : List D → Prop) : Prop := match dats ss with
  | some ds => k ds
  | none => False
theorem wDats_of {ss : List Sl} {k : List D → Prop} (h : wDats ss k) : ∃ ds, ss = ds.map Sl.dat ∧ k ds := by
  unfold wDats at h
  split at h
  · rename_i ds e
    exact ⟨ds, dats_eq e, h⟩
  · exact h.elim
def isB (s : Sl) (k : Bool → Prop) : Prop := match s with
  | .dat (.bl b) => k b
  | _ => False
theorem isB_of {s : Sl} {k : Bool → Prop} (h : isB s k) : ∃ b, s = .dat (.bl b) ∧ k b := by
  unfold isB at h
  split at h
  · exact ⟨_, rfl, h⟩
  · exact h.elim
def truW (s : Sl) (cs : List Cell) (k : Bool → Prop) : Prop := match s with
  | .dat (.bl b) => k b
  | .dat (.int i) => k (i != 0)
  | .dat .non => k false
  | .dat (.lst ds) => k (!ds.isEmpty)
  | .dat (.tup ds) => k (!ds.isEmpty)
  | .dat (.str x) => x.length ≤ sizeLine ∧ k ((x.length : Int) != 0)
  | .cel j => match cs[j]? with
    | some (.lst ds) => k (!ds.isEmpty)
    | some (.dct kvs) => k (!kvs.isEmpty)
    | _ => False
  | _ => False
def TruS (T : Tab) (K : PySem.W.Frag) (s : Sl) (cs : List Cell) (k : Bool) : Prop := ∀ ad F H v, HoldC T K ad F H cs → SlRep T K ad F H v s → TruV K v H k
theorem truW_of {K : PySem.W.Frag} {s : Sl} {cs : List Cell} {k : Bool → Prop} (h : truW s cs k) : ∃ b, TruS T K s cs b ∧ k b := by
  have lst : ∀ {M : Addr → Prop} {H : Hp} {vs : List V} {ds : List D}, Reps T K M H vs ds → vs.isEmpty = ds.isEmpty := fun r => by cases r <;> rfl
  unfold truW at h
  split at h
  · exact ⟨_, fun ad F H v c r => by cases r; exact rfl, h⟩
  · exact ⟨_, fun ad F H v c r => by cases r; exact rfl, h⟩
  · exact ⟨_, fun ad F H v c r => by cases r; exact rfl, h⟩
  · exact ⟨_, fun ad F H v c r => by
      cases r with
      | lst n e r => exact .inl ⟨_, .inl (.inl e), by rw [lst r]⟩, h⟩
  · exact ⟨_, fun ad F H v c r => by
      cases r with
      | tup e r => exact .inr (.inl ⟨_, e.sq, by rw [lst r]⟩), h⟩
  · exact ⟨_, fun ad F H v c r => by cases r; exact ⟨h.1, rfl⟩, h.2⟩
  · rename_i j
    split at h
    · rename_i ds e
      exact ⟨_, fun ad F H v c r => by
        obtain ⟨a, ha, rfl⟩ := r
        obtain ⟨vs, e1, r1⟩ := c.ce j a _ ha e
        exact .inl ⟨_, .inl (.inl e1), by rw [lst r1]⟩, h⟩
    · rename_i kvs e
      exact ⟨_, fun ad F H v c r => by
        obtain ⟨a, ha, rfl⟩ := r
        obtain ⟨vs, e1, hl, r1⟩ := c.ce j a _ ha e
        refine .inr (.inr ⟨_, e1, ?_⟩)
        cases kvs with
        | nil =>
          cases vs with
          | nil => rfl
          | cons v vs => cases hl
        | cons q r =>
          cases vs with
          | nil => cases hl
          | cons v vs => rfl, h⟩
    · exact h.elim
  · exact h.elim
def lstOf (cs : List Cell) : Sl → Option (List D)
  | .dat (.lst ds) => some ds
  | .cel k => match cs[k]? with
    | some (.lst ds) => some ds
    | _ => none
  | _ => none
theorem lstOf_is {cs : List Cell} {s : Sl} {ds : List D} (h : lstOf cs s = some ds) : isLst cs ds s := by
  unfold lstOf at h
  split at h
  · cases h; exact rfl
  · split at h
    · rename_i e
      cases h; exact e
    · cases h
  · cases h
def wL (cs : List Cell) (s : Sl) (k : List D → Prop) : Prop := match lstOf cs s with
  | some ds => k ds
  | none => False
theorem wL_of {cs : List Cell} {s : Sl} {k : List D → Prop} (h : wL cs s k) : ∃ ds, isLst cs ds s ∧ k ds := by
  unfold wL at h
  split at h
  · rename_i ds e
    exact ⟨ds, lstOf_is e, h⟩
  · exact h.elim
def addW : W2 := fun s1 s2 cs R => match s1, s2 with
  | .dat (.int i), .dat (.int j) => R (.dat (.int (i + j))) cs
  | .dat (.str x), .dat (.str y) => x.length + y.length ≤ sizeLine ∧ R (.dat (.str (x ++ y))) cs
  | .dat (.tup ds), .dat (.tup es) => ds.length + es.length ≤ sizeLine ∧ R (.dat (.tup (ds ++ es))) cs
  | s1, s2 => wL cs s1 fun ds => wL cs s2 fun es => ds.length + es.length ≤ sizeLine ∧ R (.dat (.lst (ds ++ es))) cs
theorem jb_add : JBin X T .Add addW := fun s1 s2 cs R h => by
  unfold addW at h
  split at h
  · exact ⟨_, _, bin_add, h⟩
  · exact ⟨_, _, bin_addS h.1, h.2⟩
  · exact ⟨_, _, bin_addT h.1, h.2⟩
  · obtain ⟨ds, h1, h⟩ := wL_of h
    obtain ⟨es, h2, h⟩ := wL_of h
    exact ⟨_, _, bin_addL h1 h2 h.1, h.2⟩
def intW (C : Int → Int → Prop) (g : Int → Int → D) : W2 := fun s1 s2 cs R => match s1, s2 with
  | .dat (.int i), .dat (.int j) => C i j ∧ R (.dat (g i j)) cs
  | _, _ => False
def intW0 (g : Int → Int → D) : W2 := fun s1 s2 cs R => match s1, s2 with
  | .dat (.int i), .dat (.int j) => R (.dat (g i j)) cs
  | _, _ => False
def subW : W2 := intW0 fun i j => .int (i - j)
theorem jb_sub : JBin X T .Sub subW := fun s1 s2 cs R h => by
  unfold subW intW0 at h
  split at h
  · exact ⟨_, _, bin_sub, h⟩
  · exact h.elim
def MulC (i j : Int) : Prop := IntMulOk i j
def mulW : W2 := fun s1 s2 cs R => match s1, s2 with
  | .dat (.int i), .dat (.int j) => MulC i j ∧ R (.dat (.int (i * j))) cs
  | .dat (.str x), .dat (.int n) => x.length ≤ 1000 ∧ (-1000 ≤ n ∧ n ≤ 1000) ∧ (repS x n).length ≤ sizeLine ∧ R (.dat (.str (repS x n))) cs
  | s1, .dat (.int j) => wL cs s1 fun ds => (-(2 ^ 63) ≤ j ∧ j < 2 ^ 63 ∧ ds.length * j.toNat ≤ sizeLine) ∧ R (.dat (.lst (List.replicate j.toNat ds).flatten)) cs
  | _, _ => False
theorem jb_mul : JBin X T .Mult mulW := fun s1 s2 cs R h => by
  unfold mulW at h
  split at h
  · exact ⟨_, _, bin_mul h.1, h.2⟩
  · exact ⟨_, _, bin_mulS h.1 h.2.1 h.2.2.1, h.2.2.2⟩
  · obtain ⟨ds, h1, ⟨h2, h3, h4⟩, h⟩ := wL_of h
    exact ⟨_, _, bin_repL h1 h2 h3 h4, h⟩
  · exact h.elim
def DivC (i j : Int) : Prop := CDivW i j
def fdivW : W2 := intW DivC fun i j => .int (i / j)
theorem jb_fdiv : JBin X T .FloorDiv fdivW := fun s1 s2 cs R h => by
  unfold fdivW intW at h
  split at h
  · exact ⟨_, _, bin_fdiv h.1, h.2⟩
  · exact h.elim
def ModC (_ j : Int) : Prop := 0 < j
def modW : W2 := intW ModC fun i j => .int (i % j)
theorem jb_mod : JBin X T .Mod modW := fun s1 s2 cs R h => by
  unfold modW intW at h
  split at h
  · exact ⟨_, _, bin_mod h.1, h.2⟩
  · exact h.elim
def PowC (i j : Int) : Prop := CPow i j
def powW : W2 := intW PowC fun i j => .int (i ^ j.toNat)
theorem jb_pow : JBin X T .Pow powW := fun s1 s2 cs R h => by
  unfold powW intW at h
  split at h
  · exact ⟨_, _, bin_pow h.1, h.2⟩
  · exact h.elim
def ltW : W2 := intW0 fun i j => .bl (decide (i < j))
def leW : W2 := intW0 fun i j => .bl (decide (i ≤ j))
def gtW : W2 := intW0 fun i j => .bl (decide (j < i))
def geW : W2 := intW0 fun i j => .bl (decide (j ≤ i))
theorem jc_lt : JCmp X T .Lt ltW := fun s1 s2 cs R h => by
  unfold ltW intW0 at h
  split at h
  · exact ⟨_, _, cmp_lt, h⟩
  · exact h.elim
theorem jc_le : JCmp X T .LtE leW := fun s1 s2 cs R h => by
  unfold leW intW0 at h
  split at h
  · exact ⟨_, _, cmp_le, h⟩
  · exact h.elim
theorem jc_gt : JCmp X T .Gt gtW := fun s1 s2 cs R h => by
  unfold gtW intW0 at h
  split at h
  · exact ⟨_, _, cmp_gt, h⟩
  · exact h.elim
theorem jc_ge : JCmp X T .GtE geW := fun s1 s2 cs R h => by
  unfold geW intW0 at h
  split at h
  · exact ⟨_, _, cmp_ge, h⟩
  · exact h.elim
def eqW (neg : Bool) : W2 := fun s1 s2 cs R => match s1, s2 with
  | .dat (.int i), .dat (.int j) => R (.dat (.bl (neg.xor (decide (i = j))))) cs
  | .dat (.str i), .dat (.str j) => R (.dat (.bl (neg.xor (decide (i = j))))) cs
  | .dat (.bl i), .dat (.bl j) => R (.dat (.bl (neg.xor (i == j)))) cs
  | .dat d1, .dat d2 => okD d1 = true ∧ okD d2 = true ∧ R (.dat (.bl (neg.xor (eqD d1 d2)))) cs
  | _, _ => False
theorem jc_eq (hu : X.A.units + 64 < cLine) : JCmp X T .Eq (eqW false) := fun s1 s2 cs R h => by
  unfold eqW at h
  split at h
  · exact ⟨_, _, cmp_eqI, by simpa using h⟩
  · exact ⟨_, _, cmp_eqS, by simpa using h⟩
  · exact ⟨_, _, cmp_eqB, by simpa using h⟩
  · exact ⟨_, _, cmp_eqD hu h.1 h.2.1, by simpa using h.2.2⟩
  · exact h.elim
theorem jc_ne (hu : X.A.units + 64 < cLine) : JCmp X T .NotEq (eqW true) := fun s1 s2 cs R h => by
  unfold eqW at h
  split at h
  · exact ⟨_, _, cmp_neI, by simpa using h⟩
  · exact ⟨_, _, cmp_neS, by simpa using h⟩
  · exact ⟨_, _, cmp_neB, by simpa using h⟩
  · exact ⟨_, _, cmp_neD hu h.1 h.2.1, by simpa using h.2.2⟩
  · exact h.elim
def inW' (neg : Bool) : W2 := fun s1 s2 cs R => match s1, s2 with
  | .dat d, .dat (.tup ds) => match fv d, fvs ds with
    | some v, some ws => R (.dat (.bl (neg.xor (inV v ws)))) cs
    | _, _ => False
  | _, _ => False
theorem jc_notin : JCmp X T .NotIn (inW' true) := fun s1 s2 cs R h => by
  unfold inW' at h
  split at h
  · split at h
    · rename_i h1 h2
      exact ⟨_, _, cmp_ninT h1 h2, by simpa using h⟩
    · exact h.elim
  · exact h.elim
def atW (ds : List D) (i : Int) (k : D → Prop) : Prop := match atI ds i with
  | some d => k d
  | none => False
theorem atW_of {ds : List D} {i : Int} {k : D → Prop} (h : atW ds i k) : ∃ d, atI ds i = some d ∧ k d := by
  unfold atW at h
  split at h
  · exact ⟨_, ‹_›, h⟩
  · exact h.elim
theorem atW_i {ds : List D} {i : Int} {k : D → Prop} {d : D} (e : atI ds i = some d) (h : k d) : atW ds i k := by
  unfold atW
  rw [e]
  exact h
def ixW : W2 := fun s1 s2 cs R => match s1, s2 with
  | .dat (.lst ds), .dat (.int i) => atW ds i fun d => R (.dat d) cs
  | .dat (.tup ds), .dat (.int i) => atW ds i fun d => R (.dat d) cs
  | .dat (.scr ds), .dat (.int i) => atW ds i fun d => R (.dat d) cs
  | .dat (.str x), .dat (.int i) => x.length ≤ sizeLine ∧ ∃ c, atI x.cps.toList i = some c ∧ R (.dat (.str ⟨#[c]⟩)) cs
  | .cel k, .dat (.int i) => match cs[k]? with
    | some (.lst ds) => atW ds i fun d => R (.dat d) cs
    | _ => False
  | _, _ => False
theorem ji_ix : JIx X T ixW := fun s1 s2 cs R h => by
  unfold ixW at h
  split at h
  · obtain ⟨d, e, h⟩ := atW_of h; exact ⟨_, _, ix_L e, h⟩
  · obtain ⟨d, e, h⟩ := atW_of h; exact ⟨_, _, ix_T e, h⟩
  · obtain ⟨d, e, h⟩ := atW_of h; exact ⟨_, _, ix_R e, h⟩
  · obtain ⟨hl, c, e, h⟩ := h; exact ⟨_, _, ix_S hl e, h⟩
  · split at h
    · rename_i e
      obtain ⟨d, e1, h⟩ := atW_of h; exact ⟨_, _, ix_C e e1, h⟩
    · exact h.elim
  · exact h.elim
def slcW (s1 : Sl) (l u : Option Int) (cs : List Cell) (R : RV) : Prop := match s1 with
  | .dat (.tup ds) => R (.dat (.tup (cutD ds l u))) cs
  | s1 => wL cs s1 fun ds => R (.dat (.lst (cutD ds l u))) cs
abbrev WC := List Sl → List Cell → RV → Prop
structure JCall (X : Cx) (T : Tab) (x : Str) (w : WC) : Prop where
  bo : ∃ u, bootBuiltins x = some u ∧ ((∃ id, u = .builtin id) ∨ ∃ id, u = .type id)
  run : ∀ ss cs R, w ss cs R → ∃ s cs', CalB X T x ss cs s cs' ∧ R s cs'
def lenW : WC := fun ss cs R => match ss with
  | [.dat (.tup ds)] => R (.dat (.int ds.length)) cs
  | [.dat (.scr ds)] => R (.dat (.int ds.length)) cs
  | [.dat (.str x)] => x.length ≤ sizeLine ∧ R (.dat (.int x.length)) cs
  | [s] => wL cs s fun ds => R (.dat (.int ds.length)) cs
  | _ => False
theorem jc_len : JCall X T "len" lenW := ⟨⟨_, PySem.boot_len, .inl ⟨_, rfl⟩⟩, fun ss cs R h => by
  unfold lenW at h
  split at h
  · exact ⟨_, _, cb_lenT, h⟩
  · exact ⟨_, _, cb_lenR, h⟩
  · exact ⟨_, _, cb_lenS h.1, h.2⟩
  · obtain ⟨ds, h1, h⟩ := wL_of h
    exact ⟨_, _, cb_len h1, h⟩
  · exact h.elim⟩
def intW1 : WC := fun ss cs R => match ss with
  | [.dat (.int i)] => R (.dat (.int i)) cs
  | [.dat (.bl k)] => R (.dat (.int (if k then 1 else 0))) cs
  | [.dat (.str x)] => x.length ≤ 640 ∧ ∃ n, PySem.intText? x = some n ∧ R (.dat (.int n)) cs
  | _ => False
theorem jc_int : JCall X T "int" intW1 := ⟨⟨.type "int", by decide +kernel, .inr ⟨_, rfl⟩⟩, fun ss cs R h => by
  unfold intW1 at h
  split at h
  · exact ⟨_, _, cb_int, h⟩
  · exact ⟨_, _, cb_intB, h⟩
  · obtain ⟨hl, n, e, h⟩ := h; exact ⟨_, _, cb_intS e hl, h⟩
  · exact h.elim⟩
def absW : WC := fun ss cs R => match ss with
  | [.dat (.int i)] => R (.dat (.int (if i < 0 then -i else i))) cs
  | _ => False
theorem jc_abs : JCall X T "abs" absW := ⟨⟨.builtin "abs", by decide +kernel, .inl ⟨_, rfl⟩⟩, fun ss cs R h => by
  unfold absW at h
  split at h
  · exact ⟨_, _, cb_abs, h⟩
  · exact h.elim⟩
def tupleW : WC := fun ss cs R => match ss with
  | [.dat (.tup ds)] => R (.dat (.tup ds)) cs
  | [s] => wL cs s fun ds => R (.dat (.tup ds)) cs
  | _ => False
theorem jc_tuple : JCall X T "tuple" tupleW := ⟨⟨.type "tuple", by decide +kernel, .inr ⟨_, rfl⟩⟩, fun ss cs R h => by
  unfold tupleW at h
  split at h
  · exact ⟨_, _, cb_tupT, h⟩
  · obtain ⟨ds, h1, h⟩ := wL_of h
    exact ⟨_, _, cb_tupL h1, h⟩
  · exact h.elim⟩
end
end Dl
namespace Dl
open PySem L2
section
variable {X : Cx} {T : Tab} {W : WX} {a b c e o : Expr} {es : List Expr} {pos p p2 : Pos} {wa wb w : WpE} {wt wt1 wt2 : WpT} {wA : WpA} {i : Int} {rest : List Expr} {lo hi : Option Expr}
theorem je_of (h : ∀ sl cs (R : RV) Rx, w sl cs R Rx → ∃ s cs', DE X T ⟨sl, cs⟩ e s ⟨sl, cs'⟩ ∧ R s cs') : JE X T W e w := ⟨fun pins s σ H Q I ⟨ad, F, sl, cs, R, Rx, h0, hw, q, qx⟩ => by
  obtain ⟨s, cs', d, hR⟩ := h sl cs R Rx hw
  exact d.run pins _ σ H Q I ⟨ad, F, h0, fun v H' ad' x1 h1 r1 => q s cs' v H' ad' hR x1 h1 r1⟩⟩
def wName (i : Nat) : WpE := fun sl cs R _ => match sl[i]? with
  | some (some s) => R s cs
  | _ => False
theorem je_name (i : Nat) {x : Str} (hN : X.N[i]? = some x := by rfl) (hv : Vis X.env.scope x := by first | exact Or.inl rfl | exact Or.inr (Or.inl rfl) | exact Or.inr (Or.inr rfl)) (hd : (x == ("__debug__" : Str)) = false := by decide)
    (hcd : (x == ("__classdict__" : Str)) = false := by decide) : JE X T W (.Name x pos) (wName i) := je_of fun sl cs R Rx h => by
  unfold wName at h
  split at h
  · rename_i s e
    exact ⟨s, cs, de_name i e hN hv hd hcd, h⟩
  · exact h.elim
def wCon (d : D) : WpE := fun _ cs R _ => R (.dat d) cs
theorem je_int {k : Nat} : JE X T W (.Constant (.int i) k pos) (wCon (.int i)) := je_of fun sl cs R Rx h => ⟨_, cs, de_int, h⟩
theorem je_bl {b : Bool} {k : Nat} : JE X T W (.Constant (.bool b) k pos) (wCon (.bl b)) := je_of fun sl cs R Rx h => ⟨_, cs, de_bl, h⟩
theorem je_str {x : Str} {k : Nat} : JE X T W (.Constant (.str x) k pos) (wCon (.str x)) := je_of fun sl cs R Rx h => ⟨_, cs, de_str, h⟩
theorem opAll {f : Value → Value → Sem Value} : OpR X f (fun x y H Q => ∃ r, OpR X f r ∧ r x y H Q) := fun pins s σ H x y v u Q I rx ry ⟨r, o, h⟩ => o pins s σ H x y v u Q I rx ry h
theorem ixAll : IxR X (fun x y H Q => ∃ r, IxR X r ∧ r x y H Q) := fun v1 v2 pins s σ H x y v u Q I rx ry ⟨r, o, h⟩ => o v1 v2 pins s σ H x y v u Q I rx ry h
theorem callAll {f : Value} : CallR X f (fun xs H Q => ∃ r, CallR X f r ∧ r xs H Q) := fun pins s σ H xs us Q I rx ⟨r, o, h⟩ => o pins s σ H xs us Q I rx h
def wTwo (wa wb : WpE) (o : W2) : WpE := fun sl cs R Rx => wa sl cs (fun s1 c1 => wb sl c1 (fun s2 c2 => o s1 s2 c2 R) Rx) Rx
theorem je_bin {op : Operator} {ow : W2} (ho : JBin X T op ow) (ha : JE X T W a wa) (hb : JE X T W b wb) : JE X T W (.BinOp a op b pos) (wTwo wa wb ow) :=
  weak (pe_op opAll ha hb) fun σ H Q ⟨ad, F, sl, cs, R, Rx, h0, hw, q, qx⟩ => ⟨ad, F, sl, cs, _, Rx, h0, hw, fun s1 c1 v H1 ad1 hw1 x1 h1 r1 => ⟨ad1, F, sl, c1, _, Rx, h1, hw1, fun s2 c2 v2 H2 ad2 hw2 x2 h2 r2 => by
    obtain ⟨s, c3, ⟨r, o1, o2⟩, hR⟩ := ho _ _ _ _ hw2
    exact ⟨r, o1, o2 ad2 F H2 v v2 Q h2.hc (r1.ext x2) r2 fun z H3 ad3 x3 k3 r3 => q s c3 z H3 ad3 hR (x1.trans h1.hc (x2.trans h2.hc x3)) (h2.to x3 k3) r3⟩, qx.on x1 h1⟩, qx⟩
theorem je_cmp {op : CmpOp} {ow : W2} (ho : JCmp X T op ow) (ha : JE X T W a wa) (hb : JE X T W b wb) (hm : behindInMarks op b = false := by first | exact nomark _ | rfl) : JE X T W (.Compare a [op] [b] pos) (wTwo wa wb ow) :=
  weak (pe_cmpR opAll ha hb hm) fun σ H Q ⟨ad, F, sl, cs, R, Rx, h0, hw, q, qx⟩ => ⟨ad, F, sl, cs, _, Rx, h0, hw, fun s1 c1 v H1 ad1 hw1 x1 h1 r1 => ⟨ad1, F, sl, c1, _, Rx, h1, hw1, fun s2 c2 v2 H2 ad2 hw2 x2 h2 r2 => by
    obtain ⟨s, c3, ⟨r, o1, o2⟩, hR⟩ := ho _ _ _ _ hw2
    exact ⟨r, o1, o2 ad2 F H2 v v2 Q h2.hc (r1.ext x2) r2 fun z H3 ad3 x3 k3 r3 => q s c3 z H3 ad3 hR (x1.trans h1.hc (x2.trans h2.hc x3)) (h2.to x3 k3) r3⟩, qx.on x1 h1⟩, qx⟩
theorem je_sub {ow : W2} (ho : JIx X T ow) (ha : JE X T W a wa) (hb : JE X T W b wb) (hp : PlainIx b := by intro _ _; rfl) : JE X T W (.Subscript a b pos) (wTwo wa wb ow) :=
  weak (pe_ix ixAll ha hb hp) fun σ H Q ⟨ad, F, sl, cs, R, Rx, h0, hw, q, qx⟩ => ⟨ad, F, sl, cs, _, Rx, h0, hw, fun s1 c1 v H1 ad1 hw1 x1 h1 r1 => ⟨ad1, F, sl, c1, _, Rx, h1, hw1, fun s2 c2 v2 H2 ad2 hw2 x2 h2 r2 => by
    obtain ⟨s, c3, ⟨r, o1, o2⟩, hR⟩ := ho _ _ _ _ hw2
    exact ⟨r, o1, o2 ad2 F H2 v v2 Q h2.hc (r1.ext x2) r2 fun z H3 ad3 x3 k3 r3 => q s c3 z H3 ad3 hR (x1.trans h1.hc (x2.trans h2.hc x3)) (h2.to x3 k3) r3⟩, qx.on x1 h1⟩, qx⟩
def wNil : WpA := fun sl cs R _ => R [] cs
def wCons (wa : WpE) (wA : WpA) : WpA := fun sl cs R Rx => wa sl cs (fun s c1 => wA sl c1 (fun ss c2 => R (s :: ss) c2) Rx) Rx
theorem ja_nil : JA X T W [] wNil := weakA pa_nil fun σ H Q ⟨ad, F, sl, cs, R, Rx, h0, hw, q, qx⟩ => q [] cs [] H ad hw .refl h0 trivial
theorem ja_cons (ha : JE X T W e w) (hr : JA X T W es wA) (hs : starEach (e :: es) X.env = (false, eval e X.env) :: starEach es X.env := by rfl) : JA X T W (e :: es) (wCons w wA) :=
  weakA (pa_cons ha hr hs) fun σ H Q ⟨ad, F, sl, cs, R, Rx, h0, hw, q, qx⟩ => ⟨ad, F, sl, cs, _, Rx, h0, hw, fun s1 c1 v H1 ad1 hw1 x1 h1 r1 => ⟨ad1, F, sl, c1, _, Rx, h1, hw1, fun ss c2 vs H2 ad2 hw2 x2 h2 r2 => q _ c2 _ H2 ad2 hw2 (x1.trans h1.hc x2) h2 ⟨r1.ext x2, r2⟩, qx.on x1 h1⟩, qx⟩
def wTup (wA : WpA) : WpE := fun sl cs R Rx => wA sl cs (fun ss c1 => wDats ss fun ds => ds.length ≤ sizeLine ∧ R (.dat (.tup ds)) c1) Rx
theorem je_tup {k : Nat} (ha : JA X T W es wA) : JE X T W (.Tuple es k pos) (wTup wA) :=
  weak (pe_tup ha) fun σ H Q ⟨ad, F, sl, cs, R, Rx, h0, hw, q, qx⟩ => ⟨ad, F, sl, cs, _, Rx, h0, hw, fun ss c1 vs H1 ad1 hw1 x1 h1 r1 => by
    obtain ⟨ds, rfl, hl, hR⟩ := wDats_of hw1
    refine ⟨by rw [r1.dats.length]; exact hl, fun p hp => ?_⟩
    obtain ⟨c, x2⟩ := h1.hc.newo (o := .tup vs) hp
    exact q _ c1 _ _ ad1 hR (x1.trans h1.hc x2) (h1.to x2 c) (.tup (vs := vs) (.inl ⟨h1.hc.new hp, .inl upd_same⟩) (r1.dats.kp x2.kp)), qx⟩
def wLst (wA : WpA) : WpE := fun sl cs R Rx => wA sl cs (fun ss c1 => wDats ss fun ds => ds.length ≤ sizeLine ∧ R (.dat (.lst ds)) c1) Rx
theorem je_lst (ha : JA X T W es wA) : JE X T W (.List es pos) (wLst wA) :=
  weak (pe_lst ha) fun σ H Q ⟨ad, F, sl, cs, R, Rx, h0, hw, q, qx⟩ => ⟨ad, F, sl, cs, _, Rx, h0, hw, fun ss c1 vs H1 ad1 hw1 x1 h1 r1 => by
    obtain ⟨ds, rfl, hl, hR⟩ := wDats_of hw1
    exact ⟨by rw [r1.dats.length]; exact hl, fun p hp => new_lst h1.hc r1.dats (fun z H' ad' x2 k2 r2 => q _ c1 z H' ad' hR (x1.trans h1.hc x2) (h1.to x2 k2) r2) hp⟩, qx⟩
def wLstC (wA : WpA) : WpE := fun sl cs R Rx => wA sl cs (fun ss c1 => wDats ss fun ds => ds.length ≤ sizeLine ∧ R (.cel c1.length) (c1 ++ [.lst ds])) Rx
theorem je_lstC (ha : JA X T W es wA) : JE X T W (.List es pos) (wLstC wA) :=
  weak (pe_lst ha) fun σ H Q ⟨ad, F, sl, cs, R, Rx, h0, hw, q, qx⟩ => ⟨ad, F, sl, cs, _, Rx, h0, hw, fun ss c1 vs H1 ad1 hw1 x1 h1 r1 => by
    obtain ⟨ds, rfl, hl, hR⟩ := wDats_of hw1
    exact ⟨by rw [r1.dats.length]; exact hl, fun p hp => new_lstC h1.hc r1.dats (fun z H' ad' x2 k2 r2 => q _ _ z H' ad' hR (x1.trans h1.hc x2) (h1.to x2 k2) r2) hp⟩, qx⟩
def wTru (w : WpE) : WpT := fun sl cs R Rx => w sl cs (fun s c => truW s c fun b => R b c) Rx
theorem jt_val (h : JE X T W e w) (he : ∀ whole, isTrue e X.env whole = (do let v ← whole; standAt e.pos; holding [v] (truthy v)) := by intro _; rfl) : JT X T W e (wTru w) :=
  weakT (pt_truth h he) fun σ H Q ⟨ad, F, sl, cs, R, Rx, h0, hw, q, qx⟩ => ⟨ad, F, sl, cs, _, Rx, h0, hw, fun s1 c1 v H1 ad1 hw1 x1 h1 r1 => by
    obtain ⟨b, tb, hR⟩ := truW_of (T := T) (K := X.K) hw1
    exact ⟨b, tb ad1 F H1 v h1.hc r1, q b c1 H1 ad1 hR x1 h1⟩, qx⟩
def wBl (w : WpE) : WpT := fun sl cs R Rx => w sl cs (fun s c => isB s fun b => R b c) Rx
theorem jt_cmp {op : CmpOp} {ow : W2} (ho : JCmp X T op ow) (ha : JE X T W a wa) (hb : JE X T W b wb) (hm : behindInMarks op b = false := by first | exact nomark _ | rfl) : JT X T W (.Compare a [op] [b] pos) (wBl (wTwo wa wb ow)) :=
  weakT (pt_cmpR opAll ha hb hm) fun σ H Q ⟨ad, F, sl, cs, R, Rx, h0, hw, q, qx⟩ => ⟨ad, F, sl, cs, _, Rx, h0, hw, fun s1 c1 v H1 ad1 hw1 x1 h1 r1 => ⟨ad1, F, sl, c1, _, Rx, h1, hw1, fun s2 c2 v2 H2 ad2 hw2 x2 h2 r2 => by
    obtain ⟨s, c3, ⟨r, o1, o2⟩, hR⟩ := ho _ _ _ _ hw2
    obtain ⟨k, rfl, hR⟩ := isB_of hR
    refine ⟨r, o1, o2 ad2 F H2 v v2 _ h2.hc (r1.ext x2) r2 fun z H3 ad3 x3 k3 r3 => ?_⟩
    cases r3
    exact ⟨k, rfl, q k c3 H3 ad3 hR (x1.trans h1.hc (x2.trans h2.hc x3)) (h2.to x3 k3)⟩, qx.on x1 h1⟩, qx⟩
def wNotT (wt : WpT) : WpT := fun sl cs R Rx => wt sl cs (fun b c => R (!b) c) Rx
theorem jt_not (h : JT X T W a wt) : JT X T W (.UnaryOp .Not a pos) (wNotT wt) := weakT (pt_not h) fun σ H Q ⟨ad, F, sl, cs, R, Rx, h0, hw, q, qx⟩ => ⟨ad, F, sl, cs, _, Rx, h0, hw, fun b c1 H1 ad1 hw1 x1 h1 => q _ c1 H1 ad1 hw1 x1 h1, qx⟩
theorem JW.jt (h : JW X T W e wt) : JT X T W e wt := PW.pt h
theorem jw_and1 (h : JT X T W a wt) : JW X T W (.BoolOp .And [a] pos) wt := pw_and1 h
theorem jw_or1 (h : JT X T W a wt) : JW X T W (.BoolOp .Or [a] pos) wt := pw_or1 h
def wAndT (w1 w2 : WpT) : WpT := fun sl cs R Rx => w1 sl cs (fun k c => Br k (w2 sl c R Rx) (R false c)) Rx
def wOrT (w1 w2 : WpT) : WpT := fun sl cs R Rx => w1 sl cs (fun k c => Br k (R true c) (w2 sl c R Rx)) Rx
theorem jw_and (ha : JT X T W a wt1) (hb : JW X T W (.BoolOp .And (b :: rest) pos) wt2) : JW X T W (.BoolOp .And (a :: b :: rest) pos) (wAndT wt1 wt2) :=
  weakW (pw_and ha hb) fun σ H Q ⟨ad, F, sl, cs, R, Rx, h0, hw, q, qx⟩ => ⟨ad, F, sl, cs, _, Rx, h0, hw, fun k c1 H1 ad1 hw1 x1 h1 => by
    cases k with
    | true => exact iteT ⟨ad1, F, sl, c1, _, Rx, h1, hw1.t rfl, fun k c2 H2 ad2 hw2 x2 h2 => q k c2 H2 ad2 hw2 (x1.trans h1.hc x2) h2, qx.on x1 h1⟩
    | false => exact iteF (q false c1 H1 ad1 (hw1.f rfl) x1 h1), qx⟩
theorem jw_or (ha : JT X T W a wt1) (hb : JW X T W (.BoolOp .Or (b :: rest) pos) wt2) : JW X T W (.BoolOp .Or (a :: b :: rest) pos) (wOrT wt1 wt2) :=
  weakW (pw_or ha hb) fun σ H Q ⟨ad, F, sl, cs, R, Rx, h0, hw, q, qx⟩ => ⟨ad, F, sl, cs, _, Rx, h0, hw, fun k c1 H1 ad1 hw1 x1 h1 => by
    cases k with
    | false => exact iteF ⟨ad1, F, sl, c1, _, Rx, h1, hw1.f rfl, fun k c2 H2 ad2 hw2 x2 h2 => q k c2 H2 ad2 hw2 (x1.trans h1.hc x2) h2, qx.on x1 h1⟩
    | true => exact iteT (q true c1 H1 ad1 (hw1.t rfl) x1 h1), qx⟩
theorem je_one {op} (h : JE X T W a w) : JE X T W (.BoolOp op [a] pos) w := pe_one h
def wAndV (w1 w2 : WpE) : WpE := fun sl cs R Rx => w1 sl cs (fun s c => isB s fun k => Br k (w2 sl c R Rx) (R (.dat (.bl false)) c)) Rx
theorem je_and (ha : JE X T W a wa) (hb : JE X T W (.BoolOp .And (b :: rest) pos) wb) : JE X T W (.BoolOp .And (a :: b :: rest) pos) (wAndV wa wb) :=
  weak (pe_and ha hb) fun σ H Q ⟨ad, F, sl, cs, R, Rx, h0, hw, q, qx⟩ => ⟨ad, F, sl, cs, _, Rx, h0, hw, fun s1 c1 v H1 ad1 hw1 x1 h1 r1 => by
    have hw2 := isB_of hw1
    clear hw1
    obtain ⟨k, e0, hw1⟩ := hw2
    subst e0
    cases r1
    refine ⟨k, rfl, ?_⟩
    cases k with
    | true => exact iteT ⟨ad1, F, sl, c1, _, Rx, h1, hw1.t rfl, fun s2 c2 v2 H2 ad2 hw2 x2 h2 r2 => q s2 c2 v2 H2 ad2 hw2 (x1.trans h1.hc x2) h2 r2, qx.on x1 h1⟩
    | false => exact iteF (q _ c1 _ H1 ad1 (hw1.f rfl) x1 h1 Rep.bl), qx⟩
def wNotV (w : WpE) : WpE := fun sl cs R Rx => w sl cs (fun s c => truW s c fun k => R (.dat (.bl (!k))) c) Rx
theorem je_not (ha : JE X T W a wa) : JE X T W (.UnaryOp .Not a pos) (wNotV wa) :=
  weak (pe_notT ha) fun σ H Q ⟨ad, F, sl, cs, R, Rx, h0, hw, q, qx⟩ => ⟨ad, F, sl, cs, _, Rx, h0, hw, fun s1 c1 v H1 ad1 hw1 x1 h1 r1 => by
    obtain ⟨k, tb, hR⟩ := truW_of (T := T) (K := X.K) hw1
    exact ⟨k, tb ad1 F H1 v h1.hc r1, q _ c1 _ H1 ad1 hR x1 h1 Rep.bl⟩, qx⟩
def wIf (wt : WpT) (wa wb : WpE) : WpE := fun sl cs R Rx => wt sl cs (fun k c => Br k (wa sl c R Rx) (wb sl c R Rx)) Rx
theorem je_if (hc : JT X T W c wt) (ha : JE X T W a wa) (hb : JE X T W b wb) : JE X T W (.IfExp c a b pos) (wIf wt wa wb) :=
  weak (pe_ifExp hc ha hb) fun σ H Q ⟨ad, F, sl, cs, R, Rx, h0, hw, q, qx⟩ => ⟨ad, F, sl, cs, _, Rx, h0, hw, fun k c1 H1 ad1 hw1 x1 h1 => by
    cases k with
    | true => exact iteT ⟨ad1, F, sl, c1, _, Rx, h1, hw1.t rfl, fun s2 c2 v2 H2 ad2 hw2 x2 h2 r2 => q s2 c2 v2 H2 ad2 hw2 (x1.trans h1.hc x2) h2 r2, qx.on x1 h1⟩
    | false => exact iteF ⟨ad1, F, sl, c1, _, Rx, h1, hw1.f rfl, fun s2 c2 v2 H2 ad2 hw2 x2 h2 r2 => q s2 c2 v2 H2 ad2 hw2 (x1.trans h1.hc x2) h2 r2, qx.on x1 h1⟩, qx⟩
abbrev WpO := Sls → List Cell → (Option Int → List Cell → Prop) → RX → Prop
def tJO (T : Tab) (K : PySem.W.Frag) (W : WX) (w : WpO) : TO := fun σ H Q => ∃ ad F sl cs R Rx, Hold T K ⟨sl, cs⟩ ad F σ H ∧ w sl cs R Rx ∧ (∀ o c H' ad', R o c → Ext ad F H ad' H' → Hold T K ⟨sl, c⟩ ad' F σ H' → Q o H') ∧ Raz T K W σ ad F H sl Rx
def JO (X : Cx) (T : Tab) (W : WX) (e : Option Expr) (w : WpO) : Prop := PO X e (tJO T X.K W w)
def wO0 : WpO := fun _ cs R _ => R none cs
def wO1 (w : WpE) : WpO := fun sl cs R Rx => w sl cs (fun s c => match s with
  | .dat (.int i) => R (some i) c
  | _ => False) Rx
theorem jo_none : JO X T W none wO0 := weakO po_none fun σ H Q ⟨ad, F, sl, cs, R, Rx, h0, hw, q, qx⟩ => q none cs H ad hw .refl h0
theorem jo_some (he : JE X T W e w) : JO X T W (some e) (wO1 w) := weakO (po_some he) fun σ H Q ⟨ad, F, sl, cs, R, Rx, h0, hw, q, qx⟩ => ⟨ad, F, sl, cs, _, Rx, h0, hw, fun s1 c1 v H1 ad1 hw1 x1 h1 r1 => by
    split at hw1
    · cases r1
      exact ⟨_, rfl, q _ c1 H1 ad1 hw1 x1 h1⟩
    · exact hw1.elim, qx⟩
theorem slAll : SlR X (fun x l u H Q => ∃ r, SlR X r ∧ r x l u H Q) := fun pins s σ H x v vl vu l u sl Q I rx h1 h2 h3 ⟨r, o, h⟩ => o pins s σ H x v vl vu l u sl Q I rx h1 h2 h3 h
def wSlc (wa : WpE) (wl wu : WpO) : WpE := fun sl cs R Rx => wa sl cs (fun s1 c1 => wl sl c1 (fun l c2 => wu sl c2 (fun u c3 => slcW s1 l u c3 R) Rx) Rx) Rx
theorem slcW_of {s1 : Sl} {l u : Option Int} {cs : List Cell} {R : RV} (h : slcW s1 l u cs R) : ∃ s, SlcD X T s1 l u cs s cs ∧ R s cs := by
  unfold slcW at h
  split at h
  · exact ⟨_, slc_T, h⟩
  · obtain ⟨ds, h1, h⟩ := wL_of h
    exact ⟨_, slc_L h1, h⟩
theorem je_slice {wl wu : WpO} (ha : JE X T W e wa) (hl : JO X T W lo wl) (hu : JO X T W hi wu) : JE X T W (.Subscript e (.Slice lo hi none p2) pos) (wSlc wa wl wu) :=
  weak (pe_slice slAll ha hl hu) fun σ H Q ⟨ad, F, sl, cs, R, Rx, h0, hw, q, qx⟩ => ⟨ad, F, sl, cs, _, Rx, h0, hw, fun s1 c1 v H1 ad1 hw1 x1 h1 r1 => ⟨ad1, F, sl, c1, _, Rx, h1, hw1, fun l c2 H2 ad2 hw2 x2 h2 => ⟨ad2, F, sl, c2, _, Rx, h2, hw2, fun u c3 H3 ad3 hw3 x3 h3 => by
    obtain ⟨s, ⟨r, o1, o2⟩, hR⟩ := slcW_of (X := X) (T := T) hw3
    exact ⟨r, o1, o2 ad3 F H3 v Q h3.hc ((r1.ext x2).ext x3) fun z H4 ad4 x4 k4 r4 => q s c3 z H4 ad4 hR (x1.trans h1.hc (x2.trans h2.hc (x3.trans h3.hc x4))) (h3.to x4 k4) r4⟩, (qx.on x1 h1).on x2 h2⟩, qx.on x1 h1⟩, qx⟩
def wCb (wA : WpA) (cw : WC) : WpE := fun sl cs R Rx => wA sl cs (fun ss c1 => cw ss c1 R) Rx
theorem cb_then {x : Str} {cw : WC} {u : Value} (hJ : JCall X T x cw) (hu : bootBuiltins x = some u) {σ : St} {H : Hp} {Q : VK} (h : tJ T X.K W (wCb wA cw) σ H Q) : tCB (fun xs H Q => ∃ r, CallR X u r ∧ r xs H Q) (tJA T X.K W wA) σ H Q := by
  obtain ⟨ad, F, sl, cs, R, Rx, h0, hw, q, qx⟩ := h
  refine ⟨ad, F, sl, cs, _, Rx, h0, hw, fun ss c1 vs H1 ad1 hw1 x1 h1 r1 => ?_, qx⟩
  obtain ⟨s, c2, ⟨u', r, e1, _, o1, o2⟩, hR⟩ := hJ.run _ _ _ hw1
  rw [hu] at e1
  cases e1
  exact ⟨r, o1, o2 ad1 F H1 vs Q h1.hc r1 fun z H3 ad3 x3 k3 r3 => q s c2 z H3 ad3 hR (x1.trans h1.hc x3) (h1.to x3 k3) r3⟩
theorem je_cb {x : Str} {cw : WC} (hm : X.mg x = none) (hJ : JCall X T x cw) (ha : JA X T W (e :: es) wA) (hg : Gl X x := by rfl) (hn : x ≠ "__name__" := by decide) (hdb : (x == ("__debug__" : Str)) = false := by decide)
    (he : starEach (e :: es) X.env = (false, eval e X.env) :: starEach es X.env := by rfl) (hpl : (backTo pos (starEach es X.env)).any (·.1) = false := by rfl) : JE X T W (.Call (.Name x p) (e :: es) [] pos) (wCb wA cw) := by
  obtain ⟨u, hv, ⟨id, rfl⟩ | ⟨id, rfl⟩⟩ := hJ.bo
  · exact weak (pe_callB callAll hg hm hv ha hn hdb he hpl) fun σ H Q z => cb_then hJ hv z
  · exact weak (pe_callTy callAll hg hm hv ha hn hdb he hpl) fun σ H Q z => cb_then hJ hv z
end
end Dl
namespace Dl
open PySem L2
def cells1 : List Sl → Option (Option Nat)
  | [] => some none
  | .dat _ :: r => cells1 r
  | .cel k :: r => match cells1 r with
    | some none => some (some k)
    | some (some j) => if j == k then some (some k) else none
    | none => none
theorem cells1_none : ∀ {ss : List Sl}, cells1 ss = some none → ∃ ds : List D, ss = ds.map Sl.dat
  | [], _ => ⟨[], rfl⟩
  | .dat d :: r, h => let ⟨ds, e⟩ := cells1_none (ss := r) h; ⟨d :: ds, by rw [e]; rfl⟩
  | .cel k :: r, h => by
    unfold cells1 at h
    split at h
    · cases h
    · split at h <;> cases h
    · cases h
theorem cells1_dat (k : Nat) : ∀ {ss : List Sl}, cells1 ss = some none → ss.all (onlyCell k) = true
  | [], _ => rfl
  | .dat d :: r, h => by rw [List.all_cons, cells1_dat k (ss := r) h]; rfl
  | .cel k :: r, h => by
    unfold cells1 at h
    split at h
    · cases h
    · split at h <;> cases h
    · cases h
theorem cells1_some {k : Nat} : ∀ {ss : List Sl}, cells1 ss = some (some k) → ss.all (onlyCell k) = true
  | .dat d :: r, h => by rw [List.all_cons, cells1_some (ss := r) h]; rfl
  | .cel j :: r, h => by
    rw [List.all_cons]
    unfold cells1 at h
    split at h
    · rename_i e
      cases h
      rw [cells1_dat k e]
      simp [onlyCell]
    · rename_i m e
      split at h
      · rename_i q
        cases h
        have q := beq_iff_eq.mp q
        subst q
        rw [cells1_some (ss := r) e]
        simp [onlyCell]
      · cases h
    · cases h
def aft (s : Sl) (cs0 cs : List Cell) (R : RV) : Prop := match s, cs0 with
  | .dat d, [] => R (.dat d) cs
  | .cel 0, [c0] => R (.cel cs.length) (cs ++ [c0])
  | _, _ => False
def callW (c : Ct) (ss : List Sl) (cs : List Cell) (R : RV) : Prop := match cells1 ss with
  | some none => ∃ s cs0, c ss [] s cs0 ∧ aft s cs0 cs R
  | some (some k) => match cs[k]? with
    | some c0 => ∃ d c1, c (ss.map low) [c0] (.dat d) [c1] ∧ R (.dat d) (cs.set k c1)
    | none => False
  | none => False
def callXW (c : Ct) (cx : CtX) (ss : List Sl) (cs : List Cell) (R : RV) (Rx : RX) : Prop := callW c ss cs R ∨ (cells1 ss = some none ∧ ∃ x, cx ss [] x [] ∧ Rx x cs)
section
variable {X : Cx} {T : Tab} {W : WX} {a b e o : Expr} {es : List Expr} {kws : List Keyword} {pos p apos : Pos} {wa wb w wo : WpE} {wA wB : WpA} {c : Ct} {cx : CtX} {k : Nat} {f : Addr} {fd : FuncData} {ps ks : List Str} {y m : Str} {C g : Addr} {fn : List Str} {cn : Nat}
theorem callW_then {K : PySem.W.Frag} {ad : List Addr} {F : Addr → Prop} {H : Hp} {cs : List Cell} {vs : List V} {ss : List Sl} {R : RV} {Q : VK} {E : XK} (h : HoldC T K ad F H cs) (r : SlReps T K ad F H vs ss) (hw : callW c ss cs R)
    (q : ∀ s c' v H' ad', R s c' → Ext ad F H ad' H' → HoldC T K ad' F H' c' → SlRep T K ad' F H' v s → Q v H') : spC T K c vs H Q E := by
  unfold callW at hw
  split at hw
  · rename_i q1
    obtain ⟨ds, rfl⟩ := cells1_none q1
    obtain ⟨s, cs0, hc, hw⟩ := hw
    unfold aft at hw
    split at hw
    · exact spC0 hc h r fun v H' x2 c2 r2 => q _ _ v H' ad hw x2 c2 r2
    · exact spCN hc h r fun v H' a x2 c2 e => q _ _ v H' _ hw x2 c2 ⟨a, by rw [← h.ln, List.getElem?_append_right (Nat.le_refl _), Nat.sub_self]; rfl, e⟩
    · exact hw.elim
  · rename_i j q1
    split at hw
    · rename_i c0 e0
      obtain ⟨d, cc, hc, hw⟩ := hw
      exact spC1 e0 (cells1_some q1) hc h r fun v H' x2 c2 r2 => q _ _ v H' ad hw x2 c2 r2
    · exact hw.elim
  · exact hw.elim
theorem callXW_then {K : PySem.W.Frag} {ad : List Addr} {F : Addr → Prop} {H : Hp} {cs : List Cell} {vs : List V} {ss : List Sl} {R : RV} {Rx : RX} {Q : VK} {E : XK} (h : HoldC T K ad F H cs) (r : SlReps T K ad F H vs ss) (hw : callXW c cx ss cs R Rx)
    (q : ∀ s c' v H' ad', R s c' → Ext ad F H ad' H' → HoldC T K ad' F H' c' → SlRep T K ad' F H' v s → Q v H') (qx : ∀ x c' cls d H' ad', Rx x c' → Ext ad F H ad' H' → HoldC T K ad' F H' c' → ExRep T K (Mm ad' F) H' cls d x → E cls d H') : spX T K c cx vs H Q E := by
  rcases hw with hw | ⟨q1, x, hx, hw⟩
  · exact .inl (callW_then h r hw q)
  · obtain ⟨ds, rfl⟩ := cells1_none q1
    exact spX_at hx h r fun cls d H' x2 c2 er => qx x cs cls d H' ad hw x2 c2 er
def wFn (c : Ct) (wA : WpA) : WpE := fun sl cs R Rx => wA sl cs (fun ss c1 => callW c ss c1 R) Rx
def wFnX (c : Ct) (cx : CtX) (wA : WpA) : WpE := fun sl cs R Rx => wA sl cs (fun ss c1 => callXW c cx ss c1 R Rx) Rx
theorem je_call (G : FnOk X.prog X.w X.K X.mg X.base CX0 k f fd ps (spC T X.K c)) (hr : Room k X.A) (hm : X.mg y = some (.ref f)) (hk : PySem.W.keepIn X.K (.ref f) = true) (hb : Binds X.K fd ps []) (ha : JA X T W (e :: es) wA) (hg : Gl X y := by rfl) (hdb : (y == ("__debug__" : Str)) = false := by decide)
    (he : starEach (e :: es) X.env = (false, eval e X.env) :: starEach es X.env := by rfl) (hpl : (backTo pos (starEach es X.env)).any (·.1) = false := by rfl) : JE X T W (.Call (.Name y p) (e :: es) [] pos) (wFn c wA) :=
  weak (pe_call G hr hg hm hk hb .nil pass0 ha hdb he hpl) fun σ H Q ⟨ad, F, sl, cs, R, Rx, h0, hw, q, qx⟩ => ⟨ad, F, sl, cs, _, Rx, h0, hw, fun ss c1 vs H1 ad1 hw1 x1 h1 r1 => by
    show spC T X.K c (vs ++ []) H1 Q E0
    rw [List.append_nil]
    exact callW_then h1.hc r1 hw1 fun s c' v H' ad' hR x2 k2 r2 => q s c' v H' ad' hR (x1.trans h1.hc x2) (h1.to x2 k2) r2, qx⟩
theorem je_callX (tk : Takes X W) (G : FnOk X.prog X.w X.K X.mg X.base (L2.CX X.prog X.w) k f fd ps (spX T X.K c cx)) (hr : Room k X.A) (hm : X.mg y = some (.ref f)) (hk : PySem.W.keepIn X.K (.ref f) = true) (hb : Binds X.K fd ps []) (ha : JA X T W (e :: es) wA) (hg : Gl X y := by rfl) (hdb : (y == ("__debug__" : Str)) = false := by decide)
    (he : starEach (e :: es) X.env = (false, eval e X.env) :: starEach es X.env := by rfl) (hpl : (backTo pos (starEach es X.env)).any (·.1) = false := by rfl) : JE X T W (.Call (.Name y p) (e :: es) [] pos) (wFnX c cx wA) :=
  weak (pe_callS (E := WE W) G hr hg hm hk hb (passAt tk) ha hdb he hpl) fun σ H Q ⟨ad, F, sl, cs, R, Rx, h0, hw, q, qx⟩ => ⟨ad, F, sl, cs, _, Rx, h0, hw, fun ss c1 vs H1 ad1 hw1 x1 h1 r1 =>
    callXW_then h1.hc r1 hw1 (fun s c' v H' ad' hR x2 k2 r2 => q s c' v H' ad' hR (x1.trans h1.hc x2) (h1.to x2 k2) r2) (fun x c' cls d H' ad' hR x2 k2 er => qx x c' cls d H' ad' hR (x1.trans h1.hc x2) (h1.to x2 k2) er), qx⟩
def fldW (cn : Nat) (fn : List Str) (m : Str) (s : Sl) (cs : List Cell) (k : D → Prop) : Prop := match s with
  | .dat (.obj n ds) => n = cn ∧ match fIdx fn m with
    | some j => match ds[j]? with
      | some d => k d
      | none => False
    | none => False
  | .cel i => match cs[i]? with
    | some (.ins n fs) => n = cn ∧ match fs.lookup m with
      | some d => k d
      | none => False
    | _ => False
  | _ => False
theorem look_zip {K : PySem.W.Frag} {M : Addr → Prop} {H : Hp} {d : D} : ∀ {fs : List (Str × D)} {vs : List V}, fs.lookup m = some d → Reps T K M H vs (fs.map (·.2)) → ∃ v, ((fs.map (·.1)).zip vs).lookup m = some v ∧ Rep T K M H v d
  | [], _, h, _ => nomatch h
  | (g, d') :: fs, _, h, .cons (v := v) (vs := vs) r rs => by
    rw [List.lookup_cons] at h
    show ∃ w, ((g, v) :: (fs.map (·.1)).zip vs).lookup m = some w ∧ _
    rw [List.lookup_cons]
    cases q : m == g with
    | true =>
      rw [q] at h
      cases h
      exact ⟨v, rfl, r⟩
    | false =>
      rw [q] at h
      exact look_zip h rs
def wFld (cn : Nat) (fn : List Str) (m : Str) (w : WpE) : WpE := fun sl cs R Rx => w sl cs (fun s c => fldW cn fn m s c fun d => R (.dat d) c) Rx
theorem je_fld (hT : T cn = some (C, fn)) (hc : Cls X.K C) (hn : NoAttr X.K C m) (he : JE X T W e w) (hb : attributeBase e m X.env (eval e X.env) = eval e X.env := by rfl) : JE X T W (.Attribute e m pos) (wFld cn fn m w) :=
  weak (pe_fld he hb) fun σ H Q ⟨ad, F, sl, cs, R, Rx, h0, hw, q, qx⟩ => ⟨ad, F, sl, cs, _, Rx, h0, hw, fun s c1 v H1 ad1 hw1 x1 h1 r1 => by
    unfold fldW at hw1
    split at hw1
    · obtain ⟨rfl, hw1⟩ := hw1
      split at hw1
      · rename_i j hf
        split at hw1
        · rename_i d hd
          cases r1 with
          | @obj a C' dx _ fn' vs _ ht na e1 hl r =>
            rw [hT] at ht
            cases ht
            obtain ⟨w, g1, g2⟩ := fIdx_look hf hl
            obtain ⟨d', g3, g4⟩ := r.getV g1
            rw [hd] at g3
            cases g3
            exact ⟨a, C, dx, _, w, rfl, e1, hc, hn, g2, q _ c1 w H1 ad1 hw1 x1 h1 g4⟩
        · exact hw1.elim
      · exact hw1.elim
    · split at hw1
      · rename_i i _ n fs e0
        obtain ⟨rfl, hw1⟩ := hw1
        split at hw1
        · rename_i d hd
          obtain ⟨a, ha, rfl⟩ := r1
          obtain ⟨C', fn', dx, vs, ht, e1, hl, rr⟩ := h1.hc.ce i a _ ha e0
          rw [hT] at ht
          cases ht
          obtain ⟨v, g1, g2⟩ := look_zip hd rr
          exact ⟨a, C, dx, _, v, rfl, e1, hc, hn, g1, q _ c1 v H1 ad1 hw1 x1 h1 g2⟩
        · exact hw1.elim
      · exact hw1.elim
    · exact hw1.elim, qx⟩
def recvW (cn : Nat) (m : Str) (s : Sl) (cs : List Cell) : Prop := match s with
  | .dat (.obj n _) => n = cn
  | .cel i => match cs[i]? with
    | some (.ins n fs) => n = cn ∧ fIdx (fs.map (·.1)) m = none
    | _ => False
  | _ => False
theorem recvW_of {K : PySem.W.Frag} {ad : List Addr} {F : Addr → Prop} {H : Hp} {cs : List Cell} {v : V} {s : Sl} (hT : T cn = some (C, fn)) (hf : fIdx fn m = none) (h : HoldC T K ad F H cs) (r : SlRep T K ad F H v s) (hw : recvW cn m s cs) : ∃ a dx fs, v = .ref a ∧ H a = some (.ins C dx fs) ∧ fs.lookup m = none := by
  unfold recvW at hw
  split at hw
  · subst hw
    cases r with
    | @obj a C' dx _ fn' vs _ ht na e1 hl r =>
      rw [hT] at ht
      cases ht
      exact ⟨a, dx, _, rfl, e1, fIdx_none hf⟩
  · split at hw
    · rename_i i _ n fs e0
      obtain ⟨rfl, hw⟩ := hw
      obtain ⟨a, ha, rfl⟩ := r
      obtain ⟨C', fn', dx, vs, ht, e1, hl, rr⟩ := h.ce i a _ ha e0
      rw [hT] at ht
      cases ht
      exact ⟨a, dx, _, rfl, e1, fIdx_none hw⟩
    · exact hw.elim
  · exact hw.elim
def wMeth0 (cn : Nat) (m : Str) (c : Ct) (wo : WpE) : WpE := fun sl cs R Rx => wo sl cs (fun s c1 => recvW cn m s c1 ∧ callW c [s] c1 R) Rx
theorem je_meth0 {pl : Sem Bool} (hT : T cn = some (C, fn)) (hc : Cls X.K C) (hm : Meth X.K C m g) (hf : fIdx fn m = none) (G : FnOk X.prog X.w X.K X.mg X.base CX0 k g fd ps (spC T X.K c)) (hr : Room k X.A) (hb : Binds X.K fd ps [])
    (he : JE X T W o wo)
    (ht : eval (.Call (.Attribute o m apos) [] [] pos) X.env = (do
      let ov ← eval o X.env
      standAt apos.atName
      let (f, first) ← holding [ov] (getMethod ov m pl)
      callWith pos f first (backTo pos (starEach [] X.env)) (backToKw pos (keywordEach [] X.env))) := by rfl) : JE X T W (.Call (.Attribute o m apos) [] [] pos) (wMeth0 cn m c wo) :=
  weak (pe_meth0 (pl := pl) he hc hm G hr hb .nil pass0 ht) fun σ H Q ⟨ad, F, sl, cs, R, Rx, h0, hw, q, qx⟩ => ⟨ad, F, sl, cs, _, Rx, h0, hw, fun s c1 v H1 ad1 hw1 x1 h1 r1 => by
    obtain ⟨a, dx, fs, rfl, e1, e2⟩ := recvW_of hT hf h1.hc r1 hw1.1
    refine ⟨a, dx, fs, rfl, e1, e2, ?_⟩
    exact callW_then (E := E0) (ss := [s]) h1.hc ⟨r1, trivial⟩ hw1.2 fun s' c' v H' ad' hR x3 k3 r3 => q s' c' v H' ad' hR (x1.trans h1.hc x3) (h1.to x3 k3) r3, qx⟩
def instW (cn : Nat) (s : Sl) (cs : List Cell) : Prop := match s with
  | .dat (.obj n _) => n = cn
  | .cel i => match cs[i]? with
    | some (.ins n fs) => n = cn
    | _ => False
  | _ => False
theorem instW_of {K : PySem.W.Frag} {ad : List Addr} {F : Addr → Prop} {H : Hp} {cs : List Cell} {v : V} {s : Sl} (hT : T cn = some (C, fn)) (h : HoldC T K ad F H cs) (r : SlRep T K ad F H v s) (hw : instW cn s cs) : ∃ a dx fs, v = .ref a ∧ H a = some (.ins C dx fs) := by
  unfold instW at hw
  split at hw
  · subst hw
    cases r with
    | @obj a C' dx _ fn' vs _ ht na e1 hl r =>
      rw [hT] at ht
      cases ht
      exact ⟨a, dx, _, rfl, e1⟩
  · split at hw
    · rename_i i _ n fs e0
      subst hw
      obtain ⟨a, ha, rfl⟩ := r
      obtain ⟨C', fn', dx, vs, ht, e1, hl, rr⟩ := h.ce i a _ ha e0
      rw [hT] at ht
      cases ht
      exact ⟨a, dx, _, rfl, e1⟩
    · exact hw.elim
  · exact hw.elim
def wPro (cn : Nat) (c : Ct) (w : WpE) : WpE := fun sl cs R Rx => w sl cs (fun s c1 => instW cn s c1 ∧ callW c [s] c1 R) Rx
theorem je_prop {pp : Addr} (hT : T cn = some (C, fn)) (hc : Cls X.K C) (hp : PropOf X.K C m pp g) (G : FnOk X.prog X.w X.K X.mg X.base CX0 k g fd ps (spC T X.K c)) (hr : Room (k + 1) X.A) (hb : Binds X.K fd ps []) (he : JE X T W e w) (hab : attributeBase e m X.env (eval e X.env) = eval e X.env := by rfl) :
    JE X T W (.Attribute e m pos) (wPro cn c w) :=
  weak (pe_prop he hc hp G hr hb .nil pass0 hab) fun σ H Q ⟨ad, F, sl, cs, R, Rx, h0, hw, q, qx⟩ => ⟨ad, F, sl, cs, _, Rx, h0, hw, fun s c1 v H1 ad1 hw1 x1 h1 r1 => by
    obtain ⟨a, dx, fs, rfl, e1⟩ := instW_of hT h1.hc r1 hw1.1
    refine ⟨a, dx, fs, rfl, e1, ?_⟩
    exact callW_then (E := E0) (ss := [s]) h1.hc ⟨r1, trivial⟩ hw1.2 fun s' c' v H' ad' hR x3 k3 r3 => q s' c' v H' ad' hR (x1.trans h1.hc x3) (h1.to x3 k3) r3, qx⟩
def makeW (cn : Nat) (fn : List Str) (c : Ct) (args : List D) (cs : List Cell) (R : RV) : Prop := ∃ ds : List D, c (.cel 0 :: args.map Sl.dat) [.ins cn []] (.dat .non) [.ins cn (fn.zip ds)] ∧ ds.length = fn.length ∧ R (.dat (.obj cn ds)) cs
def JK (X : Cx) (T : Tab) (W : WX) (kws : List Keyword) (w : WpA) : Prop := PK X kws (tJA T X.K W w)
theorem jk_nil : JK X T W [] wNil := weakK pk_nil fun σ H Q ⟨ad, F, sl, cs, R, Rx, h0, hw, q, qx⟩ => q [] cs [] H ad hw .refl h0 trivial
def isO (cn : Nat) : Sl → Bool
  | .dat (.obj n _) => n == cn
  | _ => false
def selW (P : Sl → Sl → Bool) (v w : W2) : W2 := fun s1 s2 cs R => match P s1 s2 with
  | true => v s1 s2 cs R
  | false => w s1 s2 cs R
theorem jc_sel {op : CmpOp} {P : Sl → Sl → Bool} {v w : W2} (h1 : ∀ s1 s2 cs R, P s1 s2 = true → v s1 s2 cs R → ∃ s cs', CmpD X T op s1 s2 cs s cs' ∧ R s cs') (h2 : JCmp X T op w) : JCmp X T op (selW P v w) := fun s1 s2 cs R h => by
  unfold selW at h
  split at h
  · exact h1 s1 s2 cs R ‹_› h
  · exact h2 s1 s2 cs R h
def ownW (c : Ct) : W2 := fun s1 s2 cs R => ∃ d, c [s1, s2] [] (.dat d) [] ∧ R (.dat d) cs
theorem isO_of {s : Sl} (h : isO cn s = true) : ∃ ds, s = .dat (.obj cn ds) := by
  unfold isO at h
  split at h
  · exact ⟨_, by rw [beq_iff_eq.mp h]⟩
  · cases h
def P2 (cn : Nat) (s1 s2 : Sl) : Bool := isO cn s1 && isO cn s2
variable {op : Operator} {w2 : W2}
theorem jc_o2 {op : CmpOp} (hT : T cn = some (C, fn)) (G : FnOk X.prog X.w X.K X.mg X.base CX0 k g fd ps (spC T X.K c)) (hr : Room k X.A) (hb : Binds X.K fd ps []) (hs : PySem.W.findIn X.K (.ref C) (cmpInfo op).2.1 = some (some (.ref g))) (hf : PySem.W.isFn X.K (.ref g) = true) (h : JCmp X T op w2) (ho : compareOp op = richCompare op := by rfl) : JCmp X T op (selW (P2 cn) (ownW c) w2) := jc_sel (fun s1 s2 cs R hP ⟨d, hq, hR⟩ => by
  obtain ⟨h1, h2⟩ := Bool.and_eq_true_iff.mp hP
  obtain ⟨ds, rfl⟩ := isO_of h1
  obtain ⟨es, rfl⟩ := isO_of h2
  exact ⟨_, _, cmp_own2 hT G hr hb hs hf hq ho, hR⟩) h
end
end Dl
namespace Dl
open PySem L2
abbrev WpI := Sls → List Cell → (List D → List Cell → Prop) → RX → Prop
def tJI (T : Tab) (K : PySem.W.Frag) (W : WX) (w : WpI) : TI := fun σ H Q => ∃ ad F sl cs R Rx, Hold T K ⟨sl, cs⟩ ad F σ H ∧ w sl cs R Rx ∧
  (∀ items c J H' ad', R items c → Ext ad F H ad' H' → Hold T K ⟨sl, c⟩ ad' F σ H' → ItOk T K F J items ad' H' → Q J H') ∧ Raz T K W σ ad F H sl Rx
def JI (X : Cx) (T : Tab) (W : WX) (tg it : Expr) (w : WpI) : Prop := PI X tg it (tJI T X.K W w)
section
variable {X : Cx} {tg : Expr}
def iVal (K : PySem.W.Frag) (tl : TE) : TI := fun σ H R => tl σ H fun x H1 => (∃ a xs, x = .ref a ∧ SqL K H1 a xs ∧ R (Itl K a) H1) ∨ (∃ a xs, x = .ref a ∧ SqT K H1 a xs ∧ R (Itt K a) H1)
open PySem.Spec PyProof.Rows in
theorem pi_val {l : Expr} {tl : TE} (hl : PE X l tl) : PI X tg l (iVal X.K tl) := by
  refine ⟨fun pins s σ H R I h => ?_⟩
  refine thn (hl.run pins s σ H _ I h) fun v s1 ⟨x, H1, I1, r1, q1⟩ => ?_
  rcases q1 with ⟨a, xs, e, hq, q⟩ | ⟨a, xs, e, hq, q⟩
  · subst e
    cases r1
    obtain ⟨its, rv, p, hz⟩ := I1.list hq
    refine wpAny_pyIter_list p.isList ?_
    refine ⟨s1.heap.objs.size, [s1.heap.objs.size], _, _, H1, rfl, I1.kept (t' := s1.toks) fun b o e => Heap.get?_push_of_some _ e, turn_list a _, ⟨_, Heap.get?_push_size _ rfl, rfl, rfl⟩, fun b hb => ?_, q⟩
    have e : b = s1.heap.objs.size := by simpa using hb
    subst e
    exact I1.fpOk (Nat.le_refl _) (I1.hok.fresh (Nat.le_refl _))
  · subst e
    cases r1
    obtain ⟨its, rv, p, hz⟩ := I1.tuple hq
    refine wpAny_pyIter_tuple (show s1.heap.IsTuple a its.toArray from p) ?_
    refine ⟨s1.heap.objs.size, [s1.heap.objs.size], _, _, H1, rfl, I1.kept (t' := s1.toks) fun b o e => Heap.get?_push_of_some _ e, turn_tuple a _, ⟨_, Heap.get?_push_size _ rfl, rfl, rfl⟩, fun b hb => ?_, q⟩
    have e : b = s1.heap.objs.size := by simpa using hb
    subst e
    exact I1.fpOk (Nat.le_refl _) (I1.hok.fresh (Nat.le_refl _))
end
section
variable {T : Tab} {K : PySem.W.Frag} {F : Addr → Prop} {ad : List Addr} {H : Hp} {a : Addr} {vs : List V} {ds : List D}
theorem itl_ok (n : ¬ Mm ad F a) (e1 : H a = some (.lst vs)) (r : Reps T K (Mm ad F) H vs ds) : ItOk T K F (Itl K a) ds ad H := fun F2 ad2 H2 cs2 c2 kp i => ⟨fun d hd => by
    obtain ⟨e2, n2⟩ := kp a _ e1 n
    obtain ⟨v, hv, rv⟩ := (r.kp kp).get hd
    refine ⟨⟨vs, v, SqL.of e2, hv⟩, fun w H3 y => ?_⟩
    obtain ⟨rfl, y⟩ := y
    have := y vs (SqL.of e2)
    rw [hv] at this
    cases this
    exact ⟨fun _ _ z => z, rv⟩, fun hi => ⟨vs, SqL.of (kp a _ e1 n).1, by rw [r.length]; omega⟩⟩
theorem itr_ok' (e1 : LAt K (Mm ad F) H a vs) (r : Reps T K (Mm ad F) H vs ds) : ItOk T K F (Itl K a) ds ad H := fun F2 ad2 H2 cs2 c2 kp i => ⟨fun d hd => by
    have e2 := (e1.kp kp).sq
    obtain ⟨v, hv, rv⟩ := (r.kp kp).get hd
    refine ⟨⟨vs, v, e2, hv⟩, fun w H3 y => ?_⟩
    obtain ⟨rfl, y⟩ := y
    have := y vs e2
    rw [hv] at this
    cases this
    exact ⟨fun _ _ z => z, rv⟩, fun hi => ⟨vs, (e1.kp kp).sq, by rw [r.length]; omega⟩⟩
theorem itt_ok (e1 : TAt K (Mm ad F) H a vs) (r : Reps T K (Mm ad F) H vs ds) : ItOk T K F (Itt K a) ds ad H := fun F2 ad2 H2 cs2 c2 kp i => ⟨fun d hd => by
    have e2 := (e1.kp kp).sq
    obtain ⟨v, hv, rv⟩ := (r.kp kp).get hd
    refine ⟨⟨vs, v, e2, hv⟩, fun w H3 y => ?_⟩
    obtain ⟨rfl, y⟩ := y
    have := y vs e2
    rw [hv] at this
    cases this
    exact ⟨fun _ _ z => z, rv⟩, fun hi => ⟨vs, (e1.kp kp).sq, by rw [r.length]; omega⟩⟩
end
def itemsW (s : Sl) (k : List D → Prop) : Prop := match s with
  | .dat (.lst ds) => k ds
  | .dat (.tup ds) => k ds
  | .dat (.scr ds) => k ds
  | _ => False
section
variable {X : Cx} {T : Tab} {W : WX} {tg e e2 e3 : Expr} {w : WpE} {wA : WpA} {p pos tpos : Pos} {elts : List Expr} {kk : Nat}
def wItems (w : WpE) : WpI := fun sl cs R Rx => w sl cs (fun s c => itemsW s fun ds => R ds c) Rx
theorem ji_val (he : JE X T W e w) : JI X T W tg e (wItems w) := weakI (pi_val he) fun σ H Q ⟨ad, F, sl, cs, R, Rx, h0, hw, q, qx⟩ => ⟨ad, F, sl, cs, _, Rx, h0, hw, fun s c1 v H1 ad1 hw1 x1 h1 r1 => by
  unfold itemsW at hw1
  split at hw1
  · cases r1 with
    | @lst a vs _ n e1 r => exact .inl ⟨a, vs, rfl, SqL.of e1, q _ c1 _ H1 ad1 hw1 x1 h1 (itl_ok n e1 r)⟩
  · cases r1 with
    | @tup a vs _ e1 r => exact .inr ⟨a, vs, rfl, e1.sq, q _ c1 _ H1 ad1 hw1 x1 h1 (itt_ok e1 r)⟩
  · cases r1 with
    | @scr a vs _ e1 r => exact .inl ⟨a, vs, rfl, e1.sq, q _ c1 _ H1 ad1 hw1 x1 h1 (itr_ok' e1 r)⟩
  · exact hw1.elim, qx⟩
def SmI (i : Int) : Prop := -(2 ^ 62) ≤ i ∧ i < 2 ^ 62
def rng1W (ss : List Sl) (k : List D → Prop) : Prop := match ss with
  | [.dat (.int j)] => SmI j ∧ k (rangeD 0 j.toNat)
  | _ => False
def wRng1 (wA : WpA) : WpI := fun sl cs R Rx => wA sl cs (fun ss c => rng1W ss fun ds => R ds c) Rx
theorem ji_range1 (hm : X.mg "range" = none) (ha : JA X T W [e] wA) (hg : Gl X "range" := by rfl) (hs : starEach [e] X.env = [(false, eval e X.env)] := by rfl) : JI X T W tg (.Call (.Name "range" p) [e] [] pos) (wRng1 wA) :=
  weakI (pi_range1 hg hm ha hs) fun σ H Q ⟨ad, F, sl, cs, R, Rx, h0, hw, q, qx⟩ => ⟨ad, F, sl, cs, _, Rx, h0, hw, fun ss c1 vs H1 ad1 hw1 x1 h1 r1 => by
    unfold rng1W at hw1
    split at hw1
    · match vs, r1 with
      | [v], r1 =>
        have r1 := r1.1
        cases r1
        exact ⟨_, rfl, hw1.1.1, hw1.1.2, q _ c1 _ H1 ad1 hw1.2 x1 h1 itr_ok⟩
    · exact hw1.elim, qx⟩
def zip2W (ss : List Sl) (k : List D → Prop) : Prop := match ss with
  | [.dat (.lst ds), .dat (.lst es)] => k (zipD ds es)
  | [.dat (.tup ds), .dat (.tup es)] => k (zipD ds es)
  | _ => False
def wZip2 (wA : WpA) : WpI := fun sl cs R Rx => wA sl cs (fun ss c => zip2W ss fun ds => R ds c) Rx
theorem itz_ok {K : PySem.W.Frag} {F : Addr → Prop} {ad : List Addr} {H : Hp} {a b : Addr} {xs ys : List V} {ds es : List D} (n1 : ¬ Mm ad F a) (e1 : H a = some (.lst xs)) (q1 : Reps T K (Mm ad F) H xs ds) (n2 : ¬ Mm ad F b) (e2 : H b = some (.lst ys)) (q2 : Reps T K (Mm ad F) H ys es) : ItOk T K F (Itz K a b) (zipD ds es) ad H := fun F2 ad2 H2 cs2 c2 kp i => ⟨fun d hd => by
    obtain ⟨x, y, hx, hy, rfl⟩ := zipD_get hd
    obtain ⟨vx, gx, rx⟩ := (q1.kp kp).get hx
    obtain ⟨vy, gy, ry⟩ := (q2.kp kp).get hy
    have a1 := SqL.of (K := K) (kp a _ e1 n1).1
    have a2 := SqL.of (K := K) (kp b _ e2 n2).1
    refine ⟨⟨xs, ys, vx, vy, a1, a2, gx, gy⟩, fun v H3 yy => ?_⟩
    obtain ⟨Tt, x', y', rfl, hT, rfl, g1, g2⟩ := yy
    have g1 := g1 xs a1
    have g2 := g2 ys a2
    rw [gx] at g1
    rw [gy] at g2
    cases g1
    cases g2
    obtain ⟨c3, x3⟩ := c2.newo (o := .tup [vx, vy]) hT
    refine ⟨fun b o e => by rw [upd_ne (ne_of_none e hT)]; exact e, .tup (vs := [vx, vy]) (.inl ⟨c2.new hT, .inl upd_same⟩) (.cons (rx.kp x3.kp) (.cons (ry.kp x3.kp) .nil))⟩, fun hi => by
    rw [zipD_len] at hi
    refine ⟨xs, ys, SqL.of (kp a _ e1 n1).1, SqL.of (kp b _ e2 n2).1, ?_⟩
    rw [q1.length, q2.length]
    omega⟩
theorem itzT_ok {K : PySem.W.Frag} {F : Addr → Prop} {ad : List Addr} {H : Hp} {a b : Addr} {xs ys : List V} {ds es : List D} (e1 : TAt K (Mm ad F) H a xs) (q1 : Reps T K (Mm ad F) H xs ds) (e2 : TAt K (Mm ad F) H b ys) (q2 : Reps T K (Mm ad F) H ys es) : ItOk T K F (RZ.ItzT K a b) (zipD ds es) ad H := fun F2 ad2 H2 cs2 c2 kp i => ⟨fun d hd => by
    obtain ⟨x, y, hx, hy, rfl⟩ := zipD_get hd
    obtain ⟨vx, gx, rx⟩ := (q1.kp kp).get hx
    obtain ⟨vy, gy, ry⟩ := (q2.kp kp).get hy
    have a1 := (e1.kp kp).sq
    have a2 := (e2.kp kp).sq
    refine ⟨⟨xs, ys, vx, vy, a1, a2, gx, gy⟩, fun v H3 yy => ?_⟩
    obtain ⟨Tt, x', y', rfl, hT, rfl, g1, g2⟩ := yy
    have g1 := g1 xs a1
    have g2 := g2 ys a2
    rw [gx] at g1
    rw [gy] at g2
    cases g1
    cases g2
    obtain ⟨c3, x3⟩ := c2.newo (o := .tup [vx, vy]) hT
    refine ⟨fun b o e => by rw [upd_ne (ne_of_none e hT)]; exact e, .tup (vs := [vx, vy]) (.inl ⟨c2.new hT, .inl upd_same⟩) (.cons (rx.kp x3.kp) (.cons (ry.kp x3.kp) .nil))⟩, fun hi => by
    rw [zipD_len] at hi
    refine ⟨xs, ys, (e1.kp kp).sq, (e2.kp kp).sq, ?_⟩
    rw [q1.length, q2.length]
    omega⟩
theorem ji_zip (hm : X.mg "zip" = none) (ha : JA X T W [e, e2] wA) (hg : Gl X "zip" := by rfl) (hs : starEach [e, e2] X.env = (false, eval e X.env) :: starEach [e2] X.env := by rfl) (hpl : (backTo pos (starEach [e2] X.env)).any (·.1) = false := by rfl) :
    JI X T W (.Tuple elts kk tpos) (.Call (.Name "zip" p) [e, e2] [] pos) (wZip2 wA) :=
  weakI (RZ.pi_zipA hg hm ha hs hpl) fun σ H Q ⟨ad, F, sl, cs, R, Rx, h0, hw, q, qx⟩ => ⟨ad, F, sl, cs, _, Rx, h0, hw, fun ss c1 vs H1 ad1 hw1 x1 h1 r1 => by
    unfold zip2W at hw1
    split at hw1
    · match vs, r1 with
      | [v, w], r1 =>
        have r2 := r1.2.1
        have r1 := r1.1
        cases r1 with
        | @lst a xs _ n1 e1 q1 =>
          cases r2 with
          | @lst b ys _ n2 e2 q2 => exact ⟨a, b, xs, ys, rfl, .inl ⟨SqL.of e1, SqL.of e2, q _ c1 _ H1 ad1 hw1 x1 h1 (itz_ok n1 e1 q1 n2 e2 q2)⟩⟩
    · match vs, r1 with
      | [v, w], r1 =>
        have r2 := r1.2.1
        have r1 := r1.1
        cases r1 with
        | @tup a xs _ e1 q1 =>
          cases r2 with
          | @tup b ys _ e2 q2 => exact ⟨a, b, xs, ys, rfl, .inr ⟨e1.sq, e2.sq, q _ c1 _ H1 ad1 hw1 x1 h1 (itzT_ok e1 q1 e2 q2)⟩⟩
    · exact hw1.elim, qx⟩
end
def asgW (p : Pat) (d : D) (sl : Sls) (k : Sls → Prop) : Prop := match asgP p d sl with
  | some sl' => k sl'
  | none => False
theorem asgW_of {p : Pat} {d : D} {sl : Sls} {k : Sls → Prop} (h : asgW p d sl k) : ∃ sl', asgP p d sl = some sl' ∧ k sl' := by
  unfold asgW at h
  split at h
  · exact ⟨_, ‹_›, h⟩
  · exact h.elim
def isDat (s : Sl) (k : D → Prop) : Prop := match s with
  | .dat d => k d
  | .cel _ => False
theorem isDat_of {s : Sl} {k : D → Prop} (h : isDat s k) : ∃ d, s = .dat d ∧ k d := by
  unfold isDat at h
  split at h
  · exact ⟨_, rfl, h⟩
  · exact h.elim
def lcW (p : Pat) (wt : WpT) (we : WpE) (sl : Sls) : List D → List Cell → (List D → List Cell → Prop) → Prop
  | [], cs, R => R [] cs
  | d :: ds, cs, R => asgW p d sl fun sl' => wt sl' cs (fun b c1 => Br b (we sl' c1 (fun s c2 => isDat s fun e => lcW p wt we sl ds c2 fun acc c3 => R (e :: acc) c3) noX) (lcW p wt we sl ds c1 R)) noX
def JTs (X : Cx) (T : Tab) (W : WX) (ifs : List Expr) (w : WpT) : Prop := PTs X ifs (tJT T X.K W w)
def wYes : WpT := fun _ cs R _ => R true cs
theorem jts_nil {X : Cx} {T : Tab} {W : WX} : JTs X T W [] wYes := weakTs pts_nil fun σ H Q ⟨ad, F, sl, cs, R, Rx, h0, hw, q, qx⟩ => q true cs H ad hw .refl h0
theorem jts_one {X : Cx} {T : Tab} {W : WX} {c : Expr} {w : WpT} (h : JT X T W c w) : JTs X T W [c] w := weakTs (pts_one h) fun σ H Q z => z
def wLc (wi : WpI) (p : Pat) (wt : WpT) (we : WpE) (own : List Nat) : WpE := fun sl cs R Rx => wi sl cs (fun items c => items.length < sizeLine ∧ lcW p wt we (wipeS sl own) items c fun acc c' => R (.dat (.lst acc)) c') Rx
section
variable {T : Tab} {K : PySem.W.Frag} {W : WX} {p : Pat} {wi : WpI} {wt : WpT} {we : WpE} {own : List Nat}
theorem lc_core {sl : Sls} {items : List D} {cs : List Cell} {Rf : List D → List Cell → Prop} {σ : St} {H1 : Hp} {ad1 : List Addr} {F : Addr → Prop} {Q : VK} {J : It} (hp : ∀ i ∈ slotsP p, i ∈ own) (h1 : Hold T K ⟨sl, cs⟩ ad1 F σ H1) (okI : ItOk T K F J items ad1 H1) (hl : items.length < sizeLine)
    (h : lcW p wt we (wipeS sl own) items cs Rf) {Dl : Addr} (hD : H1 Dl = none)
    (q : ∀ accV accD ci ad' H', Ext ad1 F H1 ad' H' → HoldC T K ad' (fun a => F a ∨ a = Dl) H' ci → H' Dl = some (.lst accV) → Reps T K (Mm ad' fun a => F a ∨ a = Dl) H' accV accD → Rf accD ci → Q (.ref Dl) H') :
    ∃ (Inv' : Nat → Nat → Hp → Prop), (∃ m0, Inv' 0 m0 (upd H1 Dl (.lst []))) ∧ ∀ i m H', Inv' i m H' → (J.stop i H' ∧ Q (.ref Dl) H') ∨ (J.go i H' ∧ ∃ I2 : Hp → Prop, (∀ H2, I2 H2 → ∃ m', m' < m ∧ Inv' (i + 1) m' H2) ∧ ∀ v H3, J.yld i H' v H3 →
      tDG T K p v (wipe σ own) H3 fun σ' H4 => wipe σ' own = wipe σ own ∧ tJT T K W0 wt σ' H4 fun b H5 => if b = true then tJ T K W0 we σ' H5 fun w H6 => ∃ acc, H6 Dl = some (.lst acc) ∧ acc.length < sizeLine ∧ I2 (upd H6 Dl (.lst (acc ++ [w]))) else I2 H5) := by
  let vs := own
  have nD := h1.hc.new hD
  let F' : Addr → Prop := fun a => F a ∨ a = Dl
  have neD : ∀ a o, H1 a = some o → a ≠ Dl := fun a o e => ne_of_none e hD
  have slots : ∀ {ad' : List Addr} {H' : Hp} {cs : List Cell}, Ext ad1 F H1 ad' H' → HoldC T K ad' F' H' cs → Hold T K ⟨wipeS sl vs, cs⟩ ad' F' (wipe σ vs) H' := fun {ad' H' cs} x c => by
    refine ⟨c, by rw [wipe_length, wipeS_len]; exact h1.sz, fun i s e => ?_⟩
    obtain ⟨e1, e2⟩ := wipeS_some e
    obtain ⟨v, hv, r⟩ := h1.sl i s e1
    refine ⟨v, by rw [wipe_out e2]; exact hv, ?_⟩
    cases s with
    | dat d => exact Rep.kp (fun a o e n => ⟨x.keep a o e n, fun z => (x.kp a o e n).2 (z.imp id fun z => z.resolve_right (neD a o e))⟩) r
    | cel k =>
      have r' := SlRep.ext x r
      exact r'
  have h1' : HoldC T K ad1 F' (upd H1 Dl (.lst [])) cs := by
    obtain ⟨c2, x2⟩ := h1.hc.newo (o := .lst []) hD
    have kp : Kp (Mm ad1 F) H1 (Mm ad1 F') (upd H1 Dl (.lst [])) := fun a o e n => ⟨by rw [upd_ne (neD a o e)]; exact e, fun z => n (z.imp id fun z => z.resolve_right (neD a o e))⟩
    refine ⟨h1.hc.nd, fun a ha z => z.elim (h1.hc.fr a ha) fun z => nD (.inl (z ▸ ha)), fun a z => ?_, h1.hc.tb.newF hD (fun _ z => nomatch z), h1.hc.ln, fun k a c e1 e2 => ?_⟩
    · rcases z with z | z
      · exact c2.al a z
      · rw [z]; exact ⟨_, upd_same⟩
    · have qc := h1.hc.ce k a c e1 e2
      obtain ⟨o, e⟩ := qc.some
      exact qc.kp kp (upd_ne (neD a o e))
  have x1' : Ext ad1 F H1 ad1 (upd H1 Dl (.lst [])) := (h1.hc.newo hD).2
  refine ⟨fun i m H' => ∃ ad' accV accD ci, i ≤ items.length ∧ m = items.length - i ∧ Ext ad1 F H1 ad' H' ∧ HoldC T K ad' F' H' ci ∧ H' Dl = some (.lst accV) ∧ Reps T K (Mm ad' F') H' accV accD ∧ accD.length ≤ i ∧
    lcW p wt we (wipeS sl vs) (items.drop i) ci (fun acc c => Rf (accD ++ acc) c), ⟨items.length, ad1, [], [], cs, Nat.zero_le _, rfl, x1', h1', upd_same, .nil, Nat.le_refl _, h⟩, ?_⟩
  rintro i m H' ⟨ad', accV, accD, ci, hi', rfl, x', c', eD, rA, lA, hL⟩
  have kpI : Kp (Mm ad1 F) H1 (Mm ad' F') H' := fun a o e n => ⟨x'.keep a o e n, fun z => (x'.kp a o e n).2 (z.imp id fun z => z.resolve_right (neD a o e))⟩
  obtain ⟨ok1, ok2⟩ := okI F' ad' H' ci c' kpI i
  by_cases hlt : i < items.length
  · have hd : items[i]? = some items[i] := List.getElem?_eq_getElem hlt
    obtain ⟨g1, g2⟩ := ok1 _ hd
    rw [List.drop_eq_getElem_cons hlt] at hL
    obtain ⟨sl', eas, hL⟩ := asgW_of hL
    refine .inr ⟨g1, fun H2 => ∃ m', m' < items.length - i ∧ ∃ ad' accV accD ci, i + 1 ≤ items.length ∧ m' = items.length - (i + 1) ∧ Ext ad1 F H1 ad' H2 ∧ HoldC T K ad' F' H2 ci ∧ H2 Dl = some (.lst accV) ∧ Reps T K (Mm ad' F') H2 accV accD ∧ accD.length ≤ i + 1 ∧
      lcW p wt we (wipeS sl vs) (items.drop (i + 1)) ci (fun acc c => Rf (accD ++ acc) c), fun H2 ⟨m', hm, z⟩ => ⟨m', hm, z⟩, fun v H3 y => ?_⟩
    obtain ⟨gr, rv⟩ := g2 v H3 y
    obtain ⟨c3, x3⟩ := grow c' gr
    have x13 : Ext ad1 F H1 ad' H3 := ⟨x'.pre, fun a o e n => gr a o (x'.keep a o e n), fun a fa => (x'.frm a fa).trans (.inl (by
      obtain ⟨o, e⟩ := (x'.frm a fa).ex (h1.hc.al a fa)
      rw [gr a o e, e]))⟩
    have cvt : ∀ {ad6 : List Addr} {H6 : Hp}, Ext ad' F' H3 ad6 H6 → Ext ad1 F H1 ad6 H6 := fun {ad6 H6} x6 => by
      obtain ⟨t, e, ht⟩ := x13.pre
      obtain ⟨t2, e2, ht2⟩ := x6.pre
      refine ⟨⟨t ++ t2, by rw [e2, e, List.append_assoc], fun a ha => ?_⟩, fun a o e n => ?_, fun a fa => ?_⟩
      · rcases List.mem_append.mp ha with z | z
        · exact ht a z
        · cases q1 : H1 a with
          | none => rfl
          | some o =>
            exfalso
            have hz := ht2 a z
            by_cases n : Mm ad1 F a
            · rcases n with n | n
              · obtain ⟨o', e'⟩ := c3.mem (a := a) (by rw [e]; exact List.mem_append_left _ n)
                rw [e'] at hz; cases hz
              · obtain ⟨o', e'⟩ := (x13.frm a n).ex ⟨_, q1⟩
                rw [e'] at hz; cases hz
            · rw [x13.keep a o q1 n] at hz; cases hz
      · have n3 : ¬ Mm ad' F' a := fun z => (x13.kp a o e n).2 (z.imp id fun z => z.resolve_right (neD a o e))
        exact x6.keep a o (x13.keep a o e n) n3
      · exact (x13.frm a fa).trans (x6.frm a (.inl fa))
    have eD3 : H3 Dl = some (.lst accV) := gr _ _ eD
    have rA3 : Reps T K (Mm ad' F') H3 accV accD := rA.kp x3.kp
    refine ⟨ad', F', ⟨wipeS sl vs, ci⟩, items[i], sl', slots x13 c3, rv, eas, fun σ4 a4 h4 => ⟨wipe_asis a4 hp, ad', F', sl', ci, _, noX, h4, hL, fun b c1 H5 ad5 hb x5 h5 => ?_, Raz.no⟩⟩
    cases b with
    | true =>
      refine iteT ⟨ad5, F', sl', c1, _, noX, h5, hb.t rfl, fun s c2 w H6 ad6 hs x6 h6 r6 => ?_, Raz.no⟩
      obtain ⟨d', rfl, hL2⟩ := isDat_of hs
      refine ⟨accV, ?_, ?_, ?_⟩
      · exact (x6.frm Dl (.inr rfl)).eq ((x5.frm Dl (.inr rfl)).eq eD3 (fun _ z => nomatch z)) (fun _ z => nomatch z)
      · have := rA3.length
        omega
      · have x36 : Ext ad' F' H3 ad6 H6 := x5.trans h5.hc x6
        have x16 := cvt x36
        have hDa : Dl ∉ ad6 := fun z => h6.hc.fr Dl z (.inr rfl)
        have kpU : Kp (Mm ad6 F') H6 (Mm ad6 F') (upd H6 Dl (.lst (accV ++ [w]))) := fun a o e n => ⟨by rw [upd_ne (fun z => n (.inr (.inr z)))]; exact e, n⟩
        refine ⟨_, by omega, ad6, accV ++ [w], accD ++ [d'], c2, hlt, rfl, ?_, ?_, upd_same, ((rA3.kp x36.kp).append (.cons r6 .nil)).kp kpU, by rw [List.length_append]; simp; omega, ?_⟩
        · exact ⟨x16.pre, fun a o e n => by rw [upd_ne (neD a o e)]; exact x16.keep a o e n, fun a fa => by
            obtain ⟨o, e⟩ := h1.hc.al a fa
            exact (x16.frm a fa).trans (.inl (by
              obtain ⟨o6, e6⟩ := (x16.frm a fa).ex ⟨o, e⟩
              rw [upd_ne (neD a o e)]))⟩
        · refine ⟨h6.hc.nd, h6.hc.fr, fun a z => ?_, h6.hc.tb.upd ((x6.frm Dl (.inr rfl)).eq ((x5.frm Dl (.inr rfl)).eq eD3 (fun _ z => nomatch z)) (fun _ z => nomatch z)) (fun _ z => nomatch z) (fun _ z => nomatch z) (fun _ z => nomatch z), h6.hc.ln, fun k a c e1 e2 => ?_⟩
          · by_cases e : a = Dl
            · rw [e]; exact ⟨_, upd_same⟩
            · rw [upd_ne e]; exact h6.hc.al a z
          · exact (h6.hc.ce k a c e1 e2).kp kpU (upd_ne fun z => hDa (z ▸ List.mem_of_getElem? e1))
        · have e : (fun acc c => Rf (accD ++ [d'] ++ acc) c) = fun acc c => Rf (accD ++ (d' :: acc)) c := by
            funext acc c
            rw [List.append_assoc]
            rfl
          rw [e]
          exact hL2
    | false => exact iteF ⟨_, by omega, ad5, accV, accD, c1, hlt, rfl, cvt x5, h5.hc, (x5.frm Dl (.inr rfl)).eq eD3 (fun _ z => nomatch z), rA3.kp x5.kp, by omega, hb.f rfl⟩
  · have e : i = items.length := by omega
    subst e
    rw [List.drop_length] at hL
    have hL : Rf (accD ++ []) ci := hL
    rw [List.append_nil] at hL
    exact .inl ⟨ok2 rfl, q accV accD ci ad' H' x' c' eD rA hL⟩
theorem lc_then {σ : St} {H : Hp} {Q : VK} (hp : ∀ i ∈ slotsP p, i ∈ own) (h : tJ T K W (wLc wi p wt we own) σ H Q) : tLc (tJI T K W wi) (tDG T K p) (tJT T K W0 wt) (tJ T K W0 we) own σ H Q := by
  obtain ⟨ad, F, sl, cs, R, Rx, h0, hw, q, qx⟩ := h
  refine ⟨ad, F, sl, cs, _, Rx, h0, hw, fun items c J H1 ad1 hw1 x1 h1 ok Dl hD => ?_, qx⟩
  refine lc_core hp h1 ok hw1.1 hw1.2 hD fun accV accD ci ad' H' x' c' eD rA hR => ?_
  have nD := h1.hc.new hD
  have kpF : Kp (Mm ad' fun a => F a ∨ a = Dl) H' (Mm ad' F) H' := fun a o e n => ⟨e, fun z => n (z.imp id .inl)⟩
  have cF : HoldC T K ad' F H' ci := ⟨c'.nd, fun a ha z => c'.fr a ha (.inl z), fun a z => c'.al a (.inl z), h1.hc.tb.back (fun _ z => .inl z) c'.tb, c'.ln, fun k a c e1 e2 => (c'.ce k a c e1 e2).kp kpF rfl⟩
  have nD' : ¬ Mm ad' F Dl := fun z => z.elim (fun z => c'.fr Dl z (.inr rfl)) fun z => nD (.inr z)
  exact q _ ci (.ref Dl) H' ad' hR (x1.trans h1.hc x') (h1.to x' cF) (Rep.lst nD' eD (rA.kp kpF))
end
section
variable {X : Cx} {T : Tab} {W : WX} {elt tg iter : Expr} {ifs : List Expr} {scope : Scope} {own : List (Str × Nat)} {p : Pat} {wi : WpI} {wt : WpT} {we : WpE} {pos : Pos}
structure JLC (X : Cx) (T : Tab) (W : WX) (elt tg iter : Expr) (ifs : List Expr) (scope : Scope) (own : List (Str × Nat)) (wi : WpI) (p : Pat) (wt : WpT) (we : WpE) : Prop where
  hi : JI X T W tg iter wi
  ok : BlkOk X.N X.env.scope scope own
  hg : InB X scope fun X' => DG X' T tg p
  ht : InB X scope fun X' => JTs X' T W0 ifs wt
  he : InB X scope fun X' => JE X' T W0 elt we
  hp : ∀ i ∈ slotsP p, i ∈ own.map (·.2)
theorem je_lc {vs : List Nat} (hN : X.N.Nodup) (h : JLC X T W elt tg iter ifs scope own wi p wt we) (hv : own.map (·.2) = vs := by rfl) (hc : X.calm = true := by rfl) (hs : ∀ x, foldedSetIterable iter X.env x = pure x := by intro _; rfl) : JE X T W (.ListComp elt [⟨tg, iter, ifs, 0⟩] scope pos) (wLc wi p wt we vs) := by
  subst hv
  exact weak (pe_lc (g := tDG T X.K p) (tt := tJT T X.K W0 wt) (te := tJ T X.K W0 we) hc hN h.hi h.ok h.hg h.ht h.he hs) fun σ H Q z => lc_then h.hp z
end
end Dl
namespace Dl
open PySem L2
structure PJ where
  nx : Sta → Prop
  rt : Sl → List Cell → Prop
  bk : Sta → Prop := fun _ => False
  ct : Sta → Prop := fun _ => False
  ex : Exc → Sta → Prop := fun _ _ => False
abbrev PJ.to (P : PJ) (W : WX) : Post := { nx := P.nx, rt := P.rt, bk := P.bk, ct := P.ct, ex := P.ex, W := W }
abbrev WS := Sta → PJ → Prop
def JS (X : Cx) (T : Tab) (W : WX) (n : Nat) (st : Stmt) (w : WS) : Prop := ∀ (S : Sta) (P : PJ), w S P → DS X T n S st (P.to W)
def JSs (X : Cx) (T : Tab) (W : WX) (n : Nat) (sts : List Stmt) (w : WS) : Prop := ∀ (S : Sta) (P : PJ), w S P → DSs X T n S sts (P.to W)
section
variable {X : Cx} {T : Tab} {W : WX} {n : Nat} {a b c e o ix it tg : Expr} {es : List Expr} {pos p p' px py pz pt pt2 : Pos} {wa wb we wo wx w : WpE} {wt : WpT} {wA : WpA} {wi : WpI} {st : Stmt} {rest body els : List Stmt} {w1 w2 : WS} {x y z : Str} {i j l kt k2 : Nat} {pa : Pat}
theorem raz_of {K : PySem.W.Frag} {S : Sta} {P : PJ} {ad : List Addr} {F : Addr → Prop} {σ : St} {H : Hp} (hn : n ≤ ad.length) (q5 : ∀ x S' cls d σ' H' ad', ExtS n ad F H ad' H' → n ≤ ad'.length → Hold T K S' ad' F σ' H' → ExRep T K (Mm ad' F) H' cls d x → P.ex x S' → W cls d σ' H') :
    Raz T K W σ ad F H S.sl (fun x c => P.ex x ⟨S.sl, c⟩) := fun x c cls d H' ad' hx x1 h1 er => q5 x ⟨S.sl, c⟩ cls d σ H' ad' (x1.s hn) (x1.le hn) h1 er hx
def wNilS : WS := fun S P => P.nx S
def wConsS (w1 w2 : WS) : WS := fun S P => w1 S { P with nx := fun S' => w2 S' P }
theorem jss_nil : JSs X T W n [] wNilS := fun S P h => dss_nil h
theorem jss_cons (h1 : JS X T W n st w1) (h2 : JSs X T W n rest w2) : JSs X T W n (st :: rest) (wConsS w1 w2) := fun S P h =>
  dss_cons (ds_mono (h1 S { P with nx := fun S' => w2 S' P } h) (fun S' q => h2 S' P q) (fun _ _ q => q) (fun _ q => q) (fun _ q => q) (fun _ _ q => q) rfl)
def wAsg (i : Nat) (w : WpE) : WS := fun S P => w S.sl S.cs (fun s c => P.nx ⟨S.sl.set i (some s), c⟩) (fun x c => P.ex x ⟨S.sl, c⟩)
theorem js_asg (i : Nat) (hN : X.N.Nodup) (he : JE X T W e w) (hi : X.N[i]? = some x := by rfl) (hx : Loc X.env.scope x := by first | exact Or.inl rfl | exact Or.inr rfl)
    (hs : swapsWith e (some (.Name x p')) pos.line X.env = pure false := by rfl) (hf : X.fn x = true ∨ X.env.scope.names.lookup x = some .local := by first | exact .inl rfl | exact .inr rfl) : JS X T W n (.Assign [.Name x p'] e pos) (wAsg i w) := fun S P h =>
  weakS (ps_set hN hi hx he hs hf) fun D σ H ⟨ad, F, hn, h0, q1, q2, q3, q4, q5⟩ => ⟨ad, F, S.sl, S.cs, _, _, h0, h, fun s c v H1 ad1 hR x1 h1 r1 => q1 _ _ H1 ad1 (x1.s hn) (x1.le hn) (h1.set r1 i) hR, raz_of hn q5⟩
theorem js_lc (i : Nat) {vs : List Nat} {elt tg iter : Expr} {ifs : List Expr} {scope : Scope} {own : List (Str × Nat)} {p : Pat} {wi : WpI} {wt : WpT} {we : WpE} {py spos : Pos} (hN : X.N.Nodup) (h : JLC X T W elt tg iter ifs scope own wi p wt we) (hv : own.map (·.2) = vs := by rfl) (hy : X.N[i]? = some y := by rfl) (hyl : X.env.scope.names.lookup y = some .local := by rfl)
    (hsw : swapsWith (.ListComp elt [⟨tg, iter, ifs, 0⟩] scope pos) (some (.Name y py)) spos.line X.env = pure true := by exact sw_true rfl rfl rfl (by decide +kernel)) (hc : X.calm = true := by rfl) (hs : ∀ x, foldedSetIterable iter X.env x = pure x := by intro _; rfl) :
    JS X T W n (.Assign [.Name y py] (.ListComp elt [⟨tg, iter, ifs, 0⟩] scope pos) spos) (wAsg i (wLc wi p wt we vs)) := fun S P hw => by
  subst hv
  exact weakS (ps_setLc (g := tDG T X.K p) (tt := tJT T X.K W0 wt) (te := tJ T X.K W0 we) hc hN hy hyl hsw h.hi h.ok h.hg h.ht h.he hs) fun D σ H ⟨ad, F, hn, h0, q1, q2, q3, q4, q5⟩ =>
    lc_then (W := W) h.hp ⟨ad, F, S.sl, S.cs, _, _, h0, hw, fun s c v H1 ad1 hR x1 h1 r1 => q1 _ _ H1 ad1 (x1.s hn) (x1.le hn) (h1.set r1 i) hR, raz_of hn q5⟩
def wExpr (w : WpE) : WS := fun S P => w S.sl S.cs (fun _ c => P.nx ⟨S.sl, c⟩) (fun x c => P.ex x ⟨S.sl, c⟩)
theorem js_expr (he : JE X T W e w) (hs : swapsWith e none pos.line X.env = pure false := by rfl) : JS X T W n (.Expr e pos) (wExpr w) := fun S P h =>
  weakS (ps_expr he hs) fun D σ H ⟨ad, F, hn, h0, q1, q2, q3, q4, q5⟩ => ⟨ad, F, S.sl, S.cs, _, _, h0, h, fun s c v H1 ad1 hR x1 h1 r1 => q1 _ _ H1 ad1 (x1.s hn) (x1.le hn) h1 hR, raz_of hn q5⟩
def retW (n : Nat) (P : PJ) (s : Sl) (c : List Cell) : Prop := match s with
  | .dat d => P.rt (.dat d) (c.take n)
  | .cel k => n ≤ k ∧ match c[k]? with
    | some (.lst ds) => P.rt (.dat (.lst ds)) (c.take n)
    | _ => False
def wRet (n : Nat) (w : WpE) : WS := fun S P => w S.sl S.cs (fun s c => retW n P s c) (fun x c => P.ex x ⟨S.sl, c⟩)
theorem ext_take {ad ad1 : List Addr} {F : Addr → Prop} {H H1 : Hp} (xs : ExtS n ad F H ad1 H1) : ExtS n ad F H (ad1.take n) H1 := ⟨by rw [List.take_take, Nat.min_self]; exact xs.pre, fun a ha => xs.sub a (List.mem_of_mem_take ha), xs.keep, xs.frm⟩
theorem js_ret (he : JE X T W e w) : JS X T W n (.Return (some e) pos) (wRet n w) := fun S P h =>
  weakS (ps_ret he) fun D σ H ⟨ad, F, hn, h0, q1, q2, q3, q4, q5⟩ => ⟨ad, F, S.sl, S.cs, _, _, h0, h, fun s c v H1 ad1 hR x1 h1 r1 => by
    have xs := x1.s hn
    have hn1 := x1.le hn
    have kp : Kp (Mm ad1 F) H1 (Mm (ad1.take n) F) H1 := fun a o e m => ⟨e, fun z => m (z.imp List.mem_of_mem_take id)⟩
    have hl : n ≤ (ad1.take n).length := by rw [List.length_take]; omega
    unfold retW at hR
    split at hR
    · exact q2 (.dat _) _ v H1 (ad1.take n) (ext_take xs) hl (h1.hc.take n) (Rep.kp kp r1) hR
    · obtain ⟨hk, hR⟩ := hR
      split at hR
      · rename_i k _ ds hc
        obtain ⟨a, ha, rfl⟩ := r1
        obtain ⟨vs, e1, rv⟩ := h1.hc.ce k a _ ha hc
        have na : ¬ Mm (ad1.take n) F a := fun z => z.elim (fun z => by
          obtain ⟨j, hj, ej⟩ := List.getElem_of_mem z
          have hj' : (ad1.take n)[j]? = some a := by rw [List.getElem?_eq_getElem hj, ej]
          have hjn : j < n := by rw [List.length_take] at hj; omega
          rw [List.getElem?_take, if_pos hjn] at hj'
          have := ix_inj h1.hc.nd ha hj'
          omega) fun z => h1.hc.fr a (List.mem_of_getElem? ha) z
        exact q2 (.dat _) _ (.ref a) H1 (ad1.take n) (ext_take xs) hl (h1.hc.take n) (Rep.lst na e1 (rv.kp kp)) hR
      · exact hR.elim, raz_of hn q5⟩
def wRetC (n : Nat) (w : WpE) : WS := fun S P => w S.sl S.cs (fun s c => match s with
  | .cel k => k = n ∧ P.rt (.cel n) (c.take (n + 1))
  | _ => False) (fun x c => P.ex x ⟨S.sl, c⟩)
theorem js_retC (he : JE X T W e w) : JS X T W n (.Return (some e) pos) (wRetC n w) := fun S P h =>
  weakS (ps_ret he) fun D σ H ⟨ad, F, hn, h0, q1, q2, q3, q4, q5⟩ => ⟨ad, F, S.sl, S.cs, _, _, h0, h, fun s c v H1 ad1 hR x1 h1 r1 => by
    have xs := x1.s hn
    have hn1 := x1.le hn
    split at hR
    · obtain ⟨rfl, hR⟩ := hR
      obtain ⟨a, ha, rfl⟩ := r1
      rename_i k _
      have hl : k < ad1.length := by
        rcases Nat.lt_or_ge k ad1.length with z | z
        · exact z
        · rw [List.getElem?_eq_none z] at ha; cases ha
      refine q2 (.cel k) _ (.ref a) H1 (ad1.take (k + 1)) ⟨?_, fun b hb => xs.sub b (List.mem_of_mem_take hb), xs.keep, xs.frm⟩ ?_ (h1.hc.take _) ⟨a, ?_, rfl⟩ hR
      · rw [List.take_take, Nat.min_eq_left (Nat.le_succ k)]; exact xs.pre
      · rw [List.length_take]; omega
      · rw [List.getElem?_take, if_pos (Nat.lt_succ_self k)]; exact ha
    · exact hR.elim, raz_of hn q5⟩
def wIfS (wt : WpT) (w1 w2 : WS) : WS := fun S P => wt S.sl S.cs (fun b c => Br b (w1 ⟨S.sl, c⟩ P) (w2 ⟨S.sl, c⟩ P)) (fun x c => P.ex x ⟨S.sl, c⟩)
theorem js_if (hc : JT X T W c wt) (h1 : JSs X T W n body w1) (h2 : JSs X T W n els w2) : JS X T W n (.If c body els pos) (wIfS wt w1 w2) := fun S P h => by
  have b1 : PSs X body (fun D σ H => ∃ S P, DSs X T n S body P ∧ tDS T X.K n S P D σ H) := ⟨fun pins s σ H D I ⟨S', P', hS, z⟩ => hS.run pins s σ H D I z⟩
  have b2 : PSs X els (fun D σ H => ∃ S P, DSs X T n S els P ∧ tDS T X.K n S P D σ H) := ⟨fun pins s σ H D I ⟨S', P', hS, z⟩ => hS.run pins s σ H D I z⟩
  exact weakS (ps_if hc b1 b2) fun D σ H ⟨ad, F, hn, h0, q1, q2, q3, q4, q5⟩ => ⟨ad, F, S.sl, S.cs, _, _, h0, h, fun k c H1 ad1 hR x1 h1' => by
    cases k with
    | true => exact iteT ⟨⟨S.sl, c⟩, P.to W, h1 _ P (hR.t rfl), tDS.go (σ := σ) (x1.s hn) (x1.le hn) h1' q1 q2 q3 q4 q5⟩
    | false => exact iteF ⟨⟨S.sl, c⟩, P.to W, h2 _ P (hR.f rfl), tDS.go (σ := σ) (x1.s hn) (x1.le hn) h1' q1 q2 q3 q4 q5⟩, raz_of hn q5⟩
def forW (p : Pat) (wb : WS) : List D → Sta → PJ → Prop
  | [], S, P => P.nx S
  | d :: ds, S, P => asgW p d S.sl fun sl' => wb ⟨sl', S.cs⟩ { P with nx := fun S' => forW p wb ds S' P, ct := fun S' => forW p wb ds S' P, bk := P.nx }
theorem for_of {wb : WS} (hb : JSs X T W n body wb) : ∀ {items : List D} {S : Sta} {P : PJ}, forW pa wb items S P → DFor X T n pa body items S (P.to W)
  | [], S, P, h => h
  | d :: ds, S, P, h => by
    obtain ⟨sl', e, h⟩ := asgW_of h
    exact ⟨sl', e, dss_mono (hb _ _ h) (fun S' q => for_of hb q) (fun _ _ q => q) (fun _ q => q) (fun S' q => for_of hb q) (fun _ _ q => q) rfl⟩
theorem for_core {items : List D} {S S1 : Sta} {P : Post} {D : Ends} {σ : St} {H H1 : Hp} {ad ad1 : List Addr} {F : Addr → Prop} {J : It} (x1 : Ext ad F H ad1 H1) (hn : n ≤ ad.length) (h1 : Hold T X.K S1 ad1 F σ H1) (ok : ItOk T X.K F J items ad1 H1) (h : DFor X T n pa body items S1 P)
    (q1 : ∀ S' σ' H' ad', ExtS n ad F H ad' H' → n ≤ ad'.length → Hold T X.K S' ad' F σ' H' → P.nx S' → D.nx σ' H')
    (q2 : ∀ s cs' v H' ad', ExtS n ad F H ad' H' → n ≤ ad'.length → HoldC T X.K ad' F H' cs' → SlRep T X.K ad' F H' v s → P.rt s cs' → D.rt v H')
    (q5 : ∀ x S' cls d σ' H' ad', ExtS n ad F H ad' H' → n ≤ ad'.length → Hold T X.K S' ad' F σ' H' → ExRep T X.K (Mm ad' F) H' cls d x → P.ex x S' → P.W cls d σ' H') :
    ∃ Wl : Nat → Nat → St → Hp → Prop, (∃ m, Wl 0 m σ H1) ∧ ∀ i m σ H, Wl i m σ H →
      (J.stop i H ∧ D.nx σ H) ∨ (J.go i H ∧ ∃ N : St → Hp → Prop, (∀ σ' H', N σ' H' → ∃ m', m' < m ∧ Wl (i + 1) m' σ' H') ∧ ∀ x H', J.yld i H x H' → tDG T X.K pa x σ H' fun σ2 H2 => (fun D σ H => ∃ S P, DSs X T n S body P ∧ tDS T X.K n S P D σ H) { D with nx := N, ct := N, bk := D.nx } σ2 H2) := by
  have xs1 := x1.s hn
  have hn1 := x1.le hn
  refine ⟨fun i m σ' H' => ∃ ad' S', n ≤ ad'.length ∧ Hold T X.K S' ad' F σ' H' ∧ ExtS n ad1 F H1 ad' H' ∧ i ≤ items.length ∧ m = items.length - i ∧ DFor X T n pa body (items.drop i) S' P, ⟨items.length, ad1, S1, hn1, h1, .refl, Nat.zero_le _, rfl, h⟩, ?_⟩
  rintro i m σ' H' ⟨ad', S', hn', h', x', hi', rfl, hf⟩
  obtain ⟨ok1, ok2⟩ := ok F ad' H' S'.cs h'.hc x'.kp i
  by_cases hlt : i < items.length
  · have hd : items[i]? = some items[i] := List.getElem?_eq_getElem hlt
    obtain ⟨g1, g2⟩ := ok1 _ hd
    rw [List.drop_eq_getElem_cons hlt] at hf
    obtain ⟨sl', e, hf⟩ := hf
    refine .inr ⟨g1, fun σ2 H2 => ∃ ad2 S2, n ≤ ad2.length ∧ Hold T X.K S2 ad2 F σ2 H2 ∧ ExtS n ad1 F H1 ad2 H2 ∧ DFor X T n pa body (items.drop (i + 1)) S2 P, fun σ2 H2 ⟨ad2, S2, hn2, h2, x2, hf2⟩ => ⟨items.length - (i + 1), by omega, ad2, S2, hn2, h2, x2, hlt, rfl, hf2⟩, fun v H3 y => ?_⟩
    obtain ⟨gr, rv⟩ := g2 v H3 y
    obtain ⟨c3, x3⟩ := grow h'.hc gr
    refine ⟨ad', F, S', items[i], sl', h'.to x3 c3, rv, e, fun σ4 _ h4 => ⟨_, _, hf, ad', F, hn', h4, ?_, ?_, ?_, ?_, ?_⟩⟩
    · exact fun S5 σ5 H5 ad5 x5 hn5 h5 p5 => ⟨ad5, S5, hn5, h5, x'.trans ((x3.s hn').trans x5), p5⟩
    · exact fun s cs5 v5 H5 ad5 x5 hn5 c5 r5 p5 => q2 s cs5 v5 H5 ad5 (xs1.trans (x'.trans ((x3.s hn').trans x5))) hn5 c5 r5 p5
    · exact fun S5 σ5 H5 ad5 x5 hn5 h5 p5 => q1 S5 σ5 H5 ad5 (xs1.trans (x'.trans ((x3.s hn').trans x5))) hn5 h5 p5
    · exact fun S5 σ5 H5 ad5 x5 hn5 h5 p5 => ⟨ad5, S5, hn5, h5, x'.trans ((x3.s hn').trans x5), p5⟩
    · exact fun z S5 cls d σ5 H5 ad5 x5 hn5 h5 r5 p5 => q5 z S5 cls d σ5 H5 ad5 (xs1.trans (x'.trans ((x3.s hn').trans x5))) hn5 h5 r5 p5
  · have e : i = items.length := by omega
    subst e
    rw [List.drop_length] at hf
    exact .inl ⟨ok2 rfl, q1 S' σ' H' ad' (xs1.trans x') hn' h' hf⟩
def wFor (wi : WpI) (p : Pat) (wb : WS) : WS := fun S P => wi S.sl S.cs (fun items c => forW p wb items ⟨S.sl, c⟩ P) (fun x c => P.ex x ⟨S.sl, c⟩)
theorem js_for {wb : WS} (hp : PassesOwn (model X.prog X.w) X.A X.env X.xe) (hi : JI X T W tg it wi) (hg : DG X T tg pa) (hb : JSs X T W n body wb) (hc : X.calm = true := by rfl) (hs : ∀ x, foldedSetIterable it X.env x = pure x := by intro _; rfl) : JS X T W n (.For tg it body [] pos) (wFor wi pa wb) := fun S P h => by
  have b1 : PSs X body (fun D σ H => ∃ S P, DSs X T n S body P ∧ tDS T X.K n S P D σ H) := ⟨fun pins s σ H D I ⟨S', P', hS, z⟩ => hS.run pins s σ H D I z⟩
  exact weakS (ps_for hp hc hi hg b1 hs) fun D σ H ⟨ad, F, hn, h0, q1, q2, q3, q4, q5⟩ => ⟨ad, F, S.sl, S.cs, _, _, h0, h, fun items c J H1 ad1 hR x1 h1 ok => for_core (S := S) (P := P.to W) x1 hn h1 ok (for_of hb hR) q1 q2 q5, raz_of hn q5⟩
def wWhile (wt : WpT) (wb : WS) : WS := fun S P => ∃ (I : Nat → Sta → Prop) (m0 : Nat), I m0 S ∧ ∀ m S, I m S → wt S.sl S.cs (fun b c => Br b (wb ⟨S.sl, c⟩ { P with nx := fun S' => ∃ m', m' < m ∧ I m' S', ct := fun S' => ∃ m', m' < m ∧ I m' S', bk := P.nx }) (P.nx ⟨S.sl, c⟩)) (fun x c => P.ex x ⟨S.sl, c⟩)
theorem js_while {wb : WS} (hp : PassesOwn (model X.prog X.w) X.A X.env X.xe) (hc : JT X T W c wt) (hb : JSs X T W n body wb) : JS X T W n (.While c body [] pos) (wWhile wt wb) := fun S P ⟨I, m0, hI, hs⟩ => by
  have b1 : PSs X body (fun D σ H => ∃ S P, DSs X T n S body P ∧ tDS T X.K n S P D σ H) := ⟨fun pins s σ H D I ⟨S', P', hS, z⟩ => hS.run pins s σ H D I z⟩
  refine weakS (ps_while hp hc b1) fun D σ H ⟨ad, F, hn, h1, q1, q2, q3, q4, q5⟩ => ?_
  refine ⟨fun m σ' H' => ∃ ad' S', n ≤ ad'.length ∧ Hold T X.K S' ad' F σ' H' ∧ ExtS n ad F H ad' H' ∧ I m S', ⟨m0, ad, S, hn, h1, .refl, hI⟩, ?_⟩
  rintro m σ' H' ⟨ad', S', hn', h', x', hI'⟩
  refine ⟨ad', F, S'.sl, S'.cs, _, _, h', hs m S' hI', fun b c H2 ad2 hR x2 h2 => ?_, fun x c cls d H2 ad2 hx x2 h2 er => q5 x _ cls d σ' H2 ad2 (x'.trans (x2.s hn')) (x2.le hn') h2 er hx⟩
  have x12 := x'.trans (x2.s hn')
  have hn2 := x2.le hn'
  cases b with
  | true =>
    refine iteT ⟨fun σ3 H3 => ∃ m', m' < m ∧ ∃ ad3 S3, n ≤ ad3.length ∧ Hold T X.K S3 ad3 F σ3 H3 ∧ ExtS n ad F H ad3 H3 ∧ I m' S3, fun σ3 H3 ⟨m', hm, z⟩ => ⟨m', hm, z⟩, _, _, hb _ _ (hR.t rfl), ad2, F, hn2, h2, ?_, ?_, ?_, ?_, ?_⟩
    · exact fun S5 σ5 H5 ad5 x5 hn5 h5 ⟨m', hm, p5⟩ => ⟨m', hm, ad5, S5, hn5, h5, x12.trans x5, p5⟩
    · exact fun s cs5 v5 H5 ad5 x5 hn5 c5 r5 p5 => q2 s cs5 v5 H5 ad5 (x12.trans x5) hn5 c5 r5 p5
    · exact fun S5 σ5 H5 ad5 x5 hn5 h5 p5 => q1 S5 σ5 H5 ad5 (x12.trans x5) hn5 h5 p5
    · exact fun S5 σ5 H5 ad5 x5 hn5 h5 ⟨m', hm, p5⟩ => ⟨m', hm, ad5, S5, hn5, h5, x12.trans x5, p5⟩
    · exact fun z S5 cls d σ5 H5 ad5 x5 hn5 h5 r5 p5 => q5 z S5 cls d σ5 H5 ad5 (x12.trans x5) hn5 h5 r5 p5
  | false => exact iteF (q1 _ _ H2 ad2 x12 hn2 h2 (hR.f rfl))
def par2 (i j : Nat) (ss : List Sl) (sl : Sls) (k : Sls → Prop) : Prop := match ss with
  | [s1, s2] => k ((sl.set i (some s1)).set j (some s2))
  | _ => False
def wPar2 (i j : Nat) (wA : WpA) : WS := fun S P => wA S.sl S.cs (fun ss c => par2 i j ss S.sl fun sl' => P.nx ⟨sl', c⟩) (fun x c => P.ex x ⟨S.sl, c⟩)
theorem js_par2 (i j : Nat) (hN : X.N.Nodup) (ha : JA X T W [a, b] wA) (hi : X.N[i]? = some x := by rfl) (hj : X.N[j]? = some y := by rfl) (hij : i ≠ j := by decide)
    (hx : X.env.scope.names.lookup x = some .local := by rfl) (hy : X.env.scope.names.lookup y = some .local := by rfl) (hc : X.calm = true := by rfl)
    (hw : swappedStores [.Tuple [.Name x px, .Name y py] kt pt] (.Tuple [a, b] k2 pt2) X.env = pure (some [x, y]) := by rfl)
    (hs : swapsWithSole [.Tuple [.Name x px, .Name y py] kt pt] (.Tuple [a, b] k2 pt2) pos.line X.env = pure false := by rfl) : JS X T W n (.Assign [.Tuple [.Name x px, .Name y py] kt pt] (.Tuple [a, b] k2 pt2) pos) (wPar2 i j wA) := fun S P h =>
  weakS (ps_par hc hN hi hj hij hx hy ha hw hs) fun D σ H ⟨ad, F, hn, h0, q1, q2, q3, q4, q5⟩ => ⟨ad, F, S.sl, S.cs, _, _, h0, h, fun ss c vs H1 ad1 hR x1 h1 r1 => by
    unfold par2 at hR
    split at hR
    · match vs, r1 with
      | [v, w], r1 => exact ⟨v, w, rfl, q1 _ _ H1 ad1 (x1.s hn) (x1.le hn) ((h1.set r1.1 i).set r1.2.1 j) hR⟩
    · exact hR.elim, raz_of hn q5⟩
def par3 (i j l : Nat) (ss : List Sl) (sl : Sls) (k : Sls → Prop) : Prop := match ss with
  | [s1, s2, s3] => k (((sl.set i (some s1)).set j (some s2)).set l (some s3))
  | _ => False
def wPar3 (i j l : Nat) (wA : WpA) : WS := fun S P => wA S.sl S.cs (fun ss c => par3 i j l ss S.sl fun sl' => P.nx ⟨sl', c⟩) (fun x c => P.ex x ⟨S.sl, c⟩)
theorem js_par3 (i j l : Nat) (hN : X.N.Nodup) (ha : JA X T W [a, b, c] wA) (hi : X.N[i]? = some x := by rfl) (hj : X.N[j]? = some y := by rfl) (hl : X.N[l]? = some z := by rfl) (hij : i ≠ j := by decide) (hil : i ≠ l := by decide) (hjl : j ≠ l := by decide)
    (hx : X.env.scope.names.lookup x = some .local := by rfl) (hy : X.env.scope.names.lookup y = some .local := by rfl) (hz : X.env.scope.names.lookup z = some .local := by rfl) (hc : X.calm = true := by rfl)
    (hw : swappedStores [.Tuple [.Name x px, .Name y py, .Name z pz] kt pt] (.Tuple [a, b, c] k2 pt2) X.env = pure (some [x, y, z]) := by rfl)
    (hs : swapsWithSole [.Tuple [.Name x px, .Name y py, .Name z pz] kt pt] (.Tuple [a, b, c] k2 pt2) pos.line X.env = pure false := by rfl) : JS X T W n (.Assign [.Tuple [.Name x px, .Name y py, .Name z pz] kt pt] (.Tuple [a, b, c] k2 pt2) pos) (wPar3 i j l wA) := fun S P h =>
  weakS (L2.ps_par3 hc hN hi hj hl hij hil hjl hx hy hz ha hw hs) fun D σ H ⟨ad, F, hn, h0, q1, q2, q3, q4, q5⟩ => ⟨ad, F, S.sl, S.cs, _, _, h0, h, fun ss c vs H1 ad1 hR x1 h1 r1 => by
    unfold par3 at hR
    split at hR
    · match vs, r1 with
      | [u, v, w], r1 => exact ⟨u, v, w, rfl, q1 _ _ H1 ad1 (x1.s hn) (x1.le hn) (((h1.set r1.1 i).set r1.2.1 j).set r1.2.2.1 l) hR⟩
    · exact hR.elim, raz_of hn q5⟩
def unpW (ps : List Pat) (s : Sl) (cs : List Cell) (sl : Sls) (k : Sls → Prop) : Prop := match s with
  | .dat (.tup ds) => asgW (.tp ps) (.tup ds) sl k
  | s => wL cs s fun ds => asgW (.tp ps) (.tup ds) sl k
theorem pg_or {t1 t2 : TG} (h1 : PG X tg t1) (h2 : PG X tg t2) : PG X tg (fun v σ H Q => t1 v σ H Q ∨ t2 v σ H Q) := ⟨fun pins s σ H v u Q I r h => h.elim (h1.run pins s σ H v u Q I r) (h2.run pins s σ H v u Q I r)⟩
def wTupS (ps : List Pat) (w : WpE) : WS := fun S P => w S.sl S.cs (fun s c => unpW ps s c S.sl fun sl' => P.nx ⟨sl', c⟩) (fun x c => P.ex x ⟨S.sl, c⟩)
theorem js_tup {ps : List Pat} {k m : Nat} {tpos : Pos} (he : JE X T W e w) (hg : DGs X T es ps) (hn : (assignEach es X.env).length = m := by rfl) (hp : ps.length = m := by rfl) (hst : (assignEach es X.env).findIdx? (·.1) = none := by rfl) (hc : X.calm = true := by rfl)
    (hs : swapsWithSole [.Tuple es k tpos] e pos.line X.env = pure false := by rfl) (hw : swappedStores [.Tuple es k tpos] e X.env = pure none := by rfl)
    (h1 : (assignEach [.Tuple es k tpos] X.env).map (·.2) = [assign (.Tuple es k tpos) X.env] := by rfl) : JS X T W n (.Assign [.Tuple es k tpos] e pos) (wTupS ps w) := fun S P h =>
  weakS (ps_asg he (pg_or (dg_tup hc hg hn hp hst) (pg_unl (n := m) hc hg hn hst)) hs hw h1) fun D σ H ⟨ad, F, hn', h0, q1, q2, q3, q4, q5⟩ => ⟨ad, F, S.sl, S.cs, _, _, h0, h, fun s c v H1 ad1 hR x1 h1 r1 => by
    unfold unpW at hR
    split at hR
    · obtain ⟨sl', ha, hR⟩ := asgW_of hR
      exact .inl ⟨ad1, F, ⟨S.sl, c⟩, _, sl', h1, r1, ha, fun σ' _ h2 => q1 _ _ H1 ad1 (x1.s hn') (x1.le hn') h2 hR⟩
    · obtain ⟨ds, hL, hR⟩ := wL_of hR
      obtain ⟨sl', ha, hR⟩ := asgW_of hR
      have ha : asgPs ps ds S.sl = some sl' := ha
      obtain ⟨a, ws, rfl, e1, q0⟩ := rd_lst hL h1.hc r1
      exact .inr ⟨a, ws, rfl, SqL.of e1, by rw [q0.length, ← hp]; exact asgPs_len ha, ad1, F, ⟨S.sl, c⟩, ds, sl', h1, q0, ha, fun σ' _ h2 => q1 _ _ H1 ad1 (x1.s hn') (x1.le hn') h2 hR⟩, raz_of hn' q5⟩
def setLW (s : Sl) (i : Sl) (d : Sl) (cs : List Cell) (k : List Cell → Prop) : Prop := match s, i, d with
  | .cel j, .dat (.int i), .dat d => match cs[j]? with
    | some (.lst ds) => match ixN ds.length i with
      | some m => k (cs.set j (.lst (ds.set m d)))
      | none => False
    | _ => False
  | _, _, _ => False
def wSetL (we wo wx : WpE) : WS := fun S P => we S.sl S.cs (fun d c1 => wo S.sl c1 (fun s c2 => wx S.sl c2 (fun i c3 => setLW s i d c3 fun c4 => P.nx ⟨S.sl, c4⟩) (fun x c => P.ex x ⟨S.sl, c⟩)) (fun x c => P.ex x ⟨S.sl, c⟩)) (fun x c => P.ex x ⟨S.sl, c⟩)
theorem js_setL (he : JE X T W e we) (ho : JE X T W o wo) (hx : JE X T W ix wx)
    (ha : ∀ v, assign (.Subscript o ix p') X.env v = (do
      let ov ← holding [v] (eval o X.env)
      let iv ← holding [v, ov] (eval ix X.env)
      standAt p'
      holding [v, ov, iv] (setItem ov iv v)
      release [v, ov, iv] []) := by intro _; rfl)
    (hs : swapsWithSole [.Subscript o ix p'] e pos.line X.env = pure false := by rfl) (hw : swappedStores [.Subscript o ix p'] e X.env = pure none := by rfl)
    (h1 : (assignEach [.Subscript o ix p'] X.env).map (·.2) = [assign (.Subscript o ix p') X.env] := by rfl) : JS X T W n (.Assign [.Subscript o ix p'] e pos) (wSetL we wo wx) := fun S P h =>
  weakS (ps_asg he (pg_sub ho hx set_list ha) hs hw h1) fun D σ H ⟨ad, F, hn, h0, q1, q2, q3, q4, q5⟩ => ⟨ad, F, S.sl, S.cs, _, _, h0, h, fun d c1 v H1 ad1 hR1 x1 h1 r1 => ⟨ad1, F, S.sl, c1, _, _, h1, hR1, fun s c2 w H2 ad2 hR2 x2 h2 r2 => ⟨ad2, F, S.sl, c2, _, _, h2, hR2, fun i c3 z H3 ad3 hR3 x3 h3 r3 => by
    unfold setLW at hR3
    split at hR3
    · rename_i j ii dd
      split at hR3
      · rename_i ds hk
        split at hR3
        · rename_i m hm
          cases r3
          have r2' := SlRep.ext x3 r2
          obtain ⟨a, ea, rfl⟩ := r2'
          obtain ⟨vs, e1, q0⟩ := h3.hc.ce j a _ ea hk
          have rd : Rep T X.K (Mm ad3 F) H3 v dd := SlRep.ext (s := .dat dd) x3 (SlRep.ext (s := .dat dd) x2 r1)
          refine ⟨a, vs, ii, m, rfl, rfl, e1, by rw [q0.length]; exact hm, ?_⟩
          have kp : Kp (Mm ad3 F) H3 (Mm ad3 F) (upd H3 a (.lst (vs.set m v))) := fun b o e nn => ⟨by rw [upd_ne (fun z => nn (.inl (by rw [z]; exact List.mem_of_getElem? ea)))]; exact e, nn⟩
          obtain ⟨k4, x4⟩ := h3.hc.setc (o := .lst (vs.set m v)) (c := .lst (ds.set m dd)) ea ⟨_, upd_same, (q0.set rd m).kp kp⟩
          have x := x1.trans h1.hc (x2.trans h2.hc (x3.trans h3.hc x4))
          exact q1 _ _ _ ad3 (x.s hn) (x.le hn) (h3.to x4 k4) hR3
        · exact hR3.elim
      · exact hR3.elim
    · exact hR3.elim, ((raz_of hn q5).on x1 h1).on x2 h2⟩, (raz_of hn q5).on x1 h1⟩, raz_of hn q5⟩
def setFW (cn : Nat) (f : Str) (s d : Sl) (cs : List Cell) (k : List Cell → Prop) : Prop := match s, d with
  | .cel j, .dat d => match cs[j]? with
    | some (.ins m fs) => m = cn ∧ fIdx (fs.map (·.1)) f = none ∧ fs.length < 1000 ∧ k (cs.set j (.ins cn (fs ++ [(f, d)])))
    | _ => False
  | _, _ => False
def wSetF (cn : Nat) (f : Str) (we wo : WpE) : WS := fun S P => we S.sl S.cs (fun d c1 => wo S.sl c1 (fun s c2 => setFW cn f s d c2 fun c3 => P.nx ⟨S.sl, c3⟩) (fun x c => P.ex x ⟨S.sl, c⟩)) (fun x c => P.ex x ⟨S.sl, c⟩)
theorem js_fld {cn : Nat} {C : Addr} {fn : List Str} {f : Str} (hT : T cn = some (C, fn)) (hc : Cls X.K C) (hn : NoAttr X.K C f) (he : JE X T W e we) (ho : JE X T W o wo) (hs : swapsWith e (some (.Attribute o f p')) pos.line X.env = pure false := by rfl) : JS X T W n (.Assign [.Attribute o f p'] e pos) (wSetF cn f we wo) := fun S P h =>
  weakS (ps_fld ho he hs) fun D σ H ⟨ad, F, hn', h0, q1, q2, q3, q4, q5⟩ => ⟨ad, F, S.sl, S.cs, _, _, h0, h, fun d c1 v H1 ad1 hR1 x1 h1 r1 => ⟨ad1, F, S.sl, c1, _, _, h1, hR1, fun s c2 w H2 ad2 hR2 x2 h2 r2 => by
    unfold setFW at hR2
    split at hR2
    · rename_i j dd
      split at hR2
      · rename_i m fs hk
        obtain ⟨rfl, hf, hl, hR2⟩ := hR2
        obtain ⟨a, ea, rfl⟩ := r2
        obtain ⟨C', fn', dx, vs, ht, e1, lv, rv⟩ := h2.hc.ce j a _ ea hk
        rw [hT] at ht
        cases ht
        have rd : Rep T X.K (Mm ad2 F) H2 v dd := SlRep.ext (s := .dat dd) x2 r1
        have lz : ((fs.map (·.1)).zip vs).length < 1000 := by rw [List.length_zip, List.length_map]; omega
        refine ⟨a, C, dx, _, rfl, e1, hc, hn, lz, ?_⟩
        rw [putF_new hf (by rw [lv, List.length_map])]
        have kp : Kp (Mm ad2 F) H2 (Mm ad2 F) (upd H2 a (.ins C dx ((fs.map (·.1) ++ [f]).zip (vs ++ [v])))) := fun b o e n => ⟨by rw [upd_ne (fun z => n (.inl (by rw [z]; exact List.mem_of_getElem? ea)))]; exact e, n⟩
        obtain ⟨c3, x3⟩ := h2.hc.setc (o := .ins C dx ((fs.map (·.1) ++ [f]).zip (vs ++ [v]))) (c := .ins m (fs ++ [(f, dd)])) ea
          ⟨C, fn, dx, vs ++ [v], hT, by rw [upd_same, List.map_append]; rfl, by simp [lv], by rw [List.map_append]; exact (rv.append (.cons rd .nil)).kp kp⟩
        have x : Ext ad F H ad2 _ := x1.trans h1.hc (x2.trans h2.hc x3)
        exact q1 _ _ _ ad2 (x.s hn') (x.le hn') (h2.to x3 c3) hR2
      · exact hR2.elim
    · exact hR2.elim, (raz_of hn' q5).on x1 h1⟩, raz_of hn' q5⟩
def appW (s d : Sl) (cs : List Cell) (R : RV) : Prop := match s, d with
  | .cel j, .dat d => match cs[j]? with
    | some (.lst ds) => ds.length < sizeLine ∧ R (.dat .non) (cs.set j (.lst (ds ++ [d])))
    | _ => False
  | _, _ => False
def wApp (wo we : WpE) : WpE := fun sl cs R Rx => wo sl cs (fun s c1 => (match s with
  | .cel j => match c1[j]? with
    | some (.lst _) => True
    | _ => False
  | _ => False) ∧ we sl c1 (fun d c2 => appW s d c2 R) Rx) Rx
def frzW (i n : Nat) (S : Sta) (k : Sta → Prop) : Prop := match S.sl[i]? with
  | some (some (.cel m)) => n ≤ m ∧ match S.cs[m]? with
    | some (.lst ds) => k ⟨S.sl.map (frzS m ds), S.cs.take m⟩
    | _ => False
  | _ => False
theorem jss_frz (i : Nat) {sts : List Stmt} {w : WS} (h : JSs X T W n sts w) : JSs X T W n sts (fun S P => frzW i n S fun S' => w S' P) := fun S P hw => by
  have hw : frzW i n S fun S' => w S' P := hw
  unfold frzW at hw
  split at hw
  · obtain ⟨hm, hw⟩ := hw
    split at hw
    · rename_i ds hc
      exact dss_freeze _ hm hc (h _ P hw)
    · exact hw.elim
  · exact hw.elim
end
def endJ (n : Nat) (s : Sl) (cs' : List Cell) : PJ := { nx := fun S => s = .dat .non ∧ S.cs.take n = cs', rt := fun r c => r = s ∧ c = cs' }
def endJX (n : Nat) (x : Exc) (cs' : List Cell) : PJ := { nx := fun _ => False, rt := fun _ _ => False, ex := fun y S => y = x ∧ S.cs.take n = cs' }
def ctOf (N ps : List Str) (w : Nat → WS) : Ct := fun args cs s cs' => args.length = ps.length ∧ w cs.length (st0 N args cs) (endJ cs.length s cs')
def ctXOf (N ps : List Str) (w : Nat → WS) : CtX := fun args cs x cs' => args.length = ps.length ∧ w cs.length (st0 N args cs) (endJX cs.length x cs')
section
variable {T : Tab} {P : Program} {w : World} {K : PySem.W.Frag} {mg : Str → Option Value} {base : Heap} {x qual : Str} {st : Stmt} {f : Addr} {fd : FuncData} {N ps : List Str} {k : Nat} {ws : Nat → WS}
theorem fn_J (F : Fun K x qual st f fd) (Sc : FnScope N ps (defScope st))
    (body : ∀ cdv A outer sh H E, Room k (cx0 P w K mg base N qual st f cdv A outer sh H E).A → ∀ n, JSs (cx0 P w K mg base N qual st f cdv A outer sh H E) T W0 n (defBody st) (ws n)) : FnOk P w K mg base CX0 (k + 1) f fd ps (spC T K (ctOf N ps ws)) :=
  fn_ok F Sc (fun _ _ _ _ h => h.1) fun cdv A outer sh H E hr args cs s cs' h => body cdv A outer sh H E hr _ _ _ h.2
theorem fn_JX (F : Fun K x qual st f fd) (Sc : FnScope N ps (defScope st))
    (body : ∀ cdv A outer sh H E, Room k (cxX P w K mg base N qual st f cdv A outer sh H E).nox.A → ∀ n, JSs (cxX P w K mg base N qual st f cdv A outer sh H E).nox T W0 n (defBody st) (ws n))
    (bodyX : ∀ cdv A outer sh H E, Room k (cxX P w K mg base N qual st f cdv A outer sh H E).A → Takes (cxX P w K mg base N qual st f cdv A outer sh H E) (fun cls d _ H => E cls d H) → ∀ n, JSs (cxX P w K mg base N qual st f cdv A outer sh H E) T (fun cls d _ H => E cls d H) n (defBody st) (ws n)) :
    FnOk P w K mg base (L2.CX P w) (k + 1) f fd ps (spX T K (ctOf N ps ws) (ctXOf N ps ws)) :=
  fn_okX F Sc (fun _ _ _ _ h => h.1) (fun _ _ _ _ h => h.1) (fun cdv A outer sh H E hr args cs s cs' h => body cdv A outer sh H E hr _ _ _ h.2) fun cdv A outer sh H E hr tk args cs x cs' h => bodyX cdv A outer sh H E hr tk _ _ _ h.2
end
end Dl
namespace Dl
open PySem L2
def optW (o : Option Bool) (k : Bool → Prop) : Prop := match o with
  | some b => k b
  | none => False
theorem optW_of {o : Option Bool} {k : Bool → Prop} (h : optW o k) : ∃ b, o = some b ∧ k b := by
  unfold optW at h
  split at h
  · exact ⟨_, rfl, h⟩
  · exact h.elim
section
variable {X : Cx} {T : Tab} {W : WX} {n : Nat} {a b c e e2 o ix it tg : Expr} {es : List Expr} {pos apos p p2 p' : Pos} {wa wb we wo wx w : WpE} {wt : WpT} {wA : WpA} {x y z : Str} {u : String} {C2 : Addr}
theorem je_app (ho : JE X T W o wo) (he : JE X T W e we) (hb : attributeBase o "append" X.env (eval o X.env) = eval o X.env := by rfl) (hfew : ((backTo pos (starEach [e] X.env)).all (fun x => !x.1) && (backToKw pos (keywordEach [] X.env)).all (fun x => x.1.isSome) && decide (([e] : List Expr).length + ([] : List Keyword).length + (if ([] : List Keyword).isEmpty then 0 else 1) < 30)) = true := by rfl)
    (hl : (apos.endLine == pos.line) = true := by rfl) (hs : starEach [e] X.env = (false, eval e X.env) :: starEach [] X.env := by rfl) (hpl : (backTo pos (starEach [] X.env)).any (·.1) = false := by rfl) : JE X T W (.Call (.Attribute o "append" apos) [e] [] pos) (wApp wo we) :=
  weak (pe_bm PySem.F.plainAttrs_list PySem.F.slot_list_append PySem.F.type_list_append mt_append ho (ja_cons he ja_nil hs) hb hfew hl hs hpl) fun σ H Q ⟨ad, F, sl, cs, R, Rx, h0, hw, q, qx⟩ => ⟨ad, F, sl, cs, _, Rx, h0, hw, fun s c1 v H1 ad1 hw1 x1 h1 r1 => by
    obtain ⟨hs1, hw1⟩ := hw1
    split at hs1
    · rename_i j
      split at hs1
      · rename_i ds0 hk0
        have r1' := r1
        obtain ⟨l, el, rfl⟩ := r1
        obtain ⟨vs0, e0, q0⟩ := h1.hc.ce j l _ el hk0
        refine ⟨.inl ⟨rfl, vs0, SqL.of e0⟩, ad1, F, sl, c1, (fun ss c2 => match ss with
          | [d] => appW (.cel j) d c2 R
          | _ => False), Rx, h1, hw1, fun ss c2 ws H2 ad2 hw2 x2 h2 r2 => ?_, qx.on x1 h1⟩
        match ss, ws, r2 with
        | [s2], [y], r2 =>
          have hw2 : appW (.cel j) s2 c2 R := hw2
          match s2, r2, hw2 with
          | .dat d, r2, hw2 =>
            have hw2 : (match c2[j]? with
              | some (.lst ds) => ds.length < sizeLine ∧ R (.dat .non) (c2.set j (.lst (ds ++ [d])))
              | _ => False) := hw2
            split at hw2
            · rename_i ds hk
              have el2 : ad2[j]? = some l := by
                obtain ⟨l', el', e⟩ := SlRep.ext (s := .cel j) x2 r1'
                cases e
                exact el'
              obtain ⟨vs, e1, q1⟩ := h2.hc.ce j l _ el2 hk
              refine ⟨l, vs, y, rfl, rfl, e1, by rw [q1.length]; exact hw2.1, ?_⟩
              have kp : Kp (Mm ad2 F) H2 (Mm ad2 F) (upd H2 l (.lst (vs ++ [y]))) := fun b o e nn => ⟨by rw [upd_ne (fun z => nn (.inl (by rw [z]; exact List.mem_of_getElem? el2)))]; exact e, nn⟩
              obtain ⟨k4, x4⟩ := h2.hc.setc (o := .lst (vs ++ [y])) (c := .lst (ds ++ [d])) el2 ⟨_, upd_same, (q1.append (.cons r2.1 .nil)).kp kp⟩
              exact q _ _ .non _ ad2 hw2.2 (x1.trans h1.hc (x2.trans h2.hc x4)) (h2.to x4 k4) Rep.non
            · exact hw2.elim
          | .cel _, _, hw2 => exact hw2.elim
      · exact hs1.elim
    · exact hs1.elim, qx⟩
def isiW (tb : String → Option Bool) (ob : Nat → Option Bool) (s : Sl) (k : Bool → Prop) : Prop := match s with
  | .dat (.obj n _) => optW (ob n) k
  | .dat d => match tyD d with
    | some t => optW (tb t) k
    | none => False
  | _ => False
def wIsi (tb : String → Option Bool) (ob : Nat → Option Bool) (w : WpE) : WpE := fun sl cs R Rx => w sl cs (fun s c => isiW tb ob s fun b => R (.dat (.bl b)) c) Rx
def ObIs (K : PySem.W.Frag) (T : Tab) (c : Value) (ob : Nat → Option Bool) : Prop := ∀ n b, ob n = some b → ∃ C fn, T n = some (C, fn) ∧ IsiC K C ∧ PySem.W.kitOne K (.ref C) c = some b
theorem je_isiB {ob : Nat → Option Bool} (hi : X.mg "isinstance" = none) (hm : X.mg x = none) (hv : bootBuiltins x = some (.type u)) (hob : ObIs X.K T (.type u) ob) (he : JE X T W e w) (hg : Gl X "isinstance" := by rfl) (hg2 : Gl X x := by rfl) (hn : x ≠ "__name__" := by decide) (hdb : (x == ("__debug__" : Str)) = false := by decide)
    (hs1 : starEach [e, .Name x p2] X.env = (false, eval e X.env) :: starEach [.Name x p2] X.env := by rfl) (hs2 : starEach [.Name x p2] X.env = (false, eval (.Name x p2) X.env) :: starEach [] X.env := by rfl) (hpl : (backTo pos (starEach [.Name x p2] X.env)).any (·.1) = false := by rfl) :
    JE X T W (.Call (.Name "isinstance" p) [e, .Name x p2] [] pos) (wIsi (fun t => kitB t u) ob w) :=
  weak (pe_callB call_isi hg hi (by decide +kernel) (pa_cons he (pa_cons (pe_bltn (v := .ty u) hg2 hm hv rfl hn hdb) pa_nil hs2) hs1) (by decide) (by decide) hs1 hpl) fun σ H Q ⟨ad, F, sl, cs, R, Rx, h0, hw, q, qx⟩ => ⟨ad, F, sl, cs, _, Rx, h0, hw, fun s c1 v H1 ad1 hw1 x1 h1 r1 => by
    unfold isiW at hw1
    split at hw1
    · obtain ⟨k, hk, hR⟩ := optW_of hw1
      obtain ⟨C, fn, hT, hI, hk⟩ := hob _ _ hk
      cases r1 with
      | @obj a C' dx _ fn' vs' _ ht na e1 hl r =>
        rw [hT] at ht
        cases ht
        exact ⟨_, .ty u, .ref C, .type u, k, rfl, .ty u, .base (.ins e1 hI.cl hI.ca hI.cn hI.ct hI.cm), hk, q _ c1 _ H1 ad1 hR x1 h1 Rep.bl⟩
    · split at hw1
      · rename_i ht
        obtain ⟨k, hk, hR⟩ := optW_of hw1
        exact ⟨v, .ty u, .type _, .type u, k, rfl, .ty u, tyx_of r1 ht, kit_ty hk, q _ c1 _ H1 ad1 hR x1 h1 Rep.bl⟩
      · exact hw1.elim
    · exact hw1.elim, qx⟩
theorem je_isiC {tb : String → Option Bool} {ob : Nat → Option Bool} (hi : X.mg "isinstance" = none) (hm : X.mg x = some (.ref C2)) (htb : ∀ t b, tb t = some b → PySem.W.kitOne X.K (.type t) (.ref C2) = some b) (hob : ObIs X.K T (.ref C2) ob) (he : JE X T W e w) (hg : Gl X "isinstance" := by rfl) (hg2 : Gl X x := by rfl) (hdb : (x == ("__debug__" : Str)) = false := by decide)
    (hs1 : starEach [e, .Name x p2] X.env = (false, eval e X.env) :: starEach [.Name x p2] X.env := by rfl) (hs2 : starEach [.Name x p2] X.env = (false, eval (.Name x p2) X.env) :: starEach [] X.env := by rfl) (hpl : (backTo pos (starEach [.Name x p2] X.env)).any (·.1) = false := by rfl) :
    JE X T W (.Call (.Name "isinstance" p) [e, .Name x p2] [] pos) (wIsi tb ob w) :=
  weak (pe_callB call_isi hg hi (by decide +kernel) (pa_cons he (pa_cons (pe_glob (v := .ref C2) hg2 hm rfl hdb) pa_nil hs2) hs1) (by decide) (by decide) hs1 hpl) fun σ H Q ⟨ad, F, sl, cs, R, Rx, h0, hw, q, qx⟩ => ⟨ad, F, sl, cs, _, Rx, h0, hw, fun s c1 v H1 ad1 hw1 x1 h1 r1 => by
    unfold isiW at hw1
    split at hw1
    · obtain ⟨k, hk, hR⟩ := optW_of hw1
      obtain ⟨C, fn, hT, hI, hk⟩ := hob _ _ hk
      cases r1 with
      | @obj a C' dx _ fn' vs' _ ht na e1 hl r =>
        rw [hT] at ht
        cases ht
        exact ⟨_, .ref C2, .ref C, .ref C2, k, rfl, .own C2, .base (.ins e1 hI.cl hI.ca hI.cn hI.ct hI.cm), hk, q _ c1 _ H1 ad1 hR x1 h1 Rep.bl⟩
    · split at hw1
      · rename_i ht
        obtain ⟨k, hk, hR⟩ := optW_of hw1
        exact ⟨v, .ref C2, .type _, .ref C2, k, rfl, .own C2, tyx_of r1 ht, htb _ _ hk, q _ c1 _ H1 ad1 hR x1 h1 Rep.bl⟩
      · exact hw1.elim
    · exact hw1.elim, qx⟩
def wRaise1 (m : Nat) (w : WpE) : WS := fun S P => w S.sl S.cs (fun s c => isDat s fun d => P.ex ⟨m, [d]⟩ ⟨S.sl, c⟩) (fun x c => P.ex x ⟨S.sl, c⟩)
theorem js_raise1 {m k : Nat} {f g : Str} {C fI : Addr} {fd : FuncData} {pos2 : Pos} (tk : Takes X W) (oc : OexC X.K C) (iC : PySem.W.findIn X.K (.ref C) "__init__" = some (some (.ref fI))) (tI : PySem.W.typeIn X.K (.ref fI) = some (.type "function"))
    (F1 : FnOk X.prog X.w X.K X.mg X.base CX0 k fI fd ["self", g] (spE1 C f)) (hr : Room (k + 1) X.A) (hb : Binds X.K fd ["self", g] []) (hm : X.mg x = some (.ref C)) (hT : T m = some (C, [f])) (ha : JE X T W e w) (hc : X.calm = true := by rfl) (hg : Gl X x := by rfl)
    (hdb : (x == ("__debug__" : Str)) = false := by decide) (he : starEach [e] X.env = (false, eval e X.env) :: starEach [] X.env := by rfl) : JS X T W n (.Raise (some (.Call (.Name x p) [e] [] pos)) none pos2) (wRaise1 m w) := fun S P h =>
  weakS (ps_raise hc tk (pmk_oex oc iC tI F1 hr hb .nil pass0 hg hm (ja_cons ha ja_nil he) hdb he rfl)) fun D σ H ⟨ad, F, hn, h0, q1, q2, q3, q4, q5⟩ => ⟨ad, F, S.sl, S.cs, (fun ss c => match ss with
      | [s] => isDat s fun d => P.ex ⟨m, [d]⟩ ⟨S.sl, c⟩
      | _ => False), (fun x c => P.ex x ⟨S.sl, c⟩), h0, h, fun ss c1 vs H1 ad1 hR x1 h1 r1 => by
    match ss, vs, r1 with
    | [s], [v], r1 =>
      have hR' := isDat_of (s := s) hR
      clear hR
      obtain ⟨d, e0, hR⟩ := hR'
      subst e0
      refine ⟨by show 1 ≤ 1000; decide, fun a na => ⟨a, v, rfl, upd_same, fun dx ndx ne => ⟨rfl, dx, [(f, v)], upd_same, ?_, ?_, ?_⟩⟩⟩
      · rw [upd_ne ne, upd_same]
      · rw [upd_ne ne] at ndx; exact ndx
      · have n1 : H1 dx = none := by rw [upd_ne ne] at ndx; exact ndx
        have eH : upd (del (upd (upd (upd H1 a (exo a C none)) dx (exd dx [(f, v)])) a (exo a C (some dx))) a) dx (.xd [(f, v)]) = upd H1 dx (.xd [(f, v)]) := by
          funext b
          by_cases hb : b = dx
          · rw [hb, upd_same, upd_same]
          · rw [upd_ne hb, upd_ne hb]
            by_cases hba : b = a
            · rw [hba, del_same, na]
            · rw [del_ne hba, upd_ne hba, upd_ne hb, upd_ne hba]
        rw [eH]
        obtain ⟨c3, x3⟩ := h1.hc.newo (o := .xd [(f, v)]) n1
        have hn1 := x1.le hn
        exact q5 ⟨m, [d]⟩ ⟨S.sl, c1⟩ (.ref C) (some dx) σ _ ad1 ((x1.trans h1.hc x3).s hn) hn1 (h1.to x3 c3) ⟨C, [f], hT, rfl, .inr ⟨dx, [v], rfl, h1.hc.new n1, upd_same, rfl, .cons (Rep.kp x3.kp r1.1) .nil⟩⟩ hR, raz_of hn q5⟩
def sufJ (i : Nat) (P : PJ) : PJ := { nx := fun S' => P.nx ⟨S'.sl.set i none, S'.cs⟩, rt := P.rt, bk := fun S' => P.bk ⟨S'.sl.set i none, S'.cs⟩, ct := fun S' => P.ct ⟨S'.sl.set i none, S'.cs⟩ }
def wTry (mt : Nat → Option Bool) (i : Nat) (wb : WS) (ws : Nat → Addr → Option Addr → WS) : WS := fun S P => wb S { P with ex := fun x S' => match mt x.n with
  | some true => ∀ a d, ws x.n a d ⟨S'.sl.set i (some (.dat (.err x.n a d x.fs))), S'.cs⟩ (sufJ i P)
  | some false => P.ex x S'
  | none => False }
theorem js_try {body suite : List Stmt} {b0 : Stmt} {pos' np : Pos} {i : Nat} {cv : Value} {mt : Nat → Option Bool} {wb : WS} {ws : Nat → Addr → Option Addr → WS} (tk : Takes X W) (hN : X.N.Nodup) (hc : Names X x cv)
    (hmt : ∀ m b, mt m = some b → ∀ C fn, T m = some (C, fn) → PySem.W.exmOne X.K (.ref C) cv = some b)
    (hb : ∀ (V : WX) (pn : List (Addr × Obj)) (xe : Value → Shared → Prop), Takes (X.tr pn xe) V → PassesOwn (model X.prog X.w) X.A X.env xe → JSs (X.tr pn xe) T V n body wb)
    (hsu : ∀ (m : Nat) (a : Addr) (oe : Obj) (d : Option Addr) (C : Addr) (fn : List Str) (pn : List (Addr × Obj)), mt m = some true → T m = some (C, fn) → Zc (.ref C) d oe → (∃ vs, oe.data = .fields vs) → JSs (X.suite a ((a, oe) :: pn)) T W0 n (b0 :: suite) (ws m a d))
    (hs : X.stack = X.env :: X.outer := by rfl) (hf : X.env.frame = some X.env.locals := by rfl) (hi : X.N[i]? = some y := by rfl) (hln : X.env.kindOf y = some .local := by rfl) :
    JS X T W n (.Try body [.ExceptHandler (some (.Name x np)) (some y) (b0 :: suite) pos'] [] [] pos) (wTry mt i wb ws) := fun S P h => by
  let ts : Addr → Value → Option Addr → TS := fun a cls d D σ H => ∃ m C fn S1 P1, cls = .ref C ∧ mt m = some true ∧ T m = some (C, fn) ∧ ws m a d S1 P1 ∧ tDS T X.K n S1 (P1.to W0) D σ H
  have hsu' : ∀ (a : Addr) (oe : Obj) (cls : Value) (d : Option Addr) (pn : List (Addr × Obj)), Zc cls d oe → (∃ vs, oe.data = .fields vs) → PSs (X.suite a ((a, oe) :: pn)) (b0 :: suite) (ts a cls d) := fun a oe cls d pn hz hv => ⟨fun pins s σ H D I z => by
    obtain ⟨m, C, fn, S1, P1, rfl, h1, h2, h3, z⟩ := z
    exact (hsu m a oe d C fn pn h1 h2 hz hv S1 P1 h3).run pins s σ H D I z⟩
  let tb : WX → TS := fun V D σ H => ∃ S1 P1, wb S1 P1 ∧ tDS T X.K n S1 (P1.to V) D σ H
  have hb' : ∀ (V : WX) (pn : List (Addr × Obj)) (xe : Value → Shared → Prop), Takes (X.tr pn xe) V → PassesOwn (model X.prog X.w) X.A X.env xe → PSs (X.tr pn xe) body (tb V) := fun V pn xe t po => ⟨fun pins s σ H D I z => by
    obtain ⟨S1, P1, h1, z⟩ := z
    exact (hb V pn xe t po S1 P1 h1).run pins s σ H D I z⟩
  refine weakS (ps_try_as (ts := ts) (tb := tb) hs hf hN hi hln hc tk hb' hsu') fun D σ H ⟨ad, F, hn, h0, q1, q2, q3, q4, q5⟩ => ?_
  refine ⟨S, _, h, ad, F, hn, h0, q1, q2, q3, q4, ?_⟩
  intro x0 S2 cls d σ' H' ad' x' hn' h' er hx
  obtain ⟨C, fn, e1, e2, er'⟩ := id er
  have hx : match mt x0.n with
    | some true => ∀ a d, ws x0.n a d ⟨S2.sl.set i (some (.dat (.err x0.n a d x0.fs))), S2.cs⟩ (sufJ i P)
    | some false => P.ex x0 S2
    | none => False := hx
  split at hx
  · rename_i hm
    refine ⟨true, by rw [e2]; exact hmt _ _ hm C fn e1, fun _ a na => ⟨x0.n, C, fn, _, sufJ i P, e2, hm, e1, hx a d, ?_⟩, fun z => nomatch z⟩
    have rp : Rep T X.K (Mm ad' F) H' (.ref a) (.err x0.n a d x0.fs) := by
      rcases er' with ⟨f1, f2, f3⟩ | ⟨dd, vs, a1, a2, a3, a4, a5⟩
      · rw [f2, f3]
        subst f1
        exact .err (vs := []) e1 (.inl ⟨rfl, rfl, rfl⟩) .nil
      · exact .err e1 (.inr ⟨dd, a1, a2, a3, a4⟩) a5
    have hh := h'.set (s := .dat (.err x0.n a d x0.fs)) rp i
    refine ⟨ad', F, hn', hh, ?_, ?_, ?_, ?_, fun _ _ _ _ _ _ _ _ _ _ _ z => z.elim⟩
    · exact fun S3 σ3 H3 ad3 x3 hn3 h3 p => q1 _ _ H3 ad3 (x'.trans x3) hn3 (h3.unset i) p
    · exact fun s cs3 v H3 ad3 x3 hn3 c3 r3 p => q2 s cs3 v H3 ad3 (x'.trans x3) hn3 c3 r3 p
    · exact fun S3 σ3 H3 ad3 x3 hn3 h3 p => q3 _ _ H3 ad3 (x'.trans x3) hn3 (h3.unset i) p
    · exact fun S3 σ3 H3 ad3 x3 hn3 h3 p => q4 _ _ H3 ad3 (x'.trans x3) hn3 (h3.unset i) p
  · rename_i hm
    exact ⟨false, by rw [e2]; exact hmt _ _ hm C fn e1, (fun z => nomatch z), fun _ => q5 x0 S2 cls d σ' H' ad' x' hn' h' er hx⟩
  · exact hx.elim
end
section
variable {X : Cx} {T : Tab} {a C Ce : Addr} {oe : Obj} {d : Option Addr} {pn : List (Addr × Obj)} {e e2 : Expr} {pos p : Pos} {m : Nat} {fn : List Str} {w w2 : WpE} {f : Str}
def errW (m : Nat) (a : Addr) (d : Option Addr) (s : Sl) (k : List D → Prop) : Prop := match s with
  | .dat (.err m' a' d' fs) => (m' = m ∧ a' = a ∧ d' = d) ∧ k fs
  | _ => False
theorem errW_of {s : Sl} {k : List D → Prop} (h : errW m a d s k) : ∃ fs, s = .dat (.err m a d fs) ∧ k fs := by
  unfold errW at h
  split at h
  · obtain ⟨⟨rfl, rfl, rfl⟩, h⟩ := h
    exact ⟨_, rfl, h⟩
  · exact h.elim
def wXf (m : Nat) (a : Addr) (d : Option Addr) (fn : Nat → List Str) (f : Str) (w : WpE) : WpE := fun sl cs R Rx => w sl cs (fun s c => errW m a d s fun fs => match fIdx (fn m) f with
  | some j => match fs[j]? with
    | some v => R (.dat v) c
    | none => False
  | none => False) Rx
theorem je_xf {fnT : Nat → List Str} (E : Err X T m a d Ce oe) (xc : XfC X.K Ce) (hno : PySem.W.findIn X.K (.ref Ce) f = some none) (hT : T m = some (Ce, fnT m)) (he : JE (X.suite a ((a, oe) :: pn)) T W0 e w) (hb : attributeBase e f X.env (eval e X.env) = eval e X.env := by rfl) :
    JE (X.suite a ((a, oe) :: pn)) T W0 (.Attribute e f pos) (wXf m a d fnT f w) :=
  weak (pe_xf xc hno E.hz E.hf he hb) fun σ H Q ⟨ad, F, sl, cs, R, Rx, h0, hw, q, qx⟩ => ⟨ad, F, sl, cs, _, Rx, h0, hw, fun s c1 v H1 ad1 hw1 x1 h1 r1 => by
    have hw1' := errW_of hw1
    clear hw1
    obtain ⟨fs, e0, hw1⟩ := hw1'
    subst e0
    split at hw1
    · rename_i j hf
      split at hw1
      · rename_i v hv
        cases r1 with
        | @err _ C' _ fn' _ vs _ ht hx r =>
          rw [hT] at ht
          cases ht
          rcases hx with ⟨z, _, _⟩ | ⟨dd, h2, _, h3, hl⟩
          · rw [z] at hf
            cases hf
          · obtain ⟨u, hu, lk⟩ := fIdx_look (vs := vs) hf hl
            obtain ⟨u', hu', ru⟩ := r.get hv
            rw [hu] at hu'
            cases hu'
            exact ⟨rfl, rfl, dd, _, u, h2, h3, lk, q _ c1 u H1 ad1 hw1 x1 h1 ru⟩
      · exact hw1.elim
    · exact hw1.elim, qx⟩
end
end Dl
namespace Dl
open PySem L2
def wFrz (i n : Nat) (w : WS) : WS := fun S P => frzW i n S fun S' => w S' P
open PySem.W in
theorem kit_cls {K : Frag} {C : Addr} {t : Value} {b : Bool} (hne : (t == .ref C) = false) (hd : hasDictIn K C = true) (ht : typeIn K (.ref C) = some (.type "type")) (h4 : subIn K t (.ref C) = some b) : kitOne K t (.ref C) = some b := by
  obtain ⟨cd, hc, _⟩ := any_some hd
  have e2 : ((clsIn K C).isSome && typeIn K (.ref C) == some (.type "type")) = true := by rw [hc, ht] <;> rfl
  show (if (t == .ref C) = true then some true else (if ((clsIn K C).isSome && typeIn K (.ref C) == some (.type "type")) = true then subIn K t (.ref C) else none)) = some b
  rw [hne, if_neg (by decide), if_pos e2]
  exact h4
section
variable {X : Cx} {T : Tab} {a C Ce : Addr} {oe : Obj} {d : Option Addr} {pn : List (Addr × Obj)} {e : Expr} {es : List Expr} {pos p tp q : Pos} {m : Nat} {w : WpE} {x : Str} {Cs : List Addr}
end
end Dl
namespace Dl
open PySem L2
theorem call_ {α β : Type} {c Q : α → β → Prop} {x : α} {y : β} (h : c x y) (q : Q x y) : ∃ x y, c x y ∧ Q x y := ⟨x, y, h, q⟩
theorem make_ {cn : Nat} {fn : List Str} {c : Ct} {args : List D} {cs : List Cell} {R : RV} {ds : List D} (h : c (.cel 0 :: args.map Sl.dat) [.ins cn []] (.dat .non) [.ins cn (fn.zip ds)]) (hl : ds.length = fn.length) (q : R (.dat (.obj cn ds)) cs) : makeW cn fn c args cs R := ⟨ds, h, hl, q⟩
theorem Br.tt {b : Bool} {p q : Prop} (h : b = true) (hp : p) : Br b p q := ⟨fun _ => hp, fun z => by rw [h] at z; cases z⟩
theorem Br.ff {b : Bool} {p q : Prop} (h : b = false) (hq : q) : Br b p q := ⟨fun z => (by rw [h] at z; cases z), fun _ => hq⟩
theorem Br.dec {c : Prop} [Decidable c] {p q : Prop} (h1 : c → p) (h2 : ¬ c → q) : Br (decide c) p q := ⟨fun h => h1 (of_decide_eq_true h), fun h => h2 (of_decide_eq_false h)⟩
theorem Br.xf {c : Prop} [Decidable c] {p q : Prop} (h1 : c → p) (h2 : ¬ c → q) : Br (false.xor (decide c)) p q := ⟨fun h => h1 (by simpa using h), fun h => h2 (by simpa using h)⟩
theorem Br.xt {c : Prop} [Decidable c] {p q : Prop} (h1 : ¬ c → p) (h2 : c → q) : Br (true.xor (decide c)) p q := ⟨fun h => h1 (by simpa using h), fun h => h2 (by simpa using h)⟩
theorem eqD_t {d e : D} (h : d = e) (ok : okD e = true) : eqD d e = true := by subst h; exact eqD_refl ok
theorem Br.ne {d e : D} {p q : Prop} (h : d = e) (ok : okD e = true) (hq : q) : Br (true.xor (eqD d e)) p q := Br.ff (by rw [eqD_t h ok]; rfl) hq
def fgtS (m : Nat) : Option Sl → Option Sl
  | some (.cel k) => if k < m then some (.cel k) else none
  | x => x
def keepS (ks : List Nat) (m : Nat) : Nat → Sls → Sls
  | _, [] => []
  | i, x :: r => (match ks.contains i with
    | true => fgtS m x
    | false => none) :: keepS ks m (i + 1) r
theorem keepS_len {ks : List Nat} {m : Nat} : ∀ {i : Nat} {sl : Sls}, (keepS ks m i sl).length = sl.length
  | _, [] => rfl
  | _, _ :: r => by rw [keepS, List.length_cons, keepS_len (sl := r), List.length_cons]
theorem keepS_at {ks : List Nat} {m : Nat} {s : Sl} : ∀ {i j : Nat} {sl : Sls}, (keepS ks m i sl)[j]? = some (some s) → sl[j]? = some (some s) ∧ ∀ k, s = .cel k → k < m
  | i, 0, x :: r, h => by
    have h : (match ks.contains i with
      | true => fgtS m x
      | false => none) = some s := by simpa [keepS] using h
    split at h
    · unfold fgtS at h
      split at h
      · split at h
        · cases h
          exact ⟨rfl, fun k e => by cases e; assumption⟩
        · cases h
      · subst h
        rename_i hx
        exact ⟨rfl, fun k e => (hx k (by rw [e])).elim⟩
    · cases h
  | i, j + 1, x :: r, h => by
    have h : (keepS ks m (i + 1) r)[j]? = some (some s) := by simpa [keepS] using h
    simpa using keepS_at h
def wFgt (ks : List Nat) (m n : Nat) (w : WS) : WS := fun S P => n ≤ m ∧ w ⟨keepS ks m 0 S.sl, S.cs.take m⟩ P
theorem jss_fgt (ks : List Nat) (m : Nat) {X : Cx} {T : Tab} {W : WX} {n : Nat} {sts : List Stmt} {w : WS} (h : JSs X T W n sts w) : JSs X T W n sts (wFgt ks m n w) := fun S P hw => dss_forget m (h _ P hw.2) hw.1 keepS_len fun i s e => keepS_at e
theorem pos_ {i j : Int} (h : 0 < j) : ModC i j := h
theorem szk (n : Nat) (h : n ≤ 16777216 := by decide) : n ≤ sizeLine := h
theorem sz {n : Nat} (h : n ≤ 16777216) : n ≤ sizeLine := h
theorem mul_w {i j : Int} (h1 : i.natAbs < 2 ^ 1000) (h2 : j.natAbs < 2 ^ 1000) : IntMulOk i j := by
  refine CMulW.ok ?_
  have l : ∀ n : Nat, n < 2 ^ 1000 → n.log2 < 1000 := fun n h => by
    by_cases z : n = 0
    · rw [z]; decide
    · exact (Nat.log2_lt z).mpr h
  have := l _ h1
  have := l _ h2
  show i.natAbs.log2 + j.natAbs.log2 < 1000000
  omega
theorem asgW_i {p : Pat} {d : D} {sl sl' : Sls} {k : Sls → Prop} (e : asgP p d sl = some sl') (h : k sl') : asgW p d sl k := by unfold asgW; rw [e]; exact h
theorem lcW_map {p : Pat} {we : WpE} {sl : Sls} {α : Type} (g f : α → D) {cs : List Cell} : ∀ {xs : List α} {R : List D → List Cell → Prop},
    (∀ x ∈ xs, ∃ sl', asgP p (g x) sl = some sl' ∧ ∀ R' : RV, R' (.dat (f x)) cs → we sl' cs R' noX) → R (xs.map f) cs → lcW p wYes we sl (xs.map g) cs R
  | [], R, _, h => h
  | x :: xs, R, hx, h => by
    obtain ⟨sl', e, h1⟩ := hx x List.mem_cons_self
    exact asgW_i e ⟨fun _ => h1 _ (lcW_map (xs := xs) g f (fun y hy => hx y (List.mem_cons_of_mem _ hy)) h), fun z => nomatch z⟩
theorem lcW_filter {p : Pat} {wt : WpT} {we : WpE} {sl : Sls} {α : Type} (g : α → D) (f : α → D) (c : α → Bool) {cs : List Cell} : ∀ {xs : List α} {R : List D → List Cell → Prop},
    (∀ x ∈ xs, ∃ sl', asgP p (g x) sl = some sl' ∧ (∀ R' : RB, R' (c x) cs → wt sl' cs R' noX) ∧ (c x = true → ∀ R' : RV, R' (.dat (f x)) cs → we sl' cs R' noX)) → R ((xs.filter c).map f) cs → lcW p wt we sl (xs.map g) cs R
  | [], R, _, h => h
  | x :: xs, R, hx, h => by
    obtain ⟨sl', e, h1, h2⟩ := hx x List.mem_cons_self
    refine asgW_i e (h1 _ ⟨fun z => ?_, fun z => ?_⟩)
    · rw [List.filter_cons_of_pos z] at h
      exact h2 z _ (lcW_filter (xs := xs) g f c (fun y hy => hx y (List.mem_cons_of_mem _ hy)) h)
    · rw [List.filter_cons_of_neg (by rw [z]; decide)] at h
      exact lcW_filter (xs := xs) g f c (fun y hy => hx y (List.mem_cons_of_mem _ hy)) h
theorem forW_ind {p : Pat} {wb : WS} {P : PJ} (I : Sta → Prop) : ∀ (items : List D), (∀ d ∈ items, ∀ S, I S → ∀ nx' : Sta → Prop, (∀ S', I S' → nx' S') → asgW p d S.sl fun sl' => wb ⟨sl', S.cs⟩ { P with nx := nx', ct := nx', bk := P.nx }) → (∀ S, I S → P.nx S) → ∀ S, I S → forW p wb items S P
  | [], _, hd, S, hI => hd S hI
  | d :: ds, hs, hd, S, hI => hs d List.mem_cons_self S hI _ fun S' h' => forW_ind I ds (fun e he => hs e (List.mem_cons_of_mem _ he)) hd S' h'
theorem forW_at {p : Pat} {wb : WS} {P : PJ} {α : Type} (g : α → D) (I : List α → List α → Sta → Prop) : ∀ (pre post : List α), (∀ pre x post S, I pre (x :: post) S → ∀ nx' : Sta → Prop, (∀ S', I (pre ++ [x]) post S' → nx' S') → asgW p (g x) S.sl fun sl' => wb ⟨sl', S.cs⟩ { P with nx := nx', ct := nx', bk := P.nx }) → (∀ pre S, I pre [] S → P.nx S) → ∀ S, I pre post S → forW p wb (post.map g) S P
  | pre, [], _, hd, S, hI => hd pre S hI
  | pre, x :: post, hs, hd, S, hI => hs pre x post S hI _ fun S' h' => forW_at g I (pre ++ [x]) post hs hd S' h'
theorem mem_range {lo : Int} {n : Nat} {d : D} (h : d ∈ rangeD lo n) : ∃ i : Nat, i < n ∧ d = .int (lo + i) := by
  unfold rangeD at h
  obtain ⟨i, hi, rfl⟩ := List.mem_map.mp h
  exact ⟨i, List.mem_range.mp hi, rfl⟩
abbrev B := Int × Int
abbrev bx (b : B) : Cell := .lst [.int b.1, .int b.2]
def tk (b : B) (m : Int) : Int := if 0 < b.1 then b.1 % m else ((b.2 * 69623 % 2147483647) * 2147483647 + (((b.2 * 69623 % 2147483647) * 48271 + 30103) % 2147483629 + 1)) / 8191 % m
def nx (b : B) (m : Int) : B := if 0 < b.1 then (b.1 / m, b.2) else (b.1, ((b.2 * 69623 % 2147483647) * 48271 + 30103) % 2147483629 + 1)
def Ok (b : B) : Prop := 0 ≤ b.2 ∧ b.2 < 2 ^ 32
theorem tk_p {b : B} {m : Int} (h : 0 < b.1) : tk b m = b.1 % m := if_pos h
theorem tk_n {b : B} {m : Int} (h : ¬ 0 < b.1) : tk b m = ((b.2 * 69623 % 2147483647) * 2147483647 + (((b.2 * 69623 % 2147483647) * 48271 + 30103) % 2147483629 + 1)) / 8191 % m := if_neg h
theorem nx_p {b : B} {m : Int} (h : 0 < b.1) : nx b m = (b.1 / m, b.2) := if_pos h
theorem nx_n {b : B} {m : Int} (h : ¬ 0 < b.1) : nx b m = (b.1, ((b.2 * 69623 % 2147483647) * 48271 + 30103) % 2147483629 + 1) := if_neg h
theorem Ok.nx {b : B} (h : Ok b) (m : Int) : Ok (nx b m) := by
  by_cases hp : 0 < b.1
  · rw [nx_p hp]; exact h
  · rw [nx_n hp]; constructor <;> dsimp only <;> omega
theorem tk_lo {b : B} {m : Int} (h : 0 < m) : 0 ≤ tk b m := by
  by_cases hp : 0 < b.1
  · rw [tk_p hp]; exact Int.emod_nonneg _ (by omega)
  · rw [tk_n hp]; exact Int.emod_nonneg _ (by omega)
theorem tk_hi {b : B} {m : Int} (h : 0 < m) : tk b m < m := by
  by_cases hp : 0 < b.1
  · rw [tk_p hp]; exact Int.emod_lt_of_pos _ h
  · rw [tk_n hp]; exact Int.emod_lt_of_pos _ h
theorem lg {m : Int} (h0 : 0 < m) (h : m < 2 ^ 200) : m.natAbs.log2 < 9000 := by
  rw [Nat.log2_lt (by omega)]
  have : m.natAbs < 2 ^ 200 := by omega
  exact Nat.lt_of_lt_of_le this (Nat.pow_le_pow_right (by decide) (by omega))
def feedC (ns : List Int) (k : Nat) : Int := if k < ns.length then ns.getD k 0 else if 0 < ns.length then 7919 * (k : Int) + 11 + ns.getD (k % ns.length) 0 % 2147483629 * 69623 else 7919 * (k : Int) + 11
def feedB (ns : List Int) (k : Nat) : B := (if 10 ^ 18 ≤ feedC ns k then feedC ns k else 0, (feedC ns k % 2147483629 + 104729 * (k : Int) + 1) ^ 5 % 2147483647 % 2147483646 + 1)
theorem feedB_ok (ns : List Int) (k : Nat) : Ok (feedB ns k) := by
  unfold Ok feedB
  constructor <;> dsimp only <;> omega
abbrev scD (ns : List Int) : D := .scr (ns.map D.int)
theorem atI_scr {ns : List Int} {k : Nat} (h : k < ns.length) : atI (ns.map D.int) (k : Int) = some (.int (ns.getD k 0)) := by
  refine atI_nat (j := k) ?_
  rw [List.getElem?_map, List.getElem?_eq_getElem h, List.getD_eq_getElem?_getD, List.getElem?_eq_getElem h]
  rfl
end Dl
namespace Dl
open PySem L2
def intsD : List D → Option (List Int)
  | [] => some []
  | .int i :: r => (intsD r).map (i :: ·)
  | _ => none
def boolsD : List D → Option (List Bool)
  | [] => some []
  | .bl i :: r => (boolsD r).map (i :: ·)
  | _ => none
theorem ints_map : ∀ (ns : List Int), intsD (ns.map D.int) = some ns
  | [] => rfl
  | n :: ns => by rw [List.map_cons, intsD, ints_map ns]; rfl
theorem bools_map : ∀ (ns : List Bool), boolsD (ns.map D.bl) = some ns
  | [] => rfl
  | n :: ns => by rw [List.map_cons, boolsD, bools_map ns]; rfl
theorem ints_of : ∀ {ds : List D} {ns : List Int}, intsD ds = some ns → ds = ns.map D.int
  | [], ns, h => by cases h; rfl
  | .int i :: r, ns, h => by
    cases q : intsD r with
    | none => simp [intsD, q] at h
    | some l =>
      simp [intsD, q] at h
      subst h
      rw [ints_of q]
      rfl
  | .non :: _, _, h => nomatch h
  | .bl _ :: _, _, h => nomatch h
  | .str _ :: _, _, h => nomatch h
  | .tup _ :: _, _, h => nomatch h
  | .lst _ :: _, _, h => nomatch h
  | .obj _ _ :: _, _, h => nomatch h
  | .scr _ :: _, _, h => nomatch h
  | .err _ _ _ _ :: _, _, h => nomatch h
  | .cls _ :: _, _, h => nomatch h
  | .dct _ _ :: _, _, h => nomatch h
  | .fn _ :: _, _, h => nomatch h
  | .dcn _ _ :: _, _, h => nomatch h
theorem bools_of : ∀ {ds : List D} {ns : List Bool}, boolsD ds = some ns → ds = ns.map D.bl
  | [], ns, h => by cases h; rfl
  | .bl i :: r, ns, h => by
    cases q : boolsD r with
    | none => simp [boolsD, q] at h
    | some l =>
      simp [boolsD, q] at h
      subst h
      rw [bools_of q]
      rfl
  | .non :: _, _, h => nomatch h
  | .int _ :: _, _, h => nomatch h
  | .str _ :: _, _, h => nomatch h
  | .tup _ :: _, _, h => nomatch h
  | .lst _ :: _, _, h => nomatch h
  | .obj _ _ :: _, _, h => nomatch h
  | .scr _ :: _, _, h => nomatch h
  | .err _ _ _ _ :: _, _, h => nomatch h
  | .cls _ :: _, _, h => nomatch h
  | .dct _ _ :: _, _, h => nomatch h
  | .fn _ :: _, _, h => nomatch h
  | .dcn _ _ :: _, _, h => nomatch h
theorem reps_bls {T : Tab} {K : PySem.W.Frag} {M : Addr → Prop} {H : Hp} : ∀ {ns : List Bool} {vs : List V}, Reps T K M H vs (ns.map D.bl) → vs = ns.map V.bl
  | [], _, .nil => rfl
  | n :: ns, _, .cons r t => by
    cases r
    rw [reps_bls t]
    rfl
section
variable {X : Cx} {T : Tab} {cs : List Cell} {s1 : Sl} {ds : List D}
theorem cb_sum (hc : X.calm = true) {ns : List Int} (h : isLst cs (ns.map D.int) s1) : CalB X T "sum" [s1] cs (.dat (.int ns.sum)) cs := ⟨.builtin "sum", _, by decide +kernel, .inl ⟨_, rfl⟩, cr_sum hc, fun ad F H vs Q c r q => by
  match vs, r with
  | [v], r =>
    obtain ⟨a, ws, rfl, e1, q1⟩ := rd_lst h c r.1
    have := Reps.of_ints q1
    subst this
    exact ⟨a, ns, rfl, SqL.of e1, q _ H ad .refl c Rep.int⟩⟩
theorem cb_all (hc : X.calm = true) {ns : List Bool} (h : isLst cs (ns.map D.bl) s1) : CalB X T "all" [s1] cs (.dat (.bl (ns.all id))) cs := ⟨.builtin "all", _, by decide +kernel, .inl ⟨_, rfl⟩, cr_all hc, fun ad F H vs Q c r q => by
  match vs, r with
  | [v], r =>
    obtain ⟨a, ws, rfl, e1, q1⟩ := rd_lst h c r.1
    have := reps_bls q1
    subst this
    exact ⟨a, ns, rfl, SqL.of e1, q _ H ad .refl c Rep.bl⟩⟩
theorem cb_any (hc : X.calm = true) {ns : List Bool} (h : isLst cs (ns.map D.bl) s1) : CalB X T "any" [s1] cs (.dat (.bl (ns.any id))) cs := ⟨.builtin "any", _, by decide +kernel, .inl ⟨_, rfl⟩, cr_any hc, fun ad F H vs Q c r q => by
  match vs, r with
  | [v], r =>
    obtain ⟨a, ws, rfl, e1, q1⟩ := rd_lst h c r.1
    have := reps_bls q1
    subst this
    exact ⟨a, ns, rfl, SqL.of e1, q _ H ad .refl c Rep.bl⟩⟩
def intsW (ds : List D) (k : List Int → Prop) : Prop := match intsD ds with
  | some ns => k ns
  | none => False
def blsW (ds : List D) (k : List Bool → Prop) : Prop := match boolsD ds with
  | some ns => k ns
  | none => False
theorem intsW_i {ns : List Int} {k : List Int → Prop} (h : k ns) : intsW (ns.map D.int) k := by unfold intsW; rw [ints_map]; exact h
theorem blsW_i {ns : List Bool} {k : List Bool → Prop} (h : k ns) : blsW (ns.map D.bl) k := by unfold blsW; rw [bools_map]; exact h
def sumW : WC := fun ss cs R => match ss with
  | [s] => wL cs s fun ds => intsW ds fun ns => R (.dat (.int ns.sum)) cs
  | _ => False
def allW : WC := fun ss cs R => match ss with
  | [s] => wL cs s fun ds => blsW ds fun ns => R (.dat (.bl (ns.all id))) cs
  | _ => False
def anyW : WC := fun ss cs R => match ss with
  | [s] => wL cs s fun ds => blsW ds fun ns => R (.dat (.bl (ns.any id))) cs
  | _ => False
theorem jc_sum (hc : X.calm = true) : JCall X T "sum" sumW := ⟨⟨.builtin "sum", by decide +kernel, .inl ⟨_, rfl⟩⟩, fun ss cs R h => by
  unfold sumW at h
  split at h
  · obtain ⟨ds, h1, h⟩ := wL_of h
    unfold intsW at h
    split at h
    · rename_i e
      rw [ints_of e] at h1
      exact ⟨_, _, cb_sum hc h1, h⟩
    · exact h.elim
  · exact h.elim⟩
theorem jc_all (hc : X.calm = true) : JCall X T "all" allW := ⟨⟨.builtin "all", by decide +kernel, .inl ⟨_, rfl⟩⟩, fun ss cs R h => by
  unfold allW at h
  split at h
  · obtain ⟨ds, h1, h⟩ := wL_of h
    unfold blsW at h
    split at h
    · rename_i e
      rw [bools_of e] at h1
      exact ⟨_, _, cb_all hc h1, h⟩
    · exact h.elim
  · exact h.elim⟩
theorem jc_any (hc : X.calm = true) : JCall X T "any" anyW := ⟨⟨.builtin "any", by decide +kernel, .inl ⟨_, rfl⟩⟩, fun ss cs R h => by
  unfold anyW at h
  split at h
  · obtain ⟨ds, h1, h⟩ := wL_of h
    unfold blsW at h
    split at h
    · rename_i e
      rw [bools_of e] at h1
      exact ⟨_, _, cb_any hc h1, h⟩
    · exact h.elim
  · exact h.elim⟩
end
section
variable {X : Cx} {T : Tab} {W : WX} {o e : Expr} {wo we : WpE} {pos apos : Pos}
end
end Dl
namespace PySem
end PySem
namespace PySem
end PySem
namespace Dl
open PySem L2
section
variable {X : Cx} {T : Tab} {W : WX} {e : Expr} {wA : WpA} {p pos tpos : Pos} {elts : List Expr} {kk : Nat}
end
end Dl
namespace Dl
open PySem L2
section
variable {X : Cx} {T : Tab} {W : WX} {e o : Expr} {es : List Expr} {kws : List Keyword} {pos apos p : Pos} {wo : WpE} {wA wK : WpA} {c : Ct} {cx : CtX} {k cn pn : Nat} {fd : FuncData} {ps ks : List Str} {m y : Str} {C g : Addr} {fn : List Str} {gg : List Value → List Value → List Value} {gV : List V → List V → List V} {fu : List D → List D → List D}
end
section
variable {T : Tab} {P : Program} {w : World} {K : PySem.W.Frag} {mg : Str → Option Value} {base : Heap} {x qual : Str} {st : Stmt} {f : Addr} {fd : FuncData} {N ps : List Str} {k : Nat} {ws : Nat → WS}
end
end Dl
namespace Dl
open PySem L2
section
variable {X : Cx} {T : Tab} {cs : List Cell}
end
end Dl
namespace Dl
open PySem L2
section
open PySem.W
variable {M : Model} {prog : Program} {w : World} {A : Around} {E : Value → Shared → Prop} {s : Shared} {K : PySem.W.Frag} {x C f : Addr} {ox : Obj} {od : Option Obj} {b : Value}
theorem ifBound_objNe {args : List Value} {Q : Option Value → Shared → Prop} (X : K.In s.heap) (I : PySem.W.InstAt s.heap x ox C od) (hs : PySem.W.findIn K (.ref C) "__ne__" = some (some (.builtin "object.__ne__")))
    (h : wpAny M A (call (.builtin "object.__ne__") (.ref x :: args)) (fun v => Q (some v)) E s) : wpAny M A (callSpecialIfBound? (.ref x) "__ne__" args) Q E s := by
  simp only [callSpecialIfBound?, bindSpecialIfBound?]
  refine wpAny_holding (wpAny_bind (wpAny_bind (wpAny_bind (I.type.here ((PySem.W.looks_findIn X hs).here ?_)))))
  refine wpAny_bind (wpAny_askSetting (wpAny_ite ?_))
  have fin : wpAny M A (call (.builtin "object.__ne__") ([.ref x] ++ args) >>= fun v => pure (some v)) Q E s := wpAny_bind (wpAny_mono h (fun v s' h' => wpAny_pure h') fun _ _ h' => h')
  split
  · exact wpAny_bind (wpAny_of_eq (F.cmp_object.ne.bind _) (wpAny_pure (by exact fin)))
  · exact wpAny_tryCatch (wpAny_bind (wpAny_of_eq (F.cmp_object.ne.bind _) (wpAny_pure (by exact fin))))
theorem entry_objNe {Q : Fin → Shared → Prop} (hu : A.units < cLine) (X : K.In s.heap) (I : PySem.W.InstAt s.heap x ox C od) (hs : PySem.W.findIn K (.ref C) "__eq__" = some (some (.ref f))) (hf : PySem.W.isFn K (.ref f) = true)
    (hcall : wpAny M A (call (.ref f) [.ref x, b]) (fun v s' => ∃ k, v = .bool k ∧ Q (.done (.ret (.bool (!k)))) s') E s) : wpAny M A (Builtin.«object.__ne__» ⟨[.ref x, b], []⟩) Q E s := by
  unfold Builtin.«object.__ne__»
  repeat (first
    | with_reducible refine wpAny_cRoomFor hu ?_
    | (refine wpAny_bind (m := callSpecialIfBound? (.ref x) (Str.ofString "__eq__") [b])
        (ifBound_K X I hs hf (wpAny_mono hcall (fun r s' hr => by
          obtain ⟨k, rfl, hq⟩ := hr
          repeat (first | exact hq | exact wpAny_pure hq | exact wpAny_truthy_bool hq | (refine wpAny_bind (m := truthy (.bool _)) (wpAny_truthy_bool ?_)) | wp_step)) fun _ _ e => e)))
    | wp_step)
theorem ne_K {Q : Value → Shared → Prop} (hu : A.units + 1 < cLine) (X : K.In s.heap) (I : InstAt s.heap x ox C od) (hb : Looks (model prog w) s.heap (typeOf b) (.ref C)) (hm : mroIn K C (.type "object") = some true)
    (hn : findIn K (.ref C) "__ne__" = some (some (.builtin "object.__ne__"))) (hs : findIn K (.ref C) "__eq__" = some (some (.ref f))) (hf : isFn K (.ref f) = true)
    (h : wpAny (model prog w) A.in1 (call (.ref f) [.ref x, b]) (fun v s' => ∃ k, v = .bool k ∧ Q (.bool (!k)) s') E s) : wpAny (model prog w) A (richCompare .NotEq (.ref x) b) Q E s := by
  have one : wpAny (model prog w) A (tryCompare (.ref x) "__ne__" b) (fun r s' => ∃ v, r = some v ∧ Q v s') E s := by
    unfold tryCompare
    refine wpAny_bind (ifBound_objNe X I hn (wpAny_call (codeAny_call_builtin F.cmp_object.ne.plain F.cmpEntry_ne (PySem.W.check_slot F.cmpKind_ne F.cmpSplit_ne (I.type.andThen (PySem.W.looks_mroIn X hm)) (F.cmpArgs_ne _ _) (entry_objNe (A := A.in1) hu X I hs hf (wpAny_mono h (fun v s' hv => ?_) fun _ _ e => e))))))
    obtain ⟨k, rfl, hq⟩ := hv
    exact ⟨k, rfl, wpAny_pure ⟨_, rfl, hq⟩⟩
  unfold richCompare
  simp only [oneThing_ref]
  refine wpAny_holding (wpAny_bind (wpAny_cRoomFor (Nat.lt_of_succ_lt hu) ?_))
  rw [cmpInfo_NotEq]
  dsimp only
  refine wpAny_bind (I.type.here (wpAny_bind (hb.here ?_)))
  split
  · rename_i q
    exact absurd q (by simp)
  · refine wpAny_bind (wpAny_pure ?_)
    simp only [Bool.false_eq_true, if_false]
    refine wpAny_bind (wpAny_mono one (fun r s' z => ?_) fun _ _ e => e)
    obtain ⟨v, rfl, hq⟩ := z
    exact wpAny_pure hq
end
end Dl
namespace Dl
open PySem L2
structure NeC (K : PySem.W.Frag) (C : Addr) : Prop where
  mr : PySem.W.mroIn K C (.type "object") = some true
  ne : PySem.W.findIn K (.ref C) "__ne__" = some (some (.builtin "object.__ne__"))
section
variable {X : Cx} {T : Tab} {C g : Addr} {fd : FuncData} {ps : List Str} {k cn : Nat} {c : Ct} {fn : List Str} {ds es : List D} {d : D} {cs : List Cell} {w2 : W2}
theorem cop_ownNe {sp : Sp} (N : NeC X.K C) (G : FnOk X.prog X.w X.K X.mg X.base CX0 k g fd ps sp) (hr : Room (k + 1) X.A) (hb : Binds X.K fd ps []) (hs : PySem.W.findIn X.K (.ref C) "__eq__" = some (some (.ref g))) (hf : PySem.W.isFn X.K (.ref g) = true) :
    OpR X (compareOp .NotEq) (fun x y H Q => ∃ a b dx dy fs gs, x = .ref a ∧ y = .ref b ∧ H a = some (.ins C dx fs) ∧ H b = some (.ins C dy gs) ∧ sp [x, y] H (fun v H' => ∃ b, v = .bl b ∧ Q (.bl (!b)) H') E0) := by
  intro pins s σ H x y v u Q I rx ry h
  obtain ⟨a, b, dx, dy, fs, gs, rfl, rfl, ea, eb, hsp⟩ := h
  cases rx; cases ry
  obtain ⟨mA, J, _⟩ := ins_get I.hok ea
  obtain ⟨mB, J', _⟩ := ins_get I.hok eb
  obtain ⟨od, J, _⟩ := J.look
  obtain ⟨od', J', _⟩ := J'.look
  have hu : X.A.units + 1 < cLine := by
    have := hr.in1.units0
    exact this
  show wpAny _ _ (richCompare .NotEq (.ref a) (.ref b)) _ _ _
  refine ne_K hu I.kIn J J'.type N.mr N.ne hs hf (thn (run_in1 (us := [.ref a, .ref b]) (vs := [.ref a, .ref b]) G hr hb I (.cons rfl (.cons rfl .nil)) hsp) fun u s' z => ?_)
  obtain ⟨v, H', I', r, b', rfl, q⟩ := z
  cases (show u = Value.bool b' from r)
  exact ⟨b', rfl, .bl (!b'), H', I', rfl, q⟩
theorem cmp_ownNe (hT : T cn = some (C, fn)) (N : NeC X.K C) (G : FnOk X.prog X.w X.K X.mg X.base CX0 k g fd ps (spC T X.K c)) (hr : Room (k + 1) X.A) (hb : Binds X.K fd ps []) (hs : PySem.W.findIn X.K (.ref C) "__eq__" = some (some (.ref g))) (hf : PySem.W.isFn X.K (.ref g) = true)
    {b : Bool} (hq : c [.dat (.obj cn ds), .dat (.obj cn es)] [] (.dat (.bl b)) []) : CmpD X T .NotEq (.dat (.obj cn ds)) (.dat (.obj cn es)) cs (.dat (.bl (!b))) cs := ⟨_, cop_ownNe N G hr hb hs hf, fun ad F H v w Q cc r1 r2 q => by
  have s1 := r1
  have s2 := r2
  cases r1 with
  | @obj a C' dx _ fn' vs' _ ht na e1 hl r =>
    rw [hT] at ht
    cases ht
    cases r2 with
    | @obj b' C' dy _ fn' ws' _ ht nb e2 hl2 r' =>
      rw [hT] at ht
      cases ht
      refine ⟨a, b', dx, dy, _, _, rfl, rfl, e1, e2, spC0 (ds := [.obj cn ds, .obj cn es]) hq cc ⟨s1, s2, trivial⟩ fun v H' x2 c2 r2 => ?_⟩
      cases r2
      exact ⟨b, rfl, q _ H' ad x2 c2 Rep.bl⟩⟩
def ownNeW (c : Ct) : W2 := fun s1 s2 cs R => ∃ b, c [s1, s2] [] (.dat (.bl b)) [] ∧ R (.dat (.bl (!b))) cs
theorem jc_oNe (hT : T cn = some (C, fn)) (N : NeC X.K C) (G : FnOk X.prog X.w X.K X.mg X.base CX0 k g fd ps (spC T X.K c)) (hr : Room (k + 1) X.A) (hb : Binds X.K fd ps []) (hs : PySem.W.findIn X.K (.ref C) "__eq__" = some (some (.ref g))) (hf : PySem.W.isFn X.K (.ref g) = true) (h : JCmp X T .NotEq w2) :
    JCmp X T .NotEq (selW (P2 cn) (ownNeW c) w2) := jc_sel (fun s1 s2 cs R hP ⟨b, hq, hR⟩ => by
  obtain ⟨h1, h2⟩ := Bool.and_eq_true_iff.mp hP
  obtain ⟨ds, rfl⟩ := isO_of h1
  obtain ⟨es, rfl⟩ := isO_of h2
  exact ⟨_, _, cmp_ownNe hT N G hr hb hs hf hq, hR⟩) h
end
end Dl
namespace Dl
open PySem L2
section
variable {X : Cx} {T : Tab} {W : WX} {o : Expr} {kws : List Keyword} {pos apos p : Pos} {wo : WpE} {wK : WpA} {c : Ct} {cx : CtX} {k cn : Nat} {fd : FuncData} {ps ks : List Str} {m y : Str} {C g : Addr} {fn : List Str} {gV : List V → List V → List V} {fu : List D → List D → List D}
end
section
variable {X : Cx} {T : Tab} {W : WX} {e e2 e3 : Expr} {wA : WpA} {p pos tpos : Pos} {elts : List Expr} {kk : Nat}
end
end Dl
namespace Dl
open PySem L2
section
variable {X : Cx} {T : Tab} {W : WX} {n : Nat} {a b : Expr} {wA : WpA} {x y : Str} {px py pt pt2 pos : Pos} {kt k2 : Nat}
end
end Dl
namespace Dl
open PySem L2
structure OthC (K : PySem.W.Frag) (C : Addr) : Prop where
  a1 : PySem.W.subIn K (.type "NoneType") (.ref C) = some false
  a2 : PySem.W.subIn K (.type "bool") (.ref C) = some false
  a3 : PySem.W.subIn K (.type "int") (.ref C) = some false
  a4 : PySem.W.subIn K (.type "str") (.ref C) = some false
  a5 : PySem.W.subIn K (.type "tuple") (.ref C) = some false
  a6 : PySem.W.subIn K (.type "list") (.ref C) = some false
theorem OthC.of {K : PySem.W.Frag} {C : Addr} (h : OthC K C) {d : D} {t : String} (e : tyD d = some t) : PySem.W.subIn K (.type t) (.ref C) = some false := by
  cases d with
  | non => cases e; exact h.a1
  | bl _ => cases e; exact h.a2
  | int _ => cases e; exact h.a3
  | str _ => cases e; exact h.a4
  | tup _ => cases e; exact h.a5
  | lst _ => cases e; exact h.a6
  | scr _ => cases e; exact h.a6
  | obj _ _ => cases e
  | err _ _ _ _ => cases e
  | cls _ => cases e
  | dct _ _ => cases e
  | fn _ => cases e
  | dcn _ _ => cases e
section
open PySem.W
variable {prog : Program} {w : World} {A : Around} {E : Value → Shared → Prop} {s : Shared} {K : PySem.W.Frag} {x C f : Addr} {ox : Obj} {od : Option Obj} {b tb : Value}
end
section
variable {X : Cx} {T : Tab} {C g : Addr} {fd : FuncData} {ps : List Str} {k cn : Nat} {c : Ct} {fn : List Str} {ds es : List D} {d : D} {cs : List Cell} {w2 : W2} {t : String}
end
section
variable {X : Cx} {T : Tab} {W : WX} {e : Expr} {wa : WpE} {pos p1 p2 p3 : Pos} {k : Nat}
def wRev (wa : WpE) : WpE := fun sl cs R Rx => wa sl cs (fun s c1 => wL c1 s fun ds => R (.dat (.lst ds.reverse)) c1) Rx
theorem je_rev (ha : JE X T W e wa) : JE X T W (.Subscript e (.Slice none none (some (.UnaryOp .USub (.Constant (.int 1) k p1) p2)) p3) pos) (wRev wa) :=
  weak (pe_revL ha) fun σ H Q ⟨ad, F, sl, cs, R, Rx, h0, hw, q, qx⟩ => ⟨ad, F, sl, cs, _, Rx, h0, hw, fun s1 c1 v H1 ad1 hw1 x1 h1 r1 => by
    obtain ⟨ds, hL, hR⟩ := wL_of hw1
    obtain ⟨a, ws, rfl, e1, q0⟩ := rd_lst hL h1.hc r1
    exact ⟨a, ws, rfl, SqL.of e1, fun p hp => new_lst h1.hc q0.rev (fun z H' ad' x2 k2 r2 => q _ c1 z H' ad' hR (x1.trans h1.hc x2) (h1.to x2 k2) r2) hp⟩, qx⟩
end
end Dl
namespace Dl
open PySem L2
section
variable {T : Tab} {K : PySem.W.Frag} {M M' : Addr → Prop} {H : Hp} {a : Addr} {xs : List V}
end
section
variable {X : Cx} {T : Tab} {W : WX} {e : Expr} {we : WpE} {pos p : Pos} {c : Ct} {k : Nat} {fd : FuncData} {ps : List Str} {y : Str} {C g : Addr} {fn : List Str} {cn : Nat}
end
section
variable {X : Cx} {T : Tab} {W : WX} {o : Expr} {wo : WpE} {pos apos : Pos}
end
end Dl
namespace Dl
open PySem L2
section
variable {X : Cx} {T : Tab} {W : WX} {e : Expr} {wt : WpT}
end
end Dl
namespace Dl
open PySem L2
section
open PySem.W PySem.Calls
variable {M : Model} {A : Around} {E : Value → Shared → Prop} {s : Shared} {pos : Pos} {x C : Addr} {ox : Obj} {Q : Value → Shared → Prop} {env : Env} {e : Expr} {rest : List Expr}
end
section
variable {X : Cx} {x : Str} {p pos : Pos} {e : Expr} {es : List Expr}
end
section
variable {X : Cx} {T : Tab} {W : WX} {x : Str} {p pos : Pos} {e : Expr} {es : List Expr} {wo : WpE} {wA : WpA} {C g : Addr} {k cn : Nat} {fd : FuncData} {ps : List Str} {c : Ct} {cx : CtX} {fn : List Str}
end
end Dl
namespace Dl
open PySem L2
section
variable {X : Cx} {T : Tab}
end
section
variable {X : Cx} {T : Tab} {W : WX} {a b : Expr} {wA : WpA} {p p2 pos pos2 : Pos}
end
end Dl
namespace HT
open PySem PySem.Spec PyProof.Rows
section
variable {prog : Program} {w : World} {A : Around} {E : Value → Shared → Prop} {s : Shared}
theorem adjustR (n : Nat) : Builtin.Slice.sliceAdjust none none (-1) (n : Int) = ((n : Int) - 1, -1) := by
  have h1 : ((-1 : Int) < 0) := by omega
  unfold Builtin.Slice.sliceAdjust
  simp only [h1, if_true]
theorem placesR (n : Nat) : Builtin.Slice.slicePlaces ((n : Int) - 1) (-1) (-1) = n := by
  unfold Builtin.Slice.slicePlaces
  simp
  try omega
theorem appliedR {sl : Addr} {vl vu vs : Value} {n : Nat} {Q : Int × Int × Nat → Shared → Prop} (hs : s.heap.IsSliceOf sl vl vu vs) (q1 : IsPart vl none) (q2 : IsPart vu none) (q3 : IsPart vs (some (-1))) (h : Q ((n : Int) - 1, -1, n) s) :
    wpAny (model prog w) A (Builtin.Slice.sliceApplied (.ref sl) (pure (n : Int))) Q E s := by
  obtain ⟨os, o1, o2, o3⟩ := id hs
  unfold Builtin.Slice.sliceApplied; unfold Builtin.Slice.sliceFields
  refine wpAny_bind (wpAny_bind (wpAny_field o1 o3 (x := vl) rfl (wpAny_bind (wpAny_field o1 o3 (x := vu) rfl (wpAny_bind (wpAny_field o1 o3 (x := vs) rfl (wpAny_pure ?_)))))))
  refine wpAny_bind (slicePart_ q3 ?_)
  show wpAny _ _ (if (((-1 : Int)) == 0) = true then _ else _) _ _ s
  rw [if_neg (by decide)]
  refine wpAny_bind (slicePart_ q1 (wpAny_bind (slicePart_ q2 (wpAny_bind (wpAny_pure ?_)))))
  show wpAny _ _ (match Builtin.Slice.sliceAdjust none none (-1) (n : Int) with | (l1, h1) => pure (l1, (-1 : Int), Builtin.Slice.slicePlaces l1 h1 (-1))) _ _ s
  rw [adjustR n]
  show wpAny _ _ (pure ((n : Int) - 1, (-1 : Int), Builtin.Slice.slicePlaces ((n : Int) - 1) (-1) (-1))) _ _ s
  rw [placesR]
  exact wpAny_pure h
theorem pickR (xs : Array Value) : ((List.range xs.size).filterMap fun (m : Nat) => xs[(((xs.size : Int) - 1) + (m : Int) * (-1)).toNat]?).toArray = xs.toList.reverse.toArray := by
  congr 1
  have e : ∀ m, m ∈ List.range xs.size → xs[(((xs.size : Int) - 1) + (m : Int) * (-1)).toNat]? = some (xs.toList.reverse[m]?.getD .none) := fun m hm => by
    have hm := List.mem_range.mp hm
    have i : (((xs.size : Int) - 1) + (m : Int) * (-1)).toNat = xs.size - 1 - m := by omega
    rw [i, List.getElem?_reverse (by rw [Array.length_toList]; exact hm), Array.length_toList]
    have k : xs.size - 1 - m < xs.size := by omega
    rw [Array.getElem?_eq_getElem k, List.getElem?_eq_getElem (by rw [Array.length_toList]; exact k)]
    rfl
  have f : ∀ (l : List Nat) (g : Nat → Option Value) (h : Nat → Value), (∀ m ∈ l, g m = some (h m)) → l.filterMap g = l.map h := fun l g h => by
    induction l with
    | nil => intro _; rfl
    | cons x l ih =>
      intro hx
      rw [List.filterMap_cons, hx x List.mem_cons_self, List.map_cons, ih fun m hm => hx m (List.mem_cons_of_mem _ hm)]
  rw [f _ _ _ e]
  apply List.ext_getElem?
  intro m
  rw [List.getElem?_map]
  by_cases hm : m < xs.size
  · rw [List.getElem?_range hm]
    have : m < xs.toList.reverse.length := by rw [List.length_reverse, Array.length_toList]; exact hm
    show some (xs.toList.reverse[m]?.getD .none) = _
    rw [List.getElem?_eq_getElem this]
    rfl
  · rw [List.getElem?_eq_none (by rw [List.length_range]; omega), List.getElem?_eq_none (by rw [List.length_reverse, Array.length_toList]; omega)]
    rfl
theorem getItem_tuple_rev {tt sl : Addr} {items : Array Value} {vl vu vs : Value} {Q : Value → Shared → Prop} (ht : IsTup s.heap tt items) (hs : s.heap.IsSliceOf sl vl vu vs) (q1 : IsPart vl none) (q2 : IsPart vu none) (q3 : IsPart vs (some (-1)))
    (h : Q (.ref s.heap.objs.size) { s with heap := s.heap.push { cls := .type "tuple", data := .seq items.toList.reverse.toArray } }) (hsz : items.size ≤ sizeLine) : wpAny (model prog w) A (getItem (.ref tt) (.ref sl)) Q E s := by
  have ok : sizeOk (.seq items.toList.reverse.toArray) := by
    show items.toList.reverse.toArray.size ≤ sizeLine
    rw [List.size_toArray, List.length_reverse, Array.length_toList]
    exact hsz
  obtain ⟨os, o1, o2, o3⟩ := id hs
  have tS : s.TypeIs (.ref sl) "slice" := ⟨os, o1, o2⟩
  unfold getItem
  (try with_reducible refine wpAny_holding ?_); (try refine wpAny_bind (wpAny_pure ?_))
  refine wpAny_bind (wpAny_sequenceKey ht.typeIs (by decide) (wpAny_bind (wpAny_callSpecial?_slot (name := Str.ofString "__getitem__") ht.typeIs PyProof.Rows.slot_tuple_getitem (wpAny_call_entry PyProof.Rows.slot_tuple_getitem ht.typeIs entry_tuple_getitem ?_ (args_tuple_getitem _ _)))))
  show wpAny _ _ (Builtin.Tuple.tupleItemsOf (.ref tt) >>= _) _ _ s
  refine wpAny_bind (tupleItemsOf_ ht (wpAny_bind (wpAny_typeOf tS ?_)))
  rw [if_pos (by decide)]
  refine wpAny_bind (appliedR (n := items.size) hs q1 q2 q3 ?_)
  show wpAny _ _ (if ((((items.size : Int) - 1) == 0 && (-1 : Int) == 1 && items.size == items.size) = true) then _ else _) _ _ s
  rw [if_neg (by simp), pickR]
  first
    | exact wpAny_bind (m := Builtin.Tuple.tupleExact _) (wpAny_newObj_type (wpAny_pure ⟨_, rfl, wpAny_pure h⟩) ok)
    | exact wpAny_bind (wpAny_bind (m := Builtin.Tuple.tupleExact _) (wpAny_newObj_type (wpAny_pure (wpAny_pure ⟨_, rfl, wpAny_pure h⟩)) ok))
    | exact wpAny_bind (wpAny_bind (m := Builtin.Tuple.tupleExact _) (wpAny_newObj_type (wpAny_pure ⟨_, rfl, wpAny_pure h⟩) ok))
end
end HT
namespace Dl
open PySem L2 PySem.Spec PyProof.Rows
section
variable {X : Cx} {T : Tab} {W : WX} {e : Expr} {wa : WpE} {pos p1 p2 p3 : Pos} {k : Nat}
def tRevT (K : PySem.W.Frag) (te : TE) : TE := fun σ H Q => te σ H fun x H1 => ∃ a xs, x = .ref a ∧ SqT K H1 a xs ∧ ∀ p, H1 p = none → Q (.ref p) (L2.upd H1 p (.tup xs.reverse))
theorem pe_revT {te : TE} (he : PE X e te) : PE X (.Subscript e (.Slice none none (some (.UnaryOp .USub (.Constant (.int 1) k p1) p2)) p3) pos) (tRevT X.K te) := ⟨fun pins s σ H Q I h => by
  refine Subscript_ (thn (he.run pins s σ H _ I h) fun v s1 z => ?_)
  obtain ⟨x, H1, I1, r1, a, xs, ex, hx, q⟩ := z
  subst ex
  cases r1
  have st : PO X (some (.UnaryOp .USub (.Constant (.int 1) k p1) p2)) (tPart (tUn (rU fun i => .int (-i)) (tC (.int 1)))) := po_some (pe_un un_neg pe_int)
  refine wpAny_Slice (thn (po_none.run pins s1 σ H1 (fun o H2 => o = none ∧ H2 = H1) I1 ⟨rfl, rfl⟩) fun v1 s2 z => ?_)
  obtain ⟨l, H2, I2, q1, e1, e2⟩ := z
  subst e1 e2
  refine thn (po_none.run pins s2 σ H2 (fun o H3 => o = none ∧ H3 = H2) I2 ⟨rfl, rfl⟩) fun v2 s3 z => ?_
  obtain ⟨u, H3, I3, q2, e1, e3⟩ := z
  subst e1 e3
  refine thn (st.run pins s3 σ H3 (fun o H4 => o = some (-1) ∧ H4 = H3) I3 ⟨1, rfl, -1, rfl, rfl, rfl⟩) fun v3 s4 z => ?_
  obtain ⟨o, H4, I4, q3, e1, e4⟩ := z
  subst e1 e4
  have I5 : Inv X pins σ H4 { s4 with heap := s4.heap.push { cls := .type "slice", data := .fields #[v1, v2, v3] } } := I4.kept (t' := s4.toks) fun b ob z => Heap.get?_push_of_some _ z
  obtain ⟨its, r, ht, hz⟩ := I5.tuple hx
  have hlen := r.length
  show wpAny (model X.prog X.w) X.A (subscriptTail e (.Slice none none (some (.UnaryOp .USub (.Constant (.int 1) k p1) p2)) p3) (.ref a) (.ref s4.heap.objs.size)) (EP X pins σ Q) X.xe _
  refine tail_any (ops := [.ref a, .ref s4.heap.objs.size]) ht.typeIs (PyProof.Rows.slot_tuple_getitem.lookup) ?_ (by with_unfolding_all rfl)
  refine HT.getItem_tuple_rev ht (Heap.IsSliceOf.new _ v1 v2 v3) q1 q2 q3 ?_ (by rw [List.size_toArray]; omega)
  refine ⟨.ref _, _, I5.laid (t' := s4.toks) (o := .tup xs.reverse) (fun b ob z => Heap.get?_push_of_some _ z) (Nat.le_refl _) ?_, rfl, q _ (I5.hok.fresh (Nat.le_refl _))⟩
  exact ⟨by rw [List.length_reverse]; exact hz, _, r.reverse, IsTup.new _ _⟩⟩
def wRevT (wa : WpE) : WpE := fun sl cs R Rx => wa sl cs (fun s c1 => match s with
  | .dat (.tup ds) => R (.dat (.tup ds.reverse)) c1
  | _ => False) Rx
theorem je_revT (ha : JE X T W e wa) : JE X T W (.Subscript e (.Slice none none (some (.UnaryOp .USub (.Constant (.int 1) k p1) p2)) p3) pos) (wRevT wa) :=
  weak (pe_revT ha) fun σ H Q ⟨ad, F, sl, cs, R, Rx, h0, hw, q, qx⟩ => ⟨ad, F, sl, cs, _, Rx, h0, hw, fun s1 c1 v H1 ad1 hw1 x1 h1 r1 => by
    split at hw1
    · cases r1 with
      | @tup a vs _ e1 r => exact ⟨a, vs, rfl, e1.sq, fun p hp => new_tup h1.hc r.rev (fun z H' ad' x2 k2 r2 => q _ c1 z H' ad' hw1 (x1.trans h1.hc x2) (h1.to x2 k2) r2) hp⟩
    · exact hw1.elim, qx⟩
end
end Dl
namespace Dl
open PySem L2
section
variable {X : Cx} {T : Tab} {W : WX} {x : Str} {pos : Pos} {i : Int}
theorem je_gint (hm : ∃ t, X.mg x = some (.int i t)) (hg : Gl X x := by rfl) (hd : (x == ("__debug__" : Str)) = false := by decide) : JE X T W (.Name x pos) (wCon (.int i)) := by
  obtain ⟨t, hm⟩ := hm
  exact weak (pe_glob (v := .int i) hg hm ⟨t, rfl⟩ hd) fun σ H Q ⟨ad, F, sl, cs, R, Rx, h0, hw, q, qx⟩ => q _ cs _ H ad hw .refl h0 Rep.int
end
end Dl
namespace Dl
open PySem L2
section
variable {X : Cx} {T : Tab} {W : WX} {e : Expr} {es : List Expr} {kws : List Keyword} {pos p : Pos} {wA wK : WpA} {c : Ct} {cx : CtX} {k pn : Nat} {fd : FuncData} {ps ks : List Str} {y : Str} {C g : Addr} {fn : List Str} {cn : Nat} {gg : List Value → List Value → List Value} {gV : List V → List V → List V} {fu : List D → List D → List D}
theorem run_mkS {CX : CXT} {sp : Sp} {E : XK} {pins : List (Addr × Obj)} {σ : St} {H : Hp} {sh : Shared} {Q : VK} {us ws : List Value} {vs zs : List V} (M : Mk X.K C g) (G : FnOk X.prog X.w X.K X.mg X.base CX k g fd ps sp) (hr : Room (k + 1) X.A) (hb : KBn X.K fd ps (pn + 1) ks gg gV) (hx : PassesAt CX X σ E)
    (I : Inv X pins σ H sh) (r : Vals vs us) (rz : Vals zs ws) (l1 : vs.length = pn) (l2 : zs.length = ks.length)
    (h : ∀ a b, H a = none → H b = none → b ≠ a → sp (gV (.ref a :: vs) zs) (upd (upd H b (.own a)) a (.ins C b [])) (fun v H2 => v = .non ∧ Q (.ref a) H2) E) :
    wpAny (model X.prog X.w) X.A (call (.ref C) us (ks.zip ws)) (EP X pins σ Q) X.xe sh := by
  let n := sh.heap.objs.size
  have J := Inv.made (C := C) I
  have hs := h (n + 1) n (I.hok.fresh (Nat.le_succ n)) (I.hok.fresh (Nat.le_refl n)) (Nat.ne_of_lt (Nat.lt_succ_self n))
  have rs := hb.rel (show Vals (V.ref (n + 1) :: vs) (Value.ref (n + 1) :: us) from .cons rfl r) rz
  have bt := hb.to _ (Value.ref (n + 1) :: us) ws J.kIn (by rw [List.length_cons, ← r.length, l1]) (by rw [← rz.length]; exact l2)
  have run := G.run _ X.stack _ _ ⟨Value.ref (n + 1) :: us, ks.zip ws⟩ _ _ _ E (hr.make C us (ks.zip ws)) (J.env0.make C us (ks.zip ws)) bt rs hs
  refine wpAny_call (make_map (f := g) I.kIn M.makes M.init (beq_iff_eq.mp M.fn) (codeAny_mono run fun o s' z => ?_))
  match o, z with
  | .error v, z => exact hx pins _ _ v s' J z
  | .ok (.ret u), z =>
    obtain ⟨v, H', J', rv, rfl, q⟩ := J.after z
    exact ⟨rv, V.ref (n + 1), H', J', rfl, q⟩
  | .ok .next, z => exact z.elim
  | .ok .brk, z => exact z.elim
  | .ok .cont, z => exact z.elim
def tMkS (C : Addr) (n m : Nat) (sp : Sp) (gV : List V → List V → List V) (E : St → XK) (t tk : TA) : TE := fun σ H Q => t σ H fun vs H1 => tk σ H1 fun zs H2 => vs.length = n ∧ zs.length = m ∧ ∀ a b, H2 a = none → H2 b = none → b ≠ a →
  sp (gV (.ref a :: vs) zs) (upd (upd H2 b (.own a)) a (.ins C b [])) (fun v H3 => v = .non ∧ Q (.ref a) H3) (E σ)
theorem pe_mkS {CX : CXT} {sp : Sp} {E : St → XK} {t tk : TA} (M : Mk X.K C g) (G : FnOk X.prog X.w X.K X.mg X.base CX k g fd ps sp) (hr : Room (k + 1) X.A) (hg : Gl X y) (hm : X.mg y = some (.ref C)) (hb : KBn X.K fd ps (pn + 1) ks gg gV) (hx : ∀ σ, PassesAt CX X σ (E σ)) (ha : PA X (e :: es) t) (hkw : PK X kws tk)
    (hall : (backToKw pos (keywordEach kws X.env)).all (·.1.isSome) = true) (hks : (backToKw pos (keywordEach kws X.env)).filterMap (·.1) = ks) (hdb : (y == ("__debug__" : Str)) = false)
    (he : starEach (e :: es) X.env = (false, eval e X.env) :: starEach es X.env) (hpl : ((backTo pos (starEach (e :: es) X.env)).any (·.1) || (backToKw pos (keywordEach kws X.env)).any (·.1.isNone)) = false) :
    PE X (.Call (.Name y p) (e :: es) kws pos) (tMkS C pn ks.length sp gV E t tk) := by
  constructor
  intro pins sh σ H Q I h
  refine wpAny_Call_Name_kw (ld_glob I hg hm (PySem.W.callWith_KW (h₀ := X.base) I.ok.mod.kin M.kp hall (thn (ha.run pos pins sh σ H _ I h) fun us s1 z1 => ?_) hpl he) hdb)
  obtain ⟨vs, H1, I1, r1, q1⟩ := z1
  refine thn (hkw.run pos pins s1 σ H1 _ I1 q1) fun ws s2 z2 => ?_
  obtain ⟨zs, H2, I2, r2, l1, l2, q2⟩ := z2
  exact ⟨I2.kIn, by rw [hks]; exact run_mkS M G hr hb (hx σ) I2 r1 r2 l1 l2 q2⟩
theorem mkX_then {K : PySem.W.Frag} {ad : List Addr} {F : Addr → Prop} {H : Hp} {cs : List Cell} {ws : List V} {args : List D} {Q : VK} {E : XK} {x : Exc} {a b : Addr} {c1 : Cell} (hT : T cn = some (C, fn)) (h : HoldC T K ad F H cs) (r : Reps T K (Mm ad F) H ws args) (ha : H a = none) (hb : H b = none) (ne : b ≠ a)
    (hq : cx (.cel 0 :: args.map Sl.dat) [.ins cn []] x [c1]) (q : ∀ cls d H', Ext ad F H ad H' → HoldC T K ad F H' cs → ExRep T K (Mm ad F) H' cls d x → E cls d H') :
    spX T K c cx (.ref a :: ws) (upd (upd H b (.own a)) a (.ins C b [])) Q E := by
  obtain ⟨h1, x1⟩ := h.newo (o := .own a) hb
  have ha1 : upd H b (.own a) a = none := by rw [upd_ne ne.symm]; exact ha
  obtain ⟨h2, x2⟩ := h1.cell (c := .ins cn []) (o := .ins C b []) ha1 ⟨C, fn, b, [], hT, upd_same, rfl, .nil⟩
  have x12 := x1.trans h1 x2
  have hlen : cs.length = ad.length := h.ln.symm
  have ia : (ad ++ [a])[ad.length]? = some a := by rw [List.getElem?_append_right (Nat.le_refl _)]; simp
  have ic : (cs ++ [Cell.ins cn []])[ad.length]? = some (.ins cn []) := by rw [← hlen, List.getElem?_append_right (Nat.le_refl _)]; simp
  have rr : SlReps T K (ad ++ [a]) F (upd (upd H b (.own a)) a (.ins C b [])) (.ref a :: ws) (.cel ad.length :: args.map Sl.dat) := ⟨⟨a, ia, rfl⟩, SlReps.of (r.kp x12.kp)⟩
  have ho : (Sl.cel ad.length :: args.map Sl.dat).all (onlyCell ad.length) = true := by
    rw [List.all_cons, List.all_map]
    simp [onlyCell]
  have hm : (Sl.cel ad.length :: args.map Sl.dat).map low = .cel 0 :: args.map Sl.dat := by
    rw [List.map_cons, List.map_map]
    rfl
  have lr := low_reps ia ho rr
  rw [hm] at lr
  refine .inr ⟨[a], Fk (ad ++ [a]) F a, _, [.ins cn []], x, [c1], frame1 h2 ia ic, lr, hq, fun cls d H' ad' xe hn c3 er => ?_⟩
  have e : ad' = [a] := by
    have z1 : ad'.length = 1 := c3.ln
    have z2 : ad'.take 1 = [a] := xe.pre
    rw [List.take_of_length_le (by omega)] at z2
    exact z2
  subst e
  obtain ⟨c4, x4⟩ := back1 h2 ia xe c3
  have c5 := c4.take ad.length
  have e1 : (ad ++ [a]).take ad.length = ad := by rw [List.take_append_of_le_length (Nat.le_refl _), List.take_length]
  have e2 : ((cs ++ [Cell.ins cn []]).set ad.length c1).take ad.length = cs := by
    rw [List.take_set_of_le (Nat.le_refl _), ← hlen, List.take_append_of_le_length (Nat.le_refl _), List.take_length]
  rw [e1, e2] at c5
  have x14 := x12.trans h2 x4
  refine q cls d H' ⟨⟨[], by simp, fun _ z => nomatch z⟩, x14.keep, x14.frm⟩ c5 ?_
  have out : ∀ z, ¬ Mm [a] (Fk (ad ++ [a]) F a) z → ¬ Mm ad F z := fun z n m => n ((mm_k (List.mem_of_getElem? ia) z).mpr (m.imp (List.mem_append_left _) id))
  obtain ⟨C', fn', t1, t2, er⟩ := er
  refine ⟨C', fn', t1, t2, er.imp id ?_⟩
  rintro ⟨dd, vs', a1, a2, a3, a4, a5⟩
  exact ⟨dd, vs', a1, out dd a2, a3, a4, a5.kp fun z o e n => ⟨e, out z n⟩⟩
def makeXW (cn : Nat) (fn : List Str) (c : Ct) (cx : CtX) (args : List D) (cs : List Cell) (R : RV) (Rx : RX) : Prop := makeW cn fn c args cs R ∨ ∃ x c1, cx (.cel 0 :: args.map Sl.dat) [.ins cn []] x [c1] ∧ Rx x cs
def wMakeKX (cn : Nat) (fn : List Str) (c : Ct) (cx : CtX) (pn kn : Nat) (fu : List D → List D → List D) (wA wK : WpA) : WpE := fun sl cs R Rx => wA sl cs (fun ss c1 => wDats ss fun vs => wK sl c1 (fun zz c2 => wDats zz fun zs => vs.length = pn ∧ zs.length = kn ∧ makeXW cn fn c cx (fu vs zs) c2 R Rx) Rx) Rx
end
end Dl
namespace Dl
open PySem L2 PySem.Spec PyProof.Rows
structure FnG (P : Program) (w : World) (K : PySem.W.Frag) (mg : Str → Option Value) (base : Heap) (C : CXT) (k : Nat) (f : Addr) (fd : FuncData) (ps : List Str) (sp : Sp) : Prop where
  ln : ∀ {vs : List V} {H : Hp} {Q : VK} {E : XK}, sp vs H Q E → vs.length = ps.length
  go : ∀ {A : Around} {fs : List Env} {s : Shared} {H : Hp} {as : Args} {us : List Value} {vs : List V} {Q : VK} {E : XK}, A.guards = some [] → Room k A → Env0 P w K mg base A fs s H → BindsTo s fd as (ps.zip us) → Vals vs us → sp vs H Q E →
    codeAny (model P w) A (.call (.ref f) as) (CR C fs P w H s Q E) s
section
variable {P : Program} {w : World} {K : PySem.W.Frag} {mg : Str → Option Value} {base : Heap} {C : CXT} {k : Nat} {f : Addr} {fd : FuncData} {ps N : List Str} {sp sp' : Sp}
theorem FnG.of (F : FnOk P w K mg base C k f fd ps sp) : FnG P w K mg base C k f fd ps sp := ⟨fun h => F.len _ _ _ _ h, fun _ hr e b v h => F.run _ _ _ _ _ _ _ _ _ hr e b v h⟩
theorem FnG.to (F : FnG P w K mg base C k f fd ps sp) (h : ∀ vs H Q E, sp' vs H Q E → sp vs H Q E) : FnG P w K mg base C k f fd ps sp' := ⟨fun q => F.ln (h _ _ _ _ q), fun g hr e b v q => F.go g hr e b v (h _ _ _ _ q)⟩
end
section
variable {T : Tab} {P : Program} {w : World} {K : PySem.W.Frag} {mg : Str → Option Value} {base : Heap} {x qual : Str} {st : Stmt} {f : Addr} {fd : FuncData} {N ps : List Str} {k : Nat} {ws : Nat → WS}
end
section
variable {X : Cx} {T : Tab} {W : WX} {e : Expr} {es : List Expr} {pos p : Pos} {wA : WpA} {c : Ct} {k : Nat} {f : Addr} {fd : FuncData} {ps : List Str} {y : Str} {sp : Sp} {E : XK}
end
section
variable {X : Cx} {T : Tab}
def okR (d : D) : Bool := d.plain && d.py.showable && !d.py.hasDict && decide (d.py.depth ≤ 60)
def rprD (d : D) : Str := d.py.shown
end
end Dl
namespace Dl
open PySem L2 PySem.Spec PyProof.Rows
section
variable {P : Program} {w : World} {K : PySem.W.Frag} {mg mb : Str → Option Value} {a : Addr} {s : Shared} {vs : List Value} {H : Hp}
end
end Dl
namespace Dl
open PySem L2
section
variable {prog : Program} {w : World} {A : Around} {E : Value → Shared → Prop} {s : Shared}
end
section
variable {X : Cx} {T : Tab} {C g : Addr} {fd : FuncData} {ps : List Str} {k cn : Nat} {c : Ct} {fn : List Str} {ds : List D} {d : D} {cs : List Cell}
end
end Dl
namespace Dl
open PySem L2
section
variable {X : Cx} {T : Tab} {W : WX} {kws : List Keyword} {pos p : Pos} {wK : WpA} {c : Ct} {k : Nat} {fd : FuncData} {ps ks : List Str} {y : Str} {C g : Addr} {fn : List Str} {cn : Nat} {gV : List V → List V → List V} {fu : List D → List D → List D}
end
end Dl
namespace Dl
open PySem L2
mutual
def wtD : D → Nat
  | .int i => i.natAbs.log2 + 3
  | .tup xs => wtDs xs + 3
  | .lst xs => wtDs xs + 3
  | .scr xs => wtDs xs + 3
  | .str x => (PySem.reprText x).length
  | _ => 5
def wtDs : List D → Nat
  | [] => 0
  | x :: xs => wtD x + 2 + wtDs xs
end
theorem lenText (i : Int) : (Str.ofString (toString i)).length ≤ i.natAbs.log2 + 3 := by
  have pos : ∀ v : Int, 0 ≤ v → (Str.ofString (toString v)).length ≤ v.natAbs.log2 + 1 := fun v hv => by
    refine PyProof.Rows.toString_length_le hv (Nat.succ_pos _) ?_
    have h1 : v.natAbs < 2 ^ (v.natAbs.log2 + 1) := Nat.lt_log2_self
    have h2 : 2 ^ (v.natAbs.log2 + 1) ≤ 10 ^ (v.natAbs.log2 + 1) := Nat.pow_le_pow_left (by decide) _
    have h3 : v.natAbs < 10 ^ (v.natAbs.log2 + 1) := Nat.lt_of_lt_of_le h1 h2
    have h4 : ((v.natAbs : Nat) : Int) < ((10 ^ (v.natAbs.log2 + 1) : Nat) : Int) := Int.ofNat_lt.mpr h3
    rw [Int.natCast_pow] at h4
    have h5 : ((v.natAbs : Nat) : Int) = v := by omega
    rw [h5] at h4
    exact h4
  rcases Int.lt_or_le i 0 with h | h
  · have := pos (0 - i) (by omega)
    rw [PyProof.Rows.len_text_neg h]
    have e : (0 - i).natAbs = i.natAbs := by omega
    rw [e] at this
    omega
  · have := pos i h
    omega
theorem piled_cons (t : Str) (ts : List Str) : PySem.piled (t :: ts) = t.length + 2 + PySem.piled ts := by simp [PySem.piled]
theorem textFrom_le : ∀ (ts : List Str) (k : Nat) (acc : Str), (PySem.textFrom k acc ts).length ≤ acc.length + PySem.piled ts
  | [], k, acc => by simp [PySem.textFrom]
  | t :: ts, k, acc => by
    have h := textFrom_le ts (k + 1) (acc ++ (if k > 0 then ", " else "" : String) ++ t)
    have e1 : (Str.ofString ", ").length = 2 := by decide
    have e2 : (Str.ofString "").length = 0 := by decide
    rw [piled_cons]
    refine Nat.le_trans h ?_
    have e3 : (acc ++ Str.ofString (if k > 0 then ", " else "" : String) ++ t).length ≤ acc.length + 2 + t.length := by
      rw [Str.length_append, Str.length_append]
      split <;> omega
    have e3' : (acc ++ (if k > 0 then ", " else "" : String) ++ t).length ≤ acc.length + 2 + t.length := e3
    omega
mutual
theorem shown_wt : ∀ d : D, d.py.shown.length ≤ wtD d
  | .non => by decide
  | .bl true => by decide
  | .bl false => by decide
  | .int i => lenText i
  | .str x => Nat.le_refl _
  | .tup xs => by
    have h := showns_wt xs
    have e1 : (Str.ofString "(").length = 1 := by decide
    have e2 : (Str.ofString ",)").length = 2 := by decide
    have e3 : (Str.ofString ")").length = 1 := by decide
    show (PySem.tupleText (PyData.shownAll (D.pys xs))).length ≤ wtDs xs + 3
    cases hx : PyData.shownAll (D.pys xs) with
    | nil => show (PySem.tupleText []).length ≤ _; exact Nat.le_trans (by decide : (PySem.tupleText []).length ≤ 3) (by omega)
    | cons t ts =>
      have hj := PySem.join_length_add (t :: ts) (by simp)
      rw [hx] at h
      unfold PySem.tupleText
      have e4 : (Str.ofString (if (t :: ts).length == 1 then ",)" else ")" : String)).length ≤ 2 := by split <;> omega
      have e5 : (Str.ofString "(" ++ Str.join (Str.ofString ", ") (t :: ts) ++ Str.ofString (if (t :: ts).length == 1 then ",)" else ")" : String)).length ≤ wtDs xs + 3 := by
        rw [Str.length_append, Str.length_append]
        have hj' : (Str.join (Str.ofString ", ") (t :: ts)).length + 2 = PySem.piled (t :: ts) := hj
        omega
      exact e5
  | .lst xs => by
    have h := showns_wt xs
    have h2 := textFrom_le (PyData.shownAll (D.pys xs)) 0 (Str.ofString "[")
    have e1 : (Str.ofString "[").length = 1 := by decide
    have e2 : (Str.ofString "]").length = 1 := by decide
    have e3 : (PySem.textFrom 0 (Str.ofString "[") (PyData.shownAll (D.pys xs)) ++ Str.ofString "]").length ≤ wtDs xs + 3 := by
      rw [Str.length_append]
      omega
    exact e3
  | .scr xs => by
    have h := showns_wt xs
    have h2 := textFrom_le (PyData.shownAll (D.pys xs)) 0 (Str.ofString "[")
    have e1 : (Str.ofString "[").length = 1 := by decide
    have e2 : (Str.ofString "]").length = 1 := by decide
    have e3 : (PySem.textFrom 0 (Str.ofString "[") (PyData.shownAll (D.pys xs)) ++ Str.ofString "]").length ≤ wtDs xs + 3 := by
      rw [Str.length_append]
      omega
    exact e3
  | .obj _ _ => by show (PyData.shown .none).length ≤ 5; decide
  | .err _ _ _ _ => by show (PyData.shown .none).length ≤ 5; decide
  | .cls _ => by show (PyData.shown .none).length ≤ 5; decide
  | .dct _ _ => by show (PyData.shown .none).length ≤ 5; decide
  | .fn _ => by show (PyData.shown .none).length ≤ 5; decide
  | .dcn _ _ => by show (PyData.shown .none).length ≤ 5; decide
theorem showns_wt : ∀ ds : List D, PySem.piled (PyData.shownAll (D.pys ds)) ≤ wtDs ds
  | [] => Nat.le_refl _
  | d :: ds => by
    have h1 := shown_wt d
    have h2 := showns_wt ds
    show PySem.piled (d.py.shown :: PyData.shownAll (D.pys ds)) ≤ wtD d + 2 + wtDs ds
    rw [piled_cons]
    omega
end
structure RN (k w : Nat) (d : D) : Prop where
  pl : d.plain = true
  sh : d.py.showable = true
  nd : d.py.hasDict = false
  dp : d.py.depth ≤ k
  wt : wtD d ≤ w
theorem RN.mono {k k' w w' : Nat} {d : D} (h : RN k w d) (hk : k ≤ k') (hw : w ≤ w') : RN k' w' d := ⟨h.pl, h.sh, h.nd, Nat.le_trans h.dp hk, Nat.le_trans h.wt hw⟩
theorem RN.int {i : Int} {n : Nat} (h : i.natAbs < 2 ^ n) (hn : n ≤ 1920) : RN 0 (n + 3) (.int i) := by
  have hl : i.natAbs.log2 < n ∨ i.natAbs = 0 := by
    rcases Nat.eq_zero_or_pos i.natAbs with z | z
    · exact .inr z
    · exact .inl ((Nat.log2_lt (by omega)).mpr h)
  have hl' : i.natAbs.log2 ≤ n ∧ i.natAbs.log2 < 1920 := by
    rcases hl with z | z
    · omega
    · rw [z]; exact ⟨Nat.zero_le _, by decide⟩
  exact ⟨rfl, decide_eq_true hl'.2, rfl, Nat.le_refl _, Nat.add_le_add_right hl'.1 3⟩
theorem rns {k w : Nat} : ∀ {xs : List D}, (∀ d ∈ xs, RN k w d) → D.plains xs = true ∧ PyData.showableAll (D.pys xs) = true ∧ PyData.hasDictAll (D.pys xs) = false ∧ PyData.depthAll (D.pys xs) ≤ k ∧ wtDs xs ≤ xs.length * (w + 2)
  | [], _ => ⟨rfl, rfl, rfl, Nat.zero_le _, Nat.zero_le _⟩
  | x :: xs, h => by
    obtain ⟨h1, h2, h3, h4, h5⟩ := rns (xs := xs) fun d hd => h d (List.mem_cons_of_mem _ hd)
    have hx := h x List.mem_cons_self
    refine ⟨?_, ?_, ?_, ?_, ?_⟩
    · show (x.plain && D.plains xs) = true
      rw [hx.pl, h1]; rfl
    · show (x.py.showable && PyData.showableAll (D.pys xs)) = true
      rw [hx.sh, h2]; rfl
    · show (x.py.hasDict || PyData.hasDictAll (D.pys xs)) = false
      rw [hx.nd, h3]; rfl
    · show max x.py.depth (PyData.depthAll (D.pys xs)) ≤ k
      exact Nat.max_le.mpr ⟨hx.dp, h4⟩
    · show wtD x + 2 + wtDs xs ≤ (xs.length + 1) * (w + 2)
      have := hx.wt
      rw [Nat.add_mul]
      omega
theorem RN.tup {k w m : Nat} {xs : List D} (h : ∀ d ∈ xs, RN k w d) (hm : xs.length ≤ m) : RN (k + 1) (m * (w + 2) + 3) (.tup xs) := by
  obtain ⟨h1, h2, h3, h4, h5⟩ := rns h
  exact ⟨h1, h2, h3, Nat.add_le_add_right h4 1, Nat.add_le_add_right (Nat.le_trans h5 (Nat.mul_le_mul_right _ hm)) 3⟩
theorem RN.lst {k w m : Nat} {xs : List D} (h : ∀ d ∈ xs, RN k w d) (hm : xs.length ≤ m) : RN (k + 1) (m * (w + 2) + 3) (.lst xs) := by
  obtain ⟨h1, h2, h3, h4, h5⟩ := rns h
  exact ⟨h1, h2, h3, Nat.add_le_add_right h4 1, Nat.add_le_add_right (Nat.le_trans h5 (Nat.mul_le_mul_right _ hm)) 3⟩
theorem RN.ok {k w : Nat} {d : D} (h : RN k w d) (hk : k ≤ 60) : okR d = true := by
  have := h.dp
  unfold okR
  rw [h.pl, h.sh, h.nd, decide_eq_true (show d.py.depth ≤ 60 by omega)]
  rfl
theorem RN.len {k w : Nat} {d : D} (h : RN k w d) (hw : w ≤ 16777216) : (rprD d).length ≤ sizeLine := Nat.le_trans (shown_wt d) (Nat.le_trans h.wt hw)
end Dl
namespace Dl
open PySem L2
section
variable {X : Cx}
theorem pe_lockV {e : Expr} {t : TE} (h : PE X e t) : PE X e (fun σ H Q => t σ H fun x H1 => ∃ d u, x = .ref d ∧ H1 d = some u ∧ Mut (some u) ∧ ∀ od, Q x (upd H1 d (.frz od u))) := ⟨fun pins s σ H Q I hw => thn (h.run pins s σ H _ I hw) fun v s1 ⟨x, H1, I1, r, d, u, ex, hd, mu, q⟩ => by
  obtain ⟨od, I2⟩ := I1.lock hd mu
  exact ⟨x, _, I2, r, q od⟩⟩
end
section
variable {T : Tab} {K : PySem.W.Frag} {M M' : Addr → Prop} {H H' : Hp} {kvs kvs2 : List (Key × V)} {kds kds2 : List (Key × D)} {k : Key} {v : V} {d : D}
def KR (T : Tab) (K : PySem.W.Frag) (M : Addr → Prop) (H : Hp) (kvs : List (Key × V)) (kds : List (Key × D)) : Prop := kvs.map (·.1) = kds.map (·.1) ∧ Reps T K M H (kvs.map (·.2)) (kds.map (·.2))
theorem KR.kp (x : Kp M H M' H') (h : KR T K M H kvs kds) : KR T K M' H' kvs kds := ⟨h.1, h.2.kp x⟩
def hasK (kds : List (Key × D)) (k : Key) : Bool := kds.any fun p => decide (p.1 = k)
def getK (kds : List (Key × D)) (k : Key) : Option D := (kds.find? fun p => decide (p.1 = k)).map (·.2)
def putD (kds : List (Key × D)) (k : Key) (d : D) : List (Key × D) := if hasK kds k = true then kds.map (fun p => if p.1 = k then (p.1, d) else p) else kds ++ [(k, d)]
theorem KR.nil : KR T K M H [] [] := ⟨rfl, .nil⟩
theorem KR.inv {p : Key × V} (h : KR T K M H (p :: kvs) kds) : ∃ d r, kds = (p.1, d) :: r ∧ Rep T K M H p.2 d ∧ KR T K M H kvs r := by
  obtain ⟨h1, h2⟩ := h
  match kds, h1, h2 with
  | (j, d) :: r, h1, .cons a b =>
    have e : p.1 = j ∧ kvs.map (·.1) = r.map (·.1) := by simpa using h1
    exact ⟨d, r, by rw [e.1], a, e.2, b⟩
theorem KR.inv0 (h : KR T K M H [] kds) : kds = [] := by
  obtain ⟨h1, _⟩ := h
  cases kds with
  | nil => rfl
  | cons p r => cases h1
theorem KR.cons (r : Rep T K M H v d) (h : KR T K M H kvs kds) : KR T K M H ((k, v) :: kvs) ((k, d) :: kds) := ⟨by rw [List.map_cons, List.map_cons, h.1], .cons r h.2⟩
theorem KR.app (h : KR T K M H kvs kds) (h2 : KR T K M H kvs2 kds2) : KR T K M H (kvs ++ kvs2) (kds ++ kds2) := ⟨by rw [List.map_append, List.map_append, h.1, h2.1], by rw [List.map_append, List.map_append]; exact h.2.append h2.2⟩
theorem KR.len (h : KR T K M H kvs kds) : kvs.length = kds.length := by have := h.2.length; rw [List.length_map, List.length_map] at this; exact this
theorem KR.any (h : KR T K M H kvs kds) : (kvs.any fun p => decide (p.1 = k)) = hasK kds k := by
  have e1 : (kvs.any fun p => decide (p.1 = k)) = (kvs.map (·.1)).any fun j => decide (j = k) := by rw [List.any_map]; rfl
  have e2 : hasK kds k = (kds.map (·.1)).any fun j => decide (j = k) := by unfold hasK; rw [List.any_map]; rfl
  rw [e1, e2, h.1]
theorem KR.rep (r : Rep T K M H v d) : ∀ {kvs : List (Key × V)} {kds : List (Key × D)}, KR T K M H kvs kds → KR T K M H (kvs.map fun p => if p.1 = k then (p.1, v) else p) (kds.map fun p => if p.1 = k then (p.1, d) else p)
  | [], kds, h => by cases h.inv0; exact .nil
  | p :: kvs, kds, h => by
    obtain ⟨d', r', rfl, a, b⟩ := h.inv
    rw [List.map_cons, List.map_cons]
    by_cases e : p.1 = k
    · rw [if_pos e, if_pos (show ((p.1, d') : Key × D).1 = k from e)]
      exact .cons r (KR.rep r b)
    · rw [if_neg e, if_neg (show ¬ ((p.1, d') : Key × D).1 = k from e)]
      exact .cons (k := p.1) (v := p.2) a (KR.rep r b)
theorem KR.put (r : Rep T K M H v d) (h : KR T K M H kvs kds) : KR T K M H (putK kvs k v) (putD kds k d) := by
  unfold putK putD
  rw [h.any]
  split
  · exact h.rep r
  · exact h.app (.cons r .nil)
theorem KR.val : ∀ {kvs : List (Key × V)} {kds : List (Key × D)}, KR T K M H kvs kds → (getK kds k = none → valV kvs k = none) ∧ ∀ d, getK kds k = some d → ∃ v, valV kvs k = some v ∧ Rep T K M H v d
  | [], kds, h => by cases h.inv0; exact ⟨fun _ => rfl, fun d z => nomatch z⟩
  | p :: kvs, kds, h => by
    obtain ⟨d', r', rfl, a, b⟩ := h.inv
    obtain ⟨i1, i2⟩ := KR.val b
    by_cases e : p.1 = k
    · have g : getK ((p.1, d') :: r') k = some d' := by simp [getK, List.find?_cons, e]
      rw [g]
      exact ⟨(fun z => nomatch z), fun d z => by cases z; exact ⟨p.2, valV_pos e, a⟩⟩
    · have g : getK ((p.1, d') :: r') k = getK r' k := by simp [getK, List.find?_cons, e]
      rw [g, valV_neg e]
      exact ⟨i1, i2⟩
theorem KR.some (h : KR T K M H kvs kds) : (valV kvs k).isSome = hasK kds k := by rw [← valV_any, h.any]
def keyD : D → Option Key
  | .int i => some (.inl i)
  | .str x => some (.inr x)
  | _ => none
theorem key_rep (r : Rep T K M H v d) (h : keyD d = some k) : v = kV k := by
  cases r <;> first | (cases h; rfl) | exact nomatch h
abbrev dctD (kds : List (Key × D)) : D := .dct (kds.map (·.1)) (kds.map (·.2))
def kdOf (cs : List Cell) : Sl → Option (List (Key × D))
  | .dat (.dct ks xs) => some (ks.zip xs)
  | .cel j => match cs[j]? with
    | some (.dct kds) => some kds
    | _ => none
  | _ => none
theorem KR.zip {ks : List Key} {xs : List D} (h1 : kvs.map (·.1) = ks) (h2 : Reps T K M H (kvs.map (·.2)) xs) : KR T K M H kvs (ks.zip xs) := by
  have hl : ks.length = xs.length := by rw [← h2.length, ← h1, List.length_map, List.length_map]
  exact ⟨by rw [List.map_fst_zip (by omega)]; exact h1, by rw [List.map_snd_zip (by omega)]; exact h2⟩
theorem rd_dct {ad : List Addr} {F : Addr → Prop} {cs : List Cell} {s : Sl} (h : kdOf cs s = some kds) (c : HoldC T K ad F H cs) (r : SlRep T K ad F H v s) : ∃ a kvs, v = .ref a ∧ Rd H a (.dK kvs) ∧ KR T K (Mm ad F) H kvs kds := by
  unfold kdOf at h
  split at h
  · cases h
    cases r with
    | @dct a o kvs ks ds n e1 e2 q => exact ⟨a, kvs, rfl, .inr ⟨o, e1⟩, KR.zip e2 q⟩
  · split at h
    · rename_i kds' hj
      cases h
      obtain ⟨a, ha, rfl⟩ := r
      obtain ⟨kvs, e1, e2, q⟩ := c.ce _ a _ ha hj
      exact ⟨a, kvs, rfl, .inl e1, e2, q⟩
    · cases h
  · cases h
def wD (cs : List Cell) (s : Sl) (k : List (Key × D) → Prop) : Prop := match kdOf cs s with
  | some kds => k kds
  | none => False
theorem wD_of {cs : List Cell} {s : Sl} {k : List (Key × D) → Prop} (h : wD cs s k) : ∃ kds, kdOf cs s = some kds ∧ k kds := by
  unfold wD at h
  split at h
  · exact ⟨_, ‹_›, h⟩
  · exact h.elim
def isKey (s : Sl) (k : Key → Prop) : Prop := match s with
  | .dat d => match keyD d with
    | some x => k x
    | none => False
  | .cel _ => False
theorem isKey_of {s : Sl} {k : Key → Prop} (h : isKey s k) : ∃ d x, s = .dat d ∧ keyD d = some x ∧ k x := by
  unfold isKey at h
  split at h
  · split at h
    · exact ⟨_, _, rfl, ‹_›, h⟩
    · exact h.elim
  · exact h.elim
end
section
variable {X : Cx} {T : Tab} {cs : List Cell}
theorem op_dinV (neg : Bool) (hu : X.A.units + 1 < cLine) : OpR X (compareOp (if neg then .NotIn else .In)) (fun x y H Q => ∃ a o, y = .ref a ∧ DGet H a x o ∧ Q (.bl (neg.xor o.isSome)) H) := by
  intro pins s σ H x y v u Q I rx ry h
  obtain ⟨a, o, rfl, g, q⟩ := h
  cases (show u = Value.ref a from ry)
  cases neg with
  | true => exact d_notIn hu I g rx fun s3 I3 => ⟨.bl (!o.isSome), H, I3, rfl, by simpa using q⟩
  | false => exact d_in hu I g rx fun s3 I3 => ⟨.bl o.isSome, H, I3, rfl, by simpa using q⟩
def inDW (neg : Bool) : W2 := fun s1 s2 cs R => isKey s1 fun k => wD cs s2 fun kds => R (.dat (.bl (neg.xor (hasK kds k)))) cs
def PDc (_ s2 : Sl) : Bool := match s2 with
  | .dat (.dct _ _) => true
  | .cel _ => true
  | _ => false
theorem jc_inD (neg : Bool) {w : W2} (hu : X.A.units + 64 < cLine) (h : JCmp X T (if neg then .NotIn else .In) w) : JCmp X T (if neg then .NotIn else .In) (selW PDc (inDW neg) w) := jc_sel (fun s1 s2 cs R _ hw => by
  obtain ⟨d, k, rfl, hk, hw⟩ := isKey_of hw
  obtain ⟨kds, hd, hR⟩ := wD_of hw
  refine ⟨_, _, ⟨_, op_dinV neg (by omega), fun ad F H v w Q c r1 r2 q => ?_⟩, hR⟩
  obtain ⟨a, kvs, rfl, e1, e2⟩ := rd_dct hd c r2
  cases key_rep r1 hk
  exact ⟨a, valV kvs k, rfl, .inl ⟨kvs, k, e1, rfl, rfl⟩, by rw [e2.some]; exact q _ H ad .refl c Rep.bl⟩) h
end
section
variable {X : Cx} {T : Tab} {W : WX} {n : Nat} {e o i f ix : Expr} {pos p' apos cpos : Pos} {we wo wi wx wf : WpE}
end
section
variable {X : Cx} {T : Tab} {W : WX} {n : Nat}
end
end Dl
namespace Dl
open PySem L2
def keyOf : Key → D
  | .inl i => .int i
  | .inr x => .str x
section
variable {T : Tab} {K : PySem.W.Frag} {F : Addr → Prop} {ad : List Addr} {H : Hp} {a : Addr} {o : Obj} {kvs : List (Key × V)}
theorem itk_ok (n : ¬ Mm ad F a) (e1 : H a = some (.frz o (.dK kvs))) : ItOk T K F (Itk a o kvs) ((kvs.map (·.1)).map keyOf) ad H := fun F2 ad2 H2 cs2 c2 kp i => ⟨fun d hd => by
    obtain ⟨e2, n2⟩ := kp a _ e1 n
    rw [List.map_map, List.getElem?_map] at hd
    cases hk : kvs[i]? with
    | none => rw [hk] at hd; cases hd
    | some p =>
      rw [hk] at hd
      have hd : keyOf p.1 = d := Option.some.inj hd
      subst hd
      refine ⟨⟨e2, (List.getElem?_eq_some_iff.mp hk).1⟩, fun w H3 y => ?_⟩
      obtain ⟨rfl, k, v, hv, rfl⟩ := y
      rw [hk] at hv
      cases hv
      refine ⟨fun _ _ z => z, ?_⟩
      cases k with
      | inl i => exact Rep.int
      | inr x => exact Rep.str, fun hi => ⟨(kp a _ e1 n).1, by rw [hi, List.length_map, List.length_map]; exact Nat.le_refl _⟩⟩
end
section
variable {X : Cx} {tg : Expr}
def iValD (K : PySem.W.Frag) (tl : TE) : TI := fun σ H R => tl σ H fun x H1 => (∃ a xs, x = .ref a ∧ SqL K H1 a xs ∧ R (Itl K a) H1) ∨ (∃ a xs, x = .ref a ∧ SqT K H1 a xs ∧ R (Itt K a) H1) ∨ ∃ a o kvs, x = .ref a ∧ H1 a = some (.frz o (.dK kvs)) ∧ R (Itk a o kvs) H1
open PySem.Spec PyProof.Rows in
theorem pi_valD {l : Expr} {tl : TE} (hl : PE X l tl) : PI X tg l (iValD X.K tl) := by
  refine ⟨fun pins s σ H R I h => ?_⟩
  refine thn (hl.run pins s σ H _ I h) fun v s1 ⟨x, H1, I1, r1, q1⟩ => ?_
  rcases q1 with ⟨a, xs, e, hq, q⟩ | ⟨a, xs, e, hq, q⟩ | ⟨a, o, kvs, e, hq, q⟩
  · subst e
    cases r1
    obtain ⟨its, rv, p, hz⟩ := I1.list hq
    refine wpAny_pyIter_list p.isList ?_
    refine ⟨s1.heap.objs.size, [s1.heap.objs.size], _, _, H1, rfl, I1.kept (t' := s1.toks) fun b o e => Heap.get?_push_of_some _ e, turn_list a _, ⟨_, Heap.get?_push_size _ rfl, rfl, rfl⟩, fun b hb => ?_, q⟩
    have e : b = s1.heap.objs.size := by simpa using hb
    subst e
    exact I1.fpOk (Nat.le_refl _) (I1.hok.fresh (Nat.le_refl _))
  · subst e
    cases r1
    obtain ⟨its, rv, p, hz⟩ := I1.tuple hq
    refine wpAny_pyIter_tuple (show s1.heap.IsTuple a its.toArray from p) ?_
    refine ⟨s1.heap.objs.size, [s1.heap.objs.size], _, _, H1, rfl, I1.kept (t' := s1.toks) fun b o e => Heap.get?_push_of_some _ e, turn_tuple a _, ⟨_, Heap.get?_push_size _ rfl, rfl, rfl⟩, fun b hb => ?_, q⟩
    have e : b = s1.heap.objs.size := by simpa using hb
    subst e
    exact I1.fpOk (Nat.le_refl _) (I1.hok.fresh (Nat.le_refl _))
  · subst e
    cases r1
    obtain ⟨z1, z2, z3, es, ep, vs, z4, z5, z6, z7⟩ := I1.frzK hq
    refine iter_keys z1 z2 z3 z4 (pi_one (tk := s1.toks) I1 _ (turn_keys _ z4) ⟨_, Heap.get?_push_size _ rfl, rfl, ?_⟩ q)
    first
      | (rw [z5]; done)
      | (rw [z5]; rfl)
end
def itemsDW (s : Sl) (k : List D → Prop) : Prop := match s with
  | .dat (.lst ds) => k ds
  | .dat (.tup ds) => k ds
  | .dat (.scr ds) => k ds
  | .dat (.dct ks _) => k (ks.map keyOf)
  | _ => False
section
variable {X : Cx} {T : Tab} {W : WX} {tg e : Expr} {w : WpE}
def wItemsD (w : WpE) : WpI := fun sl cs R Rx => w sl cs (fun s c => itemsDW s fun ds => R ds c) Rx
theorem ji_valD (he : JE X T W e w) : JI X T W tg e (wItemsD w) := weakI (pi_valD he) fun σ H Q ⟨ad, F, sl, cs, R, Rx, h0, hw, q, qx⟩ => ⟨ad, F, sl, cs, _, Rx, h0, hw, fun s c1 v H1 ad1 hw1 x1 h1 r1 => by
  unfold itemsDW at hw1
  split at hw1
  · cases r1 with
    | @lst a vs _ n e1 r => exact .inl ⟨a, vs, rfl, SqL.of e1, q _ c1 _ H1 ad1 hw1 x1 h1 (itl_ok n e1 r)⟩
  · cases r1 with
    | @tup a vs _ e1 r => exact .inr (.inl ⟨a, vs, rfl, e1.sq, q _ c1 _ H1 ad1 hw1 x1 h1 (itt_ok e1 r)⟩)
  · cases r1 with
    | @scr a vs _ e1 r => exact .inl ⟨a, vs, rfl, e1.sq, q _ c1 _ H1 ad1 hw1 x1 h1 (itr_ok' e1 r)⟩
  · cases r1 with
    | @dct a o kvs ks ds n e1 e2 r => exact .inr (.inr ⟨a, o, kvs, rfl, e1, q _ c1 _ H1 ad1 hw1 x1 h1 (by rw [← e2]; exact itk_ok n e1)⟩)
  · exact hw1.elim, qx⟩
end
def dcW (p : Pat) (wt : WpT) (wk wv : WpE) (sl : Sls) : List D → List (Key × D) → List Cell → (List (Key × D) → List Cell → Prop) → Prop
  | [], acc, cs, R => R acc cs
  | d :: ds, acc, cs, R => asgW p d sl fun sl' => wt sl' cs (fun b c1 => Br b (wk sl' c1 (fun s1 c2 => wv sl' c2 (fun s2 c3 => isKey s1 fun k => isDat s2 fun e => dcW p wt wk wv sl ds (putD acc k e) c3 R) noX) noX) (dcW p wt wk wv sl ds acc c1 R)) noX
def wDc (wi : WpI) (p : Pat) (wt : WpT) (wk wv : WpE) (own : List Nat) : WpE := fun sl cs R Rx => wi sl cs (fun items c => items.length < sizeLine ∧ dcW p wt wk wv (wipeS sl own) items [] c fun acc c' => R (.dat (dctD acc)) c') Rx
theorem putD_len (kds : List (Key × D)) (k : Key) (d : D) : (putD kds k d).length ≤ kds.length + 1 := by
  unfold putD
  split
  · rw [List.length_map]; omega
  · rw [List.length_append]; exact Nat.le_refl _
section
variable {T : Tab} {K : PySem.W.Frag} {W : WX} {p : Pat} {wi : WpI} {wt : WpT} {wk wv : WpE} {own : List Nat}
theorem dc_coreD {sl : Sls} {items : List D} {cs : List Cell} {Rf : List (Key × D) → List Cell → Prop} {σ : St} {H1 : Hp} {ad1 : List Addr} {F : Addr → Prop} {Q : VK} {J : It} (hp : ∀ i ∈ slotsP p, i ∈ own) (h1 : Hold T K ⟨sl, cs⟩ ad1 F σ H1) (okI : ItOk T K F J items ad1 H1) (hl : items.length < sizeLine)
    (h : dcW p wt wk wv (wipeS sl own) items [] cs Rf) {Dl : Addr} (hD : H1 Dl = none)
    (q : ∀ accV accD ci ad' H', Ext ad1 F H1 ad' H' → HoldC T K ad' (fun a => F a ∨ a = Dl) H' ci → H' Dl = some (.dK accV) → KR T K (Mm ad' fun a => F a ∨ a = Dl) H' accV accD → Rf accD ci → Q (.ref Dl) H') :
    ∃ (Inv' : Nat → Nat → Hp → Prop), (∃ m0, Inv' 0 m0 (upd H1 Dl (.dK []))) ∧ ∀ i m H', Inv' i m H' → (J.stop i H' ∧ Q (.ref Dl) H') ∨ (J.go i H' ∧ ∃ I2 : Hp → Prop, (∀ H2, I2 H2 → ∃ m', m' < m ∧ Inv' (i + 1) m' H2) ∧ ∀ v H3, J.yld i H' v H3 →
      tDG T K p v (wipe σ own) H3 fun σ' H4 => wipe σ' own = wipe σ own ∧ tJT T K W0 wt σ' H4 fun b H5 => if b = true then tJ T K W0 wk σ' H5 fun y H6 => tJ T K W0 wv σ' H6 fun z H7 => ∃ kvs k, y = kV k ∧ H7 Dl = some (.dK kvs) ∧ kvs.length < sizeLine ∧ I2 (upd H7 Dl (.dK (putK kvs k z))) else I2 H5) := by
  let vs := own
  have nD := h1.hc.new hD
  let F' : Addr → Prop := fun a => F a ∨ a = Dl
  have neD : ∀ a o, H1 a = some o → a ≠ Dl := fun a o e => ne_of_none e hD
  have slots : ∀ {ad' : List Addr} {H' : Hp} {cs : List Cell}, Ext ad1 F H1 ad' H' → HoldC T K ad' F' H' cs → Hold T K ⟨wipeS sl vs, cs⟩ ad' F' (wipe σ vs) H' := fun {ad' H' cs} x c => by
    refine ⟨c, by rw [wipe_length, wipeS_len]; exact h1.sz, fun i s e => ?_⟩
    obtain ⟨e1, e2⟩ := wipeS_some e
    obtain ⟨v, hv, r⟩ := h1.sl i s e1
    refine ⟨v, by rw [wipe_out e2]; exact hv, ?_⟩
    cases s with
    | dat d => exact Rep.kp (fun a o e n => ⟨x.keep a o e n, fun z => (x.kp a o e n).2 (z.imp id fun z => z.resolve_right (neD a o e))⟩) r
    | cel k =>
      have r' := SlRep.ext x r
      exact r'
  have h1' : HoldC T K ad1 F' (upd H1 Dl (.dK [])) cs := by
    obtain ⟨c2, x2⟩ := h1.hc.newo (o := .dK []) hD
    have kp : Kp (Mm ad1 F) H1 (Mm ad1 F') (upd H1 Dl (.dK [])) := fun a o e n => ⟨by rw [upd_ne (neD a o e)]; exact e, fun z => n (z.imp id fun z => z.resolve_right (neD a o e))⟩
    refine ⟨h1.hc.nd, fun a ha z => z.elim (h1.hc.fr a ha) fun z => nD (.inl (z ▸ ha)), fun a z => ?_, h1.hc.tb.newF hD (fun _ z => nomatch z), h1.hc.ln, fun k a c e1 e2 => ?_⟩
    · rcases z with z | z
      · exact c2.al a z
      · rw [z]; exact ⟨_, upd_same⟩
    · have qc := h1.hc.ce k a c e1 e2
      obtain ⟨o, e⟩ := qc.some
      exact qc.kp kp (upd_ne (neD a o e))
  have x1' : Ext ad1 F H1 ad1 (upd H1 Dl (.dK [])) := (h1.hc.newo hD).2
  refine ⟨fun i m H' => ∃ ad' accV accD ci, i ≤ items.length ∧ m = items.length - i ∧ Ext ad1 F H1 ad' H' ∧ HoldC T K ad' F' H' ci ∧ H' Dl = some (.dK accV) ∧ KR T K (Mm ad' F') H' accV accD ∧ accD.length ≤ i ∧
    dcW p wt wk wv (wipeS sl vs) (items.drop i) accD ci Rf, ⟨items.length, ad1, [], [], cs, Nat.zero_le _, rfl, x1', h1', upd_same, .nil, Nat.le_refl _, h⟩, ?_⟩
  rintro i m H' ⟨ad', accV, accD, ci, hi', rfl, x', c', eD, rA, lA, hL⟩
  have kpI : Kp (Mm ad1 F) H1 (Mm ad' F') H' := fun a o e n => ⟨x'.keep a o e n, fun z => (x'.kp a o e n).2 (z.imp id fun z => z.resolve_right (neD a o e))⟩
  obtain ⟨ok1, ok2⟩ := okI F' ad' H' ci c' kpI i
  by_cases hlt : i < items.length
  · have hd : items[i]? = some items[i] := List.getElem?_eq_getElem hlt
    obtain ⟨g1, g2⟩ := ok1 _ hd
    rw [List.drop_eq_getElem_cons hlt] at hL
    obtain ⟨sl', eas, hL⟩ := asgW_of hL
    refine .inr ⟨g1, fun H2 => ∃ m', m' < items.length - i ∧ ∃ ad' accV accD ci, i + 1 ≤ items.length ∧ m' = items.length - (i + 1) ∧ Ext ad1 F H1 ad' H2 ∧ HoldC T K ad' F' H2 ci ∧ H2 Dl = some (.dK accV) ∧ KR T K (Mm ad' F') H2 accV accD ∧ accD.length ≤ i + 1 ∧
      dcW p wt wk wv (wipeS sl vs) (items.drop (i + 1)) accD ci Rf, fun H2 ⟨m', hm, z⟩ => ⟨m', hm, z⟩, fun v H3 y => ?_⟩
    obtain ⟨gr, rv⟩ := g2 v H3 y
    obtain ⟨c3, x3⟩ := grow c' gr
    have x13 : Ext ad1 F H1 ad' H3 := ⟨x'.pre, fun a o e n => gr a o (x'.keep a o e n), fun a fa => (x'.frm a fa).trans (.inl (by
      obtain ⟨o, e⟩ := (x'.frm a fa).ex (h1.hc.al a fa)
      rw [gr a o e, e]))⟩
    have cvt : ∀ {ad6 : List Addr} {H6 : Hp}, Ext ad' F' H3 ad6 H6 → Ext ad1 F H1 ad6 H6 := fun {ad6 H6} x6 => by
      obtain ⟨t, e, ht⟩ := x13.pre
      obtain ⟨t2, e2, ht2⟩ := x6.pre
      refine ⟨⟨t ++ t2, by rw [e2, e, List.append_assoc], fun a ha => ?_⟩, fun a o e n => ?_, fun a fa => ?_⟩
      · rcases List.mem_append.mp ha with z | z
        · exact ht a z
        · cases q1 : H1 a with
          | none => rfl
          | some o =>
            exfalso
            have hz := ht2 a z
            by_cases n : Mm ad1 F a
            · rcases n with n | n
              · obtain ⟨o', e'⟩ := c3.mem (a := a) (by rw [e]; exact List.mem_append_left _ n)
                rw [e'] at hz; cases hz
              · obtain ⟨o', e'⟩ := (x13.frm a n).ex ⟨_, q1⟩
                rw [e'] at hz; cases hz
            · rw [x13.keep a o q1 n] at hz; cases hz
      · have n3 : ¬ Mm ad' F' a := fun z => (x13.kp a o e n).2 (z.imp id fun z => z.resolve_right (neD a o e))
        exact x6.keep a o (x13.keep a o e n) n3
      · exact (x13.frm a fa).trans (x6.frm a (.inl fa))
    have eD3 : H3 Dl = some (.dK accV) := gr _ _ eD
    have rA3 : KR T K (Mm ad' F') H3 accV accD := rA.kp x3.kp
    refine ⟨ad', F', ⟨wipeS sl vs, ci⟩, items[i], sl', slots x13 c3, rv, eas, fun σ4 a4 h4 => ⟨wipe_asis a4 hp, ad', F', sl', ci, _, noX, h4, hL, fun b c1 H5 ad5 hb x5 h5 => ?_, Raz.no⟩⟩
    cases b with
    | true =>
      refine iteT ⟨ad5, F', sl', c1, _, noX, h5, hb.t rfl, fun s1 c2 y H6 ad6 hs1 x6 h6 r6 => ⟨ad6, F', sl', c2, _, noX, h6, hs1, fun s2 c3' z H7 ad7 hs2 x7 h7 r7 => ?_, Raz.no⟩, Raz.no⟩
      obtain ⟨dk, k, rfl, hk, hs2⟩ := isKey_of hs2
      obtain ⟨d', rfl, hL2⟩ := isDat_of hs2
      have x36 : Ext ad' F' H3 ad7 H7 := x5.trans h5.hc (x6.trans h6.hc x7)
      have x16 := cvt x36
      refine ⟨accV, k, key_rep r6 hk, ?_, ?_, ?_⟩
      · exact (x36.frm Dl (.inr rfl)).eq eD3 (fun _ z => nomatch z)
      · have := rA3.len
        omega
      · have hDa : Dl ∉ ad7 := fun z => h7.hc.fr Dl z (.inr rfl)
        have kpU : Kp (Mm ad7 F') H7 (Mm ad7 F') (upd H7 Dl (.dK (putK accV k z))) := fun a o e n => ⟨by rw [upd_ne (fun z => n (.inr (.inr z)))]; exact e, n⟩
        refine ⟨_, by omega, ad7, putK accV k z, putD accD k d', c3', hlt, rfl, ?_, ?_, upd_same, ((rA3.kp x36.kp).put r7).kp kpU, Nat.le_trans (putD_len _ _ _) (by omega), hL2⟩
        · exact ⟨x16.pre, fun a o e n => by rw [upd_ne (neD a o e)]; exact x16.keep a o e n, fun a fa => by
            obtain ⟨o, e⟩ := h1.hc.al a fa
            exact (x16.frm a fa).trans (.inl (by
              obtain ⟨o6, e6⟩ := (x16.frm a fa).ex ⟨o, e⟩
              rw [upd_ne (neD a o e)]))⟩
        · refine ⟨h7.hc.nd, h7.hc.fr, fun a z => ?_, h7.hc.tb.upd ((x36.frm Dl (.inr rfl)).eq eD3 (fun _ z => nomatch z)) (fun _ z => nomatch z) (fun _ z => nomatch z) (fun _ z => nomatch z), h7.hc.ln, fun k a c e1 e2 => ?_⟩
          · by_cases e : a = Dl
            · rw [e]; exact ⟨_, upd_same⟩
            · rw [upd_ne e]; exact h7.hc.al a z
          · exact (h7.hc.ce k a c e1 e2).kp kpU (upd_ne fun z => hDa (z ▸ List.mem_of_getElem? e1))
    | false => exact iteF ⟨_, by omega, ad5, accV, accD, c1, hlt, rfl, cvt x5, h5.hc, (x5.frm Dl (.inr rfl)).eq eD3 (fun _ z => nomatch z), rA3.kp x5.kp, by omega, hb.f rfl⟩
  · have e : i = items.length := by omega
    subst e
    rw [List.drop_length] at hL
    exact .inl ⟨ok2 rfl, q accV accD ci ad' H' x' c' eD rA hL⟩
theorem dc_then {σ : St} {H : Hp} {Q : VK} (hp : ∀ i ∈ slotsP p, i ∈ own) (h : tJ T K W (wDc wi p wt wk wv own) σ H Q) :
    tDc (tJI T K W wi) (tDG T K p) (tJT T K W0 wt) (tJ T K W0 wk) (tJ T K W0 wv) own σ H (fun x H1 => ∃ d u, x = .ref d ∧ H1 d = some u ∧ Mut (some u) ∧ ∀ od, Q x (upd H1 d (.frz od u))) := by
  obtain ⟨ad, F, sl, cs, R, Rx, h0, hw, q, qx⟩ := h
  refine ⟨ad, F, sl, cs, _, Rx, h0, hw, fun items c J H1 ad1 hw1 x1 h1 ok Dl hD => ?_, qx⟩
  refine dc_coreD (Q := fun x H1 => ∃ d u, x = .ref d ∧ H1 d = some u ∧ Mut (some u) ∧ ∀ od, Q x (upd H1 d (.frz od u))) hp h1 ok hw1.1 hw1.2 hD fun accV accD ci ad' H' x' c' eD rA hR => ⟨Dl, _, rfl, eD, trivial, fun od => ?_⟩
  have nD := h1.hc.new hD
  have nm : ∀ b, ¬ Mm ad' (fun a => F a ∨ a = Dl) b → b ≠ Dl := fun b z y => z (.inr (.inr y))
  have kpF : Kp (Mm ad' fun a => F a ∨ a = Dl) H' (Mm ad' F) (upd H' Dl (.frz od (.dK accV))) := fun a o e n => ⟨by rw [upd_ne (nm a n)]; exact e, fun z => n (z.imp id .inl)⟩
  have nDa : Dl ∉ ad' := fun z => c'.fr Dl z (.inr rfl)
  have nFD : ∀ b, F b → b ≠ Dl := fun b z y => nD (.inr (by rw [← y]; exact z))
  have cF : HoldC T K ad' F (upd H' Dl (.frz od (.dK accV))) ci := ⟨c'.nd, fun a ha z => c'.fr a ha (.inl z), fun a z => by rw [upd_ne (nFD a z)]; exact c'.al a (.inl z), (h1.hc.tb.back (fun _ z => .inl z) c'.tb).upd eD (fun _ z => nomatch z) (fun _ z => nomatch z) (fun _ z => nomatch z), c'.ln, fun k a c e1 e2 => (c'.ce k a c e1 e2).kp kpF (upd_ne fun y => nDa (by rw [← y]; exact List.mem_of_getElem? e1))⟩
  have nD' : ¬ Mm ad' F Dl := fun z => z.elim nDa fun z => nD (.inr z)
  have x2 : Ext ad1 F H1 ad' (upd H' Dl (.frz od (.dK accV))) := ⟨x'.pre, fun a o e n => by rw [upd_ne (ne_of_none e hD)]; exact x'.keep a o e n, fun a z => (x'.frm a z).trans (.inl (upd_ne (nFD a z)))⟩
  exact q _ ci (.ref Dl) _ ad' hR (x1.trans h1.hc x2) (h1.to x2 cF) (Rep.dct nD' upd_same rA.1 (rA.2.kp kpF))
end
section
variable {X : Cx} {T : Tab} {W : WX} {n : Nat} {kx vx tg iter : Expr} {ifs : List Expr} {scope : Scope} {own : List (Str × Nat)} {p : Pat} {wi : WpI} {wt : WpT} {wk wv : WpE} {pos : Pos} {y : Str}
structure JDC (X : Cx) (T : Tab) (W : WX) (kx vx tg iter : Expr) (ifs : List Expr) (scope : Scope) (own : List (Str × Nat)) (wi : WpI) (p : Pat) (wt : WpT) (wk wv : WpE) : Prop where
  hi : JI X T W tg iter wi
  ok : BlkOk X.N X.env.scope scope own
  hg : InB X scope fun X' => DG X' T tg p
  ht : InB X scope fun X' => JTs X' T W0 ifs wt
  hk : InB X scope fun X' => JE X' T W0 kx wk
  he : InB X scope fun X' => JE X' T W0 vx wv
  hp : ∀ i ∈ slotsP p, i ∈ own.map (·.2)
theorem je_dc {vs : List Nat} (hN : X.N.Nodup) (h : JDC X T W kx vx tg iter ifs scope own wi p wt wk wv) (hv : own.map (·.2) = vs := by rfl) (hc : X.calm = true := by rfl) (hs : ∀ x, foldedSetIterable iter X.env x = pure x := by intro _; rfl) : JE X T W (.DictComp kx vx [⟨tg, iter, ifs, 0⟩] scope pos) (wDc wi p wt wk wv vs) := by
  subst hv
  exact weak (pe_lockV (pe_dc (g := tDG T X.K p) (tt := tJT T X.K W0 wt) (tk := tJ T X.K W0 wk) (tv := tJ T X.K W0 wv) hc hN h.hi h.ok h.hg h.ht h.hk h.he hs)) fun σ H Q z => dc_then h.hp z
theorem ps_setDc {i : Nat} {py spos : Pos} {wi : TI} {g : TG} {tt : TT} {tk tv : TE} (hc : X.calm = true) (hN : X.N.Nodup) (hy : X.N[i]? = some y) (hyl : X.env.scope.names.lookup y = some .local) (hsw : swapsWith (.DictComp kx vx [⟨tg, iter, ifs, 0⟩] scope pos) (some (.Name y py)) spos.line X.env = pure true)
    (hi : PI X tg iter wi) (ok : BlkOk X.N X.env.scope scope own) (hg : InB X scope fun X' => PG X' tg g) (ht : InB X scope fun X' => PTs X' ifs tt) (hk : InB X scope fun X' => PE X' kx tk) (he : InB X scope fun X' => PE X' vx tv) (hs : ∀ x, foldedSetIterable iter X.env x = pure x) :
    PS X (.Assign [.Name y py] (.DictComp kx vx [⟨tg, iter, ifs, 0⟩] scope pos) spos) (tAsg (fun σ H Q => tDc wi g tt tk tv (own.map (·.2)) σ H (fun x H1 => ∃ d u, x = .ref d ∧ H1 d = some u ∧ Mut (some u) ∧ ∀ od, Q x (upd H1 d (.frz od u)))) (gName i)) := by
  refine ⟨fun pins s σ H D I h => ?_⟩
  rw [exec_Assign_Name_used _ _ _ _ hsw]
  refine wpAny_bind (wpAny_standAt (wpAny_bind ?_))
  have h : tDc wi g tt tk tv (own.map (·.2)) σ H (fun x H1 => ∃ d u, x = .ref d ∧ H1 d = some u ∧ Mut (some u) ∧ ∀ od, gName i x σ (upd H1 d (.frz od u)) D.nx) := h
  refine wpAny_bind (thn (L2.dc_core (Qf := fun _ s' => SP X pins D .next s') hc hN I hi ok hg ht hk he hs h fun L C s' m H' I' q hn f => ?_) fun _ s' hq => wpAny_pure (wpAny_pure hq))
  obtain ⟨d, u, ex, hd, mu, q⟩ := q
  cases ex
  obtain ⟨od, I''⟩ := I'.lock hd mu
  have q := q od
  refine wpAny_assign_Name (store_ok2 (v := V.ref L) I'' hN hy (.inl hyl) rfl (fun s2 I2 z => ?_) (.inr hyl))
  obtain ⟨a, sb, ha⟩ := z
  obtain ⟨f0, f1, f2, f3, f4, f5⟩ := f
  have hC : C ≠ a := ha.elim (fun z => by rw [z]; exact f1) fun z e => f4 y a z e.symm
  have fD : (upd H' L (.frz od u)) C = none := by
    rw [upd_ne (fun hb => by rw [hb, hd] at f0; cases f0)]
    exact f0
  refine ⟨m, hn.sameBut sb hC, fun h3 sb3 => ?_⟩
  exact ⟨_, _, I2.turned (t' := s2.toks) (fun b o hb e => (sb3.2 b hb).trans e) fD f1 f3 f4 f5, q⟩
end
end Dl
namespace Dl
open PySem L2
section
variable {X : Cx} {T : Tab} {W : WX} {n : Nat} {kx vx tg iter : Expr} {ifs : List Expr} {scope : Scope} {own : List (Str × Nat)} {p : Pat} {wi : WpI} {wt : WpT} {wk wv : WpE} {pos py : Pos} {y : Str}
theorem sw_dc {gs : List Comprehension} {l : Nat} {env : Env} (hk : env.scope.kind = .function) (hy : env.scope.names.lookup y = some .local) (hl : (py.line == pos.line) = true) (ha : (scope.names.any fun (n, k) => n == y && (k == .local || k == .cell)) = false) :
    swapsWith (.DictComp kx vx gs scope pos) (some (.Name y py)) l env = pure true := by
  have h1 : env.kindOf y = some .local := hy
  have h2 : env.blockKind = .function := by unfold Env.blockKind; rw [hk]; rfl
  unfold swapsWith
  simp only [h2, h1, ha, Expr.pos, hl]
  rfl
theorem js_dc (i : Nat) {vs : List Nat} {spos : Pos} (hN : X.N.Nodup) (h : JDC X T W kx vx tg iter ifs scope own wi p wt wk wv) (hv : own.map (·.2) = vs := by rfl) (hy : X.N[i]? = some y := by rfl) (hyl : X.env.scope.names.lookup y = some .local := by rfl)
    (hsw : swapsWith (.DictComp kx vx [⟨tg, iter, ifs, 0⟩] scope pos) (some (.Name y py)) spos.line X.env = pure true := by exact sw_dc rfl rfl rfl (by decide +kernel)) (hc : X.calm = true := by rfl) (hs : ∀ x, foldedSetIterable iter X.env x = pure x := by intro _; rfl) :
    JS X T W n (.Assign [.Name y py] (.DictComp kx vx [⟨tg, iter, ifs, 0⟩] scope pos) spos) (wAsg i (wDc wi p wt wk wv vs)) := fun S P hw => by
  subst hv
  exact weakS (ps_setDc (g := tDG T X.K p) (tt := tJT T X.K W0 wt) (tk := tJ T X.K W0 wk) (tv := tJ T X.K W0 wv) hc hN hy hyl hsw h.hi h.ok h.hg h.ht h.hk h.he hs) fun D σ H ⟨ad, F, hn, h0, q1, q2, q3, q4, q5⟩ =>
    dc_then (W := W) (Q := fun x H1 => gName i x σ H1 D.nx) h.hp ⟨ad, F, S.sl, S.cs, _, _, h0, hw, fun s c v H1 ad1 hR x1 h1 r1 => q1 _ _ H1 ad1 (x1.s hn) (x1.le hn) (h1.set r1 i) hR, raz_of hn q5⟩
end
def leB (a b : Int) : Bool := decide (a ≤ b)
def sortI (ns : List Int) : List Int := ns.mergeSort leB
theorem sortI_perm (ns : List Int) : (sortI ns).Perm ns := List.mergeSort_perm ns leB
theorem sortI_le (ns : List Int) : (sortI ns).Pairwise (· ≤ ·) := (List.pairwise_mergeSort (le := leB) (fun a b c h1 h2 => decide_eq_true (Int.le_trans (of_decide_eq_true h1) (of_decide_eq_true h2))) (fun a b => by
  unfold leB
  rcases Int.le_total a b with h | h
  · rw [decide_eq_true h]; rfl
  · rw [decide_eq_true h, Bool.or_true]) ns).imp fun h => of_decide_eq_true h
theorem sortI_eq {ns ms : List Int} (h1 : ms.Perm ns) (h2 : ms.Pairwise (· ≤ ·)) : ms = sortI ns := List.Perm.eq_of_pairwise (fun a b _ _ h h' => Int.le_antisymm h h') h2 (sortI_le ns) (h1.trans (sortI_perm ns).symm)
section
variable {X : Cx} {T : Tab} {cs : List Cell} {s1 : Sl}
theorem intsW_of {ds : List D} {k : List Int → Prop} (h : intsW ds k) : ∃ ns, ds = ns.map D.int ∧ k ns := by
  unfold intsW at h
  split at h
  · exact ⟨_, ints_of ‹_›, h⟩
  · exact h.elim
def maxI : Int → List Int → Int
  | a, [] => a
  | a, b :: l => maxI (if a < b then b else a) l
def minI : Int → List Int → Int
  | a, [] => a
  | a, b :: l => minI (if b < a then b else a) l
theorem maxI_in : ∀ (l : List Int) (a : Int), maxI a l ∈ a :: l ∧ ∀ y ∈ a :: l, y ≤ maxI a l
  | [], a => ⟨List.mem_cons_self, fun y hy => by simp at hy; subst hy; exact Int.le_refl _⟩
  | b :: l, a => by
    obtain ⟨h1, h2⟩ := maxI_in l (if a < b then b else a)
    unfold maxI
    have hc : a ≤ (if a < b then b else a) ∧ b ≤ (if a < b then b else a) := by split <;> omega
    have h0 := h2 _ List.mem_cons_self
    refine ⟨?_, fun y hy => ?_⟩
    · rcases List.mem_cons.mp h1 with h | h
      · rw [h]
        split
        · exact List.mem_cons_of_mem _ List.mem_cons_self
        · exact List.mem_cons_self
      · exact List.mem_cons_of_mem _ (List.mem_cons_of_mem _ h)
    · rcases List.mem_cons.mp hy with rfl | hy
      · omega
      · rcases List.mem_cons.mp hy with rfl | hy
        · omega
        · exact h2 y (List.mem_cons_of_mem _ hy)
theorem minI_in : ∀ (l : List Int) (a : Int), minI a l ∈ a :: l ∧ ∀ y ∈ a :: l, minI a l ≤ y
  | [], a => ⟨List.mem_cons_self, fun y hy => by simp at hy; subst hy; exact Int.le_refl _⟩
  | b :: l, a => by
    obtain ⟨h1, h2⟩ := minI_in l (if b < a then b else a)
    unfold minI
    have hc : (if b < a then b else a) ≤ a ∧ (if b < a then b else a) ≤ b := by split <;> omega
    have h0 := h2 _ List.mem_cons_self
    refine ⟨?_, fun y hy => ?_⟩
    · rcases List.mem_cons.mp h1 with h | h
      · rw [h]
        split
        · exact List.mem_cons_of_mem _ List.mem_cons_self
        · exact List.mem_cons_self
      · exact List.mem_cons_of_mem _ (List.mem_cons_of_mem _ h)
    · rcases List.mem_cons.mp hy with rfl | hy
      · omega
      · rcases List.mem_cons.mp hy with rfl | hy
        · omega
        · exact h2 y (List.mem_cons_of_mem _ hy)
theorem cb_maxL (hc : X.calm = true) {a : Int} {ns : List Int} (h : isLst cs ((a :: ns).map D.int) s1) : CalB X T "max" [s1] cs (.dat (.int (maxI a ns))) cs := ⟨.builtin "max", _, by decide +kernel, .inl ⟨_, rfl⟩, cr_max hc, fun ad F H vs Q c r q => by
  match vs, r with
  | [v], r =>
    obtain ⟨p, ws, rfl, e1, q1⟩ := rd_lst h c r.1
    have := Reps.of_ints q1
    subst this
    refine ⟨p, a :: ns, rfl, SqL.of e1, Nat.succ_pos _, fun m h1 h2 => ?_⟩
    obtain ⟨g1, g2⟩ := maxI_in ns a
    cases Int.le_antisymm (g2 m h1) (h2 _ g1)
    exact q _ H ad .refl c Rep.int⟩
theorem cb_minL (hc : X.calm = true) {a : Int} {ns : List Int} (h : isLst cs ((a :: ns).map D.int) s1) : CalB X T "min" [s1] cs (.dat (.int (minI a ns))) cs := ⟨.builtin "min", _, by decide +kernel, .inl ⟨_, rfl⟩, cr_min hc, fun ad F H vs Q c r q => by
  match vs, r with
  | [v], r =>
    obtain ⟨p, ws, rfl, e1, q1⟩ := rd_lst h c r.1
    have := Reps.of_ints q1
    subst this
    refine ⟨p, a :: ns, rfl, SqL.of e1, Nat.succ_pos _, fun m h1 h2 => ?_⟩
    obtain ⟨g1, g2⟩ := minI_in ns a
    cases Int.le_antisymm (h2 _ g1) (g2 m h1)
    exact q _ H ad .refl c Rep.int⟩
def maxW2 : WC := fun ss cs R => match ss with
  | [.dat (.int i), .dat (.int j)] => R (.dat (.int (if j > i then j else i))) cs
  | [s] => wL cs s fun ds => intsW ds fun ns => match ns with
    | a :: l => R (.dat (.int (maxI a l))) cs
    | [] => False
  | _ => False
theorem jc_max2 (hc : X.calm = true) : JCall X T "max" maxW2 := ⟨⟨.builtin "max", by decide +kernel, .inl ⟨_, rfl⟩⟩, fun ss cs R h => by
  unfold maxW2 at h
  split at h
  · exact ⟨_, _, cb_max hc, h⟩
  · obtain ⟨ds, h1, h⟩ := wL_of h
    obtain ⟨ns, e, h2⟩ := intsW_of h
    subst e
    split at h2
    · exact ⟨_, _, cb_maxL hc h1, h2⟩
    · exact h2.elim
  · exact h.elim⟩
def minW2 : WC := fun ss cs R => match ss with
  | [.dat (.int i), .dat (.int j)] => R (.dat (.int (if j < i then j else i))) cs
  | [s] => wL cs s fun ds => intsW ds fun ns => match ns with
    | a :: l => R (.dat (.int (minI a l))) cs
    | [] => False
  | _ => False
theorem jc_min2 (hc : X.calm = true) : JCall X T "min" minW2 := ⟨⟨.builtin "min", by decide +kernel, .inl ⟨_, rfl⟩⟩, fun ss cs R h => by
  unfold minW2 at h
  split at h
  · exact ⟨_, _, cb_min hc, h⟩
  · obtain ⟨ds, h1, h⟩ := wL_of h
    obtain ⟨ns, e, h2⟩ := intsW_of h
    subst e
    split at h2
    · exact ⟨_, _, cb_minL hc h1, h2⟩
    · exact h2.elim
  · exact h.elim⟩
end
end Dl
namespace Dl
open PySem L2
section
variable {X : Cx} {T : Tab} {W : WX} {n cn : Nat} {C : Addr} {fn : List Str} {e o o1 o2 : Expr} {f g : Str} {pos p1 p2 tpos : Pos} {we wo1 wo2 : WpE} {ta : TE}
theorem reps2 {K : PySem.W.Frag} {M : Addr → Prop} {H : Hp} {vs : List V} {d1 d2 : D} (h : Reps T K M H vs [d1, d2]) : ∃ v1 v2, vs = [v1, v2] ∧ Rep T K M H v1 d1 ∧ Rep T K M H v2 d2 := by
  cases h with
  | cons a h =>
    cases h with
    | cons b h =>
      cases h
      exact ⟨_, _, rfl, a, b⟩
theorem tup2 {K : PySem.W.Frag} {M : Addr → Prop} {H : Hp} {v : V} {d1 d2 : D} (h : Rep T K M H v (.tup [d1, d2])) : ∃ a v1 v2, v = .ref a ∧ SqT K H a [v1, v2] ∧ Rep T K M H v1 d1 ∧ Rep T K M H v2 d2 := by
  cases h with
  | tup e1 rs =>
    obtain ⟨v1, v2, rfl, ra, rb⟩ := reps2 rs
    exact ⟨_, v1, v2, rfl, e1.sq, ra, rb⟩
theorem pg_at (ho : PE X o ta) (ha : ∀ v, assign (.Attribute o f p1) X.env v = (do
      let ov ← holding [v] (eval o X.env)
      standAt p1.atName
      holding [v, ov] (setAttr ov f v)
      release [v, ov] []) := by intro _; rfl) : PG X (.Attribute o f p1) (fun v σ H Q => ta σ H fun x H1 => ∃ a C dx fs, x = .ref a ∧ H1 a = some (.ins C dx fs) ∧ Cls X.K C ∧ NoAttr X.K C f ∧ fs.length < 1000 ∧ Q σ (upd H1 a (.ins C dx (putF f v fs)))) := ⟨fun pins s σ H v u Q I r h => by
  rw [ha]
  refine wpAny_bind (wpAny_holding (thn (ho.run pins s σ H _ I h) fun ov s1 z => ?_))
  obtain ⟨x, H1, I1, r1, a, C, dx, fs, rfl, ea, hc, hn, hl, q⟩ := z
  cases (show ov = Value.ref a from r1)
  exact wpAny_bind (wpAny_standAt (wpAny_bind (wpAny_holding (setattr_ok I1 ea hc hn hl r fun s3 I3 => wpAny_release ⟨σ, _, I3, q⟩))))⟩
theorem setF_then {K : PySem.W.Frag} {ad : List Addr} {F : Addr → Prop} {H : Hp} {cs : List Cell} {s : Sl} {d : D} {v w : V} {k : List Cell → Prop} (hT : T cn = some (C, fn)) (hc : Cls K C) (hn : NoAttr K C f) (h : HoldC T K ad F H cs) (r : SlRep T K ad F H w s) (rd : Rep T K (Mm ad F) H v d) (hw : setFW cn f s (.dat d) cs k) :
    ∃ a dx fs, w = .ref a ∧ H a = some (.ins C dx fs) ∧ fs.length < 1000 ∧ ∃ cs', k cs' ∧ HoldC T K ad F (upd H a (.ins C dx (putF f v fs))) cs' ∧ Ext ad F H ad (upd H a (.ins C dx (putF f v fs))) := by
  unfold setFW at hw
  split at hw
  · rename_i j dd heq
    cases heq
    split at hw
    · rename_i m fs hk
      obtain ⟨rfl, hf, hl, hw⟩ := hw
      obtain ⟨a, ea, rfl⟩ := r
      obtain ⟨C', fn', dx, vs, ht, e1, lv, rv⟩ := h.ce j a _ ea hk
      rw [hT] at ht
      cases ht
      have lz : ((fs.map (·.1)).zip vs).length < 1000 := by rw [List.length_zip, List.length_map]; omega
      refine ⟨a, dx, _, rfl, e1, lz, _, hw, ?_⟩
      rw [putF_new hf (by rw [lv, List.length_map])]
      have kp : Kp (Mm ad F) H (Mm ad F) (upd H a (.ins C dx ((fs.map (·.1) ++ [f]).zip (vs ++ [v])))) := fun b o e n => ⟨by rw [upd_ne (fun z => n (.inl (by rw [z]; exact List.mem_of_getElem? ea)))]; exact e, n⟩
      exact h.setc (o := .ins C dx ((fs.map (·.1) ++ [f]).zip (vs ++ [v]))) (c := .ins m (fs ++ [(f, d)])) ea ⟨C, fn, dx, vs ++ [v], hT, by rw [upd_same, List.map_append]; rfl, by simp [lv], by rw [List.map_append]; exact (rv.append (.cons rd .nil)).kp kp⟩
    · exact hw.elim
  · exact hw.elim
def wTupF (cn : Nat) (f g : Str) (we wo1 wo2 : WpE) : WS := fun S P => we S.sl S.cs (fun s c => match s with
  | .dat (.tup [d1, d2]) => wo1 S.sl c (fun s1 c1 => setFW cn f s1 (.dat d1) c1 fun c2 => wo2 S.sl c2 (fun s2 c3 => setFW cn g s2 (.dat d2) c3 fun c4 => P.nx ⟨S.sl, c4⟩) (fun x c => P.ex x ⟨S.sl, c⟩)) (fun x c => P.ex x ⟨S.sl, c⟩)
  | _ => False) (fun x c => P.ex x ⟨S.sl, c⟩)
theorem js_tupF {k : Nat} (hT : T cn = some (C, fn)) (hc : Cls X.K C) (hn1 : NoAttr X.K C f) (hn2 : NoAttr X.K C g) (he : JE X T W e we) (h1 : JE X T W o1 wo1) (h2 : JE X T W o2 wo2) (hcm : X.calm = true := by rfl)
    (hln : (assignEach [.Attribute o1 f p1, .Attribute o2 g p2] X.env).length = 2 := by rfl) (hst : (assignEach [.Attribute o1 f p1, .Attribute o2 g p2] X.env).findIdx? (·.1) = none := by rfl)
    (ha1 : ∀ v, assign (.Attribute o1 f p1) X.env v = (do
      let ov ← holding [v] (eval o1 X.env)
      standAt p1.atName
      holding [v, ov] (setAttr ov f v)
      release [v, ov] []) := by intro _; rfl)
    (ha2 : ∀ v, assign (.Attribute o2 g p2) X.env v = (do
      let ov ← holding [v] (eval o2 X.env)
      standAt p2.atName
      holding [v, ov] (setAttr ov g v)
      release [v, ov] []) := by intro _; rfl)
    (hs1 : (assignEach [.Attribute o1 f p1, .Attribute o2 g p2] X.env) = (false, assign (.Attribute o1 f p1) X.env) :: assignEach [.Attribute o2 g p2] X.env := by rfl) (hs2 : (assignEach [.Attribute o2 g p2] X.env) = (false, assign (.Attribute o2 g p2) X.env) :: assignEach [] X.env := by rfl)
    (hs : swapsWithSole [.Tuple [.Attribute o1 f p1, .Attribute o2 g p2] k tpos] e pos.line X.env = pure false := by rfl) (hw : swappedStores [.Tuple [.Attribute o1 f p1, .Attribute o2 g p2] k tpos] e X.env = pure none := by rfl)
    (hh : (assignEach [.Tuple [.Attribute o1 f p1, .Attribute o2 g p2] k tpos] X.env).map (·.2) = [assign (.Tuple [.Attribute o1 f p1, .Attribute o2 g p2] k tpos) X.env] := by rfl) :
    JS X T W n (.Assign [.Tuple [.Attribute o1 f p1, .Attribute o2 g p2] k tpos] e pos) (wTupF cn f g we wo1 wo2) := fun S P h =>
  weakS (ps_asg he (pg_tup (n := 2) hcm (pgs_cons (pg_at h1 ha1) (pgs_cons (pg_at h2 ha2) pgs_nil)) hln hst) hs hw hh) fun D σ H ⟨ad, F, hn, h0, q1, q2, q3, q4, q5⟩ => ⟨ad, F, S.sl, S.cs, _, _, h0, h, fun s c v H1 ad1 hR x1 h1' r1 => by
    split at hR
    · rename_i d1 d2
      obtain ⟨a, v1, v2, rfl, sq, ra, rb⟩ := tup2 r1
      refine ⟨a, [v1, v2], rfl, sq, rfl, v1, [v2], rfl, ad1, F, S.sl, c, _, _, h1', hR, fun s1 c1 w1 H2 ad2 hR2 x2 h2' r2 => ?_, (raz_of hn q5).on x1 h1'⟩
      obtain ⟨b1, dx1, fs1, rfl, g1, g2, c2, hR3, hc3, x3⟩ := setF_then hT hc hn1 h2'.hc r2 (Rep.kp x2.kp ra) hR2
      have h3 := h2'.to x3 hc3
      have x23 := x2.trans h2'.hc x3
      have x13 := x1.trans h1'.hc x23
      refine ⟨b1, C, dx1, fs1, rfl, g1, hc, hn1, g2, v2, [], rfl, ad2, F, S.sl, c2, _, _, h3, hR3, fun s2 c3 w2 H4 ad4 hR4 x4 h4 r4 => ?_, (raz_of hn q5).on x13 h3⟩
      obtain ⟨b2, dx2, fs2, rfl, g3, g4, c5, hR5, hc5, x5⟩ := setF_then hT hc hn2 h4.hc r4 (Rep.kp x4.kp (Rep.kp x23.kp rb)) hR4
      have x15 := x13.trans hc3 (x4.trans h4.hc x5)
      exact ⟨b2, C, dx2, fs2, rfl, g3, hc, hn2, g4, rfl, q1 _ _ _ ad4 (x15.s hn) (x15.le hn) (h4.to x5 hc5) hR5⟩
    · exact hR.elim, raz_of hn q5⟩
end
end Dl
namespace Dl
open PySem L2
section
variable {X : Cx} {T : Tab} {cs : List Cell}
end
theorem hasK_app (a b : List (Key × D)) (k : Key) : hasK (a ++ b) k = (hasK a k || hasK b k) := by unfold hasK; rw [List.any_append]
theorem dcW_filter {p : Pat} {wt : WpT} {wk wv : WpE} {sl : Sls} {α : Type} (g : α → D) (kf : α → Key) (f : α → D) (c : α → Bool) {cs : List Cell} : ∀ {xs : List α} {acc : List (Key × D)} {R : List (Key × D) → List Cell → Prop},
    (∀ x ∈ xs, ∃ sl', asgP p (g x) sl = some sl' ∧ (∀ R' : RB, R' (c x) cs → wt sl' cs R' noX) ∧ (c x = true → (∃ d, keyD d = some (kf x) ∧ ∀ R' : RV, R' (.dat d) cs → wk sl' cs R' noX) ∧ ∀ R' : RV, R' (.dat (f x)) cs → wv sl' cs R' noX)) →
    (∀ x ∈ xs, hasK acc (kf x) = false) → xs.Pairwise (fun x y => kf x ≠ kf y) → R (acc ++ (xs.filter c).map fun x => (kf x, f x)) cs → dcW p wt wk wv sl (xs.map g) acc cs R
  | [], acc, R, _, _, _, h => by
    have h : R (acc ++ []) cs := h
    rw [List.append_nil] at h
    exact h
  | x :: xs, acc, R, hx, ha, nd, h => by
    obtain ⟨sl', e, h1, h2⟩ := hx x List.mem_cons_self
    obtain ⟨n1, n2⟩ := List.pairwise_cons.mp nd
    refine asgW_i e (h1 _ ⟨fun z => ?_, fun z => ?_⟩)
    · obtain ⟨⟨d, hd, hk⟩, hv⟩ := h2 z
      refine hk _ (hv _ ?_)
      show isKey (.dat d) fun k => isDat (.dat (f x)) fun e => dcW p wt wk wv sl (xs.map g) (putD acc k e) cs R
      have ek : ∀ K : Key → Prop, K (kf x) → isKey (.dat d) K := fun K hK => by
        show (match keyD d with
          | some x => K x
          | none => False)
        rw [hd]
        exact hK
      refine ek _ ?_
      have ep : putD acc (kf x) (f x) = acc ++ [(kf x, f x)] := by unfold putD; rw [ha x List.mem_cons_self]; rfl
      show dcW p wt wk wv sl (xs.map g) (putD acc (kf x) (f x)) cs R
      rw [ep]
      refine dcW_filter (xs := xs) g kf f c (fun y hy => hx y (List.mem_cons_of_mem _ hy)) (fun y hy => ?_) n2 ?_
      · rw [hasK_app, ha y (List.mem_cons_of_mem _ hy)]
        show (false || hasK [(kf x, f x)] (kf y)) = false
        simp [hasK, n1 y hy]
      · rw [List.filter_cons_of_pos z] at h
        rw [List.append_assoc]
        exact h
    · rw [List.filter_cons_of_neg (by rw [z]; decide)] at h
      exact dcW_filter (xs := xs) g kf f c (fun y hy => hx y (List.mem_cons_of_mem _ hy)) (fun y hy => ha y (List.mem_cons_of_mem _ hy)) n2 h
end Dl
namespace Dl
open PySem L2
structure SmC (K : PySem.W.Frag) (C : Addr) (m : Str) (p f : Addr) : Prop where
  ga : PySem.W.specialIn K (.ref C) "__getattribute__" = some (some (.builtin "type.__getattribute__"))
  ty : PySem.W.typeIn K (.ref C) = some (.type "type")
  rd : PySem.W.readsIn K C (.type "type") = true
  fd : PySem.W.findCls K (.ref C) (.type "type") m = some (.get (.builtin "staticmethod.__get__") (.ref p) .none (.ref C))
  rc : ∃ rest, PySem.W.recIn K p "staticmethod" = some (.ref f :: rest)
section
variable {X : Cx} {x m : Str} {p1 p2 pos : Pos} {e : Expr} {es : List Expr} {kws : List Keyword} {C q f : Addr} {k : Nat} {fd : FuncData} {ps : List Str} {sp : Sp} {E : St → XK} {t tk : TA} {pl : Sem Bool} {CX : CXT}
end
section
variable {X : Cx} {T : Tab} {W : WX} {e : Expr} {es : List Expr} {kws : List Keyword} {pos p1 p2 : Pos} {wA wK : WpA} {c : Ct} {cx : CtX} {k : Nat} {fd : FuncData} {ps : List Str} {m y : Str} {C q f : Addr} {pl : Sem Bool}
end
section
variable {X : Cx} {T : Tab} {d : D} {ds : List D} {cs : List Cell}
end
end Dl
namespace Dl
open PySem L2
section
variable {X : Cx} {T : Tab} {W : WX} {c : Ct} {k cn : Nat} {fd : FuncData} {ps : List Str} {C g : Addr} {fn : List Str} {cs : List Cell} {ds : List D} {d : D}
end
end Dl
namespace Dl
open PySem L2
def TsO (x : Str) : Prop := ∀ c ∈ x.cps.toList, c < 0x110000
theorem TsO.ok {x : Str} (h : TsO x) : PyData.canLay0 (.str x) = true := by
  have e : PyData.strOk x = true := by
    unfold PyData.strOk
    rw [← Array.all_toList, List.all_eq_true]
    exact fun c hc => decide_eq_true (h c hc)
  simpa [PyData.canLay0] using e
end Dl
namespace Dl
open PySem L2
section
variable {X : Cx} {T : Tab} {C C2 g : Addr} {fd : FuncData} {ps : List Str} {k cn cm : Nat} {c : Ct} {fn fm : List Str} {ds es : List D} {d : D} {cs : List Cell} {w2 : W2}
def PO (cn cm : Nat) (s1 s2 : Sl) : Bool := isO cn s1 && isO cm s2
end
end Dl
namespace Dl
open PySem L2
section
variable {X : Cx} {T : Tab} {W : WX} {e : Expr} {es : List Expr} {p : Pos} {w : WpE} {wA : WpA}
end
section
variable {T : Tab} {K : PySem.W.Frag} {M : Addr → Prop} {H : Hp}
end
section
variable {X : Cx} {T : Tab} {W : WX} {ad : List Addr} {F : Addr → Prop} {H : Hp} {cs : List Cell} {s1 : Sl} {ds : List D} {kds : List (Key × D)}
end
section
variable {X : Cx} {e : Expr} {te : TE} {p apos cpos pos : Pos}
end
section
variable {X : Cx} {T : Tab} {W : WX} {e : Expr} {p apos cpos pos : Pos} {we : WpE}
end
end Dl
namespace Dl
open PySem L2
section
open PySem.Spec PyProof.Rows
end
section
variable {X : Cx} {T : Tab} {ds : List D} {cs : List Cell}
end
end Dl
namespace Dl
open PySem L2
section
variable {X : Cx} {T : Tab} {W : WX} {o i : Expr} {pos : Pos} {wo wi : WpE}
end
section
variable {X : Cx} {T : Tab} {W : WX} {n : Nat} {e o ix : Expr} {pos p' : Pos} {we wo wx : WpE}
end
end Dl
namespace Dl
open PySem L2
section
variable {X : Cx} {T : Tab} {W : WX}
end
end Dl
namespace Dl
open PySem L2
def rangeC (lo c : Int) (n : Nat) : List D := (List.range n).map fun i : Nat => D.int (lo + (i : Int) * c)
theorem rangeC_get {lo c : Int} {n i : Nat} {d : D} (h : (rangeC lo c n)[i]? = some d) : i < n ∧ d = .int (lo + (i : Int) * c) := by
  unfold rangeC at h
  rw [List.getElem?_map] at h
  by_cases hi : i < n
  · rw [List.getElem?_range hi] at h
    exact ⟨hi, (Option.some.inj h).symm⟩
  · rw [List.getElem?_eq_none (by simpa using hi)] at h
    cases h
theorem itc_ok {T : Tab} {K : PySem.W.Frag} {F : Addr → Prop} {lo c : Int} {n : Nat} {ad1 : List Addr} {H1 : Hp} : ItOk T K F (Itc lo c n) (rangeC lo c n) ad1 H1 := fun F2 ad2 H2 cs2 c2 kp i => by
  refine ⟨fun d hd => ?_, fun hi => ?_⟩
  · obtain ⟨hi, rfl⟩ := rangeC_get hd
    refine ⟨hi, fun v H3 y => ?_⟩
    obtain ⟨rfl, rfl⟩ := y
    exact ⟨fun _ _ z => z, .int⟩
  · unfold rangeC at hi
    simp at hi
    subst hi
    exact Nat.le_refl _
def stepsC (i j c : Int) : Nat := if i < j then ((j - i - 1) / c + 1).toNat else 0
def Sm40 (i : Int) : Prop := -(2 ^ 40) ≤ i ∧ i < 2 ^ 40
theorem rgC_ok {i j c : Int} (h0 : 0 < c) (h1 : c < 2 ^ 30) (hi : Sm40 i) (hj : Sm40 j) : RgC i j c (stepsC i j c) := by
  obtain ⟨i0, i1⟩ := hi
  obtain ⟨j0, j1⟩ := hj
  have dv : i < j → 0 ≤ (j - i - 1) / c ∧ (j - i - 1) / c ≤ j - i - 1 := fun z => ⟨Int.ediv_nonneg (by omega) (by omega), Int.ediv_le_self _ (by omega)⟩
  have es : Builtin.Range.rangeSize i j c = (stepsC i j c : Nat) := by
    unfold Builtin.Range.rangeSize stepsC
    rw [if_pos h0]
    split
    · have := dv ‹_›
      omega
    · rfl
  have eb : ((stepsC i j c : Nat) : Int) ≤ 2 ^ 42 := by
    unfold stepsC
    split
    · have := dv ‹_›
      omega
    · decide
  refine ⟨by omega, by omega, ?_, es⟩
  unfold Builtin.Range.small
  rw [es]
  simp only [Builtin.Range.rangeFitsLong, Bool.and_eq_true, Bool.or_eq_true, decide_eq_true_eq, beq_iff_eq, h0, if_true]
  omega
def rng3W (ss : List Sl) (k : List D → Prop) : Prop := match ss with
  | [.dat (.int i), .dat (.int j), .dat (.int c)] => (Sm40 i ∧ Sm40 j ∧ 0 < c ∧ c < 2 ^ 30) ∧ k (rangeC i c (stepsC i j c))
  | _ => False
def wRng3 (wA : WpA) : WpI := fun sl cs R Rx => wA sl cs (fun ss c => rng3W ss fun ds => R ds c) Rx
theorem ji_range3 {X : Cx} {T : Tab} {W : WX} {tg e e2 e3 : Expr} {wA : WpA} {p pos : Pos} (hm : X.mg "range" = none) (ha : JA X T W [e, e2, e3] wA) (hg : Gl X "range" := by rfl)
    (hs : starEach [e, e2, e3] X.env = (false, eval e X.env) :: starEach [e2, e3] X.env := by rfl) (hpl : (backTo pos (starEach [e2, e3] X.env)).any (·.1) = false := by rfl) : JI X T W tg (.Call (.Name "range" p) [e, e2, e3] [] pos) (wRng3 wA) :=
  weakI (pi_range3 hg hm ha hs hpl) fun σ H Q ⟨ad, F, sl, cs, R, Rx, h0, hw, q, qx⟩ => ⟨ad, F, sl, cs, _, Rx, h0, hw, fun ss c1 vs H1 ad1 hw1 x1 h1 r1 => by
    unfold rng3W at hw1
    split at hw1
    · match vs, r1 with
      | [v, w, u], r1 =>
        have r3 := r1.2.2.1
        have r2 := r1.2.1
        have r1 := r1.1
        cases r1
        cases r2
        cases r3
        obtain ⟨⟨a1, a2, a3, a4⟩, hw1⟩ := hw1
        exact ⟨_, _, _, _, rfl, rgC_ok a3 a4 a1 a2, q _ c1 _ H1 ad1 hw1 x1 h1 itc_ok⟩
    · exact hw1.elim, qx⟩
end Dl
namespace Dl
open PySem L2 PySem.Spec PyProof.Rows
section
variable {X : Cx} {pins : List (Addr × Obj)} {σ : L2.St} {H : Hp} {s : Shared}
structure Made (H : Hp) (P f c : Addr) (F : LamF) (H1 : Hp) : Prop where
  keep : ∀ b o, b ≠ P → H b = some o → H1 b = some o
  tab : LamX.TabS H1 P F.q
  nf : H f = none
  fn : H1 f = some (LamO f F c)
  co : H1 c = some (LamX.CodeO c F.q)
end
section
variable {T : Tab} {K : PySem.W.Frag} {ad : List Addr} {Fm : Addr → Prop} {H H1 : Hp} {cs : List Cell} {P f c : Addr} {F : LamF}
end
section
variable {X : Cx} {T : Tab} {W : WX} {F : LamF} {c P : Addr} {pos : Pos} {ps : Arguments} {b : Expr} {sc : Scope}
end
structure LamOk (P : Program) (w : World) (K : PySem.W.Frag) (mg : Str → Option Value) (base : Heap) (k : Nat) (n : Nat) (F : LamF) (sp : Sp) : Prop where
  ln : ∀ {vs : List V} {H : Hp} {Q : VK} {E : XK}, sp vs H Q E → vs.length = n
  go : ∀ {A : Around} {fs : List Env} {s : Shared} {H : Hp} {us : List Value} {vs : List V} {Q : VK} {f c : Addr}, Room k A → Env0 P w K mg base A fs s H → H f = some (LamO f F c) → H c = some (LamX.CodeO c F.q) → Vals vs us → sp vs H Q E0 →
    codeAny (model P w) A (.call (.ref f) ⟨us, []⟩) (CR CX0 fs P w H s Q E0) s
section
variable {P : Program} {w : World} {K : PySem.W.Frag} {mg : Str → Option Value} {base : Heap} {k : Nat} {ps N : List Str} {sp : Sp} {F : LamF}
end
section
variable {T : Tab} {P : Program} {w : World} {K : PySem.W.Frag} {mg : Str → Option Value} {base : Heap} {k : Nat} {ps N : List Str} {F : LamF} {we : WpE}
end
end Dl
namespace Dl
open PySem L2 PySem.Spec PyProof.Rows
section
variable {X : Cx} {F : LamF} {x : Str} {p pos : Pos} {e : Expr} {es : List Expr} {n k : Nat} {sp : Sp}
end
section
variable {X : Cx} {T : Tab} {W : WX} {F : LamF} {x : Str} {p pos : Pos} {e : Expr} {es : List Expr} {n k : Nat} {c : Ct} {wo : WpE} {wA : WpA}
end
section
variable {X : Cx} {T : Tab} {W : WX} {ad : List Addr} {F : Addr → Prop} {H : Hp} {cs : List Cell} {kds : List (Key × D)} {pos p1 p2 : Pos} {i : Int} {b : Bool} {k1 k2 : Nat}
end
section
variable {X : Cx} {T : Tab} {W : WX} {ad : List Addr} {F : Addr → Prop} {H : Hp} {cs : List Cell} {kds : List (Key × D)} {s1 : Sl}
end
section
variable {T : Tab} {K : PySem.W.Frag} {F : Addr → Prop} {ad : List Addr} {H : Hp} {a : Addr} {o : Obj} {kvs : List (Key × V)}
end
section
variable {X : Cx} {T : Tab} {W : WX} {e : Expr} {w : WpE} {elts : List Expr} {kk : Nat} {tpos apos cpos : Pos}
end
end Dl
namespace Dl
open PySem L2 PySem.Spec PyProof.Rows
section
variable {T : Tab} {P : Program} {w : World} {K : PySem.W.Frag} {mg : Str → Option Value} {base : Heap} {nm qual : Str} {st : Stmt} {f c : Addr} {N ps : List Str} {k : Nat} {ws : Nat → WS} {dV kV doc pm ct oc : Value} {an od : Option Addr} {osl : Array (Option Value)} {fd : FuncData}
structure FunC (K : PySem.W.Frag) (nm qual : Str) (st : Stmt) (f c : Addr) (fd : FuncData) : Prop where
  ex : ∃ (dV kV doc pm ct oc : Value) (an od : Option Addr) (osl : Array (Option Value)), fd = PySem.W.fnOf nm qual (defArgs st) (defBody st) (defScope st) dV kV doc pm an (.ref c) ct ∧ K.lookup f = some ⟨oc, od, .func fd, osl⟩ ∧ PySem.W.codeIn K (.ref c) qual = true
end
section
variable {P : Program} {w : World} {K : PySem.W.Frag} {mg mb : Str → Option Value} {a c Tp : Addr} {s : Shared} {vs : List Value} {H : Hp}
end
end Dl
namespace Dl
open PySem L2 PySem.Spec PyProof.Rows
end Dl
namespace Dl
open PySem L2
section
variable {X : Cx} {T : Tab} {W : WX} {y : Str} {p pos : Pos} {kws : List Keyword} {f : Addr} {k : Nat} {fd : FuncData} {ps : List Str} {sp : Sp} {t : TA} {c : Ct} {wK : WpA}
end
end Dl
namespace Dl
open PySem L2
section
variable {X : Cx} {T : Tab} {W : WX} {n : Nat} {e it tg : Expr} {pos : Pos} {w : WpE} {body : List Stmt} {pa : Pat}
end
end Dl
namespace L2
open PySem PySem.Spec PyProof.Rows
section
variable {X : Cx} {a b c e : Expr} {ta : TA} {p p2 pos pos2 : Pos}
end
end L2
namespace Dl
open PySem L2
section
variable {X : Cx} {T : Tab} {W : WX} {a b c : Expr} {wA : WpA} {p p2 pos pos2 : Pos}
end
end Dl
namespace Dl
open PySem L2
section
variable {X : Cx} {T : Tab} {W : WX} {e o : Expr} {wa we wo : WpE} {pos apos p2 : Pos}
theorem slc_S {x : Str} {lo hi : Option Int} {cs : List Cell} (hl : x.length ≤ sizeLine) : SlcD X T (.dat (.str x)) lo hi cs (.dat (.str (cutS x lo hi))) cs := ⟨_, sl_str, fun ad F H v Q c r1 q => by
  cases r1
  exact ⟨x, rfl, hl, q _ H ad .refl c Rep.str⟩⟩
def slcSW (s1 : Sl) (l u : Option Int) (cs : List Cell) (R : RV) : Prop := match s1 with
  | .dat (.str x) => x.length ≤ sizeLine ∧ R (.dat (.str (cutS x l u))) cs
  | s1 => slcW s1 l u cs R
theorem slcSW_of {s1 : Sl} {l u : Option Int} {cs : List Cell} {R : RV} (h : slcSW s1 l u cs R) : ∃ s, SlcD X T s1 l u cs s cs ∧ R s cs := by
  unfold slcSW at h
  split at h
  · exact ⟨_, slc_S h.1, h.2⟩
  · exact slcW_of h
def wSlcS (wa : WpE) (wl wu : WpO) : WpE := fun sl cs R Rx => wa sl cs (fun s1 c1 => wl sl c1 (fun l c2 => wu sl c2 (fun u c3 => slcSW s1 l u c3 R) Rx) Rx) Rx
theorem je_sliceS {lo hi : Option Expr} {wl wu : WpO} (ha : JE X T W e wa) (hl : JO X T W lo wl) (hu : JO X T W hi wu) : JE X T W (.Subscript e (.Slice lo hi none p2) pos) (wSlcS wa wl wu) :=
  weak (pe_slice slAll ha hl hu) fun σ H Q ⟨ad, F, sl, cs, R, Rx, h0, hw, q, qx⟩ => ⟨ad, F, sl, cs, _, Rx, h0, hw, fun s1 c1 v H1 ad1 hw1 x1 h1 r1 => ⟨ad1, F, sl, c1, _, Rx, h1, hw1, fun l c2 H2 ad2 hw2 x2 h2 => ⟨ad2, F, sl, c2, _, Rx, h2, hw2, fun u c3 H3 ad3 hw3 x3 h3 => by
    obtain ⟨s, ⟨r, o1, o2⟩, hR⟩ := slcSW_of (X := X) (T := T) hw3
    exact ⟨r, o1, o2 ad3 F H3 v Q h3.hc ((r1.ext x2).ext x3) fun z H4 ad4 x4 k4 r4 => q s c3 z H4 ad4 hR (x1.trans h1.hc (x2.trans h2.hc (x3.trans h3.hc x4))) (h3.to x4 k4) r4⟩, (qx.on x1 h1).on x2 h2⟩, qx.on x1 h1⟩, qx⟩
theorem cmp_notInS {c : Nat} {z : Str} {cs : List Cell} : CmpD X T .NotIn (.dat (.str ⟨#[c]⟩)) (.dat (.str z)) cs (.dat (.bl (!decide (c ∈ z.cps.toList)))) cs := ⟨_, op_notIn_sign, fun ad F H v w Q k r1 r2 q => by
  cases r1
  cases r2
  exact ⟨c, z, rfl, rfl, q _ H ad .refl k Rep.bl⟩⟩
def inSW (neg : Bool) : W2 := fun s1 s2 cs R => match s1, s2 with
  | .dat (.str x), .dat (.str z) => ∃ c, x = ⟨#[c]⟩ ∧ R (.dat (.bl (neg.xor (decide (c ∈ z.cps.toList))))) cs
  | s1, s2 => inW' neg s1 s2 cs R
theorem jc_notinS : JCmp X T .NotIn (inSW true) := fun s1 s2 cs R h => by
  unfold inSW at h
  split at h
  · obtain ⟨c, rfl, h⟩ := h
    exact ⟨_, _, cmp_notInS, by simpa using h⟩
  · exact jc_notin _ _ _ _ h
def chD (x : Str) : List D := x.cps.toList.map fun c => D.str ⟨#[c]⟩
theorem its_ok {K : PySem.W.Frag} {F : Addr → Prop} {x : Str} {ad : List Addr} {H : Hp} : ItOk T K F (Its x) (chD x) ad H := fun F2 ad2 H2 cs2 c2 kp i => by
  refine ⟨fun d hd => ?_, fun hi => ?_⟩
  · unfold chD at hd
    rw [List.getElem?_map, Array.getElem?_toList] at hd
    cases hc : x.cps[i]? with
    | none => rw [hc] at hd; cases hd
    | some c =>
      rw [hc] at hd
      cases hd
      refine ⟨(Array.getElem?_eq_some_iff.mp hc).1, fun v H3 y => ?_⟩
      obtain ⟨rfl, c', e, rfl⟩ := y
      rw [hc] at e
      cases e
      exact ⟨fun _ _ z => z, .str⟩
  · unfold chD at hi
    rw [List.length_map, Array.length_toList] at hi
    subst hi
    exact Nat.le_refl _
def itemsSW (s : Sl) (k : List D → Prop) : Prop := match s with
  | .dat (.str x) => k (chD x)
  | _ => False
def wItemsS (w : WpE) : WpI := fun sl cs R Rx => w sl cs (fun s c => itemsSW s fun ds => R ds c) Rx
theorem ji_str {tg : Expr} {w : WpE} (he : JE X T W e w) : JI X T W tg e (wItemsS w) := weakI (pi_str he) fun σ H Q ⟨ad, F, sl, cs, R, Rx, h0, hw, q, qx⟩ => ⟨ad, F, sl, cs, _, Rx, h0, hw, fun s c1 v H1 ad1 hw1 x1 h1 r1 => by
  unfold itemsSW at hw1
  split at hw1
  · rename_i x
    cases r1
    exact ⟨x, rfl, q _ c1 _ H1 ad1 hw1 x1 h1 its_ok⟩
  · exact hw1.elim, qx⟩
theorem reps_str {K : PySem.W.Frag} {M : Addr → Prop} {H : Hp} : ∀ ys : List Str, Reps T K M H (ys.map V.str) (ys.map D.str)
  | [] => .nil
  | _ :: ys => .cons .str (reps_str ys)
theorem reps_strs {K : PySem.W.Frag} {M : Addr → Prop} {H : Hp} : ∀ {ys : List Str} {vs : List V}, Reps T K M H vs (ys.map D.str) → vs = ys.map V.str
  | [], _, .nil => rfl
  | _ :: ys, _, .cons h t => by cases h; rw [reps_strs t]; rfl
def isStr (s : Sl) : Bool := match s with
  | .dat (.str _) => true
  | _ => false
def splW (s d : Sl) (cs : List Cell) (R : RV) : Prop := match s, d with
  | .dat (.str a), .dat (.str b) => (b.length == 0) = false ∧ a.length + 2 ≤ sizeLine ∧ R (.dat (.lst ((Txt.split a b).map D.str))) cs
  | _, _ => False
def joiW (s d : Sl) (cs : List Cell) (R : RV) : Prop := match s, d with
  | .dat (.str a), .dat (.lst ds) => ∃ ys : List Str, ds = ys.map D.str ∧ (ys.map (·.length)).sum + ys.length * a.length ≤ 16777216 ∧ R (.dat (.str (Txt.join a ys))) cs
  | _, _ => False
def rmpW (s d : Sl) (cs : List Cell) (R : RV) : Prop := match s, d with
  | .dat (.str a), .dat (.str b) => a.length ≤ sizeLine ∧ R (.dat (.str (Txt.removeprefix a b))) cs
  | _, _ => False
def wM1 (w2 : W2) (wo we : WpE) : WpE := fun sl cs R Rx => wo sl cs (fun s c1 => isStr s = true ∧ we sl c1 (fun d c2 => w2 s d c2 R) Rx) Rx
def M1D (X : Cx) (T : Tab) (r : V → List V → Hp → VK → Prop) (w2 : W2) : Prop := ∀ s d cs R, w2 s d cs R → ∃ z cs', (∀ ad F H v u (Q : VK), HoldC T X.K ad F H cs → SlRep T X.K ad F H v s → SlRep T X.K ad F H u d → (∀ y H' ad', Ext ad F H ad' H' → HoldC T X.K ad' F H' cs' → SlRep T X.K ad' F H' y z → Q y H') → r v [u] H Q) ∧ R z cs'
theorem je_m1 {id : String} {name : Str} {r : V → List V → Hp → VK → Prop} {w2 : W2} (hd : M1D X T r w2) (ho : JE X T W o wo) (he : JE X T W e we) (slot : Slot "str" name id) (ty : typeOf (.builtin id) = pure (.type "method_descriptor")) (rule : MtR X id r)
    (hs : starEach [e] X.env = [(false, eval e X.env)] := by rfl) (hbase : attributeBase o name X.env (eval o X.env) = eval o X.env := by rfl) (hline : (apos.endLine == pos.line) = true := by rfl) :
    JE X T W (.Call (.Attribute o name apos) [e] [] pos) (wM1 w2 wo we) :=
  weak (pe_m1 slot ty rule ho he hs hbase hline) fun σ H Q ⟨ad, F, sl, cs, R, Rx, h0, hw, q, qx⟩ => ⟨ad, F, sl, cs, _, Rx, h0, hw, fun s c1 v H1 ad1 hw1 x1 h1 r1 => by
    obtain ⟨hs1, hw1⟩ := hw1
    refine ⟨?_, ad1, F, sl, c1, _, Rx, h1, hw1, fun d c2 u H2 ad2 hw2 x2 h2 r2 => ?_, qx.on x1 h1⟩
    · unfold isStr at hs1
      split at hs1
      · cases r1
        exact ⟨_, rfl⟩
      · cases hs1
    · obtain ⟨z, cs', hr, hR⟩ := hd s d c2 R hw2
      exact hr ad2 F H2 v u Q h2.hc (r1.ext x2) r2 fun y H3 ad3 x3 k3 r3 => q z cs' y H3 ad3 hR (x1.trans h1.hc (x2.trans h2.hc x3)) (h2.to x3 k3) r3, qx⟩
theorem m1_split : M1D X T (fun x xs H Q => ∃ a b, x = .str a ∧ xs = [.str b] ∧ (b.length == 0) = false ∧ a.length + 2 ≤ sizeLine ∧ rNewStrs (Txt.split a b) H Q) splW := fun s d cs R h => by
  unfold splW at h
  split at h
  · obtain ⟨h1, h2, hR⟩ := h
    refine ⟨_, cs, fun ad F H v u Q c r1 r2 q => ?_, hR⟩
    cases r1
    cases r2
    exact ⟨_, _, rfl, rfl, h1, h2, fun p hp => new_lst c (reps_str _) q hp⟩
  · exact h.elim
theorem m1_join : M1D X T (fun x xs H Q => ∃ a p, ∃ ys : List Str, x = .str a ∧ xs = [.ref p] ∧ (SqL X.K H p (ys.map V.str) ∨ SqT X.K H p (ys.map V.str)) ∧ (ys.map (·.length)).sum + ys.length * a.length ≤ 16777216 ∧ Q (.str (Txt.join a ys)) H) joiW := fun s d cs R h => by
  unfold joiW at h
  split at h
  · obtain ⟨ys, rfl, h1, hR⟩ := h
    refine ⟨_, cs, fun ad F H v u Q c r1 r2 q => ?_, hR⟩
    cases r1
    cases r2 with
    | @lst a vs _ n e1 r =>
      have e := reps_strs r
      subst e
      exact ⟨_, a, ys, rfl, rfl, .inl (SqL.of e1), h1, q _ H ad .refl c Rep.str⟩
  · exact h.elim
theorem m1_rmp : M1D X T (fun x xs H Q => ∃ a b, x = .str a ∧ xs = [.str b] ∧ a.length ≤ sizeLine ∧ Q (.str (Txt.removeprefix a b)) H) rmpW := fun s d cs R h => by
  unfold rmpW at h
  split at h
  · refine ⟨_, cs, fun ad F H v u Q c r1 r2 q => ?_, h.2⟩
    cases r1
    cases r2
    exact ⟨_, _, rfl, rfl, h.1, q _ H ad .refl c Rep.str⟩
  · exact h.elim
theorem je_split (ho : JE X T W o wo) (he : JE X T W e we) (hs : starEach [e] X.env = [(false, eval e X.env)] := by rfl) (hbase : attributeBase o "split" X.env (eval o X.env) = eval o X.env := by rfl) (hline : (apos.endLine == pos.line) = true := by rfl) :
    JE X T W (.Call (.Attribute o "split" apos) [e] [] pos) (wM1 splW wo we) := je_m1 m1_split ho he PySem.F.slot_str_split PySem.F.type_str_split mt_split hs hbase hline
theorem je_join (ho : JE X T W o wo) (he : JE X T W e we) (hs : starEach [e] X.env = [(false, eval e X.env)] := by rfl) (hbase : attributeBase o "join" X.env (eval o X.env) = eval o X.env := by rfl) (hline : (apos.endLine == pos.line) = true := by rfl) :
    JE X T W (.Call (.Attribute o "join" apos) [e] [] pos) (wM1 joiW wo we) := je_m1 m1_join ho he PySem.F.slot_str_join PySem.F.type_str_join mt_join hs hbase hline
theorem je_rmp (ho : JE X T W o wo) (he : JE X T W e we) (hs : starEach [e] X.env = [(false, eval e X.env)] := by rfl) (hbase : attributeBase o "removeprefix" X.env (eval o X.env) = eval o X.env := by rfl) (hline : (apos.endLine == pos.line) = true := by rfl) :
    JE X T W (.Call (.Attribute o "removeprefix" apos) [e] [] pos) (wM1 rmpW wo we) := je_m1 m1_rmp ho he PySem.F.slot_str_removeprefix PySem.F.type_str_removeprefix mt_removeprefix hs hbase hline
theorem cb_strI {i : Int} {cs : List Cell} (h : i.natAbs.log2 < 1920) : CalB X T "str" [.dat (.int i)] cs (.dat (.str (toString i))) cs := ⟨_, _, by decide +kernel, .inr ⟨_, rfl⟩, call_str_int, fun ad F H vs Q c r q => by
  match vs, r with
  | [v], r =>
    have r1 := r.1
    cases r1
    exact ⟨i, rfl, h, q _ H ad .refl c Rep.str⟩⟩
def strW1 : WC := fun ss cs R => match ss with
  | [.dat (.int i)] => i.natAbs.log2 < 1920 ∧ R (.dat (.str (toString i))) cs
  | _ => False
theorem jc_str : JCall X T "str" strW1 := ⟨⟨.type "str", by decide +kernel, .inr ⟨_, rfl⟩⟩, fun ss cs R h => by
  unfold strW1 at h
  split at h
  · exact ⟨_, _, cb_strI h.1, h.2⟩
  · exact h.elim⟩
def fmtW (s : Sl) (cs : List Cell) (R : RV) : Prop := match s with
  | .dat (.str y) => y.length ≤ sizeLine ∧ R (.dat (.str y)) cs
  | .dat (.int i) => i.natAbs.log2 < 1920 ∧ R (.dat (.str (toString i))) cs
  | _ => False
def wFmt (w : WpE) : WpE := fun sl cs R Rx => w sl cs (fun s c => fmtW s c R) Rx
theorem je_fmt (he : JE X T W e we) : JE X T W (.FormattedValue e (-1) none pos) (wFmt we) :=
  weak (pe_fmt he) fun σ H Q ⟨ad, F, sl, cs, R, Rx, h0, hw, q, qx⟩ => ⟨ad, F, sl, cs, _, Rx, h0, hw, fun s c1 v H1 ad1 hw1 x1 h1 r1 => by
    unfold fmtW at hw1
    split at hw1
    · cases r1
      exact .inl ⟨_, rfl, hw1.1, q _ c1 _ H1 ad1 hw1.2 x1 h1 Rep.str⟩
    · cases r1
      exact .inr ⟨_, rfl, hw1.1, q _ c1 _ H1 ad1 hw1.2 x1 h1 Rep.str⟩
    · exact hw1.elim, qx⟩
inductive JP (X : Cx) (T : Tab) (W : WX) : List Expr → List WpE → Prop where
  | nil : JP X T W [] []
  | cons {e : Expr} {w : WpE} {es : List Expr} {ws : List WpE} (h : JE X T W e w) (r : JP X T W es ws) : JP X T W (e :: es) (w :: ws)
theorem JP.pj {es : List Expr} {ws : List WpE} (h : JP X T W es ws) : L2.PJ X es (ws.map fun w => tJ T X.K W w) := by
  induction h with
  | nil => exact .nil
  | cons h r ih => exact .cons h ih
def wJs : List WpE → Str → Sls → List Cell → (Str → List Cell → Prop) → RX → Prop
  | [], acc, _, cs, R, _ => R acc cs
  | w :: ws, acc, sl, cs, R, Rx => w sl cs (fun s c => ∃ y, s = .dat (.str y) ∧ (acc ++ y).length ≤ sizeLine ∧ wJs ws (acc ++ y) sl c R Rx) Rx
theorem wJs_of {σ : St} {sl : Sls} {R : Str → List Cell → Prop} {Rx : RX} {F : Addr → Prop} {Q : Str → Hp → Prop} : ∀ (ws : List WpE) (acc : Str) {ad : List Addr} {cs : List Cell} {H : Hp}, Hold T X.K ⟨sl, cs⟩ ad F σ H → wJs ws acc sl cs R Rx →
    (∀ out c H' ad', R out c → Ext ad F H ad' H' → Hold T X.K ⟨sl, c⟩ ad' F σ H' → Q out H') → Raz T X.K W σ ad F H sl Rx → tJs (ws.map fun w => tJ T X.K W w) acc σ H Q
  | [], acc, ad, cs, H, h, hw, q, _ => q acc cs H ad hw .refl h
  | w :: ws, acc, ad, cs, H, h, hw, q, qx => ⟨ad, F, sl, cs, _, Rx, h, hw, fun s c1 v H1 ad1 hw1 x1 h1 r1 => by
    obtain ⟨y, rfl, hl, hw1⟩ := hw1
    cases r1
    exact ⟨y, rfl, hl, wJs_of ws (acc ++ y) h1 hw1 (fun out c H' ad' hR x2 h2 => q out c H' ad' hR (x1.trans h1.hc x2) h2) (qx.on x1 h1)⟩, qx⟩
def wJoin (ws : List WpE) : WpE := fun sl cs R Rx => wJs ws Str.empty sl cs (fun out c => R (.dat (.str out)) c) Rx
theorem je_joined {v1 v2 : Expr} {rest : List Expr} {ws : List WpE} (h : JP X T W (v1 :: v2 :: rest) ws) : JE X T W (.JoinedStr (v1 :: v2 :: rest) pos) (wJoin ws) :=
  weak (pe_joined h.pj) fun σ H Q ⟨ad, F, sl, cs, R, Rx, h0, hw, q, qx⟩ => wJs_of ws Str.empty h0 hw (fun out c H' ad' hR x h => q _ c _ H' ad' hR x h Rep.str) qx
end
end Dl
namespace L2
open PySem PySem.Spec PyProof.Rows
section
variable {X : Cx} {e o : Expr} {es : List Expr} {st : Stmt} {rest : List Stmt} {t u : TS} {te to : TE} {ta : TA} {pos apos cp : Pos}
end
end L2
namespace Dl
open PySem L2
section
variable {X : Cx} {T : Tab} {W : WX} {n : Nat} {e o : Expr} {es : List Expr} {wA : WpA} {w we wo : WpE} {st : Stmt} {rest : List Stmt} {w1 w2 : WS} {pos apos cp lp p' : Pos} {x : Str}
end
end Dl
namespace L2
open PySem PySem.Spec PyProof.Rows
section
variable {X : Cx}
end
end L2
namespace Dl
open PySem L2
section
variable {X : Cx} {T : Tab} {W : WX} {n : Nat} {a b e o tg it : Expr} {es body : List Expr} {wa wb w we wo : WpE} {wA : WpA} {st : Stmt} {rest : List Stmt} {w1 w2 : WS} {pos apos cp lp p' : Pos} {x : Str} {pa : Pat} {wi : WpI}
end
end Dl
namespace Dl
open PySem L2
open PySem.W in
theorem kit_tyb {K : Frag} {C : Addr} {u : String} {b : Bool} (hm : kitMeta u = true) (h4 : subIn K (.ref C) (.type u) = some b) : kitOne K (.ref C) (.type u) = some b := by
  show (if ((Value.ref C) == .type u) = true then some true else (if kitMeta u = true then subIn K (.ref C) (.type u) else none)) = some b
  rw [show ((Value.ref C) == .type u) = false from rfl, if_neg (by decide), if_pos hm]
  exact h4
section
variable {X : Cx} {T : Tab} {a Ce : Addr} {oe : Obj} {d : Option Addr} {pn : List (Addr × Obj)} {e : Expr} {pos p p2 : Pos} {m : Nat} {w : WpE} {x : Str} {u : String}
end
end Dl
namespace Dl
open PySem L2 PySem.Spec PyProof.Rows PySem.W PySem.Calls PySem.HandSPX
inductive Tl (t : List Value) : List Value → Prop
  | base : Tl t t
  | ref {c : Addr} {r : List Value} : Tl t r → Tl t (.ref c :: r)
structure TlF (t : List Value) (nid : String) : Prop where
  new : ∃ B iN bN, ExcBaseFacts B nid iN bN ∧ t.contains (.type B) = true
  noA : t.contains (.type "AttributeError") = false
  noN : t.contains (.type "NameError") = false
  obj : t.contains (.type "object") = true
  ne : t.isEmpty = false
  pass : ∀ self : Value, refuseLoop self "__setattr__" t = pure ()
theorem Tl.has {t l : List Value} (h : Tl t l) (X : String) : l.contains (.type X) = t.contains (.type X) := by
  induction h with
  | base => rfl
  | ref _ ih => rw [List.contains_cons, ih] <;> rfl
theorem Tl.full {t l : List Value} (h : Tl t l) (n : t.isEmpty = false) : l.isEmpty = false := by
  cases h with
  | base => exact n
  | ref _ => rfl
theorem Tl.goes {t l : List Value} (h : Tl t l) (p : ∀ self : Value, refuseLoop self "__setattr__" t = pure ()) (self : Value) : refuseLoop self "__setattr__" l = pure () := by
  induction h with
  | base => exact p self
  | ref _ ih => rw [refuseLoop_ref] <;> exact ih
structure IniF (B iid : String) : Prop where
  slot : Slot B "__init__" iid
  entry : entryFor table iid = some Builtin.«BaseException.__init__»
  split : splitId iid = some (B, "__init__")
  kind : builtinKind iid = some .slot
  row : Manifest.signature? iid = some ⟨.positional, "*", B, .self, [⟨"args", .varPos, false⟩]⟩
  star : (B != "*") = true
section
variable {prog : Program} {w : World} {A : Around} {E : Value → Shared → Prop} {R : Result → Shared → Prop} {h : Heap} {g : Array GenState} {dr : Drawn} {tk : Nat} {os : OsState}
variable {nm q : Str} {C N : Addr} {bs bm t : List Value} {hdct : Bool} {sn : List Str} {sub : List Value} {ab : Bool} {col : Option Bool} {dd : Option Addr} {k0 k1 k2 k3 k5 : Option Value} {nid iid B : String}
end
end Dl
namespace Dl
open PySem L2
structure OexB (K : PySem.W.Frag) (C : Addr) (t : List Value) (nid : String) : Prop where
  cls : ∃ nm q N bs bm sn sub ab col dd k0 k1 k2 k3 k5, K.lookup C = some (excClassObj nm q C N bs bm true sn sub ab col dd k0 k1 k2 k3 k5 nid) ∧ Tl t bm
  sa : PySem.W.findIn K (.ref C) "__setattr__" = some (some (.builtin "object.__setattr__"))
  exC : PySem.W.subIn K (.ref C) (.type "BaseException") = some true
  tyC : PySem.W.typeIn K (.ref C) = some (.type "type")
  kC : PySem.W.keepIn K (.ref C) = true
section
open Builtin Builtin.ObjectAttr PySem.W
variable {prog : Program} {w : World} {A : Around} {E : Value → Shared → Prop} {R : Result → Shared → Prop} {hp : Heap} {g : Array GenState} {dr : Drawn} {t : Nat} {os : OsState}
variable {K : Frag} {name : Str} {tk : Tok} {v : Value} {x C : Addr} {fv : Array Value} {cd : ClassData} {tl : List Value} {nid : String}
end
section
open PySem.Spec PyProof.Rows
variable {X : Cx} {pins : List (Addr × Obj)} {σ : L2.St} {H : Hp} {s : Shared} {a C dx : Addr} {f : Str} {y : V} {u : Value} {fs : List (Str × V)} {Q : Unit → Shared → Prop} {E : Value → Shared → Prop} {A : Around} {tl : List Value} {nid iid B : String}
end
section
open PySem.Spec PyProof.Rows
variable {X : Cx} {o e : Expr} {es : List Expr} {to te : TE} {ta : TA} {f x : Str} {p p' p1 p2 pos : Pos} {tl : List Value} {nid iid B : String}
structure BiC (K : PySem.W.Frag) (x : Str) (B iid : String) : Prop where
  boot : bootBuiltins x = some (.type B)
  nm : x ≠ "__name__"
  db : (x == ("__debug__" : Str)) = false
  ty : typeOf (.type B) = pure (.type "type")
  st : Manifest.isStub B = false
  at_ : PySem.W.findCls K (.type B) (.type "type") "__init__" = some (.val (.builtin iid))
  hin : PySem.W.handedIn (.builtin iid) = true
end
end Dl
namespace Dl
open PySem L2
section
variable {X : Cx} {T : Tab} {W : WX} {x : Str} {C fI : Addr} {m k n : Nat} {fd : FuncData} {fs ps : List Str} {tl : List Value} {nid : String} {e : Expr} {es : List Expr} {p pos pos2 : Pos} {wA : WpA}
end
end Dl
namespace Dl
open PySem L2
end Dl
namespace Dl
open PySem L2
section
variable {X : Cx} {T : Tab} {W : WX} {kws : List Keyword} {pos p : Pos} {wK : WpA} {c : Ct} {cx : CtX} {k : Nat} {fd : FuncData} {ps ks : List Str} {y : Str} {C g : Addr} {fn : List Str} {cn : Nat} {gg : List Value → List Value → List Value} {gV : List V → List V → List V} {fu : List D → List D → List D}
end
end Dl
namespace Dl
open PySem L2
section
variable {X : Cx} {T : Tab} {W : WX} {C g : Addr} {fd : FuncData} {ps : List Str} {k cn : Nat} {c : Ct} {fn : List Str} {e : Expr} {w : WpE}
end
end Dl
namespace Dl
open PySem L2
section
variable {X : Cx} {T : Tab} {W : WX} {n : Nat} {x : Str} {cv : Value} {body suite : List Stmt} {b0 : Stmt} {np pos pos' : Pos} {mt : Nat → Option Bool} {wb ws : WS}
end
section
variable {X : Cx} {T : Tab} {W : WX} {o e : Expr} {wo we : WpE} {pos apos p : Pos}
theorem je_gstr {x y : Str} (hm : ∃ t, X.mg x = some (.str y t)) (hg : Gl X x := by rfl) (hd : (x == ("__debug__" : Str)) = false := by decide) : JE X T W (.Name x pos) (wCon (.str y)) := by
  obtain ⟨t, hm⟩ := hm
  exact weak (pe_glob (v := .str y) hg hm ⟨t, rfl⟩ hd) fun σ H Q ⟨ad, F, sl, cs, R, Rx, h0, hw, q, qx⟩ => q _ cs _ H ad hw .refl h0 Rep.str
end
end Dl
namespace Dl
open PySem L2
section
variable {X : Cx} {pins : List (Addr × Obj)} {σ : St} {H : Hp} {s : Shared} {T : Tab} {M : Addr → Prop}
def KeyAt (K : PySem.W.Frag) (H : Hp) (v : V) (k : NestedKey) : Prop := ∀ (X : Cx) (pins : List (Addr × Obj)) (σ : St) (s : Shared) (u : Value), X.K = K → Inv X pins σ H s → RelV v u → NestedIs s.heap k u
mutual
theorem nk_is (I : Inv X pins σ H s) : ∀ (d : D) {v : V} {u : Value} {k : NestedKey}, Rep T X.K M H v d → nkD d = some k → RelV v u → NestedIs s.heap k u
  | .int i, v, u, k, r, h, rv => by
    cases r
    obtain ⟨t, e⟩ := (show ∃ t, u = Value.int i t from rv)
    cases h
    subst e
    exact .int i t
  | .tup ds, v, u, k, r, h, rv => by
    cases r with
    | @tup a vs _ h1 h2 =>
      cases (show u = Value.ref a from rv)
      obtain ⟨its, rl, ⟨o, z1, z2, n, z3⟩, _⟩ := I.tuple h1.sq
      cases hg : nkD.go ds with
      | none =>
        have h : (nkD.go ds).map NestedKey.tup = some k := h
        rw [hg] at h
        cases h
      | some ks =>
        have h : (nkD.go ds).map NestedKey.tup = some k := h
        rw [hg] at h
        cases h
        exact .tup z1 z2 z3 (nks_is I ds h2 hg rl)
  | .non, _, _, _, _, h, _ => nomatch h
  | .bl _, _, _, _, _, h, _ => nomatch h
  | .str _, _, _, _, _, h, _ => nomatch h
  | .lst _, _, _, _, _, h, _ => nomatch h
  | .obj _ _, _, _, _, _, h, _ => nomatch h
  | .scr _, _, _, _, _, h, _ => nomatch h
  | .err _ _ _ _, _, _, _, _, h, _ => nomatch h
  | .cls _, _, _, _, _, h, _ => nomatch h
  | .dct _ _, _, _, _, _, h, _ => nomatch h
  | .fn _, _, _, _, _, h, _ => nomatch h
  | .dcn _ _, _, _, _, _, h, _ => nomatch h
theorem nks_is (I : Inv X pins σ H s) : ∀ (ds : List D) {vs : List V} {us : List Value} {ks : List NestedKey}, Reps T X.K M H vs ds → nkD.go ds = some ks → Vals vs us → NestedAll s.heap ks us
  | [], vs, us, ks, r, h, rv => by
    cases r
    cases h
    cases rv
    exact .nil
  | d :: ds, vs, us, ks, r, h, rv => by
    cases r with
    | cons r1 r2 =>
      cases rv with
      | cons v1 v2 =>
        cases h1 : nkD d with
        | none => simp [nkD.go, h1] at h
        | some k =>
          cases h2 : nkD.go ds with
          | none => simp [nkD.go, h1, h2] at h
          | some l =>
            simp [nkD.go, h1, h2] at h
            subst h
            exact .cons (nk_is I d r1 h1 v1) (nks_is I ds r2 h2 v2)
end
theorem KeyAt.of {K : PySem.W.Frag} {v : V} {d : D} {k : NestedKey} (r : Rep T K M H v d) (h : nkD d = some k) : KeyAt K H v k := fun X pins σ s u e I rv => by
  subst e
  exact nk_is I d r h rv
end
section
variable {X : Cx} {pins : List (Addr × Obj)} {σ : St} {H : Hp} {s : Shared} {a b : Addr} {o : Obj} {xs : List (NestedKey × Addr × Value)} {k : NestedKey}
abbrev KeysAt (K : PySem.W.Frag) (H : Hp) (xs : List (NestedKey × Addr × Value)) : Prop := ∀ x ∈ xs, KeyAt K H (.ref x.2.1) x.1
end
section
variable {X : Cx} {e f o : Expr} {pos apos cpos : Pos} {td ty tx : TE}
end
end Dl
namespace Dl
open PySem L2
section
variable {X : Cx} {kx vx tg iter : Expr} {ifs : List Expr} {scope : Scope} {own : List (Str × Nat)} {pos : Pos} {wi : TI} {g : TG} {tt : TT} {tk tv : TE}
end
end Dl
namespace Dl
open PySem L2
def getN (kds : List (D × D)) (k : NestedKey) : Option D := (kds.find? fun p => decide (nkD p.1 = some k)).map (·.2)
def putN (kds : List (D × D)) (k : NestedKey) (kd d : D) : List (D × D) := if (kds.any fun p => decide (nkD p.1 = some k)) = true then kds.map (fun p => if nkD p.1 = some k then (p.1, d) else p) else kds ++ [(kd, d)]
section
variable {T : Tab} {K : PySem.W.Frag} {M M' : Addr → Prop} {H H' : Hp} {a b : Addr} {o : Obj} {kds : List (D × D)} {xs : List (NestedKey × Addr × Value)} {k : NestedKey} {v : V} {u : Value} {d kd : D}
abbrev NR1 (T : Tab) (K : PySem.W.Frag) (M : Addr → Prop) (H : Hp) (p : D × D) (x : NestedKey × Addr × Value) : Prop := Rep T K M H (.ref x.2.1) p.1 ∧ nkD p.1 = some x.1 ∧ ∃ v, RelV v x.2.2 ∧ Rep T K M H v p.2
abbrev NR (T : Tab) (K : PySem.W.Frag) (M : Addr → Prop) (H : Hp) : List (D × D) → List (NestedKey × Addr × Value) → Prop := Paired (NR1 T K M H)
theorem NR.kp (x : Kp M H M' H') (h : NR T K M H kds xs) : NR T K M' H' kds xs := by
  induction h with
  | nil => exact .nil
  | cons h t ih => exact .cons ⟨h.1.kp x, h.2.1, h.2.2.elim fun v z => ⟨v, z.1, z.2.kp x⟩⟩ ih
theorem NR.of : ∀ {xs : List (NestedKey × Addr × Value)} {kds : List (D × D)} {vs : List V}, Reps T K M H (xs.map fun x => V.ref x.2.1) (kds.map (·.1)) → (kds.map (·.1)).map nkD = xs.map (fun x => some x.1) → Vals vs (xs.map fun x => x.2.2) → Reps T K M H vs (kds.map (·.2)) → NR T K M H kds xs
  | [], [], _, _, _, _, _ => .nil
  | [], _ :: _, _, h, _, _, _ => by cases h
  | _ :: _, [], _, h, _, _, _ => by cases h
  | x :: xs, p :: kds, vs, h1, h2, h3, h4 => by
    cases h1 with
    | cons a1 a2 =>
      cases h3 with
      | cons b1 b2 =>
        cases h4 with
        | cons c1 c2 =>
          rw [List.map_cons, List.map_cons, List.map_cons] at h2
          injection h2 with e1 e2
          exact .cons ⟨a1, e1, _, b1, c1⟩ (NR.of a2 e2 b2 c2)
theorem NR.to : ∀ {xs : List (NestedKey × Addr × Value)} {kds : List (D × D)}, NR T K M H kds xs → Reps T K M H (xs.map fun x => V.ref x.2.1) (kds.map (·.1)) ∧ (kds.map (·.1)).map nkD = xs.map (fun x => some x.1) ∧ ∃ vs, Vals vs (xs.map fun x => x.2.2) ∧ Reps T K M H vs (kds.map (·.2)) := fun {xs kds} h => by
  induction h with
  | nil => exact ⟨.nil, rfl, [], .nil, .nil⟩
  | cons h t ih =>
    obtain ⟨i1, i2, vs, i3, i4⟩ := ih
    obtain ⟨h1, h2, v, h3, h4⟩ := h
    exact ⟨.cons h1 i1, by rw [List.map_cons, List.map_cons, List.map_cons, h2, i2], v :: vs, .cons h3 i3, .cons h4 i4⟩
theorem NR.keys (h : NR T K M H kds xs) : KeysAt K H xs := by
  induction h with
  | nil => exact fun _ z => nomatch z
  | cons h t ih =>
    intro x hx
    rcases List.mem_cons.mp hx with e | hx
    · rw [e]; exact KeyAt.of h.1 h.2.1
    · exact ih x hx
theorem NR.any (h : NR T K M H kds xs) : (kds.any fun p => decide (nkD p.1 = some k)) = (atKey xs k).isSome := by
  induction h with
  | nil => rfl
  | @cons p x ps xs h t ih =>
    by_cases e : x.1 = k
    · simp [atKey, h.2.1, e]
    · simpa [atKey, h.2.1, e] using ih
theorem NR.get (h : NR T K M H kds xs) : (getN kds k = none → atKey xs k = none) ∧ ∀ d, getN kds k = some d → ∃ b u v, atKey xs k = some (b, u) ∧ RelV v u ∧ Rep T K M H v d := by
  induction h with
  | nil => exact ⟨fun _ => rfl, fun d z => nomatch z⟩
  | @cons p x ps xs h t ih =>
    by_cases e : x.1 = k
    · have g : getN (p :: ps) k = some p.2 := by simp [getN, h.2.1, e]
      have g2 : atKey (x :: xs) k = some x.2 := by simp [atKey, e]
      rw [g, g2]
      obtain ⟨_, _, v, h3, h4⟩ := h
      exact ⟨(fun z => nomatch z), fun d z => by cases z; exact ⟨_, _, v, rfl, h3, h4⟩⟩
    · have g : getN (p :: ps) k = getN ps k := by simp [getN, h.2.1, e]
      have g2 : atKey (x :: xs) k = atKey xs k := by simp [atKey, e]
      rw [g, g2]
      exact ih
theorem NR.put (h : NR T K M H kds xs) (rk : Rep T K M H (.ref b) kd) (hk : nkD kd = some k) (rv : RelV v u) (rd : Rep T K M H v d) : NR T K M H (putN kds k kd d) (storedH xs k b u) := by
  unfold putN storedH
  rw [h.any]
  split
  · induction h with
    | nil => exact .nil
    | @cons p x ps xs h t ih =>
      rw [List.map_cons, List.map_cons]
      rename_i hs
      have rest : NR T K M H (ps.map fun p => if nkD p.1 = some k then (p.1, d) else p) (xs.map (putAt k u)) := by
        clear ih hs h
        induction t with
        | nil => exact .nil
        | @cons p x ps xs h t ih =>
          rw [List.map_cons, List.map_cons]
          refine .cons ?_ ih
          unfold putAt
          by_cases e : x.1 = k
          · rw [if_pos e, if_pos (by rw [h.2.1, e])]; exact ⟨h.1, h.2.1, v, rv, rd⟩
          · rw [if_neg e, if_neg (by rw [h.2.1]; exact fun z => e (Option.some.inj z))]; exact h
      refine .cons ?_ rest
      unfold putAt
      by_cases e : x.1 = k
      · rw [if_pos e, if_pos (by rw [h.2.1, e])]; exact ⟨h.1, h.2.1, v, rv, rd⟩
      · rw [if_neg e, if_neg (by rw [h.2.1]; exact fun z => e (Option.some.inj z))]; exact h
  · exact Paired.snoc h ⟨rk, hk, v, rv, rd⟩
theorem NR.len (h : NR T K M H kds xs) : kds.length = xs.length := Paired.length h
end
section
variable {X : Cx} {T : Tab} {W : WX} {n : Nat} {e o i f ix : Expr} {pos p' apos cpos : Pos} {we wo wi wx wf : WpE}
end
section
variable {T : Tab} {K : PySem.W.Frag} {F : Addr → Prop} {ad : List Addr} {H : Hp} {a : Addr} {o od : Obj} {xs : List (NestedKey × Addr × Value)} {vs : List V} {ks ds : List D}
end
section
variable {X : Cx} {T : Tab} {W : WX} {e : Expr} {w : WpE} {elts : List Expr} {kk : Nat} {tpos apos cpos : Pos}
end
end Dl
namespace Dl
open PySem L2
section
variable {T : Tab} {K : PySem.W.Frag} {W : WX} {p : Pat} {wi : WpI} {wt : WpT} {wk wv : WpE} {own : List Nat}
end
section
variable {X : Cx} {T : Tab} {W : WX} {n : Nat} {kx vx tg iter : Expr} {ifs : List Expr} {scope : Scope} {own : List (Str × Nat)} {p : Pat} {wi : WpI} {wt : WpT} {wk wv : WpE} {pos : Pos} {y : Str}
structure JDCN (X : Cx) (T : Tab) (W : WX) (kx vx tg iter : Expr) (ifs : List Expr) (scope : Scope) (own : List (Str × Nat)) (wi : WpI) (p : Pat) (wt : WpT) (wk wv : WpE) : Prop where
  hi : JI X T W tg iter wi
  ok : BlkOk X.N X.env.scope scope own
  hg : InB X scope fun X' => DG X' T tg p
  ht : InB X scope fun X' => JTs X' T W0 ifs wt
  hk : InB X scope fun X' => JE X' T W0 kx wk
  he : InB X scope fun X' => JE X' T W0 vx wv
  hp : ∀ i ∈ slotsP p, i ∈ own.map (·.2)
end
section
variable {X : Cx} {T : Tab} {W : WX} {n : Nat}
end
end Dl
namespace Dl
open PySem L2
section
variable {X : Cx} {T : Tab} {W : WX} {e : Expr} {we : WpE} {pos p : Pos} {c : Ct} {k : Nat} {fd : FuncData} {ps : List Str} {y : Str} {C g : Addr} {fn : List Str} {cn : Nat}
end
end Dl
namespace Dl
open PySem L2
def lkS (kds : List (Str × D)) (x : Str) : Option D := (kds.find? fun p => decide (p.1 = x)).map (·.2)
def StD (K : PySem.W.Frag) (v : V) (d : D) : Prop := ∀ T M H, Rep T K M H v d
structure KD (K : PySem.W.Frag) (w : World) (a : Addr) (kds : List (Str × D)) : Prop where
  dict : ∃ es n, KDict K w a es n
  vals : ∀ x, (∀ d, lkS kds x = some d → ∃ u v, PySem.W.nsIn K a x = some (some u) ∧ RelV v u ∧ StD K v d) ∧ (lkS kds x = none → PySem.W.nsIn K a x = some none)
section
variable {X : Cx} {T : Tab} {W : WX} {o e f : Expr} {wo we wf : WpE} {pos p apos cpos : Pos} {y : Str} {a : Addr} {kds : List (Str × D)} {es : Array DictEntry} {n : Nat}
end
inductive JDs (X : Cx) (T : Tab) (W : WX) : List Str → List (Option Expr) → List Expr → WpA → Prop where
  | nil : JDs X T W [] [] [] wNil
  | cons {x : Str} {k : Nat} {pos : Pos} {e : Expr} {we : WpE} {xs : List Str} {ks : List (Option Expr)} {es : List Expr} {wA : WpA} : JE X T W e we → JDs X T W xs ks es wA → JDs X T W (x :: xs) (some (.Constant (.str x) k pos) :: ks) (e :: es) (wCons we wA)
theorem JDs.len {X : Cx} {T : Tab} {W : WX} {xs : List Str} {ks : List (Option Expr)} {es : List Expr} {wA : WpA} (h : JDs X T W xs ks es wA) : ks.length = es.length ∧ ks.all (·.isSome) = true ∧ ks.length = xs.length := by
  induction h with
  | nil => exact ⟨rfl, rfl, rfl⟩
  | cons he hr ih => exact ⟨by rw [List.length_cons, List.length_cons, ih.1], by rw [List.all_cons, ih.2.1]; rfl, by rw [List.length_cons, List.length_cons, ih.2.2]⟩
section
variable {X : Cx} {T : Tab} {W : WX} {pos : Pos} {xs : List Str} {ks : List (Option Expr)} {es : List Expr} {wA : WpA}
end
end Dl
namespace Dl
open PySem L2
section
open PySem.SeqAt
open MeetsSeq MeetsSeq2 MeetsSeq3 SeqRoads2
variable {prog : Program} {w : World} {A : Around} {R : Result → Shared → Prop}
variable {E : Value → Shared → Prop} {s : Shared}
end
inductive EqL (E : D → D → Bool → Prop) : List D → List D → Bool → Prop where
  | nil : EqL E [] [] true
  | nilc {y : D} {ys : List D} : EqL E [] (y :: ys) false
  | cnil {x : D} {xs : List D} : EqL E (x :: xs) [] false
  | ne {x y : D} {xs ys : List D} : E x y false → EqL E (x :: xs) (y :: ys) false
  | cons {x y : D} {xs ys : List D} {b : Bool} : E x y true → EqL E xs ys b → EqL E (x :: xs) (y :: ys) b
section
variable {X : Cx} {T : Tab} {C g : Addr} {fd : FuncData} {ps : List Str} {k n m : Nat} {c : Ct} {fn : List Str} {E : D → D → Bool → Prop}
end
end Dl
namespace L2
open PySem PySem.Spec PyProof.Rows
section
variable {X : Cx} {x n : Str} {c : Value} {i : Nat} {body suite rest : List Stmt} {b₀ : Stmt} {np pos pos' : Pos} {tb : WX → TS} {ts t1 : Addr → Value → Option Addr → TS} {t0 : TS} {Wout : WX} {pins : List (Addr × Obj)} {σ : St} {H : Hp} {s : Shared}
end
end L2
namespace Dl
open PySem L2
section
variable {X : Cx} {T : Tab} {W : WX} {n : Nat} {x y : Str} {cv : Value} {body suite rest : List Stmt} {b0 : Stmt} {np pos pos' : Pos} {mt : Nat → Option Bool} {i : Nat} {wb wr : WS} {ws wx : Nat → Addr → Option Addr → WS}
end
section
variable {X : Cx} {T : Tab} {W : WX} {a C Ce : Addr} {oe : Obj} {d : Option Addr} {e e2 : Expr} {es : List Expr} {pos p p2 tp : Pos} {m kk : Nat} {fn : List Str} {w w2 : WpE} {f x : Str} {Cs : List Addr} {kb : Option Bool}
end
section
variable {X : Cx} {T : Tab} {W : WX} {e : Expr} {we : WpE}
end
end Dl
namespace Dl
open PySem L2
section
variable {X : Cx} {T : Tab} {cs : List Cell} {s1 : Sl} {ds : List D} {w2 : W2}
end
end Dl
namespace Dl
open PySem L2
section
variable {X : Cx} {T : Tab} {W : WX} {e e2 : Expr} {wA : WpA} {pos p tpos : Pos} {elts : List Expr} {kk : Nat}
end
end Dl
namespace Dl
open PySem L2
section
open PySem.SeqAt
open MeetsSeq MeetsSeq2 MeetsSeq3 SeqRoads2
end
section
open PySem.Spec PyProof.Rows
variable {X : Cx}
end
section
variable {X : Cx} {T : Tab} {W : WX} {o e : Expr} {wo we : WpE} {pos apos : Pos}
end
end Dl
namespace Dl
open PySem L2 PySem.Spec
open PyProof.Rows hiding St
abbrev Hdl := Value × Option Nat × (Addr → Value → Option Addr → TS)
inductive HdsM (X : Cx) : List ExceptHandler → List Hdl → Prop
  | nil : HdsM X [] []
  | anon {x : Str} {c : Value} {ts : Addr → Value → Option Addr → TS} {b₀ : Stmt} {suite : List Stmt} {np pos' : Pos} {hds : List ExceptHandler} {l : List Hdl} (hc : Names X x c)
      (hsu : ∀ (a : Addr) (oe : Obj) (cls : Value) (d : Option Addr) (pn : List (Addr × Obj)), Zc cls d oe → (∃ vs, oe.data = .fields vs) → PSs (X.suite a ((a, oe) :: pn)) (b₀ :: suite) (ts a cls d)) (r : HdsM X hds l) :
      HdsM X (.ExceptHandler (some (.Name x np)) none (b₀ :: suite) pos' :: hds) ((c, none, ts) :: l)
  | named {x n : Str} {i : Nat} {c : Value} {ts : Addr → Value → Option Addr → TS} {b₀ : Stmt} {suite : List Stmt} {np pos' : Pos} {hds : List ExceptHandler} {l : List Hdl} (hc : Names X x c) (hi : X.N[i]? = some n) (hln : X.env.kindOf n = some .local)
      (hsu : ∀ (a : Addr) (oe : Obj) (cls : Value) (d : Option Addr) (pn : List (Addr × Obj)), Zc cls d oe → (∃ vs, oe.data = .fields vs) → PSs (X.suite a ((a, oe) :: pn)) (b₀ :: suite) (ts a cls d)) (r : HdsM X hds l) :
      HdsM X (.ExceptHandler (some (.Name x np)) (some n) (b₀ :: suite) pos' :: hds) ((c, some i, ts) :: l)
section
variable {X : Cx} {body : List Stmt} {h₀ : ExceptHandler} {hds : List ExceptHandler} {l : List Hdl} {pos : Pos} {tb : WX → TS} {Wout : WX}
end
abbrev HdW := (Nat → Option Bool) × Option Nat × (Nat → Addr → Option Addr → WS)
inductive HdsJ (X : Cx) (T : Tab) (n : Nat) : List ExceptHandler → List HdW → Prop
  | nil : HdsJ X T n [] []
  | anon {x : Str} {cv : Value} {mt : Nat → Option Bool} {ws : Nat → Addr → Option Addr → WS} {b0 : Stmt} {suite : List Stmt} {np pos' : Pos} {hds : List ExceptHandler} {l : List HdW} (hc : Names X x cv)
      (hmt : ∀ m b, mt m = some b → ∀ C fn, T m = some (C, fn) → PySem.W.exmOne X.K (.ref C) cv = some b)
      (hsu : ∀ (m : Nat) (a : Addr) (oe : Obj) (d : Option Addr) (C : Addr) (fn : List Str) (pn : List (Addr × Obj)), mt m = some true → T m = some (C, fn) → Zc (.ref C) d oe → (∃ vs, oe.data = .fields vs) → JSs (X.suite a ((a, oe) :: pn)) T W0 n (b0 :: suite) (ws m a d)) (r : HdsJ X T n hds l) :
      HdsJ X T n (.ExceptHandler (some (.Name x np)) none (b0 :: suite) pos' :: hds) ((mt, none, ws) :: l)
  | named {x y : Str} {i : Nat} {cv : Value} {mt : Nat → Option Bool} {ws : Nat → Addr → Option Addr → WS} {b0 : Stmt} {suite : List Stmt} {np pos' : Pos} {hds : List ExceptHandler} {l : List HdW} (hc : Names X x cv)
      (hmt : ∀ m b, mt m = some b → ∀ C fn, T m = some (C, fn) → PySem.W.exmOne X.K (.ref C) cv = some b) (hi : X.N[i]? = some y) (hln : X.env.kindOf y = some .local)
      (hsu : ∀ (m : Nat) (a : Addr) (oe : Obj) (d : Option Addr) (C : Addr) (fn : List Str) (pn : List (Addr × Obj)), mt m = some true → T m = some (C, fn) → Zc (.ref C) d oe → (∃ vs, oe.data = .fields vs) → JSs (X.suite a ((a, oe) :: pn)) T W0 n (b0 :: suite) (ws m a d)) (r : HdsJ X T n hds l) :
      HdsJ X T n (.ExceptHandler (some (.Name x np)) (some y) (b0 :: suite) pos' :: hds) ((mt, some i, ws) :: l)
section
variable {X : Cx} {T : Tab} {W : WX} {n : Nat} {body : List Stmt} {h0 : ExceptHandler} {hds : List ExceptHandler} {l : List HdW} {pos : Pos} {wb : WS}
inductive MixOf (X : Cx) (T : Tab) (n : Nat) : List HdW → List Hdl → Prop
  | nil : MixOf X T n [] []
  | cons {mt : Nat → Option Bool} {o : Option Nat} {ws : Nat → Addr → Option Addr → WS} {cv : Value} {l : List HdW} {k : List Hdl} (hmt : ∀ m b, mt m = some b → ∀ C fn, T m = some (C, fn) → PySem.W.exmOne X.K (.ref C) cv = some b) (r : MixOf X T n l k) :
      MixOf X T n ((mt, o, ws) :: l) ((cv, o, fun a cls d D σ H => ∃ m C fn S1 P1, cls = .ref C ∧ mt m = some true ∧ T m = some (C, fn) ∧ ws m a d S1 P1 ∧ tDS T X.K n S1 (P1.to W0) D σ H) :: k)
end
end Dl
namespace Dl
open PySem L2
section
variable {X : Cx} {T : Tab} {W : WX} {a b c : Expr} {pos : Pos} {wa wb wc : WpE} {op op' : CmpOp} {v1 v2 : W2}
end
section
variable {X : Cx} {CX : CXT} {T : Tab} {W : WX} {a b : Expr} {pos : Pos} {wa wb : WpE} {ta tb : TE} {C g : Addr} {fd : FuncData} {ps : List Str} {k cn : Nat} {sp : Sp} {E : St → XK} {c : Ct} {cx : CtX} {fn : List Str}
end
end Dl
namespace Dl
open PySem L2
section
open PySem.SeqAt
open AutoSeq1 (wpAny_loadPart')
open MeetsSeq MeetsSeq2 MeetsSeq3 SeqRoads2
variable {prog : Program} {w : World} {A : Around} {R : Result → Shared → Prop}
variable {E : Value → Shared → Prop} {s : Shared}
end
section
variable {X : Cx} {T : Tab} {C g : Addr} {fd : FuncData} {ps : List Str} {k n m : Nat} {c : Ct} {fn : List Str} {E : D → D → Bool → Prop}
end
end Dl
namespace Dl
open PySem L2
section
open PySem.Spec
open PyProof.Rows hiding St
end
section
variable {X : Cx} {T : Tab} {ds : List D} {cs : List Cell}
end
end Dl
namespace Dl
open PySem L2 PySem.Spec
open PyProof.Rows hiding St
section
open PySem.W
variable {prog : Program} {w : World} {A : Around} {E : Value → Shared → Prop} {s : Shared} {env : Env} {elts : List Expr} {k : Nat} {pos : Pos}
end
section
variable {X : Cx} {x y : Str} {p1 p2 p3 p4 pos : Pos} {i j k : Nat}
end
end Dl
namespace Dl
open PySem L2
section
variable {X : Cx} {T : Tab} {W : WX} {a b : Expr} {rest : List Expr} {pos : Pos} {wa wb : WpE}
end
end Dl
namespace Dl
open PySem L2
section
variable {X : Cx} {T : Tab}
end
end Dl
namespace Dl
open PySem L2
section
variable {X : Cx} {T : Tab} {W : WX} {e : Expr} {es fs : List Expr} {lp cp : Pos} {wA wB : WpA}
end
end Dl
namespace Dl
open PySem L2
section
variable {X : Cx} {T : Tab} {W : WX} {e e2 : Expr} {wA : WpA} {pos p tpos : Pos} {elts : List Expr} {kk : Nat}
end
end Dl
namespace Dl
open PySem L2
section
variable {X : Cx} {T : Tab}
variable {d : D} {ds : List D} {cs : List Cell}
def okI (d : D) (ds : List D) : Prop := (d.plain = true ∧ D.plains ds = true) ∧ d.py.plain = true ∧ PyData.plainAll (D.pys ds) = true ∧ d.py.depth ≤ 60
end
end Dl
namespace Dl
open PySem L2
section
variable {X : Cx} {T : Tab} {W : WX} {e : Expr} {wa : WpE} {pos p1 p2 p3 : Pos} {k : Nat}
end
end Dl
namespace Dl
open PySem L2
theorem heldN {B h : Heap} {l : List Env} {a L : Addr} {Z Y : Obj → Prop} (z : ∀ o, Z o → Y o) (x : HandSPX.HeldZ B l a Z L h) : HandSPX.HeldZ B l a Y L h := ⟨x.1, x.2.1, x.2.2.1, L2H.tracedZ_imp z x.2.2.2⟩
theorem skyN {B h : Heap} {l : List Env} {a L : Addr} {Z Y : Obj → Prop} (z : ∀ o, Z o → Y o) (x : Sky B l a Z L h) : Sky B l a Y L h := by
  rcases x with ⟨x1, x2, x3, oe, vs, g, hz, r⟩ | x | x
  · exact .inl ⟨x1, x2, x3, oe, vs, g, z _ hz, r⟩
  · exact .inr (.inl (L2H.flyingZ_imp z x))
  · exact .inr (.inr (heldN z x))
theorem tkn {X : Cx} {W : WX} (tk : Takes X W) : L2N.Takes X W := fun u s' ⟨a, B, sI, pins, σ, H, cls, d, e, I, nb, up, sky, r⟩ => tk u s' ⟨a, B, sI, pins, σ, H, cls, d, e, I, nb, up, skyN (fun _ y => y.zc) sky, r⟩
theorem tkn0 {X : Cx} : L2N.Takes X W0 := tkn tk0
abbrev cxXN (P : Program) (w : World) (K : PySem.W.Frag) (mg : Str → Option Value) (base : Heap) (N : List Str) (qual : Str) (st : Stmt) (f : Addr) (cdv : Value) (A : Around) (outer : List Env) (s : Shared) (H : Hp) (E : XK) : Cx := cxOf (L2N.CX P w) P w K mg base N qual (defScope st) f cdv A outer s H E
section
variable {T : Tab} {P : Program} {w : World} {K : PySem.W.Frag} {mg : Str → Option Value} {base : Heap} {x qual : Str} {st : Stmt} {f : Addr} {fd : FuncData} {N ps : List Str} {k : Nat} {ws : Nat → WS} {c : Ct} {cx : CtX}
def BodyN (T : Tab) (P : Program) (w : World) (K : PySem.W.Frag) (mg : Str → Option Value) (base : Heap) (N : List Str) (qual : Str) (st : Stmt) (f : Addr) (k : Nat) (ws : Nat → WS) : Prop :=
  (∀ cdv A outer sh H E, Room k (cxXN P w K mg base N qual st f cdv A outer sh H E).nox.A → ∀ n, JSs (cxXN P w K mg base N qual st f cdv A outer sh H E).nox T W0 n (defBody st) (ws n)) ∧
  (∀ cdv A outer sh H E, Room k (cxXN P w K mg base N qual st f cdv A outer sh H E).A → L2N.Takes (cxXN P w K mg base N qual st f cdv A outer sh H E) (fun cls d _ H => E cls d H) → ∀ n, JSs (cxXN P w K mg base N qual st f cdv A outer sh H E) T (fun cls d _ H => E cls d H) n (defBody st) (ws n))
theorem body_goN (b : BodyN T P w K mg base N qual st f k ws) {cdv : Value} {A : Around} {outer : List Env} {s : Shared} {H : Hp} {vs : List V} {Q : VK} {E : XK} (hr : Room k (A.deeper (PyProof.Rows.envOfC qual (defScope st) s.heap.objs.size f cdv))) (h : spX T K (ctOf N ps ws) (ctXOf N ps ws) vs H Q E) :
    ∃ t, PSs (cxXN P w K mg base N qual st f cdv A outer s H E) (defBody st) t ∧ t { nx := fun _ H' => Q .non H', rt := Q } (start N vs) H := by
  have cut : ∀ {ad ad' : List Addr} {F : Addr → Prop} {H' : Hp} {n : Nat}, ExtS n ad F H ad' H' → ExtS n ad F H (ad'.take n) H' := fun {ad ad' F H' n} y =>
    ⟨by rw [List.take_take, Nat.min_self]; exact y.pre, fun a m => y.sub a (List.mem_of_mem_take m), y.keep, y.frm⟩
  rcases h with ⟨ad, F, args, cs, s0, cs', hc, r, h, q⟩ | ⟨ad, F, args, cs, x0, cs', hc, r, h, q⟩
  · refine ⟨_, PSs.nox (b.1 cdv A outer s H E hr cs.length _ (endJ cs.length s0 cs') h.2), ad, F, Nat.le_of_eq hc.ln.symm, start_hold hc r, fun S' σ' H' ad' y hn h' e => ?_, fun s2 cs2 v H' ad' y hn c2 r2 e => ?_, fun _ _ _ _ _ _ _ z => z.elim, fun _ _ _ _ _ _ _ z => z.elim, fun _ _ _ _ _ _ _ _ _ _ _ z => z.elim⟩
    · obtain ⟨e1, e2⟩ := e
      rw [← e2] at q
      rw [e1] at q
      exact q .non H' (ad'.take cs.length) (cut y) (by rw [List.length_take]; omega) (h'.hc.take _) Rep.non
    · obtain ⟨e1, e2⟩ := e
      rw [← e2, ← e1] at q
      exact q v H' ad' y hn c2 r2
  · refine ⟨_, b.2 cdv A outer s H E hr (L2N.takes_of rfl rfl rfl rfl) cs.length _ (endJX cs.length x0 cs') h.2, ad, F, Nat.le_of_eq hc.ln.symm, start_hold hc r, fun _ _ _ _ _ _ _ z => z.elim, fun _ _ _ _ _ _ _ _ _ z => z.elim, fun _ _ _ _ _ _ _ z => z.elim, fun _ _ _ _ _ _ _ z => z.elim, fun y S' cls d σ' H' ad' z hn h' er e => ?_⟩
    obtain ⟨e1, e2⟩ := e
    rw [← e2, ← e1] at q
    have lost : Kp (Mm ad' F) H' (Mm (ad'.take cs.length) F) H' := fun a o e z => ⟨e, fun m => z (m.imp List.mem_of_mem_take id)⟩
    refine q cls d H' (ad'.take cs.length) (cut z) (by rw [List.length_take]; omega) (h'.hc.take _) ?_
    obtain ⟨C, fn, t1, t2, er⟩ := er
    exact ⟨C, fn, t1, t2, er.imp id fun ⟨dd, vs', a1, a2, a3, a4, a5⟩ => ⟨dd, vs', a1, (lost _ _ a3 a2).2, a3, a4, a5.kp lost⟩⟩
theorem lenN {vs : List V} {H : Hp} {Q : VK} {E : XK} (h : spX T K (ctOf N ps ws) (ctXOf N ps ws) vs H Q E) : vs.length = ps.length := by
  rcases h with ⟨_, _, _, _, _, _, _, r, h, _⟩ | ⟨_, _, _, _, _, _, _, r, h, _⟩
  · exact r.len.trans h.1
  · exact r.len.trans h.1
theorem fn_JXN (F : Fun K x qual st f fd) (Sc : FnScope N ps (defScope st)) (b : BodyN T P w K mg base N qual st f k ws) : FnOk P w K mg base (L2N.CX P w) (k + 1) f fd ps (spX T K (ctOf N ps ws) (ctXOf N ps ws)) := by
  obtain ⟨_, _, _, _, _, _, _, _, _, e, lk, cd⟩ := F.ex
  rw [e] at lk ⊢
  exact fn_of lk cd Sc (fun _ _ _ _ h => lenN h) fun A outer s H vs Q E hr h => body_goN b hr h
theorem fn_JXDN {dvs : List V} {kws : List (Str × V)} (F : FunD K x qual (defArgs st) (defBody st) (defScope st) dvs kws f fd) (Sc : FnScope N ps (defScope st)) (b : BodyN T P w K mg base N qual st f k ws) : FnOk P w K mg base (L2N.CX P w) (k + 1) f fd ps (spX T K (ctOf N ps ws) (ctXOf N ps ws)) :=
  F.ok Sc (fun _ _ _ _ h => lenN h) fun cdv A outer s H vs Q E hr h => body_goN b hr h
end
section
variable {X : Cx} {T : Tab} {W : WX} {e : Expr} {es : List Expr} {kws : List Keyword} {pos p : Pos} {wA wK : WpA} {c : Ct} {cx : CtX} {k pn : Nat} {f : Addr} {fd : FuncData} {ps ks : List Str} {y : Str} {C g : Addr} {fn : List Str} {cn : Nat} {gV : List V → List V → List V} {fu : List D → List D → List D}
theorem je_callXN (hx : ∀ σ, PassesAt (L2N.CX X.prog X.w) X σ (WE W σ)) (G : FnOk X.prog X.w X.K X.mg X.base (L2N.CX X.prog X.w) k f fd ps (spX T X.K c cx)) (hr : Room k X.A) (hm : X.mg y = some (.ref f)) (hk : PySem.W.keepIn X.K (.ref f) = true) (hb : Binds X.K fd ps []) (ha : JA X T W (e :: es) wA) (hg : Gl X y := by rfl) (hdb : (y == ("__debug__" : Str)) = false := by decide)
    (he : starEach (e :: es) X.env = (false, eval e X.env) :: starEach es X.env := by rfl) (hpl : (backTo pos (starEach es X.env)).any (·.1) = false := by rfl) : JE X T W (.Call (.Name y p) (e :: es) [] pos) (wFnX c cx wA) :=
  weak (pe_callS (E := WE W) G hr hg hm hk hb hx ha hdb he hpl) fun σ H Q ⟨ad, F, sl, cs, R, Rx, h0, hw, q, qx⟩ => ⟨ad, F, sl, cs, _, Rx, h0, hw, fun ss c1 vs H1 ad1 hw1 x1 h1 r1 =>
    callXW_then h1.hc r1 hw1 (fun s c' v H' ad' hR x2 k2 r2 => q s c' v H' ad' hR (x1.trans h1.hc x2) (h1.to x2 k2) r2) (fun x c' cls d H' ad' hR x2 k2 er => qx x c' cls d H' ad' hR (x1.trans h1.hc x2) (h1.to x2 k2) er), qx⟩
theorem je_makeKXN (tk : L2N.Takes X W) (hT : T cn = some (C, fn)) (M : Mk X.K C g) (G : FnOk X.prog X.w X.K X.mg X.base (L2N.CX X.prog X.w) k g fd ps (spX T X.K c cx)) (hr : Room (k + 1) X.A) (hm : X.mg y = some (.ref C)) (hb : ∃ gg, KBn X.K fd ps (pn + 1) ks gg gV)
    (hp : ∀ vs zs : List D, vs.length = pn → zs.length = ks.length → Put X.K gV vs zs (fu vs zs))
    (ha : JA X T W (e :: es) wA) (hkw : JK X T W kws wK) (hg : Gl X y := by rfl)
    (hall : (backToKw pos (keywordEach kws X.env)).all (·.1.isSome) = true := by rfl) (hks : (backToKw pos (keywordEach kws X.env)).filterMap (·.1) = ks := by rfl) (hdb : (y == ("__debug__" : Str)) = false := by decide)
    (he : starEach (e :: es) X.env = (false, eval e X.env) :: starEach es X.env := by rfl) (hpl : ((backTo pos (starEach (e :: es) X.env)).any (·.1) || (backToKw pos (keywordEach kws X.env)).any (·.1.isNone)) = false := by rfl) :
    JE X T W (.Call (.Name y p) (e :: es) kws pos) (wMakeKX cn fn c cx pn ks.length fu wA wK) := by
  obtain ⟨gg, hb⟩ := hb
  refine weak (pe_mkS (E := WE W) M G hr hg hm hb (L2N.passAt tk) ha hkw hall hks hdb he hpl) fun σ H Q ⟨ad, F, sl, cs, R, Rx, h0, hw, q, qx⟩ => ⟨ad, F, sl, cs, _, Rx, h0, hw, fun ss c1 ws H1 ad1 hw1 x1 h1 r1 => ?_, qx⟩
  have hw1' := wDats_of hw1
  clear hw1
  obtain ⟨args, e0, hw1⟩ := hw1'
  subst e0
  refine ⟨ad1, F, sl, c1, _, Rx, h1, hw1, fun zz c2 zs H2 ad2 hw2 x2 h2 r2 => ?_, qx.on x1 h1⟩
  obtain ⟨kargs, rfl, l1, l2, hw2⟩ := wDats_of hw2
  have w1 := r1.dats
  have w2 := r2.dats
  have x12 := x1.trans h1.hc x2
  refine ⟨by rw [w1.length]; exact l1, by rw [w2.length]; exact l2, fun a b ha hb ne => ?_⟩
  obtain ⟨us, e1, e2⟩ := hp args kargs l1 l2 (.ref a) ws zs w1.length w2.length
  rw [e1]
  have rr := e2 _ _ _ (w1.kp x2.kp) w2
  rcases hw2 with ⟨ds, hq, hl, hR⟩ | ⟨x, c3, hq, hR⟩
  · exact .inl (mk_then hT h2.hc rr ha hb ne hq hl fun H' x3 c3 r3 => q _ c2 (.ref a) H' ad2 hR (x12.trans h2.hc x3) (h2.to x3 c3) r3)
  · exact mkX_then hT h2.hc rr ha hb ne hq fun cls d H' x3 c4 er => qx x c2 cls d H' ad2 hR (x12.trans h2.hc x3) (h2.to x3 c4) er
end
theorem tabs_one {H : Hp} {a dx : Addr} {C : Addr} {fs : List (Str × V)} (na : H a = none) : upd (del (upd (upd (upd H a (exo a C none)) dx (exd dx fs)) a (exo a C (some dx))) a) dx (.xd fs) = upd H dx (.xd fs) := by
  funext b
  by_cases e : b = dx
  · rw [e, upd_same, upd_same]
  · rw [upd_ne e, upd_ne e]
    by_cases z : b = a
    · rw [z, del_same, na]
    · rw [del_ne z, upd_ne z, upd_ne e, upd_ne z]
section
variable {X : Cx} {C fI : Addr} {k : Nat} {fd : FuncData} {f g : Str} {pins : List (Addr × Obj)} {σ : St} {H : Hp} {s : Shared} {Q : XK} {u : Value} {v : V}
theorem call_one (oc : OexC X.K C) (iC : PySem.W.findIn X.K (.ref C) "__init__" = some (some (.ref fI))) (tI : PySem.W.typeIn X.K (.ref fI) = some (.type "function")) (F1 : FnOk X.prog X.w X.K X.mg X.base CX0 k fI fd ["self", g] (spE1 C f)) (hr : Room (k + 1) X.A) (hb : Binds X.K fd ["self", g] [])
    (I : Inv X pins σ H s) (r : RelV v u) (q : ∀ dx, H dx = none → Q (.ref C) (some dx) (upd H dx (.xd [(f, v)]))) : wpAny (model X.prog X.w) X.A (call (.ref C) [u]) (L2N.MkP X pins σ Q) X.xe s := by
  obtain ⟨_, _, _, _, bm, _, _, _, _, _, _, _, _, _, _, isC, basesC⟩ := oc.cls
  obtain ⟨h0, ge, dr, tk, os⟩ := s
  have old : ∀ b o, h0.get? b = some o → ((h0.push (PySem.W.kdv_tup [u])).push (PySem.HandSPX.excO C h0.objs.size)).get? b = some o := fun b o z => Heap.get?_push_of_some _ (Heap.get?_push_of_some _ z)
  have new : ((h0.push (PySem.W.kdv_tup [u])).push (PySem.HandSPX.excO C h0.objs.size)).get? (h0.objs.size + 1) = some (PySem.HandSPX.excO C h0.objs.size) := by heap_get
  have free : H (h0.objs.size + 1) = none := I.hok.fresh (Nat.le_succ _)
  have J := I.laid (t' := tk) (o := exo (h0.objs.size + 1) C none) old (Nat.le_succ _) (exo_ok new)
  have b2 := hb _ [.ref (h0.objs.size + 1), u] J.kIn rfl
  rw [List.append_nil] at b2
  have run := F1.run (X.A.under (.builtin "type.__call__" ⟨[.ref C, u], []⟩)) X.stack _ _ ⟨[.ref (h0.objs.size + 1), u], []⟩ [.ref (h0.objs.size + 1), u] [.ref (h0.objs.size + 1), v]
    (fun z H2 => z = .non ∧ ∃ dx, H dx = none ∧ dx ≠ h0.objs.size + 1 ∧ H2 = upd (upd (upd H (h0.objs.size + 1) (exo (h0.objs.size + 1) C none)) dx (exd dx [(f, v)])) (h0.objs.size + 1) (exo (h0.objs.size + 1) C (some dx)))
    (fun _ _ _ => False) (hr.make C [u] []) (J.env0.make C [u] []) b2 (.cons rfl (.cons r .nil))
    ⟨h0.objs.size + 1, v, rfl, upd_same, fun dx n1 n2 => ⟨rfl, dx, by rw [upd_ne n2] at n1; exact n1, n2, rfl⟩⟩
  refine wpAny_call (PySem.HandSPX.call_own F.excBase_ValueError (fun Y => PySem.HandSPX.refsVE_contains Y bm basesC) (I.kIn _ _ isC) (PySem.W.looks_findIn I.kIn iC) (fun self => PySem.W.bind_fn I.kIn self tI) (by rw [sizeLine_eq]; show 1 ≤ _; omega) (codeAny_mono run fun out s' z => ?_))
  match out, z with
  | .error _, z => exact (pass0 (X := X) pins σ _ _ _ s' J z)
  | .ok (.ret w), z =>
    obtain ⟨z0, H2, eos, bare, un, hok, rw0, ⟨ez, dx, nd, ne, e2⟩⟩ := z
    subst ez
    obtain ⟨h2, ge2, dr2, tk2, os2⟩ := s'
    have atA : H2 (h0.objs.size + 1) = some (exo (h0.objs.size + 1) C (some dx)) := by rw [e2, upd_same]
    have atD : H2 dx = some (exd dx [(f, v)]) := by rw [e2, upd_ne ne, upd_same]
    obtain ⟨t0, G, inv, sub, gone, obj, nomore⟩ := mk_end0 (d2 := dr2) (t2 := tk2) I (Nat.le_succ _) old un hok eos bare atA atD nd
    rw [e2, tabs_one free] at inv nomore
    exact ⟨rw0, _, _, _, ⟨G, ge2, dr2, tk2, os2⟩, _, .ref C, some dx, rfl, inv, sub, gone, obj, ⟨rfl, rfl, fun vs e => by cases e; rfl⟩, rfl, rfl, nomore, rfl, bare, raises_own oc.exC oc.tyC, q dx nd⟩
  | .ok .next, z => exact z.elim
  | .ok .brk, z => exact z.elim
  | .ok .cont, z => exact z.elim
end
def tOneN (C : Addr) (f : Str) (te : TE) : St → Hp → XK → Prop := fun σ H Q => te σ H fun v H1 => ∀ dx, H1 dx = none → Q (.ref C) (some dx) (upd H1 dx (.xd [(f, v)]))
section
variable {X : Cx} {T : Tab} {W : WX} {n m k : Nat} {e : Expr} {te : TE} {pos pos2 p : Pos} {x f g : Str} {C fI : Addr} {fd : FuncData} {w : WpE}
theorem pmk_oneN (oc : OexC X.K C) (iC : PySem.W.findIn X.K (.ref C) "__init__" = some (some (.ref fI))) (tI : PySem.W.typeIn X.K (.ref fI) = some (.type "function")) (F1 : FnOk X.prog X.w X.K X.mg X.base CX0 k fI fd ["self", g] (spE1 C f)) (hr : Room (k + 1) X.A) (hb : Binds X.K fd ["self", g] [])
    (hg : Gl X x) (hm : X.mg x = some (.ref C)) (he : PE X e te) (hdb : (x == ("__debug__" : Str)) = false) (hs : starEach [e] X.env = (false, eval e X.env) :: starEach [] X.env) : L2N.PMk X (.Call (.Name x p) [e] [] pos) (tOneN C f te) := fun pins s σ H Q I h => by
  have args := (pa_cons he pa_nil hs).run pos pins s σ H (fun vs H1 => match vs with
    | [v] => ∀ dx, H1 dx = none → Q (.ref C) (some dx) (upd H1 dx (.xd [(f, v)]))
    | _ => False) I h
  refine wpAny_Call_Name_kw (ld_glob I hg hm (PySem.W.callWith_K (h₀ := X.base) I.ok.mod.kin oc.kC (thn args fun us s1 z => ?_) hs rfl) hdb)
  obtain ⟨vs, H1, I1, r, q⟩ := z
  match vs, us, r, q with
  | [v], [u], .cons ru .nil, q => exact ⟨I1.kIn, call_one oc iC tI F1 hr hb I1 ru q⟩
theorem tJ_mono {K : PySem.W.Frag} {σ : St} {H : Hp} {Q Q' : VK} (h : tJ T K W w σ H Q) (i : ∀ v H1, Q v H1 → Q' v H1) : tJ T K W w σ H Q' := by
  obtain ⟨ad, F, sl, cs, R, Rx, h0, hw, q, qx⟩ := h
  exact ⟨ad, F, sl, cs, R, Rx, h0, hw, fun s c v H' ad' hR x hh r => i _ _ (q s c v H' ad' hR x hh r), qx⟩
theorem one_to {P : PJ} {S : Sta} {D : Ends} {σ : St} {H : Hp} {ad : List Addr} {F : Addr → Prop} (hT : T m = some (C, [f])) (hn : n ≤ ad.length) (h0 : Hold T X.K S ad F σ H) (hw : wRaise1 m w S P)
    (q5 : ∀ y S' cls d σ' H' ad', ExtS n ad F H ad' H' → n ≤ ad'.length → Hold T X.K S' ad' F σ' H' → ExRep T X.K (Mm ad' F) H' cls d y → P.ex y S' → W cls d σ' H') :
    tOneN C f (tJ T X.K W w) σ H fun cls d H' => W cls d σ H' := by
  refine ⟨ad, F, S.sl, S.cs, _, _, h0, hw, fun s c v H1 ad1 hR x1 h1 r dx nd => ?_, raz_of hn q5⟩
  obtain ⟨d, es, hR⟩ := isDat_of hR
  subst es
  obtain ⟨hc, x2⟩ := h1.hc.newo (o := .xd [(f, v)]) nd
  exact q5 ⟨m, [d]⟩ ⟨S.sl, c⟩ (.ref C) (some dx) σ _ ad1 ((x1.trans h1.hc x2).s hn) (x1.le hn) (h1.to x2 hc) ⟨C, [f], hT, rfl, .inr ⟨dx, [v], rfl, h1.hc.new nd, upd_same, rfl, .cons (Rep.kp x2.kp r) .nil⟩⟩ hR
theorem js_raise1N (tk : L2N.Takes X W) (oc : OexC X.K C) (iC : PySem.W.findIn X.K (.ref C) "__init__" = some (some (.ref fI))) (tI : PySem.W.typeIn X.K (.ref fI) = some (.type "function")) (F1 : FnOk X.prog X.w X.K X.mg X.base CX0 k fI fd ["self", g] (spE1 C f)) (hr : Room (k + 1) X.A) (hb : Binds X.K fd ["self", g] [])
    (hm : X.mg x = some (.ref C)) (hT : T m = some (C, [f])) (he : JE X T W e w) (hc : X.calm = true := by rfl) (hg : Gl X x := by rfl) (hdb : (x == ("__debug__" : Str)) = false := by decide) (hs : starEach [e] X.env = (false, eval e X.env) :: starEach [] X.env := by rfl) :
    JS X T W n (.Raise (some (.Call (.Name x p) [e] [] pos)) none pos2) (wRaise1 m w) := fun S P h =>
  weakS (L2N.ps_raise hc tk (pmk_oneN oc iC tI F1 hr hb hg hm he hdb hs)) fun D σ H ⟨ad, F, hn, h0, _, _, _, _, q5⟩ => one_to (D := D) hT hn h0 h q5
def wTryF (mt : Nat → Option Bool) (m : Nat) (wb : WS) (w : WpE) : WS := fun S P => wb S { P with ex := fun y S' => match mt y.n with
  | some true => wRaise1 m w S' P
  | some false => P.ex y S'
  | none => False }
theorem hot_one {a : Addr} {v : V} {H1 : Hp} {Q : XK} (q : ∀ dx, H1 dx = none → Q (.ref C) (some dx) (upd H1 dx (.xd [(f, v)]))) (na : H1 a = none) : spE1 C f (.ref a :: ([v] ++ [])) (upd H1 a (exo a C none))
    (fun z H2 => z = .non ∧ ∃ (d : Addr) (fs : List (Str × V)), H2 a = some (exo a C (some d)) ∧ H2 d = some (exd d fs) ∧ H1 d = none ∧ Q (.ref C) (some d) (upd (del H2 a) d (.xd fs))) (fun _ _ _ => False) :=
  ⟨a, v, rfl, upd_same, fun dx n1 n2 => by
    rw [upd_ne n2] at n1
    exact ⟨rfl, dx, [(f, v)], upd_same, by rw [upd_ne n2, upd_same], n1, by rw [tabs_one na]; exact q dx n1⟩⟩
theorem js_tryF {y : Str} {cv : Value} {mt : Nat → Option Bool} {wb : WS} {body : List Stmt} {np pos' pos3 cpos : Pos} {j : Nat} (tk : Takes X W) (hpa : ∀ hd : Option Value, PassesOwnAt (model X.prog X.w) (X.A.mark hd) X.A X.env X.xe) (hy : Names X y cv)
    (hmt : ∀ m b, mt m = some b → ∀ C fn, T m = some (C, fn) → PySem.W.exmOne X.K (.ref C) cv = some b)
    (hbody : ∀ (V : WX) (pn : List (Addr × Obj)) (xe : Value → Shared → Prop), L2N.Takes (X.tr pn xe) V → PassesOwn (model X.prog X.w) X.A X.env xe → JSs (X.tr pn xe) T V n body wb)
    (oc : OexC X.K C) (iC : PySem.W.findIn X.K (.ref C) "__init__" = some (some (.ref fI))) (tI : PySem.W.typeIn X.K (.ref fI) = some (.type "function")) (F1 : L2H.FnH X.prog X.w X.K X.mg X.base CX0 k fI fd ["self", g] (spE1 C f)) (hr : Room (k + 1) X.A) (hb : Binds X.K fd ["self", g] [])
    (hm : X.mg x = some (.ref C)) (hT : T m = some (C, [f])) (he : ∀ (a : Addr) (pn : List (Addr × Obj)), JE (L2H.suiteX X a pn) T W e w)
    (hg : Gl X x := by rfl) (hdb : (x == ("__debug__" : Str)) = false := by decide) (hs : ∀ (a : Addr) (pn : List (Addr × Obj)), starEach [e] (L2H.suiteX X a pn).env = (false, eval e (L2H.suiteX X a pn).env) :: starEach [] (L2H.suiteX X a pn).env := by intro _ _; rfl)
    (hk : X.stack = X.env :: X.outer := by rfl) (hf : X.env.frame = some X.env.locals := by rfl) :
    JS X T W n (.Try body [.ExceptHandler (some (.Name y np)) none [.Raise (some (.Call (.Name x p) [e] [] pos)) (some (.Constant .none j cpos)) pos2] pos'] [] [] pos3) (wTryF mt m wb w) := fun S P h => by
  let ts : Addr → Value → Option Addr → TS := fun _ _ _ _ σ H => tOneN C f (tJ T X.K W w) σ H fun cls d H' => W cls d σ H'
  let tb : WX → TS := fun V D σ H => ∃ S1 P1, wb S1 P1 ∧ tDS T X.K n S1 (P1.to V) D σ H
  refine weakS (L2H.ps_try_onlyX (ts := ts) (tb := tb) hk hf hy hpa tk (fun V pn xe t _ po => ⟨fun pins s σ H D I ⟨S1, P1, h1, z⟩ => (hbody V pn xe t po S1 P1 h1).run pins s σ H D I z⟩) fun a oe cls d pn _ _ tS hot => ?_) fun D σ H ⟨ad, F, hn, h0, q1, q2, q3, q4, q5⟩ => ?_
  · have mk := L2H.pmk5_oexH (X := L2H.suiteX X a ((a, oe) :: pn)) (x := x) (p := p) (pos := pos) oc iC tI F1 (L2H.roomH_mark hr _) hot hb pass0 hg hm (pa_cons (he a ((a, oe) :: pn)) pa_nil (hs a _)) hdb (hs a _) rfl
    exact pss_one (weakS (L2H.ps_raiseHN hot tS mk) fun D σ H z => by
      refine tJ_mono (T := T) (K := X.K) z ?_
      exact fun v H1 q => ⟨by show 1 ≤ 1000; decide, fun a na => hot_one (C := C) (f := f) (v := v) (Q := fun cls d H' => W cls d σ H') q na⟩)
  · refine ⟨S, _, h, ad, F, hn, h0, q1, q2, q3, q4, fun y0 S2 cls d σ' H' ad' x' hn' h' er hx => ?_⟩
    have er' := er
    obtain ⟨C', fn', t1, t2, _⟩ := er'
    have hx : match mt y0.n with
      | some true => wRaise1 m w S2 P
      | some false => P.ex y0 S2
      | none => False := hx
    split at hx
    · rename_i hm
      exact ⟨true, by rw [t2]; exact hmt _ _ hm C' fn' t1, fun _ a na => one_to (D := D) hT hn' h' hx fun y S' cls d σ3 H3 ad3 x3 => q5 y S' cls d σ3 H3 ad3 (x'.trans x3), fun z => nomatch z⟩
    · rename_i hm
      exact ⟨false, by rw [t2]; exact hmt _ _ hm C' fn' t1, (fun z => nomatch z), fun _ => q5 y0 S2 cls d σ' H' ad' x' hn' h' er hx⟩
    · exact hx.elim
end
section
variable {P : Program} {w : World} {K : PySem.W.Frag} {mg : Str → Option Value} {base : Heap} {x qual : Str} {st : Stmt} {f : Addr} {fd : FuncData} {N ps : List Str} {k : Nat} {sp : Sp}
theorem fn_okH (F : Fun K x qual st f fd) (Sc : FnScope N ps (defScope st)) (len : ∀ vs H Q E, sp vs H Q E → vs.length = ps.length)
    (b : ∀ (cdv : Value) (A : Around) (outer : List Env) (s : Shared) (H : Hp) (vs : List V) (Q : VK) (E : XK) (q : Addr × Obj), sp vs H Q E → ∃ t, PSs (L2H.cxH CX0 P w K mg base N qual (defScope st) f cdv A outer s H E q) (defBody st) t ∧ t { nx := fun _ H' => Q .non H', rt := Q } (start N vs) H) : L2H.FnH P w K mg base CX0 (k + 1) f fd ps sp := by
  obtain ⟨_, _, _, _, _, _, _, _, _, e, lk, cd⟩ := F.ex
  rw [e] at lk ⊢
  exact L2H.fn_ofH lk cd Sc len fun A outer s H vs Q E q _ _ h => b _ A outer s H vs Q E q h
end
end Dl
namespace Dl
open PySem L2
theorem frames_less {h h' B B' : Heap} : ∀ {l : List Env}, (∀ b, B.get? b = none → B'.get? b = none) → (∀ b ∈ frs l, h'.get? b = h.get? b) → h.FunFrames B l → h'.FunFrames B' l
  | [], _, _, _ => trivial
  | e :: l, k, g, ⟨h1, ⟨L, o, h2, h3, h4, h5⟩, r⟩ => by
    have m : frs (e :: l) = L :: frs l := by unfold frs; rw [List.filterMap_cons, h2]
    rw [m] at g
    exact ⟨h1, ⟨L, o, h2, k _ h3, (g L List.mem_cons_self).trans h4, h5⟩, frames_less k (fun b z => g b (List.mem_cons_of_mem _ z)) r⟩
theorem ns_ne {h : Heap} {C a : Addr} {m : Str → Option Value} {o : Obj} {vs : Array Value} (hn : h.Ns C m) (ho : h.get? a = some o) (hd : o.data = .fields vs) : a ≠ C := fun z => by
  obtain ⟨o', es, ep, e1, e2, _⟩ := hn
  rw [z, e1] at ho
  rw [← Option.some.inj ho, e2] at hd
  cases hd
abbrev blkE (X : Cx) (s : Shared) (H : Hp) (scope : Scope) (ce : Env) (fp : List Addr) (E : Value → Shared → Prop) : Cx := (X.blk s H scope ce fp).wish E
section
variable {X : Cx} {W : WX} {pins pins' : List (Addr × Obj)} {σ σ' : St} {H3 H' : Hp} {s3 s s' : Shared} {scope : Scope} {ce : Env} {fp : List Addr} {u : Value}
theorem off_call {E : XK} (I : Inv X pins σ H' s) (c : L2N.CX X.prog X.w X.stack H' s E u s') : ∃ (a : Addr) (B : Heap) (sI : Shared) (pn : List (Addr × Obj)) (σ1 : St) (H1 : Hp) (cls : Value) (d : Option Addr), u = .ref a ∧ Inv X pn σ1 H1 sI ∧
    (∀ b o, sI.heap.get? b = some o → b ∉ frs X.stack → B.get? b = some o) ∧ sI.heap.UpToSlots s'.heap ∧ HandSPX.FlyingZ B X.stack a (L2N.Zn cls d) s'.heap ∧ H1 a = none ∧ s'.os = sI.os ∧ PyProof.Rows.AllBare s'.gens ∧ E cls d H1 := by
  obtain ⟨a, B, sI, pn, σ1, H1, cls, d, e, J, nb, up, sky, na, os, ag, w⟩ := L2N.XE.of_call (W := fun cls d _ H => E cls d H) I (fun _ _ _ h => h) c
  obtain ⟨a0, _, _, _, _, e0, f0, _⟩ := c
  obtain ⟨_, _, _, oe, vs, T, oT, ts, g1, _, g2, g3, _, _, g4, g5, g6⟩ := f0
  have ea : a = a0 := by rw [e] at e0; exact Value.ref.inj e0
  subst ea
  refine ⟨a, B, sI, pn, σ1, H1, cls, d, e, J, nb, up, ?_, na, os, ag, w⟩
  rcases sky with ⟨_, _, _, oe', vs', k1, _, k2, k3⟩ | fl | ⟨_, _, _, oe', vs', T', oT', ts', k1, _, k2, k3, _, _, k4, k5, k6⟩
  · rw [g1] at k1
    cases k1
    rw [g2] at k2
    cases k2
    rw [g3] at k3
    cases k3
  · exact fl
  · rw [g1] at k1
    cases k1
    rw [g2] at k2
    cases k2
    rw [g3] at k3
    cases k3
    rw [g4] at k4
    cases k4
    rw [g5] at k5
    cases k5
    rw [g6] at k6
    exact absurd (Option.some.inj k6) (by simp [rawInt])
theorem leaves_blk (tk : L2N.Takes X W) (hs : X.stack = X.env :: X.outer) (hf : X.env.frame = some X.env.locals) (hce : ce.frame = X.env.frame) (hC : s3.heap.objs.size ≤ ce.locals) (I3 : Inv X pins σ H3 s3) (fps : ∀ b ∈ fp, FpOk X pins H3 b)
    (I : Inv (X.blk s3 H3 scope ce fp) pins' σ' H' s) (c : L2N.CX X.prog X.w X.stack H' s (fun cls d H => W cls d σ H) u s') : notedBy (model X.prog X.w) X.A ce (CompFails (model X.prog X.w) X.A X.xe ce) u s' := by
  obtain ⟨a, B, sI, pn, σ1, H1, cls, d, eu, J, nb, up, fl, na, os, ag, w⟩ := off_call I c
  subst eu
  -- the def's state, without the block's names
  have D := I3.call' (ch := fp) J.os J.base J.hok J.bare fun b hb => ⟨(fps b hb).2.2.2.1, (fps b hb).2.1, (fps b hb).2.2.2.2.1, (fps b hb).2.2.2.2.2⟩
  obtain ⟨G, g1, g2⟩ := restrict sI.heap fun b => decide (b ≠ ce.locals)
  obtain ⟨B', b1, b2⟩ := restrict B fun b => decide (b ≠ ce.locals)
  have gk : ∀ b, b ≠ ce.locals → G.get? b = sI.heap.get? b := fun b z => g1 b (decide_eq_true z)
  have bk : ∀ b, b ≠ ce.locals → B'.get? b = B.get? b := fun b z => b1 b (decide_eq_true z)
  have gC : G.get? ce.locals = none := g2 _ (by simp)
  have bC : B'.get? ce.locals = none := b2 _ (by simp)
  have nC : H1 ce.locals = none := J.free
  have DG : Inv X pins σ H1 { sI with heap := G } := by
    obtain ⟨_, f1, f2, f3, f4, f5⟩ := I3.fpOk (H' := H1) hC nC
    exact D.turned (t' := sI.toks) (fun b o z e => (gk b z).trans e) nC f1 f3 f4 f5
  obtain ⟨m, ns, _⟩ := J.loc
  have ns : sI.heap.Ns ce.locals m := ns
  have less : ∀ b, B.get? b = none → B'.get? b = none := fun b z => by
    by_cases e : b = ce.locals
    · rw [e]; exact bC
    · rw [bk b e]; exact z
  have frN : ∀ b ∈ frs X.stack, b ≠ ce.locals := fun b z e => by
    have q := I3.stkSub b z
    rcases List.mem_cons.mp q with q | q
    · exact absurd (Nat.lt_of_lt_of_le I3.lt hC) (by rw [← e, q]; exact Nat.lt_irrefl _)
    · exact (I3.nofs (a := b) (by rw [e]; exact hC) q).elim
  show wpAny (model X.prog X.w) X.A (noteFrame (.ref a) ce) _ _ s'
  rw [noteFrame_env _ hce]
  rw [hs] at fl
  refine PXN.looks_onZ L2N.Zn.steady (I3.ok.frames.trans (congrArg some hs)) hf fl fun h1 hh1 up1 => ?_
  have ns1 : h1.Ns ce.locals m := (ns.upToSlots up).upToSlots up1
  refine ⟨m, ns1, fun h2 m2 ns2 sb => ?_⟩
  obtain ⟨k1, k2, k3, oe, vs, T, oT, ts, e1, z, e2, e3, nT, ne, e4, e5, e6⟩ := hh1
  have aC := ns_ne ns1 e1 e2
  have tC := ns_ne ns1 e4 e5
  have here := (sb.2 a aC).trans e1
  have stay : B'.StaysIn h2 := fun b o q => by
    have nb : b ≠ ce.locals := fun y => by rw [y, bC] at q; cases q
    rw [bk b nb] at q
    exact (sb.2 b nb).trans (k1 b o q)
  unfold passOn
  refine wpAny_bind (wpAny_field here e2 e3 ?_)
  rw [if_neg (show ¬ ((Value.ref T == Value.none) = true) from by simp), hce, hf]
  have go : wpAny (model X.prog X.w) X.A (setFlight (.ref a) (some X.env.locals)) (fun _ s4 => wpAny (model X.prog X.w) X.A (throw (.ref a) : Sem Value) (fun _ _ => False) X.xe s4) X.xe { s' with heap := h2 } := by
    refine HandSPX.setFlight_anyZ (base := B') (l := X.env :: X.outer) (Z := L2N.Zn cls d) (fl := rawInt X.env.locals) (fr := some X.env.locals) stay (frames_less less (fun b q => sb.2 b (frN b (by rw [hs]; exact q))) k3) ⟨oe, vs, T, oT, ts, here, z, e2, e3, less _ nT, ne, (sb.2 T tC).trans e4, e5, e6⟩ fun h3 s1 s2 s3' s4 => wpAny_throw (tk _ _ ?_)
    refine ⟨a, B', { sI with heap := G }, pins, σ, H1, cls, d, rfl, DG, fun b o q nf => ?_, fun b o q nd => ?_, .inr (.inr (by rw [hs]; exact ⟨s1, less _ k2, s2, s3'⟩)), na, os, ag, w⟩
    · have n : b ≠ ce.locals := fun y => by rw [y, show G.get? ce.locals = none from gC] at q; cases q
      rw [bk b n]
      exact nb b o ((gk b n).symm.trans q) nf
    · have n : b ≠ ce.locals := fun y => by rw [y, show G.get? ce.locals = none from gC] at q; cases q
      obtain ⟨t1, q1⟩ := up b o ((gk b n).symm.trans q) nd
      obtain ⟨t2, q2⟩ := up1 b _ q1 nd
      obtain ⟨t3, q3⟩ := s4 b _ ((sb.2 b n).trans q2) nd
      exact ⟨t3, q3⟩
  first
    | exact wpAny_bind (wpAny_pure (wpAny_bind go))
    | exact wpAny_bind go
end
section
variable {B : Cx} {elt tg iter : Expr} {ifs : List Expr} {scope : Scope} {pos : Pos} {g : TG} {tt : TT} {te : TE} {fp : List Addr} {it D : Addr} {J : It} {tn : Nat → Heap → Prop} {σb : St} {vs : List Nat} {R : Result → Shared → Prop} {Qe : Hp → Prop}
def StepN (J : It) (g : TG) (tt : TT) (te : TE) (vs : List Nat) (σb : St) (D : Addr) (Nx : Hp → Prop) (i : Nat) (H : Hp) : Prop := ∀ x H', J.yld i H x H' → g x σb H' fun σ2 H2 => wipe σ2 vs = σb ∧ tt σ2 H2 fun b H3 =>
  if b = true then te σ2 H3 fun y H4 => ∃ acc, H4 D = some (.lst acc) ∧ acc.length < sizeLine ∧ Nx (upd H4 D (.lst (acc ++ [y]))) else Nx H3
theorem loop_N (T : Turn B.prog B.w B.K tg J fp it tn) (calm : B.calm = true) (fpo : ∀ H', (∀ b ∈ fp, H' b = none) → ∀ b ∈ fp, FpOk B.nox [] H' b) (pg : PG B.nox tg g) (pt : PTs B.nox ifs tt)
    (pe : PE (B.wish (notedBy (model B.prog B.w) B.A B.env fun e s' => R (.error e) s')) elt te) (Wn : Nat → Nat → Hp → Prop)
    (turn : ∀ i m H, Wn i m H → (J.stop i H ∧ Qe H) ∨ (J.go i H ∧ ∃ Nx : Hp → Prop, (∀ H', Nx H' → ∃ m', m' < m ∧ Wn (i + 1) m' H') ∧ StepN J g tt te vs σb D Nx i H))
    (fin : ∀ H' s', Inv B.nox [] σb H' s' → Qe H' → R (.ok .next) s') {m0 : Nat} {H0 : Hp} {s0 : Shared} (I0 : Inv B.nox [] σb H0 s0) (t0 : tn 0 s0.heap) (n0 : ∀ b ∈ fp, H0 b = none) (w0 : Wn 0 m0 H0) :
    codeAny (model B.prog B.w) B.A (.compLoop (.ListComp elt [⟨tg, iter, ifs, 0⟩] scope pos) 0 (.ref it) (.ref D) B.env) R s0 := by
  let At : Nat → Shared → Prop := fun n s => ∃ i H, Inv B.nox [] σb H s ∧ tn i s.heap ∧ (∀ b ∈ fp, H b = none) ∧ Wn i n H
  refine compLoop_any At (fun n s ⟨i, H, I, st, free, wn⟩ => ?_) m0 ⟨0, H0, I0, t0, n0, w0⟩
  rcases turn i n H wn with ⟨stop, q⟩ | ⟨go, Nx, less, step⟩
  · refine thnF (T.done B.nox rfl rfl rfl calm i [] s σb H _ I (fpo H free) st stop) fun r s1 z => ?_
    rw [z.1]
    exact fin H s1 z.2 q
  refine thnF (T.item B.nox rfl rfl rfl calm i [] s σb H _ I (fpo H free) st go) fun r s1 ⟨u, er, z⟩ => ?_
  rw [er]
  refine thnF z fun _ s2 ⟨x, H2, I2, rx, yl, st2, free2⟩ => ?_
  -- the turn is done: the iterator's objects stand as they stood behind the item
  have done : ∀ {σ' : St} {H' : Hp} {s' : Shared}, wipe σ' vs = σb → Inv B.nox ([] ++ pinsAt fp s2.heap) σ' H' s' → Nx H' → ∃ m, m < n ∧ At m s' := fun {σ' H' s'} ew I' nx => by
    obtain ⟨m, lt, wm⟩ := less H' nx
    have stood : ∀ b ∈ fp, ∀ o, s2.heap.get? b = some o → s'.heap.get? b = some o ∧ H' b = none := fun b hb o e => by
      have p := I'.pin (b, o) (List.mem_append_right _ (List.mem_append_right _ (mem_pinsAt hb e)))
      exact ⟨p.1, p.2.1⟩
    refine ⟨m, lt, i + 1, H', (I'.unpinned (pins := [])).weak (by rw [← ew, wipe_length]) (fun j v e => ?_), T.keep _ _ _ st2 fun b hb o e => (stood b hb o e).1, fun b hb => ?_, wm⟩
    · rw [← ew] at e
      exact (wipe_some e).1
    · obtain ⟨o, e, _⟩ := T.obj _ _ st2 b hb
      exact (stood b hb o e).2
  refine thnF (pg.run _ s2 σb H2 x u _ (I2.pinned (fpo H2 free2) (T.obj _ _ st2)) rx (step x H2 yl)) fun _ s3 ⟨σ3, H3, I3, ew, q3⟩ => ?_
  refine thnF (pt.run _ s3 σ3 H3 _ I3 q3) fun b s4 ⟨H4, I4, q4⟩ => ?_
  cases b with
  | false => exact done ew I4 q4
  | true =>
    refine wpAny_mono (pe.run _ s4 σ3 H4 _ (I4.unwish.wish _) q4) (fun v s5 ⟨y, H5, I5, ry, acc, e5, l5, nx⟩ => ?_) fun _ _ z => z
    exact app_ok (X := B.nox) (I5.unwish.wish _) e5 l5 ry fun s6 I6 => done ew I6 nx
end
section
variable {X : Cx} {W : WX} {elt tg iter : Expr} {ifs : List Expr} {scope : Scope} {own : List (Str × Nat)} {pos : Pos} {wi : TI} {g : TG} {tt : TT} {te : St → TE}
def ElN (X : Cx) (W : WX) (scope : Scope) (elt : Expr) (te : St → TE) : Prop := ∀ (σ0 : St) (s : Shared) (H : Hp) (C : Addr) (cl : List (Str × Addr)) (fp : List Addr) (E : Value → Shared → Prop),
  (∀ σ, PassesAt (L2N.CX X.prog X.w) (blkE X s H scope (compEnvC scope cl C X.env) fp E) σ (fun cls d H => W cls d σ0 H)) → PE (blkE X s H scope (compEnvC scope cl C X.env) fp E) elt (te σ0)
theorem pe_lcN (hc : X.calm = true) (hN : X.N.Nodup) (tk : L2N.Takes X W) (hst : X.stack = X.env :: X.outer) (hfr : X.env.frame = some X.env.locals) (hi : PI X tg iter wi) (ok : BlkOk X.N X.env.scope scope own)
    (hg : ∀ (s : Shared) (H : Hp) (C : Addr) (cl : List (Str × Addr)) (fp : List Addr), PG (X.blk s H scope (compEnvC scope cl C X.env) fp) tg g) (ht : ∀ (s : Shared) (H : Hp) (C : Addr) (cl : List (Str × Addr)) (fp : List Addr), PTs (X.blk s H scope (compEnvC scope cl C X.env) fp) ifs tt)
    (he : ElN X W scope elt te) (hs : ∀ x, foldedSetIterable iter X.env x = pure x) : PE X (.ListComp elt [⟨tg, iter, ifs, 0⟩] scope pos) (fun σ H Q => tLc wi g tt (te σ) (own.map (·.2)) σ H Q) := by
  refine ⟨fun pins s σ H Q I h => ?_⟩
  have free : ∀ y ∈ scope.names, y.2 = .free → ∃ c, X.env.cells.lookup y.1 = some c := fun y hy e => I.ok.has _ (ok.free y hy e)
  rw [eval_ListComp]
  refine comprehension_at rfl hs (closure_ok free) ok.kind (fun y hy e => by rw [ok.uniq y hy, e]) (thn (hi.run pins s σ H _ I h) fun xv s1 z1 => thn z1 fun itv s2 ⟨it, fp, tn, J, H2, e, I2, T, st2, f2, q⟩ => ?_)
  subst e
  refine wpAny_newObj_type (newEnv_comp ?_) (Nat.zero_le _)
  have nD : H2 s2.heap.objs.size = none := I2.hok.fresh (Nat.le_refl _)
  obtain ⟨Wn, ⟨m0, w0⟩, turn⟩ := q s2.heap.objs.size nD
  have keep1 : ∀ b o, s2.heap.get? b = some o → (s2.heap.push { cls := .type "list", data := .seq ([] : List Value).toArray }).get? b = some o := fun b o e => Heap.get?_push_of_some _ e
  have I3 : Inv X pins σ (upd H2 s2.heap.objs.size (.lst [])) { s2 with heap := s2.heap.push { cls := .type "list", data := .seq ([] : List Value).toArray } } :=
    I2.laid (t' := s2.toks) keep1 (Nat.le_refl _) ⟨Nat.zero_le _, [], 0, .nil, Heap.get?_push_size _ rfl⟩
  have below : ∀ b ∈ fp, b < s2.heap.objs.size := fun b hb => by
    obtain ⟨o, e, _⟩ := T.obj _ _ st2 b hb
    exact Heap.lt_size e
  generalize hs3 : ({ s2 with heap := s2.heap.push { cls := .type "list", data := .seq ([] : List Value).toArray } } : Shared) = s3 at I3 ⊢
  have e3 : s3.heap = s2.heap.push { cls := .type "list", data := .seq ([] : List Value).toArray } := by rw [← hs3]
  have f3 : ∀ b ∈ fp, FpOk X pins (upd H2 s2.heap.objs.size (.lst [])) b ∧ b < s3.heap.objs.size := fun b hb =>
    ⟨⟨by rw [upd_ne (Nat.ne_of_lt (below b hb))]; exact (f2 b hb).1, (f2 b hb).2⟩, by rw [e3, Heap.size_push]; exact Nat.lt_succ_of_lt (below b hb)⟩
  have st3 : tn 0 s3.heap := T.keep _ _ _ st2 fun b _ o e => by rw [e3]; exact keep1 b o e
  have I4 := block_start I3 ok hN f3
  have pg := hg s3 (upd H2 s2.heap.objs.size (.lst [])) s3.heap.objs.size (cellsFrom (s3.heap.objs.size + 1) scope.names (cloFrom X.env.cells scope.names [])) fp
  have pt := ht s3 (upd H2 s2.heap.objs.size (.lst [])) s3.heap.objs.size (cellsFrom (s3.heap.objs.size + 1) scope.names (cloFrom X.env.cells scope.names [])) fp
  have pe := he σ s3 (upd H2 s2.heap.objs.size (.lst [])) s3.heap.objs.size (cellsFrom (s3.heap.objs.size + 1) scope.names (cloFrom X.env.cells scope.names [])) fp
  have cl : (compEnvC scope (cellsFrom (s3.heap.objs.size + 1) scope.names (cloFrom X.env.cells scope.names [])) s3.heap.objs.size X.env).locals = s3.heap.objs.size := rfl
  have cf : (compEnvC scope (cellsFrom (s3.heap.objs.size + 1) scope.names (cloFrom X.env.cells scope.names [])) s3.heap.objs.size X.env).frame = X.env.frame := rfl
  have fps : ∀ b ∈ fp, FpOk X pins (upd H2 s2.heap.objs.size (.lst [])) b := fun b hb => (f3 b hb).1
  have n3 : ∀ b ∈ fp, (upd H2 s2.heap.objs.size (.lst [])) b = none := fun b hb => (f3 b hb).1.1
  show codeAny _ _ (.compStart (.ListComp elt [⟨tg, iter, ifs, 0⟩] scope pos) 0 (.ref it) (.ref s2.heap.objs.size) (compEnvC scope (cellsFrom (s3.heap.objs.size + 1) scope.names (cloFrom X.env.cells scope.names [])) s3.heap.objs.size X.env))
    (compEnds (model X.prog X.w) X.A X.xe none (EP X pins σ Q) (.ref s2.heap.objs.size) (compEnvC scope (cellsFrom (s3.heap.objs.size + 1) scope.names (cloFrom X.env.cells scope.names [])) s3.heap.objs.size X.env)) { s3 with heap := pushCells (s3.heap.push { cls := .type "dict", data := .dict #[] }) scope.names }
  generalize compEnvC scope (cellsFrom (s3.heap.objs.size + 1) scope.names (cloFrom X.env.cells scope.names [])) s3.heap.objs.size X.env = ce at I4 pg pt pe cl cf ⊢
  generalize upd H2 s2.heap.objs.size (.lst []) = H3 at I3 I4 pg pt pe fps n3 w0
  generalize hs4 : ({ s3 with heap := pushCells (s3.heap.push { cls := .type "dict", data := .dict #[] }) scope.names } : Shared) = s4 at I4 ⊢
  have st4 : tn 0 s4.heap := T.keep _ _ _ st3 fun b _ o e => by rw [← hs4]; exact pushCells_keeps _ _ _ _ (Heap.get?_push_of_some _ e)
  have loop := loop_N (B := X.blk s3 H3 scope ce fp) (iter := iter) (ifs := ifs) (scope := scope) (pos := pos) (D := s2.heap.objs.size) (R := compEnds (model X.prog X.w) X.A X.xe none (EP X pins σ Q) (.ref s2.heap.objs.size) ce) (Qe := Q (.ref s2.heap.objs.size)) T hc
    (fun H' z b hb => ⟨z b hb, (I4.ok.exf b hb).1, I4.ok.exfs b hb, .inl hb, fun x c e => (I4.ok.exf b hb).2 x c e, fun p hp => absurd (show p ∈ ([] : List (Addr × Obj)) ++ [] from hp) (by simp)⟩)
    pg pt (pe _ fun σ1 pn H1 s5 u s6 J1 c => leaves_blk tk hst hfr cf (by rw [cl]; exact Nat.le_refl _) I3 fps (J1.unwish.wish _) c) Wn turn (fun H5 s5 J5 q5 => ?_) I4 st4 n3 w0
  · exact codeAny_compStart_list loop (T.self X.A 0 _ _ _ st4 loop)
  · have D5 : Inv X pins σ H5 s5 := I3.call' (ch := fp) J5.os J5.base J5.hok J5.bare fun b hb => ⟨(fps b hb).2.2.2.1, (fps b hb).2.1, (fps b hb).2.2.2.2.1, (fps b hb).2.2.2.2.2⟩
    obtain ⟨m, ns, _⟩ := J5.loc
    have n5 : H5 ce.locals = none := J5.free
    obtain ⟨_, f1, f2, f3, f4, f5⟩ := I3.fpOk (H' := H5) (b := ce.locals) (by rw [cl]; exact Nat.le_refl _) n5
    exact ⟨m, ns, fun h6 sb => ⟨.ref s2.heap.objs.size, H5, D5.turned (t' := s5.toks) (fun b o ne e => (sb.2 b ne).trans e) n5 f1 f3 f4 f5, rfl, q5⟩⟩
end
end Dl
namespace Dl
open PySem L2
def lcXW (p : Pat) (wt : WpT) (we : WpE) (sl : Sls) (Rx : RX) : List D → List Cell → (List D → List Cell → Prop) → Prop
  | [], cs, R => R [] cs
  | d :: ds, cs, R => asgW p d sl fun sl' => wt sl' cs (fun b c1 => Br b (we sl' c1 (fun s c2 => isDat s fun e => lcXW p wt we sl Rx ds c2 fun acc c3 => R (e :: acc) c3) Rx) (lcXW p wt we sl Rx ds c1 R)) noX
def wLcX (wi : WpI) (p : Pat) (wt : WpT) (we : WpE) (own : List Nat) : WpE := fun sl cs R Rx => wi sl cs (fun items c => items.length < sizeLine ∧ lcXW p wt we (wipeS sl own) Rx items c fun acc c' => R (.dat (.lst acc)) c') Rx
section
variable {T : Tab} {K : PySem.W.Frag} {W : WX} {p : Pat} {wi : WpI} {wt : WpT} {we : WpE} {own : List Nat}
theorem lcX_core {Rx : RX} {sl : Sls} {items : List D} {cs : List Cell} {Rf : List D → List Cell → Prop} {σ : St} {H1 : Hp} {ad1 : List Addr} {F : Addr → Prop} {Q : VK} {J : It} (hp : ∀ i ∈ slotsP p, i ∈ own) (h1 : Hold T K ⟨sl, cs⟩ ad1 F σ H1) (okI : ItOk T K F J items ad1 H1) (hl : items.length < sizeLine)
    (h : lcXW p wt we (wipeS sl own) Rx items cs Rf) (qx : Raz T K W σ ad1 F H1 sl Rx) {Dl : Addr} (hD : H1 Dl = none)
    (q : ∀ accV accD ci ad' H', Ext ad1 F H1 ad' H' → HoldC T K ad' (fun a => F a ∨ a = Dl) H' ci → H' Dl = some (.lst accV) → Reps T K (Mm ad' fun a => F a ∨ a = Dl) H' accV accD → Rf accD ci → Q (.ref Dl) H') :
    ∃ (Inv' : Nat → Nat → Hp → Prop), (∃ m0, Inv' 0 m0 (upd H1 Dl (.lst []))) ∧ ∀ i m H', Inv' i m H' → (J.stop i H' ∧ Q (.ref Dl) H') ∨ (J.go i H' ∧ ∃ I2 : Hp → Prop, (∀ H2, I2 H2 → ∃ m', m' < m ∧ Inv' (i + 1) m' H2) ∧ ∀ v H3, J.yld i H' v H3 →
      tDG T K p v (wipe σ own) H3 fun σ' H4 => wipe σ' own = wipe σ own ∧ tJT T K W0 wt σ' H4 fun b H5 => if b = true then tJ T K (fun cls d _ H => W cls d σ H) we σ' H5 fun w H6 => ∃ acc, H6 Dl = some (.lst acc) ∧ acc.length < sizeLine ∧ I2 (upd H6 Dl (.lst (acc ++ [w]))) else I2 H5) := by
  let vs := own
  have nD := h1.hc.new hD
  let F' : Addr → Prop := fun a => F a ∨ a = Dl
  have neD : ∀ a o, H1 a = some o → a ≠ Dl := fun a o e => ne_of_none e hD
  have slots : ∀ {ad' : List Addr} {H' : Hp} {cs : List Cell}, Ext ad1 F H1 ad' H' → HoldC T K ad' F' H' cs → Hold T K ⟨wipeS sl vs, cs⟩ ad' F' (wipe σ vs) H' := fun {ad' H' cs} x c => by
    refine ⟨c, by rw [wipe_length, wipeS_len]; exact h1.sz, fun i s e => ?_⟩
    obtain ⟨e1, e2⟩ := wipeS_some e
    obtain ⟨v, hv, r⟩ := h1.sl i s e1
    refine ⟨v, by rw [wipe_out e2]; exact hv, ?_⟩
    cases s with
    | dat d => exact Rep.kp (fun a o e n => ⟨x.keep a o e n, fun z => (x.kp a o e n).2 (z.imp id fun z => z.resolve_right (neD a o e))⟩) r
    | cel k =>
      have r' := SlRep.ext x r
      exact r'
  have h1' : HoldC T K ad1 F' (upd H1 Dl (.lst [])) cs := by
    obtain ⟨c2, x2⟩ := h1.hc.newo (o := .lst []) hD
    have kp : Kp (Mm ad1 F) H1 (Mm ad1 F') (upd H1 Dl (.lst [])) := fun a o e n => ⟨by rw [upd_ne (neD a o e)]; exact e, fun z => n (z.imp id fun z => z.resolve_right (neD a o e))⟩
    refine ⟨h1.hc.nd, fun a ha z => z.elim (h1.hc.fr a ha) fun z => nD (.inl (z ▸ ha)), fun a z => ?_, h1.hc.tb.newF hD (fun _ z => nomatch z), h1.hc.ln, fun k a c e1 e2 => ?_⟩
    · rcases z with z | z
      · exact c2.al a z
      · rw [z]; exact ⟨_, upd_same⟩
    · have qc := h1.hc.ce k a c e1 e2
      obtain ⟨o, e⟩ := qc.some
      exact qc.kp kp (upd_ne (neD a o e))
  have x1' : Ext ad1 F H1 ad1 (upd H1 Dl (.lst [])) := (h1.hc.newo hD).2
  have outX : ∀ {y : Exc} {c : List Cell} {cls : Value} {d : Option Addr} {H' : Hp} {ad' : List Addr}, Ext ad1 F H1 ad' H' → HoldC T K ad' F' H' c → Rx y c → ExRep T K (Mm ad' F') H' cls d y → W cls d σ H' := fun {y c cls d H' ad'} x' c' hR er => by
    have kpF : Kp (Mm ad' F') H' (Mm ad' F) H' := fun a o e n => ⟨e, fun z => n (z.imp id .inl)⟩
    have cF : HoldC T K ad' F H' c := ⟨c'.nd, fun a ha z => c'.fr a ha (.inl z), fun a z => c'.al a (.inl z), h1.hc.tb.back (fun _ z => .inl z) c'.tb, c'.ln, fun k a c e1 e2 => (c'.ce k a c e1 e2).kp kpF rfl⟩
    obtain ⟨C, fn, t1, t2, er⟩ := er
    exact qx y c cls d H' ad' hR x' (h1.to x' cF) ⟨C, fn, t1, t2, er.imp id fun ⟨dd, vs', a1, a2, a3, a4, a5⟩ => ⟨dd, vs', a1, (kpF _ _ a3 a2).2, a3, a4, a5.kp kpF⟩⟩
  refine ⟨fun i m H' => ∃ ad' accV accD ci, i ≤ items.length ∧ m = items.length - i ∧ Ext ad1 F H1 ad' H' ∧ HoldC T K ad' F' H' ci ∧ H' Dl = some (.lst accV) ∧ Reps T K (Mm ad' F') H' accV accD ∧ accD.length ≤ i ∧
    lcXW p wt we (wipeS sl vs) Rx (items.drop i) ci (fun acc c => Rf (accD ++ acc) c), ⟨items.length, ad1, [], [], cs, Nat.zero_le _, rfl, x1', h1', upd_same, .nil, Nat.le_refl _, h⟩, ?_⟩
  rintro i m H' ⟨ad', accV, accD, ci, hi', rfl, x', c', eD, rA, lA, hL⟩
  have kpI : Kp (Mm ad1 F) H1 (Mm ad' F') H' := fun a o e n => ⟨x'.keep a o e n, fun z => (x'.kp a o e n).2 (z.imp id fun z => z.resolve_right (neD a o e))⟩
  obtain ⟨ok1, ok2⟩ := okI F' ad' H' ci c' kpI i
  by_cases hlt : i < items.length
  · have hd : items[i]? = some items[i] := List.getElem?_eq_getElem hlt
    obtain ⟨g1, g2⟩ := ok1 _ hd
    rw [List.drop_eq_getElem_cons hlt] at hL
    obtain ⟨sl', eas, hL⟩ := asgW_of hL
    refine .inr ⟨g1, fun H2 => ∃ m', m' < items.length - i ∧ ∃ ad' accV accD ci, i + 1 ≤ items.length ∧ m' = items.length - (i + 1) ∧ Ext ad1 F H1 ad' H2 ∧ HoldC T K ad' F' H2 ci ∧ H2 Dl = some (.lst accV) ∧ Reps T K (Mm ad' F') H2 accV accD ∧ accD.length ≤ i + 1 ∧
      lcXW p wt we (wipeS sl vs) Rx (items.drop (i + 1)) ci (fun acc c => Rf (accD ++ acc) c), fun H2 ⟨m', hm, z⟩ => ⟨m', hm, z⟩, fun v H3 y => ?_⟩
    obtain ⟨gr, rv⟩ := g2 v H3 y
    obtain ⟨c3, x3⟩ := grow c' gr
    have x13 : Ext ad1 F H1 ad' H3 := ⟨x'.pre, fun a o e n => gr a o (x'.keep a o e n), fun a fa => (x'.frm a fa).trans (.inl (by
      obtain ⟨o, e⟩ := (x'.frm a fa).ex (h1.hc.al a fa)
      rw [gr a o e, e]))⟩
    have cvt : ∀ {ad6 : List Addr} {H6 : Hp}, Ext ad' F' H3 ad6 H6 → Ext ad1 F H1 ad6 H6 := fun {ad6 H6} x6 => by
      obtain ⟨t, e, ht⟩ := x13.pre
      obtain ⟨t2, e2, ht2⟩ := x6.pre
      refine ⟨⟨t ++ t2, by rw [e2, e, List.append_assoc], fun a ha => ?_⟩, fun a o e n => ?_, fun a fa => ?_⟩
      · rcases List.mem_append.mp ha with z | z
        · exact ht a z
        · cases q1 : H1 a with
          | none => rfl
          | some o =>
            exfalso
            have hz := ht2 a z
            by_cases n : Mm ad1 F a
            · rcases n with n | n
              · obtain ⟨o', e'⟩ := c3.mem (a := a) (by rw [e]; exact List.mem_append_left _ n)
                rw [e'] at hz; cases hz
              · obtain ⟨o', e'⟩ := (x13.frm a n).ex ⟨_, q1⟩
                rw [e'] at hz; cases hz
            · rw [x13.keep a o q1 n] at hz; cases hz
      · have n3 : ¬ Mm ad' F' a := fun z => (x13.kp a o e n).2 (z.imp id fun z => z.resolve_right (neD a o e))
        exact x6.keep a o (x13.keep a o e n) n3
      · exact (x13.frm a fa).trans (x6.frm a (.inl fa))
    have eD3 : H3 Dl = some (.lst accV) := gr _ _ eD
    have rA3 : Reps T K (Mm ad' F') H3 accV accD := rA.kp x3.kp
    refine ⟨ad', F', ⟨wipeS sl vs, ci⟩, items[i], sl', slots x13 c3, rv, eas, fun σ4 a4 h4 => ⟨wipe_asis a4 hp, ad', F', sl', ci, _, noX, h4, hL, fun b c1 H5 ad5 hb x5 h5 => ?_, Raz.no⟩⟩
    cases b with
    | true =>
      refine iteT ⟨ad5, F', sl', c1, _, Rx, h5, hb.t rfl, fun s c2 w H6 ad6 hs x6 h6 r6 => ?_, fun y c2 cls d H6 ad6 hR x6 h6 er => outX (cvt (x5.trans h5.hc x6)) h6.hc hR er⟩
      obtain ⟨d', rfl, hL2⟩ := isDat_of hs
      refine ⟨accV, ?_, ?_, ?_⟩
      · exact (x6.frm Dl (.inr rfl)).eq ((x5.frm Dl (.inr rfl)).eq eD3 (fun _ z => nomatch z)) (fun _ z => nomatch z)
      · have := rA3.length
        omega
      · have x36 : Ext ad' F' H3 ad6 H6 := x5.trans h5.hc x6
        have x16 := cvt x36
        have hDa : Dl ∉ ad6 := fun z => h6.hc.fr Dl z (.inr rfl)
        have kpU : Kp (Mm ad6 F') H6 (Mm ad6 F') (upd H6 Dl (.lst (accV ++ [w]))) := fun a o e n => ⟨by rw [upd_ne (fun z => n (.inr (.inr z)))]; exact e, n⟩
        refine ⟨_, by omega, ad6, accV ++ [w], accD ++ [d'], c2, hlt, rfl, ?_, ?_, upd_same, ((rA3.kp x36.kp).append (.cons r6 .nil)).kp kpU, by rw [List.length_append]; simp; omega, ?_⟩
        · exact ⟨x16.pre, fun a o e n => by rw [upd_ne (neD a o e)]; exact x16.keep a o e n, fun a fa => by
            obtain ⟨o, e⟩ := h1.hc.al a fa
            exact (x16.frm a fa).trans (.inl (by
              obtain ⟨o6, e6⟩ := (x16.frm a fa).ex ⟨o, e⟩
              rw [upd_ne (neD a o e)]))⟩
        · refine ⟨h6.hc.nd, h6.hc.fr, fun a z => ?_, h6.hc.tb.upd ((x6.frm Dl (.inr rfl)).eq ((x5.frm Dl (.inr rfl)).eq eD3 (fun _ z => nomatch z)) (fun _ z => nomatch z)) (fun _ z => nomatch z) (fun _ z => nomatch z) (fun _ z => nomatch z), h6.hc.ln, fun k a c e1 e2 => ?_⟩
          · by_cases e : a = Dl
            · rw [e]; exact ⟨_, upd_same⟩
            · rw [upd_ne e]; exact h6.hc.al a z
          · exact (h6.hc.ce k a c e1 e2).kp kpU (upd_ne fun z => hDa (z ▸ List.mem_of_getElem? e1))
        · have e : (fun acc c => Rf (accD ++ [d'] ++ acc) c) = fun acc c => Rf (accD ++ (d' :: acc)) c := by
            funext acc c
            rw [List.append_assoc]
            rfl
          rw [e]
          exact hL2
    | false => exact iteF ⟨_, by omega, ad5, accV, accD, c1, hlt, rfl, cvt x5, h5.hc, (x5.frm Dl (.inr rfl)).eq eD3 (fun _ z => nomatch z), rA3.kp x5.kp, by omega, hb.f rfl⟩
  · have e : i = items.length := by omega
    subst e
    rw [List.drop_length] at hL
    have hL : Rf (accD ++ []) ci := hL
    rw [List.append_nil] at hL
    exact .inl ⟨ok2 rfl, q accV accD ci ad' H' x' c' eD rA hL⟩
theorem lcX_then {σ : St} {H : Hp} {Q : VK} (hp : ∀ i ∈ slotsP p, i ∈ own) (h : tJ T K W (wLcX wi p wt we own) σ H Q) : tLc (tJI T K W wi) (tDG T K p) (tJT T K W0 wt) (tJ T K (fun cls d _ H => W cls d σ H) we) own σ H Q := by
  obtain ⟨ad, F, sl, cs, R, Rx, h0, hw, q, qx⟩ := h
  refine ⟨ad, F, sl, cs, _, Rx, h0, hw, fun items c J H1 ad1 hw1 x1 h1 ok Dl hD => ?_, qx⟩
  refine lcX_core hp h1 ok hw1.1 hw1.2 (qx.on x1 h1) hD fun accV accD ci ad' H' x' c' eD rA hR => ?_
  have nD := h1.hc.new hD
  have kpF : Kp (Mm ad' fun a => F a ∨ a = Dl) H' (Mm ad' F) H' := fun a o e n => ⟨e, fun z => n (z.imp id .inl)⟩
  have cF : HoldC T K ad' F H' ci := ⟨c'.nd, fun a ha z => c'.fr a ha (.inl z), fun a z => c'.al a (.inl z), h1.hc.tb.back (fun _ z => .inl z) c'.tb, c'.ln, fun k a c e1 e2 => (c'.ce k a c e1 e2).kp kpF rfl⟩
  have nD' : ¬ Mm ad' F Dl := fun z => z.elim (fun z => c'.fr Dl z (.inr rfl)) fun z => nD (.inr z)
  exact q _ ci (.ref Dl) H' ad' hR (x1.trans h1.hc x') (h1.to x' cF) (Rep.lst nD' eD (rA.kp kpF))
end
section
variable {X : Cx} {T : Tab} {W : WX} {elt tg iter : Expr} {ifs : List Expr} {scope : Scope} {own : List (Str × Nat)} {p : Pat} {wi : WpI} {wt : WpT} {we : WpE} {pos : Pos}
structure JLCX (X : Cx) (T : Tab) (W : WX) (elt tg iter : Expr) (ifs : List Expr) (scope : Scope) (own : List (Str × Nat)) (wi : WpI) (p : Pat) (wt : WpT) (we : WpE) : Prop where
  hi : JI X T W tg iter wi
  ok : BlkOk X.N X.env.scope scope own
  hg : InB X scope fun X' => DG X' T tg p
  ht : InB X scope fun X' => JTs X' T W0 ifs wt
  he : ∀ (σ0 : St) (s : Shared) (H : Hp) (C : Addr) (cl : List (Str × Addr)) (fp : List Addr) (E : Value → Shared → Prop), (∀ σ, PassesAt (L2N.CX X.prog X.w) (blkE X s H scope (compEnvC scope cl C X.env) fp E) σ (WE (fun cls d _ H => W cls d σ0 H) σ)) →
    JE (blkE X s H scope (compEnvC scope cl C X.env) fp E) T (fun cls d _ H => W cls d σ0 H) elt we
  hp : ∀ i ∈ slotsP p, i ∈ own.map (·.2)
theorem je_lcX {vs : List Nat} (tk : L2N.Takes X W) (hN : X.N.Nodup) (h : JLCX X T W elt tg iter ifs scope own wi p wt we) (hv : own.map (·.2) = vs := by rfl) (hc : X.calm = true := by rfl) (hst : X.stack = X.env :: X.outer := by rfl) (hf : X.env.frame = some X.env.locals := by rfl) (hs : ∀ x, foldedSetIterable iter X.env x = pure x := by intro _; rfl) :
    JE X T W (.ListComp elt [⟨tg, iter, ifs, 0⟩] scope pos) (wLcX wi p wt we vs) := by
  subst hv
  exact weak (pe_lcN (g := tDG T X.K p) (tt := tJT T X.K W0 wt) (te := fun σ0 => tJ T X.K (fun cls d _ H => W cls d σ0 H) we) hc hN tk hst hf h.hi h.ok h.hg h.ht h.he hs) fun σ H Q z => lcX_then h.hp z
end
end Dl
namespace Dl
open PySem L2
section
variable {X : Cx} {T : Tab} {W : WX} {n : Nat} {o e a b i j o1 o2 : Expr} {es : List Expr} {wo we wi wj wo1 wo2 : WpE} {wA : WpA} {pos apos p p1 p2 kp : Pos}
end
end Dl
namespace Dl
open PySem L2 PySem.Spec
open PyProof.Rows hiding St
section
open PySem.W
variable {prog : Program} {w : World} {A : Around} {E : Value → Shared → Prop} {s : Shared}
theorem rest_list {l i : Addr} {x : Value} {r : List Value} {Q : List Value → Shared → Prop} (hh : A.handled = none) (hl : s.heap.IsList l (x :: r).toArray) (hi : s.heap.IsListIter i l 1) (hz : (x :: r).length ≤ sizeLine) (ne : l ≠ i)
    (h : ∀ h' tk, (∀ b o, b ≠ i → s.heap.get? b = some o → h'.get? b = some o) → Q r { s with heap := h', toks := tk }) : wpAny (model prog w) A (collect (.ref i)) Q E s := by
  obtain ⟨oi, ei, _⟩ := id hi
  obtain ⟨ol, el, _⟩ := id hl
  exact kun_collect (T := "list_iterator") (k := 1) (.inr (.inr (.inl rfl))) (Walks.list (A := A.in1) hh i l ne (x :: r).toArray) (fun _ _ st => st.1.typeIs) (Nat.succ_le_succ (Nat.zero_le _)) ⟨hi, hl⟩ (Heap.lt_size ei) (Heap.lt_size el) h (by simpa using hz)
theorem starL2 {l : Addr} {x : Value} {r : List Value} {Q : List Value → Shared → Prop} (hl : s.heap.IsList l (x :: r).toArray) (hh : A.handled = none) (hz : (x :: r).length ≤ sizeLine)
    (h : ∀ (h' : Heap) (tk : Nat), (∀ b o, s.heap.get? b = some o → h'.get? b = some o) → Q [x, .ref h'.objs.size] { s with heap := h'.push { cls := .type "list", data := .seq r.toArray }, toks := tk }) : wpAny (model prog w) A (unpackItems (.ref l) 2 (some 1)) Q E s := by
  have below : ∀ {b : Addr} {o : Obj}, s.heap.get? b = some o → b ≠ s.heap.objs.size := fun e => Nat.ne_of_lt (Heap.lt_size e)
  have ne : l ≠ s.heap.objs.size := by
    obtain ⟨o, e, _⟩ := id hl
    exact below e
  unfold unpackItems
  unfold notIterableAtAll
  refine wpAny_bind (wpAny_bind (wpAny_specialOf hl.typeIs slot_list_iter.lookup (wpAny_pure ?_)))
  rw [if_neg (by decide)]
  refine wpAny_bind (wpAny_holding (wpAny_pyIter_list hl (wpAny_bind (wpAny_holding (kun_draw ne 1 0 _ _ ⟨_, Heap.get?_push_size _ rfl, rfl, rfl⟩ (hl.push _) (by simp) fun h1 at1 same => ?_)))))
  have l1 : h1.IsList l (x :: r).toArray := (hl.push _).extBut same.extBut ne
  show wpAny _ _ (if ([x] : List Value).length < 1 then _ else _) _ _ _
  rw [if_neg (show ¬ (([x] : List Value).length < 1) from Nat.lt_irrefl 1)]
  refine wpAny_bind (wpAny_holding (rest_list (s := { s with heap := h1 }) hh l1 at1 hz ne fun h2 tk keep => ?_))
  have e2 : r.length - (2 - 1 - 1) = r.length := by omega
  show wpAny _ _ (if r.length < 2 - 1 - 1 then _ else _) _ _ _
  rw [if_neg (by omega)]
  show wpAny _ _ (newList (r.take (r.length - (2 - 1 - 1))) >>= fun d => pure ([x] ++ [d] ++ r.drop (r.length - (2 - 1 - 1)))) _ _ _
  rw [e2, List.take_length, List.drop_length]
  refine wpAny_bind (wpAny_newList (wpAny_pure (h h2 tk fun b o e => ?_)) (by rw [List.length_cons] at hz; omega))
  exact keep b o (below e) (same.extBut b o (below e) (Heap.get?_push_of_some _ e))
end
def gStarL (K : PySem.W.Frag) (i j : Nat) : TG := fun v σ H Q => ∃ a x xs, v = .ref a ∧ SqL K H a (x :: xs) ∧ ∀ p, H p = none → Q ((σ.set i (some x)).set j (some (.ref p))) (L2.upd H p (.lst xs))
section
variable {X : Cx} {x y : Str} {p1 p2 p3 p4 pos : Pos} {i j k : Nat}
theorem pg_starL (hc : X.calm = true) (hN : X.N.Nodup) (hi : X.N[i]? = some x) (hj : X.N[j]? = some y) (hx : Loc X.env.scope x) (hy : Loc X.env.scope y) (fx : X.fn x = true ∨ X.env.scope.names.lookup x = some .local) (fy : X.fn y = true ∨ X.env.scope.names.lookup y = some .local) :
    PG X (.Tuple [.Name x p1, .Starred (.Name y p2) p3] k pos) (gStarL X.K i j) := by
  refine ⟨fun pins s σ H v u Q I r ⟨a, z, xs, ev, hq, hw⟩ => ?_⟩
  subst ev
  obtain rfl : u = .ref a := r
  obtain ⟨its, rv, pl, hz⟩ := I.list hq
  match its, rv with
  | it :: rest, .cons r0 rs =>
    have len := rs.length
    rw [List.length_cons, len] at hz
    rw [assign_Tuple]
    refine wpAny_bind (wpAny_standAt ?_)
    unfold unpack
    refine wpAny_bind (wpAny_holding (starL2 pl.isList (I.ok.hd hc) hz fun h' tk keep => ?_))
    have I1 : Inv X pins σ H { s with heap := h', toks := tk } := I.kept (t' := tk) keep
    have I2 : Inv X pins σ (L2.upd H h'.objs.size (.lst xs)) { s with heap := h'.push { cls := .type "list", data := .seq rest.toArray }, toks := tk } :=
      I1.laid (t' := tk) (o := .lst xs) (fun b ob q => Heap.get?_push_of_some _ q) (Nat.le_refl _) ⟨by rw [len]; omega, rest, 0, rs, Heap.get?_push_size _ rfl⟩
    show wpAny _ _ (assignInOrder [assign (.Name x p1) X.env, assign (.Name y p2) X.env] [it, .ref h'.objs.size]) _ _ _
    refine assignInOrder_cons (wpAny_assign_Name (store_ok I2 hN hi hx r0 (fun s' I' => ?_) fx))
    refine assignInOrder_cons (wpAny_assign_Name (store_ok (v := .ref h'.objs.size) I' hN hj hy rfl (fun s2 I3 => ?_) fy))
    exact assignInOrder_nil ⟨_, _, I3, hw _ (I1.hok.fresh (Nat.le_refl _))⟩
def wStar2L (i j : Nat) (w : WpE) : WS := fun S P => w S.sl S.cs (fun s c => match s with
  | .dat (.lst (d :: ds)) => P.nx ⟨(S.sl.set i (some (.dat d))).set j (some (.dat (.lst ds))), c⟩
  | _ => False) (fun x c => P.ex x ⟨S.sl, c⟩)
theorem js_star2L {T : Tab} {W : WX} {n : Nat} {e : Expr} {w : WpE} (i j : Nat) (hN : X.N.Nodup) (he : JE X T W e w) (hc : X.calm = true := by rfl) (hi : X.N[i]? = some x := by rfl) (hj : X.N[j]? = some y := by rfl) (hx : Loc X.env.scope x := by first | exact Or.inl rfl | exact Or.inr rfl) (hy : Loc X.env.scope y := by first | exact Or.inl rfl | exact Or.inr rfl)
    (fx : X.fn x = true ∨ X.env.scope.names.lookup x = some .local := by first | exact .inl rfl | exact .inr rfl) (fy : X.fn y = true ∨ X.env.scope.names.lookup y = some .local := by first | exact .inl rfl | exact .inr rfl)
    (hs : swapsWithSole [.Tuple [.Name x p1, .Starred (.Name y p2) p3] k pos] e p4.line X.env = pure false := by rfl) (hw : swappedStores [.Tuple [.Name x p1, .Starred (.Name y p2) p3] k pos] e X.env = pure none := by rfl)
    (h1 : (assignEach [.Tuple [.Name x p1, .Starred (.Name y p2) p3] k pos] X.env).map (·.2) = [assign (.Tuple [.Name x p1, .Starred (.Name y p2) p3] k pos) X.env] := by rfl) :
    JS X T W n (.Assign [.Tuple [.Name x p1, .Starred (.Name y p2) p3] k pos] e p4) (wStar2L i j w) := fun S P h =>
  weakS (ps_asg he (pg_starL hc hN hi hj hx hy fx fy) hs hw h1) fun D σ H ⟨ad, F, hn', h0, q1, q2, q3, q4, q5⟩ => ⟨ad, F, S.sl, S.cs, _, _, h0, h, fun s c v H1 ad1 hR x1 h1 r1 => by
    split at hR
    · rename_i d ds
      cases r1 with
      | @lst a vs _ n0 e1 z1 =>
        cases z1 with
        | @cons v _ vs' _ r0 rs =>
          refine ⟨a, v, vs', rfl, SqL.of e1, fun p hp => ?_⟩
          obtain ⟨c2, x2⟩ := h1.hc.newo (o := .lst vs') hp
          have h2 := h1.to x2 c2
          have ra : SlRep T X.K ad1 F (L2.upd H1 p (.lst vs')) v (.dat d) := Rep.kp x2.kp r0
          have rb : SlRep T X.K ad1 F (L2.upd H1 p (.lst vs')) (.ref p) (.dat (.lst ds)) := Rep.lst (vs := vs') (h1.hc.new hp) upd_same (rs.kp x2.kp)
          exact q1 _ _ _ ad1 ((x1.trans h1.hc x2).s hn') ((x1.trans h1.hc x2).le hn') ((h2.set ra i).set rb j) hR
    · exact hR.elim, raz_of hn' q5⟩
end
section
def OW {α : Type} (o : Option α) (f : α → Prop) (g : Prop) : Prop := match o with
  | some d => f d
  | none => g
def Rdc (c : Ct) (cx : CtX) (x : Exc) (ss : List Sl) (o : Option D) : Prop := OW o (fun d => c ss [] (.dat d) []) (cx ss [] x [])
theorem rdc_of {N ps : List Str} {w : Nat → WS} {x : Exc} {ss : List Sl} {o : Option D} (hl : ss.length = ps.length) (h : ∀ P : PJ, OW o (fun d => P.rt (.dat d) []) (∀ S : Sta, S.cs = [] → P.ex x S) → w 0 (st0 N ss []) P) : Rdc (ctOf N ps w) (ctXOf N ps w) x ss o := by
  match o, h with
  | some d, h => exact ⟨hl, h (endJ 0 (.dat d) []) ⟨rfl, rfl⟩⟩
  | none, h => exact ⟨hl, h (endJX 0 x []) fun S e => ⟨rfl, by rw [e]; rfl⟩⟩
theorem callX_ {c : Ct} {cx : CtX} {x : Exc} {ss : List Sl} {o : Option D} {cs : List Cell} {R : RV} {Rx : RX} (h : Rdc c cx x ss o) (h1 : cells1 ss = some none) (q : OW o (fun d => R (.dat d) cs) (Rx x cs)) : callXW c cx ss cs R Rx := by
  match o, h, q with
  | some d, h, q =>
    refine .inl ?_
    unfold callW
    rw [h1]
    exact ⟨_, _, h, q⟩
  | none, h, q => exact .inr ⟨h1, x, h, q⟩
theorem lcXW_opt {p : Pat} {we : WpE} {sl : Sls} {Rx : RX} {cs : List Cell} {α β : Type} {f : α → Option β} {opt : List α → Option (List β)} {g : α → D} {t : β → D} {x : Exc} (o0 : opt [] = some []) (oN : ∀ a r, f a = none → opt (a :: r) = none)
    (oS : ∀ a r b, f a = some b → opt (a :: r) = (opt r).map (b :: ·)) : ∀ {xs : List α} {R : List D → List Cell → Prop}, (∀ a ∈ xs, ∃ sl', asgP p (g a) sl = some sl' ∧ ∀ (R' : RV) (Rx' : RX), OW (f a) (fun b => R' (.dat (t b)) cs) (Rx' x cs) → we sl' cs R' Rx') →
    OW (opt xs) (fun ys => R (ys.map t) cs) (Rx x cs) → lcXW p wYes we sl Rx (xs.map g) cs R
  | [], R, _, h => by
    rw [o0] at h
    exact h
  | a :: r, R, k, h => by
    obtain ⟨sl', e, q⟩ := k a List.mem_cons_self
    show asgW p (g a) sl fun sl' => wYes sl' cs (fun b c1 => Br b (we sl' c1 (fun s c2 => isDat s fun e => lcXW p wYes we sl Rx (r.map g) c2 fun acc c3 => R (e :: acc) c3) Rx) (lcXW p wYes we sl Rx (r.map g) c1 R)) noX
    unfold asgW
    rw [e]
    refine Br.tt rfl (q _ _ ?_)
    cases hf : f a with
    | none =>
      rw [oN a r hf] at h
      exact h
    | some b =>
      refine lcXW_opt o0 oN oS (fun z hz => k z (List.mem_cons_of_mem _ hz)) ?_
      rw [oS a r b hf] at h
      cases hr : opt r with
      | none => rw [hr] at h; exact h
      | some ys => rw [hr] at h; exact h
end
end Dl
namespace Dl
open PySem L2
section
variable {X : Cx} {T : Tab} {d : D} {ds : List D} {cs : List Cell}
end
end Dl
namespace Dl
open PySem L2 PySem.Spec PyProof.Rows
class Chk (p : Prop) where
  b : Bool
  ok : b = true → p
instance (priority := low) chkDec {p : Prop} [d : Decidable p] : Chk p := ⟨@decide p d, fun h => of_decide_eq_true h⟩
instance chkAnd {p q : Prop} [c : Chk p] [d : Chk q] : Chk (p ∧ q) := ⟨c.b && d.b, fun h => ⟨c.ok (Bool.and_eq_true_iff.mp h).1, d.ok (Bool.and_eq_true_iff.mp h).2⟩⟩
instance chkBT {b : Bool} : Chk (b = true) := ⟨b, id⟩
theorem b2 {a b : Bool} (h : (a && b) = true) : a = true ∧ b = true := Bool.and_eq_true_iff.mp h
section
variable {K : PySem.W.Frag} {C g p : Addr} {op : Operator} {m : Str}
instance chkCIn : Chk (CIn K C) := ⟨Chk.b (PySem.W.typeIn K (.ref C) = some (.type "type") ∧ PySem.W.readsIn K C (.type "type") = true ∧ PySem.W.specialIn K (.ref C) "__getattribute__" = some (some (.builtin "type.__getattribute__"))) && (match PySem.W.findCls K (.ref C) (.type "type") "__init__" with
    | some (.val (.builtin i)) => decide (i = "ValueError.__init__")
    | _ => false), fun h => by
  obtain ⟨h1, h2⟩ := b2 h
  obtain ⟨x1, x2, x3⟩ := Chk.ok h1
  refine ⟨x1, x2, x3, ?_⟩
  split at h2
  · rename_i i e
    rw [of_decide_eq_true h2] at e
    exact e
  · cases h2⟩
instance chkExcC : Chk (ExcC K C) := ⟨Chk.b (PySem.W.findIn K (.ref C) "__getattribute__" = some (some (.builtin "BaseException.__getattribute__")) ∧ PySem.W.findIn K (.ref C) "__getattr__" = some none ∧ PySem.W.subIn K (.ref C) (.type "BaseException") = some true ∧ PySem.W.hasDictIn K C = true ∧ PySem.W.findIn K (.ref C) "__class__" = some (some (.builtin "object.__class__")) ∧ PySem.W.specialIn K (.builtin "object.__class__") "__get__" = some (some (.builtin "getset_descriptor.__get__")) ∧ PySem.W.takesIn K (.builtin "object.__class__") = some true ∧ PySem.W.mroIn K C (.type "object") = some true), fun h =>
  let ⟨x1, x2, x3, x4, x5, x6, x7, x8⟩ := Chk.ok h
  ⟨x1, x2, x3, x4, x5, x6, x7, x8⟩⟩
instance chkXfC : Chk (XfC K C) := ⟨xfB K C, xfB_ok⟩
def excB (K : PySem.W.Frag) (C : Addr) (r : List Value → Bool) (nid : String) : Bool := match K.lookup C with
  | some ⟨.type "type", _, .cls cd, sl⟩ => (match cd.mro, sl.toList with
    | .ref C' :: bm, [_, _, _, _, some (.builtin n), _] => C' == C && n == nid && !cd.hasDel && cd.hasDict && r bm
    | _, _ => false)
  | _ => false
theorem excB_ok {r : List Value → Bool} {nid : String} (q : excB K C r nid = true) : ∃ nm qn N bs bm sn sub ab col dd k0 k1 k2 k3 k5, K.lookup C = some (excClassObj nm qn C N bs bm true sn sub ab col dd k0 k1 k2 k3 k5 nid) ∧ r bm = true := by
  unfold excB at q
  split at q
  · rename_i dd cd sl ho
    split at q
    · rename_i C' bm k0 k1 k2 k3 n k5 hm hs
      simp only [Bool.and_eq_true, beq_iff_eq, Bool.not_eq_true'] at q
      obtain ⟨⟨⟨⟨e1, e2⟩, e3⟩, e4⟩, hr⟩ := q
      subst e1 e2
      obtain ⟨nm, bs, mro, ns, qn, hd, sn, sub, ab, col, del⟩ := cd
      dsimp only at hm e3 e4
      subst hm e3 e4
      have hsl : sl = #[k0, k1, k2, k3, some (.builtin n), k5] := by
        obtain ⟨l⟩ := sl
        exact congrArg Array.mk hs
      subst hsl
      exact ⟨nm, qn, ns, bs, bm, sn, sub, ab, col, dd, k0, k1, k2, k3, k5, ho, hr⟩
    · cases q
  · cases q
instance chkOexC : Chk (OexC K C) := ⟨excB K C PySem.HandSPX.refsVE "ValueError.__new__" && Chk.b (PySem.W.findIn K (.ref C) "__setattr__" = some (some (.builtin "object.__setattr__")) ∧ PySem.W.subIn K (.ref C) (.type "BaseException") = some true ∧ PySem.W.typeIn K (.ref C) = some (.type "type") ∧ PySem.W.keepIn K (.ref C) = true), fun h => by
  obtain ⟨h1, h2⟩ := b2 h
  obtain ⟨x1, x2, x3, x4⟩ := Chk.ok h2
  obtain ⟨nm, qn, N, bs, bm, sn, sub, ab, col, dd, k0, k1, k2, k3, k5, e, r⟩ := excB_ok h1
  exact ⟨⟨nm, qn, N, bs, bm, sn, sub, ab, col, dd, k0, k1, k2, k3, k5, e, r⟩, x1, x2, x3, x4⟩⟩
def tlB (t : List Value) : List Value → Bool
  | .ref c :: r => decide (Value.ref c :: r = t) || tlB t r
  | l => decide (l = t)
theorem tlB_ok {t : List Value} : ∀ {l : List Value}, tlB t l = true → Tl t l
  | l, h => by
    unfold tlB at h
    split at h
    · rename_i c r
      rcases Bool.or_eq_true_iff.mp h with h | h
      · rw [of_decide_eq_true h]; exact .base
      · exact .ref (tlB_ok h)
    · rw [of_decide_eq_true h]; exact .base
instance chkOexB {t : List Value} {nid : String} : Chk (OexB K C t nid) := ⟨excB K C (tlB t) nid && Chk.b (PySem.W.findIn K (.ref C) "__setattr__" = some (some (.builtin "object.__setattr__")) ∧ PySem.W.subIn K (.ref C) (.type "BaseException") = some true ∧ PySem.W.typeIn K (.ref C) = some (.type "type") ∧ PySem.W.keepIn K (.ref C) = true), fun h => by
  obtain ⟨h1, h2⟩ := b2 h
  obtain ⟨x1, x2, x3, x4⟩ := Chk.ok h2
  obtain ⟨nm, qn, N, bs, bm, sn, sub, ab, col, dd, k0, k1, k2, k3, k5, e, r⟩ := excB_ok h1
  exact ⟨⟨nm, qn, N, bs, bm, sn, sub, ab, col, dd, k0, k1, k2, k3, k5, e, tlB_ok r⟩, x1, x2, x3, x4⟩⟩
instance chkNeC : Chk (NeC K C) := ⟨Chk.b (PySem.W.mroIn K C (.type "object") = some true ∧ PySem.W.findIn K (.ref C) "__ne__" = some (some (.builtin "object.__ne__"))), fun h => let ⟨x1, x2⟩ := Chk.ok h; ⟨x1, x2⟩⟩
instance chkOthC : Chk (OthC K C) := ⟨Chk.b (PySem.W.subIn K (.type "NoneType") (.ref C) = some false ∧ PySem.W.subIn K (.type "bool") (.ref C) = some false ∧ PySem.W.subIn K (.type "int") (.ref C) = some false ∧ PySem.W.subIn K (.type "str") (.ref C) = some false ∧ PySem.W.subIn K (.type "tuple") (.ref C) = some false ∧ PySem.W.subIn K (.type "list") (.ref C) = some false), fun h => let ⟨x1, x2, x3, x4, x5, x6⟩ := Chk.ok h; ⟨x1, x2, x3, x4, x5, x6⟩⟩
instance chkNoIn : Chk (NoIn K C op) := ⟨(match PySem.W.clsIn K C with
    | some cd => decide (cd.mro = [.ref C, .type "object"])
    | none => false) && Chk.b (PySem.W.findIn K (.ref C) (dunderI op.info.2) = some none ∧ PySem.W.findIn K (.type "object") (dunderI op.info.2) = some none), fun h => by
  obtain ⟨h1, h2⟩ := b2 h
  obtain ⟨x1, x2⟩ := Chk.ok h2
  refine ⟨?_, x1, x2⟩
  split at h1
  · rename_i cd e
    exact ⟨cd, e, of_decide_eq_true h1⟩
  · cases h1⟩
instance chkOpC : Chk (OpC K C op g) := ⟨Chk.b (PySem.W.selfFirst K C = true ∧ PySem.W.findIn K (.ref C) (PySem.dunder op.info.2) = some (some (.ref g)) ∧ PySem.W.isFn K (.ref g) = true ∧ PySem.W.subIn K (.type "int") (.ref C) = some false) && ((match PySem.W.findIn K (.ref C) (dunderR op.info.2) with
    | some none => true
    | some (some (.ref _)) => true
    | _ => false) && ((PySem.W.findIn K (.type "int") (PySem.dunder op.info.2)).isSome && (PySem.W.findIn K (.type "int") (dunderR op.info.2)).isSome)), fun h => by
  obtain ⟨h1, h⟩ := b2 h
  obtain ⟨h2, h⟩ := b2 h
  obtain ⟨h3, h4⟩ := b2 h
  obtain ⟨x1, x2, x3, x4⟩ := Chk.ok h1
  refine ⟨x1, x2, x3, ?_, Option.isSome_iff_exists.mp h3, Option.isSome_iff_exists.mp h4, x4⟩
  split at h2
  · rename_i e; exact ⟨_, e, .inl rfl⟩
  · rename_i e; exact ⟨_, e, .inr ⟨_, rfl⟩⟩
  · cases h2⟩
instance chkOpR : Chk (OpR' K C op g) := ⟨Chk.b (PySem.W.selfFirst K C = true ∧ PySem.W.findIn K (.ref C) (dunderR op.info.2) = some (some (.ref g)) ∧ PySem.W.isFn K (.ref g) = true ∧ PySem.W.subIn K (.ref C) (.type "int") = some false) && ((match PySem.W.findIn K (.ref C) (PySem.dunder op.info.2) with
    | some (some (.ref _)) => true
    | _ => false) && (match PySem.W.findIn K (.type "int") (PySem.dunder op.info.2), PySem.W.findIn K (.type "int") (dunderR op.info.2) with
    | some fo, some ro => ((fo.isSome && !isSeqSlot fo) || (ro.isSome && !isSeqSlot ro))
    | _, _ => false)), fun h => by
  obtain ⟨h1, h⟩ := b2 h
  obtain ⟨h2, h3⟩ := b2 h
  obtain ⟨x1, x2, x3, x4⟩ := Chk.ok h1
  refine ⟨x1, ?_, x2, x3, ?_, x4⟩
  · split at h2
    · rename_i e; exact ⟨_, e⟩
    · cases h2
  · split at h3
    · rename_i fo ro e1 e2; exact ⟨fo, ro, e1, e2, h3⟩
    · cases h3⟩
instance chkProp : Chk (PropOf K C m p g) := ⟨Chk.b (PySem.W.findIn K (.ref C) m = some (some (.ref p)) ∧ PySem.W.specialIn K (.ref p) "__get__" = some (some (.builtin "property.__get__")) ∧ PySem.W.takesIn K (.ref p) = some true) && (match PySem.W.recIn K p "property" with
    | some (.ref f :: _) => decide (f = g)
    | _ => false), fun h => by
  obtain ⟨h1, h2⟩ := b2 h
  obtain ⟨x1, x2, x3⟩ := Chk.ok h1
  refine ⟨x1, x2, x3, ?_⟩
  split at h2
  · rename_i f r e
    rw [of_decide_eq_true h2] at e
    exact ⟨r, e⟩
  · cases h2⟩
instance chkSmC : Chk (SmC K C m p g) := ⟨Chk.b (PySem.W.specialIn K (.ref C) "__getattribute__" = some (some (.builtin "type.__getattribute__")) ∧ PySem.W.typeIn K (.ref C) = some (.type "type") ∧ PySem.W.readsIn K C (.type "type") = true) && ((match PySem.W.findCls K (.ref C) (.type "type") m with
    | some (.get (.builtin i) (.ref p') .none (.ref C')) => decide (i = "staticmethod.__get__") && (decide (p' = p) && decide (C' = C))
    | _ => false) && (match PySem.W.recIn K p "staticmethod" with
    | some (.ref f :: _) => decide (f = g)
    | _ => false)), fun h => by
  obtain ⟨h1, h⟩ := b2 h
  obtain ⟨h2, h3⟩ := b2 h
  obtain ⟨x1, x2, x3⟩ := Chk.ok h1
  refine ⟨x1, x2, x3, ?_, ?_⟩
  · split at h2
    · rename_i i p' C' e
      obtain ⟨y1, y⟩ := b2 h2
      obtain ⟨y2, y3⟩ := b2 y
      rw [of_decide_eq_true y1, of_decide_eq_true y2, of_decide_eq_true y3] at e
      exact e
    · cases h2
  · split at h3
    · rename_i f r e
      rw [of_decide_eq_true h3] at e
      exact ⟨r, e⟩
    · cases h3⟩
instance chkGint {x : Str} {i : Int} : Chk (∃ t, PySem.W.nsIn K mainGlobals x = some (some (.int i t))) := ⟨(match PySem.W.nsIn K mainGlobals x with
    | some (some (.int j _)) => decide (j = i)
    | _ => false), fun h => by
  split at h
  · rename_i j t e
    rw [of_decide_eq_true h] at e
    exact ⟨t, e⟩
  · cases h⟩
instance chkGstr {x y : Str} : Chk (∃ t, PySem.W.nsIn K mainGlobals x = some (some (.str y t))) := ⟨(match PySem.W.nsIn K mainGlobals x with
    | some (some (.str z _)) => decide (z = y)
    | _ => false), fun h => by
  split at h
  · rename_i j t e
    rw [of_decide_eq_true h] at e
    exact ⟨t, e⟩
  · cases h⟩
def tupAt (K : PySem.W.Frag) (a : Addr) (vs : List V) : Bool := match K.lookup a with
  | some ⟨.type c, _, .seq its _, _⟩ => decide (c = "tuple") && (decide (its.size ≤ sizeLine) && He.relAll vs its.toList)
  | _ => false
theorem tupAt_ok {a : Addr} {vs : List V} (h : tupAt K a vs = true) : SqT K (fun _ => none) a vs := by
  unfold tupAt at h
  split at h
  · rename_i c od its n sl e
    obtain ⟨h1, h⟩ := b2 h
    obtain ⟨h2, h3⟩ := b2 h
    exact .inr ⟨_, its, n, e, congrArg Value.type (of_decide_eq_true h1), rfl, of_decide_eq_true h2, He.relAll_ok h3⟩
  · cases h
instance chkSqT {a : Addr} {vs : List V} : Chk (SqT K (fun _ => none) a vs) := ⟨tupAt K a vs, tupAt_ok⟩
instance chkKitB {u : String} {b : Bool} : Chk (PySem.W.kitOne K (.ref C) (.type u) = some b) := ⟨PySem.W.kitMeta u && Chk.b (PySem.W.subIn K (.ref C) (.type u) = some b), fun h => kit_tyb (b2 h).1 (Chk.ok (b2 h).2)⟩
instance chkKitC {t : Value} {b : Bool} : Chk (PySem.W.kitOne K t (.ref C) = some b) := ⟨!(t == .ref C) && Chk.b (PySem.W.hasDictIn K C = true ∧ PySem.W.typeIn K (.ref C) = some (.type "type") ∧ PySem.W.subIn K t (.ref C) = some b), fun h => by
  obtain ⟨h1, h2⟩ := b2 h
  obtain ⟨x1, x2, x3⟩ := Chk.ok h2
  exact kit_cls (by simpa using h1) x1 x2 x3⟩
instance chkExm {t : Value} {b : Bool} : Chk (PySem.W.exmOne K t (.ref C) = some b) := ⟨Chk.b (PySem.W.subIn K (.ref C) (.type "BaseException") = some true ∧ PySem.W.hasDictIn K C = true ∧ PySem.W.typeIn K (.ref C) = some (.type "type") ∧ PySem.W.subIn K t (.ref C) = some b), fun h => let ⟨x1, x2, x3, x4⟩ := Chk.ok h; PySem.W.exm_ref x1 x2 x3 x4⟩
instance chkBi {B : String} {n : Str} {i : String} : Chk (PySem.W.findCls K (.type B) (.type "type") n = some (.val (.builtin i))) := ⟨(match PySem.W.findCls K (.type B) (.type "type") n with
    | some (.val (.builtin j)) => decide (j = i)
    | _ => false), fun h => by
  split at h
  · rename_i j e
    rw [of_decide_eq_true h] at e
    exact e
  · cases h⟩
end
abbrev Pa := PySem.W.Frag → Addr
def gP (x : Str) : Pa := fun K => He.ga K x
def mP (c : Pa) (m : Str) : Pa := fun K => He.ma K (c K) m
def rP (p : Pa) (kind : String) : Pa := fun K => match PySem.W.recIn K (p K) kind with
  | some (.ref g :: _) => g
  | _ => 0
def dfP (f : Pa) (i : Nat) : Pa := fun K => match K.lookup (f K) with
  | some ⟨_, _, .func fd, _⟩ => (match fd.defaults with
    | .ref t => (match K.lookup t with
      | some ⟨_, _, .seq its _, _⟩ => (match its.toList[i]? with
        | some (.ref a) => a
        | _ => 0)
      | _ => 0)
    | _ => 0)
  | _ => 0
structure DefX where
  at_ : Pa
  name : Str
  qual : Str
  params : Arguments
  body : List Stmt
  scope : Scope
  dfl : List He.Dv := []
  kwd : List (Str × He.Dv) := []
def DefX.val (d : DefX) : He.FnW := some (d.name, d.qual, d.params, .stmts d.body, d.scope, mainGlobals, [], builtinsNs)
def DefX.dvs (K : PySem.W.Frag) (d : DefX) : List V := d.dfl.map (He.Dv.v K)
def DefX.kws (K : PySem.W.Frag) (d : DefX) : List (Str × V) := d.kwd.map fun q => (q.1, q.2.v K)
def fnX (K : PySem.W.Frag) (a : Addr) : He.FnW := match K.lookup a with
  | some ⟨_, _, .func fd, _⟩ => some (fd.name, fd.qualname, fd.params, fd.body, fd.scope, fd.globals, fd.closure, fd.builtins)
  | _ => none
def DefX.ok (K : PySem.W.Frag) (d : DefX) : Bool := PySem.W.keepIn K (.ref (d.at_ K)) && (match K.lookup (d.at_ K) with
  | some ⟨_, _, .func fd, _⟩ => PySem.W.codeIn K fd.code d.qual && (He.dflB K fd.defaults (d.dvs K) && He.kwdB K fd.kwdefaults (d.kws K))
  | _ => false)
theorem DefX.funD {K : PySem.W.Frag} {d : DefX} (e : fnX K (d.at_ K) = d.val) (c : d.ok K = true) : ∃ fd, FunD K d.name d.qual d.params d.body d.scope (d.dvs K) (d.kws K) (d.at_ K) fd := by
  obtain ⟨kp, c2⟩ := b2 c
  unfold fnX at e
  split at e
  · rename_i oc od fd osl q
    rw [q] at c2
    obtain ⟨n1, n2, n3, n4, n5, n6, n7, n8, n9, n10, n11, n12, n13, n14, n15⟩ := fd
    have e2 : (some (n1, n2, n3, n4, n5, n6, n7, n15) : He.FnW) = some (d.name, d.qual, d.params, .stmts d.body, d.scope, mainGlobals, [], builtinsNs) := e
    simp only [Option.some.injEq, Prod.mk.injEq] at e2
    obtain ⟨h1, h2, h3, h4, h5, h6, h7, h8⟩ := e2
    subst h1 h2 h3 h4 h5 h6 h7 h8
    have c3 : (PySem.W.codeIn K n13 d.qual && (He.dflB K n8 (d.dvs K) && He.kwdB K n9 (d.kws K))) = true := c2
    obtain ⟨k1, k2⟩ := b2 c3
    obtain ⟨k3, k4⟩ := b2 k2
    exact ⟨_, ⟨oc, od, n8, n9, n10, n11, n12, n13, n14, osl, rfl, q, k1, He.dflB_ok k3, He.kwdB_ok k4⟩, kp⟩
  · cases e
theorem toFun {K : PySem.W.Frag} {x qual : Str} {st : Stmt} {f : Addr} {fd : FuncData} (h : FunD K x qual (defArgs st) (defBody st) (defScope st) [] [] f fd) : L2.Fun K x qual st f fd := by
  obtain ⟨oc, od, dV, kV, doc, pm, an, cdv, ct, osl, e, lk, hcd, hd, hk⟩ := h.ex
  rcases hd with ⟨_, rfl⟩ | ⟨z, _⟩
  · exact ⟨⟨oc, od, kV, doc, pm, an, cdv, ct, osl, e, lk, hcd⟩, h.kp⟩
  · exact absurd rfl z
structure Pc where
  p : PySem.W.Frag → Prop
  c : ∀ K, Chk (p K)
abbrev AlX : Type := Bool × List He.FnW
def obsX (fl : List Pc) (fn : List DefX) (K : PySem.W.Frag) : AlX := ((fl.all fun f => (f.c K).b) && fn.all fun d => d.ok K, fn.map fun d => fnX K (d.at_ K))
def valX (fn : List DefX) : AlX := (true, fn.map DefX.val)
def SaysX (fl : List Pc) (fn : List DefX) (K : PySem.W.Frag) : Prop := obsX fl fn K = valX fn
def reachT (g : Addr → Option Obj) : Nat → Nat → List (Addr × Obj) → List Addr → List (Addr × Obj)
  | 0, _, acc, _ => acc
  | n + 1, t, acc, front => match step front t acc [] with
    | (t', acc', nf) => reachT g n t' acc' nf
where step : List Addr → Nat → List (Addr × Obj) → List Addr → Nat × List (Addr × Obj) × List Addr
  | [], t, acc, nf => (t, acc, nf)
  | a :: as, t, acc, nf => match Nat.beq (Nat.land (Nat.shiftRight t a) 1) 0 with
    | false => step as t acc nf
    | true => match g a with
      | some o => step as (Nat.lor t (Nat.shiftLeft 1 a)) ((a, o) :: acc) (He.refsD o ++ nf)
      | none => step as t acc nf
def KX (g : Addr → Option Obj) (n : Nat) : PySem.W.Frag := (reachT g n 0 [] [mainGlobals, cStatics]).reverse
theorem reach_step {g : Addr → Option Obj} : ∀ {as : List Addr} {t : Nat} {acc : List (Addr × Obj)} {nf : List Addr}, (∀ q ∈ acc, g q.1 = some q.2) → ∀ q ∈ (reachT.step g as t acc nf).2.1, g q.1 = some q.2
  | [], t, acc, nf, h => h
  | a :: as, t, acc, nf, h => by
    unfold reachT.step
    split
    · exact reach_step h
    · split
      · rename_i o e
        exact reach_step fun q hq => by
          rcases List.mem_cons.mp hq with rfl | hq
          · exact e
          · exact h q hq
      · exact reach_step h
theorem reach_ok {g : Addr → Option Obj} : ∀ {n : Nat} {t : Nat} {acc : List (Addr × Obj)} {front : List Addr}, (∀ q ∈ acc, g q.1 = some q.2) → ∀ q ∈ reachT g n t acc front, g q.1 = some q.2
  | 0, _, _, _, h => h
  | n + 1, t, acc, front, h => by
    unfold reachT
    exact reach_ok (reach_step h)
theorem KX_in {h : Heap} {n : Nat} : (KX h.get? n).In h := fun a o e => by
  have hm : (a, o) ∈ KX h.get? n := by
    have : ∀ {l : PySem.W.Frag}, l.lookup a = some o → (a, o) ∈ l := by
      intro l
      induction l with
      | nil => intro e; cases e
      | cons p l ih =>
        intro e
        obtain ⟨b, ob⟩ := p
        rw [List.lookup_cons] at e
        cases q : a == b with
        | true =>
          rw [q] at e
          cases e
          rw [beq_iff_eq.mp q]
          exact List.mem_cons_self
        | false =>
          rw [q] at e
          exact List.mem_cons_of_mem _ (ih e)
    exact this e
  exact reach_ok (g := h.get?) (fun q hq => by cases hq) (a, o) (List.mem_reverse.mp hm)
def hookX (n : Nat) (fl : List Pc) (fn : List DefX) : PySem.W.Hook where
  α := AlX
  obs := fun s => obsX fl fn (KX s.heap.get? n)
  val := fun _ => valX fn
  says := fun _ h => ∃ K : PySem.W.Frag, K.In h ∧ SaysX fl fn K
  of := fun _ _ e => ⟨_, KX_in, e⟩
  keeps := fun _ _ _ ⟨K, hK, c⟩ k => ⟨K, PySem.W.Frag.In.keeps hK k, c⟩
def obX (n : Nat) (fl : List Pc) (fn : List DefX) (s : PySem.W.SharedT) : AlX := obsX fl fn (KX (HandSHeadRun.getT s) n)
theorem obX_eq (n : Nat) (fl : List Pc) (fn : List DefX) (s : PySem.W.SharedT) : obX n fl fn s = (hookX n fl fn).obs s.abs := by
  have e : HandSHeadRun.getT s = s.abs.heap.get? := funext (HandSHeadRun.getT_eq s)
  unfold obX
  rw [e]
  rfl
section
variable {fl : List Pc} {fn : List DefX} {K : PySem.W.Frag}
theorem SaysX.fact (c : SaysX fl fn K) (i : Nat) {f : Pc} (h : fl[i]? = some f := by rfl) : f.p K := by
  have c1 := (b2 (show ((fl.all fun f => (f.c K).b) && fn.all fun d => d.ok K) = true from congrArg (fun z : AlX => z.1) c)).1
  exact (f.c K).ok (List.all_eq_true.mp c1 f (List.mem_of_getElem? h))
theorem SaysX.def_ (c : SaysX fl fn K) (i : Nat) {d : DefX} (h : fn[i]? = some d := by rfl) : ∃ fd, FunD K d.name d.qual d.params d.body d.scope (d.dvs K) (d.kws K) (d.at_ K) fd := by
  have c2 := (b2 (show ((fl.all fun f => (f.c K).b) && fn.all fun d => d.ok K) = true from congrArg (fun z : AlX => z.1) c)).2
  have e : fn.map (fun d => fnX K (d.at_ K)) = fn.map DefX.val := congrArg (fun z : AlX => z.2) c
  have e2 : (fn.map fun d => fnX K (d.at_ K))[i]? = (fn.map DefX.val)[i]? := by rw [e]
  rw [List.getElem?_map, List.getElem?_map, h] at e2
  exact DefX.funD (Option.some.inj e2) (List.all_eq_true.mp c2 d (List.mem_of_getElem? h))
end
def Run1 {α : Type} (r : PySem.W.OpenRow) (M : Nat) (f : PySem.W.SharedT → α) (a : α) (w : World) : Prop := ∀ os : OsState, (HandSHeadRun.endF (HandSHeadRun.stepQ (HandSHeadRun.denQ HandSHeadRun.tabQ) r.prog w) M r.prog w os).map f = some a
theorem run3 {r : PySem.W.OpenRow} {q : Program} {H : PySem.W.Hook} {ob : PySem.W.SharedT → H.α} {M : Nat} {loose : List Str} {w : World} (h1 : Run1 r M (fun s => HandSHeadRun.looksF r.prog (PySem.W.boot_heap w.params) s.abs) true w)
    (h2 : Run1 r M (fun s => HandSHeadRun.seenQ q loose (importedModules r.prog.main.body) (fun s => PySem.W.xlAt q [] s && PySem.W.recOk r.toRowW.records s) s.abs) (PySem.W.openGood q loose) w) (h3 : Run1 r M ob (H.val w) w) : HandSHeadRun.RunEq r q H ob M loose w := fun os => by
  have a1 := h1 os
  have a2 := h2 os
  have a3 := h3 os
  cases e : HandSHeadRun.endF (HandSHeadRun.stepQ (HandSHeadRun.denQ HandSHeadRun.tabQ) r.prog w) M r.prog w os with
  | none => rw [e] at a1; cases a1
  | some s =>
    rw [e] at a1 a2 a3
    have b1 := Option.some.inj a1
    have b2 := Option.some.inj a2
    have b3 := Option.some.inj a3
    show some (_, _, _) = some _
    exact congrArg some (Prod.ext b1 (Prod.ext b2 b3))
theorem walk_xB {l : PySem.W.OpenLaw} {n k : Nat} {q : Program} {loose : List Str} {XP : (Str → Option Value) → Heap → Prop} {YP : World → Heap → Prop} {d : DefRec} {x : Str} (hn : l.most = some n) (hn2 : n ≤ sizeLine) (hdf : d.params.defaults = []) (hr : Room k callerA)
    (F : ∀ (w : World) (mg : Str → Option Value) (fa : Addr) (h : Heap), YP w h → h.Ns mainGlobals mg → mg d.name = some (.ref fa) → ∃ (K : PySem.W.Frag) (fd : FuncData), K.In h ∧ (∀ (s : Shared) (u : Value), BindsTo s fd ⟨[u], []⟩ [(x, u)]) ∧ ∀ base : Heap, K.In base → base.Ns mainGlobals mg → FnOk l.prog w K mg base CX0 k fa fd [x] (spL K))
    (h63 : n ≤ 63) : PySem.W.WalkO q loose XP YP l.row.toRowW d [] (fun f vs => PySem.call f vs) := by
  refine Att.attach_callB hn hdf fun w s₀ s₁ mg mb fa o pm cd doc a vs ns G Y ho hd hcd hmg hobj hints hlen hbits hg => ?_
  obtain ⟨K, fd, KX, hb, hF⟩ := F w mg fa _ Y G.T.g hmg
  exact law_call KX G.T.g G.T.b G.T.builtins G.T.nolimit hg hobj hints (Nat.le_trans hlen hn2) hr hF hb (fun H hO hS => Dl.spL_of H a ns (Nat.le_trans hlen h63) hbits hO hS) fun H e s' h => h
end Dl
namespace K
open PySem L2 Dl
def top (i : Nat) : Stmt := PySem.Challenge.pw_clashcounts_k37_texts_that_are_none.main.body.getD i (.Pass ⟨0, 0, 0, 0⟩)
abbrev FD (K : PySem.W.Frag) (x qual : Str) (st : Stmt) (dvs : List V) (kws : List (Str × V)) (f : Addr) (fd : FuncData) : Prop := FunD K x qual (defArgs st) (defBody st) (defScope st) dvs kws f fd
abbrev s__law_box : Stmt := top 57
theorem sc__law_box : FnScope ["_law_script", "_law_k", "_law_cell", "_law_seed"] ["_law_script", "_law_k"] (defScope s__law_box) := ⟨rfl, rfl, rfl, by decide +kernel, rfl, by decide +kernel, by decide +kernel⟩
abbrev s_InvalidSizes___init__ : Stmt := inClass (top 5) 0
theorem sc_InvalidSizes___init__ : FnScope ["self", "word"] ["self", "word"] (defScope s_InvalidSizes___init__) := ⟨rfl, rfl, rfl, by decide +kernel, rfl, by decide +kernel, by decide +kernel⟩
abbrev s_prime_powers : Stmt := top 12
theorem sc_prime_powers : FnScope ["number", "found", "left", "prime", "power"] ["number"] (defScope s_prime_powers) := ⟨rfl, rfl, rfl, by decide +kernel, rfl, by decide +kernel, by decide +kernel⟩
abbrev s_is_needless : Stmt := top 40
theorem sc_is_needless : FnScope ["period", "known", "prime", "size"] ["period", "known", "prime"] (defScope s_is_needless) := ⟨rfl, rfl, rfl, by decide +kernel, rfl, by decide +kernel, by decide +kernel⟩
abbrev s_shortest : Stmt := top 41
theorem sc_shortest : FnScope ["period", "classes", "known", "size", "prime", "power", "turn"] ["period", "classes"] (defScope s_shortest) := ⟨rfl, rfl, rfl, by decide +kernel, rfl, by decide +kernel, by decide +kernel⟩
abbrev s_is_integer : Stmt := top 8
theorem sc_is_integer : FnScope ["value"] ["value"] (defScope s_is_integer) := ⟨rfl, rfl, rfl, by decide +kernel, rfl, by decide +kernel, by decide +kernel⟩
abbrev s_are_sizes : Stmt := top 39
theorem sc_are_sizes : FnScope ["value", "number", "a", "b"] ["value"] (defScope s_are_sizes) := ⟨rfl, rfl, rfl, by decide +kernel, rfl, by decide +kernel, by decide +kernel⟩
abbrev s_Sizes___init__ : Stmt := inClass (top 42) 0
theorem sc_Sizes___init__ : FnScope ["self", "period", "classes", "odd", "size"] ["self", "period", "classes", "odd"] (defScope s_Sizes___init__) := ⟨rfl, rfl, rfl, by decide +kernel, rfl, by decide +kernel, by decide +kernel⟩
abbrev s_InvalidCount___init__ : Stmt := inClass (top 4) 0
theorem sc_InvalidCount___init__ : FnScope ["self", "word"] ["self", "word"] (defScope s_InvalidCount___init__) := ⟨rfl, rfl, rfl, by decide +kernel, rfl, by decide +kernel, by decide +kernel⟩
abbrev s_ascend : Stmt := top 19
theorem sc_ascend : FnScope ["pairs", "last", "size", "other"] ["pairs"] (defScope s_ascend) := ⟨rfl, rfl, rfl, by decide +kernel, rfl, by decide +kernel, by decide +kernel⟩
abbrev s_are_pairs : Stmt := top 20
theorem sc_are_pairs : FnScope ["value", "pair"] ["value"] (defScope s_are_pairs) := ⟨rfl, rfl, rfl, by decide +kernel, rfl, by decide +kernel, by decide +kernel⟩
abbrev s_are_integers : Stmt := top 18
theorem sc_are_integers : FnScope ["value", "number"] ["value"] (defScope s_are_integers) := ⟨rfl, rfl, rfl, by decide +kernel, rfl, by decide +kernel, by decide +kernel⟩
abbrev s_are_parts : Stmt := top 21
theorem sc_are_parts : FnScope ["value", "pair"] ["value"] (defScope s_are_parts) := ⟨rfl, rfl, rfl, by decide +kernel, rfl, by decide +kernel, by decide +kernel⟩
abbrev s_are_odd : Stmt := top 22
theorem sc_are_odd : FnScope ["value", "pair"] ["value"] (defScope s_are_odd) := ⟨rfl, rfl, rfl, by decide +kernel, rfl, by decide +kernel, by decide +kernel⟩
abbrev s_cut : Stmt := top 23
theorem sc_cut : FnScope ["coefficients", "many"] ["coefficients"] (defScope s_cut) := ⟨rfl, rfl, rfl, by decide +kernel, rfl, by decide +kernel, by decide +kernel⟩
abbrev s_worth : Stmt := top 24
theorem sc_worth : FnScope ["coefficients", "n", "found", "number"] ["coefficients", "n"] (defScope s_worth) := ⟨rfl, rfl, rfl, by decide +kernel, rfl, by decide +kernel, by decide +kernel⟩
abbrev s_plain_value : Stmt := top 26
theorem sc_plain_value : FnScope ["parts", "n", "size", "coefficients"] ["parts", "n"] (defScope s_plain_value) := ⟨rfl, rfl, rfl, by decide +kernel, rfl, by decide +kernel, by decide +kernel⟩
abbrev s_Count___init__ : Stmt := inClass (top 27) 0
theorem sc_Count___init__ : FnScope ["self", "parts", "odd", "short", "size", "coefficients", "pair"] ["self", "parts", "odd"] (defScope s_Count___init__) := ⟨rfl, rfl, rfl, by decide +kernel, rfl, by decide +kernel, by decide +kernel⟩
abbrev s__law_take : Stmt := top 58
theorem sc__law_take : FnScope ["_law_box_here", "_law_many", "_law_digit", "_law_one"] ["_law_box_here", "_law_many"] (defScope s__law_take) := ⟨rfl, rfl, rfl, by decide +kernel, rfl, by decide +kernel, by decide +kernel⟩
abbrev s__law_number : Stmt := top 60
theorem sc__law_number : FnScope ["_law_box_here", "_law_number_here"] ["_law_box_here"] (defScope s__law_number) := ⟨rfl, rfl, rfl, by decide +kernel, rfl, by decide +kernel, by decide +kernel⟩
abbrev s__law_counts : Stmt := top 61
theorem sc__law_counts : FnScope ["_law_box_here", "_law_a", "_law_b", "_law_c", "_law_one", "_law_more", "_law_two", "_law_n", "_law_first", "_law_second", "_law_plain", "_law_special", "_law_text", "_law_count", "_law_bad"] ["_law_box_here"] (defScope s__law_counts) := ⟨rfl, rfl, rfl, by decide +kernel, rfl, by decide +kernel, by decide +kernel⟩
abbrev s__law_sets : Stmt := top 62
theorem sc__law_sets : FnScope ["_law_box_here", "_law_prime", "_law_other", "_law_n", "_law_text", "_law_bad"] ["_law_box_here"] (defScope s__law_sets) := ⟨rfl, rfl, rfl, by decide +kernel, rfl, by decide +kernel, by decide +kernel⟩
abbrev s_InvalidText___init__ : Stmt := inClass (top 3) 0
theorem sc_InvalidText___init__ : FnScope ["self", "line"] ["self", "line"] (defScope s_InvalidText___init__) := ⟨rfl, rfl, rfl, by decide +kernel, rfl, by decide +kernel, by decide +kernel⟩
abbrev s_Count_parts : Stmt := inClass (top 27) 1
theorem sc_Count_parts : FnScope ["self"] ["self"] (defScope s_Count_parts) := ⟨rfl, rfl, rfl, by decide +kernel, rfl, by decide +kernel, by decide +kernel⟩
abbrev s_Count_odd : Stmt := inClass (top 27) 2
theorem sc_Count_odd : FnScope ["self"] ["self"] (defScope s_Count_odd) := ⟨rfl, rfl, rfl, by decide +kernel, rfl, by decide +kernel, by decide +kernel⟩
abbrev s_Sizes_odd : Stmt := inClass (top 42) 6
theorem sc_Sizes_odd : FnScope ["self"] ["self"] (defScope s_Sizes_odd) := ⟨rfl, rfl, rfl, by decide +kernel, rfl, by decide +kernel, by decide +kernel⟩
abbrev s_listed : Stmt := top 46
theorem sc_listed : FnScope ["words"] ["words"] (defScope s_listed) := ⟨rfl, rfl, rfl, by decide +kernel, rfl, by decide +kernel, by decide +kernel⟩
abbrev s_figures : Stmt := top 14
theorem sc_figures : FnScope ["number", "rest", "pieces", "low"] ["number"] (defScope s_figures) := ⟨rfl, rfl, rfl, by decide +kernel, rfl, by decide +kernel, by decide +kernel⟩
abbrev s_spaced : Stmt := top 45
theorem sc_spaced : FnScope ["numbers", "number"] ["numbers"] (defScope s_spaced) := ⟨rfl, rfl, rfl, by decide +kernel, rfl, by decide +kernel, by decide +kernel⟩
abbrev s_show_count : Stmt := top 47
theorem sc_show_count : FnScope ["count", "parts", "size", "coefficients", "odd", "number"] ["count"] (defScope s_show_count) := ⟨rfl, rfl, rfl, by decide +kernel, rfl, by decide +kernel, by decide +kernel⟩
abbrev s_number_told : Stmt := top 15
theorem sc_number_told : FnScope ["text", "begun", "found", "at"] ["text"] (defScope s_number_told) := ⟨rfl, rfl, rfl, by decide +kernel, rfl, by decide +kernel, by decide +kernel⟩
abbrev s_integer_of : Stmt := top 49
theorem sc_integer_of : FnScope ["word", "digits", "sign"] ["word"] (defScope s_integer_of) := ⟨rfl, rfl, rfl, by decide +kernel, rfl, by decide +kernel, by decide +kernel⟩
abbrev s_integers_of : Stmt := top 50
theorem sc_integers_of : FnScope ["text", "word"] ["text"] (defScope s_integers_of) := ⟨rfl, rfl, rfl, by decide +kernel, rfl, by decide +kernel, by decide +kernel⟩
abbrev s_pair_of : Stmt := top 51
theorem sc_pair_of : FnScope ["text", "ahead", "behind"] ["text"] (defScope s_pair_of) := ⟨rfl, rfl, rfl, by decide +kernel, rfl, by decide +kernel, by decide +kernel⟩
abbrev s_pairs_of : Stmt := top 52
theorem sc_pairs_of : FnScope ["text", "word"] ["text"] (defScope s_pairs_of) := ⟨rfl, rfl, rfl, by decide +kernel, rfl, by decide +kernel, by decide +kernel⟩
abbrev s_odd_of : Stmt := top 53
theorem sc_odd_of : FnScope ["pairs", "size", "numbers"] ["pairs"] (defScope s_odd_of) := ⟨rfl, rfl, rfl, by decide +kernel, rfl, by decide +kernel, by decide +kernel⟩
abbrev s_read_count : Stmt := top 54
theorem sc_read_count : FnScope ["text", "words", "found"] ["text"] (defScope s_read_count) := ⟨rfl, rfl, rfl, by decide +kernel, rfl, by decide +kernel, by decide +kernel⟩
abbrev s_Sizes_period : Stmt := inClass (top 42) 4
theorem sc_Sizes_period : FnScope ["self"] ["self"] (defScope s_Sizes_period) := ⟨rfl, rfl, rfl, by decide +kernel, rfl, by decide +kernel, by decide +kernel⟩
abbrev s_Sizes_classes : Stmt := inClass (top 42) 5
theorem sc_Sizes_classes : FnScope ["self"] ["self"] (defScope s_Sizes_classes) := ⟨rfl, rfl, rfl, by decide +kernel, rfl, by decide +kernel, by decide +kernel⟩
abbrev s_show_sizes : Stmt := top 48
theorem sc_show_sizes : FnScope ["sizes"] ["sizes"] (defScope s_show_sizes) := ⟨rfl, rfl, rfl, by decide +kernel, rfl, by decide +kernel, by decide +kernel⟩
abbrev s_read_sizes : Stmt := top 55
theorem sc_read_sizes : FnScope ["text", "words", "found"] ["text"] (defScope s_read_sizes) := ⟨rfl, rfl, rfl, by decide +kernel, rfl, by decide +kernel, by decide +kernel⟩
abbrev s__law_refused : Stmt := top 59
theorem sc__law_refused : FnScope ["_law_text", "_law_is_count", "_law_found", "e"] ["_law_text", "_law_is_count"] (defScope s__law_refused) := ⟨rfl, rfl, rfl, by decide +kernel, rfl, by decide +kernel, by decide +kernel⟩
abbrev s_Count___eq__ : Stmt := inClass (top 27) 6
theorem sc_Count___eq__ : FnScope ["self", "other"] ["self", "other"] (defScope s_Count___eq__) := ⟨rfl, rfl, rfl, by decide +kernel, rfl, by decide +kernel, by decide +kernel⟩
abbrev s_Sizes_told : Stmt := inClass (top 42) 15
theorem sc_Sizes_told : FnScope ["self"] ["self"] (defScope s_Sizes_told) := ⟨rfl, rfl, rfl, by decide +kernel, rfl, by decide +kernel, by decide +kernel⟩
abbrev s_Sizes___eq__ : Stmt := inClass (top 42) 16
theorem sc_Sizes___eq__ : FnScope ["self", "other"] ["self", "other"] (defScope s_Sizes___eq__) := ⟨rfl, rfl, rfl, by decide +kernel, rfl, by decide +kernel, by decide +kernel⟩
abbrev s_law : Stmt := top 63
theorem sc_law : FnScope ["_law_script", "_law_k", "_law_box_here", "_law_text", "_law_count", "_law_bad", "_law_other", "_law_sizes"] ["_law_script"] (defScope s_law) := ⟨rfl, rfl, rfl, by decide +kernel, rfl, by decide +kernel, by decide +kernel⟩
structure Tx (T : Tab) (K : PySem.W.Frag) (mg : Str → Option Value) where
  c_Count : Addr
  T_Count : T 0 = some (c_Count, (["short_parts", "short_odd"] : List Str))
  cl_Count : Cls K c_Count
  i_Count : IsiC K c_Count
  m_Count : mg "Count" = some (.ref c_Count)
  no_Count_short_parts : NoAttr K c_Count "short_parts"
  no_Count_short_odd : NoAttr K c_Count "short_odd"
  c_Sizes : Addr
  T_Sizes : T 1 = some (c_Sizes, (["short_period", "short_classes", "short_odd", "class_marks", "odd_marks"] : List Str))
  cl_Sizes : Cls K c_Sizes
  i_Sizes : IsiC K c_Sizes
  m_Sizes : mg "Sizes" = some (.ref c_Sizes)
  no_Sizes_short_period : NoAttr K c_Sizes "short_period"
  no_Sizes_short_classes : NoAttr K c_Sizes "short_classes"
  no_Sizes_short_odd : NoAttr K c_Sizes "short_odd"
  no_Sizes_class_marks : NoAttr K c_Sizes "class_marks"
  no_Sizes_odd_marks : NoAttr K c_Sizes "odd_marks"
  g_MOST_COEFFICIENTS : ∃ t, mg "MOST_COEFFICIENTS" = some (.int 4 t)
  g_FIGURES : ∃ t, mg "FIGURES" = some (.str "0123456789" t)
  c_ClashError : Addr
  m_ClashError : mg "ClashError" = some (.ref c_ClashError)
  ci_ClashError : CIn K c_ClashError
  bs_ClashError : PySem.W.subIn K (.ref c_ClashError) (.type "BaseException") = some true
  hd_ClashError : PySem.W.hasDictIn K c_ClashError = true
  c_InvalidCount : Addr
  T_InvalidCount : T 2 = some (c_InvalidCount, (["word"] : List Str))
  m_InvalidCount : mg "InvalidCount" = some (.ref c_InvalidCount)
  o_InvalidCount : OexC K c_InvalidCount
  x_InvalidCount : ExcC K c_InvalidCount
  xf_InvalidCount : XfC K c_InvalidCount
  no_InvalidCount_word : PySem.W.findIn K (.ref c_InvalidCount) "word" = some none
  c_InvalidSizes : Addr
  T_InvalidSizes : T 3 = some (c_InvalidSizes, (["word"] : List Str))
  m_InvalidSizes : mg "InvalidSizes" = some (.ref c_InvalidSizes)
  o_InvalidSizes : OexC K c_InvalidSizes
  x_InvalidSizes : ExcC K c_InvalidSizes
  xf_InvalidSizes : XfC K c_InvalidSizes
  no_InvalidSizes_word : PySem.W.findIn K (.ref c_InvalidSizes) "word" = some none
  c_InvalidText : Addr
  T_InvalidText : T 4 = some (c_InvalidText, (["line"] : List Str))
  m_InvalidText : mg "InvalidText" = some (.ref c_InvalidText)
  o_InvalidText : OexC K c_InvalidText
  x_InvalidText : ExcC K c_InvalidText
  xf_InvalidText : XfC K c_InvalidText
  no_InvalidText_line : PySem.W.findIn K (.ref c_InvalidText) "line" = some none
  z_abs : mg "abs" = none
  z_all : mg "all" = none
  z_any : mg "any" = none
  z_bool : mg "bool" = none
  z_int : mg "int" = none
  z_isinstance : mg "isinstance" = none
  z_len : mg "len" = none
  z_max : mg "max" = none
  z_min : mg "min" = none
  z_range : mg "range" = none
  z_str : mg "str" = none
  z_sum : mg "sum" = none
  z_tuple : mg "tuple" = none
  z_zip : mg "zip" = none
  a__law_box : Addr
  fd__law_box : FuncData
  F__law_box : Fun K "_law_box" "_law_box" s__law_box a__law_box fd__law_box
  b__law_box : Binds K fd__law_box ["_law_script", "_law_k"] []
  m__law_box : mg "_law_box" = some (.ref a__law_box)
  a_InvalidSizes___init__ : Addr
  fd_InvalidSizes___init__ : FuncData
  F_InvalidSizes___init__ : Fun K "__init__" "InvalidSizes.__init__" s_InvalidSizes___init__ a_InvalidSizes___init__ fd_InvalidSizes___init__
  b_InvalidSizes___init__ : Binds K fd_InvalidSizes___init__ ["self", "word"] []
  at_InvalidSizes___init__ : PySem.W.findIn K (.ref c_InvalidSizes) "__init__" = some (some (.ref a_InvalidSizes___init__))
  ty_InvalidSizes___init__ : PySem.W.typeIn K (.ref a_InvalidSizes___init__) = some (.type "function")
  a_prime_powers : Addr
  fd_prime_powers : FuncData
  F_prime_powers : Fun K "prime_powers" "prime_powers" s_prime_powers a_prime_powers fd_prime_powers
  b_prime_powers : Binds K fd_prime_powers ["number"] []
  m_prime_powers : mg "prime_powers" = some (.ref a_prime_powers)
  a_is_needless : Addr
  fd_is_needless : FuncData
  F_is_needless : Fun K "is_needless" "is_needless" s_is_needless a_is_needless fd_is_needless
  b_is_needless : Binds K fd_is_needless ["period", "known", "prime"] []
  m_is_needless : mg "is_needless" = some (.ref a_is_needless)
  a_shortest : Addr
  fd_shortest : FuncData
  F_shortest : Fun K "shortest" "shortest" s_shortest a_shortest fd_shortest
  b_shortest : Binds K fd_shortest ["period", "classes"] []
  m_shortest : mg "shortest" = some (.ref a_shortest)
  a_is_integer : Addr
  fd_is_integer : FuncData
  F_is_integer : Fun K "is_integer" "is_integer" s_is_integer a_is_integer fd_is_integer
  b_is_integer : Binds K fd_is_integer ["value"] []
  m_is_integer : mg "is_integer" = some (.ref a_is_integer)
  a_are_sizes : Addr
  fd_are_sizes : FuncData
  F_are_sizes : Fun K "are_sizes" "are_sizes" s_are_sizes a_are_sizes fd_are_sizes
  b_are_sizes : Binds K fd_are_sizes ["value"] []
  m_are_sizes : mg "are_sizes" = some (.ref a_are_sizes)
  a_Sizes___init__ : Addr
  fd_Sizes___init__ : FuncData
  dz_Sizes___init__ : Addr
  de_Sizes___init__ : SqT K (fun _ => none) dz_Sizes___init__ []
  F_Sizes___init__ : FD K "__init__" "Sizes.__init__" s_Sizes___init__ [.ref dz_Sizes___init__] [] a_Sizes___init__ fd_Sizes___init__
  K_Sizes : Mk K c_Sizes a_Sizes___init__
  a_InvalidCount___init__ : Addr
  fd_InvalidCount___init__ : FuncData
  F_InvalidCount___init__ : Fun K "__init__" "InvalidCount.__init__" s_InvalidCount___init__ a_InvalidCount___init__ fd_InvalidCount___init__
  b_InvalidCount___init__ : Binds K fd_InvalidCount___init__ ["self", "word"] []
  at_InvalidCount___init__ : PySem.W.findIn K (.ref c_InvalidCount) "__init__" = some (some (.ref a_InvalidCount___init__))
  ty_InvalidCount___init__ : PySem.W.typeIn K (.ref a_InvalidCount___init__) = some (.type "function")
  a_ascend : Addr
  fd_ascend : FuncData
  F_ascend : Fun K "ascend" "ascend" s_ascend a_ascend fd_ascend
  b_ascend : Binds K fd_ascend ["pairs"] []
  m_ascend : mg "ascend" = some (.ref a_ascend)
  a_are_pairs : Addr
  fd_are_pairs : FuncData
  F_are_pairs : Fun K "are_pairs" "are_pairs" s_are_pairs a_are_pairs fd_are_pairs
  b_are_pairs : Binds K fd_are_pairs ["value"] []
  m_are_pairs : mg "are_pairs" = some (.ref a_are_pairs)
  a_are_integers : Addr
  fd_are_integers : FuncData
  F_are_integers : Fun K "are_integers" "are_integers" s_are_integers a_are_integers fd_are_integers
  b_are_integers : Binds K fd_are_integers ["value"] []
  m_are_integers : mg "are_integers" = some (.ref a_are_integers)
  a_are_parts : Addr
  fd_are_parts : FuncData
  F_are_parts : Fun K "are_parts" "are_parts" s_are_parts a_are_parts fd_are_parts
  b_are_parts : Binds K fd_are_parts ["value"] []
  m_are_parts : mg "are_parts" = some (.ref a_are_parts)
  a_are_odd : Addr
  fd_are_odd : FuncData
  F_are_odd : Fun K "are_odd" "are_odd" s_are_odd a_are_odd fd_are_odd
  b_are_odd : Binds K fd_are_odd ["value"] []
  m_are_odd : mg "are_odd" = some (.ref a_are_odd)
  a_cut : Addr
  fd_cut : FuncData
  F_cut : Fun K "cut" "cut" s_cut a_cut fd_cut
  b_cut : Binds K fd_cut ["coefficients"] []
  m_cut : mg "cut" = some (.ref a_cut)
  a_worth : Addr
  fd_worth : FuncData
  F_worth : Fun K "worth" "worth" s_worth a_worth fd_worth
  b_worth : Binds K fd_worth ["coefficients", "n"] []
  m_worth : mg "worth" = some (.ref a_worth)
  a_plain_value : Addr
  fd_plain_value : FuncData
  F_plain_value : Fun K "plain_value" "plain_value" s_plain_value a_plain_value fd_plain_value
  b_plain_value : Binds K fd_plain_value ["parts", "n"] []
  m_plain_value : mg "plain_value" = some (.ref a_plain_value)
  a_Count___init__ : Addr
  fd_Count___init__ : FuncData
  dz_Count___init__ : Addr
  de_Count___init__ : SqT K (fun _ => none) dz_Count___init__ []
  F_Count___init__ : FD K "__init__" "Count.__init__" s_Count___init__ [.ref dz_Count___init__] [] a_Count___init__ fd_Count___init__
  K_Count : Mk K c_Count a_Count___init__
  a__law_take : Addr
  fd__law_take : FuncData
  F__law_take : Fun K "_law_take" "_law_take" s__law_take a__law_take fd__law_take
  b__law_take : Binds K fd__law_take ["_law_box_here", "_law_many"] []
  m__law_take : mg "_law_take" = some (.ref a__law_take)
  a__law_number : Addr
  fd__law_number : FuncData
  F__law_number : Fun K "_law_number" "_law_number" s__law_number a__law_number fd__law_number
  b__law_number : Binds K fd__law_number ["_law_box_here"] []
  m__law_number : mg "_law_number" = some (.ref a__law_number)
  a__law_counts : Addr
  fd__law_counts : FuncData
  F__law_counts : Fun K "_law_counts" "_law_counts" s__law_counts a__law_counts fd__law_counts
  b__law_counts : Binds K fd__law_counts ["_law_box_here"] []
  m__law_counts : mg "_law_counts" = some (.ref a__law_counts)
  a__law_sets : Addr
  fd__law_sets : FuncData
  F__law_sets : Fun K "_law_sets" "_law_sets" s__law_sets a__law_sets fd__law_sets
  b__law_sets : Binds K fd__law_sets ["_law_box_here"] []
  m__law_sets : mg "_law_sets" = some (.ref a__law_sets)
  a_InvalidText___init__ : Addr
  fd_InvalidText___init__ : FuncData
  F_InvalidText___init__ : Fun K "__init__" "InvalidText.__init__" s_InvalidText___init__ a_InvalidText___init__ fd_InvalidText___init__
  b_InvalidText___init__ : Binds K fd_InvalidText___init__ ["self", "line"] []
  at_InvalidText___init__ : PySem.W.findIn K (.ref c_InvalidText) "__init__" = some (some (.ref a_InvalidText___init__))
  ty_InvalidText___init__ : PySem.W.typeIn K (.ref a_InvalidText___init__) = some (.type "function")
  a_Count_parts : Addr
  fd_Count_parts : FuncData
  F_Count_parts : Fun K "parts" "Count.parts" s_Count_parts a_Count_parts fd_Count_parts
  b_Count_parts : Binds K fd_Count_parts ["self"] []
  p_Count_parts : Addr
  P_Count_parts : PropOf K c_Count "parts" p_Count_parts a_Count_parts
  a_Count_odd : Addr
  fd_Count_odd : FuncData
  F_Count_odd : Fun K "odd" "Count.odd" s_Count_odd a_Count_odd fd_Count_odd
  b_Count_odd : Binds K fd_Count_odd ["self"] []
  p_Count_odd : Addr
  P_Count_odd : PropOf K c_Count "odd" p_Count_odd a_Count_odd
  a_Sizes_odd : Addr
  fd_Sizes_odd : FuncData
  F_Sizes_odd : Fun K "odd" "Sizes.odd" s_Sizes_odd a_Sizes_odd fd_Sizes_odd
  b_Sizes_odd : Binds K fd_Sizes_odd ["self"] []
  p_Sizes_odd : Addr
  P_Sizes_odd : PropOf K c_Sizes "odd" p_Sizes_odd a_Sizes_odd
  a_listed : Addr
  fd_listed : FuncData
  F_listed : Fun K "listed" "listed" s_listed a_listed fd_listed
  b_listed : Binds K fd_listed ["words"] []
  m_listed : mg "listed" = some (.ref a_listed)
  a_figures : Addr
  fd_figures : FuncData
  F_figures : Fun K "figures" "figures" s_figures a_figures fd_figures
  b_figures : Binds K fd_figures ["number"] []
  m_figures : mg "figures" = some (.ref a_figures)
  a_spaced : Addr
  fd_spaced : FuncData
  F_spaced : Fun K "spaced" "spaced" s_spaced a_spaced fd_spaced
  b_spaced : Binds K fd_spaced ["numbers"] []
  m_spaced : mg "spaced" = some (.ref a_spaced)
  a_show_count : Addr
  fd_show_count : FuncData
  F_show_count : Fun K "show_count" "show_count" s_show_count a_show_count fd_show_count
  b_show_count : Binds K fd_show_count ["count"] []
  m_show_count : mg "show_count" = some (.ref a_show_count)
  a_number_told : Addr
  fd_number_told : FuncData
  F_number_told : Fun K "number_told" "number_told" s_number_told a_number_told fd_number_told
  b_number_told : Binds K fd_number_told ["text"] []
  m_number_told : mg "number_told" = some (.ref a_number_told)
  a_integer_of : Addr
  fd_integer_of : FuncData
  F_integer_of : Fun K "integer_of" "integer_of" s_integer_of a_integer_of fd_integer_of
  b_integer_of : Binds K fd_integer_of ["word"] []
  m_integer_of : mg "integer_of" = some (.ref a_integer_of)
  a_integers_of : Addr
  fd_integers_of : FuncData
  F_integers_of : Fun K "integers_of" "integers_of" s_integers_of a_integers_of fd_integers_of
  b_integers_of : Binds K fd_integers_of ["text"] []
  m_integers_of : mg "integers_of" = some (.ref a_integers_of)
  a_pair_of : Addr
  fd_pair_of : FuncData
  F_pair_of : Fun K "pair_of" "pair_of" s_pair_of a_pair_of fd_pair_of
  b_pair_of : Binds K fd_pair_of ["text"] []
  m_pair_of : mg "pair_of" = some (.ref a_pair_of)
  a_pairs_of : Addr
  fd_pairs_of : FuncData
  F_pairs_of : Fun K "pairs_of" "pairs_of" s_pairs_of a_pairs_of fd_pairs_of
  b_pairs_of : Binds K fd_pairs_of ["text"] []
  m_pairs_of : mg "pairs_of" = some (.ref a_pairs_of)
  a_odd_of : Addr
  fd_odd_of : FuncData
  F_odd_of : Fun K "odd_of" "odd_of" s_odd_of a_odd_of fd_odd_of
  b_odd_of : Binds K fd_odd_of ["pairs"] []
  m_odd_of : mg "odd_of" = some (.ref a_odd_of)
  a_read_count : Addr
  fd_read_count : FuncData
  F_read_count : Fun K "read_count" "read_count" s_read_count a_read_count fd_read_count
  b_read_count : Binds K fd_read_count ["text"] []
  m_read_count : mg "read_count" = some (.ref a_read_count)
  a_Sizes_period : Addr
  fd_Sizes_period : FuncData
  F_Sizes_period : Fun K "period" "Sizes.period" s_Sizes_period a_Sizes_period fd_Sizes_period
  b_Sizes_period : Binds K fd_Sizes_period ["self"] []
  p_Sizes_period : Addr
  P_Sizes_period : PropOf K c_Sizes "period" p_Sizes_period a_Sizes_period
  a_Sizes_classes : Addr
  fd_Sizes_classes : FuncData
  F_Sizes_classes : Fun K "classes" "Sizes.classes" s_Sizes_classes a_Sizes_classes fd_Sizes_classes
  b_Sizes_classes : Binds K fd_Sizes_classes ["self"] []
  p_Sizes_classes : Addr
  P_Sizes_classes : PropOf K c_Sizes "classes" p_Sizes_classes a_Sizes_classes
  a_show_sizes : Addr
  fd_show_sizes : FuncData
  F_show_sizes : Fun K "show_sizes" "show_sizes" s_show_sizes a_show_sizes fd_show_sizes
  b_show_sizes : Binds K fd_show_sizes ["sizes"] []
  m_show_sizes : mg "show_sizes" = some (.ref a_show_sizes)
  a_read_sizes : Addr
  fd_read_sizes : FuncData
  F_read_sizes : Fun K "read_sizes" "read_sizes" s_read_sizes a_read_sizes fd_read_sizes
  b_read_sizes : Binds K fd_read_sizes ["text"] []
  m_read_sizes : mg "read_sizes" = some (.ref a_read_sizes)
  a__law_refused : Addr
  fd__law_refused : FuncData
  F__law_refused : Fun K "_law_refused" "_law_refused" s__law_refused a__law_refused fd__law_refused
  b__law_refused : Binds K fd__law_refused ["_law_text", "_law_is_count"] []
  m__law_refused : mg "_law_refused" = some (.ref a__law_refused)
  a_Count___eq__ : Addr
  fd_Count___eq__ : FuncData
  F_Count___eq__ : Fun K "__eq__" "Count.__eq__" s_Count___eq__ a_Count___eq__ fd_Count___eq__
  b_Count___eq__ : Binds K fd_Count___eq__ ["self", "other"] []
  M_Count___eq__ : Meth K c_Count "__eq__" a_Count___eq__
  a_Sizes_told : Addr
  fd_Sizes_told : FuncData
  F_Sizes_told : Fun K "told" "Sizes.told" s_Sizes_told a_Sizes_told fd_Sizes_told
  b_Sizes_told : Binds K fd_Sizes_told ["self"] []
  M_Sizes_told : Meth K c_Sizes "told" a_Sizes_told
  a_Sizes___eq__ : Addr
  fd_Sizes___eq__ : FuncData
  F_Sizes___eq__ : Fun K "__eq__" "Sizes.__eq__" s_Sizes___eq__ a_Sizes___eq__ fd_Sizes___eq__
  b_Sizes___eq__ : Binds K fd_Sizes___eq__ ["self", "other"] []
  M_Sizes___eq__ : Meth K c_Sizes "__eq__" a_Sizes___eq__
  a_law : Addr
  fd_law : FuncData
  F_law : Fun K "law" "law" s_law a_law fd_law
  b_law : Binds K fd_law ["_law_script"] []
  m_law : mg "law" = some (.ref a_law)
  kt_int_Count : PySem.W.kitOne K (.type "int") (.ref c_Count) = some false
  kt_bool_Count : PySem.W.kitOne K (.type "bool") (.ref c_Count) = some false
  kt_str_Count : PySem.W.kitOne K (.type "str") (.ref c_Count) = some false
  kt_tuple_Count : PySem.W.kitOne K (.type "tuple") (.ref c_Count) = some false
  kt_list_Count : PySem.W.kitOne K (.type "list") (.ref c_Count) = some false
  kt_NoneType_Count : PySem.W.kitOne K (.type "NoneType") (.ref c_Count) = some false
  kt_Sizes_Count : PySem.W.kitOne K (.ref c_Sizes) (.ref c_Count) = some false
  kt_int_Sizes : PySem.W.kitOne K (.type "int") (.ref c_Sizes) = some false
  kt_bool_Sizes : PySem.W.kitOne K (.type "bool") (.ref c_Sizes) = some false
  kt_str_Sizes : PySem.W.kitOne K (.type "str") (.ref c_Sizes) = some false
  kt_tuple_Sizes : PySem.W.kitOne K (.type "tuple") (.ref c_Sizes) = some false
  kt_list_Sizes : PySem.W.kitOne K (.type "list") (.ref c_Sizes) = some false
  kt_NoneType_Sizes : PySem.W.kitOne K (.type "NoneType") (.ref c_Sizes) = some false
  kt_Count_Sizes : PySem.W.kitOne K (.ref c_Count) (.ref c_Sizes) = some false
  su_Count_bool : PySem.W.subIn K (.ref c_Count) (.type "bool") = some false
  su_Sizes_bool : PySem.W.subIn K (.ref c_Sizes) (.type "bool") = some false
  su_Count_int : PySem.W.subIn K (.ref c_Count) (.type "int") = some false
  su_Sizes_int : PySem.W.subIn K (.ref c_Sizes) (.type "int") = some false
  su_Count_tuple : PySem.W.subIn K (.ref c_Count) (.type "tuple") = some false
  su_Sizes_tuple : PySem.W.subIn K (.ref c_Sizes) (.type "tuple") = some false
  ex_InvalidCount_InvalidCount : PySem.W.exmOne K (.ref c_InvalidCount) (.ref c_InvalidCount) = some true
  ex_InvalidSizes_InvalidCount : PySem.W.exmOne K (.ref c_InvalidSizes) (.ref c_InvalidCount) = some false
  ex_InvalidText_InvalidCount : PySem.W.exmOne K (.ref c_InvalidText) (.ref c_InvalidCount) = some false
  ex_InvalidCount_InvalidSizes : PySem.W.exmOne K (.ref c_InvalidCount) (.ref c_InvalidSizes) = some false
  ex_InvalidSizes_InvalidSizes : PySem.W.exmOne K (.ref c_InvalidSizes) (.ref c_InvalidSizes) = some true
  ex_InvalidText_InvalidSizes : PySem.W.exmOne K (.ref c_InvalidText) (.ref c_InvalidSizes) = some false
  ex_InvalidCount_InvalidText : PySem.W.exmOne K (.ref c_InvalidCount) (.ref c_InvalidText) = some false
  ex_InvalidSizes_InvalidText : PySem.W.exmOne K (.ref c_InvalidSizes) (.ref c_InvalidText) = some false
  ex_InvalidText_InvalidText : PySem.W.exmOne K (.ref c_InvalidText) (.ref c_InvalidText) = some true
  no_InvalidCount_line : PySem.W.findIn K (.ref c_InvalidCount) "line" = some none
  no_InvalidSizes_line : PySem.W.findIn K (.ref c_InvalidSizes) "line" = some none
  no_InvalidText_word : PySem.W.findIn K (.ref c_InvalidText) "word" = some none
  NE_Count : NeC K c_Count
  NE_Sizes : NeC K c_Sizes
/-! ### counts: parts with polynomials, odd sizes -/
abbrev Lot := Int × List Int
def hor (n : Int) (cs : List Int) : Int := cs.foldr (fun c f => f * n + c) 0
theorem hor_cons (n c : Int) (cs : List Int) : hor n (c :: cs) = hor n cs * n + c := rfl
theorem hor_snoc0 (n : Int) : ∀ l : List Int, hor n (l ++ [0]) = hor n l
  | [] => by show (0 : Int) * n + 0 = 0; rw [Int.zero_mul]; rfl
  | c :: l => by
    show hor n (l ++ [0]) * n + c = hor n l * n + c
    rw [hor_snoc0 n l]
def cutN (cs : List Int) : Nat → Nat
  | 0 => 0
  | m + 1 => if cs.getD m 0 = 0 then cutN cs m else m + 1
theorem cutN_le (cs : List Int) : ∀ m, cutN cs m ≤ m
  | 0 => Nat.le_refl _
  | m + 1 => by
    unfold cutN
    have := cutN_le cs m
    split <;> omega
def cutL (cs : List Int) : List Int := cs.take (cutN cs cs.length)
theorem hor_take (n : Int) (cs : List Int) : ∀ m, m ≤ cs.length → hor n (cs.take (cutN cs m)) = hor n (cs.take m)
  | 0, _ => rfl
  | m + 1, h => by
    unfold cutN
    split
    · rename_i z
      rw [hor_take n cs m (by omega)]
      have e : cs.take (m + 1) = cs.take m ++ [0] := by
        rw [List.take_succ_eq_append_getElem (by omega)]
        rw [List.getD_eq_getElem?_getD, List.getElem?_eq_getElem (by omega)] at z
        rw [show cs[m] = 0 from z]
      rw [e, hor_snoc0]
    · rfl
theorem hor_cut (n : Int) (cs : List Int) : hor n (cutL cs) = hor n cs := by
  unfold cutL
  rw [hor_take n cs _ (Nat.le_refl _), List.take_length]
theorem cutL_len (cs : List Int) : (cutL cs).length ≤ cs.length := by
  unfold cutL
  rw [List.length_take]
  omega
theorem cutL_mem {cs : List Int} {c : Int} (h : c ∈ cutL cs) : c ∈ cs := List.mem_of_mem_take h
def divB (n : Int) (l : Lot) : Bool := false.xor (decide (n % l.1 = 0))
def plainQ (ls : List Lot) (n : Int) : Int := ((ls.filter (divB n)).map fun l => hor n l.2).sum
def shL (l : Lot) : Lot := (l.1, cutL l.2)
def neB (l : Lot) : Bool := !l.2.isEmpty
def shortP (ls : List Lot) : List Lot := (ls.map shL).filter neB
theorem plain_nil (n : Int) : plainQ [] n = 0 := rfl
theorem plain_cons (l : Lot) (ls : List Lot) (n : Int) : plainQ (l :: ls) n = (if divB n l then hor n l.2 else 0) + plainQ ls n := by
  unfold plainQ
  rw [List.filter_cons]
  split
  · rw [List.map_cons, List.sum_cons]
  · rw [Int.zero_add]
theorem plain_short (n : Int) : ∀ ls : List Lot, plainQ (shortP ls) n = plainQ ls n
  | [] => rfl
  | l :: ls => by
    have ih := plain_short n ls
    have d : divB n (shL l) = divB n l := rfl
    rw [plain_cons, ← ih]
    unfold shortP
    rw [List.map_cons, List.filter_cons]
    split
    · rw [plain_cons, d]
      show (if divB n l = true then hor n (cutL l.2) else 0) + _ = _
      rw [hor_cut]
    · rename_i z
      have e : cutL l.2 = [] := by
        have : (cutL l.2).isEmpty = true := by
          cases h : (cutL l.2).isEmpty with
          | true => rfl
          | false => exact absurd (by show (!(cutL l.2).isEmpty) = true; rw [h]; rfl) z
        exact List.isEmpty_iff.mp this
      have h0 : hor n l.2 = 0 := by rw [← hor_cut, e]; rfl
      rw [h0]
      split <;> rw [Int.zero_add]
def odB (ls : List Lot) (p : Int × Int) : Bool := true.xor (decide (plainQ (shortP ls) p.1 = p.2))
def shortO (ls : List Lot) (os : List (Int × Int)) : List (Int × Int) := os.filter (odB ls)
def valQ (ls : List Lot) (os : List (Int × Int)) (n : Int) : Int := match os.find? fun p => decide (p.1 = n) with
  | some p => p.2
  | none => plainQ ls n
theorem val_cons (ls : List Lot) (p : Int × Int) (os : List (Int × Int)) (n : Int) : valQ ls (p :: os) n = if p.1 = n then p.2 else valQ ls os n := by
  unfold valQ
  rw [List.find?_cons]
  by_cases h : p.1 = n
  · rw [decide_eq_true h, if_pos h]
  · rw [decide_eq_false h, if_neg h]
theorem val_none {ls : List Lot} {n : Int} : ∀ {os : List (Int × Int)}, (∀ p ∈ os, p.1 ≠ n) → valQ ls os n = plainQ ls n
  | [], _ => rfl
  | p :: os, h => by
    rw [val_cons, if_neg (h p List.mem_cons_self)]
    exact val_none fun q hq => h q (List.mem_cons_of_mem _ hq)
def Asc : Int → List Int → Prop
  | _, [] => True
  | a, s :: l => a < s ∧ Asc s l
theorem Asc.gt : ∀ {l : List Int} {a : Int}, Asc a l → ∀ s ∈ l, a < s
  | [], _, _, _, h => nomatch h
  | x :: l, a, h, s, hs => by
    rcases List.mem_cons.mp hs with rfl | hs
    · exact h.1
    · exact Int.lt_trans h.1 (Asc.gt h.2 s hs)
/-- the shortest form has the same values -/
theorem val_short (ls : List Lot) (n : Int) : ∀ (os : List (Int × Int)) (a : Int), Asc a (os.map (·.1)) → valQ (shortP ls) (shortO ls os) n = valQ ls os n
  | [], _, _ => plain_short n ls
  | p :: os, a, h => by
    have ih := val_short ls n os p.1 h.2
    rw [val_cons]
    unfold shortO
    rw [List.filter_cons]
    split
    · rw [val_cons, ← ih]
      rfl
    · rename_i z
      have z : plainQ (shortP ls) p.1 = p.2 := by
        unfold odB at z
        simpa using z
      show valQ (shortP ls) (shortO ls os) n = _
      by_cases e : p.1 = n
      · rw [if_pos e, ← z, ← e]
        refine val_none fun q hq => ?_
        have hq := (List.mem_filter.mp hq).1
        have := Asc.gt h.2 q.1 (List.mem_map_of_mem hq)
        have this : p.1 < q.1 := this
        omega
      · rw [if_neg e]
        exact ih
/-! bounds -/
def Nb (n : Int) : Prop := n.natAbs < 2 ^ 110
def Lb (l : Lot) : Prop := 0 < l.1 ∧ l.2.length ≤ 4 ∧ ∀ c ∈ l.2, c.natAbs ≤ 10000000000000000000000000000000
theorem hor_bd {n : Int} (hn : Nb n) : ∀ (cs : List Int), (∀ c ∈ cs, c.natAbs ≤ 10000000000000000000000000000000) → (hor n cs).natAbs < 2 ^ (111 * cs.length + 20) := by
  intro cs
  induction cs with
  | nil => intro _; exact Nat.pow_pos (by decide)
  | cons c cs ih =>
    intro h
    have ih := ih fun x hx => h x (List.mem_cons_of_mem _ hx)
    have hc := h c List.mem_cons_self
    have m : (hor n cs * n).natAbs < 2 ^ (111 * cs.length + 20 + 110) := by
      rw [Int.natAbs_mul, Nat.pow_add]
      exact Nat.mul_lt_mul'' ih hn
    have b : 10000000000000000000000000000000 < 2 ^ (111 * cs.length + 20 + 110) := Nat.lt_of_lt_of_le (show 10000000000000000000000000000000 < 2 ^ 130 by decide) (Nat.pow_le_pow_right (by decide) (by omega))
    rw [hor_cons, show 111 * (c :: cs).length + 20 = (111 * cs.length + 20 + 110) + 1 from by rw [List.length_cons]; omega, Nat.pow_succ]
    generalize 2 ^ (111 * cs.length + 20 + 110) = z at *
    generalize hor n cs * n = y at *
    omega
theorem hor_b4 {n : Int} (hn : Nb n) {cs : List Int} (hl : cs.length ≤ 4) (h : ∀ c ∈ cs, c.natAbs ≤ 10000000000000000000000000000000) : (hor n cs).natAbs < 2 ^ 464 := Nat.lt_of_lt_of_le (hor_bd hn cs h) (Nat.pow_le_pow_right (by decide) (by omega))
theorem plain_le {n : Int} {z : Nat} : ∀ (ls : List Lot), (∀ l ∈ ls, (hor n l.2).natAbs ≤ z) → (plainQ ls n).natAbs ≤ ls.length * z := by
  intro ls
  induction ls with
  | nil => intro _; exact Nat.zero_le _
  | cons l ls ih =>
    intro h
    have ih := ih fun x hx => h x (List.mem_cons_of_mem _ hx)
    have hl := h l List.mem_cons_self
    rw [plain_cons, List.length_cons, Nat.add_mul, Nat.one_mul]
    split <;> omega
theorem plain_bd {n : Int} (hn : Nb n) {ls : List Lot} (h : ∀ l ∈ ls, Lb l) (hl : ls.length ≤ 64) : (plainQ ls n).natAbs < 2 ^ 472 := by
  have b := plain_le (n := n) (z := 2 ^ 464) ls fun l hl => Nat.le_of_lt (hor_b4 hn (h l hl).2.1 (h l hl).2.2)
  refine Nat.lt_of_le_of_lt b (Nat.lt_of_le_of_lt (Nat.mul_le_mul_right _ hl) ?_)
  rw [show (472 : Nat) = 8 + 464 from rfl, Nat.pow_add]
  exact Nat.mul_lt_mul_of_pos_right (by decide) (Nat.pow_pos (by decide))
theorem Lb.sh {l : Lot} (h : Lb l) : Lb (shL l) := ⟨h.1, Nat.le_trans (cutL_len _) h.2.1, fun c hc => h.2.2 c (cutL_mem hc)⟩
theorem short_lb {ls : List Lot} (h : ∀ l ∈ ls, Lb l) : ∀ l ∈ shortP ls, Lb l := fun l hl => by
  obtain ⟨x, hx, rfl⟩ := List.mem_map.mp (List.mem_filter.mp hl).1
  exact (h x hx).sh
theorem short_plen (ls : List Lot) : (shortP ls).length ≤ ls.length := by
  unfold shortP
  exact Nat.le_trans (List.length_filter_le _ _) (by rw [List.length_map]; exact Nat.le_refl _)
/-! the law's own sum -/
def powV (n : Int) : Nat → Int
  | 0 => 1
  | 1 => n
  | 2 => n * n
  | _ => n * n * n
def lwor (n : Int) : Nat → List Int → Int
  | _, [] => 0
  | k, c :: cs => c * powV n k + lwor n (k + 1) cs
theorem lwor_hor (n : Int) : ∀ {cs : List Int}, cs.length ≤ 4 → lwor n 0 cs = hor n cs
  | [], _ => rfl
  | [a], _ => by simp only [lwor, powV, hor, List.foldr]; grind
  | [a, b], _ => by simp only [lwor, powV, hor, List.foldr]; grind
  | [a, b, c], _ => by simp only [lwor, powV, hor, List.foldr]; grind
  | [a, b, c, d], _ => by simp only [lwor, powV, hor, List.foldr]; grind
  | _ :: _ :: _ :: _ :: _ :: _, h => absurd h (by simp)

/-! ### the shortest form of a shortest form -/
theorem cutN_top (cs : List Int) : ∀ m, cutN cs m = 0 ∨ ∃ k, cutN cs m = k + 1 ∧ cs.getD k 0 ≠ 0
  | 0 => .inl rfl
  | m + 1 => by
    unfold cutN
    split
    · exact cutN_top cs m
    · exact .inr ⟨m, rfl, ‹_›⟩
theorem cutL_idem (cs : List Int) : cutL (cutL cs) = cutL cs := by
  have hle := cutN_le cs cs.length
  have hl : (cutL cs).length = cutN cs cs.length := by unfold cutL; rw [List.length_take]; omega
  have key : cutN (cutL cs) (cutL cs).length = (cutL cs).length := by
    rw [hl]
    rcases cutN_top cs cs.length with z | ⟨k, z, nz⟩
    · rw [z]; rfl
    · rw [z]
      show (if (cutL cs).getD k 0 = 0 then _ else _) = _
      have e : (cutL cs).getD k 0 = cs.getD k 0 := by
        unfold cutL
        rw [z, List.getD_eq_getElem?_getD, List.getD_eq_getElem?_getD, List.getElem?_take, if_pos (Nat.lt_succ_self k)]
      rw [e, if_neg nz]
  show (cutL cs).take (cutN (cutL cs) (cutL cs).length) = cutL cs
  rw [key, List.take_length]
theorem shortP_cons (l : Lot) (ls : List Lot) : shortP (l :: ls) = if neB (shL l) then shL l :: shortP ls else shortP ls := by
  unfold shortP
  rw [List.map_cons, List.filter_cons]
theorem shL_idem (l : Lot) : shL (shL l) = shL l := by
  show (l.1, cutL (cutL l.2)) = (l.1, cutL l.2)
  rw [cutL_idem]
theorem shortP_idem : ∀ ls : List Lot, shortP (shortP ls) = shortP ls
  | [] => rfl
  | l :: ls => by
    rw [shortP_cons]
    split
    · rename_i h
      rw [shortP_cons, shL_idem, if_pos h, shortP_idem ls]
    · exact shortP_idem ls
theorem shortO_idem (ls : List Lot) (os : List (Int × Int)) : shortO (shortP ls) (shortO ls os) = shortO ls os := by
  unfold shortO
  rw [List.filter_eq_self]
  intro p hp
  have h := (List.mem_filter.mp hp).2
  unfold odB at h ⊢
  rw [shortP_idem]
  exact h
theorem Asc.lo : ∀ {l : List Int} {a b : Int}, Asc a l → b ≤ a → Asc b l
  | [], _, _, _, _ => trivial
  | _ :: _, _, _, h, hb => ⟨Int.lt_of_le_of_lt hb h.1, h.2⟩
theorem Asc.filt {α : Type} (f : α → Int) (p : α → Bool) : ∀ {l : List α} {a : Int}, Asc a (l.map f) → Asc a ((l.filter p).map f)
  | [], _, _ => trivial
  | x :: l, a, h => by
    rw [List.filter_cons]
    split
    · exact ⟨h.1, Asc.filt f p h.2⟩
    · exact Asc.filt f p (h.2.lo (Int.le_of_lt h.1))
theorem asc_shortP {ls : List Lot} {a : Int} (h : Asc a (ls.map (·.1))) : Asc a ((shortP ls).map (·.1)) := by
  unfold shortP
  refine Asc.filt _ _ ?_
  rw [List.map_map]
  exact h
theorem odB_eq (ls : List Lot) (p : Int × Int) : true.xor (decide (p.2 = plainQ (shortP ls) p.1)) = odB ls p := by
  unfold odB
  by_cases h : plainQ (shortP ls) p.1 = p.2
  · rw [decide_eq_true h, decide_eq_true h.symm]
  · rw [decide_eq_false h, decide_eq_false (fun z => h z.symm)]
/-- numbers that are told -/
def Wd (n : Int) : Prop := n.natAbs < 2 ^ 1000
theorem wd_le {n : Int} {k : Nat} (h : n.natAbs < 2 ^ k) (hk : k ≤ 1000) : Wd n := Nat.lt_of_lt_of_le h (Nat.pow_le_pow_right (by decide) hk)
theorem wd_m {n : Int} (h : n.natAbs ≤ 1000000) : Wd n := wd_le (k := 20) (Nat.lt_of_le_of_lt h (by decide)) (by decide)

/-! ### texts of numbers: plain, on lists of signs -/
open TL
open PySem.NumText (AllDigits digitsVal)
abbrev mkS (l : List Nat) : Str := ⟨l.toArray⟩
theorem tl_mkS (l : List Nat) : tl (mkS l) = l := rfl
theorem len_mkS (l : List Nat) : (mkS l).length = l.length := by rw [len_tl]
theorem mk_eq {x : Str} {l : List Nat} (h : tl x = l) : x = mkS l := ext_tl h
theorem dec_str (x y : Str) : decide (x = y) = decide (tl x = tl y) := decide_eq_decide.mpr ⟨fun h => by rw [h], ext_tl⟩
theorem num_str (n : Nat) : (Str.ofString (toString ((n : Nat) : Int))) = mkS (numL n) := mk_eq (tl_num n)
theorem num_dig {n c : Nat} (h : c ∈ numL n) : 48 ≤ c ∧ c ≤ 57 := numL_digits n c h
theorem num_len {n : Nat} (h : n < 10 ^ 60) : (numL n).length ≤ 60 := numL_len (by decide) h
theorem num_int {n : Nat} (h : n < 10 ^ 60) : intText? (mkS (numL n)) = some (n : Int) := by
  rw [← num_str]
  exact int_num (Nat.le_trans (num_len h) (by decide))
theorem num_head : ∀ n : Nat, 0 < n → ∃ c r, numL n = c :: r ∧ c ≠ 48
  | n, h0 => by
    by_cases h : n < 10
    · rw [numL_lt h]
      exact ⟨48 + n, [], rfl, by omega⟩
    · obtain ⟨c, r, e, hc⟩ := num_head (n / 10) (by omega)
      rw [numL_step (by omega), e]
      exact ⟨c, r ++ [48 + n % 10], rfl, hc⟩
  termination_by n => n
  decreasing_by omega
def sgL (b : Bool) : List Nat := if b then [45] else []
def digL (l : List Nat) : Bool := l.all fun c => decide (48 ≤ c) && decide (c ≤ 57)
theorem digL_iff {l : List Nat} : digL l = true ↔ AllDigits l := by
  unfold digL
  rw [List.all_eq_true]
  exact ⟨fun h c hc => by have := h c hc; rw [Bool.and_eq_true, decide_eq_true_eq, decide_eq_true_eq] at this; exact this, fun h c hc => by rw [Bool.and_eq_true, decide_eq_true_eq, decide_eq_true_eq]; exact h c hc⟩
theorem dv_num {n : Nat} (h : n < 10 ^ 60) : digitsVal (numL n) = n := by
  have a := num_int h
  have b := PySem.intText_digits (x := mkS (numL n)) (numL_digits n) (numL_ne n) (by rw [len_mkS]; exact Nat.le_trans (num_len h) (by decide))
  rw [b] at a
  exact Int.ofNat.inj (Option.some.inj a)
theorem dv_lt : ∀ (l : List Nat) (acc : Nat), AllDigits l → l.foldl (fun acc c => acc * 10 + (c - 48)) acc < (acc + 1) * 10 ^ l.length
  | [], acc, _ => by simp
  | c :: r, acc, h => by
    have hc := h.head
    have ih := dv_lt r (acc * 10 + (c - 48)) h.tail
    rw [List.foldl_cons, List.length_cons, Nat.pow_succ]
    refine Nat.lt_of_lt_of_le ih ?_
    have p : 0 < 10 ^ r.length := Nat.pow_pos (by decide)
    generalize 10 ^ r.length = y at p
    have : acc * 10 + (c - 48) + 1 ≤ (acc + 1) * 10 := by omega
    calc (acc * 10 + (c - 48) + 1) * y ≤ ((acc + 1) * 10) * y := Nat.mul_le_mul_right _ this
      _ = (acc + 1) * (y * 10) := by rw [Nat.mul_assoc, Nat.mul_comm 10 y]
theorem dv_sm {l : List Nat} (h : AllDigits l) (hl : l.length ≤ 60) : digitsVal l < 10 ^ 60 := by
  have a := dv_lt l 0 h
  rw [Nat.zero_add, Nat.one_mul] at a
  exact Nat.lt_of_lt_of_le a (Nat.pow_le_pow_right (by decide) hl)
abbrev isDg (c : Nat) : Bool := decide (48 ≤ c) && decide (c ≤ 57)
theorem spl_tl (l y : List Nat) (hy : y ≠ []) (hk : y.all (fun c => decide (c < 256)) = true) : Txt.split (mkS l) (mkS y) = (spl y 0 [] l).map mkS := by
  refine map_tl_inj ?_
  rw [split_spl _ _ hy (kind_ok (by show (y.toArray.all fun c => decide (c < 256)) = true; rw [List.all_toArray]; exact hk)), List.map_map]
  exact (List.map_id' _).symm
def numI (i : Int) : List Nat := sgL (decide (i < 0)) ++ numL i.natAbs

/-! ### texts of counts and of sets of sizes: plain -/
open TL
open PySem.NumText (AllDigits digitsVal)
theorem sgL_t : sgL true = [45] := rfl
theorem sgL_f : sgL false = [] := rfl
theorem numI_neg {i : Int} (h : i < 0) : numI i = 45 :: numL i.natAbs := by
  unfold numI
  rw [decide_eq_true h]
  rfl
theorem numI_pos {i : Int} (h : 0 ≤ i) : numI i = numL i.natAbs := by
  unfold numI
  rw [decide_eq_false (by omega)]
  rfl
theorem numI_in {i : Int} {c : Nat} (h : c ∈ numI i) : c = 45 ∨ (48 ≤ c ∧ c ≤ 57) := by
  unfold numI at h
  rcases List.mem_append.mp h with h | h
  · unfold sgL at h
    split at h
    · exact .inl (List.mem_singleton.mp h)
    · exact nomatch h
  · exact .inr (num_dig h)
theorem numI_ne (i : Int) : numI i ≠ [] := fun z => numL_ne i.natAbs (List.append_eq_nil_iff.mp z).2
theorem numI_ns (i : Int) : numI i ≠ [45] := fun z => by
  by_cases h : i < 0
  · rw [numI_neg h] at z
    exact numL_ne _ (List.cons.inj z).2
  · rw [numI_pos (by omega)] at z
    have := num_dig (n := i.natAbs) (c := 45) (by rw [z]; exact List.mem_cons_self)
    omega
theorem joinL_mem {s : List Nat} {c : Nat} : ∀ {ls : List (List Nat)}, c ∈ joinL s ls → c ∈ s ∨ ∃ l ∈ ls, c ∈ l
  | [], h => nomatch h
  | [x], h => .inr ⟨x, List.mem_cons_self, h⟩
  | x :: y :: r, h => by
    have h : c ∈ x ++ (s ++ joinL s (y :: r)) := h
    rcases List.mem_append.mp h with h | h
    · exact .inr ⟨x, List.mem_cons_self, h⟩
    · rcases List.mem_append.mp h with h | h
      · exact .inl h
      · rcases joinL_mem h with h | ⟨l, hl, h⟩
        · exact .inl h
        · exact .inr ⟨l, List.mem_cons_of_mem _ hl, h⟩
/-! what is written -/
def lstT (s : List Nat) (ws : List (List Nat)) : List Nat := if ws = [] then [45] else joinL s ws
def spcT (ns : List Int) : List Nat := lstT [32] (ns.map numI)
def prtT (l : Lot) : List Nat := numI l.1 ++ (58 :: 32 :: spcT l.2)
def odtT (p : Int × Int) : List Nat := numI p.1 ++ (58 :: 32 :: numI p.2)
def ctxT (ls : List Lot) (os : List (Int × Int)) : List Nat := lstT [59, 32] (ls.map prtT) ++ (32 :: 124 :: 32 :: lstT [59, 32] (os.map odtT))
def szxT (p : Int) (cs os : List Int) : List Nat := numI p ++ (32 :: 124 :: 32 :: (spcT cs ++ (32 :: 124 :: 32 :: spcT os)))
/-! what is read -/
def rmT (l : List Nat) : List Nat := if l.take 1 = [45] then l.drop 1 else l
def pInt (l : List Nat) : Option Int := if rmT l = [] ∨ digL (rmT l) = false then none else some (if rmT l = l then ((digitsVal (rmT l) : Nat) : Int) else 0 - ((digitsVal (rmT l) : Nat) : Int))
def optL {α β : Type} (f : α → Option β) : List α → Option (List β)
  | [] => some []
  | x :: r => match f x with
    | none => none
    | some y => match optL f r with
      | none => none
      | some ys => some (y :: ys)
def pInts (l : List Nat) : Option (List Int) := if l = [45] then some [] else optL pInt (spl [32] 0 [] l)
def pPair (l : List Nat) : Option Lot := match spl [58, 32] 0 [] l with
  | [a, b] => match pInt a with
    | none => none
    | some i => match pInts b with
      | none => none
      | some r => some (i, r)
  | _ => none
def pPairs (l : List Nat) : Option (List Lot) := if l = [45] then some [] else optL pPair (spl [59, 32] 0 [] l)
def pOdd (rs : List Lot) : Option (List (Int × Int)) := if (rs.all fun l => decide (l.2.length = 1)) = true then some (rs.map fun l => (l.1, l.2.headD 0)) else none
theorem optL_of {α β γ : Type} {f : α → Option β} {g : γ → α} {h : γ → β} : ∀ {l : List γ}, (∀ x ∈ l, f (g x) = some (h x)) → optL f (l.map g) = some (l.map h)
  | [], _ => rfl
  | x :: r, k => by
    show (match f (g x) with | none => none | some y => match optL f (r.map g) with | none => none | some ys => some (y :: ys)) = _
    rw [k x List.mem_cons_self, optL_of fun y hy => k y (List.mem_cons_of_mem _ hy)]
    rfl
theorem optL_all {α β : Type} {f : α → Option β} {P : β → Prop} : ∀ {l : List α} {ys : List β}, (∀ x ∈ l, ∀ y, f x = some y → P y) → optL f l = some ys → ys.length = l.length ∧ ∀ y ∈ ys, P y
  | [], ys, _, e => by
    cases e
    exact ⟨rfl, fun _ z => nomatch z⟩
  | x :: r, ys, k, e => by
    have e : (match f x with | none => none | some y => match optL f r with | none => none | some ys => some (y :: ys)) = some ys := e
    cases hx : f x with
    | none => rw [hx] at e; cases e
    | some y =>
      rw [hx] at e
      cases hr : optL f r with
      | none => rw [hr] at e; cases e
      | some zs =>
        rw [hr] at e
        cases e
        obtain ⟨a, b⟩ := optL_all (fun z hz => k z (List.mem_cons_of_mem _ hz)) hr
        refine ⟨by rw [List.length_cons, List.length_cons, a], fun z hz => ?_⟩
        rcases List.mem_cons.mp hz with hz | hz
        · rw [hz]; exact k x List.mem_cons_self y hx
        · exact b z hz
/-! what was written is read again -/
theorem take1 {c : Nat} {r : List Nat} : (c :: r).take 1 = [c] := rfl
theorem digL_num (n : Nat) : digL (numL n) = true := digL_iff.mpr (numL_digits n)
theorem rm_num (i : Int) : rmT (numI i) = numL i.natAbs := by
  unfold rmT
  by_cases h : i < 0
  · rw [numI_neg h, take1, if_pos rfl]
    rfl
  · rw [numI_pos (by omega)]
    obtain ⟨c, r, e⟩ := List.exists_cons_of_ne_nil (numL_ne i.natAbs)
    rw [e, take1, if_neg fun z => ?_]
    have := num_dig (n := i.natAbs) (c := c) (by rw [e]; exact List.mem_cons_self)
    have := (List.cons.inj z).1
    omega
theorem pInt_num {i : Int} (h : i.natAbs < 10 ^ 60) : pInt (numI i) = some i := by
  unfold pInt
  rw [rm_num, digL_num, if_neg (by rintro (z | z); exact numL_ne _ z; cases z), dv_num h]
  by_cases k : i < 0
  · rw [if_neg fun z => ?_]
    · exact congrArg some (by omega)
    · rw [numI_neg k] at z
      have := congrArg List.length z
      rw [List.length_cons] at this
      omega
  · rw [if_pos (numI_pos (by omega)).symm]
    exact congrArg some (by omega)
theorem lst_nil (s : List Nat) : lstT s [] = [45] := rfl
theorem lst_ne {s : List Nat} {ws : List (List Nat)} (h : ws ≠ []) : lstT s ws = joinL s ws := if_neg h
theorem lst_cons {s : List Nat} {w : List Nat} {ws : List (List Nat)} (h : ∀ r, w ++ r ≠ [45]) : lstT s (w :: ws) ≠ [45] := by
  rw [lst_ne (by simp)]
  cases ws with
  | nil => exact fun z => h [] (by rw [List.append_nil]; exact z)
  | cons v r => exact h _
theorem pInts_spc {ns : List Int} (h : ∀ n ∈ ns, n.natAbs < 10 ^ 60) : pInts (spcT ns) = some ns := by
  unfold pInts spcT
  cases ns with
  | nil => exact if_pos rfl
  | cons n r =>
    rw [List.map_cons, if_neg (lst_cons fun r z => ?_), lst_ne (by simp), spl_join (by simp) fun p hp => ?_]
    · have := optL_of (f := pInt) (g := numI) (h := id) (l := n :: r) fun x hx => pInt_num (h x hx)
      rw [List.map_id] at this
      exact this
    · obtain ⟨x, _, rfl⟩ := List.mem_map.mp (show p ∈ (n :: r).map numI from hp)
      exact fun z => by have := numI_in z; omega
    · cases hr : r with
      | nil => rw [hr, List.append_nil] at z; exact numI_ns n z
      | cons c q =>
        have := congrArg List.length z
        rw [List.length_append, hr, List.length_cons] at this
        have := List.length_pos_iff.mpr (numI_ne n)
        simp at *
        omega
theorem spc_in {ns : List Int} {c : Nat} (h : c ∈ spcT ns) : c = 45 ∨ c = 32 ∨ (48 ≤ c ∧ c ≤ 57) := by
  unfold spcT lstT at h
  split at h
  · exact .inl (List.mem_singleton.mp h)
  · rcases joinL_mem h with h | ⟨l, hl, h⟩
    · exact .inr (.inl (List.mem_singleton.mp h))
    · obtain ⟨x, _, rfl⟩ := List.mem_map.mp hl
      exact (numI_in h).imp id .inr
theorem spl_two {a b : List Nat} {s : Nat} {S : List Nat} (ha : s ∉ a) (hb : s ∉ b) : spl (s :: S) 0 [] (a ++ (s :: S ++ b)) = [a, b] := by
  rw [spl_part1 ha, spl_last1 hb]
  rfl
theorem pPair_prt {l : Lot} (h1 : l.1.natAbs < 10 ^ 60) (h2 : ∀ n ∈ l.2, n.natAbs < 10 ^ 60) : pPair (prtT l) = some l := by
  unfold pPair prtT
  have e := spl_two (a := numI l.1) (b := spcT l.2) (s := 58) (S := [32]) (fun z => by have := numI_in z; omega) (fun z => by have := spc_in z; omega)
  rw [show numI l.1 ++ (58 :: 32 :: spcT l.2) = numI l.1 ++ (58 :: [32] ++ spcT l.2) from rfl, e]
  show (match pInt (numI l.1) with | none => none | some i => match pInts (spcT l.2) with | none => none | some r => some (i, r)) = _
  rw [pInt_num h1, pInts_spc h2]
theorem prt_in {l : Lot} {c : Nat} (h : c ∈ prtT l) : c = 45 ∨ c = 32 ∨ c = 58 ∨ (48 ≤ c ∧ c ≤ 57) := by
  unfold prtT at h
  rcases List.mem_append.mp h with h | h
  · have := numI_in h; omega
  · rcases List.mem_cons.mp h with h | h
    · omega
    · rcases List.mem_cons.mp h with h | h
      · omega
      · have := spc_in h; omega
theorem prt_ns (l : Lot) (r : List Nat) : prtT l ++ r ≠ [45] := fun z => by
  have := congrArg List.length z
  unfold prtT at this
  rw [List.length_append, List.length_append, List.length_cons, List.length_cons] at this
  simp at this
  omega
theorem pPairs_lst {ls : List Lot} (h1 : ∀ l ∈ ls, l.1.natAbs < 10 ^ 60) (h2 : ∀ l ∈ ls, ∀ n ∈ l.2, n.natAbs < 10 ^ 60) : pPairs (lstT [59, 32] (ls.map prtT)) = some ls := by
  unfold pPairs
  cases ls with
  | nil => exact if_pos rfl
  | cons l r =>
    rw [List.map_cons, if_neg (lst_cons fun q => prt_ns l q), lst_ne (by simp), spl_join (by simp) fun p hp => ?_]
    · have := optL_of (f := pPair) (g := prtT) (h := id) (l := l :: r) fun x hx => pPair_prt (h1 x hx) (h2 x hx)
      rw [List.map_id] at this
      exact this
    · obtain ⟨x, _, rfl⟩ := List.mem_map.mp (show p ∈ (l :: r).map prtT from hp)
      exact fun z => by have := prt_in z; omega
abbrev odL (p : Int × Int) : Lot := (p.1, [p.2])
theorem odt_prt (p : Int × Int) : odtT p = prtT (odL p) := by
  unfold odtT prtT spcT
  rw [show (odL p).2.map numI = [numI p.2] from rfl, lst_ne (by simp)]
  rfl
theorem odts (os : List (Int × Int)) : os.map odtT = (os.map odL).map prtT := by
  rw [List.map_map]
  exact List.map_congr_left fun p _ => odt_prt p
theorem pOdd_od (os : List (Int × Int)) : pOdd (os.map odL) = some os := by
  unfold pOdd
  rw [if_pos ?_, List.map_map]
  · exact congrArg some (List.map_id' os)
  · rw [List.all_map]
    exact List.all_eq_true.mpr fun p _ => rfl
theorem lstc_in {ls : List Lot} {c : Nat} (h : c ∈ lstT [59, 32] (ls.map prtT)) : c = 45 ∨ c = 32 ∨ c = 58 ∨ c = 59 ∨ (48 ≤ c ∧ c ≤ 57) := by
  unfold lstT at h
  split at h
  · exact .inl (List.mem_singleton.mp h)
  · rcases joinL_mem h with h | ⟨l, hl, h⟩
    · rcases List.mem_cons.mp h with h | h
      · omega
      · exact .inr (.inl (List.mem_singleton.mp h))
    · obtain ⟨x, _, rfl⟩ := List.mem_map.mp hl
      have := prt_in h
      omega
/-- parts between bars -/
theorem bar_free {p q : List Nat} (h : 124 ∉ p) : ∀ i, i < p.length → pre [32, 124, 32] ((p ++ (32 :: q)).drop i) = false := fun i hi => by
  have e : (p ++ (32 :: q)).drop i = (p.drop i) ++ (32 :: q) := List.drop_append_of_le_length (by omega)
  rw [e]
  match hd : p.drop i with
  | [] => exact absurd (List.drop_eq_nil_iff.mp hd) (by omega)
  | [c] =>
    unfold pre
    refine beq_eq_false_iff_ne.mpr fun z => ?_
    have z : c :: 32 :: q.take 1 = [32, 124, 32] := z
    exact absurd (List.cons.inj (List.cons.inj z).2).1 (by decide)
  | c :: d :: r =>
    have hm : d ∈ p := List.mem_of_mem_drop (by rw [hd]; exact List.mem_cons_of_mem _ List.mem_cons_self)
    unfold pre
    have hne : d ≠ 124 := fun z => h (by rw [← z]; exact hm)
    refine beq_eq_false_iff_ne.mpr fun z => hne ?_
    have z : c :: d :: (r ++ 32 :: q).take 1 = [32, 124, 32] := z
    exact (List.cons.inj (List.cons.inj z).2).1
theorem bar_last {p : List Nat} (h : 124 ∉ p) : ∀ i, i < p.length → pre [32, 124, 32] (p.drop i) = false := fun i hi => by
  match hd : p.drop i with
  | [] => exact absurd (List.drop_eq_nil_iff.mp hd) (by omega)
  | [c] =>
    unfold pre
    refine beq_eq_false_iff_ne.mpr fun z => ?_
    have z : [c] = [32, 124, 32] := z
    exact absurd (List.cons.inj z).2 (by decide)
  | c :: d :: r =>
    have hm : d ∈ p := List.mem_of_mem_drop (by rw [hd]; exact List.mem_cons_of_mem _ List.mem_cons_self)
    unfold pre
    have hne : d ≠ 124 := fun z => h (by rw [← z]; exact hm)
    refine beq_eq_false_iff_ne.mpr fun z => hne ?_
    have z : c :: d :: r.take 1 = [32, 124, 32] := z
    exact (List.cons.inj (List.cons.inj z).2).1
theorem spl_bar {p q : List Nat} (h : 124 ∉ p) : spl [32, 124, 32] 0 [] (p ++ (32 :: 124 :: 32 :: q)) = p :: spl [32, 124, 32] 0 [] q := by
  have := spl_part (S := [32, 124, 32]) (p := p) (rest := q) (acc := []) (by simp) (bar_free h)
  exact this
theorem spl_bar1 {p : List Nat} (h : 124 ∉ p) : spl [32, 124, 32] 0 [] p = [p] := by
  have := spl_last (S := [32, 124, 32]) (p := p) (acc := []) (bar_last h)
  exact this
theorem spl_ctx (ls : List Lot) (os : List (Int × Int)) : spl [32, 124, 32] 0 [] (ctxT ls os) = [lstT [59, 32] (ls.map prtT), lstT [59, 32] (os.map odtT)] := by
  unfold ctxT
  rw [spl_bar fun z => by have := lstc_in z; omega, spl_bar1 fun z => by rw [odts] at z; have := lstc_in z; omega]
theorem spl_szx (p : Int) (cs os : List Int) : spl [32, 124, 32] 0 [] (szxT p cs os) = [numI p, spcT cs, spcT os] := by
  unfold szxT
  rw [spl_bar fun z => by have := numI_in z; omega, spl_bar fun z => by have := spc_in z; omega, spl_bar1 fun z => by have := spc_in z; omega]

/-! ### rows of digits in any text: plain -/
open TL
open PySem.NumText (AllDigits digitsVal)
/-- no row of digits is longer than k -/
def Ru (k : Nat) (l : List Nat) : Prop := ∀ x y z, l = x ++ (y ++ z) → digL y = true → y.length ≤ k
theorem Ru.inf {k : Nat} {l m x z : List Nat} (h : Ru k l) (e : l = x ++ (m ++ z)) : Ru k m := fun a y b e2 hd => h (x ++ a) y (b ++ z) (by rw [e, e2]; simp) hd
theorem Ru.mono {j k : Nat} {l : List Nat} (h : Ru j l) (hk : j ≤ k) : Ru k l := fun x y z e d => Nat.le_trans (h x y z e d) hk
theorem spl_inf {S : List Nat} : ∀ (l : List Nat) (k : Nat) (acc : List Nat), (k = 0 ∨ acc = []) → ∀ t ∈ spl S k acc l, ∃ x z, acc ++ l = x ++ (t ++ z)
  | [], k, acc, _, t, ht => by
    rw [spl_nil] at ht
    rw [List.mem_singleton.mp ht]
    exact ⟨[], [], by simp⟩
  | c :: r, k, acc, h, t, ht => by
    match k, h with
    | k + 1, h =>
      have ea : acc = [] := h.resolve_left (by omega)
      subst ea
      obtain ⟨x, z, e⟩ := spl_inf r k [] (.inr rfl) t ht
      exact ⟨c :: x, z, by rw [List.nil_append] at e; rw [e]; rfl⟩
    | 0, _ =>
      by_cases e : pre S (c :: r) = true
      · rw [spl_hit e] at ht
        rcases List.mem_cons.mp ht with ht | ht
        · exact ⟨[], c :: r, by rw [ht]; rfl⟩
        · obtain ⟨x, z, e⟩ := spl_inf r _ [] (.inr rfl) t ht
          exact ⟨acc ++ c :: x, z, by rw [List.nil_append] at e; rw [e]; simp⟩
      · rw [spl_miss (by simpa using e)] at ht
        obtain ⟨x, z, e⟩ := spl_inf r 0 (acc ++ [c]) (.inl rfl) t ht
        exact ⟨x, z, by rw [← e]; simp⟩
theorem spl_cnt {S : List Nat} : ∀ (l : List Nat) (k : Nat) (acc : List Nat), (spl S k acc l).length ≤ l.length + 1
  | [], k, acc => by rw [spl_nil]; exact Nat.le_refl _
  | c :: r, k, acc => by
    match k with
    | k + 1 =>
      have := spl_cnt (S := S) r k acc
      show (spl S k acc r).length ≤ _
      rw [List.length_cons]
      omega
    | 0 =>
      by_cases e : pre S (c :: r) = true
      · rw [spl_hit e, List.length_cons, List.length_cons]
        have := spl_cnt (S := S) r (S.length - 1) []
        omega
      · rw [spl_miss (by simpa using e), List.length_cons]
        have := spl_cnt (S := S) r 0 (acc ++ [c])
        omega
structure Okv (l : List Nat) : Prop where
  len : l.length ≤ 1999
  run : Ru 31 l
  asc : ∀ c ∈ l, c < 128
theorem Okv.inf {l m x z : List Nat} (h : Okv l) (e : l = x ++ (m ++ z)) : Okv m := ⟨by
  have := h.len
  rw [e, List.length_append, List.length_append] at this
  omega, h.run.inf e, fun c hc => h.asc c (by rw [e]; exact List.mem_append_right _ (List.mem_append_left _ hc))⟩
theorem Okv.spl {l S : List Nat} (h : Okv l) : ∀ t ∈ spl S 0 [] l, Okv t := fun t ht => by
  obtain ⟨x, z, e⟩ := spl_inf l 0 [] (.inl rfl) t ht
  exact h.inf e
theorem rm_inf (l : List Nat) : ∃ x, l = x ++ (rmT l ++ []) := by
  unfold rmT
  split
  · exact ⟨l.take 1, by rw [List.append_nil]; exact (List.take_append_drop 1 l).symm⟩
  · exact ⟨[], by simp⟩
theorem rm_len {k : Nat} {l : List Nat} (h : Ru k l) (d : digL (rmT l) = true) : (rmT l).length ≤ k := by
  obtain ⟨x, e⟩ := rm_inf l
  exact h x (rmT l) [] e d
theorem pInt_bd {k : Nat} {l : List Nat} {i : Int} (h : Ru k l) (e : pInt l = some i) : i.natAbs < 10 ^ k := by
  unfold pInt at e
  split at e
  · cases e
  · rename_i z
    have hd : digL (rmT l) = true := by
      cases d : digL (rmT l) with
      | true => rfl
      | false => exact absurd (.inr d) z
    have hl := rm_len h hd
    have b := dv_lt (rmT l) 0 (digL_iff.mp hd)
    rw [Nat.zero_add, Nat.one_mul] at b
    have b : digitsVal (rmT l) < 10 ^ (rmT l).length := b
    have p : 10 ^ (rmT l).length ≤ 10 ^ k := Nat.pow_le_pow_right (by decide) hl
    split at e
    · cases e
      show ((digitsVal (rmT l) : Nat) : Int).natAbs < _
      omega
    · cases e
      show (0 - ((digitsVal (rmT l) : Nat) : Int)).natAbs < _
      omega
abbrev B31 (n : Int) : Prop := n.natAbs < 10 ^ 31
theorem pInts_bd {l : List Nat} {ns : List Int} (h : Okv l) (e : pInts l = some ns) : ns.length ≤ 2001 ∧ ∀ n ∈ ns, B31 n := by
  unfold pInts at e
  split at e
  · cases e
    exact ⟨Nat.zero_le _, fun _ z => nomatch z⟩
  · obtain ⟨a, b⟩ := optL_all (P := B31) (fun x hx y hy => pInt_bd (h.spl x hx).run hy) e
    have := spl_cnt (S := [32]) l 0 []
    have := h.len
    exact ⟨by omega, b⟩
abbrev BL (l : Lot) : Prop := B31 l.1 ∧ l.2.length ≤ 2001 ∧ ∀ n ∈ l.2, B31 n
theorem pPair_bd {l : List Nat} {r : Lot} (h : Okv l) (e : pPair l = some r) : BL r := by
  unfold pPair at e
  split at e
  · rename_i a b hs
    have ha := h.spl a (by rw [hs]; exact List.mem_cons_self)
    have hb := h.spl b (by rw [hs]; exact List.mem_cons_of_mem _ List.mem_cons_self)
    cases h1 : pInt a with
    | none => rw [h1] at e; cases e
    | some i =>
      rw [h1] at e
      cases h2 : pInts b with
      | none => rw [h2] at e; cases e
      | some ns =>
        rw [h2] at e
        cases e
        exact ⟨pInt_bd ha.run h1, pInts_bd hb h2⟩
  · cases e
theorem pPairs_bd {l : List Nat} {rs : List Lot} (h : Okv l) (e : pPairs l = some rs) : rs.length ≤ 2001 ∧ ∀ r ∈ rs, BL r := by
  unfold pPairs at e
  split at e
  · cases e
    exact ⟨Nat.zero_le _, fun _ z => nomatch z⟩
  · obtain ⟨a, b⟩ := optL_all (P := BL) (fun x hx y hy => pPair_bd (h.spl x hx) hy) e
    have := spl_cnt (S := [59, 32]) l 0 []
    have := h.len
    exact ⟨by omega, b⟩
theorem pOdd_bd {rs : List Lot} {os : List (Int × Int)} (h : ∀ r ∈ rs, BL r) (e : pOdd rs = some os) : os.length = rs.length ∧ ∀ p ∈ os, B31 p.1 ∧ B31 p.2 := by
  unfold pOdd at e
  split at e
  · rename_i z
    cases e
    refine ⟨List.length_map _, fun p hp => ?_⟩
    obtain ⟨r, hr, rfl⟩ := List.mem_map.mp hp
    obtain ⟨b1, _, b3⟩ := h r hr
    have l1 : r.2.length = 1 := of_decide_eq_true (List.all_eq_true.mp z r hr)
    refine ⟨b1, ?_⟩
    match hm : r.2, l1 with
    | [n], _ => exact b3 n (by rw [hm]; exact List.mem_cons_self)
  · cases e
theorem spl_cntS {S : List Nat} (hS : 0 < S.length) : ∀ (l : List Nat) (k : Nat) (acc : List Nat), k ≤ l.length → (spl S k acc l).length * S.length + k ≤ l.length + S.length
  | [], k, acc, h => by
    have : k = 0 := Nat.le_zero.mp h
    subst this
    rw [spl_nil]
    simp
  | c :: r, k, acc, h => by
    rw [List.length_cons] at h
    match k, h with
    | k + 1, h =>
      have := spl_cntS hS r k acc (by omega)
      show (spl S k acc r).length * S.length + (k + 1) ≤ _
      rw [List.length_cons]
      omega
    | 0, _ =>
      by_cases e : pre S (c :: r) = true
      · have hl : S.length ≤ (c :: r).length := by
          have := congrArg List.length (beq_iff_eq.mp e)
          rw [List.length_take] at this
          omega
        rw [List.length_cons] at hl
        have := spl_cntS hS r (S.length - 1) [] (by omega)
        rw [spl_hit e, List.length_cons, List.length_cons, Nat.succ_mul]
        omega
      · rw [spl_miss (by simpa using e), List.length_cons]
        have := spl_cntS hS r 0 (acc ++ [c]) (Nat.zero_le _)
        omega
theorem pPairs_cnt {l : List Nat} {rs : List Lot} (h : Okv l) (e : pPairs l = some rs) : rs.length ≤ 1000 := by
  unfold pPairs at e
  split at e
  · cases e
    exact Nat.zero_le _
  · obtain ⟨a, _⟩ := optL_all (P := fun _ => True) (fun _ _ _ _ => trivial) e
    have := spl_cntS (S := [59, 32]) (by decide) l 0 [] (Nat.zero_le _)
    have l2 : ([59, 32] : List Nat).length = 2 := rfl
    rw [l2] at this
    have := h.len
    omega
/-! when a count is made -/
def ascB : Int → List Int → Bool
  | _, [] => true
  | a, x :: r => decide (a < x) && ascB x r
theorem ascB_iff : ∀ {l : List Int} {a : Int}, ascB a l = true ↔ Asc a l
  | [], _ => ⟨fun _ => trivial, fun _ => rfl⟩
  | x :: r, a => by
    show (decide (a < x) && ascB x r) = true ↔ (a < x ∧ Asc x r)
    rw [Bool.and_eq_true, decide_eq_true_eq, ascB_iff (l := r)]
def okP (ls : List Lot) : Bool := ascB 0 (ls.map (·.1)) && ls.all fun l => decide (l.2.length ≤ 4)
def okO (os : List (Int × Int)) : Bool := ascB 0 (os.map (·.1))
theorem shortP_in {ls : List Lot} {l : Lot} (h : l ∈ shortP ls) : ∃ q ∈ ls, l = shL q := by
  obtain ⟨q, hq, e⟩ := List.mem_map.mp (List.mem_filter.mp h).1
  exact ⟨q, hq, e.symm⟩
theorem shortO_in {ls : List Lot} {os : List (Int × Int)} {p : Int × Int} (h : p ∈ shortO ls os) : p ∈ os := (List.mem_filter.mp h).1
/-- what a text tells: the count that has it -/
def rcO (l : List Nat) : Option (List Lot × List (Int × Int)) := match spl [32, 124, 32] 0 [] l with
  | [a, b] => match pPairs a with
    | none => none
    | some ls => match pPairs b with
      | none => none
      | some qs => match pOdd qs with
        | none => none
        | some os => if okP ls = true ∧ okO os = true ∧ ctxT (shortP ls) (shortO ls os) = l then some (shortP ls, shortO ls os) else none
  | _ => none
/-! numbers between blanks -/
theorem spl1_len {s : Nat} : ∀ (l acc : List Nat), ((spl [s] 0 acc l).map List.length).sum + (spl [s] 0 acc l).length = acc.length + l.length + 1
  | [], acc => by
    rw [spl_nil]
    simp
  | c :: r, acc => by
    by_cases e : pre [s] (c :: r) = true
    · have := spl1_len (s := s) r []
      rw [spl_hit e]
      show acc.length + ((spl [s] 0 [] r).map List.length).sum + ((spl [s] 0 [] r).length + 1) = _
      rw [List.length_nil] at this
      rw [List.length_cons]
      omega
    · have := spl1_len (s := s) r (acc ++ [c])
      rw [spl_miss (by simpa using e), this, List.length_append]
      simp only [List.length_cons, List.length_nil]
      omega
theorem optL_mem {α β : Type} {f : α → Option β} : ∀ {l : List α} {ys : List β}, optL f l = some ys → ∀ x ∈ l, ∃ y, f x = some y
  | x :: r, ys, e, z, hz => by
    have e : (match f x with | none => none | some y => match optL f r with | none => none | some ys => some (y :: ys)) = some ys := e
    cases hx : f x with
    | none => rw [hx] at e; cases e
    | some y =>
      rw [hx] at e
      cases hr : optL f r with
      | none => rw [hr] at e; cases e
      | some zs =>
        rcases List.mem_cons.mp hz with rfl | hz
        · exact ⟨y, hx⟩
        · exact optL_mem hr z hz
theorem sum_ge : ∀ {ls : List (List Nat)}, (∀ l ∈ ls, 1 ≤ l.length) → ls.length ≤ (ls.map List.length).sum
  | [], _ => Nat.le_refl _
  | l :: r, h => by
    have a := h l List.mem_cons_self
    have b := sum_ge (ls := r) fun x hx => h x (List.mem_cons_of_mem _ hx)
    show r.length + 1 ≤ l.length + (r.map List.length).sum
    omega
theorem pInt_ne {l : List Nat} {i : Int} (e : pInt l = some i) : 1 ≤ l.length := by
  cases l with
  | nil => cases e
  | cons c r => exact Nat.le_add_left 1 _
theorem pInts_cnt {l : List Nat} {ns : List Int} (h : Okv l) (e : pInts l = some ns) : ns.length ≤ 1000 := by
  unfold pInts at e
  split at e
  · cases e
    exact Nat.zero_le _
  · obtain ⟨a, _⟩ := optL_all (P := fun _ => True) (fun _ _ _ _ => trivial) e
    have b := sum_ge fun x hx => by
      obtain ⟨y, hy⟩ := optL_mem e x hx
      exact pInt_ne hy
    have c := spl1_len (s := 32) l []
    rw [List.length_nil] at c
    have := h.len
    omega
theorem digL_no {l : List Nat} (h : digL l = true) : 32 ∉ l := fun z => by
  have := digL_iff.mp h 32 z
  omega
/-- a first part that is a number is the first word -/
theorem first_word {a b : List Nat} {p : Int} (e : pInt a = some p) : (spl [32] 0 [] (a ++ (32 :: b))).headD [] = a := by
  have no : 32 ∉ a := by
    unfold pInt at e
    split at e
    · cases e
    · rename_i z
      have hd : digL (rmT a) = true := by
        cases d : digL (rmT a) with
        | true => rfl
        | false => exact absurd (.inr d) z
      have := digL_no hd
      intro h
      unfold rmT at this
      split at this
      · rename_i t
        rw [← List.take_append_drop 1 a, t] at h
        rcases List.mem_append.mp h with h | h
        · exact absurd (List.mem_singleton.mp h) (by decide)
        · exact this h
      · exact this h
  rw [show a ++ (32 :: b) = a ++ (32 :: [] ++ b) from rfl, spl_part1 no]
  rfl

/-! ### periods: primes, the least divisor by which classes can be told -/
def Pr (p : Nat) : Prop := 2 ≤ p ∧ ∀ d, d ∣ p → d = 1 ∨ d = p
theorem pr_div : ∀ (n : Nat), 2 ≤ n → ∃ p, Pr p ∧ p ∣ n := by
  intro n
  induction n using Nat.strongRecOn with
  | _ n ih =>
    intro hn
    by_cases h : ∀ d, d ∣ n → d = 1 ∨ d = n
    · exact ⟨n, ⟨hn, h⟩, Nat.dvd_refl n⟩
    · obtain ⟨d, hd⟩ := Classical.not_forall.mp h
      have hd1 : d ∣ n ∧ d ≠ 1 ∧ d ≠ n := by
        by_cases a : d ∣ n
        · by_cases b : d = 1
          · exact absurd (fun _ => .inl b) hd
          · by_cases c : d = n
            · exact absurd (fun _ => .inr c) hd
            · exact ⟨a, b, c⟩
        · exact absurd (fun z => absurd z a) hd
      have le : d ≤ n := Nat.le_of_dvd (by omega) hd1.1
      have pos : 0 < d := Nat.pos_of_dvd_of_pos hd1.1 (by omega)
      obtain ⟨p, hp, hpd⟩ := ih d (by omega) (by omega)
      exact ⟨p, hp, Nat.dvd_trans hpd hd1.1⟩
theorem Pr.cop {p a : Nat} (h : Pr p) (n : ¬ p ∣ a) : Nat.Coprime p a := by
  rcases h.2 _ (Nat.gcd_dvd_left p a) with e | e
  · exact e
  · exact absurd (by rw [← e]; exact Nat.gcd_dvd_right p a) n
theorem Pr.mul {p a b : Nat} (h : Pr p) (d : p ∣ a * b) : p ∣ a ∨ p ∣ b := by
  by_cases n : p ∣ a
  · exact .inl n
  · exact .inr ((h.cop n).dvd_of_dvd_mul_left d)
theorem Pr.ne {p q : Nat} (hp : Pr p) (hq : Pr q) (n : p ≠ q) : Nat.Coprime p q := hp.cop fun d => by
  rcases hq.2 p d with e | e
  · have := hp.1; omega
  · exact n e
theorem Pr.pow {p q : Nat} (hp : Pr p) (hq : Pr q) (n : p ≠ q) (a b : Nat) : Nat.Coprime (p ^ a) (q ^ b) := (hp.ne hq n).pow a b
/-- the division by a prime, as often as it goes -/
def dO : Nat → Nat → Nat → Nat × Nat
  | 0, l, _ => (l, 0)
  | f + 1, l, p => if l % p = 0 then ((dO f (l / p) p).1, (dO f (l / p) p).2 + 1) else (l, 0)
theorem dO_ok {p : Nat} (hp : 2 ≤ p) : ∀ (f l : Nat), 1 ≤ l → l ≤ f → l = (dO f l p).1 * p ^ (dO f l p).2 ∧ ¬ p ∣ (dO f l p).1 ∧ 1 ≤ (dO f l p).1
  | 0, l, h1, h2 => by omega
  | f + 1, l, h1, h2 => by
    unfold dO
    split
    · rename_i z
      have hd : p ∣ l := Nat.dvd_of_mod_eq_zero z
      have lt : l / p < l := Nat.div_lt_self h1 hp
      have pos : 1 ≤ l / p := (Nat.div_pos (Nat.le_of_dvd h1 hd) (by omega))
      obtain ⟨a, b, c⟩ := dO_ok hp f (l / p) pos (by omega)
      refine ⟨?_, b, c⟩
      show l = (dO f (l / p) p).1 * p ^ ((dO f (l / p) p).2 + 1)
      rw [Nat.pow_succ, ← Nat.mul_assoc, ← a, Nat.div_mul_cancel hd]
    · rename_i z
      exact ⟨by rw [Nat.pow_zero, Nat.mul_one], fun d => z (Nat.mod_eq_zero_of_dvd d), h1⟩
theorem dO_le {p : Nat} (hp : 2 ≤ p) {f l : Nat} (h1 : 1 ≤ l) (h2 : l ≤ f) : (dO f l p).1 ≤ l := by
  obtain ⟨a, _, _⟩ := dO_ok hp f l h1 h2
  have : 1 ≤ p ^ (dO f l p).2 := Nat.one_le_pow _ _ (by omega)
  calc (dO f l p).1 = (dO f l p).1 * 1 := (Nat.mul_one _).symm
    _ ≤ (dO f l p).1 * p ^ (dO f l p).2 := Nat.mul_le_mul_left _ this
    _ = l := a.symm
def ppEnd (l : Nat) : List (Nat × Nat) := if 1 < l then [(l, 1)] else []
def pp : Nat → Nat → Nat → List (Nat × Nat)
  | 0, l, _ => ppEnd l
  | f + 1, l, p => if p * p ≤ l then (if 0 < (dO l l p).2 then [(p, (dO l l p).2)] else []) ++ pp f (dO l l p).1 (p + 1) else ppEnd l
structure PP (n lo : Nat) (L : List (Nat × Nat)) : Prop where
  pr : ∀ x ∈ L, Pr x.1 ∧ x.1 ^ x.2 ∣ n ∧ lo ≤ x.1
  ps : ∀ x ∈ L, 0 < x.2
  nd : L.Pairwise fun x y => x.1 ≠ y.1
  al : ∀ q, Pr q → q ∣ n → ∃ a, (q, a) ∈ L ∧ ¬ q ^ (a + 1) ∣ n
theorem ppEnd_ok {l p : Nat} (hl : 1 ≤ l) (h2 : 2 ≤ p) (hp : ∀ q, Pr q → q ∣ l → p ≤ q) (hs : l < p * p) : PP l p (ppEnd l) := by
  unfold ppEnd
  split
  · rename_i h
    have pl : Pr l := by
      refine ⟨h, fun d hd => ?_⟩
      by_cases a : d = 1
      · exact .inl a
      · by_cases b : d = l
        · exact .inr b
        · exfalso
          obtain ⟨e, he⟩ := hd
          have d0 : d ≠ 0 := fun z => by rw [z, Nat.zero_mul] at he; omega
          have e0 : e ≠ 0 := fun z => by rw [z, Nat.mul_zero] at he; omega
          have e1 : e ≠ 1 := fun z => by rw [z, Nat.mul_one] at he; omega
          obtain ⟨q, hq, hqd⟩ := pr_div d (by omega)
          obtain ⟨r, hr, hre⟩ := pr_div e (by omega)
          have g1 := hp q hq (he ▸ Nat.dvd_trans hqd (Nat.dvd_mul_right d e))
          have g2 := hp r hr (he ▸ Nat.dvd_trans hre (Nat.dvd_mul_left e d))
          have g3 := Nat.le_of_dvd (by omega) hqd
          have g4 := Nat.le_of_dvd (by omega) hre
          have : p * p ≤ d * e := Nat.mul_le_mul (by omega) (by omega)
          omega
    refine ⟨fun x hx => ?_, fun x hx => by have e : x = (l, 1) := by simpa using hx
                                           subst e; exact Nat.one_pos, List.pairwise_singleton _ _, fun q hq hd => ⟨1, ?_, fun z => ?_⟩⟩
    · have e : x = (l, 1) := by simpa using hx
      subst e
      exact ⟨pl, by rw [Nat.pow_one]; exact Nat.dvd_refl l, hp l pl (Nat.dvd_refl l)⟩
    · rcases pl.2 q hd with e | e
      · have := hq.1; omega
      · rw [e]; exact List.mem_singleton.mpr rfl
    · rcases pl.2 q hd with e | e
      · have := hq.1; omega
      · subst e
        have z1 := Nat.le_of_dvd (by omega) z
        have : q * q ≤ q := by simpa [Nat.pow_succ] using z1
        have : q * 2 ≤ q * q := Nat.mul_le_mul_left q (by omega)
        omega
  · rename_i h
    refine ⟨fun x hx => (nomatch hx), fun x hx => (nomatch hx), .nil, fun q hq hd => ?_⟩
    have := Nat.le_of_dvd hl hd
    have := hq.1
    omega
theorem pp_ok : ∀ (f l p : Nat), 2 ≤ p → 1 ≤ l → (∀ q, Pr q → q ∣ l → p ≤ q) → l < f + p → PP l p (pp f l p)
  | 0, l, p, h2, h1, hp, hf => ppEnd_ok h1 h2 hp (Nat.lt_of_lt_of_le hf (by rw [Nat.zero_add]; exact Nat.le_mul_of_pos_right p (by omega)))
  | f + 1, l, p, h2, h1, hp, hf => by
    unfold pp
    split
    · rename_i hs
      obtain ⟨a, b, c⟩ := dO_ok h2 l l h1 (Nat.le_refl _)
      have le := dO_le h2 h1 (Nat.le_refl l)
      generalize hr : dO l l p = r at a b c le
      obtain ⟨l', k⟩ := r
      have a : l = l' * p ^ k := a
      have b : ¬ p ∣ l' := b
      have c : 1 ≤ l' := c
      have le : l' ≤ l := le
      have dl : l' ∣ l := ⟨p ^ k, a⟩
      have hp' : ∀ q, Pr q → q ∣ l' → p + 1 ≤ q := fun q hq hd => by
        have := hp q hq (Nat.dvd_trans hd dl)
        rcases Nat.lt_or_ge p q with z | z
        · exact z
        · have e : q = p := by omega
          exact absurd (e ▸ hd) b
      have ih := pp_ok f l' (p + 1) (by omega) c hp' (by omega)
      show PP l p ((if 0 < k then [(p, k)] else []) ++ pp f l' (p + 1))
      by_cases hk : 0 < k
      · rw [if_pos hk]
        have pd : p ∣ l := a ▸ Nat.dvd_trans (Nat.dvd_trans (by rw [Nat.pow_one]; exact Nat.dvd_refl p) (Nat.pow_dvd_pow p hk)) (Nat.dvd_mul_left _ _)
        have pp' : Pr p := by
          refine ⟨h2, fun d hd => ?_⟩
          by_cases z : d = 1
          · exact .inl z
          · refine .inr ?_
            have d0 : 0 < d := Nat.pos_of_dvd_of_pos hd (by omega)
            obtain ⟨q, hq, hqd⟩ := pr_div d (by omega)
            have := hp q hq (Nat.dvd_trans hqd (Nat.dvd_trans hd pd))
            have := Nat.le_of_dvd d0 hqd
            have := Nat.le_of_dvd (by omega) hd
            omega
        refine ⟨fun x hx => ?_, fun x hx => ?_, ?_, fun q hq hd => ?_⟩
        rotate_left
        · rcases List.mem_cons.mp hx with e | hx
          · subst e; exact hk
          · exact ih.ps x hx
        rotate_right
        · rcases List.mem_cons.mp hx with e | hx
          · subst e
            exact ⟨pp', a ▸ Nat.dvd_mul_left _ _, Nat.le_refl _⟩
          · obtain ⟨x1, x2, x3⟩ := ih.pr x hx
            exact ⟨x1, Nat.dvd_trans x2 dl, by omega⟩
        · refine List.pairwise_cons.mpr ⟨fun x hx => ?_, ih.nd⟩
          have := (ih.pr x hx).2.2
          show p ≠ x.1
          omega
        · by_cases e : q = p
          · subst e
            refine ⟨k, List.mem_cons_self, fun z => ?_⟩
            rw [a, Nat.pow_succ, Nat.mul_comm l', Nat.mul_comm (q ^ k)] at z
            have z : q ^ k * q ∣ q ^ k * l' := by rw [Nat.mul_comm (q ^ k) q]; exact z
            exact b (Nat.dvd_of_mul_dvd_mul_left (Nat.pow_pos (by omega)) z)
          · rw [a] at hd
            have hd' : q ∣ l' := by
              rcases hq.mul hd with z | z
              · exact z
              · exfalso
                have cq := (hq.ne pp' e).pow 1 k
                rw [Nat.pow_one] at cq
                have := Nat.Coprime.eq_one_of_dvd cq z
                have := hq.1
                omega
            obtain ⟨j, hj, nj⟩ := ih.al q hq hd'
            refine ⟨j, List.mem_cons_of_mem _ hj, fun z => nj ?_⟩
            rw [a] at z
            exact (hq.pow pp' e (j + 1) k).dvd_of_dvd_mul_right z
      · have k0 : k = 0 := by omega
        subst k0
        rw [if_neg (by omega), List.nil_append]
        have e : l = l' := by rw [a, Nat.pow_zero, Nat.mul_one]
        rw [e]
        exact ⟨fun x hx => ⟨(ih.pr x hx).1, (ih.pr x hx).2.1, by have := (ih.pr x hx).2.2; omega⟩, ih.ps, ih.nd, ih.al⟩
    · rename_i hs
      exact ppEnd_ok h1 h2 hp (by omega)
theorem pp_N {n : Nat} (h : 1 ≤ n) : PP n 2 (pp n n 2) := pp_ok n n 2 (by decide) h (fun q hq _ => hq.1) (by omega)
/-! telling -/
def Tls (n : Nat) (cs : List Nat) (l : Nat) : Prop := ∀ d, d ∣ n → (d ∈ cs ↔ Nat.gcd d l ∈ cs)
theorem Tls.self (n : Nat) (cs : List Nat) : Tls n cs n := fun d hd => by rw [Nat.gcd_eq_left hd]
theorem Tls.gcd {n l m : Nat} {cs : List Nat} (hl : Tls n cs l) (hm : Tls n cs m) : Tls n cs (Nat.gcd l m) := fun d hd => by
  rw [hl d hd, hm (Nat.gcd d l) (Nat.dvd_trans (Nat.gcd_dvd_left d l) hd), Nat.gcd_assoc]
theorem Tls.up {n l m : Nat} {cs : List Nat} (hl : Tls n cs l) (d1 : l ∣ m) : Tls n cs m := fun d hd => by
  rw [hl d hd, hl (Nat.gcd d m) (Nat.dvd_trans (Nat.gcd_dvd_left d m) hd), Nat.gcd_assoc, Nat.gcd_eq_right d1]
/-- the program's test -/
def ndl (m : Nat) (cs : List Nat) (p : Nat) : Bool := cs.all fun s => if m % (s * p) = 0 then (if m % (s * p * p) = 0 then true else decide (s * p ∈ cs)) else decide (s / p ∈ cs)
theorem gcd_p {m d p : Nat} (hp : Pr p) (pm : p ∣ m) (m0 : 0 < m) (hd : d ∣ m) (n : ¬ d * p ∣ m) : p ∣ d ∧ Nat.gcd d (m / p) = d / p := by
  obtain ⟨e, he⟩ := hd
  have ne : ¬ p ∣ e := fun ⟨k, hk⟩ => n ⟨k, by rw [he, hk, Nat.mul_assoc]⟩
  have pd : p ∣ d := by
    rw [he] at pm
    rcases hp.mul pm with z | z
    · exact z
    · exact absurd z ne
  refine ⟨pd, ?_⟩
  obtain ⟨k, hk⟩ := pd
  have p0 : 0 < p := by have := hp.1; omega
  have e1 : d / p = k := by rw [hk, Nat.mul_div_cancel_left _ p0]
  have e2 : m / p = k * e := by rw [he, hk, Nat.mul_assoc, Nat.mul_div_cancel_left _ p0]
  rw [e1, e2, hk, Nat.mul_comm p k, Nat.gcd_mul_left]
  rw [show Nat.gcd p e = 1 from hp.cop ne, Nat.mul_one]
theorem gcd_q {m d p : Nat} (p0 : 0 < p) (h : d * p ∣ m) : Nat.gcd d (m / p) = d := by
  obtain ⟨k, hk⟩ := h
  refine Nat.gcd_eq_left ⟨k, ?_⟩
  rw [hk, Nat.mul_assoc, Nat.mul_comm p k, ← Nat.mul_assoc, Nat.mul_div_cancel _ p0]
/-- the classes that divide m -/
def low (m : Nat) (cs : List Nat) : List Nat := cs.filter fun s => decide (m % s = 0)
theorem mem_low {m s : Nat} {cs : List Nat} : s ∈ low m cs ↔ s ∈ cs ∧ s ∣ m := by
  unfold low
  rw [List.mem_filter]
  exact and_congr_right fun _ => by rw [decide_eq_true_iff]; exact ⟨Nat.dvd_of_mod_eq_zero, Nat.mod_eq_zero_of_dvd⟩
theorem ndl_iff {n m p : Nat} {cs : List Nat} (hp : Pr p) (m0 : 0 < m) (mn : m ∣ n) (pm : p ∣ m) (ht : Tls n cs m) : ndl m (low m cs) p = true ↔ Tls n cs (m / p) := by
  have p0 : 0 < p := by have := hp.1; omega
  have dm : m / p ∣ m := Nat.div_dvd_of_dvd pm
  unfold ndl
  rw [List.all_eq_true]
  constructor
  · intro h
    have key : ∀ d, d ∣ m → (d ∈ cs ↔ Nat.gcd d (m / p) ∈ cs) := fun d hd => by
      by_cases z : d * p ∣ m
      · rw [gcd_q p0 z]
      · obtain ⟨pd, e⟩ := gcd_p hp pm m0 hd z
        rw [e]
        have em : d / p * p = d := Nat.div_mul_cancel pd
        have dd : d / p ∣ m := Nat.dvd_trans (Nat.div_dvd_of_dvd pd) hd
        constructor
        · intro hc
          have g := h d (mem_low.mpr ⟨hc, hd⟩)
          rw [if_neg (fun y => z (Nat.dvd_of_mod_eq_zero y))] at g
          exact (mem_low.mp (of_decide_eq_true g)).1
        · intro hc
          have g := h (d / p) (mem_low.mpr ⟨hc, dd⟩)
          rw [em, if_pos (Nat.mod_eq_zero_of_dvd hd), if_neg (fun y => z (Nat.dvd_of_mod_eq_zero y))] at g
          exact (mem_low.mp (of_decide_eq_true g)).1
    intro d hd
    rw [ht d hd, key _ (Nat.gcd_dvd_right d m), Nat.gcd_assoc, Nat.gcd_eq_right dm]
  · intro h s hs
    obtain ⟨hc, hd⟩ := mem_low.mp hs
    by_cases z : m % (s * p) = 0
    · rw [if_pos z]
      by_cases y : m % (s * p * p) = 0
      · rw [if_pos y]
      · rw [if_neg y]
        have zd : s * p ∣ m := Nat.dvd_of_mod_eq_zero z
        have e := (gcd_p hp pm m0 zd (fun q => y (Nat.mod_eq_zero_of_dvd q))).2
        rw [Nat.mul_div_cancel _ p0] at e
        exact decide_eq_true (mem_low.mpr ⟨(h (s * p) (Nat.dvd_trans zd mn)).mpr (by rw [e]; exact hc), zd⟩)
    · rw [if_neg z]
      obtain ⟨pd, e⟩ := gcd_p hp pm m0 hd (fun q => z (Nat.mod_eq_zero_of_dvd q))
      refine decide_eq_true (mem_low.mpr ⟨?_, Nat.dvd_trans (Nat.div_dvd_of_dvd pd) hd⟩)
      rw [← e]
      exact (h s (Nat.dvd_trans hd mn)).mp hc
/-- a turn -/
def trn (cs : List Nat) (p m : Nat) : Nat := if ndl m (low m cs) p then m / p else m
def trns (cs : List Nat) (p : Nat) : Nat → Nat → Nat
  | 0, m => m
  | a + 1, m => trns cs p a (trn cs p m)
def shq (cs : List Nat) : List (Nat × Nat) → Nat → Nat
  | [], m => m
  | x :: r, m => shq cs r (trns cs x.1 x.2 m)
structure St' (n : Nat) (cs : List Nat) (m : Nat) : Prop where
  pos : 0 < m
  dv : m ∣ n
  tl : Tls n cs m
theorem trn_ok {n m p : Nat} {cs : List Nat} (hp : Pr p) (h : St' n cs m) (pm : p ∣ m) : St' n cs (trn cs p m) ∧ ((trn cs p m = m ∧ ¬ Tls n cs (m / p)) ∨ trn cs p m * p = m) := by
  unfold trn
  have p0 : 0 < p := by have := hp.1; omega
  split
  · rename_i z
    refine ⟨⟨Nat.div_pos (Nat.le_of_dvd h.pos pm) p0, Nat.dvd_trans (Nat.div_dvd_of_dvd pm) h.dv, (ndl_iff hp h.pos h.dv pm h.tl).mp z⟩, .inr (Nat.div_mul_cancel pm)⟩
  · rename_i z
    exact ⟨h, .inl ⟨rfl, fun y => z ((ndl_iff hp h.pos h.dv pm h.tl).mpr y)⟩⟩
theorem trns_ok {n p : Nat} {cs : List Nat} (hp : Pr p) : ∀ (a m : Nat), St' n cs m → p ^ a ∣ m → St' n cs (trns cs p a m) ∧ ∃ t, t ≤ a ∧ m = trns cs p a m * p ^ t ∧ (t = a ∨ (p ∣ trns cs p a m ∧ ¬ Tls n cs (trns cs p a m / p)))
  | 0, m, h, _ => ⟨h, 0, Nat.le_refl _, by show m = m * p ^ 0; rw [Nat.pow_zero, Nat.mul_one], .inl rfl⟩
  | a + 1, m, h, hd => by
    have pm : p ∣ m := Nat.dvd_trans ⟨p ^ a, by rw [Nat.pow_succ, Nat.mul_comm]⟩ hd
    obtain ⟨h1, h2⟩ := trn_ok hp h pm
    have p0 : 0 < p := by have := hp.1; omega
    rcases h2 with ⟨e, nt⟩ | e
    · have da : p ^ a ∣ trn cs p m := by rw [e]; exact Nat.dvd_trans ⟨p, by rw [Nat.pow_succ]⟩ hd
      obtain ⟨g1, t, g2, g3, g4⟩ := trns_ok hp a (trn cs p m) h1 da
      rw [e] at g3
      have stay : ∀ k, trns cs p k m = m := fun k => by
        induction k with
        | zero => rfl
        | succ k ih => show trns cs p k (trn cs p m) = m; rw [e, ih]
      refine ⟨g1, ?_⟩
      rw [stay (a + 1)]
      exact ⟨0, Nat.zero_le _, by rw [Nat.pow_zero, Nat.mul_one], .inr ⟨pm, nt⟩⟩
    · have da : p ^ a ∣ trn cs p m := by
        rw [← e, Nat.pow_succ] at hd
        exact Nat.dvd_of_mul_dvd_mul_right p0 hd
      obtain ⟨g1, t, g2, g3, g4⟩ := trns_ok hp a (trn cs p m) h1 da
      refine ⟨g1, t + 1, by omega, ?_, ?_⟩
      · show m = trns cs p a (trn cs p m) * p ^ (t + 1)
        rw [Nat.pow_succ, ← Nat.mul_assoc, ← g3, e]
      · rcases g4 with z | z
        · exact .inl (by omega)
        · exact .inr z
theorem shq_ok {n : Nat} {cs : List Nat} (n0 : 0 < n) : ∀ (L : List (Nat × Nat)) (m : Nat) (dn : Nat → Prop), St' n cs m → (∀ x ∈ L, Pr x.1 ∧ x.1 ^ x.2 ∣ m ∧ ¬ x.1 ^ (x.2 + 1) ∣ n) → L.Pairwise (fun x y => x.1 ≠ y.1) → (∀ q, dn q → Pr q ∧ (¬ q ∣ m ∨ ¬ Tls n cs (m / q))) →
    St' n cs (shq cs L m) ∧ ∀ q, Pr q → (dn q ∨ ∃ x ∈ L, x.1 = q) → ¬ q ∣ shq cs L m ∨ ¬ Tls n cs (shq cs L m / q)
  | [], m, dn, h, _, _, hd => ⟨h, fun q _ z => z.elim (fun z => (hd q z).2) fun ⟨_, z, _⟩ => nomatch z⟩
  | (p, a) :: L, m, dn, h, hL, nd, hd => by
    obtain ⟨hp, hpa, hpn⟩ := hL (p, a) List.mem_cons_self
    obtain ⟨nd1, nd2⟩ := List.pairwise_cons.mp nd
    obtain ⟨g1, t, g2, g3, g4⟩ := trns_ok hp a m h hpa
    have p0 : 0 < p := by have := hp.1; omega
    generalize hm : trns cs p a m = m' at g1 g3 g4
    have keep : ∀ q, Pr q → (¬ q ∣ m ∨ ¬ Tls n cs (m / q)) → (¬ q ∣ m' ∨ ¬ Tls n cs (m' / q)) := fun q hq z => by
      by_cases y : q ∣ m'
      · rcases z with z | z
        · exact absurd (g3 ▸ Nat.dvd_trans y (Nat.dvd_mul_right _ _)) z
        · refine .inr fun w => z (w.up ?_)
          obtain ⟨k, hk⟩ := y
          have q0 : 0 < q := by have := hq.1; omega
          rw [g3, hk, Nat.mul_div_cancel_left _ q0, Nat.mul_assoc, Nat.mul_div_cancel_left _ q0]
          exact Nat.dvd_mul_right _ _
      · exact .inl y
    have fin : ¬ p ∣ m' ∨ ¬ Tls n cs (m' / p) := by
      rcases g4 with z | z
      · refine .inl fun y => hpn (Nat.dvd_trans ?_ h.dv)
        obtain ⟨k, hk⟩ := y
        subst z
        exact ⟨k, by rw [g3, hk, Nat.pow_succ, Nat.mul_comm (p * k), ← Nat.mul_assoc]⟩
      · exact .inr z.2
    have k1 : ∀ x ∈ L, Pr x.1 ∧ x.1 ^ x.2 ∣ m' ∧ ¬ x.1 ^ (x.2 + 1) ∣ n := fun x hx => by
      obtain ⟨x1, x2, x3⟩ := hL x (List.mem_cons_of_mem _ hx)
      refine ⟨x1, ?_, x3⟩
      rw [g3] at x2
      exact (x1.pow hp (fun e => nd1 x hx e.symm) x.2 t).dvd_of_dvd_mul_right x2
    have k2 : ∀ q, (dn q ∨ q = p) → Pr q ∧ (¬ q ∣ m' ∨ ¬ Tls n cs (m' / q)) := fun q hq => by
      rcases hq with hq | hq
      · exact ⟨(hd q hq).1, keep q (hd q hq).1 (hd q hq).2⟩
      · subst hq; exact ⟨hp, fin⟩
    obtain ⟨r1, r2⟩ := shq_ok n0 L m' (fun q => dn q ∨ q = p) g1 k1 nd2 k2
    have em : shq cs ((p, a) :: L) m = shq cs L m' := by show shq cs L (trns cs p a m) = _; rw [hm]
    rw [em]
    refine ⟨r1, fun q hq z => r2 q hq ?_⟩
    rcases z with z | ⟨x, hx, z⟩
    · exact .inl (.inl z)
    · rcases List.mem_cons.mp hx with e | hx
      · subst e; exact .inl (.inr z.symm)
      · exact .inr ⟨x, hx, z⟩
/-- the period at the end -/
def leaQ (n : Nat) (cs : List Nat) : Nat := shq cs (pp n n 2) n
theorem lea_ok {n : Nat} (cs : List Nat) (n0 : 0 < n) : St' n cs (leaQ n cs) ∧ ∀ l, l ∣ n → Tls n cs l → leaQ n cs ∣ l := by
  have P := pp_N (n := n) n0
  have hx : ∀ x ∈ pp n n 2, Pr x.1 ∧ x.1 ^ x.2 ∣ n ∧ ¬ x.1 ^ (x.2 + 1) ∣ n := fun x hx => by
    obtain ⟨a, b, _⟩ := P.pr x hx
    refine ⟨a, b, ?_⟩
    by_cases z : x.1 ∣ n
    · obtain ⟨k, hk, nk⟩ := P.al x.1 a z
      have same : ∀ {L : List (Nat × Nat)}, L.Pairwise (fun x y => x.1 ≠ y.1) → ∀ y ∈ L, ∀ w ∈ L, y.1 = w.1 → y = w := by
        intro L
        induction L with
        | nil => intro _ y hy; exact nomatch hy
        | cons v L ih =>
          intro hL y hy w hw e
          obtain ⟨h1, h2⟩ := List.pairwise_cons.mp hL
          rcases List.mem_cons.mp hy with hy | hy
          · rcases List.mem_cons.mp hw with hw | hw
            · rw [hy, hw]
            · exact absurd (by rw [← hy]; exact e) (h1 w hw)
          · rcases List.mem_cons.mp hw with hw | hw
            · exact absurd (by rw [← hw]; exact e.symm) (h1 y hy)
            · exact ih h2 y hy w hw e
      have e := same P.nd x hx _ hk rfl
      rw [e]
      exact nk
    · exact fun y => z (Nat.dvd_trans ⟨x.1 ^ x.2, by rw [Nat.pow_succ, Nat.mul_comm]⟩ y)
  obtain ⟨h1, h2⟩ := shq_ok (cs := cs) n0 (pp n n 2) n (fun _ => False) ⟨n0, Nat.dvd_refl n, Tls.self n cs⟩ hx P.nd (fun q z => z.elim)
  refine ⟨h1, fun l hl ht => ?_⟩
  have hg := h1.tl.gcd ht
  have dg : Nat.gcd (leaQ n cs) l ∣ leaQ n cs := Nat.gcd_dvd_left _ _
  by_cases e : Nat.gcd (leaQ n cs) l = leaQ n cs
  · rw [← e]; exact Nat.gcd_dvd_right _ _
  · exfalso
    obtain ⟨k, hk⟩ := dg
    have h0 : 0 < leaQ n cs := h1.pos
    have k0 : k ≠ 0 := fun z => by rw [z, Nat.mul_zero] at hk; omega
    have k1 : k ≠ 1 := fun z => by rw [z, Nat.mul_one] at hk; exact e hk.symm
    obtain ⟨q, hq, c, hc⟩ := pr_div k (by omega)
    have q0 : 0 < q := by have := hq.1; omega
    have ek : leaQ n cs = q * (Nat.gcd (leaQ n cs) l * c) := by
      rw [Nat.mul_left_comm, ← hc]
      exact hk
    have qd : q ∣ leaQ n cs := ⟨_, ek⟩
    have hqn := Nat.dvd_trans qd h1.dv
    obtain ⟨a, ha, _⟩ := P.al q hq hqn
    rcases h2 q hq (.inr ⟨_, ha, rfl⟩) with z | z
    · exact z qd
    · refine z (hg.up ?_)
      have : leaQ n cs / q = Nat.gcd (leaQ n cs) l * c := by
        rw [Nat.div_eq_of_eq_mul_right q0 ek]
      show Nat.gcd (leaQ n cs) l ∣ leaQ n cs / q
      rw [this]
      exact Nat.dvd_mul_right _ _
structure Gt (n : Nat) (cs : List Nat) (p a m : Nat) : Prop where
  st : St' n cs m
  pr : Pr p
  pw : p ^ a ∣ m
theorem Gt.dv {n p a m : Nat} {cs : List Nat} (h : Gt n cs p (a + 1) m) : p ∣ m := Nat.dvd_trans ⟨p ^ a, by rw [Nat.pow_succ, Nat.mul_comm]⟩ h.pw
theorem Gt.step {n p a m : Nat} {cs : List Nat} (h : Gt n cs p (a + 1) m) : Gt n cs p a (trn cs p m) := by
  obtain ⟨h1, h2⟩ := trn_ok h.pr h.st h.dv
  have p0 : 0 < p := by have := h.pr.1; omega
  refine ⟨h1, h.pr, ?_⟩
  have hd := h.pw
  rcases h2 with ⟨e, _⟩ | e
  · rw [e]; exact Nat.dvd_trans ⟨p, by rw [Nat.pow_succ]⟩ hd
  · rw [← e, Nat.pow_succ] at hd
    exact Nat.dvd_of_mul_dvd_mul_right p0 hd
structure Go (n : Nat) (cs : List Nat) (L : List (Nat × Nat)) (m : Nat) : Prop where
  st : St' n cs m
  pr : ∀ x ∈ L, Pr x.1 ∧ x.1 ^ x.2 ∣ m ∧ 0 < x.2
  nd : L.Pairwise fun x y => x.1 ≠ y.1
theorem Go.gt {n p a m : Nat} {cs : List Nat} {L : List (Nat × Nat)} (h : Go n cs ((p, a) :: L) m) : Gt n cs p a m := ⟨h.st, (h.pr _ List.mem_cons_self).1, (h.pr _ List.mem_cons_self).2.1⟩
theorem Go.le {n p a m : Nat} {cs : List Nat} {L : List (Nat × Nat)} (h : Go n cs ((p, a) :: L) m) : p ≤ m := by
  obtain ⟨_, h2, h3⟩ := h.pr _ List.mem_cons_self
  have h3 : 0 < a := h3
  have h2 : p ^ a ∣ m := h2
  have : p ∣ p ^ a := by
    obtain ⟨b, rfl⟩ : ∃ b, a = b + 1 := ⟨a - 1, by omega⟩
    exact ⟨p ^ b, by rw [Nat.pow_succ, Nat.mul_comm]⟩
  exact Nat.le_of_dvd h.st.pos (Nat.dvd_trans this h2)
theorem Go.step {n p a m : Nat} {cs : List Nat} {L : List (Nat × Nat)} (h : Go n cs ((p, a) :: L) m) : Go n cs L (trns cs p a m) := by
  obtain ⟨nd1, nd2⟩ := List.pairwise_cons.mp h.nd
  obtain ⟨hp, hpa, _⟩ := h.pr (p, a) List.mem_cons_self
  obtain ⟨g1, t, g2, g3, g4⟩ := trns_ok hp a m h.st hpa
  refine ⟨g1, fun x hx => ?_, nd2⟩
  obtain ⟨x1, x2, x3⟩ := h.pr x (List.mem_cons_of_mem _ hx)
  refine ⟨x1, ?_, x3⟩
  rw [g3] at x2
  exact (x1.pow hp (fun e => nd1 x hx e.symm) x.2 t).dvd_of_dvd_mul_right x2
theorem Go.start {n : Nat} (cs : List Nat) (n0 : 1 ≤ n) : Go n cs (pp n n 2) n := ⟨⟨n0, Nat.dvd_refl n, Tls.self n cs⟩, fun x hx => ⟨((pp_N n0).pr x hx).1, ((pp_N n0).pr x hx).2.1, (pp_N n0).ps x hx⟩, (pp_N n0).nd⟩
theorem Gt.lt {n p a m : Nat} {cs : List Nat} (h : Gt n cs p a m) : a < m := by
  have h1 : a < 2 ^ a := Nat.lt_two_pow_self
  have h2 : 2 ^ a ≤ p ^ a := Nat.pow_le_pow_left h.pr.1 a
  have h3 := Nat.le_of_dvd h.st.pos h.pw
  omega
theorem low_low {m m' : Nat} {cs : List Nat} (d : m' ∣ m) : low m' (low m cs) = low m' cs := by
  unfold low
  rw [List.filter_filter]
  congr 1
  funext s
  by_cases h : m' % s = 0
  · rw [decide_eq_true h, decide_eq_true (Nat.mod_eq_zero_of_dvd (Nat.dvd_trans (Nat.dvd_of_mod_eq_zero h) d))]
    rfl
  · rw [decide_eq_false h]
    rfl
theorem low_self {n : Nat} {cs : List Nat} (h : ∀ s ∈ cs, s ∣ n) : low n cs = cs := by
  unfold low
  rw [List.filter_eq_self]
  intro s hs
  exact decide_eq_true (Nat.mod_eq_zero_of_dvd (h s hs))

/-! ### which sizes are in; the next one -/
def hasB (n : Nat) (cs os : List Nat) (m : Nat) : Bool := true.xor (decide (Nat.gcd m n ∈ cs) == decide (m ∈ os))
theorem hasB_t {n m : Nat} {cs os : List Nat} : hasB n cs os m = true ↔ ((Nat.gcd m n ∈ cs ∧ m ∉ os) ∨ (Nat.gcd m n ∉ cs ∧ m ∈ os)) := by
  unfold hasB
  by_cases a : Nat.gcd m n ∈ cs <;> by_cases b : m ∈ os
  · rw [decide_eq_true a, decide_eq_true b]
    exact ⟨(fun z => nomatch z), fun z => z.elim (fun z => absurd b z.2) fun z => absurd a z.1⟩
  · rw [decide_eq_true a, decide_eq_false b]
    exact ⟨fun _ => .inl ⟨a, b⟩, fun _ => rfl⟩
  · rw [decide_eq_false a, decide_eq_true b]
    exact ⟨fun _ => .inr ⟨a, b⟩, fun _ => rfl⟩
  · rw [decide_eq_false a, decide_eq_false b]
    exact ⟨(fun z => nomatch z), fun z => z.elim (fun z => absurd z.1 a) fun z => absurd z.2 b⟩
theorem gcd_short {n m : Nat} {cs : List Nat} (n0 : 0 < n) : Nat.gcd m (leaQ n cs) ∈ low (leaQ n cs) cs ↔ Nat.gcd m n ∈ cs := by
  obtain ⟨h1, _⟩ := lea_ok cs n0
  rw [mem_low, h1.tl (Nat.gcd m n) (Nat.gcd_dvd_right m n), Nat.gcd_assoc, Nat.gcd_eq_right h1.dv]
  exact ⟨fun z => z.1, fun z => ⟨z, Nat.gcd_dvd_right _ _⟩⟩
theorem has_short {n m : Nat} {cs os : List Nat} (n0 : 0 < n) : hasB (leaQ n cs) (low (leaQ n cs) cs) os m = hasB n cs os m := by
  unfold hasB
  rw [decide_eq_decide.mpr (gcd_short (m := m) n0)]
/-- r is the least size above k that is in -/
def Lst (n : Nat) (cs os : List Nat) (k : Int) : Option Nat → Prop
  | none => ∀ m : Nat, 0 < m → k < (m : Int) → hasB n cs os m = false
  | some m => 0 < m ∧ k < (m : Int) ∧ hasB n cs os m = true ∧ ∀ j : Nat, 0 < j → k < (j : Int) → hasB n cs os j = true → m ≤ j
theorem least_nat {P : Nat → Prop} (h : ∃ n, P n) : ∃ n, P n ∧ ∀ j, P j → n ≤ j := by
  obtain ⟨n, hn⟩ := h
  induction n using Nat.strongRecOn with
  | _ n ih =>
    by_cases z : ∃ j, j < n ∧ P j
    · obtain ⟨j, hj, pj⟩ := z
      exact ih j hj pj
    · exact ⟨n, hn, fun j pj => Nat.le_of_not_lt fun hj => z ⟨j, hj, pj⟩⟩
theorem lst_ex (n : Nat) (cs os : List Nat) (k : Int) : ∃ r, Lst n cs os k r := by
  by_cases h : ∃ m : Nat, 0 < m ∧ k < (m : Int) ∧ hasB n cs os m = true
  · obtain ⟨m, ⟨h1, h2, h3⟩, h4⟩ := least_nat h
    exact ⟨some m, h1, h2, h3, fun j j1 j2 j3 => h4 j ⟨j1, j2, j3⟩⟩
  · refine ⟨none, fun m m0 hm => ?_⟩
    cases q : hasB n cs os m with
    | false => rfl
    | true => exact absurd ⟨m, m0, hm, q⟩ h
theorem lst_uni {n : Nat} {cs os : List Nat} {k : Int} {r r' : Option Nat} (h : Lst n cs os k r) (h' : Lst n cs os k r') : r = r' := by
  cases r with
  | none =>
    cases r' with
    | none => rfl
    | some m => have := h m h'.1 h'.2.1; rw [h'.2.2.1] at this; cases this
  | some m =>
    cases r' with
    | none => have := h' m h.1 h.2.1; rw [h.2.2.1] at this; cases this
    | some m' =>
      have a := h.2.2.2 m' h'.1 h'.2.1 h'.2.2.1
      have b := h'.2.2.2 m h.1 h.2.1 h.2.2.1
      rw [Nat.le_antisymm a b]
/-- the least times at which the class is met off the odd ones -/
def GoodT (l d : Nat) (os : List Nat) (t : Nat) : Prop := Nat.gcd (d * t) l = d ∧ d * t ∉ os
theorem mem_le_sum {os : List Nat} {x : Nat} (h : x ∈ os) : x ≤ os.sum := by
  induction os with
  | nil => cases h
  | cons a as ih =>
    rw [List.sum_cons]
    rcases List.mem_cons.mp h with e | h
    · omega
    · have := ih h; omega
theorem good_ex {l d : Nat} (os : List Nat) (d0 : 0 < d) (l0 : 0 < l) (hd : d ∣ l) (t0 : Nat) : ∃ t, t0 ≤ t ∧ t ≤ 1 + l * (t0 + os.sum + 1) ∧ GoodT l d os t ∧ ∀ j, t0 ≤ j → j < t → ¬ GoodT l d os j := by
  obtain ⟨e, he⟩ := hd
  have e0 : 0 < e := Nat.pos_of_ne_zero fun z => by rw [z, Nat.mul_zero] at he; omega
  have hT : GoodT l d os (1 + e * (t0 + os.sum + 1)) := by
    refine ⟨?_, fun z => ?_⟩
    · rw [he, Nat.gcd_mul_left]
      have : Nat.gcd (1 + e * (t0 + os.sum + 1)) e = 1 := by
        rw [Nat.gcd_comm, Nat.gcd_rec]
        by_cases h1 : e = 1
        · subst h1; simp
        · rw [Nat.add_mul_mod_self_left, Nat.mod_eq_of_lt (by omega)]
          exact Nat.gcd_one_left e
      rw [this, Nat.mul_one]
    · have := mem_le_sum z
      have a : 1 * (t0 + os.sum + 1) ≤ e * (t0 + os.sum + 1) := Nat.mul_le_mul_right _ e0
      have b : 1 * (1 + e * (t0 + os.sum + 1)) ≤ d * (1 + e * (t0 + os.sum + 1)) := Nat.mul_le_mul_right _ d0
      omega
  have le1 : t0 ≤ 1 + e * (t0 + os.sum + 1) := by
    have a : 1 * (t0 + os.sum + 1) ≤ e * (t0 + os.sum + 1) := Nat.mul_le_mul_right _ e0
    omega
  have le2 : 1 + e * (t0 + os.sum + 1) ≤ 1 + l * (t0 + os.sum + 1) := by
    have : e ≤ l := Nat.le_of_dvd l0 ⟨d, by rw [he, Nat.mul_comm]⟩
    have := Nat.mul_le_mul_right (t0 + os.sum + 1) this
    omega
  obtain ⟨t, ⟨h1, h2⟩, h3⟩ := least_nat (P := fun t => t0 ≤ t ∧ GoodT l d os t) ⟨_, le1, hT⟩
  have h4 := h3 _ ⟨le1, hT⟩
  exact ⟨t, h1, by omega, h2, fun j j1 j2 j3 => by have := h3 j ⟨j1, j3⟩; omega⟩
/-- where the walk begins -/
def t0Q (d : Nat) (k : Int) : Nat := k.toNat / d + 1
theorem t0_gt {d : Nat} {k : Int} (d0 : 0 < d) {t : Nat} (h : t0Q d k ≤ t) : k < ((d * t : Nat) : Int) ∧ 0 < d * t := by
  unfold t0Q at h
  have a : k.toNat < d * (k.toNat / d + 1) := by
    have := Nat.div_add_mod k.toNat d
    have := Nat.mod_lt k.toNat d0
    rw [Nat.mul_add, Nat.mul_one]
    omega
  have b : d * (k.toNat / d + 1) ≤ d * t := Nat.mul_le_mul_left d h
  omega
theorem t0_le {d : Nat} {k : Int} (d0 : 0 < d) {t : Nat} (h : k < ((d * t : Nat) : Int)) (h0 : 0 < d * t) : t0Q d k ≤ t := by
  unfold t0Q
  have a : k.toNat < d * t := by omega
  have := (Nat.div_lt_iff_lt_mul d0).mpr (by rw [Nat.mul_comm] at a; exact a)
  omega
structure NxT (l d : Nat) (os : List Nat) (k : Int) (t : Nat) : Prop where
  ge : t0Q d k ≤ t
  le : t ≤ 1 + l * (t0Q d k + os.sum + 1)
  gd : GoodT l d os t
  mn : ∀ j, t0Q d k ≤ j → j < t → ¬ GoodT l d os j
/-- the least of all these is the least size above -/
theorem lst_of {n : Nat} {cs os : List Nat} {k : Int} {tf : Nat → Nat} (hc : ∀ d ∈ cs, 0 < d ∧ d ∣ n) (ho : ∀ o ∈ os, 0 < o) (ht : ∀ d ∈ cs, NxT n d os k (tf d)) :
    (cs = [] → (∀ o ∈ os, k < (o : Int) → hasB n cs os o = false) → Lst n cs os k none) ∧
    ∀ m, (m ∈ cs.map (fun d => d * tf d) ∨ (m ∈ os ∧ k < (m : Int) ∧ hasB n cs os m = true)) → (∀ j, (j ∈ cs.map (fun d => d * tf d) ∨ (j ∈ os ∧ k < (j : Int) ∧ hasB n cs os j = true)) → m ≤ j) → Lst n cs os k (some m) := by
  refine ⟨fun e h m m0 hm => ?_, fun m hm hmin => ?_⟩
  · cases q : hasB n cs os m with
    | false => rfl
    | true =>
      rcases hasB_t.mp q with ⟨a, _⟩ | ⟨_, a⟩
      · rw [e] at a; cases a
      · rw [h m a hm] at q; cases q
  · have key : ∀ x, (x ∈ cs.map (fun d => d * tf d) ∨ (x ∈ os ∧ k < (x : Int) ∧ hasB n cs os x = true)) → 0 < x ∧ k < (x : Int) ∧ hasB n cs os x = true := fun x hx => by
      rcases hx with hx | ⟨a, b, c⟩
      · obtain ⟨d, hd, rfl⟩ := List.mem_map.mp hx
        have g := t0_gt (hc d hd).1 (ht d hd).ge
        exact ⟨g.2, g.1, hasB_t.mpr (.inl ⟨by rw [(ht d hd).gd.1]; exact hd, (ht d hd).gd.2⟩)⟩
      · exact ⟨ho x a, b, c⟩
    obtain ⟨k1, k2, k3⟩ := key m hm
    refine ⟨k1, k2, k3, fun j j0 jk jh => ?_⟩
    rcases hasB_t.mp jh with ⟨a, b⟩ | ⟨_, a⟩
    · obtain ⟨d0, _⟩ := hc _ a
      obtain ⟨t, ht'⟩ := Nat.gcd_dvd_left j n
      have N := ht _ a
      have le : tf (Nat.gcd j n) ≤ t := by
        rcases Nat.lt_or_ge t (tf (Nat.gcd j n)) with z | z
        · exfalso
          refine N.mn t (t0_le d0 (by rw [← ht']; exact jk) (by rw [← ht']; exact j0)) z ⟨?_, ?_⟩
          · rw [← ht']
          · rw [← ht']; exact b
        · exact z
      have := hmin (Nat.gcd j n * tf (Nat.gcd j n)) (.inl (List.mem_map.mpr ⟨_, a, rfl⟩))
      have := Nat.mul_le_mul_left (Nat.gcd j n) le
      omega
    · exact hmin j (.inr ⟨a, jk, jh⟩)
/-- beyond the odd ones each class comes within a period -/
theorem near_ex {n : Nat} {cs os : List Nat} (n0 : 0 < n) {d : Nat} (hd : d ∈ cs) (d0 : 0 < d) (dn : d ∣ n) (x : Nat) (hx : ∀ o ∈ os, o ≤ x) : ∃ m, x < m ∧ m ≤ x + n ∧ hasB n cs os m = true := by
  have le := Nat.le_of_dvd n0 dn
  -- m = d + q n with x < m ≤ x + n
  have ex : ∃ q, x < d + q * n ∧ d + q * n ≤ x + n := by
    by_cases h : x < d
    · exact ⟨0, by rw [Nat.zero_mul]; omega, by rw [Nat.zero_mul]; omega⟩
    · refine ⟨(x - d) / n + 1, ?_, ?_⟩
      · have := Nat.div_add_mod (x - d) n
        have := Nat.mod_lt (x - d) n0
        rw [Nat.add_mul, Nat.one_mul, Nat.mul_comm]
        omega
      · have := Nat.div_add_mod (x - d) n
        rw [Nat.add_mul, Nat.one_mul, Nat.mul_comm]
        omega
  obtain ⟨q, h1, h2⟩ := ex
  refine ⟨d + q * n, h1, h2, hasB_t.mpr (.inl ⟨?_, fun z => by have := hx _ z; omega⟩)⟩
  rw [Nat.gcd_comm, Nat.gcd_rec, Nat.add_mul_mod_self_right]
  by_cases e : d = n
  · subst e
    rw [Nat.mod_self, Nat.gcd_zero_left]
    exact hd
  · rw [Nat.mod_eq_of_lt (by omega), Nat.gcd_eq_left dn]
    exact hd

/-! ### each number once, ascending -/
def addN (acc : List Nat) (x : Nat) : List Nat := if x ∈ acc then acc else acc ++ [x]
def fo (xs : List Nat) : List Nat := xs.foldl addN []
theorem fo_app (xs : List Nat) (x : Nat) : fo (xs ++ [x]) = addN (fo xs) x := by unfold fo; rw [List.foldl_append]; rfl
theorem mem_addN {acc : List Nat} {x y : Nat} : y ∈ addN acc x ↔ y ∈ acc ∨ y = x := by
  unfold addN
  split
  · rename_i h
    exact ⟨.inl, fun z => z.elim id fun e => e ▸ h⟩
  · rw [List.mem_append, List.mem_singleton]
theorem fl_mem {y : Nat} : ∀ (xs acc : List Nat), y ∈ xs.foldl addN acc ↔ y ∈ acc ∨ y ∈ xs
  | [], acc => by simp
  | x :: xs, acc => by
    rw [List.foldl_cons, fl_mem xs, mem_addN, List.mem_cons]
    exact ⟨fun h => h.elim (fun h => h.elim .inl fun e => .inr (.inl e)) fun h => .inr (.inr h), fun h => h.elim (fun h => .inl (.inl h)) fun h => h.elim (fun e => .inl (.inr e)) .inr⟩
theorem fo_mem {y : Nat} (xs : List Nat) : y ∈ fo xs ↔ y ∈ xs := by
  unfold fo
  rw [fl_mem]
  simp
theorem fl_nd : ∀ (xs acc : List Nat), acc.Nodup → (xs.foldl addN acc).Nodup
  | [], _, h => h
  | x :: xs, acc, h => by
    refine fl_nd xs _ ?_
    unfold addN
    split
    · exact h
    · rename_i hx
      refine List.nodup_append.mpr ⟨h, (by simp), fun a ha b hb e => ?_⟩
      rw [List.mem_singleton] at hb
      subst hb e
      exact hx ha
theorem fo_nd (xs : List Nat) : (fo xs).Nodup := fl_nd xs [] List.nodup_nil
theorem fl_len : ∀ (xs acc : List Nat), (xs.foldl addN acc).length ≤ acc.length + xs.length
  | [], _ => Nat.le_refl _
  | x :: xs, acc => by
    refine Nat.le_trans (fl_len xs _) ?_
    unfold addN
    split
    · rw [List.length_cons]; omega
    · rw [List.length_append, List.length_cons, List.length_cons, List.length_nil]; omega
theorem fo_len (xs : List Nat) : (fo xs).length ≤ xs.length := Nat.le_trans (fl_len xs []) (by rw [List.length_nil]; omega)
def srt (xs : List Nat) : List Nat := (fo xs).mergeSort fun a b => decide (a ≤ b)
theorem srt_perm (xs : List Nat) : (srt xs).Perm (fo xs) := List.mergeSort_perm _ _
theorem srt_le (xs : List Nat) : (srt xs).Pairwise (· ≤ ·) := (List.pairwise_mergeSort (le := fun a b => decide (a ≤ b)) (fun a b c h1 h2 => decide_eq_true (Nat.le_trans (of_decide_eq_true h1) (of_decide_eq_true h2))) (fun a b => by
  rcases Nat.le_total a b with h | h
  · simp [h]
  · simp [h]) (fo xs)).imp fun h => of_decide_eq_true h
theorem srt_asc (xs : List Nat) : (srt xs).Pairwise (· < ·) := by
  have h1 : (srt xs).Nodup := (srt_perm xs).nodup_iff.mpr (fo_nd xs)
  exact (List.Pairwise.and (srt_le xs) h1).imp fun h => Nat.lt_of_le_of_ne h.1 h.2
theorem srt_mem {y : Nat} (xs : List Nat) : y ∈ srt xs ↔ y ∈ xs := by rw [(srt_perm xs).mem_iff, fo_mem]
theorem srt_len (xs : List Nat) : (srt xs).length ≤ xs.length := by rw [(srt_perm xs).length_eq]; exact fo_len xs
theorem srt_int (xs : List Nat) : sortI ((fo xs).map fun x : Nat => (x : Int)) = (srt xs).map fun x : Nat => (x : Int) := by
  refine (sortI_eq ((srt_perm xs).map _) ?_).symm
  rw [List.pairwise_map]
  exact (srt_le xs).imp fun h => by omega
/-- those that are the first of their kind -/
def fst1 (xs : List Nat) (i : Nat) : Bool := true.xor (decide (xs.getD i 0 ∈ xs.take i))
theorem each_eq (xs : List Nat) : ∀ k, k ≤ xs.length → ((List.range k).filter (fst1 xs)).map (fun i => xs.getD i 0) = fo (xs.take k)
  | 0, _ => rfl
  | k + 1, h => by
    have e : xs.take (k + 1) = xs.take k ++ [xs.getD k 0] := by
      rw [List.take_succ, List.getD_eq_getElem?_getD, List.getElem?_eq_getElem (by omega)]
      rfl
    rw [List.range_succ, List.filter_append, List.map_append, each_eq xs k (by omega), e, fo_app]
    unfold addN
    by_cases z : xs.getD k 0 ∈ xs.take k
    · rw [if_pos ((fo_mem _).mpr z), List.filter_cons_of_neg (by unfold fst1; rw [decide_eq_true z]; decide)]
      exact List.append_nil _
    · rw [if_neg (fun y => z ((fo_mem _).mp y)), List.filter_cons_of_pos (by unfold fst1; rw [decide_eq_false z]; rfl)]
      rfl
/-! ### shortest forms of some -/
theorem lea1 : leaQ 1 [] = 1 := Nat.dvd_one.mp (lea_ok [] (Nat.le_refl 1)).1.dv
theorem lea_self {d : Nat} (d0 : 0 < d) : leaQ d [d] = d := by
  obtain ⟨h, _⟩ := lea_ok [d] d0
  have t := (h.tl d (Nat.dvd_refl d)).mp (List.mem_singleton.mpr rfl)
  rw [List.mem_singleton, Nat.gcd_eq_right h.dv] at t
  exact t
theorem low_one {d : Nat} : low d [d] = [d] := by
  unfold low
  exact List.filter_cons_of_pos (by rw [decide_eq_true (Nat.mod_self d)])

def tb_Count (t : String) : Option Bool := if t = "int" then some false else if t = "bool" then some false else if t = "str" then some false else if t = "tuple" then some false else if t = "list" then some false else if t = "NoneType" then some false else none
theorem Tx.tbIs_Count {T : Tab} {K : PySem.W.Frag} {mg : Str → Option Value} (t : Tx T K mg) : ∀ z b, tb_Count z = some b → PySem.W.kitOne K (.type z) (.ref t.c_Count) = some b := fun z b h => by
  unfold tb_Count at h
  split at h
  · rename_i e; subst e; cases h; exact t.kt_int_Count
  split at h
  · rename_i e; subst e; cases h; exact t.kt_bool_Count
  split at h
  · rename_i e; subst e; cases h; exact t.kt_str_Count
  split at h
  · rename_i e; subst e; cases h; exact t.kt_tuple_Count
  split at h
  · rename_i e; subst e; cases h; exact t.kt_list_Count
  split at h
  · rename_i e; subst e; cases h; exact t.kt_NoneType_Count
  cases h
def ob_Count (n : Nat) : Option Bool := match n with | 0 => some true | 1 => some false | _ => none
theorem Tx.obIs_Count {T : Tab} {K : PySem.W.Frag} {mg : Str → Option Value} (t : Tx T K mg) : ObIs K T (.ref t.c_Count) ob_Count := fun n b h => by
  unfold ob_Count at h
  split at h
  · cases h; exact ⟨_, _, t.T_Count, t.i_Count, kit_self⟩
  · cases h; exact ⟨_, _, t.T_Sizes, t.i_Sizes, t.kt_Sizes_Count⟩
  · cases h
def tb_Sizes (t : String) : Option Bool := if t = "int" then some false else if t = "bool" then some false else if t = "str" then some false else if t = "tuple" then some false else if t = "list" then some false else if t = "NoneType" then some false else none
theorem Tx.tbIs_Sizes {T : Tab} {K : PySem.W.Frag} {mg : Str → Option Value} (t : Tx T K mg) : ∀ z b, tb_Sizes z = some b → PySem.W.kitOne K (.type z) (.ref t.c_Sizes) = some b := fun z b h => by
  unfold tb_Sizes at h
  split at h
  · rename_i e; subst e; cases h; exact t.kt_int_Sizes
  split at h
  · rename_i e; subst e; cases h; exact t.kt_bool_Sizes
  split at h
  · rename_i e; subst e; cases h; exact t.kt_str_Sizes
  split at h
  · rename_i e; subst e; cases h; exact t.kt_tuple_Sizes
  split at h
  · rename_i e; subst e; cases h; exact t.kt_list_Sizes
  split at h
  · rename_i e; subst e; cases h; exact t.kt_NoneType_Sizes
  cases h
def ob_Sizes (n : Nat) : Option Bool := match n with | 0 => some false | 1 => some true | _ => none
theorem Tx.obIs_Sizes {T : Tab} {K : PySem.W.Frag} {mg : Str → Option Value} (t : Tx T K mg) : ObIs K T (.ref t.c_Sizes) ob_Sizes := fun n b h => by
  unfold ob_Sizes at h
  split at h
  · cases h; exact ⟨_, _, t.T_Count, t.i_Count, t.kt_Count_Sizes⟩
  · cases h; exact ⟨_, _, t.T_Sizes, t.i_Sizes, kit_self⟩
  · cases h
theorem bi_bool : bootBuiltins "bool" = some (.type "bool") := by decide +kernel
theorem km_bool : PySem.W.kitMeta "bool" = true := by decide +kernel
def ob_bool (n : Nat) : Option Bool := match n with | 0 => some false | 1 => some false | _ => none
theorem Tx.obIs_bool {T : Tab} {K : PySem.W.Frag} {mg : Str → Option Value} (t : Tx T K mg) : ObIs K T (.type "bool") ob_bool := fun n b h => by
  unfold ob_bool at h
  split at h
  · cases h; exact ⟨_, _, t.T_Count, t.i_Count, kit_sub t.su_Count_bool km_bool⟩
  · cases h; exact ⟨_, _, t.T_Sizes, t.i_Sizes, kit_sub t.su_Sizes_bool km_bool⟩
  · cases h
theorem bi_int : bootBuiltins "int" = some (.type "int") := by decide +kernel
theorem km_int : PySem.W.kitMeta "int" = true := by decide +kernel
def ob_int (n : Nat) : Option Bool := match n with | 0 => some false | 1 => some false | _ => none
theorem Tx.obIs_int {T : Tab} {K : PySem.W.Frag} {mg : Str → Option Value} (t : Tx T K mg) : ObIs K T (.type "int") ob_int := fun n b h => by
  unfold ob_int at h
  split at h
  · cases h; exact ⟨_, _, t.T_Count, t.i_Count, kit_sub t.su_Count_int km_int⟩
  · cases h; exact ⟨_, _, t.T_Sizes, t.i_Sizes, kit_sub t.su_Sizes_int km_int⟩
  · cases h
theorem bi_tuple : bootBuiltins "tuple" = some (.type "tuple") := by decide +kernel
theorem km_tuple : PySem.W.kitMeta "tuple" = true := by decide +kernel
def ob_tuple (n : Nat) : Option Bool := match n with | 0 => some false | 1 => some false | _ => none
theorem Tx.obIs_tuple {T : Tab} {K : PySem.W.Frag} {mg : Str → Option Value} (t : Tx T K mg) : ObIs K T (.type "tuple") ob_tuple := fun n b h => by
  unfold ob_tuple at h
  split at h
  · cases h; exact ⟨_, _, t.T_Count, t.i_Count, kit_sub t.su_Count_tuple km_tuple⟩
  · cases h; exact ⟨_, _, t.T_Sizes, t.i_Sizes, kit_sub t.su_Sizes_tuple km_tuple⟩
  · cases h
theorem Tx.kb_Count_1_ {T : Tab} {K : PySem.W.Frag} {mg : Str → Option Value} (t : Tx T K mg) : ∃ gg, KBn K t.fd_Count___init__ ["self", "parts", "odd"] 2 [] gg (fun us ws => us ++ (((([.ref t.dz_Count___init__]) : List V).drop 0).take 1)) := by
  obtain ⟨its, h⟩ := t.F_Count___init__.kbindsD (ps := ["self", "parts", "odd"]) 2 [] (fun us its ws => us ++ ((its.drop 0).take 1)) (List.cons_ne_nil _ _) (fun a c b => (a.append ((c.drop 0).take 1))) fun T kV doc pm an cdv ct us its ws l1 l2 l3 =>
    match us, its, ws, l1, l2, l3 with | [_, _], [_], [], _, _, _ => ⟨_, rfl, rfl⟩
  exact ⟨_, h⟩
def fu_Count_1_ (vs zs : List D) : List D := match vs, zs with | [d0], [] => [d0, .tup []] | _, _ => []
theorem Tx.put_Count_1_ {T : Tab} {K : PySem.W.Frag} {mg : Str → Option Value} (t : Tx T K mg) : ∀ vs zs : List D, vs.length = 1 → zs.length = ([] : List Str).length → Put K (fun us ws => us ++ (((([.ref t.dz_Count___init__]) : List V).drop 0).take 1)) vs zs (fu_Count_1_ vs zs)
  | [d0], [], _, _ => fun x ws zs h1 h2 => match ws, zs, h1, h2 with | [w0], [], _, _ => ⟨[w0, .ref t.dz_Count___init__], rfl, fun _ _ _ r1 r2 => match r1, r2 with | .cons a0 .nil, .nil => .cons a0 (.cons (Rep.tup (.inr t.de_Count___init__) .nil) .nil)⟩
theorem Tx.kb_Count_2_ {T : Tab} {K : PySem.W.Frag} {mg : Str → Option Value} (t : Tx T K mg) : ∃ gg, KBn K t.fd_Count___init__ ["self", "parts", "odd"] 3 [] gg (fun us ws => us) := by
  obtain ⟨its, h⟩ := t.F_Count___init__.kbindsD (ps := ["self", "parts", "odd"]) 3 [] (fun us its ws => us) (List.cons_ne_nil _ _) (fun a c b => a) fun T kV doc pm an cdv ct us its ws l1 l2 l3 =>
    match us, its, ws, l1, l2, l3 with | [_, _, _], [_], [], _, _, _ => ⟨_, rfl, rfl⟩
  exact ⟨_, h⟩
def fu_Count_2_ (vs zs : List D) : List D := match vs, zs with | [d0, d1], [] => [d0, d1] | _, _ => []
theorem Tx.put_Count_2_ {T : Tab} {K : PySem.W.Frag} {mg : Str → Option Value} (t : Tx T K mg) : ∀ vs zs : List D, vs.length = 2 → zs.length = ([] : List Str).length → Put K (fun us ws => us) vs zs (fu_Count_2_ vs zs)
  | [d0, d1], [], _, _ => fun x ws zs h1 h2 => match ws, zs, h1, h2 with | [w0, w1], [], _, _ => ⟨[w0, w1], rfl, fun _ _ _ r1 r2 => match r1, r2 with | .cons a0 (.cons a1 .nil), .nil => .cons a0 (.cons a1 .nil)⟩
theorem Tx.kb_Sizes_2_ {T : Tab} {K : PySem.W.Frag} {mg : Str → Option Value} (t : Tx T K mg) : ∃ gg, KBn K t.fd_Sizes___init__ ["self", "period", "classes", "odd"] 3 [] gg (fun us ws => us ++ (((([.ref t.dz_Sizes___init__]) : List V).drop 0).take 1)) := by
  obtain ⟨its, h⟩ := t.F_Sizes___init__.kbindsD (ps := ["self", "period", "classes", "odd"]) 3 [] (fun us its ws => us ++ ((its.drop 0).take 1)) (List.cons_ne_nil _ _) (fun a c b => (a.append ((c.drop 0).take 1))) fun T kV doc pm an cdv ct us its ws l1 l2 l3 =>
    match us, its, ws, l1, l2, l3 with | [_, _, _], [_], [], _, _, _ => ⟨_, rfl, rfl⟩
  exact ⟨_, h⟩
def fu_Sizes_2_ (vs zs : List D) : List D := match vs, zs with | [d0, d1], [] => [d0, d1, .tup []] | _, _ => []
theorem Tx.put_Sizes_2_ {T : Tab} {K : PySem.W.Frag} {mg : Str → Option Value} (t : Tx T K mg) : ∀ vs zs : List D, vs.length = 2 → zs.length = ([] : List Str).length → Put K (fun us ws => us ++ (((([.ref t.dz_Sizes___init__]) : List V).drop 0).take 1)) vs zs (fu_Sizes_2_ vs zs)
  | [d0, d1], [], _, _ => fun x ws zs h1 h2 => match ws, zs, h1, h2 with | [w0, w1], [], _, _ => ⟨[w0, w1, .ref t.dz_Sizes___init__], rfl, fun _ _ _ r1 r2 => match r1, r2 with | .cons a0 (.cons a1 .nil), .nil => .cons a0 (.cons a1 (.cons (Rep.tup (.inr t.de_Sizes___init__) .nil) .nil))⟩
theorem Tx.kb_Sizes_3_ {T : Tab} {K : PySem.W.Frag} {mg : Str → Option Value} (t : Tx T K mg) : ∃ gg, KBn K t.fd_Sizes___init__ ["self", "period", "classes", "odd"] 4 [] gg (fun us ws => us) := by
  obtain ⟨its, h⟩ := t.F_Sizes___init__.kbindsD (ps := ["self", "period", "classes", "odd"]) 4 [] (fun us its ws => us) (List.cons_ne_nil _ _) (fun a c b => a) fun T kV doc pm an cdv ct us its ws l1 l2 l3 =>
    match us, its, ws, l1, l2, l3 with | [_, _, _, _], [_], [], _, _, _ => ⟨_, rfl, rfl⟩
  exact ⟨_, h⟩
def fu_Sizes_3_ (vs zs : List D) : List D := match vs, zs with | [d0, d1, d2], [] => [d0, d1, d2] | _, _ => []
theorem Tx.put_Sizes_3_ {T : Tab} {K : PySem.W.Frag} {mg : Str → Option Value} (t : Tx T K mg) : ∀ vs zs : List D, vs.length = 3 → zs.length = ([] : List Str).length → Put K (fun us ws => us) vs zs (fu_Sizes_3_ vs zs)
  | [d0, d1, d2], [], _, _ => fun x ws zs h1 h2 => match ws, zs, h1, h2 with | [w0, w1, w2], [], _, _ => ⟨[w0, w1, w2], rfl, fun _ _ _ r1 r2 => match r1, r2 with | .cons a0 (.cons a1 (.cons a2 .nil)), .nil => .cons a0 (.cons a1 (.cons a2 .nil))⟩
def xfn (n : Nat) : List Str := match n with | 2 => ["word"] | 3 => ["word"] | 4 => ["line"] | _ => []
def isErr (n : Nat) : Bool := match n with | 2 => true | 3 => true | 4 => true | _ => false
def mt_InvalidCount (n : Nat) : Option Bool := match n with | 2 => some true | 3 => some false | 4 => some false | _ => none
theorem Tx.nm_InvalidCount {X : Cx} {T : Tab} (t : Tx T X.K X.mg) (hg : Gl X "InvalidCount") : Names X "InvalidCount" (.ref t.c_InvalidCount) := ⟨hg, by decide, .inl t.m_InvalidCount⟩
theorem Tx.mt_of_InvalidCount {T : Tab} {K : PySem.W.Frag} {mg : Str → Option Value} (t : Tx T K mg) : ∀ m b, mt_InvalidCount m = some b → ∀ C fn, T m = some (C, fn) → PySem.W.exmOne K (.ref C) (.ref t.c_InvalidCount) = some b := fun m b h C fn hT => by
  unfold mt_InvalidCount at h
  split at h
  · cases h; have := t.T_InvalidCount; rw [hT] at this; cases this; exact t.ex_InvalidCount_InvalidCount
  · cases h; have := t.T_InvalidSizes; rw [hT] at this; cases this; exact t.ex_InvalidSizes_InvalidCount
  · cases h; have := t.T_InvalidText; rw [hT] at this; cases this; exact t.ex_InvalidText_InvalidCount
  · cases h
theorem mt_err_InvalidCount {m : Nat} (h : mt_InvalidCount m = some true) : isErr m = true := by
  unfold mt_InvalidCount at h
  split at h
  · rfl
  · cases h
  · cases h
  · cases h
def mt_InvalidSizes (n : Nat) : Option Bool := match n with | 2 => some false | 3 => some true | 4 => some false | _ => none
theorem Tx.nm_InvalidSizes {X : Cx} {T : Tab} (t : Tx T X.K X.mg) (hg : Gl X "InvalidSizes") : Names X "InvalidSizes" (.ref t.c_InvalidSizes) := ⟨hg, by decide, .inl t.m_InvalidSizes⟩
theorem Tx.mt_of_InvalidSizes {T : Tab} {K : PySem.W.Frag} {mg : Str → Option Value} (t : Tx T K mg) : ∀ m b, mt_InvalidSizes m = some b → ∀ C fn, T m = some (C, fn) → PySem.W.exmOne K (.ref C) (.ref t.c_InvalidSizes) = some b := fun m b h C fn hT => by
  unfold mt_InvalidSizes at h
  split at h
  · cases h; have := t.T_InvalidCount; rw [hT] at this; cases this; exact t.ex_InvalidCount_InvalidSizes
  · cases h; have := t.T_InvalidSizes; rw [hT] at this; cases this; exact t.ex_InvalidSizes_InvalidSizes
  · cases h; have := t.T_InvalidText; rw [hT] at this; cases this; exact t.ex_InvalidText_InvalidSizes
  · cases h
theorem mt_err_InvalidSizes {m : Nat} (h : mt_InvalidSizes m = some true) : isErr m = true := by
  unfold mt_InvalidSizes at h
  split at h
  · cases h
  · rfl
  · cases h
  · cases h
def mt_InvalidText (n : Nat) : Option Bool := match n with | 2 => some false | 3 => some false | 4 => some true | _ => none
theorem Tx.nm_InvalidText {X : Cx} {T : Tab} (t : Tx T X.K X.mg) (hg : Gl X "InvalidText") : Names X "InvalidText" (.ref t.c_InvalidText) := ⟨hg, by decide, .inl t.m_InvalidText⟩
theorem Tx.mt_of_InvalidText {T : Tab} {K : PySem.W.Frag} {mg : Str → Option Value} (t : Tx T K mg) : ∀ m b, mt_InvalidText m = some b → ∀ C fn, T m = some (C, fn) → PySem.W.exmOne K (.ref C) (.ref t.c_InvalidText) = some b := fun m b h C fn hT => by
  unfold mt_InvalidText at h
  split at h
  · cases h; have := t.T_InvalidCount; rw [hT] at this; cases this; exact t.ex_InvalidCount_InvalidText
  · cases h; have := t.T_InvalidSizes; rw [hT] at this; cases this; exact t.ex_InvalidSizes_InvalidText
  · cases h; have := t.T_InvalidText; rw [hT] at this; cases this; exact t.ex_InvalidText_InvalidText
  · cases h
theorem mt_err_InvalidText {m : Nat} (h : mt_InvalidText m = some true) : isErr m = true := by
  unfold mt_InvalidText at h
  split at h
  · cases h
  · cases h
  · rfl
  · cases h
theorem Tx.exc_of_InvalidCount {T : Tab} {K : PySem.W.Frag} {mg : Str → Option Value} {m : Nat} {Ce : Addr} {fn : List Str} (t : Tx T K mg) (hm : mt_InvalidCount m = some true) (hT : T m = some (Ce, fn)) : ExcC K Ce := by
  have he := mt_err_InvalidCount hm
  unfold isErr at he
  split at he
  · have := t.T_InvalidCount; rw [hT] at this; cases this; exact t.x_InvalidCount
  · have := t.T_InvalidSizes; rw [hT] at this; cases this; exact t.x_InvalidSizes
  · have := t.T_InvalidText; rw [hT] at this; cases this; exact t.x_InvalidText
  · cases he
theorem Tx.err_of_InvalidCount {X : Cx} {T : Tab} {m : Nat} {Ce : Addr} {fn : List Str} {a : Addr} {oe : Obj} {d : Option Addr} (t : Tx T X.K X.mg) (hm : mt_InvalidCount m = some true) (hT : T m = some (Ce, fn)) (hz : Zc (.ref Ce) d oe) (hv : ∃ vs, oe.data = .fields vs) : Err X T m a d Ce oe := ⟨t.exc_of_InvalidCount hm hT, hz, hv, _, hT⟩
theorem Tx.xf_of_InvalidCount {T : Tab} {K : PySem.W.Frag} {mg : Str → Option Value} {m : Nat} {Ce : Addr} {fn : List Str} (t : Tx T K mg) (hm : mt_InvalidCount m = some true) (hT : T m = some (Ce, fn)) : XfC K Ce := by
  have he := mt_err_InvalidCount hm
  unfold isErr at he
  split at he
  · have := t.T_InvalidCount; rw [hT] at this; cases this; exact t.xf_InvalidCount
  · have := t.T_InvalidSizes; rw [hT] at this; cases this; exact t.xf_InvalidSizes
  · have := t.T_InvalidText; rw [hT] at this; cases this; exact t.xf_InvalidText
  · cases he
theorem Tx.T_of_InvalidCount {T : Tab} {K : PySem.W.Frag} {mg : Str → Option Value} {m : Nat} {Ce : Addr} {fn : List Str} (t : Tx T K mg) (hm : mt_InvalidCount m = some true) (hT : T m = some (Ce, fn)) : T m = some (Ce, xfn m) := by
  have he := mt_err_InvalidCount hm
  unfold isErr at he
  split at he
  · have := t.T_InvalidCount; rw [hT] at this; cases this; exact t.T_InvalidCount
  · have := t.T_InvalidSizes; rw [hT] at this; cases this; exact t.T_InvalidSizes
  · have := t.T_InvalidText; rw [hT] at this; cases this; exact t.T_InvalidText
  · cases he
theorem Tx.no_of_InvalidCount_line {T : Tab} {K : PySem.W.Frag} {mg : Str → Option Value} {m : Nat} {Ce : Addr} {fn : List Str} (t : Tx T K mg) (hm : mt_InvalidCount m = some true) (hT : T m = some (Ce, fn)) : PySem.W.findIn K (.ref Ce) "line" = some none := by
  have he := mt_err_InvalidCount hm
  unfold isErr at he
  split at he
  · have := t.T_InvalidCount; rw [hT] at this; cases this; exact t.no_InvalidCount_line
  · have := t.T_InvalidSizes; rw [hT] at this; cases this; exact t.no_InvalidSizes_line
  · have := t.T_InvalidText; rw [hT] at this; cases this; exact t.no_InvalidText_line
  · cases he
theorem Tx.no_of_InvalidCount_word {T : Tab} {K : PySem.W.Frag} {mg : Str → Option Value} {m : Nat} {Ce : Addr} {fn : List Str} (t : Tx T K mg) (hm : mt_InvalidCount m = some true) (hT : T m = some (Ce, fn)) : PySem.W.findIn K (.ref Ce) "word" = some none := by
  have he := mt_err_InvalidCount hm
  unfold isErr at he
  split at he
  · have := t.T_InvalidCount; rw [hT] at this; cases this; exact t.no_InvalidCount_word
  · have := t.T_InvalidSizes; rw [hT] at this; cases this; exact t.no_InvalidSizes_word
  · have := t.T_InvalidText; rw [hT] at this; cases this; exact t.no_InvalidText_word
  · cases he
theorem Tx.exc_of_InvalidSizes {T : Tab} {K : PySem.W.Frag} {mg : Str → Option Value} {m : Nat} {Ce : Addr} {fn : List Str} (t : Tx T K mg) (hm : mt_InvalidSizes m = some true) (hT : T m = some (Ce, fn)) : ExcC K Ce := by
  have he := mt_err_InvalidSizes hm
  unfold isErr at he
  split at he
  · have := t.T_InvalidCount; rw [hT] at this; cases this; exact t.x_InvalidCount
  · have := t.T_InvalidSizes; rw [hT] at this; cases this; exact t.x_InvalidSizes
  · have := t.T_InvalidText; rw [hT] at this; cases this; exact t.x_InvalidText
  · cases he
theorem Tx.err_of_InvalidSizes {X : Cx} {T : Tab} {m : Nat} {Ce : Addr} {fn : List Str} {a : Addr} {oe : Obj} {d : Option Addr} (t : Tx T X.K X.mg) (hm : mt_InvalidSizes m = some true) (hT : T m = some (Ce, fn)) (hz : Zc (.ref Ce) d oe) (hv : ∃ vs, oe.data = .fields vs) : Err X T m a d Ce oe := ⟨t.exc_of_InvalidSizes hm hT, hz, hv, _, hT⟩
theorem Tx.xf_of_InvalidSizes {T : Tab} {K : PySem.W.Frag} {mg : Str → Option Value} {m : Nat} {Ce : Addr} {fn : List Str} (t : Tx T K mg) (hm : mt_InvalidSizes m = some true) (hT : T m = some (Ce, fn)) : XfC K Ce := by
  have he := mt_err_InvalidSizes hm
  unfold isErr at he
  split at he
  · have := t.T_InvalidCount; rw [hT] at this; cases this; exact t.xf_InvalidCount
  · have := t.T_InvalidSizes; rw [hT] at this; cases this; exact t.xf_InvalidSizes
  · have := t.T_InvalidText; rw [hT] at this; cases this; exact t.xf_InvalidText
  · cases he
theorem Tx.T_of_InvalidSizes {T : Tab} {K : PySem.W.Frag} {mg : Str → Option Value} {m : Nat} {Ce : Addr} {fn : List Str} (t : Tx T K mg) (hm : mt_InvalidSizes m = some true) (hT : T m = some (Ce, fn)) : T m = some (Ce, xfn m) := by
  have he := mt_err_InvalidSizes hm
  unfold isErr at he
  split at he
  · have := t.T_InvalidCount; rw [hT] at this; cases this; exact t.T_InvalidCount
  · have := t.T_InvalidSizes; rw [hT] at this; cases this; exact t.T_InvalidSizes
  · have := t.T_InvalidText; rw [hT] at this; cases this; exact t.T_InvalidText
  · cases he
theorem Tx.no_of_InvalidSizes_line {T : Tab} {K : PySem.W.Frag} {mg : Str → Option Value} {m : Nat} {Ce : Addr} {fn : List Str} (t : Tx T K mg) (hm : mt_InvalidSizes m = some true) (hT : T m = some (Ce, fn)) : PySem.W.findIn K (.ref Ce) "line" = some none := by
  have he := mt_err_InvalidSizes hm
  unfold isErr at he
  split at he
  · have := t.T_InvalidCount; rw [hT] at this; cases this; exact t.no_InvalidCount_line
  · have := t.T_InvalidSizes; rw [hT] at this; cases this; exact t.no_InvalidSizes_line
  · have := t.T_InvalidText; rw [hT] at this; cases this; exact t.no_InvalidText_line
  · cases he
theorem Tx.no_of_InvalidSizes_word {T : Tab} {K : PySem.W.Frag} {mg : Str → Option Value} {m : Nat} {Ce : Addr} {fn : List Str} (t : Tx T K mg) (hm : mt_InvalidSizes m = some true) (hT : T m = some (Ce, fn)) : PySem.W.findIn K (.ref Ce) "word" = some none := by
  have he := mt_err_InvalidSizes hm
  unfold isErr at he
  split at he
  · have := t.T_InvalidCount; rw [hT] at this; cases this; exact t.no_InvalidCount_word
  · have := t.T_InvalidSizes; rw [hT] at this; cases this; exact t.no_InvalidSizes_word
  · have := t.T_InvalidText; rw [hT] at this; cases this; exact t.no_InvalidText_word
  · cases he
theorem Tx.exc_of_InvalidText {T : Tab} {K : PySem.W.Frag} {mg : Str → Option Value} {m : Nat} {Ce : Addr} {fn : List Str} (t : Tx T K mg) (hm : mt_InvalidText m = some true) (hT : T m = some (Ce, fn)) : ExcC K Ce := by
  have he := mt_err_InvalidText hm
  unfold isErr at he
  split at he
  · have := t.T_InvalidCount; rw [hT] at this; cases this; exact t.x_InvalidCount
  · have := t.T_InvalidSizes; rw [hT] at this; cases this; exact t.x_InvalidSizes
  · have := t.T_InvalidText; rw [hT] at this; cases this; exact t.x_InvalidText
  · cases he
theorem Tx.err_of_InvalidText {X : Cx} {T : Tab} {m : Nat} {Ce : Addr} {fn : List Str} {a : Addr} {oe : Obj} {d : Option Addr} (t : Tx T X.K X.mg) (hm : mt_InvalidText m = some true) (hT : T m = some (Ce, fn)) (hz : Zc (.ref Ce) d oe) (hv : ∃ vs, oe.data = .fields vs) : Err X T m a d Ce oe := ⟨t.exc_of_InvalidText hm hT, hz, hv, _, hT⟩
theorem Tx.xf_of_InvalidText {T : Tab} {K : PySem.W.Frag} {mg : Str → Option Value} {m : Nat} {Ce : Addr} {fn : List Str} (t : Tx T K mg) (hm : mt_InvalidText m = some true) (hT : T m = some (Ce, fn)) : XfC K Ce := by
  have he := mt_err_InvalidText hm
  unfold isErr at he
  split at he
  · have := t.T_InvalidCount; rw [hT] at this; cases this; exact t.xf_InvalidCount
  · have := t.T_InvalidSizes; rw [hT] at this; cases this; exact t.xf_InvalidSizes
  · have := t.T_InvalidText; rw [hT] at this; cases this; exact t.xf_InvalidText
  · cases he
theorem Tx.T_of_InvalidText {T : Tab} {K : PySem.W.Frag} {mg : Str → Option Value} {m : Nat} {Ce : Addr} {fn : List Str} (t : Tx T K mg) (hm : mt_InvalidText m = some true) (hT : T m = some (Ce, fn)) : T m = some (Ce, xfn m) := by
  have he := mt_err_InvalidText hm
  unfold isErr at he
  split at he
  · have := t.T_InvalidCount; rw [hT] at this; cases this; exact t.T_InvalidCount
  · have := t.T_InvalidSizes; rw [hT] at this; cases this; exact t.T_InvalidSizes
  · have := t.T_InvalidText; rw [hT] at this; cases this; exact t.T_InvalidText
  · cases he
theorem Tx.no_of_InvalidText_line {T : Tab} {K : PySem.W.Frag} {mg : Str → Option Value} {m : Nat} {Ce : Addr} {fn : List Str} (t : Tx T K mg) (hm : mt_InvalidText m = some true) (hT : T m = some (Ce, fn)) : PySem.W.findIn K (.ref Ce) "line" = some none := by
  have he := mt_err_InvalidText hm
  unfold isErr at he
  split at he
  · have := t.T_InvalidCount; rw [hT] at this; cases this; exact t.no_InvalidCount_line
  · have := t.T_InvalidSizes; rw [hT] at this; cases this; exact t.no_InvalidSizes_line
  · have := t.T_InvalidText; rw [hT] at this; cases this; exact t.no_InvalidText_line
  · cases he
theorem Tx.no_of_InvalidText_word {T : Tab} {K : PySem.W.Frag} {mg : Str → Option Value} {m : Nat} {Ce : Addr} {fn : List Str} (t : Tx T K mg) (hm : mt_InvalidText m = some true) (hT : T m = some (Ce, fn)) : PySem.W.findIn K (.ref Ce) "word" = some none := by
  have he := mt_err_InvalidText hm
  unfold isErr at he
  split at he
  · have := t.T_InvalidCount; rw [hT] at this; cases this; exact t.no_InvalidCount_word
  · have := t.T_InvalidSizes; rw [hT] at this; cases this; exact t.no_InvalidSizes_word
  · have := t.T_InvalidText; rw [hT] at this; cases this; exact t.no_InvalidText_word
  · cases he

def w__law_box (n : Nat) : WS := (wConsS (wAsg 2 (wTwo (wTwo (wCon (.int 7919)) (wName 1) mulW) (wCon (.int 11)) addW))
  (wConsS (wIfS (wBl (wTwo (wName 1) (wCb (wCons (wName 0) wNil) lenW) ltW))
  (wConsS (wAsg 2 (wTwo (wName 0) (wName 1) ixW))
  wNilS)
  (wConsS (wIfS (wBl (wTwo (wCb (wCons (wName 0) wNil) lenW) (wCon (.int 0)) gtW))
  (wConsS (wAsg 2 (wTwo (wName 2) (wTwo (wTwo (wCb (wCons (wTwo (wName 0) (wTwo (wName 1) (wCb (wCons (wName 0) wNil) lenW) modW) ixW) wNil) intW1) (wCon (.int 2147483629)) modW) (wCon (.int 69623)) mulW) addW))
  wNilS)
  wNilS)
  wNilS))
  (wConsS (wAsg 3 (wTwo (wTwo (wTwo (wTwo (wTwo (wCb (wCons (wName 2) wNil) intW1) (wCon (.int 2147483629)) modW) (wTwo (wCon (.int 104729)) (wName 1) mulW) addW) (wCon (.int 1)) addW) (wCon (.int 5)) powW) (wCon (.int 2147483647)) modW))
  (wConsS (wRetC n (wLstC (wCons (wTwo (wLst (wCons (wCon (.int 0)) (wCons (wName 2) wNil))) (wCb (wCons (wTwo (wName 2) (wTwo (wCon (.int 10)) (wCon (.int 18)) powW) geW) wNil) intW1) ixW) (wCons (wTwo (wTwo (wCb (wCons (wName 3) wNil) intW1) (wCon (.int 2147483646)) modW) (wCon (.int 1)) addW) wNil))))
  wNilS))))
def c__law_box : Ct := ctOf ["_law_script", "_law_k", "_law_cell", "_law_seed"] ["_law_script", "_law_k"] (w__law_box)
section
variable {T : Tab} {P : Program} {w : World} {K : PySem.W.Frag} {mg : Str → Option Value} {base : Heap}
theorem Tx.ok__law_box (t : Tx T K mg) : FnOk P w K mg base CX0 1 t.a__law_box t.fd__law_box ["_law_script", "_law_k"] (spC T K c__law_box) := by
  have nd := sc__law_box.nd
  exact fn_J t.F__law_box sc__law_box fun cdv A outer sh H E hr n => (jss_cons (js_asg 2 nd (je_bin jb_add (je_bin jb_mul je_int (je_name 1)) je_int))
  (jss_cons (js_if (jt_cmp jc_lt (je_name 1) (je_cb t.z_len jc_len (ja_cons (je_name 0) ja_nil)))
  (jss_cons (js_asg 2 nd (je_sub ji_ix (je_name 0) (je_name 1)))
  jss_nil)
  (jss_cons (js_if (jt_cmp jc_gt (je_cb t.z_len jc_len (ja_cons (je_name 0) ja_nil)) je_int)
  (jss_cons (js_asg 2 nd (je_bin jb_add (je_name 2) (je_bin jb_mul (je_bin jb_mod (je_cb t.z_int jc_int (ja_cons (je_sub ji_ix (je_name 0) (je_bin jb_mod (je_name 1) (je_cb t.z_len jc_len (ja_cons (je_name 0) ja_nil)))) ja_nil)) je_int) je_int)))
  jss_nil)
  jss_nil)
  jss_nil))
  (jss_cons (js_asg 3 nd (je_bin jb_mod (je_bin jb_pow (je_bin jb_add (je_bin jb_add (je_bin jb_mod (je_cb t.z_int jc_int (ja_cons (je_name 2) ja_nil)) je_int) (je_bin jb_mul je_int (je_name 1))) je_int) je_int) je_int))
  (jss_cons (js_retC (je_lstC (ja_cons (je_sub ji_ix (je_lst (ja_cons je_int (ja_cons (je_name 2) ja_nil))) (je_cb t.z_int jc_int (ja_cons (je_cmp jc_ge (je_name 2) (je_bin jb_pow je_int je_int)) ja_nil))) (ja_cons (je_bin jb_add (je_bin jb_mod (je_cb t.z_int jc_int (ja_cons (je_name 3) ja_nil)) je_int) je_int) ja_nil))))
  jss_nil))))
end

section
variable {T : Tab} {P : Program} {w : World} {K : PySem.W.Frag} {mg : Str → Option Value} {base : Heap}
theorem Tx.ok_InvalidSizes___init__ (t : Tx T K mg) : FnOk P w K mg base CX0 1 t.a_InvalidSizes___init__ t.fd_InvalidSizes___init__ ["self", "word"] (spE1 t.c_InvalidSizes "word") := by
  refine t.F_InvalidSizes___init__.ok sc_InvalidSizes___init__ (fun vs H Q E h => ?_) (fun cdv A outer s H vs Q E hr h => ⟨_, pss_cons (ps_expr (pe_cinit rfl t.m_ClashError t.ci_ClashError (pa_cons (pv 0) (pa_cons pe_str pa_nil)) (by decide) rfl rfl rfl)) (pss_one (ps_ost (pv 0) (pv 1))), ?_⟩)
  · obtain ⟨a, v, rfl, _⟩ := h; rfl
  · obtain ⟨a, v, rfl, e, q⟩ := h
    exact ⟨_, rfl, a, t.c_InvalidSizes, [_], rfl, by decide, t.o_InvalidSizes, e, _, rfl, _, rfl, a, t.c_InvalidSizes, rfl, t.o_InvalidSizes, t.no_InvalidSizes_word, .inl ⟨e, fun dx n1 n2 => q dx n1 n2⟩⟩
end

def w_prime_powers_tail (n : Nat) : WS := (wConsS (wIfS (wBl (wTwo (wName 2) (wCon (.int 1)) gtW))
  (wConsS (wExpr (wApp (wName 1) (wTup (wCons (wName 2) (wCons (wCon (.int 1)) wNil)))))
  wNilS)
  wNilS)
  (wFrz 1 n (wConsS (wRet n (wName 1))
  wNilS)))
def w_prime_powers_rest (n : Nat) : WS := (wConsS (wIfS (wBl (wTwo (wName 4) (wCon (.int 0)) gtW))
  (wConsS (wExpr (wApp (wName 1) (wTup (wCons (wName 3) (wCons (wName 4) wNil)))))
  wNilS)
  wNilS)
  (wConsS (wAsg 3 (wTwo (wName 3) (wCon (.int 1)) addW))
  wNilS))
def w_prime_powers_body (n : Nat) : WS := (wConsS (wAsg 4 (wCon (.int 0)))
  (wConsS (wWhile (wBl (wTwo (wTwo (wCb (wCons (wName 2) wNil) intW1) (wName 3) modW) (wCon (.int 0)) (eqW false)))
  (wConsS (wAsg 2 (wTwo (wName 2) (wName 3) fdivW))
  (wConsS (wAsg 4 (wTwo (wName 4) (wCon (.int 1)) addW))
  wNilS)))
  (w_prime_powers_rest n)))
def w_prime_powers (n : Nat) : WS := (wConsS (wAsg 1 (wLstC wNil))
  (wConsS (wPar2 2 3 (wCons (wName 0) (wCons (wCon (.int 2)) wNil)))
  (wConsS (wWhile (wBl (wTwo (wTwo (wName 3) (wName 3) mulW) (wName 2) leW))
  (w_prime_powers_body n))
  (w_prime_powers_tail n))))
def c_prime_powers : Ct := ctOf ["number", "found", "left", "prime", "power"] ["number"] (w_prime_powers)
section
variable {T : Tab} {P : Program} {w : World} {K : PySem.W.Frag} {mg : Str → Option Value} {base : Heap}
theorem Tx.ok_prime_powers (t : Tx T K mg) : FnOk P w K mg base CX0 1 t.a_prime_powers t.fd_prime_powers ["number"] (spC T K c_prime_powers) := by
  have nd := sc_prime_powers.nd
  exact fn_J t.F_prime_powers sc_prime_powers fun cdv A outer sh H E hr n => (jss_cons (js_asg 1 nd (je_lstC ja_nil))
  (jss_cons (js_par2 2 3 nd (ja_cons (je_name 0) (ja_cons je_int ja_nil)))
  (jss_cons (js_while PassesOwn.never (jt_cmp jc_le (je_bin jb_mul (je_name 3) (je_name 3)) (je_name 2))
  (jss_cons (js_asg 4 nd je_int)
  (jss_cons (js_while PassesOwn.never (jt_cmp (jc_eq hr.units) (je_bin jb_mod (je_cb t.z_int jc_int (ja_cons (je_name 2) ja_nil)) (je_name 3)) je_int)
  (jss_cons (js_asg 2 nd (je_bin jb_fdiv (je_name 2) (je_name 3)))
  (jss_cons (js_asg 4 nd (je_bin jb_add (je_name 4) je_int))
  jss_nil)))
  (jss_cons (js_if (jt_cmp jc_gt (je_name 4) je_int)
  (jss_cons (js_expr (je_app (je_name 1) (je_tup (ja_cons (je_name 3) (ja_cons (je_name 4) ja_nil)))))
  jss_nil)
  jss_nil)
  (jss_cons (js_asg 3 nd (je_bin jb_add (je_name 3) je_int))
  jss_nil)))))
  (jss_cons (js_if (jt_cmp jc_gt (je_name 2) je_int)
  (jss_cons (js_expr (je_app (je_name 1) (je_tup (ja_cons (je_name 2) (ja_cons je_int ja_nil)))))
  jss_nil)
  jss_nil)
  (jss_frz 1 (jss_cons (js_ret (je_name 1))
  jss_nil))))))
end

def w_is_needless_size (n : Nat) : WS := (wConsS (wIfS (wBl (wTwo (wTwo (wCb (wCons (wName 0) wNil) intW1) (wTwo (wName 3) (wName 2) mulW) modW) (wCon (.int 0)) (eqW true)))
  (wConsS (wIfS (wBl (wTwo (wTwo (wName 3) (wName 2) fdivW) (wName 1) (selW PDc (inDW true) (inW' true))))
  (wConsS (wRet n (wCon (.bl false)))
  wNilS)
  wNilS)
  wNilS)
  (wConsS (wIfS (wAndT (wBl (wTwo (wTwo (wCb (wCons (wName 0) wNil) intW1) (wTwo (wTwo (wName 3) (wName 2) mulW) (wName 2) mulW) modW) (wCon (.int 0)) (eqW true))) (wBl (wTwo (wTwo (wName 3) (wName 2) mulW) (wName 1) (selW PDc (inDW true) (inW' true)))))
  (wConsS (wRet n (wCon (.bl false)))
  wNilS)
  wNilS)
  wNilS))
  wNilS)
def w_is_needless (n : Nat) : WS := (wConsS (wFor (wItemsD (wName 1)) (.nm 3)
  (w_is_needless_size n))
  (wConsS (wRet n (wCon (.bl true)))
  wNilS))
def c_is_needless : Ct := ctOf ["period", "known", "prime", "size"] ["period", "known", "prime"] (w_is_needless)
section
variable {T : Tab} {P : Program} {w : World} {K : PySem.W.Frag} {mg : Str → Option Value} {base : Heap}
theorem Tx.ok_is_needless (t : Tx T K mg) : FnOk P w K mg base CX0 1 t.a_is_needless t.fd_is_needless ["period", "known", "prime"] (spC T K c_is_needless) := by
  have nd := sc_is_needless.nd
  exact fn_J t.F_is_needless sc_is_needless fun cdv A outer sh H E hr n => (jss_cons (js_for PassesOwn.never (ji_valD (je_name 1)) (dg_name 3 nd)
  (jss_cons (js_if (jt_cmp (jc_ne hr.units) (je_bin jb_mod (je_cb t.z_int jc_int (ja_cons (je_name 0) ja_nil)) (je_bin jb_mul (je_name 3) (je_name 2))) je_int)
  (jss_cons (js_if (jt_cmp (jc_inD true hr.units jc_notin) (je_bin jb_fdiv (je_name 3) (je_name 2)) (je_name 1))
  (jss_cons (js_ret je_bl)
  jss_nil)
  jss_nil)
  jss_nil)
  (jss_cons (js_if (JW.jt (jw_and (jt_cmp (jc_ne hr.units) (je_bin jb_mod (je_cb t.z_int jc_int (ja_cons (je_name 0) ja_nil)) (je_bin jb_mul (je_bin jb_mul (je_name 3) (je_name 2)) (je_name 2))) je_int) (jw_and1 (jt_cmp (jc_inD true hr.units jc_notin) (je_bin jb_mul (je_name 3) (je_name 2)) (je_name 1)))))
  (jss_cons (js_ret je_bl)
  jss_nil)
  jss_nil)
  jss_nil))
  jss_nil))
  (jss_cons (js_ret je_bl)
  jss_nil))
end

def w_shortest_end (n : Nat) : WS := (wConsS (wRet n (wTup (wCons (wName 0) (wCons (wCb (wCons (wLc (wItemsD (wName 2)) (.nm 3) wYes (wName 3) [3]) wNil) tupleW) wNil))))
  wNilS)
def w_shortest_turn (n : Nat) : WS := (wConsS (wIfS (wTru (wFn c_is_needless (wCons (wName 0) (wCons (wName 2) (wCons (wName 4) wNil)))))
  (wConsS (wAsg 0 (wTwo (wName 0) (wName 4) fdivW))
  (wConsS (wAsg 2 (wDc (wItemsD (wName 2)) (.nm 3) (wBl (wTwo (wTwo (wCb (wCons (wName 0) wNil) intW1) (wName 3) modW) (wCon (.int 0)) (eqW false))) (wName 3) (wCon (.bl true)) [3]))
  wNilS))
  wNilS)
  wNilS)
def w_shortest_prime (n : Nat) : WS := (wConsS (wFor (wRng1 (wCons (wName 5) wNil)) (.nm 6)
  (w_shortest_turn n))
  wNilS)
def w_shortest_loop (n : Nat) : WS := (wConsS (wFor (wItemsD (wFn c_prime_powers (wCons (wName 0) wNil))) (.tp [(.nm 4), (.nm 5)])
  (w_shortest_prime n))
  (w_shortest_end n))
def w_shortest (n : Nat) : WS := (wConsS (wAsg 2 (wDc (wItemsD (wName 1)) (.nm 3) wYes (wName 3) (wCon (.bl true)) [3]))
  (w_shortest_loop n))
def c_shortest : Ct := ctOf ["period", "classes", "known", "size", "prime", "power", "turn"] ["period", "classes"] (w_shortest)
section
variable {T : Tab} {P : Program} {w : World} {K : PySem.W.Frag} {mg : Str → Option Value} {base : Heap}
theorem Tx.ok_shortest (t : Tx T K mg) : FnOk P w K mg base CX0 2 t.a_shortest t.fd_shortest ["period", "classes"] (spC T K c_shortest) := by
  have nd := sc_shortest.nd
  exact fn_J t.F_shortest sc_shortest fun cdv A outer sh H E hr n => (jss_cons (js_dc 2 nd ⟨(ji_valD (je_name 1)), blkOk_by (own := [("size", 3)]) (by kernel_rfl), fun _ _ _ _ _ => (dg_name 3 nd), fun _ _ _ _ _ => jts_nil, fun _ _ _ _ _ => (je_name 3), fun _ _ _ _ _ => je_bl, by decide⟩)
  (jss_cons (js_for PassesOwn.never (ji_valD (je_call t.ok_prime_powers (hr.mono (by decide)) t.m_prime_powers t.F_prime_powers.kp t.b_prime_powers (ja_cons (je_name 0) ja_nil))) (dg_tup rfl (dgs_cons (dg_name 4 nd) (dgs_cons (dg_name 5 nd) dgs_nil)))
  (jss_cons (js_for PassesOwn.never (ji_range1 t.z_range (ja_cons (je_name 5) ja_nil)) (dg_name 6 nd)
  (jss_cons (js_if (jt_val (je_call t.ok_is_needless (hr.mono (by decide)) t.m_is_needless t.F_is_needless.kp t.b_is_needless (ja_cons (je_name 0) (ja_cons (je_name 2) (ja_cons (je_name 4) ja_nil)))))
  (jss_cons (js_asg 0 nd (je_bin jb_fdiv (je_name 0) (je_name 4)))
  (jss_cons (js_dc 2 nd ⟨(ji_valD (je_name 2)), blkOk_by (own := [("size", 3)]) (by kernel_rfl), fun _ _ _ _ _ => (dg_name 3 nd), fun _ _ _ _ _ => (jts_one (jt_cmp (jc_eq hr.units) (je_bin jb_mod (je_cb t.z_int jc_int (ja_cons (je_name 0) ja_nil)) (je_name 3)) je_int)), fun _ _ _ _ _ => (je_name 3), fun _ _ _ _ _ => je_bl, by decide⟩)
  jss_nil))
  jss_nil)
  jss_nil))
  jss_nil))
  (jss_cons (js_ret (je_tup (ja_cons (je_name 0) (ja_cons (je_cb t.z_tuple jc_tuple (ja_cons (je_lc nd ⟨(ji_valD (je_name 2)), blkOk_by (own := [("size", 3)]) (by kernel_rfl), fun _ _ _ _ _ => (dg_name 3 nd), fun _ _ _ _ _ => jts_nil, fun _ _ _ _ _ => (je_name 3), by decide⟩) ja_nil)) ja_nil))))
  jss_nil)))
end

def w_is_integer (n : Nat) : WS := (wConsS (wRet n (wAndV (wIsi (fun t => kitB t "int") (ob_int) (wName 0)) (wNotV (wIsi (fun t => kitB t "bool") (ob_bool) (wName 0)))))
  wNilS)
def c_is_integer : Ct := ctOf ["value"] ["value"] (w_is_integer)
section
variable {T : Tab} {P : Program} {w : World} {K : PySem.W.Frag} {mg : Str → Option Value} {base : Heap}
theorem Tx.ok_is_integer (t : Tx T K mg) : FnOk P w K mg base CX0 1 t.a_is_integer t.fd_is_integer ["value"] (spC T K c_is_integer) := by
  have nd := sc_is_integer.nd
  exact fn_J t.F_is_integer sc_is_integer fun cdv A outer sh H E hr n => (jss_cons (js_ret (je_and (je_isiB t.z_isinstance t.z_int bi_int t.obIs_int (je_name 0)) (je_one (je_not (je_isiB t.z_isinstance t.z_bool bi_bool t.obIs_bool (je_name 0))))))
  jss_nil)
end

def w_are_sizes (n : Nat) : WS := (wConsS (wIfS (wOrT (wNotT (wTru (wIsi (fun t => kitB t "tuple") (ob_tuple) (wName 0)))) (wNotT (wTru (wCb (wCons (wLc (wItems (wName 0)) (.nm 1) wYes (wFn c_is_integer (wCons (wName 1) wNil)) [1]) wNil) allW))))
  (wConsS (wRet n (wCon (.bl false)))
  wNilS)
  wNilS)
  (wConsS (wRet n (wAndV (wCb (wCons (wLc (wItems (wSlc (wName 0) wO0 (wO1 (wCon (.int 1))))) (.nm 1) wYes (wTwo (wName 1) (wCon (.int 0)) gtW) [1]) wNil) allW) (wCb (wCons (wLc (wZip2 (wCons (wName 0) (wCons (wSlc (wName 0) (wO1 (wCon (.int 1))) wO0) wNil))) (.tp [(.nm 2), (.nm 3)]) wYes (wTwo (wName 2) (wName 3) ltW) [2, 3]) wNil) allW)))
  wNilS))
def c_are_sizes : Ct := ctOf ["value", "number", "a", "b"] ["value"] (w_are_sizes)
section
variable {T : Tab} {P : Program} {w : World} {K : PySem.W.Frag} {mg : Str → Option Value} {base : Heap}
theorem Tx.ok_are_sizes (t : Tx T K mg) : FnOk P w K mg base CX0 2 t.a_are_sizes t.fd_are_sizes ["value"] (spC T K c_are_sizes) := by
  have nd := sc_are_sizes.nd
  exact fn_J t.F_are_sizes sc_are_sizes fun cdv A outer sh H E hr n => (jss_cons (js_if (JW.jt (jw_or (jt_not (jt_val (je_isiB t.z_isinstance t.z_tuple bi_tuple t.obIs_tuple (je_name 0)))) (jw_or1 (jt_not (jt_val (je_cb t.z_all (jc_all rfl) (ja_cons (je_lc nd ⟨(ji_val (je_name 0)), blkOk_by (own := [("number", 1)]) (by kernel_rfl), fun _ _ _ _ _ => (dg_name 1 nd), fun _ _ _ _ _ => jts_nil, fun _ _ _ _ _ => (je_call t.ok_is_integer (hr.mono (by decide)) t.m_is_integer t.F_is_integer.kp t.b_is_integer (ja_cons (je_name 1) ja_nil)), by decide⟩) ja_nil)))))))
  (jss_cons (js_ret je_bl)
  jss_nil)
  jss_nil)
  (jss_cons (js_ret (je_and (je_cb t.z_all (jc_all rfl) (ja_cons (je_lc nd ⟨(ji_val (je_slice (je_name 0) jo_none (jo_some je_int))), blkOk_by (own := [("number", 1)]) (by kernel_rfl), fun _ _ _ _ _ => (dg_name 1 nd), fun _ _ _ _ _ => jts_nil, fun _ _ _ _ _ => (je_cmp jc_gt (je_name 1) je_int), by decide⟩) ja_nil)) (je_one (je_cb t.z_all (jc_all rfl) (ja_cons (je_lc nd ⟨(ji_zip t.z_zip (ja_cons (je_name 0) (ja_cons (je_slice (je_name 0) (jo_some je_int) jo_none) ja_nil))), blkOk_by (own := [("a", 2), ("b", 3)]) (by kernel_rfl), fun _ _ _ _ _ => (dg_tup rfl (dgs_cons (dg_name 2 nd) (dgs_cons (dg_name 3 nd) dgs_nil))), fun _ _ _ _ _ => jts_nil, fun _ _ _ _ _ => (je_cmp jc_lt (je_name 2) (je_name 3)), by decide⟩) ja_nil)))))
  jss_nil))
end

def w_Sizes___init___set (n : Nat) : WS := (wConsS (wTupF 1 "short_period" "short_classes" (wFn c_shortest (wCons (wName 1) (wCons (wName 2) wNil))) (wName 0) (wName 0))
  (wConsS (wSetF 1 "short_odd" (wName 3) (wName 0))
  (wConsS (wSetF 1 "class_marks" (wDc (wItems (wFld 1 ["short_period", "short_classes", "short_odd", "class_marks", "odd_marks"] "short_classes" (wName 0))) (.nm 4) wYes (wName 4) (wCon (.bl true)) [4]) (wName 0))
  (wConsS (wSetF 1 "odd_marks" (wDc (wItems (wName 3)) (.nm 4) wYes (wName 4) (wCon (.bl true)) [4]) (wName 0))
  wNilS))))
def w_Sizes___init___three (n : Nat) : WS := (wConsS (wIfS (wNotT (wTru (wFn c_are_sizes (wCons (wName 3) wNil))))
  (wConsS (wRaise1 3 (wCon (.str "odd")))
  wNilS)
  wNilS)
  (w_Sizes___init___set n))
def w_Sizes___init___two (n : Nat) : WS := (wConsS (wIfS (wOrT (wNotT (wTru (wFn c_are_sizes (wCons (wName 2) wNil)))) (wTru (wCb (wCons (wLc (wItems (wName 2)) (.nm 4) wYes (wTwo (wTwo (wCb (wCons (wName 1) wNil) intW1) (wName 4) modW) (wCon (.int 0)) (eqW true)) [4]) wNil) anyW)))
  (wConsS (wRaise1 3 (wCon (.str "classes")))
  wNilS)
  wNilS)
  (w_Sizes___init___three n))
def w_Sizes___init__ (n : Nat) : WS := (wConsS (wIfS (wOrT (wNotT (wTru (wFn c_is_integer (wCons (wName 1) wNil)))) (wBl (wTwo (wName 1) (wCon (.int 1)) ltW)))
  (wConsS (wRaise1 3 (wCon (.str "period")))
  wNilS)
  wNilS)
  (w_Sizes___init___two n))
def c_Sizes___init__ : Ct := ctOf ["self", "period", "classes", "odd", "size"] ["self", "period", "classes", "odd"] (w_Sizes___init__)
def c_Sizes___init__X : CtX := ctXOf ["self", "period", "classes", "odd", "size"] ["self", "period", "classes", "odd"] (w_Sizes___init__)
section
variable {T : Tab} {P : Program} {w : World} {K : PySem.W.Frag} {mg : Str → Option Value} {base : Heap}
theorem Tx.ok_Sizes___init__ (t : Tx T K mg) : FnOk P w K mg base (L2N.CX P w) 3 t.a_Sizes___init__ t.fd_Sizes___init__ ["self", "period", "classes", "odd"] (spX T K c_Sizes___init__ c_Sizes___init__X) := by
  have nd := sc_Sizes___init__.nd
  exact fn_JXDN t.F_Sizes___init__ sc_Sizes___init__ ⟨fun cdv A outer sh H E hr n => (jss_cons (js_if (JW.jt (jw_or (jt_not (jt_val (je_call t.ok_is_integer (hr.mono (by decide)) t.m_is_integer t.F_is_integer.kp t.b_is_integer (ja_cons (je_name 1) ja_nil)))) (jw_or1 (jt_cmp jc_lt (je_name 1) je_int))))
  (jss_cons (js_raise1N tkn0 t.o_InvalidSizes t.at_InvalidSizes___init__ t.ty_InvalidSizes___init__ t.ok_InvalidSizes___init__ (hr.mono (by decide)) t.b_InvalidSizes___init__ t.m_InvalidSizes t.T_InvalidSizes je_str)
  jss_nil)
  jss_nil)
  (jss_cons (js_if (JW.jt (jw_or (jt_not (jt_val (je_call t.ok_are_sizes (hr.mono (by decide)) t.m_are_sizes t.F_are_sizes.kp t.b_are_sizes (ja_cons (je_name 2) ja_nil)))) (jw_or1 (jt_val (je_cb t.z_any (jc_any rfl) (ja_cons (je_lc nd ⟨(ji_val (je_name 2)), blkOk_by (own := [("size", 4)]) (by kernel_rfl), fun _ _ _ _ _ => (dg_name 4 nd), fun _ _ _ _ _ => jts_nil, fun _ _ _ _ _ => (je_cmp (jc_ne hr.units) (je_bin jb_mod (je_cb t.z_int jc_int (ja_cons (je_name 1) ja_nil)) (je_name 4)) je_int), by decide⟩) ja_nil))))))
  (jss_cons (js_raise1N tkn0 t.o_InvalidSizes t.at_InvalidSizes___init__ t.ty_InvalidSizes___init__ t.ok_InvalidSizes___init__ (hr.mono (by decide)) t.b_InvalidSizes___init__ t.m_InvalidSizes t.T_InvalidSizes je_str)
  jss_nil)
  jss_nil)
  (jss_cons (js_if (jt_not (jt_val (je_call t.ok_are_sizes (hr.mono (by decide)) t.m_are_sizes t.F_are_sizes.kp t.b_are_sizes (ja_cons (je_name 3) ja_nil))))
  (jss_cons (js_raise1N tkn0 t.o_InvalidSizes t.at_InvalidSizes___init__ t.ty_InvalidSizes___init__ t.ok_InvalidSizes___init__ (hr.mono (by decide)) t.b_InvalidSizes___init__ t.m_InvalidSizes t.T_InvalidSizes je_str)
  jss_nil)
  jss_nil)
  (jss_cons (js_tupF t.T_Sizes t.cl_Sizes t.no_Sizes_short_period t.no_Sizes_short_classes (je_call t.ok_shortest (hr.mono (by decide)) t.m_shortest t.F_shortest.kp t.b_shortest (ja_cons (je_name 1) (ja_cons (je_name 2) ja_nil))) (je_name 0) (je_name 0))
  (jss_cons (js_fld t.T_Sizes t.cl_Sizes t.no_Sizes_short_odd (je_name 3) (je_name 0))
  (jss_cons (js_fld t.T_Sizes t.cl_Sizes t.no_Sizes_class_marks (je_dc nd ⟨(ji_val (je_fld t.T_Sizes t.cl_Sizes t.no_Sizes_short_classes (je_name 0))), blkOk_by (own := [("size", 4)]) (by kernel_rfl), fun _ _ _ _ _ => (dg_name 4 nd), fun _ _ _ _ _ => jts_nil, fun _ _ _ _ _ => (je_name 4), fun _ _ _ _ _ => je_bl, by decide⟩) (je_name 0))
  (jss_cons (js_fld t.T_Sizes t.cl_Sizes t.no_Sizes_odd_marks (je_dc nd ⟨(ji_val (je_name 3)), blkOk_by (own := [("size", 4)]) (by kernel_rfl), fun _ _ _ _ _ => (dg_name 4 nd), fun _ _ _ _ _ => jts_nil, fun _ _ _ _ _ => (je_name 4), fun _ _ _ _ _ => je_bl, by decide⟩) (je_name 0))
  jss_nil))))))), fun cdv A outer sh H E hr tk n => (jss_cons (js_if (JW.jt (jw_or (jt_not (jt_val (je_call t.ok_is_integer (hr.mono (by decide)) t.m_is_integer t.F_is_integer.kp t.b_is_integer (ja_cons (je_name 1) ja_nil)))) (jw_or1 (jt_cmp jc_lt (je_name 1) je_int))))
  (jss_cons (js_raise1N tk t.o_InvalidSizes t.at_InvalidSizes___init__ t.ty_InvalidSizes___init__ t.ok_InvalidSizes___init__ (hr.mono (by decide)) t.b_InvalidSizes___init__ t.m_InvalidSizes t.T_InvalidSizes je_str)
  jss_nil)
  jss_nil)
  (jss_cons (js_if (JW.jt (jw_or (jt_not (jt_val (je_call t.ok_are_sizes (hr.mono (by decide)) t.m_are_sizes t.F_are_sizes.kp t.b_are_sizes (ja_cons (je_name 2) ja_nil)))) (jw_or1 (jt_val (je_cb t.z_any (jc_any rfl) (ja_cons (je_lc nd ⟨(ji_val (je_name 2)), blkOk_by (own := [("size", 4)]) (by kernel_rfl), fun _ _ _ _ _ => (dg_name 4 nd), fun _ _ _ _ _ => jts_nil, fun _ _ _ _ _ => (je_cmp (jc_ne hr.units) (je_bin jb_mod (je_cb t.z_int jc_int (ja_cons (je_name 1) ja_nil)) (je_name 4)) je_int), by decide⟩) ja_nil))))))
  (jss_cons (js_raise1N tk t.o_InvalidSizes t.at_InvalidSizes___init__ t.ty_InvalidSizes___init__ t.ok_InvalidSizes___init__ (hr.mono (by decide)) t.b_InvalidSizes___init__ t.m_InvalidSizes t.T_InvalidSizes je_str)
  jss_nil)
  jss_nil)
  (jss_cons (js_if (jt_not (jt_val (je_call t.ok_are_sizes (hr.mono (by decide)) t.m_are_sizes t.F_are_sizes.kp t.b_are_sizes (ja_cons (je_name 3) ja_nil))))
  (jss_cons (js_raise1N tk t.o_InvalidSizes t.at_InvalidSizes___init__ t.ty_InvalidSizes___init__ t.ok_InvalidSizes___init__ (hr.mono (by decide)) t.b_InvalidSizes___init__ t.m_InvalidSizes t.T_InvalidSizes je_str)
  jss_nil)
  jss_nil)
  (jss_cons (js_tupF t.T_Sizes t.cl_Sizes t.no_Sizes_short_period t.no_Sizes_short_classes (je_call t.ok_shortest (hr.mono (by decide)) t.m_shortest t.F_shortest.kp t.b_shortest (ja_cons (je_name 1) (ja_cons (je_name 2) ja_nil))) (je_name 0) (je_name 0))
  (jss_cons (js_fld t.T_Sizes t.cl_Sizes t.no_Sizes_short_odd (je_name 3) (je_name 0))
  (jss_cons (js_fld t.T_Sizes t.cl_Sizes t.no_Sizes_class_marks (je_dc nd ⟨(ji_val (je_fld t.T_Sizes t.cl_Sizes t.no_Sizes_short_classes (je_name 0))), blkOk_by (own := [("size", 4)]) (by kernel_rfl), fun _ _ _ _ _ => (dg_name 4 nd), fun _ _ _ _ _ => jts_nil, fun _ _ _ _ _ => (je_name 4), fun _ _ _ _ _ => je_bl, by decide⟩) (je_name 0))
  (jss_cons (js_fld t.T_Sizes t.cl_Sizes t.no_Sizes_odd_marks (je_dc nd ⟨(ji_val (je_name 3)), blkOk_by (own := [("size", 4)]) (by kernel_rfl), fun _ _ _ _ _ => (dg_name 4 nd), fun _ _ _ _ _ => jts_nil, fun _ _ _ _ _ => (je_name 4), fun _ _ _ _ _ => je_bl, by decide⟩) (je_name 0))
  jss_nil)))))))⟩
end

section
variable {T : Tab} {P : Program} {w : World} {K : PySem.W.Frag} {mg : Str → Option Value} {base : Heap}
theorem Tx.ok_InvalidCount___init__ (t : Tx T K mg) : FnOk P w K mg base CX0 1 t.a_InvalidCount___init__ t.fd_InvalidCount___init__ ["self", "word"] (spE1 t.c_InvalidCount "word") := by
  refine t.F_InvalidCount___init__.ok sc_InvalidCount___init__ (fun vs H Q E h => ?_) (fun cdv A outer s H vs Q E hr h => ⟨_, pss_cons (ps_expr (pe_cinit rfl t.m_ClashError t.ci_ClashError (pa_cons (pv 0) (pa_cons pe_str pa_nil)) (by decide) rfl rfl rfl)) (pss_one (ps_ost (pv 0) (pv 1))), ?_⟩)
  · obtain ⟨a, v, rfl, _⟩ := h; rfl
  · obtain ⟨a, v, rfl, e, q⟩ := h
    exact ⟨_, rfl, a, t.c_InvalidCount, [_], rfl, by decide, t.o_InvalidCount, e, _, rfl, _, rfl, a, t.c_InvalidCount, rfl, t.o_InvalidCount, t.no_InvalidCount_word, .inl ⟨e, fun dx n1 n2 => q dx n1 n2⟩⟩
end

def w_ascend (n : Nat) : WS := (wConsS (wAsg 1 (wCon (.int 0)))
  (wConsS (wFor (wItems (wName 0)) (.tp [(.nm 2), (.nm 3)])
  (wConsS (wIfS (wOrT (wNotT (wTru (wFn c_is_integer (wCons (wName 2) wNil)))) (wBl (wTwo (wName 2) (wName 1) leW)))
  (wConsS (wRet n (wCon (.bl false)))
  wNilS)
  wNilS)
  (wConsS (wAsg 1 (wName 2))
  wNilS)))
  (wConsS (wRet n (wCon (.bl true)))
  wNilS)))
def c_ascend : Ct := ctOf ["pairs", "last", "size", "other"] ["pairs"] (w_ascend)
section
variable {T : Tab} {P : Program} {w : World} {K : PySem.W.Frag} {mg : Str → Option Value} {base : Heap}
theorem Tx.ok_ascend (t : Tx T K mg) : FnOk P w K mg base CX0 2 t.a_ascend t.fd_ascend ["pairs"] (spC T K c_ascend) := by
  have nd := sc_ascend.nd
  exact fn_J t.F_ascend sc_ascend fun cdv A outer sh H E hr n => (jss_cons (js_asg 1 nd je_int)
  (jss_cons (js_for PassesOwn.never (ji_val (je_name 0)) (dg_tup rfl (dgs_cons (dg_name 2 nd) (dgs_cons (dg_name 3 nd) dgs_nil)))
  (jss_cons (js_if (JW.jt (jw_or (jt_not (jt_val (je_call t.ok_is_integer (hr.mono (by decide)) t.m_is_integer t.F_is_integer.kp t.b_is_integer (ja_cons (je_name 2) ja_nil)))) (jw_or1 (jt_cmp jc_le (je_name 2) (je_name 1)))))
  (jss_cons (js_ret je_bl)
  jss_nil)
  jss_nil)
  (jss_cons (js_asg 1 nd (je_name 2))
  jss_nil)))
  (jss_cons (js_ret je_bl)
  jss_nil)))
end

def w_are_pairs (n : Nat) : WS := (wConsS (wIfS (wOrT (wNotT (wTru (wIsi (fun t => kitB t "tuple") (ob_tuple) (wName 0)))) (wNotT (wTru (wCb (wCons (wLc (wItems (wName 0)) (.nm 1) wYes (wAndV (wIsi (fun t => kitB t "tuple") (ob_tuple) (wName 1)) (wTwo (wCb (wCons (wName 1) wNil) lenW) (wCon (.int 2)) (eqW false))) [1]) wNil) allW))))
  (wConsS (wRet n (wCon (.bl false)))
  wNilS)
  wNilS)
  (wConsS (wRet n (wFn c_ascend (wCons (wName 0) wNil)))
  wNilS))
def c_are_pairs : Ct := ctOf ["value", "pair"] ["value"] (w_are_pairs)
section
variable {T : Tab} {P : Program} {w : World} {K : PySem.W.Frag} {mg : Str → Option Value} {base : Heap}
theorem Tx.ok_are_pairs (t : Tx T K mg) : FnOk P w K mg base CX0 3 t.a_are_pairs t.fd_are_pairs ["value"] (spC T K c_are_pairs) := by
  have nd := sc_are_pairs.nd
  exact fn_J t.F_are_pairs sc_are_pairs fun cdv A outer sh H E hr n => (jss_cons (js_if (JW.jt (jw_or (jt_not (jt_val (je_isiB t.z_isinstance t.z_tuple bi_tuple t.obIs_tuple (je_name 0)))) (jw_or1 (jt_not (jt_val (je_cb t.z_all (jc_all rfl) (ja_cons (je_lc nd ⟨(ji_val (je_name 0)), blkOk_by (own := [("pair", 1)]) (by kernel_rfl), fun _ _ _ _ _ => (dg_name 1 nd), fun _ _ _ _ _ => jts_nil, fun _ _ _ _ _ => (je_and (je_isiB t.z_isinstance t.z_tuple bi_tuple t.obIs_tuple (je_name 1)) (je_one (je_cmp (jc_eq hr.units) (je_cb t.z_len jc_len (ja_cons (je_name 1) ja_nil)) je_int))), by decide⟩) ja_nil)))))))
  (jss_cons (js_ret je_bl)
  jss_nil)
  jss_nil)
  (jss_cons (js_ret (je_call t.ok_ascend (hr.mono (by decide)) t.m_ascend t.F_ascend.kp t.b_ascend (ja_cons (je_name 0) ja_nil)))
  jss_nil))
end

def w_are_integers (n : Nat) : WS := (wConsS (wRet n (wAndV (wIsi (fun t => kitB t "tuple") (ob_tuple) (wName 0)) (wCb (wCons (wLc (wItems (wName 0)) (.nm 1) wYes (wFn c_is_integer (wCons (wName 1) wNil)) [1]) wNil) allW)))
  wNilS)
def c_are_integers : Ct := ctOf ["value", "number"] ["value"] (w_are_integers)
section
variable {T : Tab} {P : Program} {w : World} {K : PySem.W.Frag} {mg : Str → Option Value} {base : Heap}
theorem Tx.ok_are_integers (t : Tx T K mg) : FnOk P w K mg base CX0 2 t.a_are_integers t.fd_are_integers ["value"] (spC T K c_are_integers) := by
  have nd := sc_are_integers.nd
  exact fn_J t.F_are_integers sc_are_integers fun cdv A outer sh H E hr n => (jss_cons (js_ret (je_and (je_isiB t.z_isinstance t.z_tuple bi_tuple t.obIs_tuple (je_name 0)) (je_one (je_cb t.z_all (jc_all rfl) (ja_cons (je_lc nd ⟨(ji_val (je_name 0)), blkOk_by (own := [("number", 1)]) (by kernel_rfl), fun _ _ _ _ _ => (dg_name 1 nd), fun _ _ _ _ _ => jts_nil, fun _ _ _ _ _ => (je_call t.ok_is_integer (hr.mono (by decide)) t.m_is_integer t.F_is_integer.kp t.b_is_integer (ja_cons (je_name 1) ja_nil)), by decide⟩) ja_nil)))))
  jss_nil)
end

def w_are_parts (n : Nat) : WS := (wConsS (wIfS (wNotT (wTru (wFn c_are_pairs (wCons (wName 0) wNil))))
  (wConsS (wRet n (wCon (.bl false)))
  wNilS)
  wNilS)
  (wConsS (wRet n (wCb (wCons (wLc (wItems (wName 0)) (.nm 1) wYes (wAndV (wFn c_are_integers (wCons (wTwo (wName 1) (wCon (.int 1)) ixW) wNil)) (wTwo (wCb (wCons (wTwo (wName 1) (wCon (.int 1)) ixW) wNil) lenW) (wCon (.int 4)) leW)) [1]) wNil) allW))
  wNilS))
def c_are_parts : Ct := ctOf ["value", "pair"] ["value"] (w_are_parts)
section
variable {T : Tab} {P : Program} {w : World} {K : PySem.W.Frag} {mg : Str → Option Value} {base : Heap}
theorem Tx.ok_are_parts (t : Tx T K mg) : FnOk P w K mg base CX0 4 t.a_are_parts t.fd_are_parts ["value"] (spC T K c_are_parts) := by
  have nd := sc_are_parts.nd
  exact fn_J t.F_are_parts sc_are_parts fun cdv A outer sh H E hr n => (jss_cons (js_if (jt_not (jt_val (je_call t.ok_are_pairs (hr.mono (by decide)) t.m_are_pairs t.F_are_pairs.kp t.b_are_pairs (ja_cons (je_name 0) ja_nil))))
  (jss_cons (js_ret je_bl)
  jss_nil)
  jss_nil)
  (jss_cons (js_ret (je_cb t.z_all (jc_all rfl) (ja_cons (je_lc nd ⟨(ji_val (je_name 0)), blkOk_by (own := [("pair", 1)]) (by kernel_rfl), fun _ _ _ _ _ => (dg_name 1 nd), fun _ _ _ _ _ => jts_nil, fun _ _ _ _ _ => (je_and (je_call t.ok_are_integers (hr.mono (by decide)) t.m_are_integers t.F_are_integers.kp t.b_are_integers (ja_cons (je_sub ji_ix (je_name 1) je_int) ja_nil)) (je_one (je_cmp jc_le (je_cb t.z_len jc_len (ja_cons (je_sub ji_ix (je_name 1) je_int) ja_nil)) (je_gint t.g_MOST_COEFFICIENTS)))), by decide⟩) ja_nil)))
  jss_nil))
end

def w_are_odd (n : Nat) : WS := (wConsS (wRet n (wAndV (wFn c_are_pairs (wCons (wName 0) wNil)) (wCb (wCons (wLc (wItems (wName 0)) (.nm 1) wYes (wFn c_is_integer (wCons (wTwo (wName 1) (wCon (.int 1)) ixW) wNil)) [1]) wNil) allW)))
  wNilS)
def c_are_odd : Ct := ctOf ["value", "pair"] ["value"] (w_are_odd)
section
variable {T : Tab} {P : Program} {w : World} {K : PySem.W.Frag} {mg : Str → Option Value} {base : Heap}
theorem Tx.ok_are_odd (t : Tx T K mg) : FnOk P w K mg base CX0 4 t.a_are_odd t.fd_are_odd ["value"] (spC T K c_are_odd) := by
  have nd := sc_are_odd.nd
  exact fn_J t.F_are_odd sc_are_odd fun cdv A outer sh H E hr n => (jss_cons (js_ret (je_and (je_call t.ok_are_pairs (hr.mono (by decide)) t.m_are_pairs t.F_are_pairs.kp t.b_are_pairs (ja_cons (je_name 0) ja_nil)) (je_one (je_cb t.z_all (jc_all rfl) (ja_cons (je_lc nd ⟨(ji_val (je_name 0)), blkOk_by (own := [("pair", 1)]) (by kernel_rfl), fun _ _ _ _ _ => (dg_name 1 nd), fun _ _ _ _ _ => jts_nil, fun _ _ _ _ _ => (je_call t.ok_is_integer (hr.mono (by decide)) t.m_is_integer t.F_is_integer.kp t.b_is_integer (ja_cons (je_sub ji_ix (je_name 1) je_int) ja_nil)), by decide⟩) ja_nil)))))
  jss_nil)
end

def w_cut (n : Nat) : WS := (wConsS (wAsg 1 (wCb (wCons (wName 0) wNil) lenW))
  (wConsS (wWhile (wAndT (wBl (wTwo (wName 1) (wCon (.int 0)) gtW)) (wBl (wTwo (wTwo (wName 0) (wTwo (wName 1) (wCon (.int 1)) subW) ixW) (wCon (.int 0)) (eqW false))))
  (wConsS (wAsg 1 (wTwo (wName 1) (wCon (.int 1)) subW))
  wNilS))
  (wConsS (wRet n (wCb (wCons (wSlc (wName 0) wO0 (wO1 (wName 1))) wNil) tupleW))
  wNilS)))
def c_cut : Ct := ctOf ["coefficients", "many"] ["coefficients"] (w_cut)
section
variable {T : Tab} {P : Program} {w : World} {K : PySem.W.Frag} {mg : Str → Option Value} {base : Heap}
theorem Tx.ok_cut (t : Tx T K mg) : FnOk P w K mg base CX0 1 t.a_cut t.fd_cut ["coefficients"] (spC T K c_cut) := by
  have nd := sc_cut.nd
  exact fn_J t.F_cut sc_cut fun cdv A outer sh H E hr n => (jss_cons (js_asg 1 nd (je_cb t.z_len jc_len (ja_cons (je_name 0) ja_nil)))
  (jss_cons (js_while PassesOwn.never (JW.jt (jw_and (jt_cmp jc_gt (je_name 1) je_int) (jw_and1 (jt_cmp (jc_eq hr.units) (je_sub ji_ix (je_name 0) (je_bin jb_sub (je_name 1) je_int)) je_int))))
  (jss_cons (js_asg 1 nd (je_bin jb_sub (je_name 1) je_int))
  jss_nil))
  (jss_cons (js_ret (je_cb t.z_tuple jc_tuple (ja_cons (je_slice (je_name 0) jo_none (jo_some (je_name 1))) ja_nil)))
  jss_nil)))
end

def w_worth (n : Nat) : WS := (wConsS (wAsg 2 (wCon (.int 0)))
  (wConsS (wFor (wItems (wRevT (wName 0))) (.nm 3)
  (wConsS (wAsg 2 (wTwo (wTwo (wName 2) (wName 1) mulW) (wName 3) addW))
  wNilS))
  (wConsS (wRet n (wName 2))
  wNilS)))
def c_worth : Ct := ctOf ["coefficients", "n", "found", "number"] ["coefficients", "n"] (w_worth)
section
variable {T : Tab} {P : Program} {w : World} {K : PySem.W.Frag} {mg : Str → Option Value} {base : Heap}
theorem Tx.ok_worth (t : Tx T K mg) : FnOk P w K mg base CX0 1 t.a_worth t.fd_worth ["coefficients", "n"] (spC T K c_worth) := by
  have nd := sc_worth.nd
  exact fn_J t.F_worth sc_worth fun cdv A outer sh H E hr n => (jss_cons (js_asg 2 nd je_int)
  (jss_cons (js_for PassesOwn.never (ji_val (je_revT (je_name 0))) (dg_name 3 nd)
  (jss_cons (js_asg 2 nd (je_bin jb_add (je_bin jb_mul (je_name 2) (je_name 1)) (je_name 3)))
  jss_nil))
  (jss_cons (js_ret (je_name 2))
  jss_nil)))
end

def w_plain_value (n : Nat) : WS := (wConsS (wRet n (wCb (wCons (wLc (wItems (wName 0)) (.tp [(.nm 2), (.nm 3)]) (wBl (wTwo (wTwo (wCb (wCons (wName 1) wNil) intW1) (wName 2) modW) (wCon (.int 0)) (eqW false))) (wFn c_worth (wCons (wName 3) (wCons (wName 1) wNil))) [2, 3]) wNil) sumW))
  wNilS)
def c_plain_value : Ct := ctOf ["parts", "n", "size", "coefficients"] ["parts", "n"] (w_plain_value)
section
variable {T : Tab} {P : Program} {w : World} {K : PySem.W.Frag} {mg : Str → Option Value} {base : Heap}
theorem Tx.ok_plain_value (t : Tx T K mg) : FnOk P w K mg base CX0 2 t.a_plain_value t.fd_plain_value ["parts", "n"] (spC T K c_plain_value) := by
  have nd := sc_plain_value.nd
  exact fn_J t.F_plain_value sc_plain_value fun cdv A outer sh H E hr n => (jss_cons (js_ret (je_cb t.z_sum (jc_sum rfl) (ja_cons (je_lc nd ⟨(ji_val (je_name 0)), blkOk_by (own := [("size", 2), ("coefficients", 3)]) (by kernel_rfl), fun _ _ _ _ _ => (dg_tup rfl (dgs_cons (dg_name 2 nd) (dgs_cons (dg_name 3 nd) dgs_nil))), fun _ _ _ _ _ => (jts_one (jt_cmp (jc_eq hr.units) (je_bin jb_mod (je_cb t.z_int jc_int (ja_cons (je_name 1) ja_nil)) (je_name 2)) je_int)), fun _ _ _ _ _ => (je_call t.ok_worth (hr.mono (by decide)) t.m_worth t.F_worth.kp t.b_worth (ja_cons (je_name 3) (ja_cons (je_name 1) ja_nil))), by decide⟩) ja_nil)))
  jss_nil)
end

def w_Count___init___rest (n : Nat) : WS := (wConsS (wAsg 3 (wLc (wItems (wName 1)) (.tp [(.nm 4), (.nm 5)]) wYes (wTup (wCons (wName 4) (wCons (wFn c_cut (wCons (wName 5) wNil)) wNil))) [4, 5]))
  (wConsS (wSetF 0 "short_parts" (wCb (wCons (wLc (wItems (wName 3)) (.nm 6) (wBl (wTwo (wTwo (wName 6) (wCon (.int 1)) ixW) (wTup wNil) (eqW true))) (wName 6) [6]) wNil) tupleW) (wName 0))
  (wConsS (wSetF 0 "short_odd" (wCb (wCons (wLc (wItems (wName 2)) (.nm 6) (wBl (wTwo (wFn c_plain_value (wCons (wFld 0 ["short_parts", "short_odd"] "short_parts" (wName 0)) (wCons (wTwo (wName 6) (wCon (.int 0)) ixW) wNil))) (wTwo (wName 6) (wCon (.int 1)) ixW) (eqW true))) (wName 6) [6]) wNil) tupleW) (wName 0))
  wNilS)))
def w_Count___init___odd (n : Nat) : WS := (wConsS (wIfS (wNotT (wTru (wFn c_are_odd (wCons (wName 2) wNil))))
  (wConsS (wRaise1 2 (wCon (.str "odd")))
  wNilS)
  wNilS)
  (w_Count___init___rest n))
def w_Count___init__ (n : Nat) : WS := (wConsS (wIfS (wNotT (wTru (wFn c_are_parts (wCons (wName 1) wNil))))
  (wConsS (wRaise1 2 (wCon (.str "parts")))
  wNilS)
  wNilS)
  (w_Count___init___odd n))
def c_Count___init__ : Ct := ctOf ["self", "parts", "odd", "short", "size", "coefficients", "pair"] ["self", "parts", "odd"] (w_Count___init__)
def c_Count___init__X : CtX := ctXOf ["self", "parts", "odd", "short", "size", "coefficients", "pair"] ["self", "parts", "odd"] (w_Count___init__)
section
variable {T : Tab} {P : Program} {w : World} {K : PySem.W.Frag} {mg : Str → Option Value} {base : Heap}
theorem Tx.ok_Count___init__ (t : Tx T K mg) : FnOk P w K mg base (L2N.CX P w) 5 t.a_Count___init__ t.fd_Count___init__ ["self", "parts", "odd"] (spX T K c_Count___init__ c_Count___init__X) := by
  have nd := sc_Count___init__.nd
  exact fn_JXDN t.F_Count___init__ sc_Count___init__ ⟨fun cdv A outer sh H E hr n => (jss_cons (js_if (jt_not (jt_val (je_call t.ok_are_parts (hr.mono (by decide)) t.m_are_parts t.F_are_parts.kp t.b_are_parts (ja_cons (je_name 1) ja_nil))))
  (jss_cons (js_raise1N tkn0 t.o_InvalidCount t.at_InvalidCount___init__ t.ty_InvalidCount___init__ t.ok_InvalidCount___init__ (hr.mono (by decide)) t.b_InvalidCount___init__ t.m_InvalidCount t.T_InvalidCount je_str)
  jss_nil)
  jss_nil)
  (jss_cons (js_if (jt_not (jt_val (je_call t.ok_are_odd (hr.mono (by decide)) t.m_are_odd t.F_are_odd.kp t.b_are_odd (ja_cons (je_name 2) ja_nil))))
  (jss_cons (js_raise1N tkn0 t.o_InvalidCount t.at_InvalidCount___init__ t.ty_InvalidCount___init__ t.ok_InvalidCount___init__ (hr.mono (by decide)) t.b_InvalidCount___init__ t.m_InvalidCount t.T_InvalidCount je_str)
  jss_nil)
  jss_nil)
  (jss_cons (js_lc 3 nd ⟨(ji_val (je_name 1)), blkOk_by (own := [("size", 4), ("coefficients", 5)]) (by kernel_rfl), fun _ _ _ _ _ => (dg_tup rfl (dgs_cons (dg_name 4 nd) (dgs_cons (dg_name 5 nd) dgs_nil))), fun _ _ _ _ _ => jts_nil, fun _ _ _ _ _ => (je_tup (ja_cons (je_name 4) (ja_cons (je_call t.ok_cut (hr.mono (by decide)) t.m_cut t.F_cut.kp t.b_cut (ja_cons (je_name 5) ja_nil)) ja_nil))), by decide⟩)
  (jss_cons (js_fld t.T_Count t.cl_Count t.no_Count_short_parts (je_cb t.z_tuple jc_tuple (ja_cons (je_lc nd ⟨(ji_val (je_name 3)), blkOk_by (own := [("pair", 6)]) (by kernel_rfl), fun _ _ _ _ _ => (dg_name 6 nd), fun _ _ _ _ _ => (jts_one (jt_cmp (jc_ne hr.units) (je_sub ji_ix (je_name 6) je_int) (je_tup ja_nil))), fun _ _ _ _ _ => (je_name 6), by decide⟩) ja_nil)) (je_name 0))
  (jss_cons (js_fld t.T_Count t.cl_Count t.no_Count_short_odd (je_cb t.z_tuple jc_tuple (ja_cons (je_lc nd ⟨(ji_val (je_name 2)), blkOk_by (own := [("pair", 6)]) (by kernel_rfl), fun _ _ _ _ _ => (dg_name 6 nd), fun _ _ _ _ _ => (jts_one (jt_cmp (jc_ne hr.units) (je_call t.ok_plain_value (hr.mono (by decide)) t.m_plain_value t.F_plain_value.kp t.b_plain_value (ja_cons (je_fld t.T_Count t.cl_Count t.no_Count_short_parts (je_name 0)) (ja_cons (je_sub ji_ix (je_name 6) je_int) ja_nil))) (je_sub ji_ix (je_name 6) je_int))), fun _ _ _ _ _ => (je_name 6), by decide⟩) ja_nil)) (je_name 0))
  jss_nil))))), fun cdv A outer sh H E hr tk n => (jss_cons (js_if (jt_not (jt_val (je_call t.ok_are_parts (hr.mono (by decide)) t.m_are_parts t.F_are_parts.kp t.b_are_parts (ja_cons (je_name 1) ja_nil))))
  (jss_cons (js_raise1N tk t.o_InvalidCount t.at_InvalidCount___init__ t.ty_InvalidCount___init__ t.ok_InvalidCount___init__ (hr.mono (by decide)) t.b_InvalidCount___init__ t.m_InvalidCount t.T_InvalidCount je_str)
  jss_nil)
  jss_nil)
  (jss_cons (js_if (jt_not (jt_val (je_call t.ok_are_odd (hr.mono (by decide)) t.m_are_odd t.F_are_odd.kp t.b_are_odd (ja_cons (je_name 2) ja_nil))))
  (jss_cons (js_raise1N tk t.o_InvalidCount t.at_InvalidCount___init__ t.ty_InvalidCount___init__ t.ok_InvalidCount___init__ (hr.mono (by decide)) t.b_InvalidCount___init__ t.m_InvalidCount t.T_InvalidCount je_str)
  jss_nil)
  jss_nil)
  (jss_cons (js_lc 3 nd ⟨(ji_val (je_name 1)), blkOk_by (own := [("size", 4), ("coefficients", 5)]) (by kernel_rfl), fun _ _ _ _ _ => (dg_tup rfl (dgs_cons (dg_name 4 nd) (dgs_cons (dg_name 5 nd) dgs_nil))), fun _ _ _ _ _ => jts_nil, fun _ _ _ _ _ => (je_tup (ja_cons (je_name 4) (ja_cons (je_call t.ok_cut (hr.mono (by decide)) t.m_cut t.F_cut.kp t.b_cut (ja_cons (je_name 5) ja_nil)) ja_nil))), by decide⟩)
  (jss_cons (js_fld t.T_Count t.cl_Count t.no_Count_short_parts (je_cb t.z_tuple jc_tuple (ja_cons (je_lc nd ⟨(ji_val (je_name 3)), blkOk_by (own := [("pair", 6)]) (by kernel_rfl), fun _ _ _ _ _ => (dg_name 6 nd), fun _ _ _ _ _ => (jts_one (jt_cmp (jc_ne hr.units) (je_sub ji_ix (je_name 6) je_int) (je_tup ja_nil))), fun _ _ _ _ _ => (je_name 6), by decide⟩) ja_nil)) (je_name 0))
  (jss_cons (js_fld t.T_Count t.cl_Count t.no_Count_short_odd (je_cb t.z_tuple jc_tuple (ja_cons (je_lc nd ⟨(ji_val (je_name 2)), blkOk_by (own := [("pair", 6)]) (by kernel_rfl), fun _ _ _ _ _ => (dg_name 6 nd), fun _ _ _ _ _ => (jts_one (jt_cmp (jc_ne hr.units) (je_call t.ok_plain_value (hr.mono (by decide)) t.m_plain_value t.F_plain_value.kp t.b_plain_value (ja_cons (je_fld t.T_Count t.cl_Count t.no_Count_short_parts (je_name 0)) (ja_cons (je_sub ji_ix (je_name 6) je_int) ja_nil))) (je_sub ji_ix (je_name 6) je_int))), fun _ _ _ _ _ => (je_name 6), by decide⟩) ja_nil)) (je_name 0))
  jss_nil)))))⟩
end

def w__law_take (n : Nat) : WS := (wConsS (wIfS (wBl (wTwo (wTwo (wName 0) (wCon (.int 0)) ixW) (wCon (.int 0)) gtW))
  (wConsS (wAsg 2 (wTwo (wCb (wCons (wTwo (wName 0) (wCon (.int 0)) ixW) wNil) intW1) (wName 1) modW))
  (wConsS (wSetL (wTwo (wTwo (wName 0) (wCon (.int 0)) ixW) (wName 1) fdivW) (wName 0) (wCon (.int 0)))
  (wConsS (wRet n (wName 2))
  wNilS)))
  wNilS)
  (wConsS (wAsg 3 (wTwo (wCb (wCons (wTwo (wTwo (wName 0) (wCon (.int 1)) ixW) (wCon (.int 69623)) mulW) wNil) intW1) (wCon (.int 2147483647)) modW))
  (wConsS (wSetL (wTwo (wTwo (wCb (wCons (wTwo (wTwo (wName 3) (wCon (.int 48271)) mulW) (wCon (.int 30103)) addW) wNil) intW1) (wCon (.int 2147483629)) modW) (wCon (.int 1)) addW) (wName 0) (wCon (.int 1)))
  (wConsS (wRet n (wTwo (wCb (wCons (wTwo (wTwo (wTwo (wName 3) (wCon (.int 2147483647)) mulW) (wTwo (wName 0) (wCon (.int 1)) ixW) addW) (wCon (.int 8191)) fdivW) wNil) intW1) (wName 1) modW))
  wNilS))))
def c__law_take : Ct := ctOf ["_law_box_here", "_law_many", "_law_digit", "_law_one"] ["_law_box_here", "_law_many"] (w__law_take)
section
variable {T : Tab} {P : Program} {w : World} {K : PySem.W.Frag} {mg : Str → Option Value} {base : Heap}
theorem Tx.ok__law_take (t : Tx T K mg) : FnOk P w K mg base CX0 1 t.a__law_take t.fd__law_take ["_law_box_here", "_law_many"] (spC T K c__law_take) := by
  have nd := sc__law_take.nd
  exact fn_J t.F__law_take sc__law_take fun cdv A outer sh H E hr n => (jss_cons (js_if (jt_cmp jc_gt (je_sub ji_ix (je_name 0) je_int) je_int)
  (jss_cons (js_asg 2 nd (je_bin jb_mod (je_cb t.z_int jc_int (ja_cons (je_sub ji_ix (je_name 0) je_int) ja_nil)) (je_name 1)))
  (jss_cons (js_setL (je_bin jb_fdiv (je_sub ji_ix (je_name 0) je_int) (je_name 1)) (je_name 0) je_int)
  (jss_cons (js_ret (je_name 2))
  jss_nil)))
  jss_nil)
  (jss_cons (js_asg 3 nd (je_bin jb_mod (je_cb t.z_int jc_int (ja_cons (je_bin jb_mul (je_sub ji_ix (je_name 0) je_int) je_int) ja_nil)) je_int))
  (jss_cons (js_setL (je_bin jb_add (je_bin jb_mod (je_cb t.z_int jc_int (ja_cons (je_bin jb_add (je_bin jb_mul (je_name 3) je_int) je_int) ja_nil)) je_int) je_int) (je_name 0) je_int)
  (jss_cons (js_ret (je_bin jb_mod (je_cb t.z_int jc_int (ja_cons (je_bin jb_fdiv (je_bin jb_add (je_bin jb_mul (je_name 3) je_int) (je_sub ji_ix (je_name 0) je_int)) je_int) ja_nil)) (je_name 1)))
  jss_nil))))
end

def w__law_number (n : Nat) : WS := (wConsS (wAsg 1 (wTwo (wCon (.int 1)) (wFn c__law_take (wCons (wName 0) (wCons (wCon (.int 9)) wNil))) addW))
  (wConsS (wRet n (wTwo (wName 1) (wTwo (wCon (.int 1)) (wTwo (wCon (.int 2)) (wFn c__law_take (wCons (wName 0) (wCons (wCon (.int 2)) wNil))) mulW) subW) mulW))
  wNilS))
def c__law_number : Ct := ctOf ["_law_box_here", "_law_number_here"] ["_law_box_here"] (w__law_number)
section
variable {T : Tab} {P : Program} {w : World} {K : PySem.W.Frag} {mg : Str → Option Value} {base : Heap}
theorem Tx.ok__law_number (t : Tx T K mg) : FnOk P w K mg base CX0 2 t.a__law_number t.fd__law_number ["_law_box_here"] (spC T K c__law_number) := by
  have nd := sc__law_number.nd
  exact fn_J t.F__law_number sc__law_number fun cdv A outer sh H E hr n => (jss_cons (js_asg 1 nd (je_bin jb_add je_int (je_call t.ok__law_take (hr.mono (by decide)) t.m__law_take t.F__law_take.kp t.b__law_take (ja_cons (je_name 0) (ja_cons je_int ja_nil)))))
  (jss_cons (js_ret (je_bin jb_mul (je_name 1) (je_bin jb_sub je_int (je_bin jb_mul je_int (je_call t.ok__law_take (hr.mono (by decide)) t.m__law_take t.F__law_take.kp t.b__law_take (ja_cons (je_name 0) (ja_cons je_int ja_nil)))))))
  jss_nil))
end

def w__law_counts_end (n : Nat) : WS := (wConsS (wRet n (wTup (wCons (wName 12) (wCons (wName 13) (wCons (wTwo (wName 14) (wLst (wCons (wTwo (wTwo (wTwo (wTwo (wName 8) (wCon (.str " | ")) addW) (wName 11) addW) (wCon (.str "; ")) addW) (wName 11) addW) (wCons (wTwo (wCon (.str "+")) (wName 12) addW) (wCons (wCon (.str "1:  1 | -")) (wCons (wCon (.str "1: -0 | -")) wNil))))) addW) wNil)))))
  wNilS)
def w__law_counts_bade (n : Nat) : WS := (wConsS (wAsg 14 (wTwo (wName 14) (wLst (wCons (wTwo (wTwo (wTwo (wName 8) (wCon (.str ";")) addW) (wName 9) addW) (wCon (.str " | -")) addW) (wCons (wTwo (wCon (.str "0")) (wName 12) addW) (wCons (wTwo (wCon (.str " ")) (wName 12) addW) (wCons (wTwo (wName 12) (wCon (.str " ")) addW) (wCons (wTwo (wName 12) (wCon (.str "\n")) addW) (wCons (wCon (.str "- |")) (wCons (wCon (.str "")) (wCons (wCon (.str "-")) wNil))))))))) addW))
  (w__law_counts_end n))
def w__law_counts_badd (n : Nat) : WS := (wConsS (wAsg 14 (wTwo (wName 14) (wLst (wCons (wTwo (wName 8) (wCon (.str " | 0: 5")) addW) (wCons (wTwo (wName 8) (wCon (.str " | -3: 5")) addW) (wCons (wName 8) (wCons (wM1 joiW (wCon (.str " | ")) (wLst (wCons (wName 8) (wCons (wCon (.str "-")) (wCons (wCon (.str "-")) wNil))))) (wCons (wTwo (wCb (wCons (wName 4) wNil) strW1) (wCon (.str ": - | -")) addW) wNil)))))) addW))
  (w__law_counts_bade n))
def w__law_counts_badc (n : Nat) : WS := (wConsS (wAsg 14 (wTwo (wName 14) (wLst (wCons (wTwo (wTwo (wCon (.str "0: ")) (wCb (wCons (wName 1) wNil) strW1) addW) (wCon (.str " | -")) addW) (wCons (wTwo (wCb (wCons (wName 4) wNil) strW1) (wCon (.str ": 1 2 3 4 5 | -")) addW) (wCons (wTwo (wTwo (wTwo (wTwo (wName 8) (wCon (.str " | ")) addW) (wName 11) addW) (wCon (.str " ")) addW) (wCb (wCons (wName 1) wNil) strW1) addW) wNil)))) addW))
  (w__law_counts_badd n))
def w__law_counts_badb (n : Nat) : WS := (wConsS (wAsg 14 (wTwo (wName 14) (wLst (wCons (wTwo (wCb (wCons (wName 4) wNil) strW1) (wCon (.str ": 0 | -")) addW) (wCons (wTwo (wTwo (wTwo (wTwo (wTwo (wTwo (wName 8) (wCon (.str "; ")) addW) (wName 9) addW) (wCon (.str " | ")) addW) (wCb (wCons (wName 7) wNil) strW1) addW) (wCon (.str ": ")) addW) (wCb (wCons (wName 10) wNil) strW1) addW) wNil))) addW))
  (w__law_counts_badc n))
def w__law_counts_bada (n : Nat) : WS := (wConsS (wAsg 14 (wLst (wCons (wTwo (wTwo (wTwo (wTwo (wName 9) (wCon (.str "; ")) addW) (wName 8) addW) (wCon (.str " | ")) addW) (wName 11) addW) (wCons (wTwo (wTwo (wTwo (wName 8) (wCon (.str "; ")) addW) (wName 8) addW) (wCon (.str " | -")) addW) (wCons (wTwo (wName 8) (wCon (.str " 0 | -")) addW) wNil)))))
  (w__law_counts_badb n))
def w__law_counts_made (n : Nat) : WS := (wConsS (wAsg 13 (wMakeKX 0 ["short_parts", "short_odd"] c_Count___init__ c_Count___init__X 2 0 fu_Count_2_ (wCons (wTup (wCons (wTup (wCons (wName 4) (wCons (wTup (wCons (wName 1) (wCons (wName 2) wNil))) wNil))) (wCons (wTup (wCons (wName 6) (wCons (wTup (wCons (wName 3) wNil)) wNil))) wNil))) (wCons (wTup (wCons (wTup (wCons (wName 7) (wCons (wTwo (wName 10) (wCon (.int 1)) addW) wNil))) wNil)) wNil)) wNil))
  (w__law_counts_bada n))
def w__law_counts_text (n : Nat) : WS := (wConsS (wAsg 12 (wTwo (wTwo (wTwo (wTwo (wName 8) (wCon (.str "; ")) addW) (wName 9) addW) (wCon (.str " | ")) addW) (wName 11) addW))
  (w__law_counts_made n))
def w__law_counts_spec (n : Nat) : WS := (wConsS (wAsg 11 (wTwo (wTwo (wCb (wCons (wName 7) wNil) strW1) (wCon (.str ": ")) addW) (wCb (wCons (wTwo (wName 10) (wCon (.int 1)) addW) wNil) strW1) addW))
  (w__law_counts_text n))
def w__law_counts_plain (n : Nat) : WS := (wConsS (wAsg 10 (wTwo (wTwo (wTwo (wName 1) (wTwo (wName 2) (wName 7) mulW) addW) (wCb (wCons (wTwo (wTwo (wName 7) (wName 4) modW) (wCon (.int 0)) (eqW false)) wNil) intW1) mulW) (wTwo (wName 3) (wCb (wCons (wTwo (wTwo (wName 7) (wName 6) modW) (wCon (.int 0)) (eqW false)) wNil) intW1) mulW) addW))
  (w__law_counts_spec n))
def w__law_counts_texts (n : Nat) : WS := (wConsS (wPar2 8 9 (wCons (wTwo (wTwo (wTwo (wTwo (wCb (wCons (wName 4) wNil) strW1) (wCon (.str ": ")) addW) (wCb (wCons (wName 1) wNil) strW1) addW) (wCon (.str " ")) addW) (wCb (wCons (wName 2) wNil) strW1) addW) (wCons (wTwo (wTwo (wCb (wCons (wName 6) wNil) strW1) (wCon (.str ": ")) addW) (wCb (wCons (wName 3) wNil) strW1) addW) wNil)))
  (w__law_counts_plain n))
def w__law_counts_three (n : Nat) : WS := (wConsS (wPar2 6 7 (wCons (wTwo (wName 4) (wName 5) addW) (wCons (wTwo (wCon (.int 3)) (wFn c__law_take (wCons (wName 0) (wCons (wCon (.int 40)) wNil))) addW) wNil)))
  (w__law_counts_texts n))
def w__law_counts_two (n : Nat) : WS := (wConsS (wPar2 4 5 (wCons (wTwo (wCon (.int 1)) (wFn c__law_take (wCons (wName 0) (wCons (wCon (.int 5)) wNil))) addW) (wCons (wTwo (wCon (.int 1)) (wFn c__law_take (wCons (wName 0) (wCons (wCon (.int 5)) wNil))) addW) wNil)))
  (w__law_counts_three n))
def w__law_counts (n : Nat) : WS := (wConsS (wPar3 1 2 3 (wCons (wFn c__law_number (wCons (wName 0) wNil)) (wCons (wFn c__law_number (wCons (wName 0) wNil)) (wCons (wFn c__law_number (wCons (wName 0) wNil)) wNil))))
  (w__law_counts_two n))
def c__law_counts : Ct := ctOf ["_law_box_here", "_law_a", "_law_b", "_law_c", "_law_one", "_law_more", "_law_two", "_law_n", "_law_first", "_law_second", "_law_plain", "_law_special", "_law_text", "_law_count", "_law_bad"] ["_law_box_here"] (w__law_counts)
section
variable {T : Tab} {P : Program} {w : World} {K : PySem.W.Frag} {mg : Str → Option Value} {base : Heap}
theorem Tx.ok__law_counts (t : Tx T K mg) : FnOk P w K mg base CX0 7 t.a__law_counts t.fd__law_counts ["_law_box_here"] (spC T K c__law_counts) := by
  have nd := sc__law_counts.nd
  exact fn_J t.F__law_counts sc__law_counts fun cdv A outer sh H E hr n => (jss_cons (js_par3 1 2 3 nd (ja_cons (je_call t.ok__law_number (hr.mono (by decide)) t.m__law_number t.F__law_number.kp t.b__law_number (ja_cons (je_name 0) ja_nil)) (ja_cons (je_call t.ok__law_number (hr.mono (by decide)) t.m__law_number t.F__law_number.kp t.b__law_number (ja_cons (je_name 0) ja_nil)) (ja_cons (je_call t.ok__law_number (hr.mono (by decide)) t.m__law_number t.F__law_number.kp t.b__law_number (ja_cons (je_name 0) ja_nil)) ja_nil))))
  (jss_cons (js_par2 4 5 nd (ja_cons (je_bin jb_add je_int (je_call t.ok__law_take (hr.mono (by decide)) t.m__law_take t.F__law_take.kp t.b__law_take (ja_cons (je_name 0) (ja_cons je_int ja_nil)))) (ja_cons (je_bin jb_add je_int (je_call t.ok__law_take (hr.mono (by decide)) t.m__law_take t.F__law_take.kp t.b__law_take (ja_cons (je_name 0) (ja_cons je_int ja_nil)))) ja_nil)))
  (jss_cons (js_par2 6 7 nd (ja_cons (je_bin jb_add (je_name 4) (je_name 5)) (ja_cons (je_bin jb_add je_int (je_call t.ok__law_take (hr.mono (by decide)) t.m__law_take t.F__law_take.kp t.b__law_take (ja_cons (je_name 0) (ja_cons je_int ja_nil)))) ja_nil)))
  (jss_cons (js_par2 8 9 nd (ja_cons (je_bin jb_add (je_bin jb_add (je_bin jb_add (je_bin jb_add (je_cb t.z_str jc_str (ja_cons (je_name 4) ja_nil)) je_str) (je_cb t.z_str jc_str (ja_cons (je_name 1) ja_nil))) je_str) (je_cb t.z_str jc_str (ja_cons (je_name 2) ja_nil))) (ja_cons (je_bin jb_add (je_bin jb_add (je_cb t.z_str jc_str (ja_cons (je_name 6) ja_nil)) je_str) (je_cb t.z_str jc_str (ja_cons (je_name 3) ja_nil))) ja_nil)))
  (jss_cons (js_asg 10 nd (je_bin jb_add (je_bin jb_mul (je_bin jb_add (je_name 1) (je_bin jb_mul (je_name 2) (je_name 7))) (je_cb t.z_int jc_int (ja_cons (je_cmp (jc_eq hr.units) (je_bin jb_mod (je_name 7) (je_name 4)) je_int) ja_nil))) (je_bin jb_mul (je_name 3) (je_cb t.z_int jc_int (ja_cons (je_cmp (jc_eq hr.units) (je_bin jb_mod (je_name 7) (je_name 6)) je_int) ja_nil)))))
  (jss_cons (js_asg 11 nd (je_bin jb_add (je_bin jb_add (je_cb t.z_str jc_str (ja_cons (je_name 7) ja_nil)) je_str) (je_cb t.z_str jc_str (ja_cons (je_bin jb_add (je_name 10) je_int) ja_nil))))
  (jss_cons (js_asg 12 nd (je_bin jb_add (je_bin jb_add (je_bin jb_add (je_bin jb_add (je_name 8) je_str) (je_name 9)) je_str) (je_name 11)))
  (jss_cons (js_asg 13 nd (je_makeKXN tkn0 t.T_Count t.K_Count t.ok_Count___init__ (hr.mono (by decide)) t.m_Count t.kb_Count_2_ t.put_Count_2_ (ja_cons (je_tup (ja_cons (je_tup (ja_cons (je_name 4) (ja_cons (je_tup (ja_cons (je_name 1) (ja_cons (je_name 2) ja_nil))) ja_nil))) (ja_cons (je_tup (ja_cons (je_name 6) (ja_cons (je_tup (ja_cons (je_name 3) ja_nil)) ja_nil))) ja_nil))) (ja_cons (je_tup (ja_cons (je_tup (ja_cons (je_name 7) (ja_cons (je_bin jb_add (je_name 10) je_int) ja_nil))) ja_nil)) ja_nil)) jk_nil))
  (jss_cons (js_asg 14 nd (je_lst (ja_cons (je_bin jb_add (je_bin jb_add (je_bin jb_add (je_bin jb_add (je_name 9) je_str) (je_name 8)) je_str) (je_name 11)) (ja_cons (je_bin jb_add (je_bin jb_add (je_bin jb_add (je_name 8) je_str) (je_name 8)) je_str) (ja_cons (je_bin jb_add (je_name 8) je_str) ja_nil)))))
  (jss_cons (js_asg 14 nd (je_bin jb_add (je_name 14) (je_lst (ja_cons (je_bin jb_add (je_cb t.z_str jc_str (ja_cons (je_name 4) ja_nil)) je_str) (ja_cons (je_bin jb_add (je_bin jb_add (je_bin jb_add (je_bin jb_add (je_bin jb_add (je_bin jb_add (je_name 8) je_str) (je_name 9)) je_str) (je_cb t.z_str jc_str (ja_cons (je_name 7) ja_nil))) je_str) (je_cb t.z_str jc_str (ja_cons (je_name 10) ja_nil))) ja_nil)))))
  (jss_cons (js_asg 14 nd (je_bin jb_add (je_name 14) (je_lst (ja_cons (je_bin jb_add (je_bin jb_add je_str (je_cb t.z_str jc_str (ja_cons (je_name 1) ja_nil))) je_str) (ja_cons (je_bin jb_add (je_cb t.z_str jc_str (ja_cons (je_name 4) ja_nil)) je_str) (ja_cons (je_bin jb_add (je_bin jb_add (je_bin jb_add (je_bin jb_add (je_name 8) je_str) (je_name 11)) je_str) (je_cb t.z_str jc_str (ja_cons (je_name 1) ja_nil))) ja_nil))))))
  (jss_cons (js_asg 14 nd (je_bin jb_add (je_name 14) (je_lst (ja_cons (je_bin jb_add (je_name 8) je_str) (ja_cons (je_bin jb_add (je_name 8) je_str) (ja_cons (je_name 8) (ja_cons (je_join je_str (je_lst (ja_cons (je_name 8) (ja_cons je_str (ja_cons je_str ja_nil))))) (ja_cons (je_bin jb_add (je_cb t.z_str jc_str (ja_cons (je_name 4) ja_nil)) je_str) ja_nil))))))))
  (jss_cons (js_asg 14 nd (je_bin jb_add (je_name 14) (je_lst (ja_cons (je_bin jb_add (je_bin jb_add (je_bin jb_add (je_name 8) je_str) (je_name 9)) je_str) (ja_cons (je_bin jb_add je_str (je_name 12)) (ja_cons (je_bin jb_add je_str (je_name 12)) (ja_cons (je_bin jb_add (je_name 12) je_str) (ja_cons (je_bin jb_add (je_name 12) je_str) (ja_cons je_str (ja_cons je_str (ja_cons je_str ja_nil)))))))))))
  (jss_cons (js_ret (je_tup (ja_cons (je_name 12) (ja_cons (je_name 13) (ja_cons (je_bin jb_add (je_name 14) (je_lst (ja_cons (je_bin jb_add (je_bin jb_add (je_bin jb_add (je_bin jb_add (je_name 8) je_str) (je_name 11)) je_str) (je_name 11)) (ja_cons (je_bin jb_add je_str (je_name 12)) (ja_cons je_str (ja_cons je_str ja_nil)))))) ja_nil)))))
  jss_nil))))))))))))))
end

def w__law_sets_end (n : Nat) : WS := (wConsS (wRet n (wTup (wCons (wName 4) (wCons (wMakeKX 1 ["short_period", "short_classes", "short_odd", "class_marks", "odd_marks"] c_Sizes___init__ c_Sizes___init__X 3 0 fu_Sizes_3_ (wCons (wName 1) (wCons (wTup (wCons (wName 1) wNil)) (wCons (wTup (wCons (wName 3) wNil)) wNil))) wNil) (wCons (wName 5) wNil)))))
  wNilS)
def w__law_sets_bade (n : Nat) : WS := (wConsS (wAsg 5 (wTwo (wName 5) (wLst (wCons (wCon (.str "")) (wCons (wCon (.str "-")) (wCons (wCon (.str "| |")) (wCons (wCon (.str "1 | 1 | 1  2")) (wCons (wCon (.str "1 | 1 |")) wNil)))))) addW))
  (w__law_sets_end n))
def w__law_sets_badd (n : Nat) : WS := (wConsS (wAsg 5 (wTwo (wName 5) (wLst (wCons (wCon (.str "01 | 1 | -")) (wCons (wCon (.str "1 | 01 | -")) (wCons (wCon (.str "1 | 1 | +2")) (wCons (wTwo (wCon (.str " ")) (wName 4) addW) (wCons (wTwo (wName 4) (wCon (.str " ")) addW) (wCons (wTwo (wName 4) (wCon (.str "\n")) addW) (wCons (wCon (.str "1 | 1 | - | -")) wNil)))))))) addW))
  (w__law_sets_bade n))
def w__law_sets_badc (n : Nat) : WS := (wConsS (wAsg 5 (wTwo (wName 5) (wLst (wCons (wCon (.str "0 | 1 | -")) (wCons (wCon (.str "-1 | 1 | -")) (wCons (wCon (.str "1 | 1 | 0")) (wCons (wCon (.str "1 | 1 | 2 2")) (wCons (wCon (.str "1 | 1 | 3 2")) (wCons (wCon (.str "1 | 1")) (wCons (wCon (.str "13 | 14 | -")) wNil)))))))) addW))
  (w__law_sets_badd n))
def w__law_sets_badb (n : Nat) : WS := (wConsS (wAsg 5 (wTwo (wSlcS (wName 5) wO0 (wO1 (wCon (.int 1)))) (wLst (wCons (wTwo (wCb (wCons (wName 2) wNil) strW1) (wCon (.str " | - | -")) addW) (wCons (wTwo (wTwo (wTwo (wCb (wCons (wName 1) wNil) strW1) (wCon (.str " | ")) addW) (wCb (wCons (wName 1) wNil) strW1) addW) (wCon (.str " 1 | -")) addW) (wCons (wCon (.str "13 | 2 | -")) wNil)))) addW))
  (w__law_sets_badc n))
def w__law_sets_bada (n : Nat) : WS := (wConsS (wAsg 5 (wLst (wCons (wTwo (wTwo (wTwo (wCb (wCons (wName 1) wNil) strW1) (wCon (.str " | 1 ")) addW) (wCb (wCons (wName 1) wNil) strW1) addW) (wCon (.str " | -")) addW) (wCons (wTwo (wCb (wCons (wTwo (wName 1) (wName 2) mulW) wNil) strW1) (wCon (.str " | 1 | -")) addW) (wCons (wTwo (wCb (wCons (wName 1) wNil) strW1) (wCon (.str " | - | -")) addW) wNil)))))
  (w__law_sets_badb n))
def w__law_sets_text (n : Nat) : WS := (wConsS (wAsg 4 (wTwo (wTwo (wTwo (wTwo (wCb (wCons (wName 1) wNil) strW1) (wCon (.str " | ")) addW) (wCb (wCons (wName 1) wNil) strW1) addW) (wCon (.str " | ")) addW) (wCb (wCons (wName 3) wNil) strW1) addW))
  (w__law_sets_bada n))
def w__law_sets_n (n : Nat) : WS := (wConsS (wAsg 3 (wTwo (wCon (.int 1)) (wFn c__law_take (wCons (wName 0) (wCons (wCon (.int 90)) wNil))) addW))
  (w__law_sets_text n))
def w__law_sets (n : Nat) : WS := (wConsS (wPar2 1 2 (wCons (wTwo (wLst (wCons (wCon (.int 2)) (wCons (wCon (.int 3)) (wCons (wCon (.int 5)) (wCons (wCon (.int 7)) (wCons (wCon (.int 11)) wNil)))))) (wFn c__law_take (wCons (wName 0) (wCons (wCon (.int 5)) wNil))) ixW) (wCons (wTwo (wLst (wCons (wCon (.int 4)) (wCons (wCon (.int 9)) (wCons (wCon (.int 25)) (wCons (wCon (.int 6)) (wCons (wCon (.int 15)) wNil)))))) (wFn c__law_take (wCons (wName 0) (wCons (wCon (.int 5)) wNil))) ixW) wNil)))
  (w__law_sets_n n))
def c__law_sets : Ct := ctOf ["_law_box_here", "_law_prime", "_law_other", "_law_n", "_law_text", "_law_bad"] ["_law_box_here"] (w__law_sets)
section
variable {T : Tab} {P : Program} {w : World} {K : PySem.W.Frag} {mg : Str → Option Value} {base : Heap}
theorem Tx.ok__law_sets (t : Tx T K mg) : FnOk P w K mg base CX0 5 t.a__law_sets t.fd__law_sets ["_law_box_here"] (spC T K c__law_sets) := by
  have nd := sc__law_sets.nd
  exact fn_J t.F__law_sets sc__law_sets fun cdv A outer sh H E hr n => (jss_cons (js_par2 1 2 nd (ja_cons (je_sub ji_ix (je_lst (ja_cons je_int (ja_cons je_int (ja_cons je_int (ja_cons je_int (ja_cons je_int ja_nil)))))) (je_call t.ok__law_take (hr.mono (by decide)) t.m__law_take t.F__law_take.kp t.b__law_take (ja_cons (je_name 0) (ja_cons je_int ja_nil)))) (ja_cons (je_sub ji_ix (je_lst (ja_cons je_int (ja_cons je_int (ja_cons je_int (ja_cons je_int (ja_cons je_int ja_nil)))))) (je_call t.ok__law_take (hr.mono (by decide)) t.m__law_take t.F__law_take.kp t.b__law_take (ja_cons (je_name 0) (ja_cons je_int ja_nil)))) ja_nil)))
  (jss_cons (js_asg 3 nd (je_bin jb_add je_int (je_call t.ok__law_take (hr.mono (by decide)) t.m__law_take t.F__law_take.kp t.b__law_take (ja_cons (je_name 0) (ja_cons je_int ja_nil)))))
  (jss_cons (js_asg 4 nd (je_bin jb_add (je_bin jb_add (je_bin jb_add (je_bin jb_add (je_cb t.z_str jc_str (ja_cons (je_name 1) ja_nil)) je_str) (je_cb t.z_str jc_str (ja_cons (je_name 1) ja_nil))) je_str) (je_cb t.z_str jc_str (ja_cons (je_name 3) ja_nil))))
  (jss_cons (js_asg 5 nd (je_lst (ja_cons (je_bin jb_add (je_bin jb_add (je_bin jb_add (je_cb t.z_str jc_str (ja_cons (je_name 1) ja_nil)) je_str) (je_cb t.z_str jc_str (ja_cons (je_name 1) ja_nil))) je_str) (ja_cons (je_bin jb_add (je_cb t.z_str jc_str (ja_cons (je_bin jb_mul (je_name 1) (je_name 2)) ja_nil)) je_str) (ja_cons (je_bin jb_add (je_cb t.z_str jc_str (ja_cons (je_name 1) ja_nil)) je_str) ja_nil)))))
  (jss_cons (js_asg 5 nd (je_bin jb_add (je_sliceS (je_name 5) jo_none (jo_some je_int)) (je_lst (ja_cons (je_bin jb_add (je_cb t.z_str jc_str (ja_cons (je_name 2) ja_nil)) je_str) (ja_cons (je_bin jb_add (je_bin jb_add (je_bin jb_add (je_cb t.z_str jc_str (ja_cons (je_name 1) ja_nil)) je_str) (je_cb t.z_str jc_str (ja_cons (je_name 1) ja_nil))) je_str) (ja_cons je_str ja_nil))))))
  (jss_cons (js_asg 5 nd (je_bin jb_add (je_name 5) (je_lst (ja_cons je_str (ja_cons je_str (ja_cons je_str (ja_cons je_str (ja_cons je_str (ja_cons je_str (ja_cons je_str ja_nil))))))))))
  (jss_cons (js_asg 5 nd (je_bin jb_add (je_name 5) (je_lst (ja_cons je_str (ja_cons je_str (ja_cons je_str (ja_cons (je_bin jb_add je_str (je_name 4)) (ja_cons (je_bin jb_add (je_name 4) je_str) (ja_cons (je_bin jb_add (je_name 4) je_str) (ja_cons je_str ja_nil))))))))))
  (jss_cons (js_asg 5 nd (je_bin jb_add (je_name 5) (je_lst (ja_cons je_str (ja_cons je_str (ja_cons je_str (ja_cons je_str (ja_cons je_str ja_nil))))))))
  (jss_cons (js_ret (je_tup (ja_cons (je_name 4) (ja_cons (je_makeKXN tkn0 t.T_Sizes t.K_Sizes t.ok_Sizes___init__ (hr.mono (by decide)) t.m_Sizes t.kb_Sizes_3_ t.put_Sizes_3_ (ja_cons (je_name 1) (ja_cons (je_tup (ja_cons (je_name 1) ja_nil)) (ja_cons (je_tup (ja_cons (je_name 3) ja_nil)) ja_nil))) jk_nil) (ja_cons (je_name 5) ja_nil)))))
  jss_nil)))))))))
end

section
variable {T : Tab} {P : Program} {w : World} {K : PySem.W.Frag} {mg : Str → Option Value} {base : Heap}
theorem Tx.ok_InvalidText___init__ (t : Tx T K mg) : FnOk P w K mg base CX0 1 t.a_InvalidText___init__ t.fd_InvalidText___init__ ["self", "line"] (spE1 t.c_InvalidText "line") := by
  refine t.F_InvalidText___init__.ok sc_InvalidText___init__ (fun vs H Q E h => ?_) (fun cdv A outer s H vs Q E hr h => ⟨_, pss_cons (ps_expr (pe_cinit rfl t.m_ClashError t.ci_ClashError (pa_cons (pv 0) (pa_cons pe_str pa_nil)) (by decide) rfl rfl rfl)) (pss_one (ps_ost (pv 0) (pv 1))), ?_⟩)
  · obtain ⟨a, v, rfl, _⟩ := h; rfl
  · obtain ⟨a, v, rfl, e, q⟩ := h
    exact ⟨_, rfl, a, t.c_InvalidText, [_], rfl, by decide, t.o_InvalidText, e, _, rfl, _, rfl, a, t.c_InvalidText, rfl, t.o_InvalidText, t.no_InvalidText_line, .inl ⟨e, fun dx n1 n2 => q dx n1 n2⟩⟩
theorem Tx.okH_InvalidText___init__ (t : Tx T K mg) : L2H.FnH P w K mg base CX0 1 t.a_InvalidText___init__ t.fd_InvalidText___init__ ["self", "line"] (spE1 t.c_InvalidText "line") := by
  refine fn_okH t.F_InvalidText___init__ sc_InvalidText___init__ (fun vs H Q E h => ?_) (fun cdv A outer s H vs Q E q h => ⟨_, pss_cons (ps_expr (pe_cinit rfl t.m_ClashError t.ci_ClashError (pa_cons (pv 0) (pa_cons pe_str pa_nil)) (by decide) rfl rfl rfl)) (pss_one (ps_ost (pv 0) (pv 1))), ?_⟩)
  · obtain ⟨a, v, rfl, _⟩ := h; rfl
  · obtain ⟨a, v, rfl, e, q⟩ := h
    exact ⟨_, rfl, a, t.c_InvalidText, [_], rfl, by decide, t.o_InvalidText, e, _, rfl, _, rfl, a, t.c_InvalidText, rfl, t.o_InvalidText, t.no_InvalidText_line, .inl ⟨e, fun dx n1 n2 => q dx n1 n2⟩⟩
end

def w_Count_parts (n : Nat) : WS := (wConsS (wRet n (wFld 0 ["short_parts", "short_odd"] "short_parts" (wName 0)))
  wNilS)
def c_Count_parts : Ct := ctOf ["self"] ["self"] (w_Count_parts)
section
variable {T : Tab} {P : Program} {w : World} {K : PySem.W.Frag} {mg : Str → Option Value} {base : Heap}
theorem Tx.ok_Count_parts (t : Tx T K mg) : FnOk P w K mg base CX0 1 t.a_Count_parts t.fd_Count_parts ["self"] (spC T K c_Count_parts) := by
  have nd := sc_Count_parts.nd
  exact fn_J t.F_Count_parts sc_Count_parts fun cdv A outer sh H E hr n => (jss_cons (js_ret (je_fld t.T_Count t.cl_Count t.no_Count_short_parts (je_name 0)))
  jss_nil)
end

def w_Count_odd (n : Nat) : WS := (wConsS (wRet n (wFld 0 ["short_parts", "short_odd"] "short_odd" (wName 0)))
  wNilS)
def c_Count_odd : Ct := ctOf ["self"] ["self"] (w_Count_odd)
section
variable {T : Tab} {P : Program} {w : World} {K : PySem.W.Frag} {mg : Str → Option Value} {base : Heap}
theorem Tx.ok_Count_odd (t : Tx T K mg) : FnOk P w K mg base CX0 1 t.a_Count_odd t.fd_Count_odd ["self"] (spC T K c_Count_odd) := by
  have nd := sc_Count_odd.nd
  exact fn_J t.F_Count_odd sc_Count_odd fun cdv A outer sh H E hr n => (jss_cons (js_ret (je_fld t.T_Count t.cl_Count t.no_Count_short_odd (je_name 0)))
  jss_nil)
end

def w_Sizes_odd (n : Nat) : WS := (wConsS (wRet n (wFld 1 ["short_period", "short_classes", "short_odd", "class_marks", "odd_marks"] "short_odd" (wName 0)))
  wNilS)
def c_Sizes_odd : Ct := ctOf ["self"] ["self"] (w_Sizes_odd)
section
variable {T : Tab} {P : Program} {w : World} {K : PySem.W.Frag} {mg : Str → Option Value} {base : Heap}
theorem Tx.ok_Sizes_odd (t : Tx T K mg) : FnOk P w K mg base CX0 1 t.a_Sizes_odd t.fd_Sizes_odd ["self"] (spC T K c_Sizes_odd) := by
  have nd := sc_Sizes_odd.nd
  exact fn_J t.F_Sizes_odd sc_Sizes_odd fun cdv A outer sh H E hr n => (jss_cons (js_ret (je_fld t.T_Sizes t.cl_Sizes t.no_Sizes_short_odd (je_name 0)))
  jss_nil)
end

def w_listed (n : Nat) : WS := (wConsS (wRet n (wIf (wBl (wTwo (wCb (wCons (wName 0) wNil) lenW) (wCon (.int 0)) gtW)) (wM1 joiW (wCon (.str "; ")) (wName 0)) (wCon (.str "-"))))
  wNilS)
def c_listed : Ct := ctOf ["words"] ["words"] (w_listed)
section
variable {T : Tab} {P : Program} {w : World} {K : PySem.W.Frag} {mg : Str → Option Value} {base : Heap}
theorem Tx.ok_listed (t : Tx T K mg) : FnOk P w K mg base CX0 1 t.a_listed t.fd_listed ["words"] (spC T K c_listed) := by
  have nd := sc_listed.nd
  exact fn_J t.F_listed sc_listed fun cdv A outer sh H E hr n => (jss_cons (js_ret (je_if (jt_cmp jc_gt (je_cb t.z_len jc_len (ja_cons (je_name 0) ja_nil)) je_int) (je_join je_str (je_name 0)) je_str))
  jss_nil)
end

def w_figures_end (n : Nat) : WS := (wConsS (wRet n (wTwo (wIf (wBl (wTwo (wName 0) (wCon (.int 0)) ltW)) (wCon (.str "-")) (wCon (.str ""))) (wM1 joiW (wCon (.str "")) (wRev (wName 2))) addW))
  wNilS)
def w_figures_last (n : Nat) : WS := (wConsS (wExpr (wApp (wName 2) (wCb (wCons (wName 1) wNil) strW1)))
  (wFrz 2 n (w_figures_end n)))
def w_figures_low (n : Nat) : WS := (wConsS (wAsg 3 (wCb (wCons (wTwo (wCb (wCons (wName 1) wNil) intW1) (wTwo (wCon (.int 10)) (wCon (.int 60)) powW) modW) wNil) strW1))
  (wConsS (wExpr (wApp (wName 2) (wTwo (wTwo (wCon (.str "0")) (wTwo (wCon (.int 60)) (wCb (wCons (wName 3) wNil) lenW) subW) mulW) (wName 3) addW)))
  (wConsS (wAsg 1 (wTwo (wName 1) (wTwo (wCon (.int 10)) (wCon (.int 60)) powW) fdivW))
  wNilS)))
def w_figures_loop (n : Nat) : WS := (wConsS (wWhile (wBl (wTwo (wName 1) (wTwo (wCon (.int 10)) (wCon (.int 60)) powW) geW))
  (w_figures_low n))
  (w_figures_last n))
def w_figures (n : Nat) : WS := (wConsS (wPar2 1 2 (wCons (wCb (wCons (wName 0) wNil) absW) (wCons (wLstC wNil) wNil)))
  (w_figures_loop n))
def c_figures : Ct := ctOf ["number", "rest", "pieces", "low"] ["number"] (w_figures)
section
variable {T : Tab} {P : Program} {w : World} {K : PySem.W.Frag} {mg : Str → Option Value} {base : Heap}
theorem Tx.ok_figures (t : Tx T K mg) : FnOk P w K mg base CX0 1 t.a_figures t.fd_figures ["number"] (spC T K c_figures) := by
  have nd := sc_figures.nd
  exact fn_J t.F_figures sc_figures fun cdv A outer sh H E hr n => (jss_cons (js_par2 1 2 nd (ja_cons (je_cb t.z_abs jc_abs (ja_cons (je_name 0) ja_nil)) (ja_cons (je_lstC ja_nil) ja_nil)))
  (jss_cons (js_while PassesOwn.never (jt_cmp jc_ge (je_name 1) (je_bin jb_pow je_int je_int))
  (jss_cons (js_asg 3 nd (je_cb t.z_str jc_str (ja_cons (je_bin jb_mod (je_cb t.z_int jc_int (ja_cons (je_name 1) ja_nil)) (je_bin jb_pow je_int je_int)) ja_nil)))
  (jss_cons (js_expr (je_app (je_name 2) (je_bin jb_add (je_bin jb_mul je_str (je_bin jb_sub je_int (je_cb t.z_len jc_len (ja_cons (je_name 3) ja_nil)))) (je_name 3))))
  (jss_cons (js_asg 1 nd (je_bin jb_fdiv (je_name 1) (je_bin jb_pow je_int je_int)))
  jss_nil))))
  (jss_cons (js_expr (je_app (je_name 2) (je_cb t.z_str jc_str (ja_cons (je_name 1) ja_nil))))
  (jss_frz 2 (jss_cons (js_ret (je_bin jb_add (je_if (jt_cmp jc_lt (je_name 0) je_int) je_str je_str) (je_join je_str (je_rev (je_name 2)))))
  jss_nil)))))
end

def w_spaced (n : Nat) : WS := (wConsS (wRet n (wIf (wBl (wTwo (wCb (wCons (wName 0) wNil) lenW) (wCon (.int 0)) gtW)) (wM1 joiW (wCon (.str " ")) (wLc (wItems (wName 0)) (.nm 1) wYes (wFn c_figures (wCons (wName 1) wNil)) [1])) (wCon (.str "-"))))
  wNilS)
def c_spaced : Ct := ctOf ["numbers", "number"] ["numbers"] (w_spaced)
section
variable {T : Tab} {P : Program} {w : World} {K : PySem.W.Frag} {mg : Str → Option Value} {base : Heap}
theorem Tx.ok_spaced (t : Tx T K mg) : FnOk P w K mg base CX0 2 t.a_spaced t.fd_spaced ["numbers"] (spC T K c_spaced) := by
  have nd := sc_spaced.nd
  exact fn_J t.F_spaced sc_spaced fun cdv A outer sh H E hr n => (jss_cons (js_ret (je_if (jt_cmp jc_gt (je_cb t.z_len jc_len (ja_cons (je_name 0) ja_nil)) je_int) (je_join je_str (je_lc nd ⟨(ji_val (je_name 0)), blkOk_by (own := [("number", 1)]) (by kernel_rfl), fun _ _ _ _ _ => (dg_name 1 nd), fun _ _ _ _ _ => jts_nil, fun _ _ _ _ _ => (je_call t.ok_figures (hr.mono (by decide)) t.m_figures t.F_figures.kp t.b_figures (ja_cons (je_name 1) ja_nil)), by decide⟩)) je_str))
  jss_nil)
end

def w_show_count (n : Nat) : WS := (wConsS (wAsg 1 (wLc (wItems (wPro 0 c_Count_parts (wName 0))) (.tp [(.nm 2), (.nm 3)]) wYes (wJoin [(wFmt (wFn c_figures (wCons (wName 2) wNil))), (wCon (.str ": ")), (wFmt (wFn c_spaced (wCons (wName 3) wNil)))]) [2, 3]))
  (wConsS (wAsg 4 (wLc (wItems (wPro 0 c_Count_odd (wName 0))) (.tp [(.nm 2), (.nm 5)]) wYes (wJoin [(wFmt (wFn c_figures (wCons (wName 2) wNil))), (wCon (.str ": ")), (wFmt (wFn c_figures (wCons (wName 5) wNil)))]) [2, 5]))
  (wConsS (wRet n (wJoin [(wFmt (wFn c_listed (wCons (wName 1) wNil))), (wCon (.str " | ")), (wFmt (wFn c_listed (wCons (wName 4) wNil)))]))
  wNilS)))
def c_show_count : Ct := ctOf ["count", "parts", "size", "coefficients", "odd", "number"] ["count"] (w_show_count)
section
variable {T : Tab} {P : Program} {w : World} {K : PySem.W.Frag} {mg : Str → Option Value} {base : Heap}
theorem Tx.ok_show_count (t : Tx T K mg) : FnOk P w K mg base CX0 3 t.a_show_count t.fd_show_count ["count"] (spC T K c_show_count) := by
  have nd := sc_show_count.nd
  exact fn_J t.F_show_count sc_show_count fun cdv A outer sh H E hr n => (jss_cons (js_lc 1 nd ⟨(ji_val (je_prop t.T_Count t.cl_Count t.P_Count_parts t.ok_Count_parts (hr.mono (by decide)) t.b_Count_parts (je_name 0))), blkOk_by (own := [("size", 2), ("coefficients", 3)]) (by kernel_rfl), fun _ _ _ _ _ => (dg_tup rfl (dgs_cons (dg_name 2 nd) (dgs_cons (dg_name 3 nd) dgs_nil))), fun _ _ _ _ _ => jts_nil, fun _ _ _ _ _ => (je_joined (JP.cons (je_fmt (je_call t.ok_figures (hr.mono (by decide)) t.m_figures t.F_figures.kp t.b_figures (ja_cons (je_name 2) ja_nil))) (JP.cons je_str (JP.cons (je_fmt (je_call t.ok_spaced (hr.mono (by decide)) t.m_spaced t.F_spaced.kp t.b_spaced (ja_cons (je_name 3) ja_nil))) JP.nil)))), by decide⟩)
  (jss_cons (js_lc 4 nd ⟨(ji_val (je_prop t.T_Count t.cl_Count t.P_Count_odd t.ok_Count_odd (hr.mono (by decide)) t.b_Count_odd (je_name 0))), blkOk_by (own := [("size", 2), ("number", 5)]) (by kernel_rfl), fun _ _ _ _ _ => (dg_tup rfl (dgs_cons (dg_name 2 nd) (dgs_cons (dg_name 5 nd) dgs_nil))), fun _ _ _ _ _ => jts_nil, fun _ _ _ _ _ => (je_joined (JP.cons (je_fmt (je_call t.ok_figures (hr.mono (by decide)) t.m_figures t.F_figures.kp t.b_figures (ja_cons (je_name 2) ja_nil))) (JP.cons je_str (JP.cons (je_fmt (je_call t.ok_figures (hr.mono (by decide)) t.m_figures t.F_figures.kp t.b_figures (ja_cons (je_name 5) ja_nil))) JP.nil)))), by decide⟩)
  (jss_cons (js_ret (je_joined (JP.cons (je_fmt (je_call t.ok_listed (hr.mono (by decide)) t.m_listed t.F_listed.kp t.b_listed (ja_cons (je_name 1) ja_nil))) (JP.cons je_str (JP.cons (je_fmt (je_call t.ok_listed (hr.mono (by decide)) t.m_listed t.F_listed.kp t.b_listed (ja_cons (je_name 4) ja_nil))) JP.nil)))))
  jss_nil)))
end

def w_number_told_loop (n : Nat) : WS := (wConsS (wFor (wRng3 (wCons (wName 1) (wCons (wCb (wCons (wName 0) wNil) lenW) (wCons (wCon (.int 60)) wNil)))) (.nm 3)
  (wConsS (wAsg 2 (wTwo (wTwo (wName 2) (wTwo (wCon (.int 10)) (wCon (.int 60)) powW) mulW) (wCb (wCons (wSlcS (wName 0) (wO1 (wName 3)) (wO1 (wTwo (wName 3) (wCon (.int 60)) addW))) wNil) intW1) addW))
  wNilS))
  (wConsS (wRet n (wName 2))
  wNilS))
def w_number_told (n : Nat) : WS := (wConsS (wAsg 1 (wTwo (wCb (wCons (wName 0) wNil) lenW) (wCon (.int 60)) modW))
  (wConsS (wAsg 2 (wIf (wBl (wTwo (wName 1) (wCon (.int 0)) gtW)) (wCb (wCons (wSlcS (wName 0) wO0 (wO1 (wName 1))) wNil) intW1) (wCon (.int 0))))
  (w_number_told_loop n)))
def c_number_told : Ct := ctOf ["text", "begun", "found", "at"] ["text"] (w_number_told)
section
variable {T : Tab} {P : Program} {w : World} {K : PySem.W.Frag} {mg : Str → Option Value} {base : Heap}
theorem Tx.ok_number_told (t : Tx T K mg) : FnOk P w K mg base CX0 1 t.a_number_told t.fd_number_told ["text"] (spC T K c_number_told) := by
  have nd := sc_number_told.nd
  exact fn_J t.F_number_told sc_number_told fun cdv A outer sh H E hr n => (jss_cons (js_asg 1 nd (je_bin jb_mod (je_cb t.z_len jc_len (ja_cons (je_name 0) ja_nil)) je_int))
  (jss_cons (js_asg 2 nd (je_if (jt_cmp jc_gt (je_name 1) je_int) (je_cb t.z_int jc_int (ja_cons (je_sliceS (je_name 0) jo_none (jo_some (je_name 1))) ja_nil)) je_int))
  (jss_cons (js_for PassesOwn.never (ji_range3 t.z_range (ja_cons (je_name 1) (ja_cons (je_cb t.z_len jc_len (ja_cons (je_name 0) ja_nil)) (ja_cons je_int ja_nil)))) (dg_name 3 nd)
  (jss_cons (js_asg 2 nd (je_bin jb_add (je_bin jb_mul (je_name 2) (je_bin jb_pow je_int je_int)) (je_cb t.z_int jc_int (ja_cons (je_sliceS (je_name 0) (jo_some (je_name 3)) (jo_some (je_bin jb_add (je_name 3) je_int))) ja_nil))))
  jss_nil))
  (jss_cons (js_ret (je_name 2))
  jss_nil))))
end

def w_integer_of (n : Nat) : WS := (wConsS (wAsg 1 (wM1 rmpW (wName 0) (wCon (.str "-"))))
  (wConsS (wIfS (wOrT (wBl (wTwo (wCb (wCons (wName 1) wNil) lenW) (wCon (.int 0)) (eqW false))) (wTru (wCb (wCons (wLc (wItemsS (wName 1)) (.nm 2) wYes (wTwo (wName 2) (wCon (.str "0123456789")) (inSW true)) [2]) wNil) anyW)))
  (wConsS (wRaise1 4 (wCon (.int 0)))
  wNilS)
  wNilS)
  (wConsS (wRet n (wIf (wBl (wTwo (wName 1) (wName 0) (eqW false))) (wFn c_number_told (wCons (wName 1) wNil)) (wTwo (wCon (.int 0)) (wFn c_number_told (wCons (wName 1) wNil)) subW)))
  wNilS)))
def c_integer_of : Ct := ctOf ["word", "digits", "sign"] ["word"] (w_integer_of)
def c_integer_ofX : CtX := ctXOf ["word", "digits", "sign"] ["word"] (w_integer_of)
section
variable {T : Tab} {P : Program} {w : World} {K : PySem.W.Frag} {mg : Str → Option Value} {base : Heap}
theorem Tx.ok_integer_of (t : Tx T K mg) : FnOk P w K mg base (L2N.CX P w) 3 t.a_integer_of t.fd_integer_of ["word"] (spX T K c_integer_of c_integer_ofX) := by
  have nd := sc_integer_of.nd
  exact fn_JXN t.F_integer_of sc_integer_of ⟨fun cdv A outer sh H E hr n => (jss_cons (js_asg 1 nd (je_rmp (je_name 0) je_str))
  (jss_cons (js_if (JW.jt (jw_or (jt_cmp (jc_eq hr.units) (je_cb t.z_len jc_len (ja_cons (je_name 1) ja_nil)) je_int) (jw_or1 (jt_val (je_cb t.z_any (jc_any rfl) (ja_cons (je_lc nd ⟨(ji_str (je_name 1)), blkOk_by (own := [("sign", 2)]) (by kernel_rfl), fun _ _ _ _ _ => (dg_name 2 nd), fun _ _ _ _ _ => jts_nil, fun _ _ _ _ _ => (je_cmp jc_notinS (je_name 2) (je_gstr t.g_FIGURES)), by decide⟩) ja_nil))))))
  (jss_cons (js_raise1N tkn0 t.o_InvalidText t.at_InvalidText___init__ t.ty_InvalidText___init__ t.ok_InvalidText___init__ (hr.mono (by decide)) t.b_InvalidText___init__ t.m_InvalidText t.T_InvalidText je_int)
  jss_nil)
  jss_nil)
  (jss_cons (js_ret (je_if (jt_cmp (jc_eq hr.units) (je_name 1) (je_name 0)) (je_call t.ok_number_told (hr.mono (by decide)) t.m_number_told t.F_number_told.kp t.b_number_told (ja_cons (je_name 1) ja_nil)) (je_bin jb_sub je_int (je_call t.ok_number_told (hr.mono (by decide)) t.m_number_told t.F_number_told.kp t.b_number_told (ja_cons (je_name 1) ja_nil)))))
  jss_nil))), fun cdv A outer sh H E hr tk n => (jss_cons (js_asg 1 nd (je_rmp (je_name 0) je_str))
  (jss_cons (js_if (JW.jt (jw_or (jt_cmp (jc_eq hr.units) (je_cb t.z_len jc_len (ja_cons (je_name 1) ja_nil)) je_int) (jw_or1 (jt_val (je_cb t.z_any (jc_any rfl) (ja_cons (je_lc nd ⟨(ji_str (je_name 1)), blkOk_by (own := [("sign", 2)]) (by kernel_rfl), fun _ _ _ _ _ => (dg_name 2 nd), fun _ _ _ _ _ => jts_nil, fun _ _ _ _ _ => (je_cmp jc_notinS (je_name 2) (je_gstr t.g_FIGURES)), by decide⟩) ja_nil))))))
  (jss_cons (js_raise1N tk t.o_InvalidText t.at_InvalidText___init__ t.ty_InvalidText___init__ t.ok_InvalidText___init__ (hr.mono (by decide)) t.b_InvalidText___init__ t.m_InvalidText t.T_InvalidText je_int)
  jss_nil)
  jss_nil)
  (jss_cons (js_ret (je_if (jt_cmp (jc_eq hr.units) (je_name 1) (je_name 0)) (je_call t.ok_number_told (hr.mono (by decide)) t.m_number_told t.F_number_told.kp t.b_number_told (ja_cons (je_name 1) ja_nil)) (je_bin jb_sub je_int (je_call t.ok_number_told (hr.mono (by decide)) t.m_number_told t.F_number_told.kp t.b_number_told (ja_cons (je_name 1) ja_nil)))))
  jss_nil)))⟩
end

def w_integers_of (n : Nat) : WS := (wConsS (wIfS (wBl (wTwo (wName 0) (wCon (.str "-")) (eqW false)))
  (wConsS (wRet n (wTup wNil))
  wNilS)
  wNilS)
  (wConsS (wRet n (wCb (wCons (wLcX (wItems (wM1 splW (wName 0) (wCon (.str " ")))) (.nm 1) wYes (wFnX c_integer_of c_integer_ofX (wCons (wName 1) wNil)) [1]) wNil) tupleW))
  wNilS))
def c_integers_of : Ct := ctOf ["text", "word"] ["text"] (w_integers_of)
def c_integers_ofX : CtX := ctXOf ["text", "word"] ["text"] (w_integers_of)
section
variable {T : Tab} {P : Program} {w : World} {K : PySem.W.Frag} {mg : Str → Option Value} {base : Heap}
theorem Tx.ok_integers_of (t : Tx T K mg) : FnOk P w K mg base (L2N.CX P w) 4 t.a_integers_of t.fd_integers_of ["text"] (spX T K c_integers_of c_integers_ofX) := by
  have nd := sc_integers_of.nd
  exact fn_JXN t.F_integers_of sc_integers_of ⟨fun cdv A outer sh H E hr n => (jss_cons (js_if (jt_cmp (jc_eq hr.units) (je_name 0) je_str)
  (jss_cons (js_ret (je_tup ja_nil))
  jss_nil)
  jss_nil)
  (jss_cons (js_ret (je_cb t.z_tuple jc_tuple (ja_cons (je_lcX tkn0 nd ⟨(ji_val (je_split (je_name 0) je_str)), blkOk_by (own := [("word", 1)]) (by kernel_rfl), fun _ _ _ _ _ => (dg_name 1 nd), fun _ _ _ _ _ => jts_nil, fun _ _ _ _ _ _ _ hx_ => (je_callXN hx_ t.ok_integer_of (hr.mono (by decide)) t.m_integer_of t.F_integer_of.kp t.b_integer_of (ja_cons (je_name 1) ja_nil)), by decide⟩) ja_nil)))
  jss_nil)), fun cdv A outer sh H E hr tk n => (jss_cons (js_if (jt_cmp (jc_eq hr.units) (je_name 0) je_str)
  (jss_cons (js_ret (je_tup ja_nil))
  jss_nil)
  jss_nil)
  (jss_cons (js_ret (je_cb t.z_tuple jc_tuple (ja_cons (je_lcX tk nd ⟨(ji_val (je_split (je_name 0) je_str)), blkOk_by (own := [("word", 1)]) (by kernel_rfl), fun _ _ _ _ _ => (dg_name 1 nd), fun _ _ _ _ _ => jts_nil, fun _ _ _ _ _ _ _ hx_ => (je_callXN hx_ t.ok_integer_of (hr.mono (by decide)) t.m_integer_of t.F_integer_of.kp t.b_integer_of (ja_cons (je_name 1) ja_nil)), by decide⟩) ja_nil)))
  jss_nil))⟩
end

def w_pair_of (n : Nat) : WS := (wConsS (wStar2L 1 2 (wM1 splW (wName 0) (wCon (.str ": "))))
  (wConsS (wIfS (wBl (wTwo (wCb (wCons (wName 2) wNil) lenW) (wCon (.int 1)) (eqW true)))
  (wConsS (wRaise1 4 (wCon (.int 0)))
  wNilS)
  wNilS)
  (wConsS (wRet n (wTup (wCons (wFnX c_integer_of c_integer_ofX (wCons (wName 1) wNil)) (wCons (wFnX c_integers_of c_integers_ofX (wCons (wTwo (wName 2) (wCon (.int 0)) ixW) wNil)) wNil))))
  wNilS)))
def c_pair_of : Ct := ctOf ["text", "ahead", "behind"] ["text"] (w_pair_of)
def c_pair_ofX : CtX := ctXOf ["text", "ahead", "behind"] ["text"] (w_pair_of)
section
variable {T : Tab} {P : Program} {w : World} {K : PySem.W.Frag} {mg : Str → Option Value} {base : Heap}
theorem Tx.ok_pair_of (t : Tx T K mg) : FnOk P w K mg base (L2N.CX P w) 5 t.a_pair_of t.fd_pair_of ["text"] (spX T K c_pair_of c_pair_ofX) := by
  have nd := sc_pair_of.nd
  exact fn_JXN t.F_pair_of sc_pair_of ⟨fun cdv A outer sh H E hr n => (jss_cons (js_star2L 1 2 nd (je_split (je_name 0) je_str))
  (jss_cons (js_if (jt_cmp (jc_ne hr.units) (je_cb t.z_len jc_len (ja_cons (je_name 2) ja_nil)) je_int)
  (jss_cons (js_raise1N tkn0 t.o_InvalidText t.at_InvalidText___init__ t.ty_InvalidText___init__ t.ok_InvalidText___init__ (hr.mono (by decide)) t.b_InvalidText___init__ t.m_InvalidText t.T_InvalidText je_int)
  jss_nil)
  jss_nil)
  (jss_cons (js_ret (je_tup (ja_cons (je_callXN (L2N.passAt tkn0) t.ok_integer_of (hr.mono (by decide)) t.m_integer_of t.F_integer_of.kp t.b_integer_of (ja_cons (je_name 1) ja_nil)) (ja_cons (je_callXN (L2N.passAt tkn0) t.ok_integers_of (hr.mono (by decide)) t.m_integers_of t.F_integers_of.kp t.b_integers_of (ja_cons (je_sub ji_ix (je_name 2) je_int) ja_nil)) ja_nil))))
  jss_nil))), fun cdv A outer sh H E hr tk n => (jss_cons (js_star2L 1 2 nd (je_split (je_name 0) je_str))
  (jss_cons (js_if (jt_cmp (jc_ne hr.units) (je_cb t.z_len jc_len (ja_cons (je_name 2) ja_nil)) je_int)
  (jss_cons (js_raise1N tk t.o_InvalidText t.at_InvalidText___init__ t.ty_InvalidText___init__ t.ok_InvalidText___init__ (hr.mono (by decide)) t.b_InvalidText___init__ t.m_InvalidText t.T_InvalidText je_int)
  jss_nil)
  jss_nil)
  (jss_cons (js_ret (je_tup (ja_cons (je_callXN (L2N.passAt tk) t.ok_integer_of (hr.mono (by decide)) t.m_integer_of t.F_integer_of.kp t.b_integer_of (ja_cons (je_name 1) ja_nil)) (ja_cons (je_callXN (L2N.passAt tk) t.ok_integers_of (hr.mono (by decide)) t.m_integers_of t.F_integers_of.kp t.b_integers_of (ja_cons (je_sub ji_ix (je_name 2) je_int) ja_nil)) ja_nil))))
  jss_nil)))⟩
end

def w_pairs_of (n : Nat) : WS := (wConsS (wIfS (wBl (wTwo (wName 0) (wCon (.str "-")) (eqW false)))
  (wConsS (wRet n (wTup wNil))
  wNilS)
  wNilS)
  (wConsS (wRet n (wCb (wCons (wLcX (wItems (wM1 splW (wName 0) (wCon (.str "; ")))) (.nm 1) wYes (wFnX c_pair_of c_pair_ofX (wCons (wName 1) wNil)) [1]) wNil) tupleW))
  wNilS))
def c_pairs_of : Ct := ctOf ["text", "word"] ["text"] (w_pairs_of)
def c_pairs_ofX : CtX := ctXOf ["text", "word"] ["text"] (w_pairs_of)
section
variable {T : Tab} {P : Program} {w : World} {K : PySem.W.Frag} {mg : Str → Option Value} {base : Heap}
theorem Tx.ok_pairs_of (t : Tx T K mg) : FnOk P w K mg base (L2N.CX P w) 6 t.a_pairs_of t.fd_pairs_of ["text"] (spX T K c_pairs_of c_pairs_ofX) := by
  have nd := sc_pairs_of.nd
  exact fn_JXN t.F_pairs_of sc_pairs_of ⟨fun cdv A outer sh H E hr n => (jss_cons (js_if (jt_cmp (jc_eq hr.units) (je_name 0) je_str)
  (jss_cons (js_ret (je_tup ja_nil))
  jss_nil)
  jss_nil)
  (jss_cons (js_ret (je_cb t.z_tuple jc_tuple (ja_cons (je_lcX tkn0 nd ⟨(ji_val (je_split (je_name 0) je_str)), blkOk_by (own := [("word", 1)]) (by kernel_rfl), fun _ _ _ _ _ => (dg_name 1 nd), fun _ _ _ _ _ => jts_nil, fun _ _ _ _ _ _ _ hx_ => (je_callXN hx_ t.ok_pair_of (hr.mono (by decide)) t.m_pair_of t.F_pair_of.kp t.b_pair_of (ja_cons (je_name 1) ja_nil)), by decide⟩) ja_nil)))
  jss_nil)), fun cdv A outer sh H E hr tk n => (jss_cons (js_if (jt_cmp (jc_eq hr.units) (je_name 0) je_str)
  (jss_cons (js_ret (je_tup ja_nil))
  jss_nil)
  jss_nil)
  (jss_cons (js_ret (je_cb t.z_tuple jc_tuple (ja_cons (je_lcX tk nd ⟨(ji_val (je_split (je_name 0) je_str)), blkOk_by (own := [("word", 1)]) (by kernel_rfl), fun _ _ _ _ _ => (dg_name 1 nd), fun _ _ _ _ _ => jts_nil, fun _ _ _ _ _ _ _ hx_ => (je_callXN hx_ t.ok_pair_of (hr.mono (by decide)) t.m_pair_of t.F_pair_of.kp t.b_pair_of (ja_cons (je_name 1) ja_nil)), by decide⟩) ja_nil)))
  jss_nil))⟩
end

def w_odd_of (n : Nat) : WS := (wConsS (wIfS (wTru (wCb (wCons (wLc (wItems (wName 0)) (.tp [(.nm 1), (.nm 2)]) wYes (wTwo (wCb (wCons (wName 2) wNil) lenW) (wCon (.int 1)) (eqW true)) [1, 2]) wNil) anyW))
  (wConsS (wRaise1 4 (wCon (.int 0)))
  wNilS)
  wNilS)
  (wConsS (wRet n (wCb (wCons (wLc (wItems (wName 0)) (.tp [(.nm 1), (.nm 2)]) wYes (wTup (wCons (wName 1) (wCons (wTwo (wName 2) (wCon (.int 0)) ixW) wNil))) [1, 2]) wNil) tupleW))
  wNilS))
def c_odd_of : Ct := ctOf ["pairs", "size", "numbers"] ["pairs"] (w_odd_of)
def c_odd_ofX : CtX := ctXOf ["pairs", "size", "numbers"] ["pairs"] (w_odd_of)
section
variable {T : Tab} {P : Program} {w : World} {K : PySem.W.Frag} {mg : Str → Option Value} {base : Heap}
theorem Tx.ok_odd_of (t : Tx T K mg) : FnOk P w K mg base (L2N.CX P w) 3 t.a_odd_of t.fd_odd_of ["pairs"] (spX T K c_odd_of c_odd_ofX) := by
  have nd := sc_odd_of.nd
  exact fn_JXN t.F_odd_of sc_odd_of ⟨fun cdv A outer sh H E hr n => (jss_cons (js_if (jt_val (je_cb t.z_any (jc_any rfl) (ja_cons (je_lc nd ⟨(ji_val (je_name 0)), blkOk_by (own := [("size", 1), ("numbers", 2)]) (by kernel_rfl), fun _ _ _ _ _ => (dg_tup rfl (dgs_cons (dg_name 1 nd) (dgs_cons (dg_name 2 nd) dgs_nil))), fun _ _ _ _ _ => jts_nil, fun _ _ _ _ _ => (je_cmp (jc_ne hr.units) (je_cb t.z_len jc_len (ja_cons (je_name 2) ja_nil)) je_int), by decide⟩) ja_nil)))
  (jss_cons (js_raise1N tkn0 t.o_InvalidText t.at_InvalidText___init__ t.ty_InvalidText___init__ t.ok_InvalidText___init__ (hr.mono (by decide)) t.b_InvalidText___init__ t.m_InvalidText t.T_InvalidText je_int)
  jss_nil)
  jss_nil)
  (jss_cons (js_ret (je_cb t.z_tuple jc_tuple (ja_cons (je_lc nd ⟨(ji_val (je_name 0)), blkOk_by (own := [("size", 1), ("numbers", 2)]) (by kernel_rfl), fun _ _ _ _ _ => (dg_tup rfl (dgs_cons (dg_name 1 nd) (dgs_cons (dg_name 2 nd) dgs_nil))), fun _ _ _ _ _ => jts_nil, fun _ _ _ _ _ => (je_tup (ja_cons (je_name 1) (ja_cons (je_sub ji_ix (je_name 2) je_int) ja_nil))), by decide⟩) ja_nil)))
  jss_nil)), fun cdv A outer sh H E hr tk n => (jss_cons (js_if (jt_val (je_cb t.z_any (jc_any rfl) (ja_cons (je_lc nd ⟨(ji_val (je_name 0)), blkOk_by (own := [("size", 1), ("numbers", 2)]) (by kernel_rfl), fun _ _ _ _ _ => (dg_tup rfl (dgs_cons (dg_name 1 nd) (dgs_cons (dg_name 2 nd) dgs_nil))), fun _ _ _ _ _ => jts_nil, fun _ _ _ _ _ => (je_cmp (jc_ne hr.units) (je_cb t.z_len jc_len (ja_cons (je_name 2) ja_nil)) je_int), by decide⟩) ja_nil)))
  (jss_cons (js_raise1N tk t.o_InvalidText t.at_InvalidText___init__ t.ty_InvalidText___init__ t.ok_InvalidText___init__ (hr.mono (by decide)) t.b_InvalidText___init__ t.m_InvalidText t.T_InvalidText je_int)
  jss_nil)
  jss_nil)
  (jss_cons (js_ret (je_cb t.z_tuple jc_tuple (ja_cons (je_lc nd ⟨(ji_val (je_name 0)), blkOk_by (own := [("size", 1), ("numbers", 2)]) (by kernel_rfl), fun _ _ _ _ _ => (dg_tup rfl (dgs_cons (dg_name 1 nd) (dgs_cons (dg_name 2 nd) dgs_nil))), fun _ _ _ _ _ => jts_nil, fun _ _ _ _ _ => (je_tup (ja_cons (je_name 1) (ja_cons (je_sub ji_ix (je_name 2) je_int) ja_nil))), by decide⟩) ja_nil)))
  jss_nil))⟩
end

def w_read_count (n : Nat) : WS := (wConsS (wAsg 1 (wM1 splW (wName 0) (wCon (.str " | "))))
  (wConsS (wIfS (wBl (wTwo (wCb (wCons (wName 1) wNil) lenW) (wCon (.int 2)) (eqW true)))
  (wConsS (wRaise1 4 (wCon (.int 0)))
  wNilS)
  wNilS)
  (wConsS (wTryF mt_InvalidCount 4 (wConsS (wAsg 2 (wMakeKX 0 ["short_parts", "short_odd"] c_Count___init__ c_Count___init__X 2 0 fu_Count_2_ (wCons (wFnX c_pairs_of c_pairs_ofX (wCons (wTwo (wName 1) (wCon (.int 0)) ixW) wNil)) (wCons (wFnX c_odd_of c_odd_ofX (wCons (wFnX c_pairs_of c_pairs_ofX (wCons (wTwo (wName 1) (wCon (.int 1)) ixW) wNil)) wNil)) wNil)) wNil))
  wNilS) (wCon (.int 0)))
  (wConsS (wIfS (wBl (wTwo (wFn c_show_count (wCons (wName 2) wNil)) (wName 0) (eqW true)))
  (wConsS (wRaise1 4 (wCon (.int 0)))
  wNilS)
  wNilS)
  (wConsS (wRet n (wName 2))
  wNilS)))))
def c_read_count : Ct := ctOf ["text", "words", "found"] ["text"] (w_read_count)
def c_read_countX : CtX := ctXOf ["text", "words", "found"] ["text"] (w_read_count)
section
variable {T : Tab} {P : Program} {w : World} {K : PySem.W.Frag} {mg : Str → Option Value} {base : Heap}
theorem Tx.ok_read_count (t : Tx T K mg) : FnOk P w K mg base (L2.CX P w) 7 t.a_read_count t.fd_read_count ["text"] (spX T K c_read_count c_read_countX) := by
  have nd := sc_read_count.nd
  exact fn_JX t.F_read_count sc_read_count (fun cdv A outer sh H E hr n => (jss_cons (js_asg 1 nd (je_split (je_name 0) je_str))
  (jss_cons (js_if (jt_cmp (jc_ne hr.units) (je_cb t.z_len jc_len (ja_cons (je_name 1) ja_nil)) je_int)
  (jss_cons (js_raise1 tk0 t.o_InvalidText t.at_InvalidText___init__ t.ty_InvalidText___init__ t.ok_InvalidText___init__ (hr.mono (by decide)) t.b_InvalidText___init__ t.m_InvalidText t.T_InvalidText je_int)
  jss_nil)
  jss_nil)
  (jss_cons (js_tryF tk0 (fun _ => PassesOwnAt.never) (And.intro rfl (And.intro (by decide) (Or.inl t.m_InvalidCount))) t.mt_of_InvalidCount (fun V_ pn_ xe_ tk_ po_ => (jss_cons (js_asg 2 nd (je_makeKXN tk_ t.T_Count t.K_Count t.ok_Count___init__ (hr.mono (by decide)) t.m_Count t.kb_Count_2_ t.put_Count_2_ (ja_cons (je_callXN (L2N.passAt tk_) t.ok_pairs_of (hr.mono (by decide)) t.m_pairs_of t.F_pairs_of.kp t.b_pairs_of (ja_cons (je_sub ji_ix (je_name 1) je_int) ja_nil)) (ja_cons (je_callXN (L2N.passAt tk_) t.ok_odd_of (hr.mono (by decide)) t.m_odd_of t.F_odd_of.kp t.b_odd_of (ja_cons (je_callXN (L2N.passAt tk_) t.ok_pairs_of (hr.mono (by decide)) t.m_pairs_of t.F_pairs_of.kp t.b_pairs_of (ja_cons (je_sub ji_ix (je_name 1) je_int) ja_nil)) ja_nil)) ja_nil)) jk_nil))
  jss_nil)) t.o_InvalidText t.at_InvalidText___init__ t.ty_InvalidText___init__ t.okH_InvalidText___init__ (hr.mono (by decide)) t.b_InvalidText___init__ t.m_InvalidText t.T_InvalidText (fun _ _ => je_int))
  (jss_cons (js_if (jt_cmp (jc_ne hr.units) (je_call t.ok_show_count (hr.mono (by decide)) t.m_show_count t.F_show_count.kp t.b_show_count (ja_cons (je_name 2) ja_nil)) (je_name 0))
  (jss_cons (js_raise1 tk0 t.o_InvalidText t.at_InvalidText___init__ t.ty_InvalidText___init__ t.ok_InvalidText___init__ (hr.mono (by decide)) t.b_InvalidText___init__ t.m_InvalidText t.T_InvalidText je_int)
  jss_nil)
  jss_nil)
  (jss_cons (js_ret (je_name 2))
  jss_nil)))))) (fun cdv A outer sh H E hr tk n => (jss_cons (js_asg 1 nd (je_split (je_name 0) je_str))
  (jss_cons (js_if (jt_cmp (jc_ne hr.units) (je_cb t.z_len jc_len (ja_cons (je_name 1) ja_nil)) je_int)
  (jss_cons (js_raise1 tk t.o_InvalidText t.at_InvalidText___init__ t.ty_InvalidText___init__ t.ok_InvalidText___init__ (hr.mono (by decide)) t.b_InvalidText___init__ t.m_InvalidText t.T_InvalidText je_int)
  jss_nil)
  jss_nil)
  (jss_cons (js_tryF tk (L2H.passesAt_of rfl) (And.intro rfl (And.intro (by decide) (Or.inl t.m_InvalidCount))) t.mt_of_InvalidCount (fun V_ pn_ xe_ tk_ po_ => (jss_cons (js_asg 2 nd (je_makeKXN tk_ t.T_Count t.K_Count t.ok_Count___init__ (hr.mono (by decide)) t.m_Count t.kb_Count_2_ t.put_Count_2_ (ja_cons (je_callXN (L2N.passAt tk_) t.ok_pairs_of (hr.mono (by decide)) t.m_pairs_of t.F_pairs_of.kp t.b_pairs_of (ja_cons (je_sub ji_ix (je_name 1) je_int) ja_nil)) (ja_cons (je_callXN (L2N.passAt tk_) t.ok_odd_of (hr.mono (by decide)) t.m_odd_of t.F_odd_of.kp t.b_odd_of (ja_cons (je_callXN (L2N.passAt tk_) t.ok_pairs_of (hr.mono (by decide)) t.m_pairs_of t.F_pairs_of.kp t.b_pairs_of (ja_cons (je_sub ji_ix (je_name 1) je_int) ja_nil)) ja_nil)) ja_nil)) jk_nil))
  jss_nil)) t.o_InvalidText t.at_InvalidText___init__ t.ty_InvalidText___init__ t.okH_InvalidText___init__ (hr.mono (by decide)) t.b_InvalidText___init__ t.m_InvalidText t.T_InvalidText (fun _ _ => je_int))
  (jss_cons (js_if (jt_cmp (jc_ne hr.units) (je_call t.ok_show_count (hr.mono (by decide)) t.m_show_count t.F_show_count.kp t.b_show_count (ja_cons (je_name 2) ja_nil)) (je_name 0))
  (jss_cons (js_raise1 tk t.o_InvalidText t.at_InvalidText___init__ t.ty_InvalidText___init__ t.ok_InvalidText___init__ (hr.mono (by decide)) t.b_InvalidText___init__ t.m_InvalidText t.T_InvalidText je_int)
  jss_nil)
  jss_nil)
  (jss_cons (js_ret (je_name 2))
  jss_nil))))))
end

def w_Sizes_period (n : Nat) : WS := (wConsS (wRet n (wFld 1 ["short_period", "short_classes", "short_odd", "class_marks", "odd_marks"] "short_period" (wName 0)))
  wNilS)
def c_Sizes_period : Ct := ctOf ["self"] ["self"] (w_Sizes_period)
section
variable {T : Tab} {P : Program} {w : World} {K : PySem.W.Frag} {mg : Str → Option Value} {base : Heap}
theorem Tx.ok_Sizes_period (t : Tx T K mg) : FnOk P w K mg base CX0 1 t.a_Sizes_period t.fd_Sizes_period ["self"] (spC T K c_Sizes_period) := by
  have nd := sc_Sizes_period.nd
  exact fn_J t.F_Sizes_period sc_Sizes_period fun cdv A outer sh H E hr n => (jss_cons (js_ret (je_fld t.T_Sizes t.cl_Sizes t.no_Sizes_short_period (je_name 0)))
  jss_nil)
end

def w_Sizes_classes (n : Nat) : WS := (wConsS (wRet n (wFld 1 ["short_period", "short_classes", "short_odd", "class_marks", "odd_marks"] "short_classes" (wName 0)))
  wNilS)
def c_Sizes_classes : Ct := ctOf ["self"] ["self"] (w_Sizes_classes)
section
variable {T : Tab} {P : Program} {w : World} {K : PySem.W.Frag} {mg : Str → Option Value} {base : Heap}
theorem Tx.ok_Sizes_classes (t : Tx T K mg) : FnOk P w K mg base CX0 1 t.a_Sizes_classes t.fd_Sizes_classes ["self"] (spC T K c_Sizes_classes) := by
  have nd := sc_Sizes_classes.nd
  exact fn_J t.F_Sizes_classes sc_Sizes_classes fun cdv A outer sh H E hr n => (jss_cons (js_ret (je_fld t.T_Sizes t.cl_Sizes t.no_Sizes_short_classes (je_name 0)))
  jss_nil)
end

def w_show_sizes (n : Nat) : WS := (wConsS (wRet n (wJoin [(wFmt (wFn c_figures (wCons (wPro 1 c_Sizes_period (wName 0)) wNil))), (wCon (.str " | ")), (wFmt (wFn c_spaced (wCons (wPro 1 c_Sizes_classes (wName 0)) wNil))), (wCon (.str " | ")), (wFmt (wFn c_spaced (wCons (wPro 1 c_Sizes_odd (wName 0)) wNil)))]))
  wNilS)
def c_show_sizes : Ct := ctOf ["sizes"] ["sizes"] (w_show_sizes)
section
variable {T : Tab} {P : Program} {w : World} {K : PySem.W.Frag} {mg : Str → Option Value} {base : Heap}
theorem Tx.ok_show_sizes (t : Tx T K mg) : FnOk P w K mg base CX0 3 t.a_show_sizes t.fd_show_sizes ["sizes"] (spC T K c_show_sizes) := by
  have nd := sc_show_sizes.nd
  exact fn_J t.F_show_sizes sc_show_sizes fun cdv A outer sh H E hr n => (jss_cons (js_ret (je_joined (JP.cons (je_fmt (je_call t.ok_figures (hr.mono (by decide)) t.m_figures t.F_figures.kp t.b_figures (ja_cons (je_prop t.T_Sizes t.cl_Sizes t.P_Sizes_period t.ok_Sizes_period (hr.mono (by decide)) t.b_Sizes_period (je_name 0)) ja_nil))) (JP.cons je_str (JP.cons (je_fmt (je_call t.ok_spaced (hr.mono (by decide)) t.m_spaced t.F_spaced.kp t.b_spaced (ja_cons (je_prop t.T_Sizes t.cl_Sizes t.P_Sizes_classes t.ok_Sizes_classes (hr.mono (by decide)) t.b_Sizes_classes (je_name 0)) ja_nil))) (JP.cons je_str (JP.cons (je_fmt (je_call t.ok_spaced (hr.mono (by decide)) t.m_spaced t.F_spaced.kp t.b_spaced (ja_cons (je_prop t.T_Sizes t.cl_Sizes t.P_Sizes_odd t.ok_Sizes_odd (hr.mono (by decide)) t.b_Sizes_odd (je_name 0)) ja_nil))) JP.nil)))))))
  jss_nil)
end

def w_read_sizes (n : Nat) : WS := (wConsS (wAsg 1 (wM1 splW (wName 0) (wCon (.str " | "))))
  (wConsS (wIfS (wBl (wTwo (wCb (wCons (wName 1) wNil) lenW) (wCon (.int 3)) (eqW true)))
  (wConsS (wRaise1 4 (wCon (.int 0)))
  wNilS)
  wNilS)
  (wConsS (wTryF mt_InvalidSizes 4 (wConsS (wAsg 2 (wMakeKX 1 ["short_period", "short_classes", "short_odd", "class_marks", "odd_marks"] c_Sizes___init__ c_Sizes___init__X 3 0 fu_Sizes_3_ (wCons (wFnX c_integer_of c_integer_ofX (wCons (wTwo (wName 1) (wCon (.int 0)) ixW) wNil)) (wCons (wFnX c_integers_of c_integers_ofX (wCons (wTwo (wName 1) (wCon (.int 1)) ixW) wNil)) (wCons (wFnX c_integers_of c_integers_ofX (wCons (wTwo (wName 1) (wCon (.int 2)) ixW) wNil)) wNil))) wNil))
  wNilS) (wCon (.int 0)))
  (wConsS (wIfS (wBl (wTwo (wFn c_show_sizes (wCons (wName 2) wNil)) (wName 0) (eqW true)))
  (wConsS (wRaise1 4 (wCon (.int 0)))
  wNilS)
  wNilS)
  (wConsS (wRet n (wName 2))
  wNilS)))))
def c_read_sizes : Ct := ctOf ["text", "words", "found"] ["text"] (w_read_sizes)
def c_read_sizesX : CtX := ctXOf ["text", "words", "found"] ["text"] (w_read_sizes)
section
variable {T : Tab} {P : Program} {w : World} {K : PySem.W.Frag} {mg : Str → Option Value} {base : Heap}
theorem Tx.ok_read_sizes (t : Tx T K mg) : FnOk P w K mg base (L2.CX P w) 5 t.a_read_sizes t.fd_read_sizes ["text"] (spX T K c_read_sizes c_read_sizesX) := by
  have nd := sc_read_sizes.nd
  exact fn_JX t.F_read_sizes sc_read_sizes (fun cdv A outer sh H E hr n => (jss_cons (js_asg 1 nd (je_split (je_name 0) je_str))
  (jss_cons (js_if (jt_cmp (jc_ne hr.units) (je_cb t.z_len jc_len (ja_cons (je_name 1) ja_nil)) je_int)
  (jss_cons (js_raise1 tk0 t.o_InvalidText t.at_InvalidText___init__ t.ty_InvalidText___init__ t.ok_InvalidText___init__ (hr.mono (by decide)) t.b_InvalidText___init__ t.m_InvalidText t.T_InvalidText je_int)
  jss_nil)
  jss_nil)
  (jss_cons (js_tryF tk0 (fun _ => PassesOwnAt.never) (And.intro rfl (And.intro (by decide) (Or.inl t.m_InvalidSizes))) t.mt_of_InvalidSizes (fun V_ pn_ xe_ tk_ po_ => (jss_cons (js_asg 2 nd (je_makeKXN tk_ t.T_Sizes t.K_Sizes t.ok_Sizes___init__ (hr.mono (by decide)) t.m_Sizes t.kb_Sizes_3_ t.put_Sizes_3_ (ja_cons (je_callXN (L2N.passAt tk_) t.ok_integer_of (hr.mono (by decide)) t.m_integer_of t.F_integer_of.kp t.b_integer_of (ja_cons (je_sub ji_ix (je_name 1) je_int) ja_nil)) (ja_cons (je_callXN (L2N.passAt tk_) t.ok_integers_of (hr.mono (by decide)) t.m_integers_of t.F_integers_of.kp t.b_integers_of (ja_cons (je_sub ji_ix (je_name 1) je_int) ja_nil)) (ja_cons (je_callXN (L2N.passAt tk_) t.ok_integers_of (hr.mono (by decide)) t.m_integers_of t.F_integers_of.kp t.b_integers_of (ja_cons (je_sub ji_ix (je_name 1) je_int) ja_nil)) ja_nil))) jk_nil))
  jss_nil)) t.o_InvalidText t.at_InvalidText___init__ t.ty_InvalidText___init__ t.okH_InvalidText___init__ (hr.mono (by decide)) t.b_InvalidText___init__ t.m_InvalidText t.T_InvalidText (fun _ _ => je_int))
  (jss_cons (js_if (jt_cmp (jc_ne hr.units) (je_call t.ok_show_sizes (hr.mono (by decide)) t.m_show_sizes t.F_show_sizes.kp t.b_show_sizes (ja_cons (je_name 2) ja_nil)) (je_name 0))
  (jss_cons (js_raise1 tk0 t.o_InvalidText t.at_InvalidText___init__ t.ty_InvalidText___init__ t.ok_InvalidText___init__ (hr.mono (by decide)) t.b_InvalidText___init__ t.m_InvalidText t.T_InvalidText je_int)
  jss_nil)
  jss_nil)
  (jss_cons (js_ret (je_name 2))
  jss_nil)))))) (fun cdv A outer sh H E hr tk n => (jss_cons (js_asg 1 nd (je_split (je_name 0) je_str))
  (jss_cons (js_if (jt_cmp (jc_ne hr.units) (je_cb t.z_len jc_len (ja_cons (je_name 1) ja_nil)) je_int)
  (jss_cons (js_raise1 tk t.o_InvalidText t.at_InvalidText___init__ t.ty_InvalidText___init__ t.ok_InvalidText___init__ (hr.mono (by decide)) t.b_InvalidText___init__ t.m_InvalidText t.T_InvalidText je_int)
  jss_nil)
  jss_nil)
  (jss_cons (js_tryF tk (L2H.passesAt_of rfl) (And.intro rfl (And.intro (by decide) (Or.inl t.m_InvalidSizes))) t.mt_of_InvalidSizes (fun V_ pn_ xe_ tk_ po_ => (jss_cons (js_asg 2 nd (je_makeKXN tk_ t.T_Sizes t.K_Sizes t.ok_Sizes___init__ (hr.mono (by decide)) t.m_Sizes t.kb_Sizes_3_ t.put_Sizes_3_ (ja_cons (je_callXN (L2N.passAt tk_) t.ok_integer_of (hr.mono (by decide)) t.m_integer_of t.F_integer_of.kp t.b_integer_of (ja_cons (je_sub ji_ix (je_name 1) je_int) ja_nil)) (ja_cons (je_callXN (L2N.passAt tk_) t.ok_integers_of (hr.mono (by decide)) t.m_integers_of t.F_integers_of.kp t.b_integers_of (ja_cons (je_sub ji_ix (je_name 1) je_int) ja_nil)) (ja_cons (je_callXN (L2N.passAt tk_) t.ok_integers_of (hr.mono (by decide)) t.m_integers_of t.F_integers_of.kp t.b_integers_of (ja_cons (je_sub ji_ix (je_name 1) je_int) ja_nil)) ja_nil))) jk_nil))
  jss_nil)) t.o_InvalidText t.at_InvalidText___init__ t.ty_InvalidText___init__ t.okH_InvalidText___init__ (hr.mono (by decide)) t.b_InvalidText___init__ t.m_InvalidText t.T_InvalidText (fun _ _ => je_int))
  (jss_cons (js_if (jt_cmp (jc_ne hr.units) (je_call t.ok_show_sizes (hr.mono (by decide)) t.m_show_sizes t.F_show_sizes.kp t.b_show_sizes (ja_cons (je_name 2) ja_nil)) (je_name 0))
  (jss_cons (js_raise1 tk t.o_InvalidText t.at_InvalidText___init__ t.ty_InvalidText___init__ t.ok_InvalidText___init__ (hr.mono (by decide)) t.b_InvalidText___init__ t.m_InvalidText t.T_InvalidText je_int)
  jss_nil)
  jss_nil)
  (jss_cons (js_ret (je_name 2))
  jss_nil))))))
end

def w__law_refused (n : Nat) : WS := (wConsS (wAsg 2 (wCon (.str "read")))
  (wConsS (wTry mt_InvalidText 3 (wConsS (wIfS (wTru (wName 1))
  (wConsS (wExpr (wFnX c_read_count c_read_countX (wCons (wName 0) wNil)))
  wNilS)
  (wConsS (wExpr (wFnX c_read_sizes c_read_sizesX (wCons (wName 0) wNil)))
  wNilS))
  wNilS)
  (fun m_ a_ d_ => (wConsS (wAsg 2 (wXf m_ a_ d_ xfn "line" (wName 3)))
  wNilS)))
  (wConsS (wRet n (wName 2))
  wNilS)))
def c__law_refused : Ct := ctOf ["_law_text", "_law_is_count", "_law_found", "e"] ["_law_text", "_law_is_count"] (w__law_refused)
section
variable {T : Tab} {P : Program} {w : World} {K : PySem.W.Frag} {mg : Str → Option Value} {base : Heap}
theorem Tx.ok__law_refused (t : Tx T K mg) : FnOk P w K mg base CX0 8 t.a__law_refused t.fd__law_refused ["_law_text", "_law_is_count"] (spC T K c__law_refused) := by
  have nd := sc__law_refused.nd
  exact fn_J t.F__law_refused sc__law_refused fun cdv A outer sh H E hr n => (jss_cons (js_asg 2 nd je_str)
  (jss_cons (js_try tk0 nd (And.intro rfl (And.intro (by decide) (Or.inl t.m_InvalidText))) t.mt_of_InvalidText (fun V_ pn_ xe_ tk_ po_ => (jss_cons (js_if (jt_val (je_name 1))
  (jss_cons (js_expr (je_callX tk_ t.ok_read_count (hr.mono (by decide)) t.m_read_count t.F_read_count.kp t.b_read_count (ja_cons (je_name 0) ja_nil)))
  jss_nil)
  (jss_cons (js_expr (je_callX tk_ t.ok_read_sizes (hr.mono (by decide)) t.m_read_sizes t.F_read_sizes.kp t.b_read_sizes (ja_cons (je_name 0) ja_nil)))
  jss_nil))
  jss_nil))
  (fun m_ a_ oe_ d_ C_ fn_ pn_ hm_ hT_ hz_ hv_ => (jss_cons (js_asg 2 nd (je_xf (t.err_of_InvalidText hm_ hT_ hz_ hv_) (t.xf_of_InvalidText hm_ hT_) (t.no_of_InvalidText_line hm_ hT_) (t.T_of_InvalidText hm_ hT_) (je_name 3)))
  jss_nil)))
  (jss_cons (js_ret (je_name 2))
  jss_nil)))
end

def w_Count___eq__ (n : Nat) : WS := (wConsS (wRet n (wAndV (wIsi tb_Count ob_Count (wName 1)) (wTwo (wTup (wCons (wPro 0 c_Count_parts (wName 0)) (wCons (wPro 0 c_Count_odd (wName 0)) wNil))) (wTup (wCons (wPro 0 c_Count_parts (wName 1)) (wCons (wPro 0 c_Count_odd (wName 1)) wNil))) (eqW false))))
  wNilS)
def c_Count___eq__ : Ct := ctOf ["self", "other"] ["self", "other"] (w_Count___eq__)
section
variable {T : Tab} {P : Program} {w : World} {K : PySem.W.Frag} {mg : Str → Option Value} {base : Heap}
theorem Tx.ok_Count___eq__ (t : Tx T K mg) : FnOk P w K mg base CX0 3 t.a_Count___eq__ t.fd_Count___eq__ ["self", "other"] (spC T K c_Count___eq__) := by
  have nd := sc_Count___eq__.nd
  exact fn_J t.F_Count___eq__ sc_Count___eq__ fun cdv A outer sh H E hr n => (jss_cons (js_ret (je_and (je_isiC t.z_isinstance t.m_Count t.tbIs_Count t.obIs_Count (je_name 1)) (je_one (je_cmp (jc_eq hr.units) (je_tup (ja_cons (je_prop t.T_Count t.cl_Count t.P_Count_parts t.ok_Count_parts (hr.mono (by decide)) t.b_Count_parts (je_name 0)) (ja_cons (je_prop t.T_Count t.cl_Count t.P_Count_odd t.ok_Count_odd (hr.mono (by decide)) t.b_Count_odd (je_name 0)) ja_nil))) (je_tup (ja_cons (je_prop t.T_Count t.cl_Count t.P_Count_parts t.ok_Count_parts (hr.mono (by decide)) t.b_Count_parts (je_name 1)) (ja_cons (je_prop t.T_Count t.cl_Count t.P_Count_odd t.ok_Count_odd (hr.mono (by decide)) t.b_Count_odd (je_name 1)) ja_nil)))))))
  jss_nil)
end

def w_Sizes_told (n : Nat) : WS := (wConsS (wRet n (wTup (wCons (wFld 1 ["short_period", "short_classes", "short_odd", "class_marks", "odd_marks"] "short_period" (wName 0)) (wCons (wFld 1 ["short_period", "short_classes", "short_odd", "class_marks", "odd_marks"] "short_classes" (wName 0)) (wCons (wFld 1 ["short_period", "short_classes", "short_odd", "class_marks", "odd_marks"] "short_odd" (wName 0)) wNil)))))
  wNilS)
def c_Sizes_told : Ct := ctOf ["self"] ["self"] (w_Sizes_told)
section
variable {T : Tab} {P : Program} {w : World} {K : PySem.W.Frag} {mg : Str → Option Value} {base : Heap}
theorem Tx.ok_Sizes_told (t : Tx T K mg) : FnOk P w K mg base CX0 1 t.a_Sizes_told t.fd_Sizes_told ["self"] (spC T K c_Sizes_told) := by
  have nd := sc_Sizes_told.nd
  exact fn_J t.F_Sizes_told sc_Sizes_told fun cdv A outer sh H E hr n => (jss_cons (js_ret (je_tup (ja_cons (je_fld t.T_Sizes t.cl_Sizes t.no_Sizes_short_period (je_name 0)) (ja_cons (je_fld t.T_Sizes t.cl_Sizes t.no_Sizes_short_classes (je_name 0)) (ja_cons (je_fld t.T_Sizes t.cl_Sizes t.no_Sizes_short_odd (je_name 0)) ja_nil)))))
  jss_nil)
end

def w_Sizes___eq__ (n : Nat) : WS := (wConsS (wRet n (wAndV (wIsi tb_Sizes ob_Sizes (wName 1)) (wTwo (wMeth0 1 "told" c_Sizes_told (wName 0)) (wMeth0 1 "told" c_Sizes_told (wName 1)) (eqW false))))
  wNilS)
def c_Sizes___eq__ : Ct := ctOf ["self", "other"] ["self", "other"] (w_Sizes___eq__)
section
variable {T : Tab} {P : Program} {w : World} {K : PySem.W.Frag} {mg : Str → Option Value} {base : Heap}
theorem Tx.ok_Sizes___eq__ (t : Tx T K mg) : FnOk P w K mg base CX0 2 t.a_Sizes___eq__ t.fd_Sizes___eq__ ["self", "other"] (spC T K c_Sizes___eq__) := by
  have nd := sc_Sizes___eq__.nd
  exact fn_J t.F_Sizes___eq__ sc_Sizes___eq__ fun cdv A outer sh H E hr n => (jss_cons (js_ret (je_and (je_isiC t.z_isinstance t.m_Sizes t.tbIs_Sizes t.obIs_Sizes (je_name 1)) (je_one (je_cmp (jc_eq hr.units) (je_meth0 t.T_Sizes t.cl_Sizes t.M_Sizes_told rfl t.ok_Sizes_told (hr.mono (by decide)) t.b_Sizes_told (je_name 0)) (je_meth0 t.T_Sizes t.cl_Sizes t.M_Sizes_told rfl t.ok_Sizes_told (hr.mono (by decide)) t.b_Sizes_told (je_name 1))))))
  jss_nil)
end

def w_law_end (n : Nat) : WS := (wConsS (wRet n (wAndV (wTwo (wFnX c_read_count c_read_countX (wCons (wCon (.str "- | -")) wNil)) (wMakeKX 0 ["short_parts", "short_odd"] c_Count___init__ c_Count___init__X 1 0 fu_Count_1_ (wCons (wTup wNil) wNil) wNil) (selW (P2 1) (ownW c_Sizes___eq__) (selW (P2 0) (ownW c_Count___eq__) (eqW false)))) (wTwo (wFnX c_read_sizes c_read_sizesX (wCons (wCon (.str "1 | - | -")) wNil)) (wMakeKX 1 ["short_period", "short_classes", "short_odd", "class_marks", "odd_marks"] c_Sizes___init__ c_Sizes___init__X 2 0 fu_Sizes_2_ (wCons (wCon (.int 1)) (wCons (wTup wNil) wNil)) wNil) (selW (P2 1) (ownW c_Sizes___eq__) (selW (P2 0) (ownW c_Count___eq__) (eqW false))))))
  wNilS)
def w_law_asks (n : Nat) : WS := (wConsS (wIfS (wOrT (wBl (wTwo (wFnX c_read_sizes c_read_sizesX (wCons (wName 3) wNil)) (wName 7) (selW (P2 1) (ownNeW c_Sizes___eq__) (selW (P2 0) (ownNeW c_Count___eq__) (eqW true))))) (wBl (wTwo (wLc (wItems (wName 5)) (.nm 6) (wBl (wTwo (wFn c__law_refused (wCons (wName 6) (wCons (wCon (.bl false)) wNil))) (wCon (.int 0)) (selW (P2 1) (ownNeW c_Sizes___eq__) (selW (P2 0) (ownNeW c_Count___eq__) (eqW true))))) (wCon (.int 1)) [6]) (wLst wNil) (selW (P2 1) (ownNeW c_Sizes___eq__) (selW (P2 0) (ownNeW c_Count___eq__) (eqW true))))))
  (wConsS (wRet n (wCon (.bl false)))
  wNilS)
  wNilS)
  wNilS)
def w_law_sets (n : Nat) : WS := (wConsS (wTupS [(.nm 3), (.nm 7), (.nm 5)] (wFn c__law_sets (wCons (wName 2) wNil)))
  (w_law_asks n))
def w_law_askc (n : Nat) : WS := (wConsS (wIfS (wOrT (wBl (wTwo (wFnX c_read_count c_read_countX (wCons (wName 3) wNil)) (wName 4) (selW (P2 1) (ownNeW c_Sizes___eq__) (selW (P2 0) (ownNeW c_Count___eq__) (eqW true))))) (wBl (wTwo (wLc (wItems (wName 5)) (.nm 6) (wBl (wTwo (wFn c__law_refused (wCons (wName 6) (wCons (wCon (.bl true)) wNil))) (wCon (.int 0)) (selW (P2 1) (ownNeW c_Sizes___eq__) (selW (P2 0) (ownNeW c_Count___eq__) (eqW true))))) (wCon (.int 1)) [6]) (wLst wNil) (selW (P2 1) (ownNeW c_Sizes___eq__) (selW (P2 0) (ownNeW c_Count___eq__) (eqW true))))))
  (wConsS (wRet n (wCon (.bl false)))
  wNilS)
  wNilS)
  (w_law_sets n))
def w_law_counts (n : Nat) : WS := (wConsS (wTupS [(.nm 3), (.nm 4), (.nm 5)] (wFn c__law_counts (wCons (wName 2) wNil)))
  (w_law_askc n))
def w_law_body (n : Nat) : WS := (wConsS (wAsg 2 (wFn c__law_box (wCons (wName 0) (wCons (wName 1) wNil))))
  (w_law_counts n))
def w_law (n : Nat) : WS := (wConsS (wFor (wRng1 (wCons (wCb (wCons (wCon (.int 2)) (wCons (wCb (wCons (wCb (wCons (wName 0) wNil) lenW) (wCons (wCon (.int 5)) wNil)) minW2) wNil)) maxW2) wNil)) (.nm 1)
  (wFgt [0, 1] 0 n (w_law_body n)))
  (w_law_end n))
def c_law : Ct := ctOf ["_law_script", "_law_k", "_law_box_here", "_law_text", "_law_count", "_law_bad", "_law_other", "_law_sizes"] ["_law_script"] (w_law)
section
variable {T : Tab} {P : Program} {w : World} {K : PySem.W.Frag} {mg : Str → Option Value} {base : Heap}
theorem Tx.ok_law (t : Tx T K mg) : FnOk P w K mg base CX0 9 t.a_law t.fd_law ["_law_script"] (spC T K c_law) := by
  have nd := sc_law.nd
  exact fn_J t.F_law sc_law fun cdv A outer sh H E hr n => (jss_cons (js_for PassesOwn.never (ji_range1 t.z_range (ja_cons (je_cb t.z_max (jc_max2 rfl) (ja_cons je_int (ja_cons (je_cb t.z_min (jc_min2 rfl) (ja_cons (je_cb t.z_len jc_len (ja_cons (je_name 0) ja_nil)) (ja_cons je_int ja_nil))) ja_nil))) ja_nil)) (dg_name 1 nd)
  (jss_fgt [0, 1] 0 (jss_cons (js_asg 2 nd (je_call t.ok__law_box (hr.mono (by decide)) t.m__law_box t.F__law_box.kp t.b__law_box (ja_cons (je_name 0) (ja_cons (je_name 1) ja_nil))))
  (jss_cons (js_tup (je_call t.ok__law_counts (hr.mono (by decide)) t.m__law_counts t.F__law_counts.kp t.b__law_counts (ja_cons (je_name 2) ja_nil)) (dgs_cons (dg_name 3 nd) (dgs_cons (dg_name 4 nd) (dgs_cons (dg_name 5 nd) dgs_nil))))
  (jss_cons (js_if (JW.jt (jw_or (jt_cmp (jc_oNe t.T_Sizes t.NE_Sizes t.ok_Sizes___eq__ (hr.mono (by decide)) t.b_Sizes___eq__ t.M_Sizes___eq__.at_ t.M_Sizes___eq__.fn (jc_oNe t.T_Count t.NE_Count t.ok_Count___eq__ (hr.mono (by decide)) t.b_Count___eq__ t.M_Count___eq__.at_ t.M_Count___eq__.fn (jc_ne hr.units))) (je_callX tk0 t.ok_read_count (hr.mono (by decide)) t.m_read_count t.F_read_count.kp t.b_read_count (ja_cons (je_name 3) ja_nil)) (je_name 4)) (jw_or1 (jt_cmp (jc_oNe t.T_Sizes t.NE_Sizes t.ok_Sizes___eq__ (hr.mono (by decide)) t.b_Sizes___eq__ t.M_Sizes___eq__.at_ t.M_Sizes___eq__.fn (jc_oNe t.T_Count t.NE_Count t.ok_Count___eq__ (hr.mono (by decide)) t.b_Count___eq__ t.M_Count___eq__.at_ t.M_Count___eq__.fn (jc_ne hr.units))) (je_lc nd ⟨(ji_val (je_name 5)), blkOk_by (own := [("_law_other", 6)]) (by kernel_rfl), fun _ _ _ _ _ => (dg_name 6 nd), fun _ _ _ _ _ => (jts_one (jt_cmp (jc_oNe t.T_Sizes t.NE_Sizes t.ok_Sizes___eq__ (hr.mono (by decide)) t.b_Sizes___eq__ t.M_Sizes___eq__.at_ t.M_Sizes___eq__.fn (jc_oNe t.T_Count t.NE_Count t.ok_Count___eq__ (hr.mono (by decide)) t.b_Count___eq__ t.M_Count___eq__.at_ t.M_Count___eq__.fn (jc_ne hr.units))) (je_call t.ok__law_refused (hr.mono (by decide)) t.m__law_refused t.F__law_refused.kp t.b__law_refused (ja_cons (je_name 6) (ja_cons je_bl ja_nil))) je_int)), fun _ _ _ _ _ => je_int, by decide⟩) (je_lst ja_nil)))))
  (jss_cons (js_ret je_bl)
  jss_nil)
  jss_nil)
  (jss_cons (js_tup (je_call t.ok__law_sets (hr.mono (by decide)) t.m__law_sets t.F__law_sets.kp t.b__law_sets (ja_cons (je_name 2) ja_nil)) (dgs_cons (dg_name 3 nd) (dgs_cons (dg_name 7 nd) (dgs_cons (dg_name 5 nd) dgs_nil))))
  (jss_cons (js_if (JW.jt (jw_or (jt_cmp (jc_oNe t.T_Sizes t.NE_Sizes t.ok_Sizes___eq__ (hr.mono (by decide)) t.b_Sizes___eq__ t.M_Sizes___eq__.at_ t.M_Sizes___eq__.fn (jc_oNe t.T_Count t.NE_Count t.ok_Count___eq__ (hr.mono (by decide)) t.b_Count___eq__ t.M_Count___eq__.at_ t.M_Count___eq__.fn (jc_ne hr.units))) (je_callX tk0 t.ok_read_sizes (hr.mono (by decide)) t.m_read_sizes t.F_read_sizes.kp t.b_read_sizes (ja_cons (je_name 3) ja_nil)) (je_name 7)) (jw_or1 (jt_cmp (jc_oNe t.T_Sizes t.NE_Sizes t.ok_Sizes___eq__ (hr.mono (by decide)) t.b_Sizes___eq__ t.M_Sizes___eq__.at_ t.M_Sizes___eq__.fn (jc_oNe t.T_Count t.NE_Count t.ok_Count___eq__ (hr.mono (by decide)) t.b_Count___eq__ t.M_Count___eq__.at_ t.M_Count___eq__.fn (jc_ne hr.units))) (je_lc nd ⟨(ji_val (je_name 5)), blkOk_by (own := [("_law_other", 6)]) (by kernel_rfl), fun _ _ _ _ _ => (dg_name 6 nd), fun _ _ _ _ _ => (jts_one (jt_cmp (jc_oNe t.T_Sizes t.NE_Sizes t.ok_Sizes___eq__ (hr.mono (by decide)) t.b_Sizes___eq__ t.M_Sizes___eq__.at_ t.M_Sizes___eq__.fn (jc_oNe t.T_Count t.NE_Count t.ok_Count___eq__ (hr.mono (by decide)) t.b_Count___eq__ t.M_Count___eq__.at_ t.M_Count___eq__.fn (jc_ne hr.units))) (je_call t.ok__law_refused (hr.mono (by decide)) t.m__law_refused t.F__law_refused.kp t.b__law_refused (ja_cons (je_name 6) (ja_cons je_bl ja_nil))) je_int)), fun _ _ _ _ _ => je_int, by decide⟩) (je_lst ja_nil)))))
  (jss_cons (js_ret je_bl)
  jss_nil)
  jss_nil)
  jss_nil)))))))
  (jss_cons (js_ret (je_and (je_cmp (jc_o2 t.T_Sizes t.ok_Sizes___eq__ (hr.mono (by decide)) t.b_Sizes___eq__ t.M_Sizes___eq__.at_ t.M_Sizes___eq__.fn (jc_o2 t.T_Count t.ok_Count___eq__ (hr.mono (by decide)) t.b_Count___eq__ t.M_Count___eq__.at_ t.M_Count___eq__.fn (jc_eq hr.units))) (je_callX tk0 t.ok_read_count (hr.mono (by decide)) t.m_read_count t.F_read_count.kp t.b_read_count (ja_cons je_str ja_nil)) (je_makeKXN tkn0 t.T_Count t.K_Count t.ok_Count___init__ (hr.mono (by decide)) t.m_Count t.kb_Count_1_ t.put_Count_1_ (ja_cons (je_tup ja_nil) ja_nil) jk_nil)) (je_one (je_cmp (jc_o2 t.T_Sizes t.ok_Sizes___eq__ (hr.mono (by decide)) t.b_Sizes___eq__ t.M_Sizes___eq__.at_ t.M_Sizes___eq__.fn (jc_o2 t.T_Count t.ok_Count___eq__ (hr.mono (by decide)) t.b_Count___eq__ t.M_Count___eq__.at_ t.M_Count___eq__.fn (jc_eq hr.units))) (je_callX tk0 t.ok_read_sizes (hr.mono (by decide)) t.m_read_sizes t.F_read_sizes.kp t.b_read_sizes (ja_cons je_str ja_nil)) (je_makeKXN tkn0 t.T_Sizes t.K_Sizes t.ok_Sizes___init__ (hr.mono (by decide)) t.m_Sizes t.kb_Sizes_2_ t.put_Sizes_2_ (ja_cons je_int (ja_cons (je_tup ja_nil) ja_nil)) jk_nil)))))
  jss_nil))
end

/-! ### take, feed -/
theorem take_c {b : B} {m : Int} (hm : 0 < m) (hm2 : m < 2 ^ 200) (hb : Ok b) : c__law_take [.cel 0, .dat (.int m)] [bx b] (.dat (.int (tk b m))) [bx (nx b m)] := by
  refine ⟨rfl, ?_⟩
  refine Br.dec (fun h => ?_) (fun h => ?_)
  · refine And.intro hm (And.intro ⟨hm, lg hm hm2⟩ (And.intro ?_ ?_))
    · rw [tk_p h]
    · rw [nx_p h]; rfl
  · obtain ⟨hy, hy2⟩ := hb
    refine And.intro (Dl.mul_l (by omega) (by omega)) (And.intro (pos_ (by decide)) ?_)
    refine And.intro (Dl.mul_l (by omega) (by omega)) (And.intro (pos_ (by decide)) ?_)
    refine And.intro (Dl.mul_l (by omega) (by omega)) (And.intro ⟨by decide, by decide⟩ (And.intro hm (And.intro ?_ ?_)))
    · rw [tk_n h]
    · rw [nx_n h]; rfl

/-! ### loops by existence: what a loop leads to is chosen turn by turn -/
theorem forW_ex {p : Pat} {wb : WS} {α : Type} (g : α → D) (I : List α → List α → Sta → Prop) : ∀ (pre post : List α) (S : Sta), I pre post S →
    (∀ pre x post S, I pre (x :: post) S → ∃ S', I (pre ++ [x]) post S' ∧ ∀ P : PJ, P.nx S' → asgW p (g x) S.sl fun sl' => wb ⟨sl', S.cs⟩ P) → ∃ S', I (pre ++ post) [] S' ∧ ∀ P : PJ, P.nx S' → forW p wb (post.map g) S P
  | pre, [], S, h, _ => ⟨S, by rw [List.append_nil]; exact h, fun P q => q⟩
  | pre, x :: post, S, h, hs => by
    obtain ⟨S1, h1, q1⟩ := hs pre x post S h
    obtain ⟨S2, h2, q2⟩ := forW_ex g I (pre ++ [x]) post S1 h1 hs
    refine ⟨S2, by rw [List.append_assoc] at h2; exact h2, fun P q => ?_⟩
    exact q1 _ (q2 P q)
/-- [.. for .. in ..] with draws, by existence -/
theorem lcW_ex {p : Pat} {wt : WpT} {we : WpE} {sl : Sls} {α : Type} (g : α → D) (Q : α → D → Prop) : ∀ (xs : List α) (b : B), Ok b →
    (∀ x ∈ xs, ∀ b, Ok b → ∃ sl' b', asgP p (g x) sl = some sl' ∧ Ok b' ∧ ((∀ (R : RB), R false [bx b'] → wt sl' [bx b] R noX) ∨ ∃ d, Q x d ∧ ∃ b1, (∀ (R : RB), R true [bx b1] → wt sl' [bx b] R noX) ∧ ∀ (R : RV), R (.dat d) [bx b'] → we sl' [bx b1] R noX)) →
    ∃ (ys : List (α × D)) (b' : B), Ok b' ∧ List.Sublist (ys.map (·.1)) xs ∧ (∀ y ∈ ys, Q y.1 y.2) ∧ ∀ R : List D → List Cell → Prop, R (ys.map (·.2)) [bx b'] → lcW p wt we sl (xs.map g) [bx b] R
  | [], b, hb, _ => ⟨[], b, hb, List.Sublist.refl _, (fun _ z => nomatch z), fun R h => h⟩
  | x :: xs, b, hb, hx => by
    obtain ⟨sl', b', e, ok, h⟩ := hx x List.mem_cons_self b hb
    obtain ⟨ys, b2, o2, s2, q2, r2⟩ := lcW_ex g Q xs b' ok fun y hy => hx y (List.mem_cons_of_mem _ hy)
    rcases h with h | ⟨d, hq, b1, h1, h3⟩
    · exact ⟨ys, b2, o2, s2.cons x, q2, fun R hR => asgW_i e (h _ ⟨(fun z => nomatch z), fun _ => r2 R hR⟩)⟩
    · refine ⟨(x, d) :: ys, b2, o2, s2.cons₂ x, fun y hy => ?_, fun R hR => asgW_i e (h1 _ ⟨(fun _ => h3 _ (r2 _ hR)), (fun z => nomatch z)⟩)⟩
      rcases List.mem_cons.mp hy with rfl | hy
      · exact hq
      · exact q2 y hy

theorem six_nat (n d k : Nat) : HT.sIx n d (some (k : Int)) = min k n := HT.sIx_nat n d k
theorem cut_take (ds : List D) (k : Nat) : cutD ds none (some (k : Int)) = ds.take k := by
  unfold cutD
  rw [six_nat]
  show (ds.drop 0).take (min k ds.length - 0) = _
  rw [List.drop_zero, Nat.sub_zero]
  exact (List.take_eq_take_min).symm
theorem cut_drop (ds : List D) (k : Nat) : cutD ds (some (k : Int)) none = ds.drop k := by
  unfold cutD
  rw [six_nat]
  show (ds.drop (min k ds.length)).take (ds.length - min k ds.length) = _
  rw [List.take_of_length_le (by rw [List.length_drop]; exact Nat.le_refl _)]
  rcases Nat.le_total k ds.length with h | h
  · rw [Nat.min_eq_left h]
  · rw [Nat.min_eq_right h, List.drop_of_length_le (Nat.le_refl _), List.drop_of_length_le h]

/-! ### what may be compared -/
def okN (k : Nat) (d : D) : Prop := d.plain = true ∧ d.py.canLay0 = true ∧ d.py.depth ≤ k
theorem okl_all {k : Nat} : ∀ {xs : List D}, (∀ d ∈ xs, okN k d) → D.plains xs = true ∧ PyData.canLayAll0 (D.pys xs) = true ∧ PyData.depthAll (D.pys xs) ≤ k
  | [], _ => ⟨rfl, by simp [D.pys, PyData.canLayAll0], by simp [D.pys, PyData.depthAll]⟩
  | x :: xs, h => by
    obtain ⟨a, b, c⟩ := h x List.mem_cons_self
    obtain ⟨d, e, f⟩ := okl_all fun y hy => h y (List.mem_cons_of_mem _ hy)
    refine ⟨by simp [D.plains, a, d], by simp [D.pys, PyData.canLayAll0, b, e], ?_⟩
    simp only [D.pys, PyData.depthAll]
    exact Nat.max_le.mpr ⟨c, f⟩
theorem ok_lst {k : Nat} {xs : List D} (h : ∀ d ∈ xs, okN k d) (hk : k < 64) : okD (.lst xs) = true := by
  obtain ⟨a, b, c⟩ := okl_all h
  have e : (D.lst xs).py.depth ≤ 64 := by
    show PyData.depth (.list (D.pys xs)) ≤ 64
    simp only [PyData.depth]
    omega
  simp only [okD, SeqAt.shaped, Bool.and_eq_true]
  exact ⟨a, by show PyData.canLay0 (.list (D.pys xs)) = true; simpa [PyData.canLay0] using b, decide_eq_true e⟩

theorem ok_tup {k : Nat} {xs : List D} (h : ∀ d ∈ xs, okN k d) (hk : k < 64) : okD (.tup xs) = true := by
  obtain ⟨a, b, c⟩ := okl_all h
  have e : (D.tup xs).py.depth ≤ 64 := by
    show PyData.depth (.tuple (D.pys xs)) ≤ 64
    simp only [PyData.depth]
    omega
  simp only [okD, SeqAt.shaped, Bool.and_eq_true]
  exact ⟨a, by show PyData.canLay0 (.tuple (D.pys xs)) = true; simpa [PyData.canLay0] using b, decide_eq_true e⟩

/-! ### small helps -/
theorem szl (n : Nat) (h : n < 16777216 := by decide) : n < sizeLine := h
theorem isint_c (i : Int) : c_is_integer [.dat (.int i)] [] (.dat (.bl true)) [] := ⟨rfl, Br.mk (fun _ => And.intro rfl rfl) (fun h => nomatch h)⟩
theorem alls {α : Type} (l : List α) : (l.map fun _ => true).all id = true := by
  rw [List.all_eq_true]
  intro b hb
  obtain ⟨_, _, rfl⟩ := List.mem_map.mp hb
  rfl
theorem allT {α : Type} (l : List α) {R : RV} {cs : List Cell} (h : R (.dat (.bl true)) cs) : allW [.dat (.lst (l.map fun _ => D.bl true))] cs R := by
  have e : (l.map fun _ => D.bl true) = (l.map fun _ => true).map D.bl := by rw [List.map_map]; rfl
  rw [e]
  refine blsW_i (ns := l.map fun _ => true) ?_
  rw [alls]
  exact h
theorem sumT {α : Type} (f : α → Int) (l : List α) {R : RV} {cs : List Cell} (h : R (.dat (.int (l.map f).sum)) cs) : sumW [.dat (.lst (l.map fun x => D.int (f x)))] cs R := by
  have e : (l.map fun x => D.int (f x)) = (l.map f).map D.int := by rw [List.map_map]; rfl
  rw [e]
  exact intsW_i (ns := l.map f) h
theorem lenI {α : Type} {f : α → D} {l : List α} (h : l.length ≤ 1000) : (l.map f).length < sizeLine := by rw [List.length_map]; exact Nat.lt_of_le_of_lt h (by decide)
theorem allB {α : Type} (f : α → Bool) (l : List α) (hf : ∀ x ∈ l, f x = true) {R : RV} {cs : List Cell} (h : R (.dat (.bl true)) cs) : allW [.dat (.lst (l.map fun x => D.bl (f x)))] cs R := by
  have e : (l.map fun x => D.bl (f x)) = (l.map f).map D.bl := by rw [List.map_map]; rfl
  rw [e]
  refine blsW_i (ns := l.map f) ?_
  have : (l.map f).all id = true := by
    rw [List.all_eq_true]
    intro b hb
    obtain ⟨x, hx, rfl⟩ := List.mem_map.mp hb
    exact hf x hx
  rw [this]
  exact h
theorem anyB {α : Type} (f : α → Bool) (l : List α) (hf : ∀ x ∈ l, f x = false) {R : RV} {cs : List Cell} (h : R (.dat (.bl false)) cs) : anyW [.dat (.lst (l.map fun x => D.bl (f x)))] cs R := by
  have e : (l.map fun x => D.bl (f x)) = (l.map f).map D.bl := by rw [List.map_map]; rfl
  rw [e]
  refine blsW_i (ns := l.map f) ?_
  have : (l.map f).any id = false := by
    rw [List.any_eq_false]
    intro b hb
    obtain ⟨x, hx, rfl⟩ := List.mem_map.mp hb
    rw [hf x hx]
    decide
  rw [this]
  exact h

/-! ### draws -/
theorem at2 {x y : Int} {c : Bool} : atI [D.int x, .int y] (if c = true then 1 else 0) = some (.int (if c = true then y else x)) := by cases c <;> rfl
def eqB (a b : Int) : Bool := false.xor (decide (a = b))
/-- [x for x in .. if a draw says so] -/
def drw {α : Type} (f : α → B → Bool × B) : List α → B → List α × B
  | [], b => ([], b)
  | x :: xs, b => if (f x b).1 then (x :: (drw f xs (f x b).2).1, (drw f xs (f x b).2).2) else drw f xs (f x b).2
theorem drw_ok {α : Type} {f : α → B → Bool × B} (hf : ∀ x b, Ok b → Ok (f x b).2) : ∀ (xs : List α) {b : B}, Ok b → Ok (drw f xs b).2 ∧ List.Sublist (drw f xs b).1 xs
  | [], b, h => ⟨h, List.Sublist.refl _⟩
  | x :: xs, b, h => by
    obtain ⟨h1, h2⟩ := drw_ok hf xs (hf x b h)
    unfold drw
    split
    · exact ⟨h1, h2.cons₂ x⟩
    · exact ⟨h1, h2.cons x⟩
theorem lcW_drw {α : Type} {g : α → D} {f : α → B → Bool × B} (hf : ∀ x b, Ok b → Ok (f x b).2) {p : Pat} {wt : WpT} {we : WpE} {sl : Sls} : ∀ {xs : List α} {b : B} {R : List D → List Cell → Prop}, Ok b →
    (∀ x ∈ xs, ∀ b, Ok b → ∃ sl', asgP p (g x) sl = some sl' ∧ (∀ R' : RB, R' (f x b).1 [bx (f x b).2] → wt sl' [bx b] R' noX) ∧ ∀ b' (R' : RV), R' (.dat (g x)) [bx b'] → we sl' [bx b'] R' noX) →
    R ((drw f xs b).1.map g) [bx (drw f xs b).2] → lcW p wt we sl (xs.map g) [bx b] R
  | [], b, R, hb, _, h => h
  | x :: xs, b, R, hb, hx, h => by
    obtain ⟨sl', e, h1, h2⟩ := hx x List.mem_cons_self b hb
    unfold drw at h
    refine asgW_i e (h1 _ ⟨fun z => ?_, fun z => ?_⟩)
    · rw [if_pos z] at h
      exact h2 _ _ (lcW_drw hf (hf x b hb) (fun y hy => hx y (List.mem_cons_of_mem _ hy)) h)
    · rw [if_neg (by rw [z]; decide)] at h
      exact lcW_drw hf (hf x b hb) (fun y hy => hx y (List.mem_cons_of_mem _ hy)) h

/-! ### counts in the program -/
abbrev cD (cs : List Int) : D := .tup (cs.map D.int)
abbrev lD (l : Lot) : D := .tup [.int l.1, cD l.2]
abbrev sD (p : Int × Int) : D := .tup [.int p.1, .int p.2]
theorem areints_c {cs : List Int} (h : cs.length ≤ 1000) : c_are_integers [.dat (cD cs)] [] (.dat (.bl true)) [] := by
  refine ⟨rfl, Br.tt rfl (And.intro (lenI h) (lcW_map D.int (fun _ => D.bl true) (fun i _ => ⟨_, rfl, fun R' h' => call_ (isint_c i) h'⟩) ?_))⟩
  exact allT cs (And.intro rfl rfl)
/-- pairs with sizes that ascend -/
theorem ascend_c {α : Type} (f : α → Int) (g : α → D) {l : List α} (h : Asc 0 (l.map f)) : c_ascend [.dat (.tup (l.map fun x => .tup [.int (f x), g x]))] [] (.dat (.bl true)) [] := by
  refine ⟨rfl, forW_at (fun x => D.tup [.int (f x), g x]) (fun pre post S => ∃ a y2 y3, Asc a (post.map f) ∧ S = ⟨[some (.dat (.tup (l.map fun x => .tup [.int (f x), g x]))), some (.dat (.int a)), y2, y3], []⟩) [] l ?_ ?_ _ ⟨0, none, none, h, rfl⟩⟩
  · rintro pre x post S ⟨a, y2, y3, ha, rfl⟩ nx' hnx
    refine call_ (isint_c _) (Br.ff rfl (Br.dec (fun z => ?_) (fun z => hnx _ ⟨_, _, _, ha.2, rfl⟩)))
    have := ha.1
    omega
  · rintro pre S ⟨a, y2, y3, ha, rfl⟩
    exact And.intro rfl rfl
theorem arepairs_c {α : Type} (f : α → Int) (g : α → D) {l : List α} (hl : l.length ≤ 1000) (h : Asc 0 (l.map f)) : c_are_pairs [.dat (.tup (l.map fun x => .tup [.int (f x), g x]))] [] (.dat (.bl true)) [] := by
  refine ⟨rfl, Br.ff rfl (And.intro (lenI hl) (lcW_map (fun x => D.tup [.int (f x), g x]) (fun _ => D.bl true) (fun x _ => ⟨_, rfl, fun R' h' => Br.tt rfl h'⟩) ?_))⟩
  dsimp only [wNil]
  refine allT l ?_
  exact Br.ff rfl (call_ (ascend_c f g h) (And.intro rfl rfl))
theorem areparts_c {ls : List Lot} (hl : ls.length ≤ 1000) (h : Asc 0 (ls.map (·.1))) (hb : ∀ l ∈ ls, l.2.length ≤ 4) : c_are_parts [.dat (.tup (ls.map lD))] [] (.dat (.bl true)) [] := by
  refine ⟨rfl, call_ (arepairs_c (fun l : Lot => l.1) (fun l => cD l.2) hl h) (Br.ff rfl (And.intro (lenI hl) (lcW_map lD (fun _ => D.bl true) (fun l hm => ⟨_, rfl, fun R' h' => ?_⟩) (allT ls (And.intro rfl rfl)))))⟩
  refine call_ (areints_c (Nat.le_trans (hb l hm) (by decide))) (Br.tt rfl ?_)
  have e : decide ((((l.2.map D.int).length : Nat) : Int) ≤ 4) = true := decide_eq_true (by rw [List.length_map]; have := hb l hm; omega)
  show R' (.dat (.bl (decide ((((l.2.map D.int).length : Nat) : Int) ≤ 4)))) []
  rw [e]
  exact h'
theorem areodd_c {os : List (Int × Int)} (hl : os.length ≤ 1000) (h : Asc 0 (os.map (·.1))) : c_are_odd [.dat (.tup (os.map sD))] [] (.dat (.bl true)) [] := by
  refine ⟨rfl, call_ (arepairs_c (fun p : Int × Int => p.1) (fun p => .int p.2) hl h) (Br.tt rfl (And.intro (lenI hl) (lcW_map sD (fun _ => D.bl true) (fun p _ => ⟨_, rfl, fun R' h' => call_ (isint_c _) h'⟩) (allT os (And.intro rfl rfl)))))⟩
theorem cut_c {cs : List Int} : c_cut [.dat (cD cs)] [] (.dat (cD (cutL cs))) [] := by
  refine ⟨rfl, ?_⟩
  refine ⟨fun k S => k ≤ cs.length ∧ cutN cs k = cutN cs cs.length ∧ S = ⟨[some (.dat (cD cs)), some (.dat (.int (k : Int)))], []⟩, cs.length, ⟨Nat.le_refl _, rfl, by rw [← List.length_map (f := D.int)]; rfl⟩, ?_⟩
  rintro k S ⟨hk, hc, rfl⟩
  have fin : cutN cs k = k → wConsS (wRet 0 (wCb (wCons (wSlc (wName 0) wO0 (wO1 (wName 1))) wNil) tupleW)) wNilS ⟨[some (.dat (cD cs)), some (.dat (.int (k : Int)))], []⟩ (endJ 0 (.dat (cD (cutL cs))) []) := fun e => by
    refine And.intro ?_ rfl
    show Sl.dat (.tup (cutD (cs.map D.int) none (some (k : Int)))) = _
    rw [cut_take, ← List.map_take]
    unfold cutL
    rw [← hc, e]
  match k, hk, hc, fin with
  | 0, hk, hc, fin => exact Br.ff rfl (Br.ff rfl (fin rfl))
  | k + 1, hk, hc, fin =>
    refine Br.tt (decide_eq_true (by omega)) ?_
    have ei : (((k + 1 : Nat) : Int) - 1) = (k : Int) := by omega
    have ea : atI (cs.map D.int) (((k + 1 : Nat) : Int) - 1) = some (.int (cs.getD k 0)) := by
      rw [ei]
      refine atI_nat (j := k) ?_
      rw [List.getElem?_map, List.getElem?_eq_getElem (by omega), List.getD_eq_getElem?_getD, List.getElem?_eq_getElem (by omega)]
      rfl
    refine atW_i ea (Br.xf (fun z => ?_) (fun z => fin ?_))
    · refine ⟨k, Nat.lt_succ_self k, by omega, ?_, by rw [← ei]; rfl⟩
      rw [← hc]
      show _ = if cs.getD k 0 = 0 then _ else _
      rw [if_pos z]
    · show (if cs.getD k 0 = 0 then _ else _) = _
      rw [if_neg z]
theorem worth_c {n : Int} (hn : Nb n) {cs : List Int} (hl : cs.length ≤ 4) (hb : ∀ c ∈ cs, c.natAbs ≤ 10000000000000000000000000000000) : c_worth [.dat (cD cs), .dat (.int n)] [] (.dat (.int (hor n cs))) [] := by
  refine ⟨rfl, ?_⟩
  have hor_app : ∀ (a b : List Int), (a.reverse).foldl (fun f c => f * n + c) (hor n b) = hor n (a ++ b) := fun a b => by
    rw [List.foldl_reverse]
    unfold hor
    rw [List.foldr_append]
  have er : (cs.map D.int).reverse = cs.reverse.map D.int := by rw [List.map_reverse]
  show forW _ _ ((cs.map D.int).reverse) _ _
  rw [er]
  refine forW_at D.int (fun pre post S => pre ++ post = cs.reverse ∧ ∃ y3, S = ⟨[some (.dat (cD cs)), some (.dat (.int n)), some (.dat (.int (hor n pre.reverse))), y3], []⟩) [] cs.reverse ?_ ?_ _ ⟨rfl, none, rfl⟩
  · rintro pre c post S ⟨he, y3, rfl⟩ nx' hnx
    have hm : ∀ x ∈ pre.reverse, x ∈ cs := fun x hx => by
      have : x ∈ cs.reverse := by rw [← he]; exact List.mem_append_left _ (List.mem_reverse.mp hx)
      exact List.mem_reverse.mp this
    have hp : pre.reverse.length ≤ 4 := by
      have := congrArg List.length he
      rw [List.length_append, List.length_cons, List.length_reverse] at this
      rw [List.length_reverse]
      omega
    have b1 := hor_b4 hn hp fun x hx => hb x (hm x hx)
    refine And.intro (mul_w (Nat.lt_of_lt_of_le b1 (Nat.pow_le_pow_right (by decide) (by decide))) (Nat.lt_of_lt_of_le hn (Nat.pow_le_pow_right (by decide) (by decide)))) ?_
    have go := hnx ⟨[some (.dat (cD cs)), some (.dat (.int n)), some (.dat (.int (hor n (pre ++ [c]).reverse))), some (.dat (.int c))], []⟩ ⟨by rw [List.append_assoc]; exact he, _, rfl⟩
    rw [List.reverse_append] at go
    exact go
  · rintro pre S ⟨he, y3, rfl⟩
    rw [List.append_nil] at he
    subst he
    rw [List.reverse_reverse]
    exact And.intro rfl rfl
theorem plain_c {n : Int} (hn : Nb n) {ls : List Lot} (hl : ls.length ≤ 1000) (hb : ∀ l ∈ ls, Lb l) : c_plain_value [.dat (.tup (ls.map lD)), .dat (.int n)] [] (.dat (.int (plainQ ls n))) [] := by
  refine ⟨rfl, And.intro (lenI hl) (lcW_filter lD (fun l => D.int (hor n l.2)) (divB n) (fun l hm => ⟨_, rfl, fun R' h' => And.intro (pos_ (hb l hm).1) h', fun _ R' h' => call_ (worth_c hn (hb l hm).2.1 (hb l hm).2.2) h'⟩) ?_)⟩
  exact sumT (fun l : Lot => hor n l.2) (ls.filter (divB n)) (And.intro rfl rfl)
/-! the count itself -/
def InCt (ls : List Lot) (os : List (Int × Int)) : Prop := ls.length ≤ 1000 ∧ os.length ≤ 1000 ∧ Asc 0 (ls.map (·.1)) ∧ Asc 0 (os.map (·.1)) ∧ (∀ l ∈ ls, Lb l) ∧ ∀ p ∈ os, Nb p.1
abbrev ctD (ls : List Lot) (os : List (Int × Int)) : D := .obj 0 [.tup ((shortP ls).map lD), .tup ((shortO ls os).map sD)]
theorem okN_i (i : Int) : okN 0 (.int i) := ⟨rfl, rfl, Nat.le_refl _⟩
theorem ok_cD (cs : List Int) : okD (cD cs) = true := ok_tup (k := 0) (fun d hd => by obtain ⟨i, _, rfl⟩ := List.mem_map.mp hd; exact okN_i i) (by decide)
theorem eqD_cD0 : ∀ cs : List Int, eqD (cD cs) (.tup []) = cs.isEmpty
  | [] => by decide
  | c :: cs => by
    show PyData.eqv (.tuple (D.py (.int c) :: D.pys (cs.map D.int))) (.tuple []) = false
    simp [PyData.eqv, PyData.eqvAll]
theorem init_c {ls : List Lot} {os : List (Int × Int)} (h : InCt ls os) : c_Count___init__ [.cel 0, .dat (.tup (ls.map lD)), .dat (.tup (os.map sD))] [.ins 0 []] (.dat .non) [.ins 0 [("short_parts", .tup ((shortP ls).map lD)), ("short_odd", .tup ((shortO ls os).map sD))]] := by
  obtain ⟨h1, h2, h3, h4, h5, h6⟩ := h
  refine ⟨rfl, call_ (areparts_c (by omega) h3 fun l hl => (h5 l hl).2.1) (Br.ff rfl (call_ (areodd_c (by omega) h4) (Br.ff rfl ?_)))⟩
  refine And.intro (lenI (by omega)) (lcW_map lD (fun l => lD (shL l)) (fun l _ => ⟨_, rfl, fun R' h' => call_ cut_c (And.intro (szk 2) h')⟩) ?_)
  have e1 : (ls.map fun l => lD (shL l)) = (ls.map shL).map lD := by rw [List.map_map]; rfl
  rw [e1]
  refine And.intro (lenI (by rw [List.length_map]; omega)) (lcW_filter lD lD neB (fun l _ => ⟨_, rfl, fun R' h' => And.intro (szk 0) (And.intro (ok_cD _) (And.intro rfl ?_)), fun _ R' h' => h'⟩) ?_)
  · show R' (true.xor (eqD (cD l.2) (.tup []))) _
    rw [eqD_cD0, Bool.true_xor]
    exact h'
  refine And.intro rfl (And.intro rfl (And.intro (show 0 < 1000 by decide) ?_))
  refine And.intro (lenI (by omega)) (lcW_filter sD sD (odB ls) (fun p hp => ⟨_, rfl, fun R' h' => And.intro rfl (call_ (plain_c (h6 p hp) (Nat.le_trans (short_plen ls) (by omega)) (short_lb h5)) h'), fun _ R' h' => h'⟩) ?_)
  exact And.intro rfl (And.intro rfl (And.intro (show 1 < 1000 by decide) (And.intro rfl rfl)))

/-! ### texts of numbers, walked -/
open TL
open PySem.NumText (AllDigits digitsVal)
theorem lt_emp : ("" : Str) = mkS [] := mk_eq (by decide +kernel)
theorem lt_mi : ("-" : Str) = mkS [45] := mk_eq (by decide +kernel)
theorem lt_dg : ("0123456789" : Str) = mkS [48, 49, 50, 51, 52, 53, 54, 55, 56, 57] := mk_eq (by decide +kernel)
theorem app_mk (l m : List Nat) : mkS l ++ mkS m = mkS (l ++ m) := mk_eq (by rw [tl_append])
theorem dec_mk (l m : List Nat) : decide (mkS l = mkS m) = decide (l = m) := dec_str _ _
theorem join_one (l : List Nat) : Txt.join (mkS []) [mkS l] = mkS l := by
  rw [join_eq]
  exact mk_eq (by rw [tl_join]; rfl)
theorem lg60 {n : Nat} (h : n < 10 ^ 60) : n.log2 < 1920 := by
  by_cases z : n = 0
  · rw [z]; decide
  · refine (Nat.log2_lt z).mpr (Nat.lt_of_lt_of_le h (Nat.le_trans (m := 2 ^ 200) (by decide) (Nat.pow_le_pow_right (by decide) (by decide))))
theorem szs {n : Nat} (h : n ≤ 100000) : n ≤ sizeLine := Nat.le_trans h (by decide)
theorem cut_hi (l : List Nat) (k : Nat) : cutS (mkS l) none (some (k : Int)) = mkS (l.take k) := by
  unfold cutS
  rw [HT.sIx_none, HT.sIx_nat, len_mkS]
  show mkS ((l.drop 0).take (min k l.length - 0)) = _
  rw [List.drop_zero, Nat.sub_zero]
  refine congrArg mkS ?_
  by_cases h : k ≤ l.length
  · rw [Nat.min_eq_left h]
  · rw [Nat.min_eq_right (by omega), List.take_of_length_le (Nat.le_refl _), List.take_of_length_le (by omega)]
theorem cut_lo (l : List Nat) (k : Nat) : cutS (mkS l) (some (k : Int)) none = mkS (l.drop k) := by
  unfold cutS
  rw [HT.sIx_none, HT.sIx_nat, len_mkS]
  show mkS ((l.drop (min k l.length)).take (l.length - min k l.length)) = _
  refine congrArg mkS ?_
  by_cases h : k ≤ l.length
  · rw [Nat.min_eq_left h, List.take_of_length_le (by rw [List.length_drop]; exact Nat.le_refl _)]
  · rw [Nat.min_eq_right (by omega), List.drop_length, List.drop_eq_nil_of_le (by omega), List.take_nil]
theorem cut_lh (l : List Nat) (i j : Nat) (hi : i ≤ l.length) (hj : l.length ≤ j) : cutS (mkS l) (some (i : Int)) (some (j : Int)) = mkS (l.drop i) := by
  unfold cutS
  rw [HT.sIx_nat, HT.sIx_nat, len_mkS]
  show mkS ((l.drop (min i l.length)).take (min j l.length - min i l.length)) = _
  rw [Nat.min_eq_left hi, Nat.min_eq_right hj, List.take_of_length_le (by rw [List.length_drop]; exact Nat.le_refl _)]
theorem lt_sp : (" " : Str) = mkS [32] := mk_eq (by decide +kernel)
theorem lt_se : ("; " : Str) = mkS [59, 32] := mk_eq (by decide +kernel)
theorem lt_co : (": " : Str) = mkS [58, 32] := mk_eq (by decide +kernel)
theorem lt_ba : (" | " : Str) = mkS [32, 124, 32] := mk_eq (by decide +kernel)
theorem join_mk (s : List Nat) (ls : List (List Nat)) : Txt.join (mkS s) (ls.map mkS) = mkS (joinL s ls) := mk_eq (by
  rw [join_eq, tl_join, List.map_map]
  exact congrArg (joinL s) (List.map_id' ls))
theorem sg_len (b : Bool) : (sgL b).length ≤ 1 := by cases b <;> decide
theorem numI_len {i : Int} (h : i.natAbs < 10 ^ 60) : (numI i).length ≤ 61 := by
  have a := num_len h
  have b := sg_len (decide (i < 0))
  unfold numI
  rw [List.length_append]
  omega
theorem figI_c {i : Int} (h : i.natAbs < 10 ^ 60) : c_figures [.dat (.int i)] [] (.dat (.str (mkS (numI i)))) [] := by
  have ea : (if i < 0 then -i else i) = (i.natAbs : Int) := by
    by_cases z : i < 0
    · rw [if_pos z]; omega
    · rw [if_neg z]; omega
  have nl := num_len h
  refine ⟨rfl, And.intro (szk 0) ?_⟩
  show w_figures_loop 0 ⟨[some (.dat (.int i)), some (.dat (.int (if i < 0 then -i else i))), some (.cel 0), none], [.lst []]⟩ _
  rw [ea]
  refine Exists.intro (fun _ S => S = ⟨[some (.dat (.int i)), some (.dat (.int (i.natAbs : Int))), some (.cel 0), none], [.lst []]⟩) (Exists.intro 0 (And.intro rfl ?_))
  rintro m S rfl
  refine And.intro ⟨by decide, by decide, by decide⟩ (Br.ff ?_ ?_)
  · show decide ((i.natAbs : Int) ≥ 10 ^ Int.toNat 60) = false
    refine decide_eq_false ?_
    have e : (10 : Int) ^ Int.toNat 60 = ((10 ^ 60 : Nat) : Int) := by decide
    rw [e]
    omega
  · refine And.intro trivial (And.intro (lg60 (by rw [Int.natAbs_natCast]; exact h)) (And.intro (szl 0) (And.intro (Nat.le_refl _) ?_)))
    have sum : ∀ k : Nat, k ≤ 1 → (mkS (numL i.natAbs)).length + 0 + 1 * 0 ≤ 16777216 := fun k _ => by rw [len_mkS]; omega
    refine (show Br (decide (i < 0)) _ _ from ⟨fun z => ?_, fun z => ?_⟩)
    · refine And.intro rfl (Exists.intro [Str.ofString (toString ((i.natAbs : Nat) : Int))] (And.intro rfl ?_))
      rw [num_str, lt_emp, lt_mi]
      refine And.intro (sum 0 (by decide)) ?_
      rw [join_one]
      refine And.intro (by rw [len_mkS, len_mkS]; exact szs (by show 1 + _ ≤ _; omega)) ?_
      rw [app_mk]
      have e : [45] ++ numL i.natAbs = numI i := (numI_neg (of_decide_eq_true z)).symm
      rw [e]
      exact And.intro rfl rfl
    · refine And.intro rfl (Exists.intro [Str.ofString (toString ((i.natAbs : Nat) : Int))] (And.intro rfl ?_))
      rw [num_str, lt_emp]
      refine And.intro (sum 0 (by decide)) ?_
      rw [join_one]
      refine And.intro (by rw [len_mkS, len_mkS]; exact szs (by show 0 + _ ≤ _; omega)) ?_
      rw [app_mk]
      have e : [] ++ numL i.natAbs = numI i := (numI_pos (by have := of_decide_eq_false z; omega)).symm
      rw [e]
      exact And.intro rfl rfl
theorem toldd_c {d : List Nat} (h1 : d ≠ []) (h2 : digL d = true) (h3 : d.length ≤ 31) : c_number_told [.dat (.str (mkS d))] [] (.dat (.int ((digitsVal d : Nat) : Int))) [] := by
  have n0 : 0 < d.length := List.length_pos_iff.mpr h1
  have ni : intText? (mkS d) = some ((digitsVal d : Nat) : Int) := PySem.intText_digits (x := mkS d) (digL_iff.mp h2) h1 (by rw [len_mkS]; omega)
  refine ⟨rfl, And.intro (by rw [len_mkS]; exact szs (by omega)) (And.intro (pos_ (by decide)) ?_)⟩
  show wConsS (wAsg 2 (wIf (wBl (wTwo (wName 1) (wCon (.int 0)) gtW)) (wCb (wCons (wSlcS (wName 0) wO0 (wO1 (wName 1))) wNil) intW1) (wCon (.int 0)))) (w_number_told_loop 0) ⟨[some (.dat (.str (mkS d))), some (.dat (.int (((mkS d).length : Int) % 60))), none, none], []⟩ _
  rw [len_mkS]
  have em : (d.length : Int) % 60 = (d.length : Int) := by omega
  rw [em]
  refine Br.tt (decide_eq_true (by show (d.length : Int) > 0; omega)) (And.intro (by rw [len_mkS]; exact szs (by omega)) ?_)
  show (cutS (mkS d) none (some (d.length : Int))).length ≤ 640 ∧ ∃ k, intText? (cutS (mkS d) none (some (d.length : Int))) = some k ∧ _
  rw [cut_hi, List.take_length]
  refine And.intro (by rw [len_mkS]; omega) (Exists.intro ((digitsVal d : Nat) : Int) (And.intro ni ?_))
  refine And.intro (by rw [len_mkS]; exact szs (by omega)) ?_
  rw [len_mkS]
  refine And.intro ⟨⟨by omega, by omega⟩, ⟨by omega, by omega⟩, by decide, by decide⟩ ?_
  show forW (.nm 3) _ (rangeC (d.length : Int) 60 (stepsC (d.length : Int) (d.length : Int) 60)) _ _
  have er : stepsC (d.length : Int) (d.length : Int) 60 = 0 := if_neg (by omega)
  rw [er]
  exact And.intro rfl rfl
theorem subAt_l (x y : List Nat) (i : Nat) : PySem.Builtin.Str.subAt (mkS x) (mkS y) i = decide ((x.drop i).take y.length = y) := by
  unfold PySem.Builtin.Str.subAt
  show ((x.toArray.extract i (i + y.toArray.size)) == y.toArray) = _
  have e : x.toArray.extract i (i + y.toArray.size) = ((x.drop i).take y.length).toArray := by
    apply Array.ext'
    simp
  rw [e]
  by_cases h : (x.drop i).take y.length = y
  · rw [h, decide_eq_true rfl]
    exact beq_self_eq_true _
  · rw [decide_eq_false h]
    exact beq_eq_false_iff_ne.mpr fun z => h (congrArg Array.toList z)
theorem rmp_mk (l : List Nat) : Txt.removeprefix (mkS l) (mkS [45]) = mkS (rmT l) := by
  refine mk_eq ?_
  unfold Txt.removeprefix rmT
  rw [subAt_l, List.drop_zero]
  by_cases h : l.take 1 = [45]
  · have h1 : l.take [45].length = [45] := h
    rw [if_pos (decide_eq_true h1), if_pos h]
    have l0 : 0 < l.length := by
      cases l with
      | nil => cases h
      | cons c r => exact Nat.succ_pos _
    have ln : (mkS l).length = l.length := len_mkS l
    show tl (if ((mkS l).length - 1 == (mkS l).length) = true then mkS l else PySem.Builtin.Str.strSub (mkS l) 1 (mkS l).length) = l.drop 1
    rw [if_neg (fun z => by have := beq_iff_eq.mp z; omega), tl_strSub_end]
  · have h1 : ¬ (decide (l.take [45].length = [45])) = true := fun z => h (of_decide_eq_true z)
    rw [if_neg h1, if_neg h]
    rfl
abbrev E0' : Exc := ⟨4, [.int 0]⟩
def iD (o : Option Int) : Option D := o.map D.int
theorem any_nd (l : List Nat) : ((l.map fun c => true.xor (decide (c ∈ tl ("0123456789" : Str)))).any id) = !digL l := by
  induction l with
  | nil => rfl
  | cons c r ih =>
    have pq : (true.xor (decide (c ∈ tl ("0123456789" : Str)))) = !isDg c := by
      rw [lt_dg, tl_mkS, Bool.true_xor]
      refine congrArg _ ?_
      by_cases h : 48 ≤ c ∧ c ≤ 57
      · rw [decide_eq_true (by simp only [List.mem_cons, List.not_mem_nil, or_false]; omega)]
        show true = (decide (48 ≤ c) && decide (c ≤ 57))
        rw [decide_eq_true h.1, decide_eq_true h.2]
        rfl
      · rw [decide_eq_false (by simp only [List.mem_cons, List.not_mem_nil, or_false]; omega)]
        show false = (decide (48 ≤ c) && decide (c ≤ 57))
        rw [← Bool.decide_and, decide_eq_false h]
    show ((true.xor (decide (c ∈ tl ("0123456789" : Str)))) || ((r.map fun c => true.xor (decide (c ∈ tl ("0123456789" : Str)))).any id)) = !(isDg c && digL r)
    rw [ih, pq]
    exact (Bool.not_and _ _).symm
/-! ### the readers of numbers -/
theorem intof_c {l : List Nat} (ok : Okv l) : Rdc c_integer_of c_integer_ofX E0' [.dat (.str (mkS l))] (iD (pInt l)) := by
  have nl := ok.len
  refine rdc_of rfl fun P hP => ?_
  refine And.intro rfl (And.intro (by rw [len_mkS]; exact szs (by omega)) ?_)
  rw [lt_mi, rmp_mk]
  have rl : (rmT l).length ≤ l.length := by
    unfold rmT
    split
    · rw [List.length_drop]; omega
    · exact Nat.le_refl _
  refine And.intro (by rw [len_mkS]; exact szs (by omega)) ?_
  show Br (false.xor (decide (((mkS (rmT l)).length : Int) = 0))) _ _
  rw [len_mkS]
  by_cases z : rmT l = []
  · have hN : pInt l = none := if_pos (.inl z)
    rw [hN] at hP
    rw [z]
    exact Br.tt rfl (Br.tt rfl (by exact hP _ rfl))
  · have z0 : ((rmT l).length : Int) ≠ 0 := fun y => z (List.length_eq_zero_iff.mp (by omega))
    refine Br.ff (by rw [decide_eq_false z0]; rfl) ?_
    show (chD (mkS (rmT l))).length < sizeLine ∧ lcW _ _ _ _ ((rmT l).map fun c => D.str (mkS [c])) _ _
    refine And.intro (by unfold chD; rw [List.length_map]; exact Nat.lt_of_le_of_lt (Nat.le_trans rl nl) (by decide)) (lcW_map (fun c => D.str (mkS [c])) (fun c => D.bl (true.xor (decide (c ∈ tl ("0123456789" : Str))))) (fun c _ => ⟨_, rfl, fun R' h' => Exists.intro c (And.intro rfl h')⟩) ?_)
    have em : ((rmT l).map fun c => D.bl (true.xor (decide (c ∈ tl ("0123456789" : Str))))) = ((rmT l).map fun c => true.xor (decide (c ∈ tl ("0123456789" : Str)))).map D.bl := by rw [List.map_map]; rfl
    rw [em]
    refine blsW_i ?_
    rw [any_nd]
    cases d : digL (rmT l) with
    | false =>
      have hN : pInt l = none := if_pos (.inr d)
      rw [hN] at hP
      exact Br.tt rfl (by exact hP _ rfl)
    | true =>
      have hS : pInt l = some (if rmT l = l then ((digitsVal (rmT l) : Nat) : Int) else 0 - ((digitsVal (rmT l) : Nat) : Int)) := if_neg (by rintro (y | y); exact z y; rw [d] at y; cases y)
      rw [hS] at hP
      have told := toldd_c z d (rm_len ok.run d)
      refine Br.ff rfl ?_
      refine (show Br (false.xor (decide (mkS (rmT l) = mkS l))) _ _ from ⟨fun y => ?_, fun y => ?_⟩)
      · rw [dec_mk] at y
        have y : rmT l = l := by simpa using y
        rw [if_pos y] at hP
        exact call_ told hP
      · rw [dec_mk] at y
        have y : rmT l ≠ l := by simpa using y
        rw [if_neg y] at hP
        exact call_ told hP
def isD (o : Option (List Int)) : Option D := o.map fun ns => .tup (ns.map D.int)
theorem optL_n {α β : Type} {f : α → Option β} (a : α) (r : List α) (h : f a = none) : optL f (a :: r) = none := by
  show (match f a with | none => none | some y => match optL f r with | none => none | some ys => some (y :: ys)) = none
  rw [h]
theorem optL_s {α β : Type} {f : α → Option β} (a : α) (r : List α) (b : β) (h : f a = some b) : optL f (a :: r) = (optL f r).map (b :: ·) := by
  show (match f a with | none => none | some y => match optL f r with | none => none | some ys => some (y :: ys)) = _
  rw [h]
  cases optL f r <;> rfl
theorem intsof_c {l : List Nat} (ok : Okv l) : Rdc c_integers_of c_integers_ofX E0' [.dat (.str (mkS l))] (isD (pInts l)) := by
  have nl := ok.len
  refine rdc_of rfl fun P hP => ?_
  show wIfS _ _ _ ⟨[some (.dat (.str (mkS l))), none], []⟩ _
  refine (show Br (false.xor (decide (mkS l = "-"))) _ _ from ⟨fun y => ?_, fun y => ?_⟩)
  · rw [lt_mi, dec_mk] at y
    have y : l = [45] := by simpa using y
    have e : pInts l = some [] := if_pos y
    rw [e] at hP
    exact And.intro (szk 0) hP
  · rw [lt_mi, dec_mk] at y
    have y : l ≠ [45] := by simpa using y
    have e : pInts l = optL pInt (spl [32] 0 [] l) := if_neg y
    rw [e] at hP
    have cn := spl_cnt (S := [32]) l 0 []
    refine And.intro rfl (And.intro rfl (And.intro (by rw [len_mkS]; exact szs (by omega)) ?_))
    show ((Txt.split (mkS l) " ").map D.str).length < sizeLine ∧ lcXW (.nm 1) wYes (wFnX c_integer_of c_integer_ofX (wCons (wName 1) wNil)) _ _ ((Txt.split (mkS l) " ").map D.str) _ _
    rw [lt_sp, spl_tl _ _ (by decide) (by decide), List.map_map]
    refine And.intro (by rw [List.length_map]; exact Nat.lt_of_le_of_lt (Nat.le_trans cn (Nat.succ_le_succ nl)) (by decide)) ?_
    refine lcXW_opt (f := pInt) (opt := optL pInt) (t := D.int) (x := E0') rfl optL_n optL_s (fun a ha => ⟨_, rfl, fun R' Rx' h => callX_ (intof_c (ok.spl a ha)) rfl ?_⟩) ?_
    · cases hp : pInt a with
      | none => rw [hp] at h; exact h
      | some i => rw [hp] at h; exact h
    · cases hp : optL pInt (spl [32] 0 [] l) with
      | none => rw [hp] at hP; exact hP _ rfl
      | some ns => rw [hp] at hP; exact hP

/-! ### readers of pairs; the texts told by the program -/
open TL
theorem szS {n : Nat} (h : n ≤ 10000000) : n ≤ sizeLine := Nat.le_trans h (by decide)
section
variable {acc m : List Nat} {ws : List WpE} {sl : Sls} {cs : List Cell} {R : Str → List Cell → Prop} {Rx : RX}
theorem jvL (h : (acc ++ m).length ≤ 10000000) : (mkS acc ++ mkS m).length ≤ sizeLine := by
  rw [app_mk, len_mkS]
  exact szS h
theorem jvC {s : Str} (e : s = mkS m) (h : (acc ++ m).length ≤ 10000000) (k : wJs ws (mkS (acc ++ m)) sl cs R Rx) : wJs (wCon (.str s) :: ws) (mkS acc) sl cs R Rx := by
  subst e
  refine Exists.intro (mkS m) (And.intro rfl (And.intro (jvL h) ?_))
  rw [app_mk]
  exact k
theorem jvS (h : (acc ++ m).length ≤ 10000000) (k : wJs ws (mkS (acc ++ m)) sl cs R Rx) : fmtW (.dat (.str (mkS m))) cs (fun s c => ∃ y, s = .dat (.str y) ∧ (mkS acc ++ y).length ≤ sizeLine ∧ wJs ws (mkS acc ++ y) sl c R Rx) := by
  refine And.intro ?_ (Exists.intro (mkS m) (And.intro rfl (And.intro (jvL h) ?_)))
  · rw [len_mkS]
    exact szS (by rw [List.length_append] at h; omega)
  · rw [app_mk]
    exact k
end
theorem spl_ne (S l : List Nat) (k : Nat) (acc : List Nat) : spl S k acc l ≠ [] := by
  induction l generalizing k acc with
  | nil => rw [spl_nil]; simp
  | cons c r ih =>
    match k with
    | k + 1 => exact ih k acc
    | 0 =>
      by_cases e : pre S (c :: r) = true
      · rw [spl_hit e]; simp
      · rw [spl_miss (by simpa using e)]; exact ih 0 (acc ++ [c])
theorem wFnX_ {c : Ct} {cx : CtX} {x : Exc} {wA : WpA} {d : D} {sl : Sls} {cs : List Cell} {R : RV} {Rx : RX} {o : Option D} (hw : ∀ (R : RA) (Rx : RX), R [.dat d] cs → wA sl cs R Rx) (h : Rdc c cx x [.dat d] o) (q : OW o (fun e => R (.dat e) cs) (Rx x cs)) : wFnX c cx wA sl cs R Rx := hw _ _ (callX_ h rfl q)
def lotD (o : Option Lot) : Option D := o.map fun l => lD l
theorem pairof_c {l : List Nat} (ok : Okv l) : Rdc c_pair_of c_pair_ofX E0' [.dat (.str (mkS l))] (lotD (pPair l)) := by
  have nl := ok.len
  have cn := spl_cnt (S := [58, 32]) l 0 []
  refine rdc_of rfl fun P hP => ?_
  refine And.intro rfl (And.intro rfl (And.intro (by rw [len_mkS]; exact szs (by omega)) ?_))
  rw [lt_co, spl_tl _ _ (by decide) (by decide), List.map_map]
  match hs : spl [58, 32] 0 [] l with
  | [] => exact absurd hs (spl_ne _ _ _ _)
  | [a] =>
    have e : pPair l = none := by unfold pPair; rw [hs]
    rw [e] at hP
    exact Br.tt rfl (by exact hP _ rfl)
  | a :: b :: c :: r =>
    have e : pPair l = none := by unfold pPair; rw [hs]
    rw [e] at hP
    refine Br.tt ?_ (by exact hP _ rfl)
    show true.xor (decide ((((b :: c :: r).map (D.str ∘ mkS)).length : Int) = 1)) = true
    rw [decide_eq_false (by rw [List.length_map, List.length_cons, List.length_cons]; omega)]
    rfl
  | [a, b] =>
    have oka := ok.spl a (by rw [hs]; exact List.mem_cons_self)
    have okb := ok.spl b (by rw [hs]; exact List.mem_cons_of_mem _ List.mem_cons_self)
    have e : pPair l = (match pInt a with | none => none | some i => match pInts b with | none => none | some r => some (i, r)) := by unfold pPair; rw [hs] <;> rfl
    rw [e] at hP
    have go : wConsS (wRet 0 (wTup (wCons (wFnX c_integer_of c_integer_ofX (wCons (wName 1) wNil)) (wCons (wFnX c_integers_of c_integers_ofX (wCons (wTwo (wName 2) (wCon (.int 0)) ixW) wNil)) wNil)))) wNilS ⟨[some (.dat (.str (mkS l))), some (.dat (.str (mkS a))), some (.dat (.lst [.str (mkS b)]))], []⟩ P := by
      unfold wConsS wRet wTup wCons
      refine wFnX_ (d := .str (mkS a)) (fun R Rx h => h) (intof_c oka) ?_
      cases ha : pInt a with
      | none => rw [ha] at hP; exact hP _ rfl
      | some i =>
        rw [ha] at hP
        refine wFnX_ (wA := wCons (wTwo (wName 2) (wCon (.int 0)) ixW) wNil) (d := .str (mkS b)) (sl := [some (.dat (.str (mkS l))), some (.dat (.str (mkS a))), some (.dat (.lst [.str (mkS b)]))]) (cs := []) (fun R Rx h => h) (intsof_c okb) ?_
        cases hb : pInts b with
        | none => rw [hb] at hP; exact hP _ rfl
        | some ns => rw [hb] at hP; exact And.intro (szk 2) hP
    exact Br.ff rfl go
def lotsD (o : Option (List Lot)) : Option D := o.map fun ls => .tup (ls.map lD)
theorem pairsof_c {l : List Nat} (ok : Okv l) : Rdc c_pairs_of c_pairs_ofX E0' [.dat (.str (mkS l))] (lotsD (pPairs l)) := by
  have nl := ok.len
  refine rdc_of rfl fun P hP => ?_
  refine (show Br (false.xor (decide (mkS l = "-"))) _ _ from ⟨fun y => ?_, fun y => ?_⟩)
  · rw [lt_mi, dec_mk] at y
    have y : l = [45] := by simpa using y
    have e : pPairs l = some [] := if_pos y
    rw [e] at hP
    exact And.intro (szk 0) hP
  · rw [lt_mi, dec_mk] at y
    have y : l ≠ [45] := by simpa using y
    have e : pPairs l = optL pPair (spl [59, 32] 0 [] l) := if_neg y
    rw [e] at hP
    have cn := spl_cnt (S := [59, 32]) l 0 []
    refine And.intro rfl (And.intro rfl (And.intro (by rw [len_mkS]; exact szs (by omega)) ?_))
    show ((Txt.split (mkS l) "; ").map D.str).length < sizeLine ∧ lcXW (.nm 1) wYes (wFnX c_pair_of c_pair_ofX (wCons (wName 1) wNil)) _ _ ((Txt.split (mkS l) "; ").map D.str) _ _
    rw [lt_se, spl_tl _ _ (by decide) (by decide), List.map_map]
    refine And.intro (by rw [List.length_map]; exact Nat.lt_of_le_of_lt (Nat.le_trans cn (Nat.succ_le_succ nl)) (by decide)) ?_
    refine lcXW_opt (f := pPair) (opt := optL pPair) (t := fun l => lD l) (x := E0') rfl optL_n optL_s (fun a ha => ⟨_, rfl, fun R' Rx' h => callX_ (pairof_c (ok.spl a ha)) rfl ?_⟩) ?_
    · cases hp : pPair a with
      | none => rw [hp] at h; exact h
      | some i => rw [hp] at h; exact h
    · cases hp : optL pPair (spl [59, 32] 0 [] l) with
      | none => rw [hp] at hP; exact hP _ rfl
      | some ns => rw [hp] at hP; exact hP
def odsD (o : Option (List (Int × Int))) : Option D := o.map fun os => .tup (os.map sD)
theorem oddof_c {rs : List Lot} (hl : rs.length ≤ 2001) : Rdc c_odd_of c_odd_ofX E0' [.dat (.tup (rs.map lD))] (odsD (pOdd rs)) := by
  refine rdc_of rfl fun P hP => ?_
  have ne : ∀ r : Lot, true.xor (decide ((((r.2.map D.int).length : Nat) : Int) = 1)) = !decide (r.2.length = 1) := fun r => by
    rw [List.length_map, Bool.true_xor]
    refine congrArg _ (decide_eq_decide.mpr ⟨fun h => ?_, fun h => ?_⟩) <;> omega
  refine And.intro (by rw [List.length_map]; exact Nat.lt_of_le_of_lt hl (by decide)) (lcW_map lD (fun r => D.bl (!decide (r.2.length = 1))) (fun r _ => ⟨_, rfl, fun R' h' => ?_⟩) ?_)
  · show R' (.dat (.bl (true.xor (decide ((((r.2.map D.int).length : Nat) : Int) = 1))))) _
    rw [ne r]
    exact h'
  have em : (rs.map fun r => D.bl (!decide (r.2.length = 1))) = (rs.map fun r => !decide (r.2.length = 1)).map D.bl := by rw [List.map_map]; rfl
  rw [em]
  refine blsW_i ?_
  have ea : ((rs.map fun r => !decide (r.2.length = 1)).any id) = !(rs.all fun r => decide (r.2.length = 1)) := by
    rw [List.not_all_eq_any_not, List.any_map]
    rfl
  rw [ea]
  cases hA : rs.all fun r => decide (r.2.length = 1) with
  | false =>
    have e : pOdd rs = none := if_neg (by rw [hA]; decide)
    rw [e] at hP
    exact Br.tt rfl (by exact hP _ rfl)
  | true =>
    have e : pOdd rs = some (rs.map fun l => (l.1, l.2.headD 0)) := if_pos hA
    rw [e] at hP
    refine Br.ff rfl (And.intro (by rw [List.length_map]; exact Nat.lt_of_le_of_lt hl (by decide)) (lcW_map lD (fun r => sD (r.1, r.2.headD 0)) (fun r hr => ⟨_, rfl, fun R' h' => ?_⟩) ?_))
    · have l1 : r.2.length = 1 := of_decide_eq_true (List.all_eq_true.mp hA r hr)
      obtain ⟨s, ns⟩ := r
      match ns, l1 with
      | [n], _ => exact And.intro (szk 2) h'
    · have e2 : (rs.map fun r => sD (r.1, r.2.headD 0)) = (rs.map fun l => (l.1, l.2.headD 0)).map sD := by rw [List.map_map]; rfl
      rw [e2]
      exact hP
/-! ### texts told -/
theorem jl_len {k : Nat} {s : List Nat} : ∀ {ls : List (List Nat)}, (∀ l ∈ ls, l.length ≤ k) → (joinL s ls).length ≤ (k + s.length) * ls.length
  | [], _ => Nat.zero_le _
  | [l], h => by
    have := h l List.mem_cons_self
    show l.length ≤ (k + s.length) * 1
    omega
  | l :: q :: r, h => by
    have a := h l List.mem_cons_self
    have b := jl_len (s := s) (ls := q :: r) fun x hx => h x (List.mem_cons_of_mem _ hx)
    show (l ++ (s ++ joinL s (q :: r))).length ≤ _
    rw [List.length_append, List.length_append, show (l :: q :: r).length = (q :: r).length + 1 from rfl, Nat.mul_succ]
    omega
theorem lst_len {k : Nat} {s : List Nat} {ls : List (List Nat)} (h : ∀ l ∈ ls, l.length ≤ k) : (lstT s ls).length ≤ (k + s.length) * ls.length + 1 := by
  unfold lstT
  split
  · exact Nat.le_add_left 1 _
  · exact Nat.le_succ_of_le (jl_len h)
theorem sum_len {k : Nat} : ∀ {ls : List (List Nat)}, (∀ l ∈ ls, l.length ≤ k) → ((ls.map mkS).map (·.length)).sum ≤ k * ls.length
  | [], _ => Nat.zero_le _
  | l :: r, h => by
    have a := h l List.mem_cons_self
    have b := sum_len (ls := r) fun x hx => h x (List.mem_cons_of_mem _ hx)
    show (mkS l).length + ((r.map mkS).map (·.length)).sum ≤ k * (r.length + 1)
    rw [len_mkS, Nat.mul_succ]
    omega
theorem joined_c {k : Nat} {s : Str} {sl : List Nat} {ls : List (List Nat)} {R : RV} {cs : List Cell} (es : s = mkS sl) (h : ∀ l ∈ ls, l.length ≤ k) (hb : (k + sl.length) * ls.length ≤ 10000000) (hR : R (.dat (.str (mkS (joinL sl ls)))) cs) : joiW (.dat (.str s)) (.dat (.lst (ls.map fun l => D.str (mkS l)))) cs R := by
  subst es
  refine Exists.intro (ls.map mkS) (And.intro (by rw [List.map_map]; rfl) (And.intro ?_ ?_))
  · have := sum_len h
    rw [len_mkS, List.length_map, Nat.mul_comm ls.length]
    rw [Nat.add_mul] at hb
    omega
  · rw [join_mk]
    exact hR
theorem numI31 {i : Int} (h : B31 i) : (numI i).length ≤ 61 := numI_len (Nat.lt_of_lt_of_le h (Nat.pow_le_pow_right (by decide) (by decide)))
theorem b60 {i : Int} (h : B31 i) : i.natAbs < 10 ^ 60 := Nat.lt_of_lt_of_le h (Nat.pow_le_pow_right (by decide) (by decide))
theorem spaced_c {ns : List Int} (hl : ns.length ≤ 2001) (hb : ∀ n ∈ ns, B31 n) : c_spaced [.dat (.tup (ns.map D.int))] [] (.dat (.str (mkS (spcT ns)))) [] := by
  refine ⟨rfl, ?_⟩
  cases ns with
  | nil => exact Br.ff rfl (And.intro (by show Sl.dat (.str "-") = _; rw [lt_mi]; rfl) rfl)
  | cons n r =>
    refine Br.tt (decide_eq_true (by show ((((n :: r).map D.int).length : Nat) : Int) > 0; rw [List.length_map, List.length_cons]; omega)) (And.intro rfl ?_)
    refine And.intro (by rw [List.length_map]; exact Nat.lt_of_le_of_lt hl (by decide)) (lcW_map D.int (fun i => D.str (mkS (numI i))) (fun i hi => ⟨_, rfl, fun R' h' => call_ (figI_c (b60 (hb i hi))) h'⟩) ?_)
    have em : ((n :: r).map fun i => D.str (mkS (numI i))) = ((n :: r).map numI).map fun l => D.str (mkS l) := by rw [List.map_map]; rfl
    rw [em]
    refine joined_c (k := 61) lt_sp (fun l hl => ?_) (by rw [List.length_map]; show (61 + 1) * _ ≤ _; omega) ?_
    · obtain ⟨i, hi, rfl⟩ := List.mem_map.mp hl
      exact numI31 (hb i hi)
    · refine And.intro ?_ rfl
      unfold spcT
      rw [lst_ne (by simp)]
theorem spc_len {ns : List Int} (hl : ns.length ≤ 2001) (hb : ∀ n ∈ ns, B31 n) : (spcT ns).length ≤ 62 * ns.length + 1 := by
  have := lst_len (k := 61) (s := [32]) (ls := ns.map numI) fun l hl => by
    obtain ⟨i, hi, rfl⟩ := List.mem_map.mp hl
    exact numI31 (hb i hi)
  rw [List.length_map] at this
  exact this
theorem listed_c {k : Nat} {ws : List (List Nat)} (h : ∀ l ∈ ws, l.length ≤ k) (hb : (k + 2) * ws.length ≤ 10000000) : c_listed [.dat (.lst (ws.map fun l => D.str (mkS l)))] [] (.dat (.str (mkS (lstT [59, 32] ws)))) [] := by
  refine ⟨rfl, ?_⟩
  cases ws with
  | nil => exact Br.ff rfl (And.intro (by show Sl.dat (.str "-") = _; rw [lt_mi]; rfl) rfl)
  | cons w r =>
    refine Br.tt (decide_eq_true (by show ((((w :: r).map fun l => D.str (mkS l)).length : Nat) : Int) > 0; rw [List.length_map, List.length_cons]; omega)) (And.intro rfl ?_)
    refine joined_c (k := k) lt_se h hb (And.intro ?_ rfl)
    rw [lst_ne (by simp)]
/-- what is known of a count that is told -/
structure Ctk (ls : List Lot) (os : List (Int × Int)) : Prop where
  l1 : ls.length ≤ 2001
  l2 : os.length ≤ 2001
  b1 : ∀ l ∈ ls, B31 l.1
  b2 : ∀ l ∈ ls, l.2.length ≤ 4
  b3 : ∀ l ∈ ls, ∀ n ∈ l.2, B31 n
  b4 : ∀ p ∈ os, B31 p.1 ∧ B31 p.2
theorem prt_len {l : Lot} (h1 : B31 l.1) (h2 : l.2.length ≤ 4) (h3 : ∀ n ∈ l.2, B31 n) : (prtT l).length ≤ 400 := by
  have a := numI31 h1
  have b := spc_len (by omega) h3
  unfold prtT
  rw [List.length_append, List.length_cons, List.length_cons]
  omega
theorem odt_len {p : Int × Int} (h1 : B31 p.1) (h2 : B31 p.2) : (odtT p).length ≤ 400 := by
  have a := numI31 h1
  have b := numI31 h2
  unfold odtT
  rw [List.length_append, List.length_cons, List.length_cons]
  omega
abbrev coD (ls : List Lot) (os : List (Int × Int)) : D := .obj 0 [.tup (ls.map lD), .tup (os.map sD)]
theorem cpar_c (as bs : List D) : c_Count_parts [.dat (.obj 0 [.tup as, .tup bs])] [] (.dat (.tup as)) [] := ⟨rfl, And.intro rfl (And.intro rfl rfl)⟩
theorem cod_c (as bs : List D) : c_Count_odd [.dat (.obj 0 [.tup as, .tup bs])] [] (.dat (.tup bs)) [] := ⟨rfl, And.intro rfl (And.intro rfl rfl)⟩
theorem prtl_c {l : Lot} (h1 : B31 l.1) (h2 : l.2.length ≤ 4) (h3 : ∀ n ∈ l.2, B31 n) {x0 x1 x4 x5 : Option Sl} {R : RV} (hR : R (.dat (.str (mkS (prtT l)))) []) :
    wJoin [wFmt (wFn c_figures (wCons (wName 2) wNil)), wCon (.str ": "), wFmt (wFn c_spaced (wCons (wName 3) wNil))] [x0, x1, some (.dat (.int l.1)), some (.dat (cD l.2)), x4, x5] [] R noX := by
  have a := numI31 h1
  have b := spc_len (by omega) h3
  refine call_ (figI_c (b60 h1)) (jvS (acc := []) (m := numI l.1) (by rw [List.nil_append]; omega) (jvC (m := [58, 32]) lt_co (by rw [List.nil_append, List.length_append]; show _ + 2 ≤ _; omega) (call_ (spaced_c (by omega) h3) (jvS (m := spcT l.2) (by simp only [List.length_append, List.nil_append, List.length_cons, List.length_nil]; omega) ?_))))
  have e : ([] ++ numI l.1 ++ [58, 32]) ++ spcT l.2 = prtT l := by
    unfold prtT
    simp
  rw [e]
  exact hR
theorem odtl_c {p : Int × Int} (h1 : B31 p.1) (h2 : B31 p.2) {x0 x1 x3 x4 : Option Sl} {R : RV} (hR : R (.dat (.str (mkS (odtT p)))) []) :
    wJoin [wFmt (wFn c_figures (wCons (wName 2) wNil)), wCon (.str ": "), wFmt (wFn c_figures (wCons (wName 5) wNil))] [x0, x1, some (.dat (.int p.1)), x3, x4, some (.dat (.int p.2))] [] R noX := by
  have a := numI31 h1
  have b := numI31 h2
  refine call_ (figI_c (b60 h1)) (jvS (acc := []) (m := numI p.1) (by rw [List.nil_append]; omega) (jvC (m := [58, 32]) lt_co (by rw [List.nil_append, List.length_append]; show _ + 2 ≤ _; omega) (call_ (figI_c (b60 h2)) (jvS (m := numI p.2) (by simp only [List.length_append, List.nil_append, List.length_cons, List.length_nil]; omega) ?_))))
  have e : ([] ++ numI p.1 ++ [58, 32]) ++ numI p.2 = odtT p := by
    unfold odtT
    simp
  rw [e]
  exact hR
theorem show_c {ls : List Lot} {os : List (Int × Int)} (h : Ctk ls os) : c_show_count [.dat (coD ls os)] [] (.dat (.str (mkS (ctxT ls os)))) [] := by
  have h1 := h.l1
  have h2 := h.l2
  have w1 : ∀ w ∈ ls.map prtT, w.length ≤ 400 := fun w hw => by
    obtain ⟨l, hl, rfl⟩ := List.mem_map.mp hw
    exact prt_len (h.b1 l hl) (h.b2 l hl) (h.b3 l hl)
  have w2 : ∀ w ∈ os.map odtT, w.length ≤ 400 := fun w hw => by
    obtain ⟨p, hp, rfl⟩ := List.mem_map.mp hw
    exact odt_len (h.b4 p hp).1 (h.b4 p hp).2
  refine ⟨rfl, ?_⟩
  refine And.intro rfl (call_ (cpar_c _ _) (And.intro (by rw [List.length_map]; exact Nat.lt_of_le_of_lt h1 (by decide)) (lcW_map (fun l => lD l) (fun l => D.str (mkS (prtT l))) (fun l hl => ⟨_, rfl, fun R' h' => prtl_c (h.b1 l hl) (h.b2 l hl) (h.b3 l hl) h'⟩) ?_)))
  have e1 : (ls.map fun l => D.str (mkS (prtT l))) = (ls.map prtT).map fun l => D.str (mkS l) := by rw [List.map_map]; rfl
  rw [e1]
  refine And.intro rfl (call_ (cod_c _ _) (And.intro (by rw [List.length_map]; exact Nat.lt_of_le_of_lt h2 (by decide)) (lcW_map (fun p => sD p) (fun p => D.str (mkS (odtT p))) (fun p hp => ⟨_, rfl, fun R' h' => odtl_c (h.b4 p hp).1 (h.b4 p hp).2 h'⟩) ?_)))
  have e2 : (os.map fun p => D.str (mkS (odtT p))) = (os.map odtT).map fun l => D.str (mkS l) := by rw [List.map_map]; rfl
  rw [e2]
  have a := lst_len (s := [59, 32]) w1
  have b := lst_len (s := [59, 32]) w2
  rw [List.length_map] at a b
  have a : (lstT [59, 32] (ls.map prtT)).length ≤ 402 * ls.length + 1 := a
  have b : (lstT [59, 32] (os.map odtT)).length ≤ 402 * os.length + 1 := b
  refine call_ (listed_c w1 (by rw [List.length_map]; omega)) (jvS (acc := []) (m := lstT [59, 32] (ls.map prtT)) (by rw [List.nil_append]; omega) (jvC (m := [32, 124, 32]) lt_ba (by rw [List.nil_append, List.length_append]; show _ + 3 ≤ _; omega) (call_ (listed_c w2 (by rw [List.length_map]; omega)) (jvS (m := lstT [59, 32] (os.map odtT)) (by simp only [List.length_append, List.nil_append, List.length_cons, List.length_nil]; omega) ?_))))
  have e : ([] ++ lstT [59, 32] (ls.map prtT) ++ [32, 124, 32]) ++ lstT [59, 32] (os.map odtT) = ctxT ls os := by
    unfold ctxT
    simp
  rw [e]
  exact And.intro rfl rfl
abbrev sxD (p : Int) (cs os : List Int) (m1 m2 : D) : D := .obj 1 [.int p, .tup (cs.map D.int), .tup (os.map D.int), m1, m2]
theorem speri_c (p a b m1 m2 : D) : c_Sizes_period [.dat (.obj 1 [p, a, b, m1, m2])] [] (.dat p) [] := ⟨rfl, And.intro rfl (And.intro rfl rfl)⟩
theorem sclas_c (p a b m1 m2 : D) : c_Sizes_classes [.dat (.obj 1 [p, a, b, m1, m2])] [] (.dat a) [] := ⟨rfl, And.intro rfl (And.intro rfl rfl)⟩
theorem sodd_c (p a b m1 m2 : D) : c_Sizes_odd [.dat (.obj 1 [p, a, b, m1, m2])] [] (.dat b) [] := ⟨rfl, And.intro rfl (And.intro rfl rfl)⟩
theorem shows_c {p : Int} {cs os : List Int} {m1 m2 : D} (hp : B31 p) (hc : cs.length ≤ 2001) (ho : os.length ≤ 2001) (bc : ∀ n ∈ cs, B31 n) (bo : ∀ n ∈ os, B31 n) : c_show_sizes [.dat (sxD p cs os m1 m2)] [] (.dat (.str (mkS (szxT p cs os)))) [] := by
  have a := numI31 hp
  have b := spc_len hc bc
  have c := spc_len ho bo
  refine ⟨rfl, ?_⟩
  refine And.intro rfl (call_ (speri_c _ _ _ _ _) (call_ (figI_c (b60 hp)) (jvS (acc := []) (m := numI p) (by rw [List.nil_append]; omega) (jvC (m := [32, 124, 32]) lt_ba (by rw [List.nil_append, List.length_append]; show _ + 3 ≤ _; omega) ?_))))
  refine And.intro rfl (call_ (sclas_c _ _ _ _ _) (call_ (spaced_c hc bc) (jvS (m := spcT cs) (by simp only [List.length_append, List.nil_append, List.length_cons, List.length_nil]; omega) (jvC (m := [32, 124, 32]) lt_ba (by simp only [List.length_append, List.nil_append, List.length_cons, List.length_nil]; omega) ?_))))
  refine And.intro rfl (call_ (sodd_c _ _ _ _ _) (call_ (spaced_c ho bo) (jvS (m := spcT os) (by simp only [List.length_append, List.nil_append, List.length_cons, List.length_nil]; omega) ?_)))
  have e : ([] ++ numI p ++ [32, 124, 32] ++ spcT cs ++ [32, 124, 32]) ++ spcT os = szxT p cs os := by
    unfold szxT
    simp
  rw [e]
  exact And.intro rfl rfl

/-! ### counts made of any whole numbers; read_count of any text -/
open TL
section
variable {α : Type} (f : α → Int) (g : α → D)
theorem asc_for {x0 : Option Sl} {Q : PJ} : ∀ (post : List α) (a : Int) (y2 y3 : Option Sl), Q.rt (.dat (.bl (ascB a (post.map f)))) [] →
    forW (.tp [.nm 2, .nm 3]) (wConsS (wIfS (wOrT (wNotT (wTru (wFn c_is_integer (wCons (wName 2) wNil)))) (wBl (wTwo (wName 2) (wName 1) leW))) (wConsS (wRet 0 (wCon (.bl false))) wNilS) wNilS) (wConsS (wAsg 1 (wName 2)) wNilS))
      (post.map fun x => .tup [.int (f x), g x]) ⟨[x0, some (.dat (.int a)), y2, y3], []⟩ { Q with nx := fun S' => wConsS (wRet 0 (wCon (.bl true))) wNilS S' Q }
  | [], a, y2, y3, h => h
  | x :: r, a, y2, y3, h => by
    have h : Q.rt (.dat (.bl (decide (a < f x) && ascB (f x) (r.map f)))) [] := h
    refine call_ (isint_c _) (Br.ff rfl (Br.dec (fun z => ?_) (fun z => ?_)))
    · rw [decide_eq_false (by omega)] at h
      exact h
    · rw [decide_eq_true (by omega)] at h
      exact asc_for r (f x) _ _ h
theorem ascend_g {l : List α} : c_ascend [.dat (.tup (l.map fun x => .tup [.int (f x), g x]))] [] (.dat (.bl (ascB 0 (l.map f)))) [] := ⟨rfl, asc_for f g l 0 none none ⟨rfl, rfl⟩⟩
theorem arepairs_g {l : List α} (hl : l.length ≤ 1000) : c_are_pairs [.dat (.tup (l.map fun x => .tup [.int (f x), g x]))] [] (.dat (.bl (ascB 0 (l.map f)))) [] := by
  refine ⟨rfl, Br.ff rfl (And.intro (lenI hl) (lcW_map (fun x => D.tup [.int (f x), g x]) (fun _ => D.bl true) (fun x _ => ⟨_, rfl, fun R' h' => Br.tt rfl h'⟩) ?_))⟩
  dsimp only [wNil]
  refine allT l ?_
  exact Br.ff rfl (call_ (ascend_g f g) (And.intro rfl rfl))
end
theorem allN {α : Type} (l : List α) (f : α → Bool) {R : RV} {cs : List Cell} (h : R (.dat (.bl (l.all f))) cs) : allW [.dat (.lst (l.map fun x => D.bl (f x)))] cs R := by
  have e : (l.map fun x => D.bl (f x)) = (l.map f).map D.bl := by rw [List.map_map]; rfl
  rw [e]
  refine blsW_i (ns := l.map f) ?_
  have e2 : (l.map f).all id = l.all f := by rw [List.all_map]; rfl
  rw [e2]
  exact h
theorem areparts_g {ls : List Lot} (hl : ls.length ≤ 1000) (hb : ∀ l ∈ ls, l.2.length ≤ 2001) : c_are_parts [.dat (.tup (ls.map lD))] [] (.dat (.bl (okP ls))) [] := by
  have ai : ∀ l ∈ ls, c_are_integers [.dat (cD l.2)] [] (.dat (.bl true)) [] := fun l hm => by
    refine ⟨rfl, Br.tt rfl (And.intro (by rw [List.length_map]; exact Nat.lt_of_le_of_lt (hb l hm) (by decide)) (lcW_map D.int (fun _ => D.bl true) (fun i _ => ⟨_, rfl, fun R' h' => call_ (isint_c i) h'⟩) ?_))⟩
    exact allT l.2 (And.intro rfl rfl)
  refine ⟨rfl, call_ (arepairs_g (fun l : Lot => l.1) (fun l => cD l.2) hl) ?_⟩
  show Br (!ascB 0 (ls.map fun l => l.1)) _ _
  unfold okP
  cases hA : ascB 0 (ls.map fun l => l.1) with
  | false => exact Br.tt rfl (And.intro rfl rfl)
  | true =>
    refine Br.ff rfl (And.intro (lenI hl) (lcW_map lD (fun l => D.bl (decide (l.2.length ≤ 4))) (fun l hm => ⟨_, rfl, fun R' h' => ?_⟩) (allN ls (fun l => decide (l.2.length ≤ 4)) (And.intro rfl rfl))))
    refine call_ (ai l hm) (Br.tt rfl ?_)
    have e : decide ((((l.2.map D.int).length : Nat) : Int) ≤ 4) = decide (l.2.length ≤ 4) := decide_eq_decide.mpr (by rw [List.length_map]; omega)
    show R' (.dat (.bl (decide ((((l.2.map D.int).length : Nat) : Int) ≤ 4)))) []
    rw [e]
    exact h'
theorem areodd_g {os : List (Int × Int)} (hl : os.length ≤ 1000) : c_are_odd [.dat (.tup (os.map sD))] [] (.dat (.bl (okO os))) [] := by
  refine ⟨rfl, call_ (arepairs_g (fun p : Int × Int => p.1) (fun p => .int p.2) hl) ?_⟩
  unfold okO
  cases hA : ascB 0 (os.map fun p => p.1) with
  | false => exact Br.ff rfl (And.intro rfl rfl)
  | true => exact Br.tt rfl (And.intro (lenI hl) (lcW_map sD (fun _ => D.bl true) (fun p _ => ⟨_, rfl, fun R' h' => call_ (isint_c _) h'⟩) (allT os (And.intro rfl rfl))))
/-- C.__init__ refuses -/
theorem init_x {ls : List Lot} {os : List (Int × Int)} (l1 : ls.length ≤ 1000) (l2 : os.length ≤ 1000) (hb : ∀ l ∈ ls, l.2.length ≤ 2001) (h : ¬ (okP ls = true ∧ okO os = true)) : ∃ w : Str, c_Count___init__X [.cel 0, .dat (.tup (ls.map lD)), .dat (.tup (os.map sD))] [.ins 0 []] ⟨2, [.str w]⟩ [.ins 0 []] := by
  cases hP : okP ls with
  | false =>
    have a := areparts_g l1 hb
    rw [hP] at a
    exact ⟨"parts", rfl, call_ a (Br.tt rfl (And.intro rfl rfl))⟩
  | true =>
    have a := areparts_g l1 hb
    rw [hP] at a
    have hO : okO os = false := by
      cases e : okO os with
      | false => rfl
      | true => exact absurd ⟨hP, e⟩ h
    have b := areodd_g l2
    rw [hO] at b
    exact ⟨"odd", rfl, call_ a (Br.ff rfl (call_ b (Br.tt rfl (And.intro rfl rfl))))⟩
theorem inct_of {ls : List Lot} {os : List (Int × Int)} (l1 : ls.length ≤ 1000) (l2 : os.length ≤ 1000) (hb : ∀ l ∈ ls, BL l) (hc : ∀ p ∈ os, B31 p.1 ∧ B31 p.2) (h1 : okP ls = true) (h2 : okO os = true) : InCt ls os := by
  unfold okP at h1
  rw [Bool.and_eq_true] at h1
  have a1 := ascB_iff.mp h1.1
  have a2 := ascB_iff.mp h2
  refine ⟨l1, l2, a1, a2, fun l hl => ⟨Asc.gt a1 l.1 (List.mem_map_of_mem hl), of_decide_eq_true (List.all_eq_true.mp h1.2 l hl), fun c hc => ?_⟩, fun p hp => ?_⟩
  · have := (hb l hl).2.2 c hc
    have this : c.natAbs < 10 ^ 31 := this
    have e : (10 : Nat) ^ 31 = 10000000000000000000000000000000 := by decide
    omega
  · exact Nat.lt_of_lt_of_le (hc p hp).1 (by decide)
theorem ctk_of {ls : List Lot} {os : List (Int × Int)} (l1 : ls.length ≤ 1000) (l2 : os.length ≤ 1000) (hb : ∀ l ∈ ls, BL l) (hc : ∀ p ∈ os, B31 p.1 ∧ B31 p.2) (h1 : okP ls = true) : Ctk (shortP ls) (shortO ls os) := by
  unfold okP at h1
  rw [Bool.and_eq_true] at h1
  refine ⟨Nat.le_trans (short_plen ls) (by omega), Nat.le_trans (List.length_filter_le _ _) (by omega), fun l hl => ?_, fun l hl => ?_, fun l hl n hn => ?_, fun p hp => hc p (shortO_in hp)⟩
  · obtain ⟨q, hq, rfl⟩ := shortP_in hl
    exact (hb q hq).1
  · obtain ⟨q, hq, rfl⟩ := shortP_in hl
    exact Nat.le_trans (cutL_len q.2) (of_decide_eq_true (List.all_eq_true.mp h1.2 q hq))
  · obtain ⟨q, hq, rfl⟩ := shortP_in hl
    exact (hb q hq).2.2 n (cutL_mem hn)
theorem wFnX2_ {c1 c2 : Ct} {x1 x2 : CtX} {x : Exc} {wA : WpA} {d : D} {sl : Sls} {cs : List Cell} {R : RV} {Rx : RX} {o1 : Option D} {o2 : D → Option D} (hw : ∀ (R : RA) (Rx : RX), R [.dat d] cs → wA sl cs R Rx) (h1 : Rdc c1 x1 x [.dat d] o1) (h2 : ∀ e, o1 = some e → Rdc c2 x2 x [.dat e] (o2 e))
    (q : OW o1 (fun e => OW (o2 e) (fun e2 => R (.dat e2) cs) (Rx x cs)) (Rx x cs)) : wFnX c2 x2 (wCons (wFnX c1 x1 wA) wNil) sl cs R Rx := by
  show wFnX c1 x1 wA sl cs (fun s c => wNil sl c (fun ss c' => callXW c2 x2 (s :: ss) c' R Rx) Rx) Rx
  refine wFnX_ hw h1 ?_
  match o1, h2, q with
  | some e, h2, q =>
    show callXW c2 x2 [.dat e] cs R Rx
    exact callX_ (h2 e rfl) rfl q
  | none, _, q => exact q
def coO (o : Option (List Lot × List (Int × Int))) : Option D := o.map fun q => coD q.1 q.2
theorem rcnt_c {l : List Nat} (ok : Okv l) : Rdc c_read_count c_read_countX E0' [.dat (.str (mkS l))] (coO (rcO l)) := by
  have nl := ok.len
  refine rdc_of rfl fun P hP => ?_
  refine And.intro rfl (And.intro rfl (And.intro (by rw [len_mkS]; exact szs (by omega)) ?_))
  rw [lt_ba, spl_tl _ _ (by decide) (by decide), List.map_map]
  match hs : spl [32, 124, 32] 0 [] l with
  | [] => exact absurd hs (spl_ne _ _ _ _)
  | [a] =>
    have e : rcO l = none := by unfold rcO; rw [hs]
    rw [e] at hP
    exact Br.tt rfl (by exact hP _ rfl)
  | a :: b :: c :: r =>
    have e : rcO l = none := by unfold rcO; rw [hs]
    rw [e] at hP
    refine Br.tt ?_ (by exact hP _ rfl)
    show true.xor (decide ((((a :: b :: c :: r).map (D.str ∘ mkS)).length : Int) = 2)) = true
    rw [decide_eq_false (by rw [List.length_map, List.length_cons, List.length_cons, List.length_cons]; omega)]
    rfl
  | [a, b] =>
    have oka := ok.spl a (by rw [hs]; exact List.mem_cons_self)
    have okb := ok.spl b (by rw [hs]; exact List.mem_cons_of_mem _ List.mem_cons_self)
    have e : rcO l = (match pPairs a with | none => none | some ls => match pPairs b with | none => none | some qs => match pOdd qs with | none => none | some os => if okP ls = true ∧ okO os = true ∧ ctxT (shortP ls) (shortO ls os) = l then some (shortP ls, shortO ls os) else none) := by unfold rcO; rw [hs] <;> rfl
    rw [e] at hP
    have go : wConsS (wTryF mt_InvalidCount 4 (wConsS (wAsg 2 (wMakeKX 0 ["short_parts", "short_odd"] c_Count___init__ c_Count___init__X 2 0 fu_Count_2_ (wCons (wFnX c_pairs_of c_pairs_ofX (wCons (wTwo (wName 1) (wCon (.int 0)) ixW) wNil)) (wCons (wFnX c_odd_of c_odd_ofX (wCons (wFnX c_pairs_of c_pairs_ofX (wCons (wTwo (wName 1) (wCon (.int 1)) ixW) wNil)) wNil)) wNil)) wNil)) wNilS) (wCon (.int 0)))
        (wConsS (wIfS (wBl (wTwo (wFn c_show_count (wCons (wName 2) wNil)) (wName 0) (eqW true))) (wConsS (wRaise1 4 (wCon (.int 0))) wNilS) wNilS) (wConsS (wRet 0 (wName 2)) wNilS))
        ⟨[some (.dat (.str (mkS l))), some (.dat (.lst [.str (mkS a), .str (mkS b)])), none], []⟩ P := by
      unfold wConsS wTryF wAsg wMakeKX wCons
      refine wFnX_ (wA := wCons (wTwo (wName 1) (wCon (.int 0)) ixW) wNil) (d := .str (mkS a)) (sl := [some (.dat (.str (mkS l))), some (.dat (.lst [.str (mkS a), .str (mkS b)])), none]) (cs := []) (fun R Rx h => h) (pairsof_c oka) ?_
      cases h1 : pPairs a with
      | none => rw [h1] at hP; exact hP _ rfl
      | some ls =>
        rw [h1] at hP
        obtain ⟨lb, bb⟩ := pPairs_bd oka h1
        have lc := pPairs_cnt oka h1
        refine wFnX2_ (wA := wCons (wTwo (wName 1) (wCon (.int 1)) ixW) wNil) (d := .str (mkS b)) (sl := [some (.dat (.str (mkS l))), some (.dat (.lst [.str (mkS a), .str (mkS b)])), none]) (cs := []) (o2 := fun _ => odsD ((pPairs b).bind pOdd)) (fun R Rx h => h) (pairsof_c okb) (fun e he => ?_) ?_
        · cases h2 : pPairs b with
          | none => rw [h2] at he; cases he
          | some qs =>
            rw [h2] at he
            cases he
            exact oddof_c (pPairs_bd okb h2).1
        · cases h2 : pPairs b with
          | none => rw [h2] at hP; exact hP _ rfl
          | some qs =>
            rw [h2] at hP
            obtain ⟨_, qb⟩ := pPairs_bd okb h2
            have qc := pPairs_cnt okb h2
            show OW (odsD (pOdd qs)) _ _
            have hP : OW (coO (match pOdd qs with | none => none | some os => if okP ls = true ∧ okO os = true ∧ ctxT (shortP ls) (shortO ls os) = l then some (shortP ls, shortO ls os) else none)) (fun d => P.rt (Sl.dat d) []) (∀ (S : Sta), S.cs = [] → P.ex E0' S) := hP
            cases h3 : pOdd qs with
            | none => rw [h3] at hP; exact hP _ rfl
            | some os =>
              rw [h3] at hP
              have hP : OW (coO (if okP ls = true ∧ okO os = true ∧ ctxT (shortP ls) (shortO ls os) = l then some (shortP ls, shortO ls os) else none)) (fun d => P.rt (Sl.dat d) []) (∀ (S : Sta), S.cs = [] → P.ex E0' S) := hP
              obtain ⟨ol, ob⟩ := pOdd_bd qb h3
              refine And.intro rfl (And.intro rfl ?_)
              by_cases hok : okP ls = true ∧ okO os = true
              · have ctk := ctk_of lc (by omega) bb ob hok.1
                refine .inl (make_ (ds := [.tup ((shortP ls).map lD), .tup ((shortO ls os).map sD)]) (init_c (inct_of lc (by omega) bb ob hok.1 hok.2)) rfl ?_)
                refine call_ (show_c ctk) ?_
                by_cases ht : ctxT (shortP ls) (shortO ls os) = l
                · rw [if_pos ⟨hok.1, hok.2, ht⟩] at hP
                  refine Br.ff ?_ hP
                  show true.xor (decide (mkS (ctxT (shortP ls) (shortO ls os)) = mkS l)) = false
                  rw [ht, decide_eq_true rfl]
                  rfl
                · rw [if_neg fun z => ht z.2.2] at hP
                  refine Br.tt ?_ (by exact hP _ rfl)
                  show true.xor (decide (mkS (ctxT (shortP ls) (shortO ls os)) = mkS l)) = true
                  rw [dec_mk, decide_eq_false ht]
                  rfl
              · obtain ⟨w, hx⟩ := init_x (ls := ls) (os := os) lc (by omega) (fun l hl => (bb l hl).2.1) hok
                rw [if_neg fun z => hok ⟨z.1, z.2.1⟩] at hP
                exact .inr ⟨⟨2, [.str w]⟩, .ins 0 [], hx, by exact hP _ rfl⟩
    exact Br.ff rfl go

/-! ### sets of sizes in the program -/
abbrev nD (n : Nat) : D := .int (n : Int)
abbrev kN (n : Nat) : Key := .inl (n : Int)
abbrev ppD (x : Nat × Nat) : D := .tup [nD x.1, nD x.2]
abbrev mkD (cs : List Nat) : D := .dct (cs.map kN) (cs.map fun _ => .bl true)
theorem mod0 {a b : Nat} : (a : Int) % (b : Int) = 0 ↔ a % b = 0 := by
  rw [← Int.natCast_emod]
  omega
theorem bigN {a k : Nat} (h : a < 2 ^ k) (hk : k ≤ 1000) : ((a : Int)).natAbs < 2 ^ 1000 := Nat.lt_of_lt_of_le h (Nat.pow_le_pow_right (by decide) hk)
theorem mulN {a b : Nat} (ha : a < 2 ^ 300) (hb : b < 2 ^ 300) : IntMulOk (a : Int) (b : Int) := Dl.mul_w (bigN ha (by decide)) (bigN hb (by decide))
theorem divN {a : Int} {b : Nat} (h0 : 0 < b) (hb : b < 2 ^ 300) : CDivW a (b : Int) := wide_div (b := 300) (by omega) hb (by decide) (by decide)
theorem mkD_items (cs : List Nat) : (cs.map kN).map keyOf = cs.map nD := by rw [List.map_map]; rfl
theorem hasK_mk (cs : List Nat) (n : Nat) : hasK ((cs.map kN).zip (cs.map fun _ => D.bl true)) (.inl (n : Int)) = decide (n ∈ cs) := by
  induction cs with
  | nil => rfl
  | cons c cs ih =>
    show (decide (kN c = .inl (n : Int)) || hasK ((cs.map kN).zip (cs.map fun _ => D.bl true)) (.inl (n : Int))) = _
    rw [ih]
    by_cases h : n = c
    · subst h; simp
    · have e : ¬ kN c = .inl (n : Int) := fun z => h (by have := Sum.inl.inj z; omega)
      rw [decide_eq_false e, Bool.false_or]
      simp [h]
abbrev stP (n : Nat) (acc : List (Nat × Nat)) (l p : Nat) (x4 : Option Sl) : Sta := ⟨[some (.dat (nD n)), some (.cel 0), some (.dat (nD l)), some (.dat (nD p)), x4], [.lst (acc.map ppD)]⟩
theorem prest_c {n l p a : Nat} {acc : List (Nat × Nat)} (hl : acc.length < 16777216) {P : PJ} (hP : ∀ x4, P.nx (stP n (acc ++ (if 0 < a then [(p, a)] else [])) l (p + 1) x4)) : w_prime_powers_rest 0 (stP n acc l p (some (.dat (nD a)))) P := by
  refine Br.dec (fun h => ?_) (fun h => ?_)
  · have e := hP (some (.dat (nD a)))
    rw [if_pos (by omega)] at e
    refine And.intro trivial (And.intro (szk 2) (And.intro (show (acc.map ppD).length < sizeLine by rw [List.length_map]; exact hl) ?_))
    rw [show acc.map ppD ++ [ppD (p, a)] = (acc ++ [(p, a)]).map ppD by rw [List.map_append]; rfl]
    exact e
  · have e := hP (some (.dat (nD a)))
    rw [if_neg (by omega), List.append_nil] at e
    exact e
theorem pbody_c {n l p : Nat} {acc : List (Nat × Nat)} {x4 : Option Sl} (hp : 2 ≤ p) (hp2 : p < 2 ^ 300) (h1 : 1 ≤ l) (hl : acc.length < 16777216) {P : PJ} (hP : ∀ x4, P.nx (stP n (acc ++ (if 0 < (dO l l p).2 then [(p, (dO l l p).2)] else [])) (dO l l p).1 (p + 1) x4)) :
    w_prime_powers_body 0 (stP n acc l p x4) P := by
  refine ⟨fun k S => ∃ l2 a, l2 ≤ k ∧ 1 ≤ l2 ∧ (dO k l2 p).1 = (dO l l p).1 ∧ a + (dO k l2 p).2 = (dO l l p).2 ∧ S = stP n acc l2 p (some (.dat (nD a))), l, ⟨l, 0, Nat.le_refl _, h1, rfl, Nat.zero_add _, rfl⟩, ?_⟩
  rintro k S ⟨l2, a, g1, g2, g3, g4, rfl⟩
  match k, g1, g3, g4 with
  | 0, g1, _, _ => omega
  | k + 1, g1, g3, g4 =>
    refine And.intro (show (0 : Int) < (p : Int) by omega) (Br.xf (fun z => ?_) (fun z => ?_))
    · have z := mod0.mp z
      have e : dO (k + 1) l2 p = ((dO k (l2 / p) p).1, (dO k (l2 / p) p).2 + 1) := if_pos z
      rw [e] at g3 g4
      have lt : l2 / p < l2 := Nat.div_lt_self g2 hp
      refine And.intro (divN (by omega) hp2) ⟨k, Nat.lt_succ_self k, l2 / p, a + 1, by omega, Nat.div_pos (Nat.le_of_dvd g2 (Nat.dvd_of_mod_eq_zero z)) (by omega), g3, ?_, rfl⟩
      show a + 1 + (dO k (l2 / p) p).2 = _
      rw [← g4]
      show _ = a + ((dO k (l2 / p) p).2 + 1)
      omega
    · have z : ¬ l2 % p = 0 := fun y => z (mod0.mpr y)
      have e : dO (k + 1) l2 p = (l2, 0) := if_neg z
      rw [e] at g3 g4
      have g3 : l2 = (dO l l p).1 := g3
      have g4 : a = (dO l l p).2 := g4
      rw [g4, g3]
      exact prest_c hl hP
theorem ptail_c {n l p : Nat} {acc : List (Nat × Nat)} {x4 : Option Sl} (hl : acc.length < 16777216) : w_prime_powers_tail 0 (stP n acc l p x4) (endJ 0 (.dat (.lst ((acc ++ ppEnd l).map ppD))) []) := by
  refine Br.dec (fun h => ?_) (fun h => ?_)
  · refine And.intro trivial (And.intro (szk 2) (And.intro (show (acc.map ppD).length < sizeLine by rw [List.length_map]; exact hl) ?_))
    unfold ppEnd
    rw [if_pos (by omega), List.map_append]
    exact And.intro (Nat.le_refl _) (And.intro rfl rfl)
  · unfold ppEnd
    rw [if_neg (by omega), List.append_nil]
    exact And.intro (Nat.le_refl _) (And.intro rfl rfl)
theorem pps_c {n : Nat} (h0 : 1 ≤ n) (hn : n < 10000000000) : c_prime_powers [.dat (nD n)] [] (.dat (.lst ((pp n n 2).map ppD))) [] := by
  refine ⟨rfl, And.intro (szk 0) ?_⟩
  refine ⟨fun m S => ∃ acc l p x4, acc ++ pp m l p = pp n n 2 ∧ 2 ≤ p ∧ p ≤ n + 2 ∧ 1 ≤ l ∧ l ≤ n ∧ l < m + p ∧ acc.length + 2 ≤ p ∧ p ≤ 100002 ∧ S = stP n acc l p x4, n, ⟨[], n, 2, none, rfl, Nat.le_refl _, by omega, h0, Nat.le_refl _, by omega, Nat.le_refl _, by decide, rfl⟩, ?_⟩
  rintro m S ⟨acc, l, p, x4, g1, g2, g3, g4, g5, g6, g7, g8, rfl⟩
  have pb : p < 2 ^ 300 := Nat.lt_of_lt_of_le (show p < 2 ^ 30 by omega) (Nat.pow_le_pow_right (by decide) (by decide))
  refine And.intro (mulN pb pb) (Br.dec (fun h => ?_) (fun h => ?_))
  · have h : p * p ≤ l := by
      have h : ((p : Int)) * (p : Int) ≤ (l : Int) := h
      rw [← Int.natCast_mul] at h
      omega
    have pl : p ≤ l := Nat.le_trans (Nat.le_mul_of_pos_right p (by omega)) h
    have p5 : p < 100001 := Nat.lt_of_not_le fun z => by
      have := Nat.mul_le_mul z z
      omega
    match m, g1, g6 with
    | 0, _, g6 => omega
    | m + 1, g1, g6 =>
      have e : pp (m + 1) l p = (if 0 < (dO l l p).2 then [(p, (dO l l p).2)] else []) ++ pp m (dO l l p).1 (p + 1) := if_pos h
      rw [e, ← List.append_assoc] at g1
      obtain ⟨a, b, c⟩ := dO_ok g2 l l g4 (Nat.le_refl _)
      have le := dO_le g2 g4 (Nat.le_refl l)
      refine pbody_c g2 pb g4 (by omega) fun x4 => ⟨m, Nat.lt_succ_self m, _, _, _, x4, g1, by omega, by omega, c, by omega, by omega, ?_, by omega, rfl⟩
      rw [List.length_append]
      split
      · show acc.length + 1 + 2 ≤ p + 1; omega
      · show acc.length + 0 + 2 ≤ p + 1; omega
  · have h : ¬ p * p ≤ l := fun y => h (by
      show ((p : Int)) * (p : Int) ≤ (l : Int)
      rw [← Int.natCast_mul]
      omega)
    have e : pp m l p = ppEnd l := by
      cases m with
      | zero => rfl
      | succ m => exact if_neg h
    rw [← g1, e]
    exact ptail_c (by omega)

/-! ### the least period in the program -/
abbrev stN (m : Nat) (cs : List Nat) (p : Nat) (x3 : Option Sl) : Sta := ⟨[some (.dat (nD m)), some (.dat (mkD cs)), some (.dat (nD p)), x3], []⟩
def ndB (m : Nat) (cs : List Nat) (p s : Nat) : Bool := if m % (s * p) = 0 then (if m % (s * p * p) = 0 then true else decide (s * p ∈ cs)) else decide (s / p ∈ cs)
theorem nsize_c {m p s : Nat} {cs : List Nat} (p0 : 0 < p) (hp : p < 2 ^ 100) (s0 : 0 < s) (hs : s < 2 ^ 100) {P : PJ} (h1 : ndB m cs p s = true → P.nx (stN m cs p (some (.dat (nD s))))) (h2 : ndB m cs p s = false → P.rt (.dat (.bl false)) []) :
    w_is_needless_size 0 (stN m cs p (some (.dat (nD s)))) P := by
  have up : ∀ {a : Nat}, a < 2 ^ 100 → a < 2 ^ 300 := fun h => Nat.lt_of_lt_of_le h (Nat.pow_le_pow_right (by decide) (by decide))
  have sp : s * p < 2 ^ 200 := by
    have : s * p < 2 ^ 100 * 2 ^ 100 := Nat.mul_lt_mul_of_lt_of_le hs (Nat.le_of_lt hp) (by decide)
    rw [← Nat.pow_add] at this
    exact this
  have sp0 : 0 < s * p := Nat.mul_pos s0 p0
  have sp3 : s * p < 2 ^ 300 := Nat.lt_of_lt_of_le sp (Nat.pow_le_pow_right (by decide) (by decide))
  unfold ndB at h1 h2
  refine And.intro (mulN (up hs) (up hp)) (And.intro (show (0 : Int) < (s : Int) * (p : Int) by rw [← Int.natCast_mul]; omega) (Br.xt (fun z => ?_) (fun z => ?_)))
  · have z : ¬ m % (s * p) = 0 := fun y => z (by
      show (m : Int) % ((s : Int) * (p : Int)) = 0
      rw [← Int.natCast_mul]
      exact mod0.mpr y)
    rw [if_neg z] at h1 h2
    refine And.intro (divN p0 (up hp)) ?_
    show Br (true.xor (hasK ((cs.map kN).zip (cs.map fun _ => D.bl true)) (.inl ((s / p : Nat) : Int)))) _ _
    rw [hasK_mk]
    exact Br.xt (fun y => h2 (decide_eq_false y)) (fun y => h1 (decide_eq_true y))
  · have z : m % (s * p) = 0 := by
      have z : (m : Int) % ((s : Int) * (p : Int)) = 0 := z
      rw [← Int.natCast_mul] at z
      exact mod0.mp z
    rw [if_pos z] at h1 h2
    refine And.intro (mulN (up hs) (up hp)) ?_
    have q : IntMulOk ((s : Int) * (p : Int)) (p : Int) := by rw [← Int.natCast_mul]; exact mulN sp3 (up hp)
    refine And.intro q (And.intro (show (0 : Int) < (s : Int) * (p : Int) * (p : Int) by rw [← Int.natCast_mul, ← Int.natCast_mul]; have := Nat.mul_pos sp0 p0; omega) (Br.xt (fun y => ?_) (fun y => ?_)))
    · have y : ¬ m % (s * p * p) = 0 := fun w => y (by
        show (m : Int) % ((s : Int) * (p : Int) * (p : Int)) = 0
        rw [← Int.natCast_mul, ← Int.natCast_mul]
        exact mod0.mpr w)
      rw [if_neg y] at h1 h2
      refine And.intro (mulN (up hs) (up hp)) ?_
      show Br (true.xor (hasK ((cs.map kN).zip (cs.map fun _ => D.bl true)) (.inl ((s : Int) * (p : Int))))) _ _
      rw [← Int.natCast_mul, hasK_mk]
      exact Br.xt (fun y => h2 (decide_eq_false y)) (fun y => h1 (decide_eq_true y))
    · have y : m % (s * p * p) = 0 := by
        have y : (m : Int) % ((s : Int) * (p : Int) * (p : Int)) = 0 := y
        rw [← Int.natCast_mul, ← Int.natCast_mul] at y
        exact mod0.mp y
      rw [if_pos y] at h1
      exact Br.ff rfl (h1 rfl)
theorem needless_c {m p : Nat} {cs : List Nat} (p0 : 0 < p) (hp : p < 2 ^ 100) (hc : ∀ s ∈ cs, 0 < s ∧ s < 2 ^ 100) : c_is_needless [.dat (nD m), .dat (mkD cs), .dat (nD p)] [] (.dat (.bl (ndl m cs p))) [] := by
  refine ⟨rfl, ?_⟩
  show forW (.nm 3) (w_is_needless_size 0) ((cs.map kN).map keyOf) _ _
  rw [mkD_items]
  refine forW_at nD (fun pre post S => pre ++ post = cs ∧ pre.all (ndB m cs p) = true ∧ ∃ x3, S = stN m cs p x3) [] cs ?_ ?_ _ ⟨rfl, rfl, none, rfl⟩
  · rintro pre s post S ⟨he, ha, x3, rfl⟩ nx' hnx
    have hm : s ∈ cs := by rw [← he]; exact List.mem_append_right _ List.mem_cons_self
    refine nsize_c p0 hp (hc s hm).1 (hc s hm).2 (fun h => hnx _ ⟨by rw [List.append_assoc]; exact he, ?_, _, rfl⟩) (fun h => And.intro ?_ rfl)
    · rw [List.all_append, ha]
      simp [h]
    · have e : ndl m cs p = false := by
        show cs.all (ndB m cs p) = false
        rw [List.all_eq_false]
        exact ⟨s, hm, by rw [h]; decide⟩
      rw [e]
  · rintro pre S ⟨he, ha, x3, rfl⟩
    rw [List.append_nil] at he
    subst he
    exact And.intro (by show Sl.dat (.bl true) = .dat (.bl (pre.all (ndB m pre p))); rw [ha]) rfl
abbrev stS (m : Nat) (cs ds : List Nat) (x3 x4 x5 x6 : Option Sl) : Sta := ⟨[some (.dat (nD m)), some (.dat (.tup (cs.map nD))), some (.dat (mkD ds)), x3, x4, x5, x6], []⟩
theorem dct_mk (ds : List Nat) : dctD ([] ++ ds.map fun x => (kN x, D.bl true)) = mkD ds := by
  show D.dct ((ds.map fun x => (kN x, D.bl true)).map (·.1)) ((ds.map fun x => (kN x, D.bl true)).map (·.2)) = _
  rw [List.map_map, List.map_map]
  rfl
theorem kN_nd {cs : List Nat} (h : cs.Pairwise (· < ·)) : cs.Pairwise fun x y => kN x ≠ kN y := h.imp fun {a b} hl z => by
  have := Sum.inl.inj z
  omega
theorem modB (m s : Nat) : false.xor (decide ((m : Int) % (s : Int) = 0)) = decide (m % s = 0) := by
  rw [Bool.false_xor]
  exact decide_eq_decide.mpr mod0
theorem turn_c {n m p a : Nat} {cs : List Nat} (h : Gt n cs p (a + 1) m) (hp : p < 2 ^ 100) (hc : cs.Pairwise (· < ·)) (hb : ∀ s ∈ cs, 0 < s ∧ s < 2 ^ 100) (hl : cs.length ≤ 1000) {x3 x5 x6 : Option Sl} {P : PJ}
    (hP : ∀ x3, P.nx (stS (trn cs p m) cs (low (trn cs p m) cs) x3 (some (.dat (nD p))) x5 x6)) : w_shortest_turn 0 (stS m cs (low m cs) x3 (some (.dat (nD p))) x5 x6) P := by
  have p0 : 0 < p := by have := h.pr.1; omega
  have sub : ∀ {k : Nat} {s : Nat}, s ∈ low k cs → s ∈ cs := fun hs => (mem_low.mp hs).1
  refine call_ (needless_c p0 hp fun s hs => hb s (sub hs)) ?_
  cases hn : ndl m (low m cs) p with
  | false =>
    have e : trn cs p m = m := by unfold trn; rw [hn]; rfl
    rw [e] at hP
    exact Br.ff rfl (hP x3)
  | true =>
    have e : trn cs p m = m / p := by unfold trn; rw [hn]; rfl
    rw [e] at hP
    refine Br.tt rfl (And.intro (divN p0 (Nat.lt_of_lt_of_le hp (Nat.pow_le_pow_right (by decide) (by decide)))) ?_)
    refine And.intro (show (((low m cs).map kN).map keyOf).length < sizeLine by rw [List.length_map, List.length_map]; exact Nat.lt_of_le_of_lt (Nat.le_trans (List.length_filter_le _ _) hl) (by decide)) ?_
    show dcW _ _ _ _ _ (((low m cs).map kN).map keyOf) _ _ _
    rw [mkD_items]
    refine dcW_filter nD kN (fun _ => .bl true) (fun s => decide ((m / p) % s = 0)) (fun s hs => ⟨_, rfl, fun R' h' => And.intro (show (0 : Int) < (s : Int) by have := (hb s (sub hs)).1; omega) ?_, fun _ => ⟨⟨_, rfl, fun R' h' => h'⟩, fun R' h' => h'⟩⟩) (fun _ _ => rfl) (kN_nd (hc.sublist (List.filter_sublist))) ?_
    · show R' (false.xor (decide (((m / p : Nat) : Int) % (s : Int) = 0))) _
      rw [modB]
      exact h'
    · have ed : dctD ([] ++ ((low m cs).filter fun s => decide ((m / p) % s = 0)).map fun x => (kN x, D.bl true)) = mkD (low (m / p) cs) := by
        rw [dct_mk]
        show mkD (low (m / p) (low m cs)) = _
        rw [low_low (Nat.div_dvd_of_dvd h.dv)]
      have := hP none
      show P.nx _
      show P.nx ⟨[some (.dat (nD (m / p))), some (.dat (.tup (cs.map nD))), some (.dat (dctD ([] ++ ((low m cs).filter fun s => decide ((m / p) % s = 0)).map fun x => (kN x, D.bl true)))), x3, some (.dat (nD p)), x5, x6], []⟩
      rw [ed]
      exact hP x3
theorem prime_c {n m p a : Nat} {cs : List Nat} (h : Gt n cs p a m) (hn : n < 2 ^ 60) (n0 : 0 < n) (hp : p < 2 ^ 100) (hc : cs.Pairwise (· < ·)) (hb : ∀ s ∈ cs, 0 < s ∧ s < 2 ^ 100) (hl : cs.length ≤ 1000) {x3 x6 : Option Sl} {P : PJ}
    (hP : ∀ x3 x6, P.nx (stS (trns cs p a m) cs (low (trns cs p a m) cs) x3 (some (.dat (nD p))) (some (.dat (nD a))) x6)) : w_shortest_prime 0 (stS m cs (low m cs) x3 (some (.dat (nD p))) (some (.dat (nD a))) x6) P := by
  have la := h.lt
  have lm := Nat.le_of_dvd n0 h.st.dv
  refine And.intro (show SmI (a : Int) from ⟨by omega, by omega⟩) ?_
  refine forW_at (fun i : Nat => D.int (0 + (i : Int))) (fun pre post S => ∃ m' x3 x6, Gt n cs p post.length m' ∧ trns cs p post.length m' = trns cs p a m ∧ S = stS m' cs (low m' cs) x3 (some (.dat (nD p))) (some (.dat (nD a))) x6) [] (List.range a) ?_ ?_ _ ⟨m, x3, x6, by rw [List.length_range]; exact h, by rw [List.length_range], rfl⟩
  · rintro pre i post S ⟨m', y3, y6, g, e, rfl⟩ nx' hnx
    exact turn_c g hp hc hb hl fun x3 => hnx _ ⟨trn cs p m', x3, _, g.step, e, rfl⟩
  · rintro pre S ⟨m', y3, y6, g, e, rfl⟩
    have e : m' = trns cs p a m := e
    rw [e]
    exact hP y3 y6
theorem shortest_c {n : Nat} {cs : List Nat} (n0 : 1 ≤ n) (hn : n < 10000000000) (hc : cs.Pairwise (· < ·)) (hd : ∀ s ∈ cs, 0 < s ∧ s ∣ n) (hl : cs.length ≤ 1000) : c_shortest [.dat (nD n), .dat (.tup (cs.map nD))] [] (.dat (.tup [nD (leaQ n cs), .tup ((low (leaQ n cs) cs).map nD)])) [] := by
  have hb : ∀ s ∈ cs, 0 < s ∧ s < 2 ^ 100 := fun s hs => ⟨(hd s hs).1, Nat.lt_of_le_of_lt (Nat.le_of_dvd n0 (hd s hs).2) (Nat.lt_trans hn (by decide))⟩
  refine ⟨rfl, And.intro (lenI hl) ?_⟩
  refine dcW_filter nD kN (fun _ => .bl true) (fun _ => true) (fun s hs => ⟨_, rfl, fun R' h' => h', fun _ => ⟨⟨_, rfl, fun R' h' => h'⟩, fun R' h' => h'⟩⟩) (fun _ _ => rfl) (kN_nd hc) ?_
  rw [List.filter_eq_self.mpr fun _ _ => rfl]
  have ed := dct_mk cs
  show w_shortest_loop 0 ⟨[some (.dat (nD n)), some (.dat (.tup (cs.map nD))), some (.dat (dctD ([] ++ cs.map fun x => (kN x, D.bl true)))), none, none, none, none], []⟩ _
  rw [ed]
  refine call_ (pps_c n0 hn) ?_
  refine forW_at ppD (fun pre post S => ∃ m x3 x4 x5 x6, Go n cs post m ∧ shq cs post m = leaQ n cs ∧ S = stS m cs (low m cs) x3 x4 x5 x6) [] (pp n n 2) ?_ ?_ _ ⟨n, none, none, none, none, Go.start cs n0, rfl, by rw [low_self fun s hs => (hd s hs).2]⟩
  · rintro pre ⟨p, a⟩ post S ⟨m, x3, x4, x5, x6, g, e, rfl⟩ nx' hnx
    have g2 := g.gt
    have lp : p < 2 ^ 100 := Nat.lt_of_le_of_lt (Nat.le_trans g.le (Nat.le_of_dvd n0 g.st.dv)) (Nat.lt_trans hn (by decide))
    exact prime_c g2 (Nat.lt_trans hn (by decide)) n0 lp hc hb hl fun x3 x6 => hnx _ ⟨_, x3, _, _, x6, g.step, e, rfl⟩
  · rintro pre S ⟨m, x3, x4, x5, x6, g, e, rfl⟩
    have e : m = leaQ n cs := e
    subst e
    refine And.intro (show ((((low (leaQ n cs) cs).map kN).map keyOf)).length < sizeLine by rw [List.length_map, List.length_map]; exact Nat.lt_of_le_of_lt (Nat.le_trans (List.length_filter_le _ _) hl) (by decide)) ?_
    show lcW _ _ _ _ (((low (leaQ n cs) cs).map kN).map keyOf) _ _
    rw [mkD_items]
    exact lcW_map nD nD (fun s _ => ⟨_, rfl, fun R' h' => h'⟩) (And.intro (szk 2) (And.intro rfl rfl))

/-! ### Sizes made -/
theorem cutA (cs : List Nat) : cutD (cs.map nD) none (some 1) = (cs.take 1).map nD := by
  rw [show (some (1 : Int)) = some ((1 : Nat) : Int) from rfl, cut_take, List.map_take]
theorem cutB (cs : List Nat) : cutD (cs.map nD) (some 1) none = (cs.drop 1).map nD := by
  rw [show (some (1 : Int)) = some ((1 : Nat) : Int) from rfl, cut_drop, List.map_drop]
theorem zip_nD (as bs : List Nat) : zipD (as.map nD) (bs.map nD) = (as.zip bs).map fun q => D.tup [nD q.1, nD q.2] := by
  unfold zipD
  rw [List.zip_map, List.map_map]
  rfl
theorem asc_zip : ∀ {cs : List Nat}, cs.Pairwise (· < ·) → ∀ q ∈ cs.zip (cs.drop 1), q.1 < q.2
  | [], _, q, hq => by simp at hq
  | [a], _, q, hq => by simp at hq
  | a :: b :: cs, h, q, hq => by
    obtain ⟨h1, h2⟩ := List.pairwise_cons.mp h
    have hq : q ∈ (a, b) :: ((b :: cs).zip ((b :: cs).drop 1)) := hq
    rcases List.mem_cons.mp hq with e | hq
    · subst e; exact h1 b List.mem_cons_self
    · exact asc_zip h2 q hq
theorem aresz_c {cs : List Nat} (hl : cs.length ≤ 1000) (hc : cs.Pairwise (· < ·)) (h0 : ∀ s ∈ cs, 0 < s) : c_are_sizes [.dat (.tup (cs.map nD))] [] (.dat (.bl true)) [] := by
  refine ⟨rfl, Br.ff rfl (And.intro (lenI hl) (lcW_map nD (fun _ => D.bl true) (fun s _ => ⟨_, rfl, fun R' h' => call_ (isint_c _) h'⟩) ?_))⟩
  dsimp only [wNil]
  refine allT cs (Br.ff rfl ?_)
  show (cutD (cs.map nD) none (some 1)).length < sizeLine ∧ lcW _ _ _ _ (cutD (cs.map nD) none (some 1)) _ _
  rw [cutA]
  refine And.intro (lenI (Nat.le_trans (List.length_take_le _ _) (by omega))) (lcW_map nD (fun s : Nat => D.bl (decide ((0 : Int) < (s : Int)))) (fun s _ => ⟨_, rfl, fun R' h' => h'⟩) ?_)
  dsimp only [wNil]
  refine allB (fun s : Nat => decide ((0 : Int) < (s : Int))) (cs.take 1) (fun s hs => decide_eq_true (by have := h0 s (List.mem_of_mem_take hs); omega)) (Br.tt rfl ?_)
  show (zipD (cs.map nD) (cutD (cs.map nD) (some 1) none)).length < sizeLine ∧ lcW _ _ _ _ (zipD (cs.map nD) (cutD (cs.map nD) (some 1) none)) _ _
  rw [cutB, zip_nD]
  refine And.intro (lenI (by rw [List.length_zip]; omega)) (lcW_map (fun q : Nat × Nat => D.tup [nD q.1, nD q.2]) (fun q : Nat × Nat => D.bl (decide ((q.1 : Int) < (q.2 : Int)))) (fun s _ => ⟨_, rfl, fun R' h' => h'⟩) ?_)
  dsimp only [wNil]
  exact allB (fun q : Nat × Nat => decide ((q.1 : Int) < (q.2 : Int))) (cs.zip (cs.drop 1)) (fun q hq => decide_eq_true (by have := asc_zip hc q hq; omega)) (And.intro rfl rfl)
structure InSz (n : Nat) (cs os : List Nat) : Prop where
  n0 : 1 ≤ n
  hn : n < 10000000000
  hc : cs.Pairwise (· < ·)
  hd : ∀ s ∈ cs, 0 < s ∧ s ∣ n
  cl : cs.length ≤ 1000
  oc : os.Pairwise (· < ·)
  od : ∀ s ∈ os, 0 < s
  ol : os.length ≤ 1000
/-- an instance by its shortest form -/
abbrev szD (l : Nat) (ds os : List Nat) : D := .obj 1 [nD l, .tup (ds.map nD), .tup (os.map nD), mkD ds, mkD os]
abbrev szL (n : Nat) (cs : List Nat) : List Nat := low (leaQ n cs) cs
theorem marks_c {ds : List Nat} {sl : Sls} {p : Pat} {wk : WpE} {cells : List Cell} {R : List (Key × D) → List Cell → Prop} (hp : ∀ s ∈ ds, ∃ sl', asgP p (nD s) sl = some sl' ∧ ∀ R' : RV, R' (.dat (nD s)) cells → wk sl' cells R' noX) (hc : ds.Pairwise (· < ·)) (h : R ([] ++ ds.map fun x => (kN x, D.bl true)) cells) : dcW p wYes wk (wCon (.bl true)) sl (ds.map nD) [] cells R := by
  refine dcW_filter nD kN (fun _ => .bl true) (fun _ => true) (fun s hs => ?_) (fun _ _ => rfl) (kN_nd hc) ?_
  · obtain ⟨sl', e, h1⟩ := hp s hs
    exact ⟨sl', e, fun R' h' => h', fun _ => ⟨⟨_, rfl, h1⟩, fun R' h' => h'⟩⟩
  · rw [List.filter_eq_self.mpr fun _ _ => rfl]
    exact h
theorem iset_c {n : Nat} {cs os : List Nat} (h : InSz n cs os) : w_Sizes___init___set 1 ⟨[some (.cel 0), some (.dat (nD n)), some (.dat (.tup (cs.map nD))), some (.dat (.tup (os.map nD))), none], [.ins 1 []]⟩
    (endJ 1 (.dat .non) [.ins 1 [("short_period", nD (leaQ n cs)), ("short_classes", .tup ((szL n cs).map nD)), ("short_odd", .tup (os.map nD)), ("class_marks", mkD (szL n cs)), ("odd_marks", mkD os)]]) := by
  have lc : (szL n cs).Pairwise (· < ·) := h.hc.sublist List.filter_sublist
  refine call_ (shortest_c h.n0 h.hn h.hc h.hd h.cl) ?_
  refine And.intro rfl (And.intro rfl (And.intro (show 0 < 1000 by decide) (And.intro rfl (And.intro rfl (And.intro (show 1 < 1000 by decide) ?_)))))
  refine And.intro rfl (And.intro rfl (And.intro (show 2 < 1000 by decide) ?_))
  refine And.intro rfl (And.intro (show ((szL n cs).map nD).length < sizeLine from lenI (Nat.le_trans (List.length_filter_le _ _) h.cl)) ?_)
  refine marks_c (ds := szL n cs) (fun s _ => ⟨_, rfl, fun R' h' => h'⟩) lc ?_
  rw [dct_mk]
  refine And.intro rfl (And.intro rfl (And.intro (show 3 < 1000 by decide) ?_))
  refine And.intro (lenI h.ol) ?_
  refine marks_c (ds := os) (fun s _ => ⟨_, rfl, fun R' h' => h'⟩) h.oc ?_
  rw [dct_mk]
  exact And.intro rfl (And.intro rfl (And.intro (show 4 < 1000 by decide) (And.intro rfl rfl)))
theorem szinit_c {n : Nat} {cs os : List Nat} (h : InSz n cs os) : c_Sizes___init__ [.cel 0, .dat (nD n), .dat (.tup (cs.map nD)), .dat (.tup (os.map nD))] [.ins 1 []] (.dat .non)
    [.ins 1 [("short_period", nD (leaQ n cs)), ("short_classes", .tup ((szL n cs).map nD)), ("short_odd", .tup (os.map nD)), ("class_marks", mkD (szL n cs)), ("odd_marks", mkD os)]] := by
  refine ⟨rfl, call_ (isint_c _) (Br.ff rfl (Br.dec (fun z => ?_) (fun _ => ?_)))⟩
  · have := h.n0
    omega
  refine call_ (aresz_c h.cl h.hc fun s hs => (h.hd s hs).1) (Br.ff rfl ?_)
  refine And.intro (lenI h.cl) (lcW_map nD (fun s : Nat => D.bl (true.xor (decide ((n : Int) % (s : Int) = 0)))) (fun s hs => ⟨_, rfl, fun R' h' => And.intro (show (0 : Int) < (s : Int) by have := (h.hd s hs).1; omega) h'⟩) ?_)
  dsimp only [wNil]
  refine anyB (fun s : Nat => true.xor (decide ((n : Int) % (s : Int) = 0))) cs (fun s hs => ?_) (Br.ff rfl ?_)
  · rw [decide_eq_true (mod0.mpr (Nat.mod_eq_zero_of_dvd (h.hd s hs).2))]
    rfl
  exact call_ (aresz_c h.ol h.oc h.od) (Br.ff rfl (iset_c h))

/-! ### sets of sizes made of any whole numbers; read_sizes of any text -/
open TL
theorem cutI (cs : List Int) : cutD (cs.map D.int) none (some 1) = (cs.take 1).map D.int := by
  rw [show (some (1 : Int)) = some ((1 : Nat) : Int) from rfl, cut_take, List.map_take]
theorem cutJ (cs : List Int) : cutD (cs.map D.int) (some 1) none = (cs.drop 1).map D.int := by
  rw [show (some (1 : Int)) = some ((1 : Nat) : Int) from rfl, cut_drop, List.map_drop]
theorem zip_i (as bs : List Int) : zipD (as.map D.int) (bs.map D.int) = (as.zip bs).map fun q => D.tup [.int q.1, .int q.2] := by
  unfold zipD
  rw [List.zip_map, List.map_map]
  rfl
theorem ascZ : ∀ (cs : List Int) (a : Int), ascB a cs = ((cs.take 1).all (fun c => decide (a < c)) && (cs.zip (cs.drop 1)).all fun q => decide (q.1 < q.2))
  | [], _ => rfl
  | [c], a => by
    show (decide (a < c) && true) = (decide (a < c) && true && true)
    rw [Bool.and_true, Bool.and_true]
  | c :: c' :: cs, a => by
    show (decide (a < c) && ascB c (c' :: cs)) = (decide (a < c) && true && (decide (c < c') && ((c' :: cs).zip ((c' :: cs).drop 1)).all fun q => decide (q.1 < q.2)))
    rw [ascZ (c' :: cs) c]
    show (decide (a < c) && (decide (c < c') && true && _)) = _
    rw [Bool.and_true, Bool.and_true]
theorem aresz_i {cs : List Int} (hl : cs.length ≤ 1000) : c_are_sizes [.dat (.tup (cs.map D.int))] [] (.dat (.bl (ascB 0 cs))) [] := by
  refine ⟨rfl, Br.ff rfl (And.intro (lenI hl) (lcW_map D.int (fun _ => D.bl true) (fun s _ => ⟨_, rfl, fun R' h' => call_ (isint_c _) h'⟩) ?_))⟩
  dsimp only [wNil]
  refine allT cs (Br.ff rfl ?_)
  show (cutD (cs.map D.int) none (some 1)).length < sizeLine ∧ lcW _ _ _ _ (cutD (cs.map D.int) none (some 1)) _ _
  rw [cutI, ascZ]
  refine And.intro (lenI (Nat.le_trans (List.length_take_le _ _) (by omega))) (lcW_map D.int (fun s : Int => D.bl (decide (0 < s))) (fun s _ => ⟨_, rfl, fun R' h' => h'⟩) ?_)
  dsimp only [wNil]
  refine allN (cs.take 1) (fun s : Int => decide (0 < s)) ?_
  cases hA : (cs.take 1).all fun s : Int => decide (0 < s) with
  | false => exact Br.ff rfl (And.intro rfl rfl)
  | true =>
    refine Br.tt rfl ?_
    show (zipD (cs.map D.int) (cutD (cs.map D.int) (some 1) none)).length < sizeLine ∧ lcW _ _ _ _ (zipD (cs.map D.int) (cutD (cs.map D.int) (some 1) none)) _ _
    rw [cutJ, zip_i]
    refine And.intro (lenI (by rw [List.length_zip]; omega)) (lcW_map (fun q : Int × Int => D.tup [.int q.1, .int q.2]) (fun q : Int × Int => D.bl (decide (q.1 < q.2))) (fun s _ => ⟨_, rfl, fun R' h' => h'⟩) ?_)
    dsimp only [wNil]
    exact allN (cs.zip (cs.drop 1)) (fun q : Int × Int => decide (q.1 < q.2)) (And.intro rfl rfl)
/-! when a set of sizes is made -/
def dvI (p : Int) (cs : List Int) : Bool := cs.all fun s => decide (p % s = 0)
def okS (p : Int) (cs os : List Int) : Bool := decide (1 ≤ p) && (ascB 0 cs && dvI p cs) && ascB 0 os
abbrev nL (cs : List Int) : List Nat := cs.map Int.toNat
abbrev iL (cs : List Nat) : List Int := cs.map fun n : Nat => (n : Int)
theorem Asc.ge : ∀ {l : List Int} {a : Int}, 0 ≤ a → Asc a l → iL (nL l) = l ∧ (nL l).Pairwise (· < ·) ∧ ∀ s ∈ nL l, a.toNat < s
  | [], _, _, _ => ⟨rfl, .nil, fun _ z => nomatch z⟩
  | x :: r, a, h, k => by
    have hx := k.1
    obtain ⟨e1, e2, e3⟩ := Asc.ge (l := r) (a := x) (by omega) k.2
    refine ⟨?_, List.pairwise_cons.mpr ⟨e3, e2⟩, fun s hs => ?_⟩
    · show ((x.toNat : Nat) : Int) :: iL (nL r) = x :: r
      rw [e1, Int.toNat_of_nonneg (by omega)]
    · rcases List.mem_cons.mp hs with hs | hs
      · rw [hs]; omega
      · have := e3 s hs
        omega
theorem nmap (cs : List Nat) : (iL cs).map D.int = cs.map nD := by rw [List.map_map]; rfl
theorem insz_of {p : Int} {cs os : List Int} (hc : cs.length ≤ 1000) (ho : os.length ≤ 1000) (hp : p.natAbs < 10000000000) (h : okS p cs os = true) : iL (nL cs) = cs ∧ iL (nL os) = os ∧ ((p.toNat : Nat) : Int) = p ∧ InSz p.toNat (nL cs) (nL os) := by
  unfold okS dvI at h
  rw [Bool.and_eq_true, Bool.and_eq_true, Bool.and_eq_true, decide_eq_true_eq] at h
  obtain ⟨⟨h1, h2, h3⟩, h4⟩ := h
  obtain ⟨a1, a2, a3⟩ := Asc.ge (Int.le_refl 0) (ascB_iff.mp h2)
  obtain ⟨b1, b2, b3⟩ := Asc.ge (Int.le_refl 0) (ascB_iff.mp h4)
  refine ⟨a1, b1, Int.toNat_of_nonneg (by omega), by omega, by omega, a2, fun s hs => ⟨a3 s hs, ?_⟩, by rw [List.length_map]; exact hc, b2, b3, by rw [List.length_map]; exact ho⟩
  have hm : ((s : Nat) : Int) ∈ cs := by rw [← a1]; exact List.mem_map_of_mem hs
  have d := of_decide_eq_true (List.all_eq_true.mp h3 _ hm)
  refine Nat.dvd_of_mod_eq_zero (mod0.mp ?_)
  rw [Int.toNat_of_nonneg (by omega)]
  exact d
theorem anyM {α : Type} (f : α → Bool) (l : List α) {R : RV} {cs : List Cell} (h : R (.dat (.bl (l.any f))) cs) : anyW [.dat (.lst (l.map fun x => D.bl (f x)))] cs R := by
  have e : (l.map fun x => D.bl (f x)) = (l.map f).map D.bl := by rw [List.map_map]; rfl
  rw [e]
  refine blsW_i (ns := l.map f) ?_
  have e2 : (l.map f).any id = l.any f := by rw [List.any_map]; rfl
  rw [e2]
  exact h
theorem any_dvI (p : Int) : ∀ cs : List Int, (cs.any fun s => true.xor (decide (p % s = 0))) = !dvI p cs
  | [] => rfl
  | s :: cs => by
    show (true.xor (decide (p % s = 0)) || cs.any fun s => true.xor (decide (p % s = 0))) = !(decide (p % s = 0) && dvI p cs)
    rw [any_dvI p cs, Bool.not_and, Bool.true_xor]
theorem szinit_x {p : Int} {cs os : List Int} (hc : cs.length ≤ 1000) (ho : os.length ≤ 1000) (h : okS p cs os = false) : ∃ w : Str, c_Sizes___init__X [.cel 0, .dat (.int p), .dat (.tup (cs.map D.int)), .dat (.tup (os.map D.int))] [.ins 1 []] ⟨3, [.str w]⟩ [.ins 1 []] := by
  by_cases h1 : 1 ≤ p
  · have hp : decide (p < 1) = false := decide_eq_false (by omega)
    cases h2 : ascB 0 cs with
    | false =>
      have a := aresz_i hc
      rw [h2] at a
      exact ⟨"classes", rfl, call_ (isint_c _) (Br.ff rfl (Br.ff hp (call_ a (Br.tt rfl (Br.tt rfl (And.intro rfl rfl))))))⟩
    | true =>
      have a := aresz_i hc
      rw [h2] at a
      have a3 := (Asc.ge (Int.le_refl 0) (ascB_iff.mp h2))
      have pos : ∀ s ∈ cs, 0 < s := fun s hs => Asc.gt (ascB_iff.mp h2) s hs
      cases h3 : dvI p cs with
      | false =>
        refine ⟨"classes", rfl, call_ (isint_c _) (Br.ff rfl (Br.ff hp (call_ a (Br.ff rfl ?_))))⟩
        refine And.intro (lenI hc) (lcW_map D.int (fun s : Int => D.bl (true.xor (decide (p % s = 0)))) (fun s hs => ⟨_, rfl, fun R' h' => And.intro (pos s hs) h'⟩) ?_)
        dsimp only [wNil]
        refine anyM (fun s : Int => true.xor (decide (p % s = 0))) cs ?_
        rw [any_dvI, h3]
        exact Br.tt rfl (And.intro rfl rfl)
      | true =>
        have h4 : ascB 0 os = false := by
          cases e : ascB 0 os with
          | false => rfl
          | true =>
            unfold okS at h
            rw [h2, h3, e, decide_eq_true h1] at h
            cases h
        have b := aresz_i ho
        rw [h4] at b
        refine ⟨"odd", rfl, call_ (isint_c _) (Br.ff rfl (Br.ff hp (call_ a (Br.ff rfl ?_))))⟩
        refine And.intro (lenI hc) (lcW_map D.int (fun s : Int => D.bl (true.xor (decide (p % s = 0)))) (fun s hs => ⟨_, rfl, fun R' h' => And.intro (pos s hs) h'⟩) ?_)
        dsimp only [wNil]
        refine anyM (fun s : Int => true.xor (decide (p % s = 0))) cs ?_
        rw [any_dvI, h3]
        exact Br.ff rfl (call_ b (Br.tt rfl (And.intro rfl rfl)))
  · exact ⟨"period", rfl, call_ (isint_c _) (Br.ff rfl (Br.tt (decide_eq_true (by omega)) (And.intro rfl rfl)))⟩

/-! ### read_sizes of any text -/
open TL
theorem spl_first {S : List Nat} (hS : S ≠ []) : ∀ (l acc : List Nat) {x y : List Nat} {r : List (List Nat)}, spl S 0 acc l = x :: y :: r → ∃ z, acc ++ l = x ++ (S ++ z)
  | [], acc, x, y, r, h => by
    rw [spl_nil] at h
    cases h
  | c :: q, acc, x, y, r, h => by
    by_cases e : pre S (c :: q) = true
    · rw [spl_hit e] at h
      have hx := (List.cons.inj h).1
      refine ⟨(c :: q).drop S.length, ?_⟩
      have e2 : (c :: q).take S.length = S := beq_iff_eq.mp e
      rw [← hx]
      refine congrArg (acc ++ ·) ?_
      have := List.take_append_drop S.length (c :: q)
      rw [e2] at this
      exact this.symm
    · rw [spl_miss (by simpa using e)] at h
      obtain ⟨z, hz⟩ := spl_first hS q (acc ++ [c]) h
      exact ⟨z, by rw [← hz]; simp⟩
/-- what a text tells: the set of sizes that has it -/
def rsO (l : List Nat) : Option (Nat × List Nat × List Nat) := match spl [32, 124, 32] 0 [] l with
  | [a, b, c] => match pInt a with
    | none => none
    | some p => match pInts b with
      | none => none
      | some cs => match pInts c with
        | none => none
        | some os => if okS p cs os = true ∧ szxT (leaQ p.toNat (nL cs)) (iL (szL p.toNat (nL cs))) os = l then some (p.toNat, nL cs, nL os) else none
  | _ => none
def soO (o : Option (Nat × List Nat × List Nat)) : Option D := o.map fun q => szD (leaQ q.1 q.2.1) (szL q.1 q.2.1) q.2.2
def Wrd9 (l : List Nat) : Prop := ((spl [32] 0 [] l).headD []).length ≤ 9
theorem per9 {l a b : List Nat} {r : List (List Nat)} {p : Int} (h : Wrd9 l) (hs : spl [32, 124, 32] 0 [] l = a :: b :: r) (e : pInt a = some p) : p.natAbs < 10 ^ 9 := by
  obtain ⟨z, hz⟩ := spl_first (by decide) l [] hs
  rw [List.nil_append] at hz
  have w := first_word (b := 124 :: 32 :: z) e
  have e2 : l = a ++ (32 :: (124 :: 32 :: z)) := hz
  unfold Wrd9 at h
  rw [e2, w] at h
  refine pInt_bd (k := 9) (l := a) (fun x y q e3 _ => ?_) e
  have := congrArg List.length e3
  rw [List.length_append, List.length_append] at this
  omega
theorem szD_sx (n : Nat) (ds os : List Nat) : szD n ds os = sxD (n : Int) (iL ds) (iL os) (mkD ds) (mkD os) := by
  unfold szD sxD
  rw [nmap, nmap]
theorem rsz_c {l : List Nat} (ok : Okv l) (h9 : Wrd9 l) : Rdc c_read_sizes c_read_sizesX E0' [.dat (.str (mkS l))] (soO (rsO l)) := by
  have nl := ok.len
  refine rdc_of rfl fun P hP => ?_
  refine And.intro rfl (And.intro rfl (And.intro (by rw [len_mkS]; exact szs (by omega)) ?_))
  rw [lt_ba, spl_tl _ _ (by decide) (by decide), List.map_map]
  have bad : ∀ ws : List (List Nat), ws.length ≠ 3 → true.xor (decide (((ws.map (D.str ∘ mkS)).length : Int) = 3)) = true := fun ws h => by
    rw [decide_eq_false (by rw [List.length_map]; omega)]
    rfl
  match hs : spl [32, 124, 32] 0 [] l with
  | [] => exact absurd hs (spl_ne _ _ _ _)
  | [a] =>
    have e : rsO l = none := by unfold rsO; rw [hs]
    rw [e] at hP
    exact Br.tt (bad [a] (by simp)) (by exact hP _ rfl)
  | [a, b] =>
    have e : rsO l = none := by unfold rsO; rw [hs]
    rw [e] at hP
    exact Br.tt (bad [a, b] (by simp)) (by exact hP _ rfl)
  | a :: b :: c :: d :: r =>
    have e : rsO l = none := by unfold rsO; rw [hs]
    rw [e] at hP
    exact Br.tt (bad (a :: b :: c :: d :: r) (by simp)) (by exact hP _ rfl)
  | [a, b, c] =>
    have oka := ok.spl a (by rw [hs]; exact List.mem_cons_self)
    have okb := ok.spl b (by rw [hs]; exact List.mem_cons_of_mem _ List.mem_cons_self)
    have okc := ok.spl c (by rw [hs]; exact List.mem_cons_of_mem _ (List.mem_cons_of_mem _ List.mem_cons_self))
    have e : rsO l = (match pInt a with | none => none | some p => match pInts b with | none => none | some cs => match pInts c with | none => none | some os => if okS p cs os = true ∧ szxT (leaQ p.toNat (nL cs)) (iL (szL p.toNat (nL cs))) os = l then some (p.toNat, nL cs, nL os) else none) := by unfold rsO; rw [hs] <;> rfl
    rw [e] at hP
    have go : wConsS (wTryF mt_InvalidSizes 4 (wConsS (wAsg 2 (wMakeKX 1 ["short_period", "short_classes", "short_odd", "class_marks", "odd_marks"] c_Sizes___init__ c_Sizes___init__X 3 0 fu_Sizes_3_ (wCons (wFnX c_integer_of c_integer_ofX (wCons (wTwo (wName 1) (wCon (.int 0)) ixW) wNil)) (wCons (wFnX c_integers_of c_integers_ofX (wCons (wTwo (wName 1) (wCon (.int 1)) ixW) wNil)) (wCons (wFnX c_integers_of c_integers_ofX (wCons (wTwo (wName 1) (wCon (.int 2)) ixW) wNil)) wNil))) wNil)) wNilS) (wCon (.int 0)))
        (wConsS (wIfS (wBl (wTwo (wFn c_show_sizes (wCons (wName 2) wNil)) (wName 0) (eqW true))) (wConsS (wRaise1 4 (wCon (.int 0))) wNilS) wNilS) (wConsS (wRet 0 (wName 2)) wNilS))
        ⟨[some (.dat (.str (mkS l))), some (.dat (.lst [.str (mkS a), .str (mkS b), .str (mkS c)])), none], []⟩ P := by
      unfold wConsS wTryF wAsg wMakeKX wCons
      refine wFnX_ (wA := wCons (wTwo (wName 1) (wCon (.int 0)) ixW) wNil) (d := .str (mkS a)) (sl := [some (.dat (.str (mkS l))), some (.dat (.lst [.str (mkS a), .str (mkS b), .str (mkS c)])), none]) (cs := []) (fun R Rx h => h) (intof_c oka) ?_
      cases h1 : pInt a with
      | none => rw [h1] at hP; exact hP _ rfl
      | some p =>
        rw [h1] at hP
        have p9 := per9 h9 hs h1
        refine wFnX_ (wA := wCons (wTwo (wName 1) (wCon (.int 1)) ixW) wNil) (d := .str (mkS b)) (sl := [some (.dat (.str (mkS l))), some (.dat (.lst [.str (mkS a), .str (mkS b), .str (mkS c)])), none]) (cs := []) (fun R Rx h => h) (intsof_c okb) ?_
        cases h2 : pInts b with
        | none => rw [h2] at hP; exact hP _ rfl
        | some cs =>
          rw [h2] at hP
          have cl := pInts_cnt okb h2
          have cb := (pInts_bd okb h2).2
          refine wFnX_ (wA := wCons (wTwo (wName 1) (wCon (.int 2)) ixW) wNil) (d := .str (mkS c)) (sl := [some (.dat (.str (mkS l))), some (.dat (.lst [.str (mkS a), .str (mkS b), .str (mkS c)])), none]) (cs := []) (fun R Rx h => h) (intsof_c okc) ?_
          cases h3 : pInts c with
          | none => rw [h3] at hP; exact hP _ rfl
          | some os =>
            rw [h3] at hP
            have ol := pInts_cnt okc h3
            have ob := (pInts_bd okc h3).2
            have hP : OW (soO (if okS p cs os = true ∧ szxT (leaQ p.toNat (nL cs)) (iL (szL p.toNat (nL cs))) os = l then some (p.toNat, nL cs, nL os) else none)) (fun d => P.rt (Sl.dat d) []) (∀ (S : Sta), S.cs = [] → P.ex E0' S) := hP
            refine And.intro rfl (And.intro rfl ?_)
            cases hk : okS p cs os with
            | true =>
              have e10 : (10 : Nat) ^ 9 = 1000000000 := by decide
              obtain ⟨e1, e2, e3, hin⟩ := insz_of cl ol (by omega) hk
              have q := szinit_c hin
              have m1 : (nL cs).map nD = cs.map D.int := by rw [← nmap, e1]
              have m2 : (nL os).map nD = os.map D.int := by rw [← nmap, e2]
              have ea : ([.cel 0, .dat (nD p.toNat), .dat (.tup ((nL cs).map nD)), .dat (.tup ((nL os).map nD))] : List Sl) = [.cel 0, .dat (.int p), .dat (.tup (cs.map D.int)), .dat (.tup (os.map D.int))] := by
                rw [m1, m2]
                show ([.cel 0, .dat (.int ((p.toNat : Nat) : Int)), _, _] : List Sl) = _
                rw [e3]
              rw [ea] at q
              have dv := (lea_ok (nL cs) hin.n0).1.dv
              have ln : leaQ p.toNat (nL cs) ≤ p.toNat := Nat.le_of_dvd hin.n0 dv
              have e31 : (10 : Nat) ^ 31 = 10000000000000000000000000000000 := by decide
              have sb : ∀ n ∈ iL (szL p.toNat (nL cs)), B31 n := fun n hn => by
                obtain ⟨s, hs, rfl⟩ := List.mem_map.mp hn
                have : ((s : Nat) : Int) ∈ cs := by rw [← e1]; exact List.mem_map_of_mem (mem_low.mp hs).1
                exact cb _ this
              have sl : (iL (szL p.toNat (nL cs))).length ≤ 2001 := by
                rw [List.length_map]
                exact Nat.le_trans (List.length_filter_le _ _) (by rw [List.length_map]; omega)
              have sh := shows_c (p := (leaQ p.toNat (nL cs) : Int)) (cs := iL (szL p.toNat (nL cs))) (os := os) (m1 := mkD (szL p.toNat (nL cs))) (m2 := mkD (nL os)) (by show ((leaQ p.toNat (nL cs) : Nat) : Int).natAbs < _; omega) sl (by omega) sb ob
              have es : szD (leaQ p.toNat (nL cs)) (szL p.toNat (nL cs)) (nL os) = sxD (leaQ p.toNat (nL cs) : Int) (iL (szL p.toNat (nL cs))) os (mkD (szL p.toNat (nL cs))) (mkD (nL os)) := by rw [szD_sx, e2]
              rw [← es] at sh
              refine .inl (make_ (ds := [nD (leaQ p.toNat (nL cs)), .tup ((szL p.toNat (nL cs)).map nD), .tup ((nL os).map nD), mkD (szL p.toNat (nL cs)), mkD (nL os)]) q rfl ?_)
              refine call_ sh ?_
              by_cases ht : szxT (leaQ p.toNat (nL cs)) (iL (szL p.toNat (nL cs))) os = l
              · rw [if_pos ⟨hk, ht⟩] at hP
                refine Br.ff ?_ hP
                show true.xor (decide (mkS (szxT (leaQ p.toNat (nL cs)) (iL (szL p.toNat (nL cs))) os) = mkS l)) = false
                rw [ht, decide_eq_true rfl]
                rfl
              · rw [if_neg fun z => ht z.2] at hP
                refine Br.tt ?_ (by exact hP _ rfl)
                show true.xor (decide (mkS (szxT (leaQ p.toNat (nL cs)) (iL (szL p.toNat (nL cs))) os) = mkS l)) = true
                rw [dec_mk, decide_eq_false ht]
                rfl
            | false =>
              obtain ⟨w, hx⟩ := szinit_x cl ol hk
              rw [if_neg fun z => by have := z.1; rw [hk] at this; cases this] at hP
              exact .inr ⟨⟨3, [.str w]⟩, .ins 1 [], hx, by exact hP _ rfl⟩
    exact Br.ff rfl go

theorem feed_c {ns : List Int} {k : Nat} (hk : k < 100) : c__law_box [.dat (scD ns), .dat (.int k)] [] (.cel 0) [bx (feedB ns k)] := by
  refine ⟨rfl, ?_⟩
  have tail : ∀ c : Int, c = feedC ns k → wConsS (wAsg 3 (wTwo (wTwo (wTwo (wTwo (wTwo (wCb (wCons (wName 2) wNil) intW1) (wCon (.int 2147483629)) modW) (wTwo (wCon (.int 104729)) (wName 1) mulW) addW) (wCon (.int 1)) addW) (wCon (.int 5)) powW) (wCon (.int 2147483647)) modW))
      (wConsS (wRetC 0 (wLstC (wCons (wTwo (wLst (wCons (wCon (.int 0)) (wCons (wName 2) wNil))) (wCb (wCons (wTwo (wName 2) (wTwo (wCon (.int 10)) (wCon (.int 18)) powW) geW) wNil) intW1) ixW) (wCons (wTwo (wTwo (wCb (wCons (wName 3) wNil) intW1) (wCon (.int 2147483646)) modW) (wCon (.int 1)) addW) wNil)))) wNilS)
      ⟨[some (.dat (scD ns)), some (.dat (.int k)), some (.dat (.int c)), none], []⟩ (endJ 0 (.cel 0) [bx (feedB ns k)]) := by
    rintro c rfl
    refine And.intro (pos_ (by decide)) (And.intro (Dl.mul_l (by decide) (by decide)) (And.intro ⟨by decide, by decide, by omega⟩ (And.intro (pos_ (by decide)) ?_)))
    refine And.intro (szk 2) (And.intro ⟨by decide, by decide, by decide⟩ ?_)
    have e : atI [D.int 0, D.int (feedC ns k)] (if decide ((10 : Int) ^ 18 ≤ feedC ns k) = true then 1 else 0) = some (.int (if 10 ^ 18 ≤ feedC ns k then feedC ns k else 0)) := by
      by_cases h : (10 : Int) ^ 18 ≤ feedC ns k
      · rw [if_pos h, if_pos (decide_eq_true h)]; rfl
      · rw [if_neg h, if_neg (by simpa using h)]; rfl
    refine atW_i e ?_
    exact And.intro (pos_ (by decide)) (And.intro (szk 2) (And.intro rfl (And.intro rfl rfl)))
  refine And.intro (Dl.mul_l (by decide) (by decide)) ?_
  refine Br.dec (fun hc => ?_) (fun hc => ?_)
  · have hc : k < ns.length := by simpa using hc
    exact atW_i (atI_scr hc) (tail _ (by unfold feedC; rw [if_pos hc]))
  · have hc : ¬ k < ns.length := by simpa using hc
    refine Br.dec (fun hd => ?_) (fun hd => ?_)
    · have hd : 0 < ns.length := by simpa using hd
      have hm : ((k : Nat) : Int) % (((ns.map D.int).length : Nat) : Int) = ((k % ns.length : Nat) : Int) := by rw [List.length_map]; exact (Int.natCast_emod k ns.length).symm
      refine And.intro (pos_ (by rw [List.length_map]; omega)) ?_
      refine atW_i (d := .int (ns.getD (k % ns.length) 0)) (by rw [hm]; exact atI_scr (Nat.mod_lt _ hd)) ?_
      refine And.intro (pos_ (by decide)) (And.intro (Dl.mul_l (by omega) (by omega)) ?_)
      exact tail _ (by unfold feedC; rw [if_neg hc, if_pos hd])
    · have hd : ¬ 0 < ns.length := by simpa using hd
      exact tail _ (by unfold feedC; rw [if_neg hc, if_neg hd])

theorem nb_small {n : Int} (h : n.natAbs ≤ 100000) : Nb n := Nat.lt_of_le_of_lt h (by decide)

/-! ### counts told -/
theorem okN_t {k : Nat} {xs : List D} (h : ∀ d ∈ xs, okN k d) : okN (k + 1) (.tup xs) := by
  obtain ⟨h1, h2, h3⟩ := okl_all h
  exact ⟨h1, h2, Nat.add_le_add_right h3 1⟩
theorem okN_up {k k' : Nat} {d : D} (h : okN k d) (hk : k ≤ k') : okN k' d := ⟨h.1, h.2.1, Nat.le_trans h.2.2 hk⟩
theorem okN_cD (cs : List Int) : okN 1 (cD cs) := okN_t fun d hd => by obtain ⟨i, _, rfl⟩ := List.mem_map.mp hd; exact okN_i i
theorem okN_2 {k : Nat} {a b : D} (h1 : okN k a) (h2 : okN k b) : okN (k + 1) (.tup [a, b]) := okN_t fun d hd => by
  rcases List.mem_cons.mp hd with rfl | hd
  · exact h1
  · rcases List.mem_cons.mp hd with rfl | hd
    · exact h2
    · cases hd
theorem okN_lD (l : Lot) : okN 2 (lD l) := okN_2 (okN_up (okN_i _) (by decide)) (okN_cD _)
theorem okN_sD (p : Int × Int) : okN 2 (sD p) := okN_up (okN_2 (okN_i _) (okN_i _)) (by decide)
abbrev toD (ls : List Lot) (os : List (Int × Int)) : D := .tup [.tup (ls.map lD), .tup (os.map sD)]
theorem okD_2 {k : Nat} {a b : D} (h1 : okN k a) (h2 : okN k b) (hk : k < 64) : okD (.tup [a, b]) = true := ok_tup (fun d hd => by
  rcases List.mem_cons.mp hd with rfl | hd
  · exact h1
  · rcases List.mem_cons.mp hd with rfl | hd
    · exact h2
    · cases hd) hk
theorem okN_lots (ls : List Lot) : okN 3 (.tup (ls.map lD)) := okN_t fun d hd => by obtain ⟨i, _, rfl⟩ := List.mem_map.mp hd; exact okN_lD i
theorem okN_odds (os : List (Int × Int)) : okN 3 (.tup (os.map sD)) := okN_t fun d hd => by obtain ⟨i, _, rfl⟩ := List.mem_map.mp hd; exact okN_sD i
theorem ok_toD (ls : List Lot) (os : List (Int × Int)) : okD (toD ls os) = true := okD_2 (okN_lots ls) (okN_odds os) (by decide)
/-- all numbers are told -/
def TlC (ls : List Lot) (os : List (Int × Int)) : Prop := ls.length ≤ 1000 ∧ os.length ≤ 1000 ∧ (∀ l ∈ ls, Wd l.1 ∧ l.2.length ≤ 4 ∧ ∀ c ∈ l.2, Wd c) ∧ ∀ p ∈ os, Wd p.1 ∧ Wd p.2
theorem rn_wd {n : Int} (h : Wd n) : RN 0 1003 (.int n) := RN.int h (by decide)
theorem rn_2 {k w : Nat} {a b : D} (h1 : RN k w a) (h2 : RN k w b) : RN (k + 1) (2 * (w + 2) + 3) (.tup [a, b]) := RN.tup (m := 2) (fun d hd => by
  rcases List.mem_cons.mp hd with rfl | hd
  · exact h1
  · rcases List.mem_cons.mp hd with rfl | hd
    · exact h2
    · cases hd) (Nat.le_refl _)
theorem rn_toD {ls : List Lot} {os : List (Int × Int)} (h : TlC ls os) : RN 4 16110013 (toD ls os) := by
  have h1 : RN 3 8055003 (.tup (ls.map lD)) := RN.tup (m := 1000) (w := 8053) (fun d hd => by
    obtain ⟨l, hl, rfl⟩ := List.mem_map.mp hd
    obtain ⟨a, b, c⟩ := h.2.2.1 l hl
    have hc : RN 1 4023 (cD l.2) := RN.tup (m := 4) (w := 1003) (fun d hd => by obtain ⟨i, hi, rfl⟩ := List.mem_map.mp hd; exact rn_wd (c i hi)) (by rw [List.length_map]; exact b)
    exact rn_2 ((rn_wd a).mono (by decide) (by decide)) hc) (by rw [List.length_map]; exact h.1)
  have h2 : RN 3 8055003 (.tup (os.map sD)) := (RN.tup (m := 1000) (w := 2013) (k := 1) (fun d hd => by
    obtain ⟨p, hp, rfl⟩ := List.mem_map.mp hd
    obtain ⟨a, b⟩ := h.2.2.2 p hp
    exact rn_2 (rn_wd a) (rn_wd b)) (by rw [List.length_map]; exact h.2.1)).mono (by decide) (by decide)
  exact rn_2 h1 h2
abbrev ocD (ls : List Lot) (os : List (Int × Int)) : D := .obj 0 [.tup (ls.map lD), .tup (os.map sD)]
theorem cparts_c (as bs : List D) : c_Count_parts [.dat (.obj 0 [.tup as, .tup bs])] [] (.dat (.tup as)) [] := ⟨rfl, And.intro rfl (And.intro rfl rfl)⟩
theorem codd_c (as bs : List D) : c_Count_odd [.dat (.obj 0 [.tup as, .tup bs])] [] (.dat (.tup bs)) [] := ⟨rfl, And.intro rfl (And.intro rfl rfl)⟩

/-! ### Sizes told -/
abbrev tlD (l : Nat) (ds os : List Nat) : D := .tup [nD l, .tup (ds.map nD), .tup (os.map nD)]
theorem okN_nD (n : Nat) : okN 0 (nD n) := ⟨rfl, rfl, Nat.le_refl _⟩
theorem mem3 {a b c d : D} {P : D → Prop} (h1 : P a) (h2 : P b) (h3 : P c) (h : d ∈ [a, b, c]) : P d := by
  rcases List.mem_cons.mp h with rfl | h
  · exact h1
  · rcases List.mem_cons.mp h with rfl | h
    · exact h2
    · rcases List.mem_cons.mp h with rfl | h
      · exact h3
      · cases h
theorem okN_nDs (ds : List Nat) : okN 1 (.tup (ds.map nD)) := by
  obtain ⟨h1, h2, h3⟩ := okl_all (k := 0) (xs := ds.map nD) fun d hd => by obtain ⟨i, _, rfl⟩ := List.mem_map.mp hd; exact okN_nD i
  exact ⟨h1, h2, Nat.add_le_add_right h3 1⟩
theorem ok_tlD (l : Nat) (ds os : List Nat) : okD (tlD l ds os) = true := ok_tup (k := 1) (fun d hd => mem3 (P := okN 1) ⟨rfl, rfl, Nat.zero_le _⟩ (okN_nDs ds) (okN_nDs os) hd) (by decide)
theorem ok_nDs (ds : List Nat) : okD (.tup (ds.map nD)) = true := ok_tup (k := 0) (fun d hd => by obtain ⟨i, _, rfl⟩ := List.mem_map.mp hd; exact okN_nD i) (by decide)
/-- what is told -/
def TlS (l : Nat) (ds os : List Nat) : Prop := l < 2 ^ 100 ∧ ds.length ≤ 1000 ∧ os.length ≤ 1000 ∧ (∀ s ∈ ds, s < 2 ^ 100) ∧ ∀ s ∈ os, s < 2 ^ 100
theorem rn_n {n : Nat} (h : n < 2 ^ 100) : RN 0 103 (nD n) := RN.int (n := 100) h (by decide)
theorem rn_tlD {l : Nat} {ds os : List Nat} (h : TlS l ds os) : RN 2 315018 (tlD l ds os) := by
  have f : ∀ xs : List Nat, xs.length ≤ 1000 → (∀ s ∈ xs, s < 2 ^ 100) → RN 1 105003 (.tup (xs.map nD)) := fun xs h1 h2 => RN.tup (m := 1000) (w := 103) (k := 0) (fun d hd => by
    obtain ⟨s, hs, rfl⟩ := List.mem_map.mp hd
    exact rn_n (h2 s hs)) (by rw [List.length_map]; exact h1)
  exact RN.tup (m := 3) (w := 105003) (k := 1) (fun d hd => mem3 (P := RN 1 105003) ((rn_n h.1).mono (by decide) (by decide)) (f ds h.2.1 h.2.2.2.1) (f os h.2.2.1 h.2.2.2.2) hd) (by show 3 ≤ 3; decide)
theorem strs_ne {x : Str} {p q : Prop} (h : q) : Br (true.xor (decide (x = x))) p q := Br.xt (fun z => absurd rfl z) fun _ => h
theorem strs_t {x : Str} : Sl.dat (.bl (false.xor (decide (x = x)))) = .dat (.bl true) := by simp
theorem strs_e {x y : Str} (e : x = y) {p q : Prop} (h : q) : Br (true.xor (decide (x = y))) p q := Br.xt (fun z => absurd e z) fun _ => h
theorem tls_of {n : Nat} {cs os : List Nat} (h : InSz n cs os) (hn : n < 2 ^ 100) (ho : ∀ s ∈ os, s < 2 ^ 100) : TlS (leaQ n cs) (szL n cs) os := by
  obtain ⟨h1, _⟩ := lea_ok cs h.n0
  have l1 := Nat.le_of_dvd h.n0 h1.dv
  refine ⟨by omega, Nat.le_trans (List.length_filter_le _ _) h.cl, h.ol, fun s hs => ?_, ho⟩
  have := Nat.le_of_dvd h.n0 (h.hd s (mem_low.mp hs).1).2
  omega

/-! ### rows of digits in texts with something otherwise: plain -/
open TL
theorem Ru.app {j k : Nat} {a b : List Nat} (ha : Ru j a) (hb : Ru k b) : Ru (j + k) (a ++ b) := fun x y z e d => by
  rcases List.append_eq_append_iff.mp e with ⟨x', e1, e2⟩ | ⟨a', e1, e2⟩
  · have := hb x' y z e2 d
    omega
  · rcases List.append_eq_append_iff.mp e2 with ⟨y', e3, e4⟩ | ⟨c', e3, e4⟩
    · have := ha x y y' (by rw [e1, e3]) d
      omega
    · have d2 : digL a' = true ∧ digL c' = true := by
        rw [e3] at d
        unfold digL at d ⊢
        rw [List.all_append, Bool.and_eq_true] at d
        exact d
      have h1 := ha x a' [] (by rw [List.append_nil]; exact e1) d2.1
      have h2 := hb [] c' z e4 d2.2
      rw [e3, List.length_append]
      omega
theorem ru_nil : Ru 0 [] := fun x y z e _ => by
  have := congrArg List.length e
  rw [List.length_append, List.length_append, List.length_nil] at this
  omega
theorem ru_len (l : List Nat) : Ru l.length l := fun x y z e _ => by
  have := congrArg List.length e
  rw [List.length_append, List.length_append] at this
  omega
theorem Ru.sep {k s : Nat} {w r : List Nat} (hs : isDg s = false) (hw : Ru k w) (hr : Ru k r) : Ru k (w ++ (s :: r)) := fun x y z e d => by
  have no : ∀ {y : List Nat}, digL y = true → ∀ {q p : List Nat}, s :: q = y ++ p → y = [] := fun {y} d {q p} e => by
    cases y with
    | nil => rfl
    | cons c t =>
      have e1 := (List.cons.inj e).1
      unfold digL at d
      rw [List.all_cons, Bool.and_eq_true] at d
      have d1 : isDg c = true := d.1
      rw [← e1, hs] at d1
      cases d1
  rcases List.append_eq_append_iff.mp e with ⟨x', e1, e2⟩ | ⟨a', e1, e2⟩
  · cases x' with
    | nil =>
      rw [no d e2]
      exact Nat.zero_le _
    | cons c t => exact hr t y z (List.cons.inj e2).2 d
  · rcases List.append_eq_append_iff.mp e2 with ⟨y', e3, e4⟩ | ⟨c', e3, e4⟩
    · exact hw x y y' (by rw [e1, e3]) d
    · have d2 : digL a' = true ∧ digL c' = true := by
        rw [e3] at d
        unfold digL at d ⊢
        rw [List.all_append, Bool.and_eq_true] at d
        exact d
      have h1 := hw x a' [] (by rw [List.append_nil]; exact e1) d2.1
      rw [e3, no d2.2 e4, List.append_nil]
      exact h1
theorem Ru.join {k s : Nat} (hs : isDg s = false) : ∀ {ws : List (List Nat)}, (∀ w ∈ ws, Ru k w) → Ru k (joinL [s] ws)
  | [], _ => ru_nil.mono (Nat.zero_le _)
  | [w], h => h w List.mem_cons_self
  | w :: v :: r, h => (h w List.mem_cons_self).sep hs (Ru.join hs (ws := v :: r) fun x hx => h x (List.mem_cons_of_mem _ hx))
theorem sum_mem {n : Nat} : ∀ {ws : List (List Nat)}, (ws.map List.length).sum ≤ n → ∀ w ∈ ws, w.length ≤ n
  | w :: r, h, v, hv => by
    have h : w.length + (r.map List.length).sum ≤ n := h
    rcases List.mem_cons.mp hv with rfl | hv
    · omega
    · exact sum_mem (n := n) (by omega) v hv
theorem sum_set (v : List Nat) : ∀ (ws : List (List Nat)) (i : Nat), ((ws.set i v).map List.length).sum ≤ (ws.map List.length).sum + v.length
  | [], i => Nat.zero_le _
  | w :: r, 0 => by
    show v.length + (r.map List.length).sum ≤ w.length + (r.map List.length).sum + v.length
    omega
  | w :: r, i + 1 => by
    have := sum_set v r i
    show w.length + ((r.set i v).map List.length).sum ≤ w.length + (r.map List.length).sum + v.length
    omega
theorem join_sum {s : List Nat} : ∀ {ws : List (List Nat)}, (joinL s ws).length ≤ (ws.map List.length).sum + s.length * ws.length
  | [] => Nat.zero_le _
  | [w] => by
    show w.length ≤ (w.length + 0) + s.length * 1
    omega
  | w :: v :: r => by
    have b := join_sum (s := s) (ws := v :: r)
    show (w ++ (s ++ joinL s (v :: r))).length ≤ (w.length + ((v :: r).map List.length).sum) + s.length * ((v :: r).length + 1)
    rw [List.length_append, List.length_append, Nat.mul_succ]
    omega
/-- a text that may be bent again -/
structure Bt (k n : Nat) (l : List Nat) : Prop where
  run : Ru k l
  len : l.length ≤ n
  asc : ∀ c ∈ l, c < 128
theorem Bt.inf {k n : Nat} {l m x z : List Nat} (h : Bt k n l) (e : l = x ++ (m ++ z)) : Bt k n m := ⟨h.run.inf e, by
  have := h.len
  rw [e, List.length_append, List.length_append] at this
  omega, fun c hc => h.asc c (by rw [e]; exact List.mem_append_right _ (List.mem_append_left _ hc))⟩
theorem Bt.take {k n : Nat} {l : List Nat} (h : Bt k n l) (i : Nat) : Bt k n (l.take i) := h.inf (x := []) (z := l.drop i) (by rw [List.nil_append, List.take_append_drop])
theorem Bt.drop {k n : Nat} {l : List Nat} (h : Bt k n l) (i : Nat) : Bt k n (l.drop i) := h.inf (x := l.take i) (z := []) (by rw [List.append_nil, List.take_append_drop])
theorem Bt.app {j k m n : Nat} {a b : List Nat} (ha : Bt j m a) (hb : Bt k n b) : Bt (j + k) (m + n) (a ++ b) := ⟨ha.run.app hb.run, by
  have := ha.len
  have := hb.len
  rw [List.length_append]
  omega, fun c hc => (List.mem_append.mp hc).elim (ha.asc c) (hb.asc c)⟩
theorem Bt.mono {j k m n : Nat} {l : List Nat} (h : Bt j m l) (hk : j ≤ k) (hn : m ≤ n) : Bt k n l := ⟨h.run.mono hk, Nat.le_trans h.len hn, h.asc⟩
theorem bt_sign {s : Nat} (h : s < 128) : Bt 1 1 [s] := ⟨ru_len [s], Nat.le_refl _, fun c hc => by rw [List.mem_singleton.mp hc]; exact h⟩
theorem Bt.spl {k n : Nat} {l : List Nat} (h : Bt k n l) : ∀ t ∈ spl [32] 0 [] l, Bt k n t := fun t ht => by
  obtain ⟨x, z, e⟩ := spl_inf l 0 [] (.inl rfl) t ht
  exact h.inf e
/-- words, joined by blanks -/
theorem Bt.join {k n : Nat} {ws : List (List Nat)} (h : ∀ w ∈ ws, Ru k w ∧ ∀ c ∈ w, c < 128) (hl : (ws.map List.length).sum + ws.length ≤ n) : Bt k n (joinL [32] ws) := ⟨Ru.join rfl fun w hw => (h w hw).1, by
  have := join_sum (s := [32]) (ws := ws)
  have e : ([32] : List Nat).length = 1 := rfl
  rw [e, Nat.one_mul] at this
  omega, fun c hc => by
  rcases joinL_mem hc with hc | ⟨w, hw, hc⟩
  · rw [List.mem_singleton.mp hc]
    decide
  · exact (h w hw).2 c hc⟩

/-! ### str of a number, as a list of signs -/
open TL
theorem str_int (i : Int) : Str.ofString (toString i) = mkS (numI i) := by
  cases i with
  | ofNat n => exact num_str n
  | negSucc m =>
    refine mk_eq ?_
    have h := tl_num (m + 1)
    rw [tl_ofString] at h ⊢
    have e : toString (Int.negSucc m) = "-" ++ toString (((m + 1 : Nat)) : Int) := rfl
    rw [e, String.toList_append, List.map_append, h]
    unfold numI
    rw [decide_eq_true (Int.negSucc_lt_zero m)]
    exact congrArg (fun x => x ++ numL (m + 1)) (show List.map Char.toNat "-".toList = sgL true by decide +kernel)
/-- str of a number -/
theorem strI {i : Int} (h : B31 i) {cs : List Cell} {R : RV} (hR : R (.dat (.str (mkS (numI i)))) cs) : strW1 [.dat (.int i)] cs R := by
  refine And.intro (lg60 (b60 h)) ?_
  rw [← str_int] at hR
  exact hR
/-- texts put together by + -/
theorem adL {l m : List Nat} (h : l.length + m.length ≤ 10000000) : (mkS l).length + (mkS m).length ≤ sizeLine := by
  rw [len_mkS, len_mkS]
  exact szS h
theorem ln2 (a b : Nat) : ([a, b] : List Nat).length = 2 := rfl
theorem ln3 (a b c : Nat) : ([a, b, c] : List Nat).length = 3 := rfl

/-! ### texts bent and read again -/
open TL
theorem Ru.join2 {k s t : Nat} (hs : isDg s = false) (ht : isDg t = false) : ∀ {ws : List (List Nat)}, (∀ w ∈ ws, Ru k w) → Ru k (joinL [s, t] ws)
  | [], _ => ru_nil.mono (Nat.zero_le _)
  | [w], h => h w List.mem_cons_self
  | w :: v :: r, h => (h w List.mem_cons_self).sep hs ((ru_nil.mono (Nat.zero_le k)).sep ht (Ru.join2 hs ht (ws := v :: r) fun x hx => h x (List.mem_cons_of_mem _ hx)))
theorem ru_one {k s : Nat} (hs : isDg s = false) : Ru k [s] := (ru_nil.mono (Nat.zero_le k)).sep hs (ru_nil.mono (Nat.zero_le k))
theorem Ru.lst1 {k s : Nat} (hs : isDg s = false) {ws : List (List Nat)} (h : ∀ w ∈ ws, Ru k w) : Ru k (lstT [s] ws) := by
  unfold lstT
  split
  · exact ru_one (by decide)
  · exact Ru.join hs h
theorem Ru.lst2 {k s t : Nat} (hs : isDg s = false) (ht : isDg t = false) {ws : List (List Nat)} (h : ∀ w ∈ ws, Ru k w) : Ru k (lstT [s, t] ws) := by
  unfold lstT
  split
  · exact ru_one (by decide)
  · exact Ru.join2 hs ht h
theorem ru_num {k : Nat} {i : Int} (h0 : 0 < k) (h : i.natAbs < 10 ^ k) : Ru k (numI i) := by
  have hl : (numL i.natAbs).length ≤ k := numL_len h0 h
  by_cases z : i < 0
  · rw [numI_neg z]
    exact (ru_nil.mono (Nat.zero_le k)).sep (by decide) ((ru_len _).mono hl)
  · rw [numI_pos (by omega)]
    exact (ru_len _).mono hl
theorem ru_spc {k : Nat} {ns : List Int} (h0 : 0 < k) (h : ∀ n ∈ ns, n.natAbs < 10 ^ k) : Ru k (spcT ns) := Ru.lst1 (by decide) fun w hw => by
  obtain ⟨n, hn, rfl⟩ := List.mem_map.mp hw
  exact ru_num h0 (h n hn)
theorem Ru.two {k s t : Nat} {w r : List Nat} (hs : isDg s = false) (ht : isDg t = false) (hw : Ru k w) (hr : Ru k r) : Ru k (w ++ (s :: t :: r)) := hw.sep hs ((ru_nil.mono (Nat.zero_le k)).sep ht hr)
theorem ru_ctx {k : Nat} {ls : List Lot} {os : List (Int × Int)} (h0 : 0 < k) (h1 : ∀ l ∈ ls, l.1.natAbs < 10 ^ k) (h2 : ∀ l ∈ ls, ∀ n ∈ l.2, n.natAbs < 10 ^ k) (h3 : ∀ p ∈ os, p.1.natAbs < 10 ^ k ∧ p.2.natAbs < 10 ^ k) : Ru k (ctxT ls os) := by
  unfold ctxT
  refine Ru.two (by decide) (by decide) (Ru.lst2 (by decide) (by decide) fun w hw => ?_) ((ru_nil.mono (Nat.zero_le k)).sep (by decide) (Ru.lst2 (by decide) (by decide) fun w hw => ?_))
  · obtain ⟨l, hl, rfl⟩ := List.mem_map.mp hw
    exact Ru.two (by decide) (by decide) (ru_num h0 (h1 l hl)) (ru_spc h0 (h2 l hl))
  · obtain ⟨p, hp, rfl⟩ := List.mem_map.mp hw
    exact Ru.two (by decide) (by decide) (ru_num h0 (h3 p hp).1) (ru_num h0 (h3 p hp).2)
theorem ru_szx {k : Nat} {p : Int} {cs os : List Int} (h0 : 0 < k) (h1 : p.natAbs < 10 ^ k) (h2 : ∀ n ∈ cs, n.natAbs < 10 ^ k) (h3 : ∀ n ∈ os, n.natAbs < 10 ^ k) : Ru k (szxT p cs os) := by
  unfold szxT
  exact Ru.two (by decide) (by decide) (ru_num h0 h1) ((ru_nil.mono (Nat.zero_le k)).sep (by decide) (Ru.two (by decide) (by decide) (ru_spc h0 h2) ((ru_nil.mono (Nat.zero_le k)).sep (by decide) (ru_spc h0 h3))))
theorem asc_ctx {ls : List Lot} {os : List (Int × Int)} : ∀ c ∈ ctxT ls os, c < 128 := fun c h => by
  unfold ctxT at h
  rcases List.mem_append.mp h with h | h
  · have := lstc_in h
    omega
  · rcases List.mem_cons.mp h with h | h
    · omega
    · rcases List.mem_cons.mp h with h | h
      · omega
      · rcases List.mem_cons.mp h with h | h
        · omega
        · rw [odts] at h
          have := lstc_in h
          omega
theorem asc_szx {p : Int} {cs os : List Int} : ∀ c ∈ szxT p cs os, c < 128 := fun c h => by
  unfold szxT at h
  rcases List.mem_append.mp h with h | h
  · have := numI_in h
    omega
  · rcases List.mem_cons.mp h with h | h
    · omega
    · rcases List.mem_cons.mp h with h | h
      · omega
      · rcases List.mem_cons.mp h with h | h
        · omega
        · rcases List.mem_append.mp h with h | h
          · have := spc_in h
            omega
          · rcases List.mem_cons.mp h with h | h
            · omega
            · rcases List.mem_cons.mp h with h | h
              · omega
              · rcases List.mem_cons.mp h with h | h
                · omega
                · have := spc_in h
                  omega
theorem Bt.okv {n : Nat} {l : List Nat} (h : Bt 31 n l) (hl : l.length ≤ 1999) : Okv l := ⟨hl, h.run, h.asc⟩

/-! ### what is told is read again -/
open TL
theorem rcO_good {ls : List Lot} {os : List (Int × Int)} (h1 : ∀ l ∈ ls, l.1.natAbs < 10 ^ 60) (h2 : ∀ l ∈ ls, ∀ n ∈ l.2, n.natAbs < 10 ^ 60) (h3 : ∀ p ∈ os, p.1.natAbs < 10 ^ 60 ∧ p.2.natAbs < 10 ^ 60) (k1 : okP ls = true) (k2 : okO os = true) (e1 : shortP ls = ls) (e2 : shortO ls os = os) : rcO (ctxT ls os) = some (ls, os) := by
  have g1 : ∀ l ∈ os.map odL, l.1.natAbs < 10 ^ 60 := fun l hl => by
    obtain ⟨p, hp, rfl⟩ := List.mem_map.mp hl
    exact (h3 p hp).1
  have g2 : ∀ l ∈ os.map odL, ∀ n ∈ l.2, n.natAbs < 10 ^ 60 := fun l hl n hn => by
    obtain ⟨p, hp, rfl⟩ := List.mem_map.mp hl
    rw [List.mem_singleton.mp hn]
    exact (h3 p hp).2
  unfold rcO
  rw [spl_ctx]
  dsimp only
  rw [pPairs_lst h1 h2]
  dsimp only
  rw [odts, pPairs_lst g1 g2]
  dsimp only
  rw [pOdd_od]
  dsimp only
  rw [e1, e2, if_pos ⟨k1, k2, rfl⟩]
theorem nL_iL (cs : List Nat) : nL (iL cs) = cs := by
  show (cs.map fun n : Nat => (n : Int)).map Int.toNat = cs
  rw [List.map_map]
  exact (List.map_congr_left fun n _ => Int.toNat_natCast n).trans (List.map_id cs)
theorem asc_i : ∀ {cs : List Nat} {a : Nat}, cs.Pairwise (· < ·) → (∀ s ∈ cs, a < s) → Asc (a : Int) (iL cs)
  | [], _, _, _ => trivial
  | s :: cs, a, h, k => by
    obtain ⟨h1, h2⟩ := List.pairwise_cons.mp h
    have := k s List.mem_cons_self
    exact ⟨show (a : Int) < ((s : Nat) : Int) by omega, asc_i h2 h1⟩
theorem okS_of {n : Nat} {cs os : List Nat} (h : InSz n cs os) : okS (n : Int) (iL cs) (iL os) = true := by
  have n0 := h.n0
  have d : dvI (n : Int) (iL cs) = true := List.all_eq_true.mpr fun x hx => by
    obtain ⟨s, hs, rfl⟩ := List.mem_map.mp hx
    exact decide_eq_true (mod0.mpr (Nat.mod_eq_zero_of_dvd (h.hd s hs).2))
  have e1 : ascB 0 (iL cs) = true := ascB_iff.mpr (asc_i (a := 0) h.hc fun s hs => (h.hd s hs).1)
  have e2 : ascB 0 (iL os) = true := ascB_iff.mpr (asc_i (a := 0) h.oc h.od)
  unfold okS
  rw [decide_eq_true (show (1 : Int) ≤ (n : Int) by omega), d, e1, e2]
  rfl
theorem rsO_good {n : Nat} {cs os : List Nat} (h : InSz n cs os) (h1 : ∀ s ∈ cs, s < 10 ^ 60) (h2 : ∀ s ∈ os, s < 10 ^ 60) (e1 : leaQ n cs = n) (e2 : szL n cs = cs) : rsO (szxT (n : Int) (iL cs) (iL os)) = some (n, cs, os) := by
  have hn := h.hn
  have i60 : ∀ {l : List Nat}, (∀ s ∈ l, s < 10 ^ 60) → ∀ x ∈ iL l, x.natAbs < 10 ^ 60 := fun {l} k x hx => by
    obtain ⟨s, hs, rfl⟩ := List.mem_map.mp hx
    have e : ((s : Nat) : Int).natAbs = s := rfl
    rw [e]
    exact k s hs
  have n60 : ((n : Nat) : Int).natAbs < 10 ^ 60 := Nat.lt_of_lt_of_le h.hn (by decide)
  unfold rsO
  rw [spl_szx]
  dsimp only
  rw [pInt_num n60]
  dsimp only
  rw [pInts_spc (i60 h1)]
  dsimp only
  rw [pInts_spc (i60 h2)]
  dsimp only
  rw [nL_iL, nL_iL, Int.toNat_natCast, e2, e1, if_pos ⟨okS_of h, rfl⟩]
/-! lengths -/
theorem numI_ln {k : Nat} {i : Int} (h0 : 0 < k) (h : i.natAbs < 10 ^ k) : (numI i).length ≤ k + 1 := by
  have a : (numL i.natAbs).length ≤ k := numL_len h0 h
  by_cases z : i < 0
  · rw [numI_neg z, List.length_cons]
    omega
  · rw [numI_pos (by omega)]
    omega
theorem spc_ln {k : Nat} {ns : List Int} (h0 : 0 < k) (h : ∀ n ∈ ns, n.natAbs < 10 ^ k) : (spcT ns).length ≤ (k + 2) * ns.length + 1 := by
  have := lst_len (k := k + 1) (s := [32]) (ls := ns.map numI) fun l hl => by
    obtain ⟨i, hi, rfl⟩ := List.mem_map.mp hl
    exact numI_ln h0 (h i hi)
  rw [List.length_map] at this
  exact this
theorem szx_ln {p : Int} {cs os : List Int} (h1 : p.natAbs < 10 ^ 7) (h2 : ∀ n ∈ cs, n.natAbs < 10 ^ 7) (h3 : ∀ n ∈ os, n.natAbs < 10 ^ 7) (l1 : cs.length ≤ 100) (l2 : os.length ≤ 9) : (szxT p cs os).length ≤ 1999 := by
  have a := numI_ln (by decide) h1
  have b := spc_ln (by decide) h2
  have c := spc_ln (by decide) h3
  unfold szxT
  rw [List.length_append, List.length_cons, List.length_cons, List.length_cons, List.length_append, List.length_cons, List.length_cons, List.length_cons]
  omega
theorem bt_szx {p : Int} {cs os : List Int} (h1 : p.natAbs < 10 ^ 7) (h2 : ∀ n ∈ cs, n.natAbs < 10 ^ 7) (h3 : ∀ n ∈ os, n.natAbs < 10 ^ 7) (l1 : cs.length ≤ 100) (l2 : os.length ≤ 9) : Bt 7 1999 (szxT p cs os) := ⟨ru_szx (by decide) h1 h2 h3, szx_ln h1 h2 h3 l1 l2, asc_szx⟩
theorem wrd_szx {p : Int} {cs os : List Int} (h1 : p.natAbs < 10 ^ 7) : Wrd9 (szxT p cs os) := by
  unfold Wrd9 szxT
  rw [first_word (pInt_num (Nat.lt_of_lt_of_le h1 (by decide)))]
  exact Nat.le_trans (numI_ln (by decide) h1) (by decide)

/-! ### values compared -/
open TL
theorem ceq_c {ls : List Lot} {os : List (Int × Int)} : c_Count___eq__ [.dat (coD ls os), .dat (coD ls os)] [] (.dat (.bl true)) [] := by
  refine ⟨rfl, Br.tt rfl (And.intro rfl (call_ (cpar_c _ _) (And.intro rfl (call_ (cod_c _ _) (And.intro (szk 2) (And.intro rfl (call_ (cpar_c _ _) (And.intro rfl (call_ (cod_c _ _) (And.intro (szk 2) (And.intro (ok_toD ls os) (And.intro (ok_toD ls os) (And.intro ?_ rfl)))))))))))))⟩
  show Sl.dat (.bl (false.xor (eqD (toD ls os) (toD ls os)))) = _
  rw [eqD_refl (ok_toD ls os)]
  rfl
theorem stl_c {l : Nat} {ds os : List Nat} : c_Sizes_told [.dat (szD l ds os)] [] (.dat (tlD l ds os)) [] := ⟨rfl, And.intro rfl (And.intro rfl (And.intro rfl (And.intro (szk 3) (And.intro rfl rfl))))⟩
theorem seq_c {l : Nat} {ds os : List Nat} : c_Sizes___eq__ [.dat (szD l ds os), .dat (szD l ds os)] [] (.dat (.bl true)) [] := by
  refine ⟨rfl, Br.tt rfl (And.intro rfl (call_ stl_c (And.intro rfl (call_ stl_c (And.intro (ok_tlD l ds os) (And.intro (ok_tlD l ds os) (And.intro ?_ rfl)))))))⟩
  show Sl.dat (.bl (false.xor (eqD (tlD l ds os) (tlD l ds os)))) = _
  rw [eqD_refl (ok_tlD l ds os)]
  rfl

/-! ### texts that are none: counts, plain -/
open TL
abbrev S60 (n : Int) : Prop := n.natAbs < 10 ^ 60
/-- all numbers may be parsed -/
structure Sml (rs : List Lot) : Prop where
  a : ∀ l ∈ rs, l.1.natAbs < 10 ^ 60
  b : ∀ l ∈ rs, ∀ n ∈ l.2, n.natAbs < 10 ^ 60
abbrev rwT (rs qs : List Lot) : List Nat := lstT [59, 32] (rs.map prtT) ++ (32 :: 124 :: 32 :: lstT [59, 32] (qs.map prtT))
theorem ctx_rw (ls : List Lot) (os : List (Int × Int)) : ctxT ls os = rwT ls (os.map odL) := by
  unfold ctxT
  rw [odts]
theorem bar_lst (rs : List Lot) : 124 ∉ lstT [59, 32] (rs.map prtT) := fun z => by have := lstc_in z; omega
theorem spl_rw (rs qs : List Lot) : spl [32, 124, 32] 0 [] (rwT rs qs) = [lstT [59, 32] (rs.map prtT), lstT [59, 32] (qs.map prtT)] := by
  rw [spl_bar (bar_lst rs), spl_bar1 (bar_lst qs)]
theorem rc_rw {rs qs : List Lot} (h1 : Sml rs) (h2 : Sml qs) : rcO (rwT rs qs) = match pOdd qs with
    | none => none
    | some os => if okP rs = true ∧ okO os = true ∧ ctxT (shortP rs) (shortO rs os) = rwT rs qs then some (shortP rs, shortO rs os) else none := by
  unfold rcO
  rw [spl_rw]
  dsimp only
  rw [pPairs_lst h1.a h1.b]
  dsimp only
  rw [pPairs_lst h2.a h2.b]
  all_goals rfl
theorem rw_inj {rs qs rs' qs' : List Lot} (h1 : Sml rs) (h2 : Sml qs) (h3 : Sml rs') (h4 : Sml qs') (e : rwT rs qs = rwT rs' qs') : rs = rs' ∧ qs = qs' := by
  have a := congrArg (spl [32, 124, 32] 0 []) e
  rw [spl_rw, spl_rw] at a
  have a1 := congrArg pPairs (List.cons.inj a).1
  have a2 := congrArg pPairs (List.cons.inj (List.cons.inj a).2).1
  rw [pPairs_lst h1.a h1.b, pPairs_lst h3.a h3.b] at a1
  rw [pPairs_lst h2.a h2.b, pPairs_lst h4.a h4.b] at a2
  exact ⟨Option.some.inj a1, Option.some.inj a2⟩
theorem sml_od {os : List (Int × Int)} (h : ∀ p ∈ os, S60 p.1 ∧ S60 p.2) : Sml (os.map odL) := ⟨fun l hl => by
  obtain ⟨p, hp, rfl⟩ := List.mem_map.mp hl
  exact (h p hp).1, fun l hl n hn => by
  obtain ⟨p, hp, rfl⟩ := List.mem_map.mp hl
  rw [List.mem_singleton.mp hn]
  exact (h p hp).2⟩
theorem Sml.short {rs : List Lot} (h : Sml rs) : Sml (shortP rs) := ⟨fun l hl => by
  obtain ⟨q, hq, rfl⟩ := shortP_in hl
  exact h.a q hq, fun l hl n hn => by
  obtain ⟨q, hq, rfl⟩ := shortP_in hl
  exact h.b q hq n (cutL_mem hn)⟩
/-- an odd pair without just one value -/
theorem rc_nod {rs qs : List Lot} (h1 : Sml rs) (h2 : Sml qs) (h : pOdd qs = none) : rcO (rwT rs qs) = none := by
  rw [rc_rw h1 h2, h]
/-- a text of pairs that is not told -/
theorem rc_no {rs : List Lot} {os : List (Int × Int)} (h1 : Sml rs) (h2 : ∀ p ∈ os, S60 p.1 ∧ S60 p.2) (h : okP rs = false ∨ okO os = false ∨ shortP rs ≠ rs ∨ shortO rs os ≠ os) : rcO (ctxT rs os) = none := by
  rw [ctx_rw, rc_rw h1 (sml_od h2), pOdd_od]
  dsimp only
  refine if_neg fun ⟨k1, k2, k3⟩ => ?_
  rw [ctx_rw] at k3
  obtain ⟨e1, e2⟩ := rw_inj h1.short (sml_od (os := shortO rs os) fun p hp => h2 p (shortO_in hp)) h1 (sml_od h2) k3
  have e3 := congrArg pOdd e2
  rw [pOdd_od, pOdd_od] at e3
  rcases h with h | h | h | h
  · rw [k1] at h; cases h
  · rw [k2] at h; cases h
  · exact h e1
  · exact h (Option.some.inj e3)
/-! not two parts -/
theorem rc_one {l : List Nat} (h : 124 ∉ l) : rcO l = none := by
  unfold rcO
  rw [spl_bar1 h]
theorem rc_three {a b c : List Nat} (ha : 124 ∉ a) (hb : 124 ∉ b) (hc : 124 ∉ c) : rcO (a ++ (32 :: 124 :: 32 :: (b ++ (32 :: 124 :: 32 :: c)))) = none := by
  unfold rcO
  rw [spl_bar ha, spl_bar hb, spl_bar1 hc]
/-- a first part without pairs -/
theorem rc_bad {a b : List Nat} (ha : 124 ∉ a) (hb : 124 ∉ b) (h : pPairs a = none) : rcO (a ++ (32 :: 124 :: 32 :: b)) = none := by
  unfold rcO
  rw [spl_bar ha, spl_bar1 hb]
  dsimp only
  rw [h]
theorem sem_free {p q : List Nat} {c : Nat} (hp : 59 ∉ p) (hq : 59 ∉ q) (hc : c ≠ 32) : ∀ i, i < (p ++ (59 :: c :: q)).length → c ≠ 59 → pre [59, 32] ((p ++ (59 :: c :: q)).drop i) = false := fun i hi c59 => by
  match hd : (p ++ (59 :: c :: q)).drop i with
  | [] => exact absurd (List.drop_eq_nil_iff.mp hd) (by omega)
  | [d] =>
    unfold pre
    refine beq_eq_false_iff_ne.mpr fun z => ?_
    have z : [d] = [59, 32] := z
    exact absurd (List.cons.inj z).2 (by decide)
  | d :: f :: r =>
    unfold pre
    refine beq_eq_false_iff_ne.mpr fun z => ?_
    have z : [d, f] = [59, 32] := z
    have z1 := (List.cons.inj z).1
    have z2 := (List.cons.inj (List.cons.inj z).2).1
    rw [z1, z2] at hd
    have e := List.take_append_drop i (p ++ (59 :: c :: q))
    rw [hd] at e
    rcases List.append_eq_append_iff.mp e.symm with ⟨x, e1, e2⟩ | ⟨x, e1, e2⟩
    · cases x with
      | nil => exact hc (List.cons.inj (List.cons.inj e2).2).1
      | cons y x =>
        have e2 := (List.cons.inj e2).2
        have : 59 ∈ c :: q := by rw [e2]; exact List.mem_append_right _ List.mem_cons_self
        rcases List.mem_cons.mp this with h | h
        · exact c59 h.symm
        · exact hq h
    · cases x with
      | nil => exact hc (List.cons.inj (List.cons.inj e2).2).1.symm
      | cons y x =>
        have y59 := (List.cons.inj e2).1
        exact hp (by rw [e1, ← y59]; exact List.mem_append_right _ List.mem_cons_self)
/-- two pairs without a blank between -/
theorem pp_two {l m : Lot} : pPairs (prtT l ++ (59 :: prtT m)) = none := by
  have n59 : ∀ l : Lot, 59 ∉ prtT l := fun l z => by have := prt_in z; omega
  obtain ⟨c, r, e, hc⟩ : ∃ c r, prtT m = c :: r ∧ c ≠ 32 := by
    match hm : numI m.1 with
    | [] => exact absurd hm (numI_ne m.1)
    | c :: r =>
      refine ⟨c, r ++ (58 :: 32 :: spcT m.2), by unfold prtT; rw [hm]; rfl, fun z => ?_⟩
      have : c ∈ numI m.1 := by rw [hm]; exact List.mem_cons_self
      have := numI_in this
      omega
  have c59 : c ≠ 59 := fun z => n59 m (by rw [e, z]; exact List.mem_cons_self)
  have r59 : 59 ∉ r := fun z => n59 m (by rw [e]; exact List.mem_cons_of_mem _ z)
  have sp : spl [59, 32] 0 [] (prtT l ++ (59 :: prtT m)) = [prtT l ++ (59 :: prtT m)] := by
    rw [e]
    exact spl_last (acc := []) fun i hi => sem_free (n59 l) r59 hc i hi c59
  have n45 : prtT l ++ (59 :: prtT m) ≠ [45] := fun z => prt_ns l _ z
  have no58 : ∀ i : Int, 58 ∉ numI i := fun i z => by have := numI_in z; omega
  have no58s : ∀ s : List Int, 58 ∉ spcT s := fun s z => by have := spc_in z; omega
  have e2 : prtT l ++ (59 :: prtT m) = numI l.1 ++ ([58, 32] ++ ((spcT l.2 ++ (59 :: numI m.1)) ++ ([58, 32] ++ spcT m.2))) := by
    unfold prtT
    simp
  have sq : pPair (prtT l ++ (59 :: prtT m)) = none := by
    unfold pPair
    rw [e2, spl_part1 (s := 58) (S := [32]) (acc := []) (no58 _), spl_part1 (s := 58) (S := [32]) (acc := []) (fun z => ?_), spl_last1 (s := 58) (S := [32]) (acc := []) (no58s _)]
    rcases List.mem_append.mp z with z | z
    · exact no58s _ z
    · rcases List.mem_cons.mp z with z | z
      · exact absurd z (by decide)
      · exact no58 _ z
  unfold pPairs
  rw [if_neg n45, sp]
  unfold optL
  rw [sq]
/-! heads and ends -/
theorem rcO_some {l : List Nat} {q : List Lot × List (Int × Int)} (e : rcO l = some q) : ∃ rs os, okP rs = true ∧ l = ctxT (shortP rs) os := by
  unfold rcO at e
  split at e
  · rename_i a b _
    cases h1 : pPairs a with
    | none => rw [h1] at e; cases e
    | some rs =>
      rw [h1] at e
      cases h2 : pPairs b with
      | none => rw [h2] at e; cases e
      | some qs =>
        rw [h2] at e
        have e : (match pOdd qs with | none => none | some os => if okP rs = true ∧ okO os = true ∧ ctxT (shortP rs) (shortO rs os) = l then some (shortP rs, shortO rs os) else none) = some q := e
        cases h3 : pOdd qs with
        | none => rw [h3] at e; cases e
        | some ps =>
          rw [h3] at e
          have e : (if okP rs = true ∧ okO ps = true ∧ ctxT (shortP rs) (shortO rs ps) = l then some (shortP rs, shortO rs ps) else none) = some q := e
          split at e
          · rename_i hc
            exact ⟨rs, shortO rs ps, hc.1, hc.2.2.symm⟩
          · cases e
  · cases e
theorem numI_hd {i : Int} (h : 0 < i) : ∃ c r, numI i = c :: r ∧ 49 ≤ c ∧ c ≤ 57 := by
  obtain ⟨c, r, e, hc⟩ := num_head i.natAbs (by omega)
  have := num_dig (n := i.natAbs) (c := c) (by rw [e]; exact List.mem_cons_self)
  exact ⟨c, r, by rw [numI_pos (by omega)]; exact e, by omega, by omega⟩
theorem ctx_hd {ls : List Lot} {os : List (Int × Int)} (h : Asc 0 (ls.map (·.1))) : ∃ c r, ctxT ls os = c :: r ∧ (c = 45 ∨ (49 ≤ c ∧ c ≤ 57)) := by
  cases ls with
  | nil => exact ⟨45, _, rfl, .inl rfl⟩
  | cons l ls =>
    obtain ⟨c, r, e, h1, h2⟩ := numI_hd (i := l.1) h.1
    have e2 : ∃ r, lstT [59, 32] ((l :: ls).map prtT) = c :: r := by
      rw [lst_ne (by simp)]
      cases ls with
      | nil => exact ⟨_, show prtT l = _ by unfold prtT; rw [e]; rfl⟩
      | cons m ls => exact ⟨_, show prtT l ++ _ = _ by unfold prtT; rw [e]; rfl⟩
    obtain ⟨r2, e2⟩ := e2
    exact ⟨c, _, by unfold ctxT; rw [e2]; rfl, .inr ⟨h1, h2⟩⟩
/-- a text with another first sign -/
theorem rc_head {c : Nat} {l : List Nat} (h : c ≠ 45) (h2 : c < 49 ∨ 57 < c) : rcO (c :: l) = none := by
  cases e : rcO (c :: l) with
  | none => rfl
  | some q =>
    obtain ⟨rs, os, k1, k2⟩ := rcO_some e
    unfold okP at k1
    rw [Bool.and_eq_true] at k1
    obtain ⟨d, r, e2, k3⟩ := ctx_hd (os := os) (asc_shortP (ascB_iff.mp k1.1))
    rw [e2] at k2
    have := (List.cons.inj k2).1
    omega
def En (l : List Nat) : Prop := ∃ r c, l = r ++ [c] ∧ (c = 45 ∨ (48 ≤ c ∧ c ≤ 57))
theorem En.app {a b : List Nat} (h : En b) : En (a ++ b) := by
  obtain ⟨r, c, rfl, h⟩ := h
  exact ⟨a ++ r, c, by rw [List.append_assoc], h⟩
theorem En.cons {a : Nat} {b : List Nat} (h : En b) : En (a :: b) := En.app (a := [a]) h
theorem en_num (i : Int) : En (numI i) := by
  have hn := numI_ne i
  refine ⟨(numI i).dropLast, (numI i).getLast hn, (List.dropLast_concat_getLast hn).symm, ?_⟩
  exact numI_in (List.getLast_mem hn)
theorem en_join {s : List Nat} : ∀ {ws : List (List Nat)}, ws ≠ [] → (∀ w ∈ ws, En w) → En (joinL s ws)
  | [], h, _ => absurd rfl h
  | [w], _, h => h w List.mem_cons_self
  | w :: v :: r, _, h => En.app (En.app (en_join (s := s) (ws := v :: r) (by simp) fun x hx => h x (List.mem_cons_of_mem _ hx)))
theorem en_lst {s : List Nat} {ws : List (List Nat)} (h : ∀ w ∈ ws, En w) : En (lstT s ws) := by
  unfold lstT
  split
  · exact ⟨[], 45, rfl, .inl rfl⟩
  · rename_i hn
    exact en_join hn h
theorem en_spc (ns : List Int) : En (spcT ns) := en_lst fun w hw => by
  obtain ⟨i, _, rfl⟩ := List.mem_map.mp hw
  exact en_num i
theorem en_ctx (ls : List Lot) (os : List (Int × Int)) : En (ctxT ls os) := En.app (En.cons (En.cons (En.cons (en_lst fun w hw => by
  obtain ⟨p, _, rfl⟩ := List.mem_map.mp hw
  exact En.app (En.cons (En.cons (en_num p.2)))))))
theorem no_end {l : List Nat} {c : Nat} (h : c ≠ 45) (h2 : c < 48 ∨ 57 < c) : ¬ En (l ++ [c]) := fun ⟨r, d, e, k⟩ => by
  have := (List.append_inj' e rfl).2
  have := (List.cons.inj this).1
  omega
/-- a text with another last sign -/
theorem rc_last {c : Nat} {l : List Nat} (h : c ≠ 45) (h2 : c < 48 ∨ 57 < c) : rcO (l ++ [c]) = none := by
  cases e : rcO (l ++ [c]) with
  | none => rfl
  | some q =>
    obtain ⟨rs, os, _, k2⟩ := rcO_some e
    exact absurd (by rw [k2]; exact en_ctx _ _) (no_end h h2)

/-! ### texts that are none: sets of sizes, plain -/
open TL
theorem rsO_some {l : List Nat} {q : Nat × List Nat × List Nat} (e : rsO l = some q) : ∃ (p : Int) (cs os : List Int) (ds : List Int), okS p cs os = true ∧ l = szxT (leaQ p.toNat (nL cs) : Nat) ds os := by
  unfold rsO at e
  split at e
  · rename_i a b c _
    cases h1 : pInt a with
    | none => rw [h1] at e; cases e
    | some p =>
      rw [h1] at e
      cases h2 : pInts b with
      | none => rw [h2] at e; cases e
      | some cs =>
        rw [h2] at e
        have e : (match pInts c with | none => none | some os => if okS p cs os = true ∧ szxT (leaQ p.toNat (nL cs)) (iL (szL p.toNat (nL cs))) os = l then some (p.toNat, nL cs, nL os) else none) = some q := e
        cases h3 : pInts c with
        | none => rw [h3] at e; cases e
        | some os =>
          rw [h3] at e
          have e : (if okS p cs os = true ∧ szxT (leaQ p.toNat (nL cs)) (iL (szL p.toNat (nL cs))) os = l then some (p.toNat, nL cs, nL os) else none) = some q := e
          split at e
          · rename_i hc
            exact ⟨p, cs, os, _, hc.1, hc.2.symm⟩
          · cases e
  · cases e
theorem szx_hd {p : Int} {cs os : List Int} (h : 0 < p) : ∃ c r, szxT p cs os = c :: r ∧ 49 ≤ c ∧ c ≤ 57 := by
  obtain ⟨c, r, e, h1, h2⟩ := numI_hd h
  exact ⟨c, _, by unfold szxT; rw [e]; rfl, h1, h2⟩
theorem en_szx (p : Int) (cs os : List Int) : En (szxT p cs os) := En.app (En.cons (En.cons (En.cons (En.app (En.cons (En.cons (En.cons (en_spc os))))))))
theorem rs_head {c : Nat} {l : List Nat} (h2 : c < 49 ∨ 57 < c) : rsO (c :: l) = none := by
  cases e : rsO (c :: l) with
  | none => rfl
  | some q =>
    obtain ⟨p, cs, os, ds, k1, k2⟩ := rsO_some e
    unfold okS at k1
    rw [Bool.and_eq_true, Bool.and_eq_true, decide_eq_true_eq] at k1
    have p1 := k1.1.1
    have pos := (lea_ok (nL cs) (n := p.toNat) (by omega)).1.pos
    obtain ⟨d, r, e2, k3⟩ := szx_hd (p := (leaQ p.toNat (nL cs) : Nat)) (cs := ds) (os := os) (by omega)
    rw [e2] at k2
    have := (List.cons.inj k2).1
    omega
theorem rs_last {c : Nat} {l : List Nat} (h : c ≠ 45) (h2 : c < 48 ∨ 57 < c) : rsO (l ++ [c]) = none := by
  cases e : rsO (l ++ [c]) with
  | none => rfl
  | some q =>
    obtain ⟨p, cs, os, ds, _, k2⟩ := rsO_some e
    exact absurd (by rw [k2]; exact en_szx _ _ _) (no_end h h2)
/-! texts that may be read -/
theorem ru31 {l : List Nat} (h : l.length ≤ 31) : Ru 31 l := (ru_len l).mono h
theorem okv_len {l : List Nat} (h : l.length ≤ 31) (a : ∀ c ∈ l, c < 128) : Okv l := ⟨by omega, ru31 h, a⟩
/-- a text of at most n signs -/
structure Tb (n : Nat) (l : List Nat) : Prop where
  len : l.length ≤ n
  asc : ∀ c ∈ l, c < 128
theorem Tb.app {m n : Nat} {a b : List Nat} (h : Tb m a) (k : Tb n b) : Tb (m + n) (a ++ b) := ⟨by
  have := h.len
  have := k.len
  rw [List.length_append]
  omega, fun c hc => (List.mem_append.mp hc).elim (h.asc c) (k.asc c)⟩
theorem Tb.okv {n : Nat} {l : List Nat} (h : Tb n l) (k : n ≤ 31) : Okv l := okv_len (Nat.le_trans h.len k) h.asc
theorem tb_num {k : Nat} {i : Int} (h0 : 0 < k) (h : i.natAbs < 10 ^ k) : Tb (k + 1) (numI i) := ⟨numI_ln h0 h, fun c hc => by
  have := numI_in hc
  omega⟩
/-! evaluation of texts -/
/-- an expression has a datum, and changes nothing -/
def Ev (w : WpE) (sl : Sls) (cs : List Cell) (d : D) : Prop := ∀ (R : RV) (Rx : RX), R (.dat d) cs → w sl cs R Rx
/-- it is a text of at most n signs -/
structure Et (w : WpE) (sl : Sls) (cs : List Cell) (n : Nat) (l : List Nat) : Prop where
  ev : Ev w sl cs (.str (mkS l))
  tb : Tb n l
section
variable {w w1 w2 : WpE} {sl : Sls} {cs : List Cell} {l m : List Nat} {n k : Nat} {d : D}
theorem ev_nm {i : Nat} (h : sl[i]? = some (some (.dat d))) : Ev (wName i) sl cs d := fun R Rx hR => by
  unfold wName
  rw [h]
  exact hR
theorem Et.nm {i : Nat} (h : sl[i]? = some (some (.dat (.str (mkS l))))) (b : Tb n l) : Et (wName i) sl cs n l := ⟨ev_nm h, b⟩
theorem Et.lit {s : Str} {l : List Nat} (n : Nat) (h : tl s = l) (b : (decide (l.length ≤ n) && l.all fun c => decide (c < 128)) = true) : Et (wCon (.str s)) sl cs n l := by
  rw [Bool.and_eq_true] at b
  refine ⟨fun R Rx hR => ?_, ⟨of_decide_eq_true b.1, fun c hc => of_decide_eq_true (List.all_eq_true.mp b.2 c hc)⟩⟩
  rw [mk_eq h]
  exact hR
theorem Et.add (h : Et w1 sl cs n l) (g : Et w2 sl cs k m) (b : n + k ≤ 10000000) : Et (wTwo w1 w2 addW) sl cs (n + k) (l ++ m) := ⟨fun R Rx hR => by
  unfold wTwo
  refine h.ev _ _ (g.ev _ _ ?_)
  have a1 := h.tb.len
  have a2 := g.tb.len
  refine And.intro (adL (by omega)) ?_
  rw [app_mk]
  exact hR, h.tb.app g.tb⟩
theorem Et.str {i : Int} (h : Ev w sl cs (.int i)) (k0 : 0 < k) (hi : i.natAbs < 10 ^ k) (h31 : k ≤ 31) : Et (wCb (wCons w wNil) strW1) sl cs (k + 1) (numI i) := ⟨fun R Rx hR => by
  unfold wCb wCons wNil
  exact h _ _ (strI (Nat.lt_of_lt_of_le hi (Nat.pow_le_pow_right (by decide) h31)) hR), tb_num k0 hi⟩
/-- arguments -/
def Ea (wA : WpA) (sl : Sls) (cs : List Cell) (ds : List D) : Prop := ∀ (R : List Sl → List Cell → Prop) (Rx : RX), R (ds.map Sl.dat) cs → wA sl cs R Rx
theorem Ea.nil : Ea wNil sl cs [] := fun R Rx h => h
theorem Ea.cons {wA : WpA} {ds : List D} (h : Ev w sl cs d) (g : Ea wA sl cs ds) : Ea (wCons w wA) sl cs (d :: ds) := fun R Rx hR => by
  unfold wCons
  exact h _ _ (g _ _ hR)
theorem dats_map : ∀ ds : List D, dats (ds.map Sl.dat) = some ds
  | [] => rfl
  | d :: ds => by
    show (dats (ds.map Sl.dat)).map (d :: ·) = some (d :: ds)
    rw [dats_map ds]
    rfl
theorem ev_lst {wA : WpA} {ds : List D} (h : Ea wA sl cs ds) (hl : ds.length ≤ 1000) : Ev (wLst wA) sl cs (.lst ds) := fun R Rx hR => by
  unfold wLst
  refine h _ _ ?_
  unfold wDats
  rw [dats_map]
  exact And.intro (Nat.le_trans hl (by decide)) hR
theorem ev_tup {wA : WpA} {ds : List D} (h : Ea wA sl cs ds) (hl : ds.length ≤ 1000) : Ev (wTup wA) sl cs (.tup ds) := fun R Rx hR => by
  unfold wTup
  refine h _ _ ?_
  unfold wDats
  rw [dats_map]
  exact And.intro (Nat.le_trans hl (by decide)) hR
theorem ev_addL {as bs : List D} (h : Ev w1 sl cs (.lst as)) (g : Ev w2 sl cs (.lst bs)) (b : as.length + bs.length ≤ 1000) : Ev (wTwo w1 w2 addW) sl cs (.lst (as ++ bs)) := fun R Rx hR => by
  unfold wTwo
  exact h _ _ (g _ _ (And.intro (Nat.le_trans b (by decide)) hR))
theorem ev_addI {i j : Int} (h : Ev w1 sl cs (.int i)) (g : Ev w2 sl cs (.int j)) : Ev (wTwo w1 w2 addW) sl cs (.int (i + j)) := fun R Rx hR => by
  unfold wTwo
  exact h _ _ (g _ _ hR)
theorem ev_con : Ev (wCon d) sl cs d := fun R Rx h => h
/-- a name is bound -/
theorem asg_ev {i : Nat} {S : Sta} {P : PJ} (h : Ev w S.sl S.cs d) (q : P.nx ⟨S.sl.set i (some (.dat d)), S.cs⟩) : wAsg i w S P := by
  unfold wAsg
  exact h _ _ q
theorem consA {i : Nat} {S : Sta} {P : PJ} {r : WS} (h : Ev w S.sl S.cs d) (q : r ⟨S.sl.set i (some (.dat d)), S.cs⟩ P) : wConsS (wAsg i w) r S P := by
  unfold wConsS
  exact asg_ev h q
end

/-! ### the law's texts of counts -/
open TL
/-- drawn numbers -/
structure Dk (a b c one two n v : Int) : Prop where
  a0 : a ≠ 0
  a9 : a.natAbs < 10 ^ 1
  b0 : b ≠ 0
  b9 : b.natAbs < 10 ^ 1
  c0 : c ≠ 0
  c9 : c.natAbs < 10 ^ 1
  o0 : 0 < one
  o9 : one.natAbs < 10 ^ 1
  t0 : one < two
  t9 : two.natAbs < 10 ^ 2
  n0 : 0 < n
  n9 : n.natAbs < 10 ^ 2
  v0 : v = plainQ [(one, [a, b]), (two, [c])] n
  v9 : v.natAbs < 10 ^ 3
  w9 : (v + 1).natAbs < 10 ^ 3
def Bad (l : List Nat) : Prop := Okv l ∧ rcO l = none
section
variable {a b c one two n v : Int}
abbrev fT (one a b : Int) : List Nat := prtT (one, [a, b])
abbrev gT (two c : Int) : List Nat := prtT (two, [c])
abbrev qT (n v : Int) : List Nat := odtT (n, v)
abbrev tT (a b c one two n v : Int) : List Nat := ctxT [(one, [a, b]), (two, [c])] [(n, v)]
theorem f_eq : (((numI one ++ [58, 32]) ++ numI a) ++ [32]) ++ numI b = fT one a b := by
  unfold fT prtT spcT lstT
  simp [joinL]
theorem g_eq : (numI two ++ [58, 32]) ++ numI c = gT two c := by
  unfold gT prtT spcT lstT
  simp [joinL]
theorem q_eq : (numI n ++ [58, 32]) ++ numI v = qT n v := by
  unfold qT odtT
  simp
theorem t_eq : (((fT one a b ++ [59, 32]) ++ gT two c) ++ [32, 124, 32]) ++ qT n v = tT a b c one two n v := by
  unfold tT ctxT lstT
  simp [joinL]
theorem num0 : numI 0 = [48] := by decide +kernel
theorem num1 : numI 1 = [49] := by decide +kernel
theorem num2 : numI 2 = [50] := by decide +kernel
theorem num3 : numI 3 = [51] := by decide +kernel
theorem num4 : numI 4 = [52] := by decide +kernel
theorem num5 : numI 5 = [53] := by decide +kernel
theorem numm3 : numI (-3) = [45, 51] := by decide +kernel
theorem s60_1 {i : Int} (h : i.natAbs < 10 ^ 1) : S60 i := Nat.lt_of_lt_of_le h (by decide)
theorem s60_2 {i : Int} (h : i.natAbs < 10 ^ 2) : S60 i := Nat.lt_of_lt_of_le h (by decide)
theorem s60_3 {i : Int} (h : i.natAbs < 10 ^ 3) : S60 i := Nat.lt_of_lt_of_le h (by decide)
theorem s60_0 : S60 0 := by decide
theorem sm1 {l : Lot} (h : S60 l.1) (k : ∀ n ∈ l.2, S60 n) : Sml [l] := ⟨fun x hx => by rw [List.mem_singleton.mp hx]; exact h, fun x hx => by rw [List.mem_singleton.mp hx]; exact k⟩
theorem sm2 {l m : Lot} (h : S60 l.1) (k : ∀ n ∈ l.2, S60 n) (h' : S60 m.1) (k' : ∀ n ∈ m.2, S60 n) : Sml [l, m] := ⟨fun x hx => by
  rcases List.mem_cons.mp hx with rfl | hx
  · exact h
  · rw [List.mem_singleton.mp hx]; exact h', fun x hx => by
  rcases List.mem_cons.mp hx with rfl | hx
  · exact k
  · rw [List.mem_singleton.mp hx]; exact k'⟩
theorem in1 {x : Int} (h : S60 x) : ∀ n ∈ [x], S60 n := fun n hn => by rw [List.mem_singleton.mp hn]; exact h
theorem in2 {x y : Int} (h : S60 x) (k : S60 y) : ∀ n ∈ [x, y], S60 n := fun n hn => by
  rcases List.mem_cons.mp hn with rfl | hn
  · exact h
  · exact in1 k n hn
theorem od0 : ∀ p ∈ ([] : List (Int × Int)), S60 p.1 ∧ S60 p.2 := fun _ z => nomatch z
theorem od1 {x y : Int} (h : S60 x) (k : S60 y) : ∀ p ∈ [(x, y)], S60 p.1 ∧ S60 p.2 := fun p hp => by rw [List.mem_singleton.mp hp]; exact ⟨h, k⟩
theorem od2 {x y : Int} (h : S60 x) (k : S60 y) : ∀ p ∈ [(x, y), (x, y)], S60 p.1 ∧ S60 p.2 := fun p hp => by
  rcases List.mem_cons.mp hp with rfl | hp
  · exact ⟨h, k⟩
  · exact od1 h k p hp
namespace Dk
variable (h : Dk a b c one two n v)
include h
theorem sf : Sml [(one, [a, b])] := sm1 (s60_1 h.o9) (in2 (s60_1 h.a9) (s60_1 h.b9))
theorem sfg : Sml [(one, [a, b]), (two, [c])] := sm2 (s60_1 h.o9) (in2 (s60_1 h.a9) (s60_1 h.b9)) (s60_2 h.t9) (in1 (s60_1 h.c9))
theorem sgf : Sml [(two, [c]), (one, [a, b])] := sm2 (s60_2 h.t9) (in1 (s60_1 h.c9)) (s60_1 h.o9) (in2 (s60_1 h.a9) (s60_1 h.b9))
theorem r1 : rcO ((((gT two c ++ [59, 32]) ++ fT one a b) ++ [32, 124, 32]) ++ qT n (v + 1)) = none := by
  have e : (((gT two c ++ [59, 32]) ++ fT one a b) ++ [32, 124, 32]) ++ qT n (v + 1) = ctxT [(two, [c]), (one, [a, b])] [(n, v + 1)] := by
    unfold ctxT lstT
    simp [joinL]
  rw [e]
  refine rc_no h.sgf (od1 (s60_2 h.n9) (s60_3 h.w9)) (.inl ?_)
  have := h.t0
  have k : ascB 0 [two, one] = false := by
    show (decide (0 < two) && (decide (two < one) && true)) = false
    rw [decide_eq_false (show ¬ two < one by omega), Bool.false_and, Bool.and_false]
  show (ascB 0 [two, one] && _) = false
  rw [k]
  rfl
theorem r2 : rcO (((fT one a b ++ [59, 32]) ++ fT one a b) ++ [32, 124, 32, 45]) = none := by
  have e : ((fT one a b ++ [59, 32]) ++ fT one a b) ++ [32, 124, 32, 45] = ctxT [(one, [a, b]), (one, [a, b])] [] := by
    unfold ctxT lstT
    simp [joinL]
  rw [e]
  refine rc_no (sm2 (s60_1 h.o9) (in2 (s60_1 h.a9) (s60_1 h.b9)) (s60_1 h.o9) (in2 (s60_1 h.a9) (s60_1 h.b9))) od0 (.inl ?_)
  have k : ascB 0 [one, one] = false := by
    show (decide (0 < one) && (decide (one < one) && true)) = false
    rw [decide_eq_false (show ¬ one < one by omega), Bool.false_and, Bool.and_false]
  show (ascB 0 [one, one] && _) = false
  rw [k]
  rfl
end Dk
theorem short_ne {l : Lot} (h : cutL l.2 ≠ l.2 ∨ l.2 = []) : shortP [l] ≠ [l] := fun z => by
  rw [shortP_cons] at z
  split at z
  · rcases h with h | h
    · exact h (congrArg Prod.snd (List.cons.inj z).1)
    · rename_i k
      have e : cutL l.2 = [] := by rw [h]; rfl
      unfold neB shL at k
      rw [e] at k
      cases k
  · exact absurd (show (0 : Nat) = 1 from congrArg List.length z) (by decide)
theorem cut_ab0 : cutL [a, b, 0] ≠ [a, b, 0] := fun z => by
  have l := congrArg List.length z
  unfold cutL at l
  rw [List.length_take] at l
  have k : cutN [a, b, 0] 3 ≤ 2 := by
    show (if (0 : Int) = 0 then cutN [a, b, 0] 2 else 3) ≤ 2
    rw [if_pos rfl]
    exact cutN_le _ 2
  have l : min (cutN [a, b, 0] 3) 3 = 3 := l
  omega
namespace Dk
variable (h : Dk a b c one two n v)
include h
theorem r3 : rcO (fT one a b ++ [32, 48, 32, 124, 32, 45]) = none := by
  have e : fT one a b ++ [32, 48, 32, 124, 32, 45] = ctxT [(one, [a, b, 0])] [] := by
    unfold ctxT lstT fT prtT spcT lstT
    simp [joinL, num0]
  rw [e]
  refine rc_no (sm1 (s60_1 h.o9) fun x hx => ?_) od0 (.inr (.inr (.inl (short_ne (.inl cut_ab0)))))
  rcases List.mem_cons.mp hx with rfl | hx
  · exact s60_1 h.a9
  · exact in2 (s60_1 h.b9) s60_0 x hx
theorem r4 : rcO (numI one ++ [58, 32, 48, 32, 124, 32, 45]) = none := by
  have e : numI one ++ [58, 32, 48, 32, 124, 32, 45] = ctxT [(one, [0])] [] := by
    unfold ctxT lstT prtT spcT lstT
    simp [joinL, num0]
  rw [e]
  exact rc_no (sm1 (s60_1 h.o9) (in1 s60_0)) od0 (.inr (.inr (.inl (short_ne (.inl (by show cutL [0] ≠ [0]; decide))))))
theorem r6 : rcO (([48, 58, 32] ++ numI a) ++ [32, 124, 32, 45]) = none := by
  have e : ([48, 58, 32] ++ numI a) ++ [32, 124, 32, 45] = ctxT [(0, [a])] [] := by
    unfold ctxT lstT prtT spcT lstT
    simp [joinL, num0]
  rw [e]
  exact rc_no (sm1 s60_0 (in1 (s60_1 h.a9))) od0 (.inl rfl)
theorem r7 : rcO (numI one ++ [58, 32, 49, 32, 50, 32, 51, 32, 52, 32, 53, 32, 124, 32, 45]) = none := by
  have e : numI one ++ [58, 32, 49, 32, 50, 32, 51, 32, 52, 32, 53, 32, 124, 32, 45] = ctxT [(one, [1, 2, 3, 4, 5])] [] := by
    unfold ctxT lstT prtT spcT lstT
    simp [joinL, num1, num2, num3, num4, num5]
  rw [e]
  refine rc_no (sm1 (s60_1 h.o9) (show ∀ n ∈ ([1, 2, 3, 4, 5] : List Int), S60 n by decide)) od0 (.inl ?_)
  show (ascB 0 [one] && false) = false
  rw [Bool.and_false]
theorem r8 : rcO ((((fT one a b ++ [32, 124, 32]) ++ qT n (v + 1)) ++ [32]) ++ numI a) = none := by
  have e : (((fT one a b ++ [32, 124, 32]) ++ qT n (v + 1)) ++ [32]) ++ numI a = rwT [(one, [a, b])] [(n, [v + 1, a])] := by
    unfold rwT lstT qT odtT
    simp [joinL, prtT, spcT, lstT]
  rw [e]
  exact rc_nod h.sf (sm1 (s60_2 h.n9) (in2 (s60_3 h.w9) (s60_1 h.a9))) rfl
theorem r9 : rcO (fT one a b ++ [32, 124, 32, 48, 58, 32, 53]) = none := by
  have e : fT one a b ++ [32, 124, 32, 48, 58, 32, 53] = ctxT [(one, [a, b])] [(0, 5)] := by
    unfold ctxT lstT odtT
    simp [joinL, num0, num5]
  rw [e]
  exact rc_no h.sf (od1 s60_0 (by decide)) (.inr (.inl rfl))
theorem r10 : rcO (fT one a b ++ [32, 124, 32, 45, 51, 58, 32, 53]) = none := by
  have e : fT one a b ++ [32, 124, 32, 45, 51, 58, 32, 53] = ctxT [(one, [a, b])] [(-3, 5)] := by
    unfold ctxT lstT odtT
    simp [joinL, numm3, num5]
  rw [e]
  exact rc_no h.sf (od1 (by decide) (by decide)) (.inr (.inl rfl))
theorem r11 : rcO (fT one a b) = none := rc_one fun z => by have := prt_in z; omega
theorem r12 : rcO (joinL [32, 124, 32] [fT one a b, [45], [45]]) = none := by
  have e : joinL [32, 124, 32] [fT one a b, [45], [45]] = fT one a b ++ (32 :: 124 :: 32 :: ([45] ++ (32 :: 124 :: 32 :: [45]))) := by
    simp [joinL]
  rw [e]
  exact rc_three (fun z => by have := prt_in z; omega) (by decide) (by decide)
theorem r13 : rcO (numI one ++ [58, 32, 45, 32, 124, 32, 45]) = none := by
  have e : numI one ++ [58, 32, 45, 32, 124, 32, 45] = ctxT [(one, [])] [] := by
    unfold ctxT lstT prtT spcT lstT
    simp [joinL]
  rw [e]
  exact rc_no (sm1 (s60_1 h.o9) (fun _ z => nomatch z)) od0 (.inr (.inr (.inl (short_ne (.inr rfl)))))
theorem r14 : rcO (((fT one a b ++ [59]) ++ gT two c) ++ [32, 124, 32, 45]) = none := by
  have e : ((fT one a b ++ [59]) ++ gT two c) ++ [32, 124, 32, 45] = (fT one a b ++ (59 :: gT two c)) ++ (32 :: 124 :: 32 :: [45]) := by simp
  rw [e]
  refine rc_bad (fun z => ?_) (by decide) pp_two
  rcases List.mem_append.mp z with z | z
  · have := prt_in z
    omega
  · rcases List.mem_cons.mp z with z | z
    · exact absurd z (by decide)
    · have := prt_in z
      omega
theorem r22 : rcO ((((fT one a b ++ [32, 124, 32]) ++ qT n (v + 1)) ++ [59, 32]) ++ qT n (v + 1)) = none := by
  have e : (((fT one a b ++ [32, 124, 32]) ++ qT n (v + 1)) ++ [59, 32]) ++ qT n (v + 1) = ctxT [(one, [a, b])] [(n, v + 1), (n, v + 1)] := by
    unfold ctxT lstT
    simp [joinL]
  rw [e]
  refine rc_no h.sf (od2 (s60_2 h.n9) (s60_3 h.w9)) (.inr (.inl ?_))
  show (decide (0 < n) && (decide (n < n) && true)) = false
  rw [decide_eq_false (show ¬ n < n by omega), Bool.false_and, Bool.and_false]
end Dk
theorem cut_top {cs : List Int} {k : Nat} (h : cs.length = k + 1) (g : cs.getD k 0 ≠ 0) : cutL cs = cs := by
  unfold cutL
  rw [h]
  unfold cutN
  rw [if_neg g, ← h, List.take_length]
namespace Dk
variable (h : Dk a b c one two n v)
include h
/-- the drawn parts are the shortest ones -/
theorem sp : shortP [(one, [a, b]), (two, [c])] = [(one, [a, b]), (two, [c])] := by
  have e1 : shL (one, [a, b]) = (one, [a, b]) := congrArg (Prod.mk one) (cut_top (k := 1) rfl h.b0)
  have e2 : shL (two, [c]) = (two, [c]) := congrArg (Prod.mk two) (cut_top (k := 0) rfl h.c0)
  rw [shortP_cons, shortP_cons, e1, e2]
  rfl
theorem r5 : rcO ((((((fT one a b ++ [59, 32]) ++ gT two c) ++ [32, 124, 32]) ++ numI n) ++ [58, 32]) ++ numI v) = none := by
  have e : (((((fT one a b ++ [59, 32]) ++ gT two c) ++ [32, 124, 32]) ++ numI n) ++ [58, 32]) ++ numI v = ctxT [(one, [a, b]), (two, [c])] [(n, v)] := by
    unfold ctxT lstT odtT
    simp [joinL]
  rw [e]
  refine rc_no h.sfg (od1 (s60_2 h.n9) (s60_3 h.v9)) (.inr (.inr (.inr ?_)))
  have k : odB [(one, [a, b]), (two, [c])] (n, v) = false := by
    unfold odB
    rw [h.sp, h.v0, decide_eq_true rfl]
    rfl
  unfold shortO
  rw [List.filter_cons, if_neg (by rw [k]; decide)]
  exact fun z => absurd (show (0 : Nat) = 1 from congrArg List.length z) (by decide)
theorem so : shortO [(one, [a, b]), (two, [c])] [(n, v + 1)] = [(n, v + 1)] := by
  have k : odB [(one, [a, b]), (two, [c])] (n, v + 1) = true := by
    unfold odB
    rw [h.sp, ← h.v0, decide_eq_false (by omega)]
    rfl
  unfold shortO
  rw [List.filter_cons, if_pos k]
  rfl
theorem okp : okP [(one, [a, b]), (two, [c])] = true := by
  have k : ascB 0 [one, two] = true := by
    show (decide (0 < one) && (decide (one < two) && true)) = true
    rw [decide_eq_true h.o0, decide_eq_true h.t0]
    rfl
  show (ascB 0 [one, two] && _) = true
  rw [k]
  rfl
theorem oko : okO [(n, v + 1)] = true := by
  show (decide (0 < n) && true) = true
  rw [decide_eq_true h.n0]
  rfl
theorem good : rcO (tT a b c one two n (v + 1)) = some ([(one, [a, b]), (two, [c])], [(n, v + 1)]) := rcO_good h.sfg.a h.sfg.b (od1 (s60_2 h.n9) (s60_3 h.w9)) h.okp h.oko h.sp h.so
end Dk
end

/-! ### texts of counts put together -/
open TL
section
variable {w w1 w2 : WpE} {wA : WpA} {sl : Sls} {cs : List Cell} {l m : List Nat} {n k : Nat} {d : D}
theorem Et.cast (h : Et w sl cs n l) (e : l = m) : Et w sl cs n m := e ▸ h
theorem Et.up (h : Et w sl cs n l) (e : n ≤ k) : Et w sl cs k l := ⟨h.ev, Nat.le_trans h.tb.len e, h.tb.asc⟩
abbrev wdL (ls : List (List Nat)) : List D := ls.map fun l => D.str (mkS l)
theorem Es.cons {ls : List (List Nat)} (h : Et w sl cs n l) (g : Ea wA sl cs (wdL ls)) : Ea (wCons w wA) sl cs (wdL (l :: ls)) := Ea.cons h.ev g
theorem Es.nil : Ea wNil sl cs (wdL []) := Ea.nil
theorem ev_addW {as bs : List (List Nat)} (h : Ev w1 sl cs (.lst (wdL as))) (g : Ea wA sl cs (wdL bs)) (b : as.length + bs.length ≤ 1000) : Ev (wTwo w1 (wLst wA) addW) sl cs (.lst (wdL (as ++ bs))) := by
  have := ev_addL h (ev_lst g (by rw [List.length_map]; omega)) (by rw [List.length_map, List.length_map]; exact b)
  rw [← List.map_append] at this
  exact this
theorem ev_mul {i j : Int} (h : Ev w1 sl cs (.int i)) (g : Ev w2 sl cs (.int j)) (b1 : i.natAbs ≤ 1000000) (b2 : j.natAbs ≤ 1000000) : Ev (wTwo w1 w2 mulW) sl cs (.int (i * j)) := fun R Rx hR => by
  unfold wTwo
  exact h _ _ (g _ _ (And.intro (Dl.mul_l (by omega) (by omega)) hR))
theorem ev_mod0 {i j : Int} (h : Ev w1 sl cs (.int i)) (g : Ev w2 sl cs (.int j)) (b : 0 < j) : Ev (wCb (wCons (wTwo (wTwo w1 w2 modW) (wCon (.int 0)) (eqW false)) wNil) intW1) sl cs (.int (if (false.xor (decide (i % j = 0))) = true then 1 else 0)) := fun R Rx hR => by
  unfold wCb wCons wNil wTwo
  exact h _ _ (g _ _ (And.intro (pos_ b) hR))
theorem consP2 {i j : Nat} {S : Sta} {P : PJ} {r : WS} {d1 d2 : D} (h1 : Ev w1 S.sl S.cs d1) (h2 : Ev w2 S.sl S.cs d2) (q : r ⟨(S.sl.set i (some (.dat d1))).set j (some (.dat d2)), S.cs⟩ P) : wConsS (wPar2 i j (wCons w1 (wCons w2 wNil))) r S P := by
  unfold wConsS wPar2
  exact (Ea.cons h1 (Ea.cons h2 Ea.nil)) _ _ q
end
theorem number_ex {b : B} (ok : Ok b) : ∃ (x : Int) (b' : B), x ≠ 0 ∧ x.natAbs < 10 ^ 1 ∧ Ok b' ∧ c__law_number [.cel 0] [bx b] (.dat (.int x)) [bx b'] := by
  have o1 := ok.nx 9
  have a0 : 0 ≤ tk b 9 := tk_lo (by decide)
  have a1 : tk b 9 < 9 := tk_hi (by decide)
  have c0 : 0 ≤ tk (nx b 9) 2 := tk_lo (by decide)
  have c1 : tk (nx b 9) 2 < 2 := tk_hi (by decide)
  refine ⟨(1 + tk b 9) * (1 - 2 * tk (nx b 9) 2), _, ?_, ?_, o1.nx 2, rfl, call_ (take_c (by decide) (by decide) ok) (call_ (take_c (by decide) (by decide) o1) (And.intro (Dl.mul_l (by decide) (by decide)) (And.intro (Dl.mul_l (by omega) (by omega)) (And.intro rfl rfl))))⟩
  · rcases (show tk (nx b 9) 2 = 0 ∨ tk (nx b 9) 2 = 1 by omega) with e | e <;> rw [e] <;> omega
  · rcases (show tk (nx b 9) 2 = 0 ∨ tk (nx b 9) 2 = 1 by omega) with e | e <;> rw [e] <;> omega
section
variable {a b c one more two n v : Int} {z : B} {P : PJ} {x9 x10 x11 x12 x13 x14 : Option Sl}
abbrev iS (i : Int) : Option Sl := some (.dat (.int i))
abbrev tS (l : List Nat) : Option Sl := some (.dat (.str (mkS l)))
abbrev stI (a b c one more two n : Int) (x8 x9 x10 x11 x12 x13 x14 : Option Sl) (z : B) : Sta := ⟨[some (.cel 0), iS a, iS b, iS c, iS one, iS more, iS two, iS n, x8, x9, x10, x11, x12, x13, x14], [bx z]⟩
abbrev stK (a b c one more two n v : Int) (x13 x14 : Option Sl) (z : B) : Sta := stI a b c one more two n (tS (fT one a b)) (tS (gT two c)) (iS v) (tS (qT n (v + 1))) (tS (tT a b c one two n (v + 1))) x13 x14 z
theorem add_ls {ls ms : List (List Nat)} (h : ∀ l ∈ ls, Bad l) (g : ∀ l ∈ ms, Bad l) : ∀ l ∈ ls ++ ms, Bad l := fun l hl => (List.mem_append.mp hl).elim (h l) (g l)
theorem bd_c {l : List Nat} {ls : List (List Nat)} (h : Bad l) (g : ∀ l ∈ ls, Bad l) : ∀ x ∈ l :: ls, Bad x := List.forall_mem_cons.mpr ⟨h, g⟩
theorem bd_n : ∀ x ∈ ([] : List (List Nat)), Bad x := fun _ z => nomatch z
theorem Et.bad {w : WpE} {sl : Sls} {cs : List Cell} {k : Nat} {l : List Nat} (h : Et w sl cs k l) (hk : k ≤ 31) (r : rcO l = none) : Bad l := ⟨h.tb.okv hk, r⟩
namespace Dk
variable (h : Dk a b c one two n v)
include h
theorem tbF : Tb 9 (fT one a b) := by
  rw [← f_eq]
  exact ((((tb_num (k := 1) (by decide) h.o9).app (show Tb 2 [58, 32] from ⟨by decide, by decide⟩)).app (tb_num (k := 1) (by decide) h.a9)).app (show Tb 1 [32] from ⟨by decide, by decide⟩)).app (tb_num (k := 1) (by decide) h.b9)
theorem tbG : Tb 7 (gT two c) := by
  rw [← g_eq]
  exact ((tb_num (k := 2) (by decide) h.t9).app (show Tb 2 [58, 32] from ⟨by decide, by decide⟩)).app (tb_num (k := 1) (by decide) h.c9)
theorem tbQ : Tb 9 (qT n (v + 1)) := by
  rw [← q_eq]
  exact ((tb_num (k := 2) (by decide) h.n9).app (show Tb 2 [58, 32] from ⟨by decide, by decide⟩)).app (tb_num (k := 3) (by decide) h.w9)
theorem tbT : Tb 30 (tT a b c one two n (v + 1)) := by
  rw [← t_eq]
  exact (((h.tbF.app (show Tb 2 [59, 32] from ⟨by decide, by decide⟩)).app h.tbG).app (show Tb 3 [32, 124, 32] from ⟨by decide, by decide⟩)).app h.tbQ
end Dk
end

/-! ### the statements of the law's texts of counts -/
open TL
section
variable {a b c one more two n v : Int} {z : B} {P : PJ} {x8 x9 x10 x11 x12 x13 x14 : Option Sl}
abbrev plV (a b c one two n : Int) : Int := (a + b * n) * (if (false.xor (decide (n % one = 0))) = true then 1 else 0) + c * (if (false.xor (decide (n % two = 0))) = true then 1 else 0)
theorem plain_v : plainQ [(one, [a, b]), (two, [c])] n = plV a b c one two n := by
  rw [plain_cons, plain_cons, plain_nil]
  unfold divB hor plV
  show (if (false.xor (decide (n % one = 0))) = true then (0 * n + b) * n + a else 0) + ((if (false.xor (decide (n % two = 0))) = true then 0 * n + c else 0) + 0) = _
  have e1 : (0 * n + b) * n + a = a + b * n := by rw [Int.zero_mul, Int.zero_add, Int.add_comm]
  have e2 : 0 * n + c = c := by rw [Int.zero_mul, Int.zero_add]
  rw [e1, e2, Int.add_zero]
  split <;> split <;> simp
theorem ab_bd (ha : a.natAbs < 10 ^ 1) (hb : b.natAbs < 10 ^ 1) (n0 : 0 < n) (n1 : n ≤ 42) : (a + b * n).natAbs ≤ 387 := by
  have h1 := Int.natAbs_add_le a (b * n)
  have h2 : (b * n).natAbs ≤ 9 * 42 := by
    rw [Int.natAbs_mul]
    exact Nat.mul_le_mul (by omega) (by omega)
  omega
theorem mkDk (a0 : a ≠ 0) (a9 : a.natAbs < 10 ^ 1) (b0 : b ≠ 0) (b9 : b.natAbs < 10 ^ 1) (c0 : c ≠ 0) (c9 : c.natAbs < 10 ^ 1) (o0 : 1 ≤ one) (o1 : one ≤ 5) (m0 : 1 ≤ more) (m1 : more ≤ 5) (n0 : 3 ≤ n) (n1 : n ≤ 42) : Dk a b c one (one + more) n (plainQ [(one, [a, b]), (one + more, [c])] n) := by
  have ab := ab_bd a9 b9 (n := n) (by omega) n1
  have bd : (plainQ [(one, [a, b]), (one + more, [c])] n).natAbs ≤ 396 := by
    rw [plain_v]
    unfold plV
    split <;> split <;> omega
  exact ⟨a0, a9, b0, b9, c0, c9, by omega, by omega, by omega, by omega, by omega, by omega, rfl, by omega, by omega⟩
theorem Et.l2 {w : WpE} {sl : Sls} {cs : List Cell} {k : Nat} {l : List Nat} (h : Et w sl cs k l) (m : List Nat) (n : Nat) {s : Str} (e : tl s = m) (b : (decide (m.length ≤ n) && m.all fun c => decide (c < 128)) = true) (hb : k + n ≤ 10000000) : Et (wTwo w (wCon (.str s)) addW) sl cs (k + n) (l ++ m) := h.add (Et.lit n e b) hb
theorem counts_texts (h : Dk a b c one two n v) (hP : w__law_counts_plain 1 (stI a b c one more two n (tS (fT one a b)) (tS (gT two c)) x10 x11 x12 x13 x14 z) P) : w__law_counts_texts 1 (stI a b c one more two n x8 x9 x10 x11 x12 x13 x14 z) P := by
  unfold w__law_counts_texts
  refine consP2 (d1 := .str (mkS (fT one a b))) (d2 := .str (mkS (gT two c))) ?_ ?_ hP
  · exact ((((((Et.str (k := 1) (ev_nm rfl) (by decide) h.o9 (by decide)).l2 [58, 32] 2 (by decide +kernel) rfl (by decide)).add (Et.str (k := 1) (ev_nm rfl) (by decide) h.a9 (by decide)) (by decide)).l2 [32] 1 (by decide +kernel) rfl (by decide)).add (Et.str (k := 1) (ev_nm rfl) (by decide) h.b9 (by decide)) (by decide)).cast f_eq).ev
  · exact ((((Et.str (k := 2) (ev_nm rfl) (by decide) h.t9 (by decide)).l2 [58, 32] 2 (by decide +kernel) rfl (by decide)).add (Et.str (k := 1) (ev_nm rfl) (by decide) h.c9 (by decide)) (by decide)).cast g_eq).ev
theorem counts_plain (h : Dk a b c one two n v) (n1 : n ≤ 42) (hP : w__law_counts_spec 1 (stI a b c one more two n x8 x9 (iS v) x11 x12 x13 x14 z) P) : w__law_counts_plain 1 (stI a b c one more two n x8 x9 x10 x11 x12 x13 x14 z) P := by
  have ab := ab_bd h.a9 h.b9 h.n0 n1
  have t := h.t0
  have o := h.o0
  have a9 := h.a9
  have b9 := h.b9
  have c9 := h.c9
  have n9 := h.n9
  have e : v = plV a b c one two n := h.v0.trans plain_v
  unfold w__law_counts_plain
  refine consA (d := .int v) ?_ hP
  rw [e]
  exact ev_addI (ev_mul (ev_addI (ev_nm rfl) (ev_mul (ev_nm rfl) (ev_nm rfl) (by omega) (by omega))) (ev_mod0 (ev_nm rfl) (ev_nm rfl) h.o0) (by omega) (by split <;> decide)) (ev_mul (ev_nm rfl) (ev_mod0 (ev_nm rfl) (ev_nm rfl) (by omega)) (by omega) (by split <;> decide))
theorem counts_spec (h : Dk a b c one two n v) (hP : w__law_counts_text 1 (stI a b c one more two n x8 x9 (iS v) (tS (qT n (v + 1))) x12 x13 x14 z) P) : w__law_counts_spec 1 (stI a b c one more two n x8 x9 (iS v) x11 x12 x13 x14 z) P := by
  unfold w__law_counts_spec
  refine consA (d := .str (mkS (qT n (v + 1)))) ?_ hP
  exact ((((Et.str (k := 2) (ev_nm rfl) (by decide) h.n9 (by decide)).l2 [58, 32] 2 (by decide +kernel) rfl (by decide)).add (Et.str (k := 3) (ev_addI (ev_nm rfl) ev_con) (by decide) h.w9 (by decide)) (by decide)).cast q_eq).ev
theorem counts_text (h : Dk a b c one two n v) (hP : w__law_counts_made 1 (stK a b c one more two n v x13 x14 z) P) : w__law_counts_text 1 (stI a b c one more two n (tS (fT one a b)) (tS (gT two c)) (iS v) (tS (qT n (v + 1))) x12 x13 x14 z) P := by
  unfold w__law_counts_text
  refine consA (d := .str (mkS (tT a b c one two n (v + 1)))) ?_ hP
  exact ((((((Et.nm rfl h.tbF).l2 [59, 32] 2 (by decide +kernel) rfl (by decide)).add (Et.nm rfl h.tbG) (by decide)).l2 [32, 124, 32] 3 (by decide +kernel) rfl (by decide)).add (Et.nm rfl h.tbQ) (by decide)).cast t_eq).ev
theorem Dk.ict (h : Dk a b c one two n v) : InCt [(one, [a, b]), (two, [c])] [(n, v + 1)] := by
  have a9 := h.a9
  have b9 := h.b9
  have c9 := h.c9
  have n9 := h.n9
  have t := h.t0
  have o := h.o0
  refine ⟨show 2 ≤ 1000 by decide, show 1 ≤ 1000 by decide, ⟨h.o0, h.t0, trivial⟩, ⟨h.n0, trivial⟩, fun l hl => ?_, fun p hp => ?_⟩
  · rcases List.mem_cons.mp hl with rfl | hl
    · refine ⟨h.o0, show 2 ≤ 4 by decide, fun x hx => ?_⟩
      rcases List.mem_cons.mp hx with rfl | hx
      · exact Nat.le_trans (Nat.le_of_lt h.a9) (by decide)
      · rw [List.mem_singleton.mp hx]
        exact Nat.le_trans (Nat.le_of_lt h.b9) (by decide)
    · rw [List.mem_singleton.mp hl]
      refine ⟨by show 0 < two; omega, show 1 ≤ 4 by decide, fun x hx => ?_⟩
      rw [List.mem_singleton.mp hx]
      exact Nat.le_trans (Nat.le_of_lt h.c9) (by decide)
  · rw [List.mem_singleton.mp hp]
    exact nb_small (by show n.natAbs ≤ 100000; omega)
abbrev kD (a b c one two n v : Int) : D := coD [(one, [a, b]), (two, [c])] [(n, v + 1)]
theorem counts_made (h : Dk a b c one two n v) (hP : w__law_counts_bada 1 (stK a b c one more two n v (some (.dat (kD a b c one two n v))) x14 z) P) : w__law_counts_made 1 (stK a b c one more two n v x13 x14 z) P := by
  have q := init_c h.ict
  rw [h.sp, h.so] at q
  refine And.intro (szk 2) (And.intro (szk 2) (And.intro (szk 1) (And.intro (szk 2) (And.intro (szk 2) (And.intro (szk 2) (And.intro (szk 1) (And.intro rfl (And.intro rfl (.inl (make_ (ds := [.tup ([(one, [a, b]), (two, [c])].map lD), .tup ([(n, v + 1)].map sD)]) q rfl hP))))))))))
end

/-! ### the law's bad texts of counts -/
open TL
/-- arguments that are bad texts -/
structure Eb (P : List Nat → Prop) (wA : WpA) (sl : Sls) (cs : List Cell) (ls : List (List Nat)) : Prop where
  ev : Ea wA sl cs (wdL ls)
  bd : ∀ l ∈ ls, P l
section
variable {Q : List Nat → Prop} {w w1 : WpE} {wA : WpA} {sl : Sls} {cs : List Cell} {l m : List Nat} {ls as : List (List Nat)} {n k : Nat}
theorem Eb.nil : Eb Q wNil sl cs [] := ⟨Ea.nil, fun _ z => nomatch z⟩
theorem Eb.cons (h : Et w sl cs k l) (r : Q l) (g : Eb Q wA sl cs ls) : Eb Q (wCons w wA) sl cs (l :: ls) := ⟨Es.cons h g.ev, List.forall_mem_cons.mpr ⟨r, g.bd⟩⟩
theorem lsb_ex {i : Nat} {S : Sta} {r : WS} (g : Eb Q wA S.sl S.cs ls) (hl : decide (ls.length ≤ 100) = true) : ∃ bs : List (List Nat), (∀ l ∈ bs, Q l) ∧ bs.length ≤ 100 ∧ ∀ P, r ⟨S.sl.set i (some (.dat (.lst (wdL bs)))), S.cs⟩ P → wConsS (wAsg i (wLst wA)) r S P :=
  have h := of_decide_eq_true hl
  ⟨ls, g.bd, h, fun _ q => consA (ev_lst g.ev (by rw [List.length_map]; omega)) q⟩
theorem add_ex {i : Nat} {S : Sta} {r : WS} (h1 : Ev w1 S.sl S.cs (.lst (wdL as))) (hb : ∀ l ∈ as, Q l) {N : Nat} (ha : as.length ≤ N) (hN : N ≤ 600) (g : Eb Q wA S.sl S.cs ls) (hl : decide (ls.length ≤ 100) = true) : ∃ bs : List (List Nat), (∀ l ∈ bs, Q l) ∧ bs.length ≤ N + 100 ∧ ∀ P, r ⟨S.sl.set i (some (.dat (.lst (wdL bs)))), S.cs⟩ P → wConsS (wAsg i (wTwo w1 (wLst wA) addW)) r S P :=
  have h := of_decide_eq_true hl
  ⟨as ++ ls, fun l hl => (List.mem_append.mp hl).elim (hb l) (g.bd l), by rw [List.length_append]; omega, fun _ q => consA (ev_addW h1 g.ev (by omega)) q⟩
theorem consR {S : Sta} {P : PJ} {r : WS} {d : D} {n : Nat} (h : Ev w S.sl S.cs d) (q : P.rt (.dat d) (S.cs.take n)) : wConsS (wRet n w) r S P := by
  unfold wConsS wRet
  exact h _ _ q
theorem Et.join {s : Str} (hs : tl s = m) (g : Ea wA sl cs (wdL ls)) (hl : decide (ls.length ≤ 1000) = true) (hb : (ls.map List.length).sum + ls.length * m.length ≤ 10000000) (tb : Tb n (joinL m ls)) : Et (wM1 joiW (wCon (.str s)) (wLst wA)) sl cs n (joinL m ls) := ⟨fun R Rx hR => by
  unfold wM1
  refine And.intro rfl (ev_lst g (by rw [List.length_map]; exact of_decide_eq_true hl) _ _ ?_)
  refine Exists.intro (ls.map mkS) (And.intro (by rw [List.map_map]; rfl) (And.intro ?_ ?_))
  · rw [mk_eq hs, len_mkS, List.length_map, List.map_map]
    have e : ls.map ((fun x : Str => x.length) ∘ mkS) = ls.map List.length := List.map_congr_left fun w _ => len_mkS w
    have e : (ls.map ((fun x : Str => x.length) ∘ mkS)).sum = (ls.map List.length).sum := congrArg List.sum e
    show (ls.map ((fun x : Str => x.length) ∘ mkS)).sum + _ ≤ _
    rw [e]
    omega
  · rw [mk_eq hs, join_mk]
    exact hR, tb⟩
end
section
variable {a b c one more two n v : Int} {z : B}
abbrev stB (a b c one more two n v : Int) (bs : List (List Nat)) (z : B) : Sta := stK a b c one more two n v (some (.dat (kD a b c one two n v))) (some (.dat (.lst (wdL bs)))) z
theorem bd_of {k : Nat} {l : List Nat} {w : WpE} {sl : Sls} {cs : List Cell} (r : rcO l = none) (h : Et w sl cs k l) (hk : k ≤ 31) : Bad l := ⟨h.tb.okv hk, r⟩
theorem Eb.adj {w : WpE} {wA : WpA} {sl : Sls} {cs : List Cell} {l : List Nat} {ls : List (List Nat)} {k : Nat} (h : Et w sl cs k l) (hk : k ≤ 31) (r : rcO l = none) (g : Eb Bad wA sl cs ls) : Eb Bad (wCons w wA) sl cs (l :: ls) := Eb.cons h ⟨h.tb.okv hk, r⟩ g
theorem bada_ex (h : Dk a b c one two n v) : ∃ bs : List (List Nat), (∀ l ∈ bs, Bad l) ∧ bs.length ≤ 100 ∧ ∀ P, w__law_counts_badb 1 (stB a b c one more two n v bs z) P → w__law_counts_bada 1 (stK a b c one more two n v (some (.dat (kD a b c one two n v))) none z) P := by
  unfold w__law_counts_bada
  exact lsb_ex (i := 14) (S := stK a b c one more two n v (some (.dat (kD a b c one two n v))) none z)
    (Eb.adj ((((((Et.nm rfl h.tbG).l2 [59, 32] 2 (by decide +kernel) rfl (by decide)).add (Et.nm rfl h.tbF) (by decide)).l2 [32, 124, 32] 3 (by decide +kernel) rfl (by decide)).add (Et.nm rfl h.tbQ) (by decide))) (by decide) h.r1
    (Eb.adj ((((Et.nm rfl h.tbF).l2 [59, 32] 2 (by decide +kernel) rfl (by decide)).add (Et.nm rfl h.tbF) (by decide)).l2 [32, 124, 32, 45] 4 (by decide +kernel) rfl (by decide)) (by decide) h.r2
    (Eb.adj ((Et.nm rfl h.tbF).l2 [32, 48, 32, 124, 32, 45] 6 (by decide +kernel) rfl (by decide)) (by decide) h.r3
    Eb.nil))) rfl
theorem badb_ex (h : Dk a b c one two n v) {as : List (List Nat)} (ha : ∀ l ∈ as, Bad l) (la : as.length ≤ 100) : ∃ bs : List (List Nat), (∀ l ∈ bs, Bad l) ∧ bs.length ≤ 200 ∧ ∀ P, w__law_counts_badc 1 (stB a b c one more two n v bs z) P → w__law_counts_badb 1 (stB a b c one more two n v as z) P := by
  unfold w__law_counts_badb
  exact add_ex (i := 14) (S := stB a b c one more two n v as z) (ev_nm rfl) ha la (by decide)
    (Eb.adj ((Et.str (k := 1) (ev_nm rfl) (by decide) h.o9 (by decide)).l2 [58, 32, 48, 32, 124, 32, 45] 7 (by decide +kernel) rfl (by decide)) (by decide) h.r4
    (Eb.adj ((((((((Et.nm rfl h.tbF).l2 [59, 32] 2 (by decide +kernel) rfl (by decide)).add (Et.nm rfl h.tbG) (by decide)).l2 [32, 124, 32] 3 (by decide +kernel) rfl (by decide)).add (Et.str (k := 2) (ev_nm rfl) (by decide) h.n9 (by decide)) (by decide)).l2 [58, 32] 2 (by decide +kernel) rfl (by decide)).add (Et.str (k := 3) (ev_nm rfl) (by decide) h.v9 (by decide)) (by decide))) (by decide) h.r5
    Eb.nil)) rfl
theorem badc_ex (h : Dk a b c one two n v) {as : List (List Nat)} (ha : ∀ l ∈ as, Bad l) (la : as.length ≤ 200) : ∃ bs : List (List Nat), (∀ l ∈ bs, Bad l) ∧ bs.length ≤ 300 ∧ ∀ P, w__law_counts_badd 1 (stB a b c one more two n v bs z) P → w__law_counts_badc 1 (stB a b c one more two n v as z) P := by
  unfold w__law_counts_badc
  exact add_ex (i := 14) (S := stB a b c one more two n v as z) (ev_nm rfl) ha la (by decide)
    (Eb.adj (((Et.lit (l := [48, 58, 32]) 3 (by decide +kernel) rfl).add (Et.str (k := 1) (ev_nm rfl) (by decide) h.a9 (by decide)) (by decide)).l2 [32, 124, 32, 45] 4 (by decide +kernel) rfl (by decide)) (by decide) h.r6
    (Eb.adj ((Et.str (k := 1) (ev_nm rfl) (by decide) h.o9 (by decide)).l2 [58, 32, 49, 32, 50, 32, 51, 32, 52, 32, 53, 32, 124, 32, 45] 15 (by decide +kernel) rfl (by decide)) (by decide) h.r7
    (Eb.adj ((((((Et.nm rfl h.tbF).l2 [32, 124, 32] 3 (by decide +kernel) rfl (by decide)).add (Et.nm rfl h.tbQ) (by decide)).l2 [32] 1 (by decide +kernel) rfl (by decide)).add (Et.str (k := 1) (ev_nm rfl) (by decide) h.a9 (by decide)) (by decide))) (by decide) h.r8
    Eb.nil))) rfl
theorem Dk.tb12 (h : Dk a b c one two n v) : Tb 17 (joinL [32, 124, 32] [fT one a b, [45], [45]]) := h.tbF.app (show Tb 8 [32, 124, 32, 45, 32, 124, 32, 45] from ⟨by decide, by decide⟩)
theorem badd_ex (h : Dk a b c one two n v) {as : List (List Nat)} (ha : ∀ l ∈ as, Bad l) (la : as.length ≤ 300) : ∃ bs : List (List Nat), (∀ l ∈ bs, Bad l) ∧ bs.length ≤ 400 ∧ ∀ P, w__law_counts_bade 1 (stB a b c one more two n v bs z) P → w__law_counts_badd 1 (stB a b c one more two n v as z) P := by
  have lf := h.tbF.len
  unfold w__law_counts_badd
  exact add_ex (i := 14) (S := stB a b c one more two n v as z) (ev_nm rfl) ha la (by decide)
    (Eb.adj ((Et.nm rfl h.tbF).l2 [32, 124, 32, 48, 58, 32, 53] 7 (by decide +kernel) rfl (by decide)) (by decide) h.r9
    (Eb.adj ((Et.nm rfl h.tbF).l2 [32, 124, 32, 45, 51, 58, 32, 53] 8 (by decide +kernel) rfl (by decide)) (by decide) h.r10
    (Eb.adj (Et.nm rfl h.tbF) (by decide) h.r11
    (Eb.adj (Et.join (m := [32, 124, 32]) (ls := [fT one a b, [45], [45]]) (by decide +kernel) (Es.cons (Et.nm rfl h.tbF) (Es.cons (Et.lit (l := [45]) 1 (by decide +kernel) rfl) (Es.cons (Et.lit (l := [45]) 1 (by decide +kernel) rfl) Es.nil))) rfl (by show ((fT one a b).length + (1 + (1 + 0))) + 3 * 3 ≤ 10000000; omega) h.tb12) (by decide) h.r12
    (Eb.adj ((Et.str (k := 1) (ev_nm rfl) (by decide) h.o9 (by decide)).l2 [58, 32, 45, 32, 124, 32, 45] 7 (by decide +kernel) rfl (by decide)) (by decide) h.r13
    Eb.nil))))) rfl
theorem bade_ex (h : Dk a b c one two n v) {as : List (List Nat)} (ha : ∀ l ∈ as, Bad l) (la : as.length ≤ 400) : ∃ bs : List (List Nat), (∀ l ∈ bs, Bad l) ∧ bs.length ≤ 500 ∧ ∀ P, w__law_counts_end 1 (stB a b c one more two n v bs z) P → w__law_counts_bade 1 (stB a b c one more two n v as z) P := by
  unfold w__law_counts_bade
  exact add_ex (i := 14) (S := stB a b c one more two n v as z) (ev_nm rfl) ha la (by decide)
    (Eb.adj ((((Et.nm rfl h.tbF).l2 [59] 1 (by decide +kernel) rfl (by decide)).add (Et.nm rfl h.tbG) (by decide)).l2 [32, 124, 32, 45] 4 (by decide +kernel) rfl (by decide)) (by decide) h.r14
    (Eb.adj ((Et.lit (l := [48]) 1 (by decide +kernel) rfl).add (Et.nm rfl h.tbT) (by decide)) (by decide) (rc_head (by decide) (by decide))
    (Eb.adj ((Et.lit (l := [32]) 1 (by decide +kernel) rfl).add (Et.nm rfl h.tbT) (by decide)) (by decide) (rc_head (by decide) (by decide))
    (Eb.adj ((Et.nm rfl h.tbT).l2 [32] 1 (by decide +kernel) rfl (by decide)) (by decide) (rc_last (by decide) (by decide))
    (Eb.adj ((Et.nm rfl h.tbT).l2 [10] 1 (by decide +kernel) rfl (by decide)) (by decide) (rc_last (by decide) (by decide))
    (Eb.adj (Et.lit (l := [45, 32, 124]) 3 (by decide +kernel) rfl) (by decide) (by decide +kernel)
    (Eb.adj (Et.lit (l := []) 0 (by decide +kernel) rfl) (by decide) (by decide +kernel)
    (Eb.adj (Et.lit (l := [45]) 1 (by decide +kernel) rfl) (by decide) (by decide +kernel)
    Eb.nil)))))))) rfl
theorem Dk.bad22 (h : Dk a b c one two n v) (t : Tb 32 ((((fT one a b ++ [32, 124, 32]) ++ qT n (v + 1)) ++ [59, 32]) ++ qT n (v + 1))) : Bad ((((fT one a b ++ [32, 124, 32]) ++ qT n (v + 1)) ++ [59, 32]) ++ qT n (v + 1)) := by
  refine ⟨⟨Nat.le_trans t.len (by decide), ?_, t.asc⟩, h.r22⟩
  have e : (((fT one a b ++ [32, 124, 32]) ++ qT n (v + 1)) ++ [59, 32]) ++ qT n (v + 1) = ctxT [(one, [a, b])] [(n, v + 1), (n, v + 1)] := by
    unfold ctxT lstT
    simp [joinL]
  have k1 : ∀ {i : Int}, i.natAbs < 10 ^ 1 → i.natAbs < 10 ^ 31 := fun h => Nat.lt_of_lt_of_le h (by decide)
  have k2 : ∀ {i : Int}, i.natAbs < 10 ^ 2 → i.natAbs < 10 ^ 31 := fun h => Nat.lt_of_lt_of_le h (by decide)
  have k3 : ∀ {i : Int}, i.natAbs < 10 ^ 3 → i.natAbs < 10 ^ 31 := fun h => Nat.lt_of_lt_of_le h (by decide)
  rw [e]
  refine ru_ctx (by decide) (fun l hl => ?_) (fun l hl x hx => ?_) fun p hp => ?_
  · rw [List.mem_singleton.mp hl]
    exact k1 h.o9
  · rw [List.mem_singleton.mp hl] at hx
    rcases List.mem_cons.mp hx with rfl | hx
    · exact k1 h.a9
    · rw [List.mem_singleton.mp hx]
      exact k1 h.b9
  · have hp : p = (n, v + 1) := by
      rcases List.mem_cons.mp hp with e | hp
      · exact e
      · exact List.mem_singleton.mp hp
    rw [hp]
    exact ⟨k2 h.n9, k3 h.w9⟩
theorem cend_ex (h : Dk a b c one two n v) {as : List (List Nat)} (ha : ∀ l ∈ as, Bad l) (la : as.length ≤ 500) : ∃ bs : List (List Nat), (∀ l ∈ bs, Bad l) ∧ bs.length ≤ 600 ∧ ∀ P : PJ, P.rt (.dat (.tup [.str (mkS (tT a b c one two n (v + 1))), kD a b c one two n v, .lst (wdL bs)])) [bx z] → w__law_counts_end 1 (stB a b c one more two n v as z) P := by
  have g : Eb Bad _ (stB a b c one more two n v as z).sl (stB a b c one more two n v as z).cs _ :=
    (Eb.cons (((((Et.nm (i := 8) rfl h.tbF).l2 (s := " | ") [32, 124, 32] 3 (by decide +kernel) rfl (by decide)).add (Et.nm (i := 11) rfl h.tbQ) (by decide)).l2 (s := "; ") [59, 32] 2 (by decide +kernel) rfl (by decide)).add (Et.nm (i := 11) rfl h.tbQ) (by decide)) (h.bad22 ((((h.tbF.app (show Tb 3 [32, 124, 32] from ⟨by decide, by decide⟩)).app h.tbQ).app (show Tb 2 [59, 32] from ⟨by decide, by decide⟩)).app h.tbQ))
    (Eb.adj ((Et.lit (s := "+") (l := [43]) 1 (by decide +kernel) rfl).add (Et.nm (i := 12) rfl h.tbT) (by decide)) (by decide) (rc_head (by decide) (by decide))
    (Eb.adj (Et.lit (s := "1:  1 | -") (l := [49, 58, 32, 32, 49, 32, 124, 32, 45]) 9 (by decide +kernel) rfl) (by decide) (by decide +kernel)
    (Eb.adj (Et.lit (s := "1: -0 | -") (l := [49, 58, 32, 45, 48, 32, 124, 32, 45]) 9 (by decide +kernel) rfl) (by decide) (by decide +kernel)
    Eb.nil))))
  refine ⟨_, fun l hl => (List.mem_append.mp hl).elim (ha l) (g.bd l), ?_, fun P q => ?_⟩
  · rw [List.length_append]
    exact Nat.add_le_add la (show 4 ≤ 100 by decide)
  · unfold w__law_counts_end
    refine consR (ev_tup (Ea.cons (ev_nm rfl) (Ea.cons (ev_nm rfl) (Ea.cons (ev_addW (ev_nm rfl) g.ev ?_) Ea.nil))) ?_) q
    · show as.length + 4 ≤ 1000
      omega
    · exact (show 3 ≤ 1000 by decide)
end

/-! ### the law's texts of counts, drawn -/
open TL
section
variable {z : B}
theorem counts_ex (ok : Ok z) : ∃ (T : List Nat) (ls : List Lot) (os : List (Int × Int)) (bs : List (List Nat)) (z' : B), Okv T ∧ rcO T = some (ls, os) ∧ (∀ l ∈ bs, Bad l) ∧ bs.length ≤ 600 ∧ Ok z' ∧ c__law_counts [.cel 0] [bx z] (.dat (.tup [.str (mkS T), coD ls os, .lst (wdL bs)])) [bx z'] := by
  obtain ⟨a, z1, a0, a9, k1, c1⟩ := number_ex ok
  obtain ⟨b, z2, b0, b9, k2, c2⟩ := number_ex k1
  obtain ⟨c, z3, c0, c9, k3, c3⟩ := number_ex k2
  have k4 := k3.nx 5
  have k5 := k4.nx 5
  have o0 : 0 ≤ tk z3 5 := tk_lo (by decide)
  have o1 : tk z3 5 < 5 := tk_hi (by decide)
  have m0 : 0 ≤ tk (nx z3 5) 5 := tk_lo (by decide)
  have m1 : tk (nx z3 5) 5 < 5 := tk_hi (by decide)
  have n0 : 0 ≤ tk (nx (nx z3 5) 5) 40 := tk_lo (by decide)
  have n1 : tk (nx (nx z3 5) 5) 40 < 40 := tk_hi (by decide)
  have t1 := take_c (b := z3) (m := 5) (by decide) (by decide) k3
  have t2 := take_c (b := nx z3 5) (m := 5) (by decide) (by decide) k4
  have t3 := take_c (b := nx (nx z3 5) 5) (m := 40) (by decide) (by decide) k5
  have k6 := k5.nx 40
  generalize tk z3 5 = to at o0 o1 t1
  generalize tk (nx z3 5) 5 = tm at m0 m1 t2
  generalize tk (nx (nx z3 5) 5) 40 = tn at n0 n1 t3
  generalize nx (nx (nx z3 5) 5) 40 = z4 at k6 t3
  have h := mkDk (a := a) (b := b) (c := c) (one := 1 + to) (more := 1 + tm) (n := 3 + tn) a0 a9 b0 b9 c0 c9 (by omega) (by omega) (by omega) (by omega) (by omega) (by omega)
  generalize plainQ [(1 + to, [a, b]), (1 + to + (1 + tm), [c])] (3 + tn) = v at h
  obtain ⟨s1, g1, l1, p1⟩ := bada_ex (more := 1 + tm) (z := z4) h
  obtain ⟨s2, g2, l2, p2⟩ := badb_ex (more := 1 + tm) (z := z4) h g1 l1
  obtain ⟨s3, g3, l3, p3⟩ := badc_ex (more := 1 + tm) (z := z4) h g2 l2
  obtain ⟨s4, g4, l4, p4⟩ := badd_ex (more := 1 + tm) (z := z4) h g3 l3
  obtain ⟨s5, g5, l5, p5⟩ := bade_ex (more := 1 + tm) (z := z4) h g4 l4
  obtain ⟨s6, g6, l6, p6⟩ := cend_ex (more := 1 + tm) (z := z4) h g5 l5
  refine ⟨_, _, _, s6, z4, h.tbT.okv (by decide), h.good, g6, l6, k6, rfl, ?_⟩
  refine call_ c1 (call_ c2 (call_ c3 ?_))
  refine call_ t1 (call_ t2 ?_)
  refine call_ t3 ?_
  refine counts_texts h (counts_plain h (by omega) (counts_spec h (counts_text h (counts_made h ?_))))
  exact p1 _ (p2 _ (p3 _ (p4 _ (p5 _ (p6 _ (And.intro rfl rfl))))))
end

/-! ### the law's texts of sets of sizes -/
open TL
def BadS (l : List Nat) : Prop := (Okv l ∧ Wrd9 l) ∧ rsO l = none
/-- a short text that is told wrong -/
theorem bad_s {l : List Nat} (h : (decide (l.length ≤ 31) && (l.all fun c => decide (c < 128)) && decide (((spl [32] 0 [] l).headD []).length ≤ 9)) = true) (r : rsO l = none) : BadS l := by
  rw [Bool.and_eq_true, Bool.and_eq_true] at h
  have w : ((spl [32] 0 [] l).headD []).length ≤ 9 := of_decide_eq_true h.2
  exact ⟨⟨okv_len (of_decide_eq_true h.1.1) fun c hc => of_decide_eq_true (List.all_eq_true.mp h.1.2 c hc), w⟩, r⟩
def pLs : List Nat := [2, 3, 5, 7, 11]
def oLs : List Nat := [4, 9, 25, 6, 15]
abbrev zT (p n : Nat) : List Nat := szxT (p : Int) [(p : Int)] [(n : Int)]
section
variable {p o n : Nat}
theorem p_in (h : p ∈ pLs) : 2 ≤ p ∧ p ≤ 11 := (show ∀ p ∈ pLs, 2 ≤ p ∧ p ≤ 11 by decide) p h
theorem o_in (h : o ∈ oLs) : 4 ≤ o ∧ o ≤ 25 := (show ∀ p ∈ oLs, 4 ≤ p ∧ p ≤ 25 by decide) o h
theorem bz1 (h : p ∈ pLs) : BadS (szxT (p : Int) [1, (p : Int)] []) := (show ∀ p ∈ pLs, BadS (szxT (p : Int) [1, (p : Int)] []) from List.forall_mem_cons.mpr ⟨bad_s (by decide +kernel) (by decide +kernel), List.forall_mem_cons.mpr ⟨bad_s (by decide +kernel) (by decide +kernel), List.forall_mem_cons.mpr ⟨bad_s (by decide +kernel) (by decide +kernel), List.forall_mem_cons.mpr ⟨bad_s (by decide +kernel) (by decide +kernel), List.forall_mem_cons.mpr ⟨bad_s (by decide +kernel) (by decide +kernel), fun _ z => nomatch z⟩⟩⟩⟩⟩) p h
theorem bz2 (h : p ∈ pLs) : BadS (szxT (p : Int) [(p : Int), 1] []) := (show ∀ p ∈ pLs, BadS (szxT (p : Int) [(p : Int), 1] []) from List.forall_mem_cons.mpr ⟨bad_s (by decide +kernel) (by decide +kernel), List.forall_mem_cons.mpr ⟨bad_s (by decide +kernel) (by decide +kernel), List.forall_mem_cons.mpr ⟨bad_s (by decide +kernel) (by decide +kernel), List.forall_mem_cons.mpr ⟨bad_s (by decide +kernel) (by decide +kernel), List.forall_mem_cons.mpr ⟨bad_s (by decide +kernel) (by decide +kernel), fun _ z => nomatch z⟩⟩⟩⟩⟩) p h
theorem bz3 (h : o ∈ oLs) : BadS (szxT (o : Int) [] []) := (show ∀ o ∈ oLs, BadS (szxT (o : Int) [] []) from List.forall_mem_cons.mpr ⟨bad_s (by decide +kernel) (by decide +kernel), List.forall_mem_cons.mpr ⟨bad_s (by decide +kernel) (by decide +kernel), List.forall_mem_cons.mpr ⟨bad_s (by decide +kernel) (by decide +kernel), List.forall_mem_cons.mpr ⟨bad_s (by decide +kernel) (by decide +kernel), List.forall_mem_cons.mpr ⟨bad_s (by decide +kernel) (by decide +kernel), fun _ z => nomatch z⟩⟩⟩⟩⟩) o h
theorem sz_n {p : Nat} {k : Nat} (h : p < 10 ^ k) : ((p : Nat) : Int).natAbs < 10 ^ k := h
theorem z_eq : (((numI (p : Int) ++ [32, 124, 32]) ++ numI (p : Int)) ++ [32, 124, 32]) ++ numI (n : Int) = zT p n := by
  unfold zT szxT spcT lstT
  simp [joinL]
theorem z1_eq : ((numI (p : Int) ++ [32, 124, 32, 49, 32]) ++ numI (p : Int)) ++ [32, 124, 32, 45] = szxT (p : Int) [1, (p : Int)] [] := by
  unfold szxT spcT lstT
  simp [joinL, num1]
theorem z2_eq : ((numI (p : Int) ++ [32, 124, 32]) ++ numI (p : Int)) ++ [32, 49, 32, 124, 32, 45] = szxT (p : Int) [(p : Int), 1] [] := by
  unfold szxT spcT lstT
  simp [joinL, num1]
theorem z3_eq : numI (o : Int) ++ [32, 124, 32, 45, 32, 124, 32, 45] = szxT (o : Int) [] [] := by
  unfold szxT spcT lstT
  simp
/-- drawn numbers -/
structure Dzz (p o n : Nat) : Prop where
  p : p ∈ pLs
  o : o ∈ oLs
  n0 : 0 < n
  n1 : n ≤ 90
namespace Dzz
variable (h : Dzz p o n)
include h
theorem p2 : p < 10 ^ 2 := by have := p_in h.p; omega
theorem o2 : o < 10 ^ 2 := by have := o_in h.o; omega
theorem n2 : n < 10 ^ 2 := by have := h.n1; omega
theorem tb : Tb 15 (zT p n) := by
  rw [← z_eq]
  exact ((((tb_num (k := 2) (by decide) (sz_n h.p2)).app (show Tb 3 [32, 124, 32] from ⟨by decide, by decide⟩)).app (tb_num (k := 2) (by decide) (sz_n h.p2))).app (show Tb 3 [32, 124, 32] from ⟨by decide, by decide⟩)).app (tb_num (k := 2) (by decide) (sz_n h.n2))
theorem w9 : Wrd9 (zT p n) := wrd_szx (p := (p : Int)) (Nat.lt_of_lt_of_le h.p2 (by decide))
theorem ins : InSz p [p] [n] := by
  have := p_in h.p
  have := h.n0
  exact ⟨by omega, by omega, List.pairwise_singleton _ _, fun s hs => by rw [List.mem_singleton.mp hs]; exact ⟨by omega, Nat.dvd_refl _⟩, show 1 ≤ 1000 by decide, List.pairwise_singleton _ _, fun s hs => by rw [List.mem_singleton.mp hs]; omega, show 1 ≤ 1000 by decide⟩
theorem e1 : leaQ p [p] = p := lea_self (by have := p_in h.p; omega)
theorem e2 : szL p [p] = [p] := by
  show low (leaQ p [p]) [p] = [p]
  rw [h.e1]
  exact low_one
theorem good : rsO (zT p n) = some (p, [p], [n]) := rsO_good h.ins (fun s hs => by rw [List.mem_singleton.mp hs]; exact Nat.lt_of_lt_of_le h.p2 (by decide)) (fun s hs => by rw [List.mem_singleton.mp hs]; exact Nat.lt_of_lt_of_le h.n2 (by decide)) h.e1 h.e2
/-- the first word, if something is put behind -/
theorem w9b (c : Nat) : Wrd9 (zT p n ++ [c]) := by
  unfold Wrd9
  have e : zT p n ++ [c] = numI (p : Int) ++ (32 :: ((124 :: 32 :: (spcT [(p : Int)] ++ (32 :: 124 :: 32 :: spcT [(n : Int)]))) ++ [c])) := by
    unfold zT szxT
    simp
  rw [e, first_word (pInt_num (Nat.lt_of_lt_of_le (sz_n h.p2) (by decide)))]
  exact Nat.le_trans (numI_ln (k := 2) (by decide) (sz_n h.p2)) (by decide)
end Dzz
end
theorem w9s (l : List Nat) : Wrd9 (32 :: l) := by
  have e := spl_part1 (s := 32) (S := []) (p := []) (rest := l) (acc := []) (fun z => nomatch z)
  have e : spl [32] 0 [] (32 :: l) = ([] ++ []) :: spl [32] 0 [] l := e
  unfold Wrd9
  rw [e]
  exact Nat.zero_le _
theorem at5 {a b c d e : Nat} {t : Int} (t0 : 0 ≤ t) (t1 : t < 5) : ∃ v : Nat, v ∈ [a, b, c, d, e] ∧ atI [D.int (a : Int), .int (b : Int), .int (c : Int), .int (d : Int), .int (e : Int)] t = some (.int (v : Int)) := by
  have h : t = 0 ∨ t = 1 ∨ t = 2 ∨ t = 3 ∨ t = 4 := by omega
  rcases h with rfl | rfl | rfl | rfl | rfl
  · exact ⟨a, by simp, rfl⟩
  · exact ⟨b, by simp, rfl⟩
  · exact ⟨c, by simp, rfl⟩
  · exact ⟨d, by simp, rfl⟩
  · exact ⟨e, by simp, rfl⟩

/-! ### the statements of the law's texts of sets of sizes -/
open TL
section
variable {p o n : Nat} {z : B} {x1 x2 x3 x4 x5 : Option Sl}
abbrev nS (i : Nat) : Option Sl := some (.dat (.int (i : Int)))
abbrev stZ (p o n : Nat) (x4 x5 : Option Sl) (z : B) : Sta := ⟨[some (.cel 0), nS p, nS o, nS n, x4, x5], [bx z]⟩
abbrev stW (p o n : Nat) (bs : List (List Nat)) (z : B) : Sta := stZ p o n (some (.dat (.str (mkS (zT p n))))) (some (.dat (.lst (wdL bs)))) z
theorem sets_text (h : Dzz p o n) {P : PJ} (hP : w__law_sets_bada 1 (stZ p o n (some (.dat (.str (mkS (zT p n))))) x5 z) P) : w__law_sets_text 1 (stZ p o n x4 x5 z) P := by
  unfold w__law_sets_text
  refine consA (d := .str (mkS (zT p n))) ?_ hP
  exact ((((((Et.str (k := 2) (ev_nm rfl) (by decide) (sz_n h.p2) (by decide)).l2 [32, 124, 32] 3 (by decide +kernel) rfl (by decide)).add (Et.str (k := 2) (ev_nm rfl) (by decide) (sz_n h.p2) (by decide)) (by decide)).l2 [32, 124, 32] 3 (by decide +kernel) rfl (by decide)).add (Et.str (k := 2) (ev_nm rfl) (by decide) (sz_n h.n2) (by decide)) (by decide)).cast z_eq).ev
theorem za_ex (h : Dzz p o n) : ∃ (l : List Nat) (ys : List (List Nat)), BadS l ∧ ∀ P, w__law_sets_badb 1 (stW p o n (l :: ys) z) P → w__law_sets_bada 1 (stZ p o n (some (.dat (.str (mkS (zT p n))))) none z) P := by
  have pi := p_in h.p
  have oi := o_in h.o
  have po : p * o ≤ 11 * 25 := Nat.mul_le_mul pi.2 oi.2
  have e : ((p : Int) * (o : Int)).natAbs < 10 ^ 3 := by
    rw [Int.natAbs_mul]
    show p * o < 1000
    omega
  refine ⟨_, [numI ((p : Int) * (o : Int)) ++ [32, 124, 32, 49, 32, 124, 32, 45], numI (p : Int) ++ [32, 124, 32, 45, 32, 124, 32, 45]], bz1 h.p, fun P q => ?_⟩
  unfold w__law_sets_bada
  refine consA (S := stZ p o n (some (.dat (.str (mkS (zT p n))))) none z) (i := 5) (ev_lst (Es.cons (n := 15) ?_ (Es.cons (n := 12) ?_ (Es.cons (n := 11) ?_ Es.nil))) (show 3 ≤ 1000 by decide)) q
  · exact (((((Et.str (k := 2) (ev_nm rfl) (by decide) (sz_n h.p2) (by decide)).l2 [32, 124, 32, 49, 32] 5 (by decide +kernel) rfl (by decide)).add (Et.str (k := 2) (ev_nm rfl) (by decide) (sz_n h.p2) (by decide)) (by decide)).l2 [32, 124, 32, 45] 4 (by decide +kernel) rfl (by decide)).cast z1_eq)
  · exact ((Et.str (k := 3) (ev_mul (ev_nm rfl) (ev_nm rfl) (by omega) (by omega)) (by decide) e (by decide)).l2 [32, 124, 32, 49, 32, 124, 32, 45] 8 (by decide +kernel) rfl (by decide))
  · exact ((Et.str (k := 2) (ev_nm rfl) (by decide) (sz_n h.p2) (by decide)).l2 [32, 124, 32, 45, 32, 124, 32, 45] 8 (by decide +kernel) rfl (by decide))
theorem ev_cut1 {w : WpE} {sl : Sls} {cs : List Cell} {l : List Nat} {ys : List (List Nat)} (h : Ev w sl cs (.lst (wdL (l :: ys)))) : Ev (wSlcS w wO0 (wO1 (wCon (.int 1)))) sl cs (.lst (wdL [l])) := fun R Rx hR => by
  unfold wSlcS
  refine h _ _ ?_
  show R (.dat (.lst (cutD (wdL (l :: ys)) none (some 1)))) cs
  rw [show (some (1 : Int)) = some ((1 : Nat) : Int) from rfl, cut_take]
  exact hR
theorem zb_ex (h : Dzz p o n) {l : List Nat} {ys : List (List Nat)} (hb : BadS l) : ∃ bs : List (List Nat), (∀ l ∈ bs, BadS l) ∧ bs.length ≤ 101 ∧ ∀ P, w__law_sets_badc 1 (stW p o n bs z) P → w__law_sets_badb 1 (stW p o n (l :: ys) z) P := by
  unfold w__law_sets_badb
  exact add_ex (i := 5) (S := stW p o n (l :: ys) z) (ev_cut1 (ev_nm rfl)) (List.forall_mem_cons.mpr ⟨hb, fun _ z => nomatch z⟩) (N := 1) (show 1 ≤ 1 by decide) (by decide)
    (Eb.cons (((Et.str (k := 2) (ev_nm rfl) (by decide) (sz_n h.o2) (by decide)).l2 [32, 124, 32, 45, 32, 124, 32, 45] 8 (by decide +kernel) rfl (by decide)).cast z3_eq) (bz3 h.o)
    (Eb.cons (((((Et.str (k := 2) (ev_nm rfl) (by decide) (sz_n h.p2) (by decide)).l2 [32, 124, 32] 3 (by decide +kernel) rfl (by decide)).add (Et.str (k := 2) (ev_nm rfl) (by decide) (sz_n h.p2) (by decide)) (by decide)).l2 [32, 49, 32, 124, 32, 45] 6 (by decide +kernel) rfl (by decide)).cast z2_eq) (bz2 h.p)
    (Eb.cons (Et.lit (l := [49, 51, 32, 124, 32, 50, 32, 124, 32, 45]) 10 (by decide +kernel) rfl) (bad_s (by decide +kernel) (by decide +kernel))
    Eb.nil))) rfl
theorem zc_ex (h : Dzz p o n) {as : List (List Nat)} (ha : ∀ l ∈ as, BadS l) (la : as.length ≤ 101) : ∃ bs : List (List Nat), (∀ l ∈ bs, BadS l) ∧ bs.length ≤ 201 ∧ ∀ P, w__law_sets_badd 1 (stW p o n bs z) P → w__law_sets_badc 1 (stW p o n as z) P := by
  unfold w__law_sets_badc
  exact add_ex (i := 5) (S := stW p o n as z) (ev_nm rfl) ha la (by decide)
    (Eb.cons (Et.lit (l := [48, 32, 124, 32, 49, 32, 124, 32, 45]) 9 (by decide +kernel) rfl) (bad_s (by decide +kernel) (by decide +kernel))
    (Eb.cons (Et.lit (l := [45, 49, 32, 124, 32, 49, 32, 124, 32, 45]) 10 (by decide +kernel) rfl) (bad_s (by decide +kernel) (by decide +kernel))
    (Eb.cons (Et.lit (l := [49, 32, 124, 32, 49, 32, 124, 32, 48]) 9 (by decide +kernel) rfl) (bad_s (by decide +kernel) (by decide +kernel))
    (Eb.cons (Et.lit (l := [49, 32, 124, 32, 49, 32, 124, 32, 50, 32, 50]) 11 (by decide +kernel) rfl) (bad_s (by decide +kernel) (by decide +kernel))
    (Eb.cons (Et.lit (l := [49, 32, 124, 32, 49, 32, 124, 32, 51, 32, 50]) 11 (by decide +kernel) rfl) (bad_s (by decide +kernel) (by decide +kernel))
    (Eb.cons (Et.lit (l := [49, 32, 124, 32, 49]) 5 (by decide +kernel) rfl) (bad_s (by decide +kernel) (by decide +kernel))
    (Eb.cons (Et.lit (l := [49, 51, 32, 124, 32, 49, 52, 32, 124, 32, 45]) 11 (by decide +kernel) rfl) (bad_s (by decide +kernel) (by decide +kernel))
    Eb.nil))))))) rfl
theorem tb_bad {k : Nat} {l : List Nat} (h : Tb k l) (hk : k ≤ 31) (w : Wrd9 l) (r : rsO l = none) : BadS l := ⟨⟨h.okv hk, w⟩, r⟩
theorem zd_ex (h : Dzz p o n) {as : List (List Nat)} (ha : ∀ l ∈ as, BadS l) (la : as.length ≤ 201) : ∃ bs : List (List Nat), (∀ l ∈ bs, BadS l) ∧ bs.length ≤ 301 ∧ ∀ P, w__law_sets_bade 1 (stW p o n bs z) P → w__law_sets_badd 1 (stW p o n as z) P := by
  unfold w__law_sets_badd
  exact add_ex (i := 5) (S := stW p o n as z) (ev_nm rfl) ha la (by decide)
    (Eb.cons (Et.lit (l := [48, 49, 32, 124, 32, 49, 32, 124, 32, 45]) 10 (by decide +kernel) rfl) (bad_s (by decide +kernel) (by decide +kernel))
    (Eb.cons (Et.lit (l := [49, 32, 124, 32, 48, 49, 32, 124, 32, 45]) 10 (by decide +kernel) rfl) (bad_s (by decide +kernel) (by decide +kernel))
    (Eb.cons (Et.lit (l := [49, 32, 124, 32, 49, 32, 124, 32, 43, 50]) 10 (by decide +kernel) rfl) (bad_s (by decide +kernel) (by decide +kernel))
    (Eb.cons ((Et.lit (l := [32]) 1 (by decide +kernel) rfl).add (Et.nm rfl h.tb) (by decide)) (tb_bad ((show Tb 1 [32] from ⟨by decide, by decide⟩).app h.tb) (by decide) (w9s _) (rs_head (by decide)))
    (Eb.cons ((Et.nm rfl h.tb).l2 [32] 1 (by decide +kernel) rfl (by decide)) (tb_bad (h.tb.app (show Tb 1 [32] from ⟨by decide, by decide⟩)) (by decide) (h.w9b 32) (rs_last (by decide) (by decide)))
    (Eb.cons ((Et.nm rfl h.tb).l2 [10] 1 (by decide +kernel) rfl (by decide)) (tb_bad (h.tb.app (show Tb 1 [10] from ⟨by decide, by decide⟩)) (by decide) (h.w9b 10) (rs_last (by decide) (by decide)))
    (Eb.cons (Et.lit (l := [49, 32, 124, 32, 49, 32, 124, 32, 45, 32, 124, 32, 45]) 13 (by decide +kernel) rfl) (bad_s (by decide +kernel) (by decide +kernel))
    Eb.nil))))))) rfl
theorem ze_ex (h : Dzz p o n) {as : List (List Nat)} (ha : ∀ l ∈ as, BadS l) (la : as.length ≤ 301) : ∃ bs : List (List Nat), (∀ l ∈ bs, BadS l) ∧ bs.length ≤ 401 ∧ ∀ P, w__law_sets_end 1 (stW p o n bs z) P → w__law_sets_bade 1 (stW p o n as z) P := by
  unfold w__law_sets_bade
  exact add_ex (i := 5) (S := stW p o n as z) (ev_nm rfl) ha la (by decide)
    (Eb.cons (Et.lit (l := []) 0 (by decide +kernel) rfl) (bad_s (by decide +kernel) (by decide +kernel))
    (Eb.cons (Et.lit (l := [45]) 1 (by decide +kernel) rfl) (bad_s (by decide +kernel) (by decide +kernel))
    (Eb.cons (Et.lit (l := [124, 32, 124]) 3 (by decide +kernel) rfl) (bad_s (by decide +kernel) (by decide +kernel))
    (Eb.cons (Et.lit (l := [49, 32, 124, 32, 49, 32, 124, 32, 49, 32, 32, 50]) 12 (by decide +kernel) rfl) (bad_s (by decide +kernel) (by decide +kernel))
    (Eb.cons (Et.lit (l := [49, 32, 124, 32, 49, 32, 124]) 7 (by decide +kernel) rfl) (bad_s (by decide +kernel) (by decide +kernel))
    Eb.nil))))) rfl
theorem zend (h : Dzz p o n) {as : List (List Nat)} {P : PJ} (q : P.rt (.dat (.tup [.str (mkS (zT p n)), szD p [p] [n], .lst (wdL as)])) [bx z]) : w__law_sets_end 1 (stW p o n as z) P := by
  have k := szinit_c h.ins
  rw [h.e1, h.e2] at k
  refine And.intro (szk 1) (And.intro (szk 1) (And.intro rfl (And.intro rfl (.inl (make_ (ds := [nD p, .tup ([p].map nD), .tup ([n].map nD), mkD [p], mkD [n]]) k rfl ?_)))))
  exact And.intro (szk 3) q
end

/-! ### the law -/
open TL
section
variable {z : B}
theorem sets_ex (ok : Ok z) : ∃ (p n : Nat) (bs : List (List Nat)) (z' : B), (∃ o, Dzz p o n) ∧ (∀ l ∈ bs, BadS l) ∧ bs.length ≤ 600 ∧ Ok z' ∧ c__law_sets [.cel 0] [bx z] (.dat (.tup [.str (mkS (zT p n)), szD p [p] [n], .lst (wdL bs)])) [bx z'] := by
  have k1 := ok.nx 5
  have k2 := k1.nx 5
  have o0 : 0 ≤ tk z 5 := tk_lo (by decide)
  have o1 : tk z 5 < 5 := tk_hi (by decide)
  have m0 : 0 ≤ tk (nx z 5) 5 := tk_lo (by decide)
  have m1 : tk (nx z 5) 5 < 5 := tk_hi (by decide)
  have n0 : 0 ≤ tk (nx (nx z 5) 5) 90 := tk_lo (by decide)
  have n1 : tk (nx (nx z 5) 5) 90 < 90 := tk_hi (by decide)
  have t1 := take_c (b := z) (m := 5) (by decide) (by decide) ok
  have t2 := take_c (b := nx z 5) (m := 5) (by decide) (by decide) k1
  have t3 := take_c (b := nx (nx z 5) 5) (m := 90) (by decide) (by decide) k2
  have k3 := k2.nx 90
  generalize nx (nx (nx z 5) 5) 90 = z3 at k3 t3
  generalize tk z 5 = tp at o0 o1 t1
  generalize tk (nx z 5) 5 = to at m0 m1 t2
  generalize tk (nx (nx z 5) 5) 90 = tn at n0 n1 t3
  obtain ⟨k, rfl⟩ := Int.eq_ofNat_of_zero_le n0
  obtain ⟨p, hp, ep⟩ := at5 (a := 2) (b := 3) (c := 5) (d := 7) (e := 11) o0 o1
  obtain ⟨o, ho, eo⟩ := at5 (a := 4) (b := 9) (c := 25) (d := 6) (e := 15) m0 m1
  have h : Dzz p o (1 + k) := ⟨hp, ho, by omega, by omega⟩
  obtain ⟨l, ys, g0, p0⟩ := za_ex (z := z3) h
  obtain ⟨s1, g1, l1, p1⟩ := zb_ex (z := z3) (ys := ys) h g0
  obtain ⟨s2, g2, l2, p2⟩ := zc_ex (z := z3) h g1 l1
  obtain ⟨s3, g3, l3, p3⟩ := zd_ex (z := z3) h g2 l2
  obtain ⟨s4, g4, l4, p4⟩ := ze_ex (z := z3) h g3 l3
  refine ⟨p, 1 + k, s4, z3, ⟨o, h⟩, g4, by omega, k3, rfl, ?_⟩
  refine And.intro (szk 5) (call_ t1 (atW_i ep (And.intro (szk 5) (call_ t2 (atW_i eo ?_)))))
  refine call_ t3 ?_
  have e : (1 : Int) + (k : Int) = ((1 + k : Nat) : Int) := by omega
  show w__law_sets_text 1 ⟨[some (.cel 0), nS p, nS o, some (.dat (.int ((1 : Int) + (k : Int)))), none, none], [bx z3]⟩ _
  rw [e]
  exact sets_text h (p0 _ (p1 _ (p2 _ (p3 _ (p4 _ (zend h (And.intro rfl rfl)))))))
end
theorem refc_c {l : List Nat} (h : Bad l) : c__law_refused [.dat (.str (mkS l)), .dat (.bl true)] [] (.dat (.int 0)) [] := by
  have q := rcnt_c h.1
  rw [h.2] at q
  exact ⟨rfl, Br.tt rfl (.inr ⟨rfl, _, q, fun a d => And.intro ⟨rfl, rfl, rfl⟩ (And.intro rfl rfl)⟩)⟩
theorem refs_c {l : List Nat} (h : BadS l) : c__law_refused [.dat (.str (mkS l)), .dat (.bl false)] [] (.dat (.int 0)) [] := by
  have q := rsz_c h.1.1 h.1.2
  rw [h.2] at q
  exact ⟨rfl, Br.ff rfl (.inr ⟨rfl, _, q, fun a d => And.intro ⟨rfl, rfl, rfl⟩ (And.intro rfl rfl)⟩)⟩
theorem rdc_some {c : Ct} {cx : CtX} {x : Exc} {ss : List Sl} {d : D} (h : Rdc c cx x ss (some d)) : c ss [] (.dat d) [] := h
theorem readc_c {T : List Nat} {ls : List Lot} {os : List (Int × Int)} (ok : Okv T) (h : rcO T = some (ls, os)) : c_read_count [.dat (.str (mkS T))] [] (.dat (coD ls os)) [] := by
  have q := rcnt_c ok
  rw [h] at q
  exact rdc_some q
theorem reads_c {p o n : Nat} (h : Dzz p o n) : c_read_sizes [.dat (.str (mkS (zT p n)))] [] (.dat (szD p [p] [n])) [] := by
  have q := rsz_c (h.tb.okv (by decide)) h.w9
  rw [h.good] at q
  have q := rdc_some (d := szD (leaQ p [p]) (szL p [p]) [n]) q
  rw [h.e1, h.e2] at q
  exact q
section
variable {ns : List Int} {z : B} {T : List Nat} {ls : List Lot} {os : List (Int × Int)} {bs : List (List Nat)} {x1 x3 x4 x5 x6 x7 : Option Sl} {P : PJ}
abbrev stLw (ns : List Int) (x1 x3 x4 x5 x6 x7 : Option Sl) (z : B) : Sta := ⟨[some (.dat (scD ns)), x1, some (.cel 0), x3, x4, x5, x6, x7], [bx z]⟩
def Sh (ns : List Int) (S : Sta) : Prop := ∃ x1 x2 x3 x4 x5 x6 x7 cs, S = ⟨[some (.dat (scD ns)), x1, x2, x3, x4, x5, x6, x7], cs⟩
theorem filt0 {α : Type} (l : List α) (f : α → D) : (l.filter fun _ => false).map f = [] := by
  rw [List.filter_eq_nil_iff.mpr fun _ _ => Bool.false_ne_true]
  rfl
theorem asks_c {p o n : Nat} (h : Dzz p o n) (hb : ∀ l ∈ bs, BadS l) (hl : bs.length ≤ 600) (hP : P.nx (stLw ns x1 (some (.dat (.str (mkS (zT p n))))) x4 (some (.dat (.lst (wdL bs)))) x6 (some (.dat (szD p [p] [n]))) z)) :
    w_law_asks 0 (stLw ns x1 (some (.dat (.str (mkS (zT p n))))) x4 (some (.dat (.lst (wdL bs)))) x6 (some (.dat (szD p [p] [n]))) z) P := by
  refine .inl (call_ (reads_c h) (Exists.intro _ (And.intro seq_c (Br.ff rfl ?_))))
  refine And.intro (lenI (by omega)) (lcW_filter (xs := bs) (fun l => D.str (mkS l)) (fun _ => D.int 1) (fun _ => false) (fun l hl => ⟨_, rfl, fun R' h' => call_ (refs_c (hb l hl)) h', fun z => nomatch z⟩) ?_)
  rw [filt0]
  exact And.intro (szk 0) (And.intro rfl (And.intro rfl (Br.ne rfl rfl hP)))
theorem askc_c (h : Okv T) (hr : rcO T = some (ls, os)) (hb : ∀ l ∈ bs, Bad l) (hl : bs.length ≤ 600) (hP : w_law_sets 0 (stLw ns x1 (some (.dat (.str (mkS T)))) (some (.dat (coD ls os))) (some (.dat (.lst (wdL bs)))) x6 x7 z) P) :
    w_law_askc 0 (stLw ns x1 (some (.dat (.str (mkS T)))) (some (.dat (coD ls os))) (some (.dat (.lst (wdL bs)))) x6 x7 z) P := by
  refine .inl (call_ (readc_c h hr) (Exists.intro _ (And.intro ceq_c (Br.ff rfl ?_))))
  refine And.intro (lenI (by omega)) (lcW_filter (xs := bs) (fun l => D.str (mkS l)) (fun _ => D.int 1) (fun _ => false) (fun l hl => ⟨_, rfl, fun R' h' => call_ (refc_c (hb l hl)) h', fun z => nomatch z⟩) ?_)
  rw [filt0]
  exact And.intro (szk 0) (And.intro rfl (And.intro rfl (Br.ne rfl rfl hP)))
theorem sets_c (ok : Ok z) (hP : ∀ S, Sh ns S → P.nx S) : w_law_sets 0 (stLw ns x1 x3 x4 x5 x6 x7 z) P := by
  obtain ⟨p, n, bs, z', ⟨o, h⟩, hb, hl, ok', hc⟩ := sets_ex ok
  exact call_ hc (asks_c h hb hl (hP _ ⟨_, _, _, _, _, _, _, _, rfl⟩))
theorem body_c {k : Nat} (hk : k < 100) {cs : List Cell} {x2 : Option Sl} (hP : ∀ S, Sh ns S → P.nx S) :
    wFgt [0, 1] 0 0 (w_law_body 0) ⟨[some (.dat (scD ns)), some (.dat (.int k)), x2, x3, x4, x5, x6, x7], cs⟩ P := by
  have o := feedB_ok ns k
  have f0 := feed_c (ns := ns) hk
  obtain ⟨T, ls, os, bs, z', hT, hr, hb, hl, ok', hc⟩ := counts_ex o
  exact And.intro (Nat.zero_le 0) (call_ f0 (call_ hc (askc_c hT hr hb hl (sets_c ok' hP))))
theorem lt_cc : ("- | -" : Str) = mkS [45, 32, 124, 32, 45] := mk_eq (by decide +kernel)
theorem lt_ss : ("1 | - | -" : Str) = mkS (szxT 1 [] []) := mk_eq (by decide +kernel)
theorem end_c {cs : List Cell} {x2 : Option Sl} : w_law_end 0 ⟨[some (.dat (scD ns)), x1, x2, x3, x4, x5, x6, x7], cs⟩ (endJ 0 (.dat (.bl true)) []) := by
  have r1 : c_read_count [.dat (.str "- | -")] [] (.dat (coD [] [])) [] := by
    rw [lt_cc]
    exact readc_c (okv_len (by decide) (by decide)) (by decide +kernel)
  have r2 : c_read_sizes [.dat (.str "1 | - | -")] [] (.dat (szD (leaQ 1 []) (szL 1 []) [])) [] := by
    rw [lt_ss]
    have q := rsz_c (l := szxT 1 [] []) (okv_len (by decide +kernel) (by decide +kernel)) (wrd_szx (p := 1) (by decide))
    rw [show rsO (szxT 1 [] []) = some (1, [], []) by decide +kernel] at q
    exact rdc_some q
  have i1 := init_c (ls := []) (os := []) ⟨by decide, by decide, trivial, trivial, (fun _ z => nomatch z), (fun _ z => nomatch z)⟩
  have i2 := szinit_c (n := 1) (cs := []) (os := []) ⟨by decide, by decide, .nil, (fun _ z => nomatch z), by decide, .nil, (fun _ z => nomatch z), by decide⟩
  refine .inl (call_ r1 (And.intro (szk 0) (And.intro rfl (And.intro rfl (.inl (make_ (ds := [.tup ([].map lD), .tup ([].map sD)]) i1 rfl ?_))))))
  refine Exists.intro _ (And.intro (ceq_c (ls := []) (os := [])) (Br.tt rfl ?_))
  refine .inl (call_ r2 (And.intro (szk 0) (And.intro rfl (And.intro rfl (.inl (make_ (ds := [nD (leaQ 1 []), .tup ((szL 1 []).map nD), .tup [], mkD (szL 1 []), mkD []]) i2 rfl ?_))))))
  exact Exists.intro _ (And.intro (seq_c (l := leaQ 1 []) (ds := szL 1 []) (os := [])) (And.intro rfl rfl))
theorem law_of (ns : List Int) (hl : ns.length ≤ 63) (hb : ∀ z ∈ ns, Builtin.Int.intBits z ≤ 1048576) : c_law [.dat (.scr (ns.map D.int))] [] (.dat (.bl true)) [] := by
  have e : ((ns.map D.int).length : Int) = ns.length := by rw [List.length_map]
  refine ⟨rfl, And.intro (show SmI (if (if 5 < ((ns.map D.int).length : Int) then 5 else ((ns.map D.int).length : Int)) > 2 then (if 5 < ((ns.map D.int).length : Int) then 5 else ((ns.map D.int).length : Int)) else 2) from ?_) ?_⟩
  · rw [e]
    unfold SmI
    split <;> split <;> omega
  refine forW_ind (Sh ns) _ ?_ ?_ _ ⟨_, _, _, _, _, _, _, _, rfl⟩
  · intro d hd S hS nx' hnx
    obtain ⟨x1, x2, x3, x4, x5, x6, x7, cs, rfl⟩ := hS
    obtain ⟨k, hk, rfl⟩ := mem_range hd
    have hk : k < 100 := by
      have hk : k < (if (if 5 < ((ns.map D.int).length : Int) then 5 else ((ns.map D.int).length : Int)) > 2 then (if 5 < ((ns.map D.int).length : Int) then 5 else ((ns.map D.int).length : Int)) else 2).toNat := hk
      rw [e] at hk
      split at hk <;> split at hk <;> omega
    rw [Int.zero_add]
    exact body_c hk hnx
  · rintro S ⟨x1, x2, x3, x4, x5, x6, x7, cs, rfl⟩
    exact end_c
end

def pp_c_Count : Pa := gP "Count"
def pp_c_Sizes : Pa := gP "Sizes"
def pp_c_ClashError : Pa := gP "ClashError"
def pp_c_InvalidCount : Pa := gP "InvalidCount"
def pp_c_InvalidSizes : Pa := gP "InvalidSizes"
def pp_c_InvalidText : Pa := gP "InvalidText"
def pp_a__law_box : Pa := gP "_law_box"
def pp_a_InvalidSizes___init__ : Pa := mP (pp_c_InvalidSizes) "__init__"
def pp_a_prime_powers : Pa := gP "prime_powers"
def pp_a_is_needless : Pa := gP "is_needless"
def pp_a_shortest : Pa := gP "shortest"
def pp_a_is_integer : Pa := gP "is_integer"
def pp_a_are_sizes : Pa := gP "are_sizes"
def pp_a_Sizes___init__ : Pa := mP (pp_c_Sizes) "__init__"
def pp_dz_Sizes___init__ : Pa := dfP (pp_a_Sizes___init__) 0
def pp_a_InvalidCount___init__ : Pa := mP (pp_c_InvalidCount) "__init__"
def pp_a_ascend : Pa := gP "ascend"
def pp_a_are_pairs : Pa := gP "are_pairs"
def pp_a_are_integers : Pa := gP "are_integers"
def pp_a_are_parts : Pa := gP "are_parts"
def pp_a_are_odd : Pa := gP "are_odd"
def pp_a_cut : Pa := gP "cut"
def pp_a_worth : Pa := gP "worth"
def pp_a_plain_value : Pa := gP "plain_value"
def pp_a_Count___init__ : Pa := mP (pp_c_Count) "__init__"
def pp_dz_Count___init__ : Pa := dfP (pp_a_Count___init__) 0
def pp_a__law_take : Pa := gP "_law_take"
def pp_a__law_number : Pa := gP "_law_number"
def pp_a__law_counts : Pa := gP "_law_counts"
def pp_a__law_sets : Pa := gP "_law_sets"
def pp_a_InvalidText___init__ : Pa := mP (pp_c_InvalidText) "__init__"
def pp_p_Count_parts : Pa := mP (pp_c_Count) "parts"
def pp_a_Count_parts : Pa := rP (pp_p_Count_parts) "property"
def pp_p_Count_odd : Pa := mP (pp_c_Count) "odd"
def pp_a_Count_odd : Pa := rP (pp_p_Count_odd) "property"
def pp_p_Sizes_odd : Pa := mP (pp_c_Sizes) "odd"
def pp_a_Sizes_odd : Pa := rP (pp_p_Sizes_odd) "property"
def pp_a_listed : Pa := gP "listed"
def pp_a_figures : Pa := gP "figures"
def pp_a_spaced : Pa := gP "spaced"
def pp_a_show_count : Pa := gP "show_count"
def pp_a_number_told : Pa := gP "number_told"
def pp_a_integer_of : Pa := gP "integer_of"
def pp_a_integers_of : Pa := gP "integers_of"
def pp_a_pair_of : Pa := gP "pair_of"
def pp_a_pairs_of : Pa := gP "pairs_of"
def pp_a_odd_of : Pa := gP "odd_of"
def pp_a_read_count : Pa := gP "read_count"
def pp_p_Sizes_period : Pa := mP (pp_c_Sizes) "period"
def pp_a_Sizes_period : Pa := rP (pp_p_Sizes_period) "property"
def pp_p_Sizes_classes : Pa := mP (pp_c_Sizes) "classes"
def pp_a_Sizes_classes : Pa := rP (pp_p_Sizes_classes) "property"
def pp_a_show_sizes : Pa := gP "show_sizes"
def pp_a_read_sizes : Pa := gP "read_sizes"
def pp_a__law_refused : Pa := gP "_law_refused"
def pp_a_Count___eq__ : Pa := mP (pp_c_Count) "__eq__"
def pp_a_Sizes_told : Pa := mP (pp_c_Sizes) "told"
def pp_a_Sizes___eq__ : Pa := mP (pp_c_Sizes) "__eq__"
def pp_a_law : Pa := gP "law"
def dd__law_box : DefX := ⟨pp_a__law_box, "_law_box", "_law_box", defArgs s__law_box, defBody s__law_box, defScope s__law_box, [], []⟩
def dd_InvalidSizes___init__ : DefX := ⟨pp_a_InvalidSizes___init__, "__init__", "InvalidSizes.__init__", defArgs s_InvalidSizes___init__, defBody s_InvalidSizes___init__, defScope s_InvalidSizes___init__, [], []⟩
def dd_prime_powers : DefX := ⟨pp_a_prime_powers, "prime_powers", "prime_powers", defArgs s_prime_powers, defBody s_prime_powers, defScope s_prime_powers, [], []⟩
def dd_is_needless : DefX := ⟨pp_a_is_needless, "is_needless", "is_needless", defArgs s_is_needless, defBody s_is_needless, defScope s_is_needless, [], []⟩
def dd_shortest : DefX := ⟨pp_a_shortest, "shortest", "shortest", defArgs s_shortest, defBody s_shortest, defScope s_shortest, [], []⟩
def dd_is_integer : DefX := ⟨pp_a_is_integer, "is_integer", "is_integer", defArgs s_is_integer, defBody s_is_integer, defScope s_is_integer, [], []⟩
def dd_are_sizes : DefX := ⟨pp_a_are_sizes, "are_sizes", "are_sizes", defArgs s_are_sizes, defBody s_are_sizes, defScope s_are_sizes, [], []⟩
def dd_Sizes___init__ : DefX := ⟨pp_a_Sizes___init__, "__init__", "Sizes.__init__", defArgs s_Sizes___init__, defBody s_Sizes___init__, defScope s_Sizes___init__, [.adr pp_dz_Sizes___init__], []⟩
def dd_InvalidCount___init__ : DefX := ⟨pp_a_InvalidCount___init__, "__init__", "InvalidCount.__init__", defArgs s_InvalidCount___init__, defBody s_InvalidCount___init__, defScope s_InvalidCount___init__, [], []⟩
def dd_ascend : DefX := ⟨pp_a_ascend, "ascend", "ascend", defArgs s_ascend, defBody s_ascend, defScope s_ascend, [], []⟩
def dd_are_pairs : DefX := ⟨pp_a_are_pairs, "are_pairs", "are_pairs", defArgs s_are_pairs, defBody s_are_pairs, defScope s_are_pairs, [], []⟩
def dd_are_integers : DefX := ⟨pp_a_are_integers, "are_integers", "are_integers", defArgs s_are_integers, defBody s_are_integers, defScope s_are_integers, [], []⟩
def dd_are_parts : DefX := ⟨pp_a_are_parts, "are_parts", "are_parts", defArgs s_are_parts, defBody s_are_parts, defScope s_are_parts, [], []⟩
def dd_are_odd : DefX := ⟨pp_a_are_odd, "are_odd", "are_odd", defArgs s_are_odd, defBody s_are_odd, defScope s_are_odd, [], []⟩
def dd_cut : DefX := ⟨pp_a_cut, "cut", "cut", defArgs s_cut, defBody s_cut, defScope s_cut, [], []⟩
def dd_worth : DefX := ⟨pp_a_worth, "worth", "worth", defArgs s_worth, defBody s_worth, defScope s_worth, [], []⟩
def dd_plain_value : DefX := ⟨pp_a_plain_value, "plain_value", "plain_value", defArgs s_plain_value, defBody s_plain_value, defScope s_plain_value, [], []⟩
def dd_Count___init__ : DefX := ⟨pp_a_Count___init__, "__init__", "Count.__init__", defArgs s_Count___init__, defBody s_Count___init__, defScope s_Count___init__, [.adr pp_dz_Count___init__], []⟩
def dd__law_take : DefX := ⟨pp_a__law_take, "_law_take", "_law_take", defArgs s__law_take, defBody s__law_take, defScope s__law_take, [], []⟩
def dd__law_number : DefX := ⟨pp_a__law_number, "_law_number", "_law_number", defArgs s__law_number, defBody s__law_number, defScope s__law_number, [], []⟩
def dd__law_counts : DefX := ⟨pp_a__law_counts, "_law_counts", "_law_counts", defArgs s__law_counts, defBody s__law_counts, defScope s__law_counts, [], []⟩
def dd__law_sets : DefX := ⟨pp_a__law_sets, "_law_sets", "_law_sets", defArgs s__law_sets, defBody s__law_sets, defScope s__law_sets, [], []⟩
def dd_InvalidText___init__ : DefX := ⟨pp_a_InvalidText___init__, "__init__", "InvalidText.__init__", defArgs s_InvalidText___init__, defBody s_InvalidText___init__, defScope s_InvalidText___init__, [], []⟩
def dd_Count_parts : DefX := ⟨pp_a_Count_parts, "parts", "Count.parts", defArgs s_Count_parts, defBody s_Count_parts, defScope s_Count_parts, [], []⟩
def dd_Count_odd : DefX := ⟨pp_a_Count_odd, "odd", "Count.odd", defArgs s_Count_odd, defBody s_Count_odd, defScope s_Count_odd, [], []⟩
def dd_Sizes_odd : DefX := ⟨pp_a_Sizes_odd, "odd", "Sizes.odd", defArgs s_Sizes_odd, defBody s_Sizes_odd, defScope s_Sizes_odd, [], []⟩
def dd_listed : DefX := ⟨pp_a_listed, "listed", "listed", defArgs s_listed, defBody s_listed, defScope s_listed, [], []⟩
def dd_figures : DefX := ⟨pp_a_figures, "figures", "figures", defArgs s_figures, defBody s_figures, defScope s_figures, [], []⟩
def dd_spaced : DefX := ⟨pp_a_spaced, "spaced", "spaced", defArgs s_spaced, defBody s_spaced, defScope s_spaced, [], []⟩
def dd_show_count : DefX := ⟨pp_a_show_count, "show_count", "show_count", defArgs s_show_count, defBody s_show_count, defScope s_show_count, [], []⟩
def dd_number_told : DefX := ⟨pp_a_number_told, "number_told", "number_told", defArgs s_number_told, defBody s_number_told, defScope s_number_told, [], []⟩
def dd_integer_of : DefX := ⟨pp_a_integer_of, "integer_of", "integer_of", defArgs s_integer_of, defBody s_integer_of, defScope s_integer_of, [], []⟩
def dd_integers_of : DefX := ⟨pp_a_integers_of, "integers_of", "integers_of", defArgs s_integers_of, defBody s_integers_of, defScope s_integers_of, [], []⟩
def dd_pair_of : DefX := ⟨pp_a_pair_of, "pair_of", "pair_of", defArgs s_pair_of, defBody s_pair_of, defScope s_pair_of, [], []⟩
def dd_pairs_of : DefX := ⟨pp_a_pairs_of, "pairs_of", "pairs_of", defArgs s_pairs_of, defBody s_pairs_of, defScope s_pairs_of, [], []⟩
def dd_odd_of : DefX := ⟨pp_a_odd_of, "odd_of", "odd_of", defArgs s_odd_of, defBody s_odd_of, defScope s_odd_of, [], []⟩
def dd_read_count : DefX := ⟨pp_a_read_count, "read_count", "read_count", defArgs s_read_count, defBody s_read_count, defScope s_read_count, [], []⟩
def dd_Sizes_period : DefX := ⟨pp_a_Sizes_period, "period", "Sizes.period", defArgs s_Sizes_period, defBody s_Sizes_period, defScope s_Sizes_period, [], []⟩
def dd_Sizes_classes : DefX := ⟨pp_a_Sizes_classes, "classes", "Sizes.classes", defArgs s_Sizes_classes, defBody s_Sizes_classes, defScope s_Sizes_classes, [], []⟩
def dd_show_sizes : DefX := ⟨pp_a_show_sizes, "show_sizes", "show_sizes", defArgs s_show_sizes, defBody s_show_sizes, defScope s_show_sizes, [], []⟩
def dd_read_sizes : DefX := ⟨pp_a_read_sizes, "read_sizes", "read_sizes", defArgs s_read_sizes, defBody s_read_sizes, defScope s_read_sizes, [], []⟩
def dd__law_refused : DefX := ⟨pp_a__law_refused, "_law_refused", "_law_refused", defArgs s__law_refused, defBody s__law_refused, defScope s__law_refused, [], []⟩
def dd_Count___eq__ : DefX := ⟨pp_a_Count___eq__, "__eq__", "Count.__eq__", defArgs s_Count___eq__, defBody s_Count___eq__, defScope s_Count___eq__, [], []⟩
def dd_Sizes_told : DefX := ⟨pp_a_Sizes_told, "told", "Sizes.told", defArgs s_Sizes_told, defBody s_Sizes_told, defScope s_Sizes_told, [], []⟩
def dd_Sizes___eq__ : DefX := ⟨pp_a_Sizes___eq__, "__eq__", "Sizes.__eq__", defArgs s_Sizes___eq__, defBody s_Sizes___eq__, defScope s_Sizes___eq__, [], []⟩
def dd_law : DefX := ⟨pp_a_law, "law", "law", defArgs s_law, defBody s_law, defScope s_law, [], []⟩
def fnl : List DefX := ([dd__law_box, dd_InvalidSizes___init__, dd_prime_powers, dd_is_needless, dd_shortest, dd_is_integer, dd_are_sizes, dd_Sizes___init__, dd_InvalidCount___init__, dd_ascend, dd_are_pairs, dd_are_integers, dd_are_parts, dd_are_odd, dd_cut, dd_worth, dd_plain_value, dd_Count___init__, dd__law_take, dd__law_number, dd__law_counts, dd__law_sets, dd_InvalidText___init__, dd_Count_parts, dd_Count_odd] : List DefX) ++ ([dd_Sizes_odd, dd_listed, dd_figures, dd_spaced, dd_show_count, dd_number_told, dd_integer_of, dd_integers_of, dd_pair_of, dd_pairs_of, dd_odd_of, dd_read_count, dd_Sizes_period, dd_Sizes_classes, dd_show_sizes, dd_read_sizes, dd__law_refused, dd_Count___eq__, dd_Sizes_told, dd_Sizes___eq__, dd_law] : List DefX)
def fc_0 : List Pc := [
  ⟨fun K => PySem.W.nsIn K mainGlobals "Count" = some (some (.ref (pp_c_Count K))), fun K => inferInstance⟩,
  ⟨fun K => PySem.W.plainGet K (pp_c_Count K) Str.empty = true, fun K => inferInstance⟩,
  ⟨fun K => PySem.W.hasDictIn K (pp_c_Count K) = true, fun K => inferInstance⟩,
  ⟨fun K => PySem.W.plainOver K (pp_c_Count K) = true, fun K => inferInstance⟩,
  ⟨fun K => PySem.W.findIn K (.ref (pp_c_Count K)) "__setattr__" = some (some (.builtin "object.__setattr__")), fun K => inferInstance⟩,
  ⟨fun K => PySem.W.findIn K (.ref (pp_c_Count K)) "__class__" = some (some (.builtin "object.__class__")), fun K => inferInstance⟩,
  ⟨fun K => PySem.W.specialIn K (.builtin "object.__class__") "__get__" = some (some (.builtin "getset_descriptor.__get__")), fun K => inferInstance⟩,
  ⟨fun K => PySem.W.takesIn K (.builtin "object.__class__") = some true, fun K => inferInstance⟩,
  ⟨fun K => PySem.W.mroIn K (pp_c_Count K) (.type "object") = some true, fun K => inferInstance⟩,
  ⟨fun K => PySem.W.makesIn K (pp_c_Count K) = true, fun K => inferInstance⟩,
  ⟨fun K => PySem.W.keepIn K (.ref (pp_c_Count K)) = true, fun K => inferInstance⟩,
  ⟨fun K => PySem.W.findIn K (.ref (pp_c_Count K)) "short_parts" = some none, fun K => inferInstance⟩,
  ⟨fun K => PySem.W.findIn K (.ref (pp_c_Count K)) "short_odd" = some none, fun K => inferInstance⟩,
  ⟨fun K => PySem.W.nsIn K mainGlobals "Sizes" = some (some (.ref (pp_c_Sizes K))), fun K => inferInstance⟩,
  ⟨fun K => PySem.W.plainGet K (pp_c_Sizes K) Str.empty = true, fun K => inferInstance⟩,
  ⟨fun K => PySem.W.hasDictIn K (pp_c_Sizes K) = true, fun K => inferInstance⟩,
  ⟨fun K => PySem.W.plainOver K (pp_c_Sizes K) = true, fun K => inferInstance⟩,
  ⟨fun K => PySem.W.findIn K (.ref (pp_c_Sizes K)) "__setattr__" = some (some (.builtin "object.__setattr__")), fun K => inferInstance⟩,
  ⟨fun K => PySem.W.findIn K (.ref (pp_c_Sizes K)) "__class__" = some (some (.builtin "object.__class__")), fun K => inferInstance⟩,
  ⟨fun K => PySem.W.specialIn K (.builtin "object.__class__") "__get__" = some (some (.builtin "getset_descriptor.__get__")), fun K => inferInstance⟩,
  ⟨fun K => PySem.W.takesIn K (.builtin "object.__class__") = some true, fun K => inferInstance⟩,
  ⟨fun K => PySem.W.mroIn K (pp_c_Sizes K) (.type "object") = some true, fun K => inferInstance⟩,
  ⟨fun K => PySem.W.makesIn K (pp_c_Sizes K) = true, fun K => inferInstance⟩,
  ⟨fun K => PySem.W.keepIn K (.ref (pp_c_Sizes K)) = true, fun K => inferInstance⟩,
  ⟨fun K => PySem.W.findIn K (.ref (pp_c_Sizes K)) "short_period" = some none, fun K => inferInstance⟩]
def fc_1 : List Pc := [
  ⟨fun K => PySem.W.findIn K (.ref (pp_c_Sizes K)) "short_classes" = some none, fun K => inferInstance⟩,
  ⟨fun K => PySem.W.findIn K (.ref (pp_c_Sizes K)) "short_odd" = some none, fun K => inferInstance⟩,
  ⟨fun K => PySem.W.findIn K (.ref (pp_c_Sizes K)) "class_marks" = some none, fun K => inferInstance⟩,
  ⟨fun K => PySem.W.findIn K (.ref (pp_c_Sizes K)) "odd_marks" = some none, fun K => inferInstance⟩,
  ⟨fun K => ∃ t, PySem.W.nsIn K mainGlobals "MOST_COEFFICIENTS" = some (some (.int 4 t)), fun K => inferInstance⟩,
  ⟨fun K => ∃ t, PySem.W.nsIn K mainGlobals "FIGURES" = some (some (.str "0123456789" t)), fun K => inferInstance⟩,
  ⟨fun K => PySem.W.nsIn K mainGlobals "ClashError" = some (some (.ref (pp_c_ClashError K))), fun K => inferInstance⟩,
  ⟨fun K => CIn K (pp_c_ClashError K), fun K => inferInstance⟩,
  ⟨fun K => PySem.W.subIn K (.ref (pp_c_ClashError K)) (.type "BaseException") = some true, fun K => inferInstance⟩,
  ⟨fun K => PySem.W.hasDictIn K (pp_c_ClashError K) = true, fun K => inferInstance⟩,
  ⟨fun K => PySem.W.nsIn K mainGlobals "InvalidCount" = some (some (.ref (pp_c_InvalidCount K))), fun K => inferInstance⟩,
  ⟨fun K => OexC K (pp_c_InvalidCount K), fun K => inferInstance⟩,
  ⟨fun K => ExcC K (pp_c_InvalidCount K), fun K => inferInstance⟩,
  ⟨fun K => XfC K (pp_c_InvalidCount K), fun K => inferInstance⟩,
  ⟨fun K => PySem.W.findIn K (.ref (pp_c_InvalidCount K)) "word" = some none, fun K => inferInstance⟩,
  ⟨fun K => PySem.W.nsIn K mainGlobals "InvalidSizes" = some (some (.ref (pp_c_InvalidSizes K))), fun K => inferInstance⟩,
  ⟨fun K => OexC K (pp_c_InvalidSizes K), fun K => inferInstance⟩,
  ⟨fun K => ExcC K (pp_c_InvalidSizes K), fun K => inferInstance⟩,
  ⟨fun K => XfC K (pp_c_InvalidSizes K), fun K => inferInstance⟩,
  ⟨fun K => PySem.W.findIn K (.ref (pp_c_InvalidSizes K)) "word" = some none, fun K => inferInstance⟩,
  ⟨fun K => PySem.W.nsIn K mainGlobals "InvalidText" = some (some (.ref (pp_c_InvalidText K))), fun K => inferInstance⟩,
  ⟨fun K => OexC K (pp_c_InvalidText K), fun K => inferInstance⟩,
  ⟨fun K => ExcC K (pp_c_InvalidText K), fun K => inferInstance⟩,
  ⟨fun K => XfC K (pp_c_InvalidText K), fun K => inferInstance⟩,
  ⟨fun K => PySem.W.findIn K (.ref (pp_c_InvalidText K)) "line" = some none, fun K => inferInstance⟩]
def fc_2 : List Pc := [
  ⟨fun K => PySem.W.nsIn K mainGlobals "abs" = some none, fun K => inferInstance⟩,
  ⟨fun K => PySem.W.nsIn K mainGlobals "all" = some none, fun K => inferInstance⟩,
  ⟨fun K => PySem.W.nsIn K mainGlobals "any" = some none, fun K => inferInstance⟩,
  ⟨fun K => PySem.W.nsIn K mainGlobals "bool" = some none, fun K => inferInstance⟩,
  ⟨fun K => PySem.W.nsIn K mainGlobals "int" = some none, fun K => inferInstance⟩,
  ⟨fun K => PySem.W.nsIn K mainGlobals "isinstance" = some none, fun K => inferInstance⟩,
  ⟨fun K => PySem.W.nsIn K mainGlobals "len" = some none, fun K => inferInstance⟩,
  ⟨fun K => PySem.W.nsIn K mainGlobals "max" = some none, fun K => inferInstance⟩,
  ⟨fun K => PySem.W.nsIn K mainGlobals "min" = some none, fun K => inferInstance⟩,
  ⟨fun K => PySem.W.nsIn K mainGlobals "range" = some none, fun K => inferInstance⟩,
  ⟨fun K => PySem.W.nsIn K mainGlobals "str" = some none, fun K => inferInstance⟩,
  ⟨fun K => PySem.W.nsIn K mainGlobals "sum" = some none, fun K => inferInstance⟩,
  ⟨fun K => PySem.W.nsIn K mainGlobals "tuple" = some none, fun K => inferInstance⟩,
  ⟨fun K => PySem.W.nsIn K mainGlobals "zip" = some none, fun K => inferInstance⟩,
  ⟨fun K => PySem.W.nsIn K mainGlobals "_law_box" = some (some (.ref (pp_a__law_box K))), fun K => inferInstance⟩,
  ⟨fun K => PySem.W.findIn K (.ref (pp_c_InvalidSizes K)) "__init__" = some (some (.ref (pp_a_InvalidSizes___init__ K))), fun K => inferInstance⟩,
  ⟨fun K => PySem.W.typeIn K (.ref (pp_a_InvalidSizes___init__ K)) = some (.type "function"), fun K => inferInstance⟩,
  ⟨fun K => PySem.W.nsIn K mainGlobals "prime_powers" = some (some (.ref (pp_a_prime_powers K))), fun K => inferInstance⟩,
  ⟨fun K => PySem.W.nsIn K mainGlobals "is_needless" = some (some (.ref (pp_a_is_needless K))), fun K => inferInstance⟩,
  ⟨fun K => PySem.W.nsIn K mainGlobals "shortest" = some (some (.ref (pp_a_shortest K))), fun K => inferInstance⟩,
  ⟨fun K => PySem.W.nsIn K mainGlobals "is_integer" = some (some (.ref (pp_a_is_integer K))), fun K => inferInstance⟩,
  ⟨fun K => PySem.W.nsIn K mainGlobals "are_sizes" = some (some (.ref (pp_a_are_sizes K))), fun K => inferInstance⟩,
  ⟨fun K => PySem.W.findIn K (.ref (pp_c_Sizes K)) "__init__" = some (some (.ref (pp_a_Sizes___init__ K))), fun K => inferInstance⟩,
  ⟨fun K => PySem.W.isFn K (.ref (pp_a_Sizes___init__ K)) = true, fun K => inferInstance⟩,
  ⟨fun K => SqT K (fun _ => none) (pp_dz_Sizes___init__ K) [], fun K => inferInstance⟩]
def fc_3 : List Pc := [
  ⟨fun K => PySem.W.findIn K (.ref (pp_c_InvalidCount K)) "__init__" = some (some (.ref (pp_a_InvalidCount___init__ K))), fun K => inferInstance⟩,
  ⟨fun K => PySem.W.typeIn K (.ref (pp_a_InvalidCount___init__ K)) = some (.type "function"), fun K => inferInstance⟩,
  ⟨fun K => PySem.W.nsIn K mainGlobals "ascend" = some (some (.ref (pp_a_ascend K))), fun K => inferInstance⟩,
  ⟨fun K => PySem.W.nsIn K mainGlobals "are_pairs" = some (some (.ref (pp_a_are_pairs K))), fun K => inferInstance⟩,
  ⟨fun K => PySem.W.nsIn K mainGlobals "are_integers" = some (some (.ref (pp_a_are_integers K))), fun K => inferInstance⟩,
  ⟨fun K => PySem.W.nsIn K mainGlobals "are_parts" = some (some (.ref (pp_a_are_parts K))), fun K => inferInstance⟩,
  ⟨fun K => PySem.W.nsIn K mainGlobals "are_odd" = some (some (.ref (pp_a_are_odd K))), fun K => inferInstance⟩,
  ⟨fun K => PySem.W.nsIn K mainGlobals "cut" = some (some (.ref (pp_a_cut K))), fun K => inferInstance⟩,
  ⟨fun K => PySem.W.nsIn K mainGlobals "worth" = some (some (.ref (pp_a_worth K))), fun K => inferInstance⟩,
  ⟨fun K => PySem.W.nsIn K mainGlobals "plain_value" = some (some (.ref (pp_a_plain_value K))), fun K => inferInstance⟩,
  ⟨fun K => PySem.W.findIn K (.ref (pp_c_Count K)) "__init__" = some (some (.ref (pp_a_Count___init__ K))), fun K => inferInstance⟩,
  ⟨fun K => PySem.W.isFn K (.ref (pp_a_Count___init__ K)) = true, fun K => inferInstance⟩,
  ⟨fun K => SqT K (fun _ => none) (pp_dz_Count___init__ K) [], fun K => inferInstance⟩,
  ⟨fun K => PySem.W.nsIn K mainGlobals "_law_take" = some (some (.ref (pp_a__law_take K))), fun K => inferInstance⟩,
  ⟨fun K => PySem.W.nsIn K mainGlobals "_law_number" = some (some (.ref (pp_a__law_number K))), fun K => inferInstance⟩,
  ⟨fun K => PySem.W.nsIn K mainGlobals "_law_counts" = some (some (.ref (pp_a__law_counts K))), fun K => inferInstance⟩,
  ⟨fun K => PySem.W.nsIn K mainGlobals "_law_sets" = some (some (.ref (pp_a__law_sets K))), fun K => inferInstance⟩,
  ⟨fun K => PySem.W.findIn K (.ref (pp_c_InvalidText K)) "__init__" = some (some (.ref (pp_a_InvalidText___init__ K))), fun K => inferInstance⟩,
  ⟨fun K => PySem.W.typeIn K (.ref (pp_a_InvalidText___init__ K)) = some (.type "function"), fun K => inferInstance⟩,
  ⟨fun K => PropOf K (pp_c_Count K) "parts" (pp_p_Count_parts K) (pp_a_Count_parts K), fun K => inferInstance⟩,
  ⟨fun K => PropOf K (pp_c_Count K) "odd" (pp_p_Count_odd K) (pp_a_Count_odd K), fun K => inferInstance⟩,
  ⟨fun K => PropOf K (pp_c_Sizes K) "odd" (pp_p_Sizes_odd K) (pp_a_Sizes_odd K), fun K => inferInstance⟩,
  ⟨fun K => PySem.W.nsIn K mainGlobals "listed" = some (some (.ref (pp_a_listed K))), fun K => inferInstance⟩,
  ⟨fun K => PySem.W.nsIn K mainGlobals "figures" = some (some (.ref (pp_a_figures K))), fun K => inferInstance⟩,
  ⟨fun K => PySem.W.nsIn K mainGlobals "spaced" = some (some (.ref (pp_a_spaced K))), fun K => inferInstance⟩]
def fc_4 : List Pc := [
  ⟨fun K => PySem.W.nsIn K mainGlobals "show_count" = some (some (.ref (pp_a_show_count K))), fun K => inferInstance⟩,
  ⟨fun K => PySem.W.nsIn K mainGlobals "number_told" = some (some (.ref (pp_a_number_told K))), fun K => inferInstance⟩,
  ⟨fun K => PySem.W.nsIn K mainGlobals "integer_of" = some (some (.ref (pp_a_integer_of K))), fun K => inferInstance⟩,
  ⟨fun K => PySem.W.nsIn K mainGlobals "integers_of" = some (some (.ref (pp_a_integers_of K))), fun K => inferInstance⟩,
  ⟨fun K => PySem.W.nsIn K mainGlobals "pair_of" = some (some (.ref (pp_a_pair_of K))), fun K => inferInstance⟩,
  ⟨fun K => PySem.W.nsIn K mainGlobals "pairs_of" = some (some (.ref (pp_a_pairs_of K))), fun K => inferInstance⟩,
  ⟨fun K => PySem.W.nsIn K mainGlobals "odd_of" = some (some (.ref (pp_a_odd_of K))), fun K => inferInstance⟩,
  ⟨fun K => PySem.W.nsIn K mainGlobals "read_count" = some (some (.ref (pp_a_read_count K))), fun K => inferInstance⟩,
  ⟨fun K => PropOf K (pp_c_Sizes K) "period" (pp_p_Sizes_period K) (pp_a_Sizes_period K), fun K => inferInstance⟩,
  ⟨fun K => PropOf K (pp_c_Sizes K) "classes" (pp_p_Sizes_classes K) (pp_a_Sizes_classes K), fun K => inferInstance⟩,
  ⟨fun K => PySem.W.nsIn K mainGlobals "show_sizes" = some (some (.ref (pp_a_show_sizes K))), fun K => inferInstance⟩,
  ⟨fun K => PySem.W.nsIn K mainGlobals "read_sizes" = some (some (.ref (pp_a_read_sizes K))), fun K => inferInstance⟩,
  ⟨fun K => PySem.W.nsIn K mainGlobals "_law_refused" = some (some (.ref (pp_a__law_refused K))), fun K => inferInstance⟩,
  ⟨fun K => PySem.W.findIn K (.ref (pp_c_Count K)) "__eq__" = some (some (.ref (pp_a_Count___eq__ K))), fun K => inferInstance⟩,
  ⟨fun K => PySem.W.isFn K (.ref (pp_a_Count___eq__ K)) = true, fun K => inferInstance⟩,
  ⟨fun K => PySem.W.findIn K (.ref (pp_c_Sizes K)) "told" = some (some (.ref (pp_a_Sizes_told K))), fun K => inferInstance⟩,
  ⟨fun K => PySem.W.isFn K (.ref (pp_a_Sizes_told K)) = true, fun K => inferInstance⟩,
  ⟨fun K => PySem.W.findIn K (.ref (pp_c_Sizes K)) "__eq__" = some (some (.ref (pp_a_Sizes___eq__ K))), fun K => inferInstance⟩,
  ⟨fun K => PySem.W.isFn K (.ref (pp_a_Sizes___eq__ K)) = true, fun K => inferInstance⟩,
  ⟨fun K => PySem.W.nsIn K mainGlobals "law" = some (some (.ref (pp_a_law K))), fun K => inferInstance⟩,
  ⟨fun K => PySem.W.kitOne K (.type "int") (.ref (pp_c_Count K)) = some false, fun K => inferInstance⟩,
  ⟨fun K => PySem.W.kitOne K (.type "bool") (.ref (pp_c_Count K)) = some false, fun K => inferInstance⟩,
  ⟨fun K => PySem.W.kitOne K (.type "str") (.ref (pp_c_Count K)) = some false, fun K => inferInstance⟩,
  ⟨fun K => PySem.W.kitOne K (.type "tuple") (.ref (pp_c_Count K)) = some false, fun K => inferInstance⟩,
  ⟨fun K => PySem.W.kitOne K (.type "list") (.ref (pp_c_Count K)) = some false, fun K => inferInstance⟩]
def fc_5 : List Pc := [
  ⟨fun K => PySem.W.kitOne K (.type "NoneType") (.ref (pp_c_Count K)) = some false, fun K => inferInstance⟩,
  ⟨fun K => PySem.W.kitOne K (.ref (pp_c_Sizes K)) (.ref (pp_c_Count K)) = some false, fun K => inferInstance⟩,
  ⟨fun K => PySem.W.kitOne K (.type "int") (.ref (pp_c_Sizes K)) = some false, fun K => inferInstance⟩,
  ⟨fun K => PySem.W.kitOne K (.type "bool") (.ref (pp_c_Sizes K)) = some false, fun K => inferInstance⟩,
  ⟨fun K => PySem.W.kitOne K (.type "str") (.ref (pp_c_Sizes K)) = some false, fun K => inferInstance⟩,
  ⟨fun K => PySem.W.kitOne K (.type "tuple") (.ref (pp_c_Sizes K)) = some false, fun K => inferInstance⟩,
  ⟨fun K => PySem.W.kitOne K (.type "list") (.ref (pp_c_Sizes K)) = some false, fun K => inferInstance⟩,
  ⟨fun K => PySem.W.kitOne K (.type "NoneType") (.ref (pp_c_Sizes K)) = some false, fun K => inferInstance⟩,
  ⟨fun K => PySem.W.kitOne K (.ref (pp_c_Count K)) (.ref (pp_c_Sizes K)) = some false, fun K => inferInstance⟩,
  ⟨fun K => PySem.W.subIn K (.ref (pp_c_Count K)) (.type "bool") = some false, fun K => inferInstance⟩,
  ⟨fun K => PySem.W.subIn K (.ref (pp_c_Sizes K)) (.type "bool") = some false, fun K => inferInstance⟩,
  ⟨fun K => PySem.W.subIn K (.ref (pp_c_Count K)) (.type "int") = some false, fun K => inferInstance⟩,
  ⟨fun K => PySem.W.subIn K (.ref (pp_c_Sizes K)) (.type "int") = some false, fun K => inferInstance⟩,
  ⟨fun K => PySem.W.subIn K (.ref (pp_c_Count K)) (.type "tuple") = some false, fun K => inferInstance⟩,
  ⟨fun K => PySem.W.subIn K (.ref (pp_c_Sizes K)) (.type "tuple") = some false, fun K => inferInstance⟩,
  ⟨fun K => PySem.W.exmOne K (.ref (pp_c_InvalidCount K)) (.ref (pp_c_InvalidCount K)) = some true, fun K => inferInstance⟩,
  ⟨fun K => PySem.W.exmOne K (.ref (pp_c_InvalidSizes K)) (.ref (pp_c_InvalidCount K)) = some false, fun K => inferInstance⟩,
  ⟨fun K => PySem.W.exmOne K (.ref (pp_c_InvalidText K)) (.ref (pp_c_InvalidCount K)) = some false, fun K => inferInstance⟩,
  ⟨fun K => PySem.W.exmOne K (.ref (pp_c_InvalidCount K)) (.ref (pp_c_InvalidSizes K)) = some false, fun K => inferInstance⟩,
  ⟨fun K => PySem.W.exmOne K (.ref (pp_c_InvalidSizes K)) (.ref (pp_c_InvalidSizes K)) = some true, fun K => inferInstance⟩,
  ⟨fun K => PySem.W.exmOne K (.ref (pp_c_InvalidText K)) (.ref (pp_c_InvalidSizes K)) = some false, fun K => inferInstance⟩,
  ⟨fun K => PySem.W.exmOne K (.ref (pp_c_InvalidCount K)) (.ref (pp_c_InvalidText K)) = some false, fun K => inferInstance⟩,
  ⟨fun K => PySem.W.exmOne K (.ref (pp_c_InvalidSizes K)) (.ref (pp_c_InvalidText K)) = some false, fun K => inferInstance⟩,
  ⟨fun K => PySem.W.exmOne K (.ref (pp_c_InvalidText K)) (.ref (pp_c_InvalidText K)) = some true, fun K => inferInstance⟩,
  ⟨fun K => PySem.W.findIn K (.ref (pp_c_InvalidCount K)) "line" = some none, fun K => inferInstance⟩]
def fc_6 : List Pc := [
  ⟨fun K => PySem.W.findIn K (.ref (pp_c_InvalidSizes K)) "line" = some none, fun K => inferInstance⟩,
  ⟨fun K => PySem.W.findIn K (.ref (pp_c_InvalidText K)) "word" = some none, fun K => inferInstance⟩,
  ⟨fun K => NeC K (pp_c_Count K), fun K => inferInstance⟩,
  ⟨fun K => NeC K (pp_c_Sizes K), fun K => inferInstance⟩]
def fcl : List Pc := fc_0 ++ fc_1 ++ fc_2 ++ fc_3 ++ fc_4 ++ fc_5 ++ fc_6
def tab (c_Count : Addr) (c_Sizes : Addr) (c_InvalidCount : Addr) (c_InvalidSizes : Addr) (c_InvalidText : Addr) : Tab := fun n => match n with | 0 => some (c_Count, (["short_parts", "short_odd"] : List Str)) | 1 => some (c_Sizes, (["short_period", "short_classes", "short_odd", "class_marks", "odd_marks"] : List Str)) | 2 => some (c_InvalidCount, (["word"] : List Str)) | 3 => some (c_InvalidSizes, (["word"] : List Str)) | 4 => some (c_InvalidText, (["line"] : List Str)) | _ => none
set_option maxHeartbeats 0 in
theorem all_mk {P : Program} {w : World} {K : PySem.W.Frag} {h : Heap} {mg : Str → Option Value} {fa : Addr} (X : K.In h) (G : h.Ns mainGlobals mg) (hfa : mg "law" = some (.ref fa)) (c : SaysX fcl fnl K) : ∃ fd : FuncData, (∀ (s : Shared) (v : Value), BindsTo s fd ⟨[v], []⟩ [("_law_script", v)]) ∧ ∀ base : Heap, K.In base → base.Ns mainGlobals mg → FnOk P w K mg base CX0 9 fa fd ["_law_script"] (spL K) := by
  have aC_Count : PySem.W.nsIn K mainGlobals "Count" = some (some (.ref (pp_c_Count K))) := c.fact 0
  have pg_Count : PySem.W.plainGet K (pp_c_Count K) Str.empty = true := c.fact 1
  have hd_Count : PySem.W.hasDictIn K (pp_c_Count K) = true := c.fact 2
  have po_Count : PySem.W.plainOver K (pp_c_Count K) = true := c.fact 3
  have sa_Count : PySem.W.findIn K (.ref (pp_c_Count K)) "__setattr__" = some (some (.builtin "object.__setattr__")) := c.fact 4
  have ca_Count : PySem.W.findIn K (.ref (pp_c_Count K)) "__class__" = some (some (.builtin "object.__class__")) := c.fact 5
  have cn_Count : PySem.W.specialIn K (.builtin "object.__class__") "__get__" = some (some (.builtin "getset_descriptor.__get__")) := c.fact 6
  have ct_Count : PySem.W.takesIn K (.builtin "object.__class__") = some true := c.fact 7
  have cm_Count : PySem.W.mroIn K (pp_c_Count K) (.type "object") = some true := c.fact 8
  have mk_Count : PySem.W.makesIn K (pp_c_Count K) = true := c.fact 9
  have kc_Count : PySem.W.keepIn K (.ref (pp_c_Count K)) = true := c.fact 10
  have no_Count_short_parts : PySem.W.findIn K (.ref (pp_c_Count K)) "short_parts" = some none := c.fact 11
  have no_Count_short_odd : PySem.W.findIn K (.ref (pp_c_Count K)) "short_odd" = some none := c.fact 12
  have aC_Sizes : PySem.W.nsIn K mainGlobals "Sizes" = some (some (.ref (pp_c_Sizes K))) := c.fact 13
  have pg_Sizes : PySem.W.plainGet K (pp_c_Sizes K) Str.empty = true := c.fact 14
  have hd_Sizes : PySem.W.hasDictIn K (pp_c_Sizes K) = true := c.fact 15
  have po_Sizes : PySem.W.plainOver K (pp_c_Sizes K) = true := c.fact 16
  have sa_Sizes : PySem.W.findIn K (.ref (pp_c_Sizes K)) "__setattr__" = some (some (.builtin "object.__setattr__")) := c.fact 17
  have ca_Sizes : PySem.W.findIn K (.ref (pp_c_Sizes K)) "__class__" = some (some (.builtin "object.__class__")) := c.fact 18
  have cn_Sizes : PySem.W.specialIn K (.builtin "object.__class__") "__get__" = some (some (.builtin "getset_descriptor.__get__")) := c.fact 19
  have ct_Sizes : PySem.W.takesIn K (.builtin "object.__class__") = some true := c.fact 20
  have cm_Sizes : PySem.W.mroIn K (pp_c_Sizes K) (.type "object") = some true := c.fact 21
  have mk_Sizes : PySem.W.makesIn K (pp_c_Sizes K) = true := c.fact 22
  have kc_Sizes : PySem.W.keepIn K (.ref (pp_c_Sizes K)) = true := c.fact 23
  have no_Sizes_short_period : PySem.W.findIn K (.ref (pp_c_Sizes K)) "short_period" = some none := c.fact 24
  have no_Sizes_short_classes : PySem.W.findIn K (.ref (pp_c_Sizes K)) "short_classes" = some none := c.fact 25
  have no_Sizes_short_odd : PySem.W.findIn K (.ref (pp_c_Sizes K)) "short_odd" = some none := c.fact 26
  have no_Sizes_class_marks : PySem.W.findIn K (.ref (pp_c_Sizes K)) "class_marks" = some none := c.fact 27
  have no_Sizes_odd_marks : PySem.W.findIn K (.ref (pp_c_Sizes K)) "odd_marks" = some none := c.fact 28
  have aG_MOST_COEFFICIENTS : ∃ t, PySem.W.nsIn K mainGlobals "MOST_COEFFICIENTS" = some (some (.int 4 t)) := c.fact 29
  have aG_FIGURES : ∃ t, PySem.W.nsIn K mainGlobals "FIGURES" = some (some (.str "0123456789" t)) := c.fact 30
  have aC_ClashError : PySem.W.nsIn K mainGlobals "ClashError" = some (some (.ref (pp_c_ClashError K))) := c.fact 31
  have iX_ClashError : CIn K (pp_c_ClashError K) := c.fact 32
  have bs_ClashError : PySem.W.subIn K (.ref (pp_c_ClashError K)) (.type "BaseException") = some true := c.fact 33
  have hd_ClashError : PySem.W.hasDictIn K (pp_c_ClashError K) = true := c.fact 34
  have aC_InvalidCount : PySem.W.nsIn K mainGlobals "InvalidCount" = some (some (.ref (pp_c_InvalidCount K))) := c.fact 35
  have oX_InvalidCount : OexC K (pp_c_InvalidCount K) := c.fact 36
  have xX_InvalidCount : ExcC K (pp_c_InvalidCount K) := c.fact 37
  have fX_InvalidCount : XfC K (pp_c_InvalidCount K) := c.fact 38
  have no_InvalidCount_word : PySem.W.findIn K (.ref (pp_c_InvalidCount K)) "word" = some none := c.fact 39
  have aC_InvalidSizes : PySem.W.nsIn K mainGlobals "InvalidSizes" = some (some (.ref (pp_c_InvalidSizes K))) := c.fact 40
  have oX_InvalidSizes : OexC K (pp_c_InvalidSizes K) := c.fact 41
  have xX_InvalidSizes : ExcC K (pp_c_InvalidSizes K) := c.fact 42
  have fX_InvalidSizes : XfC K (pp_c_InvalidSizes K) := c.fact 43
  have no_InvalidSizes_word : PySem.W.findIn K (.ref (pp_c_InvalidSizes K)) "word" = some none := c.fact 44
  have aC_InvalidText : PySem.W.nsIn K mainGlobals "InvalidText" = some (some (.ref (pp_c_InvalidText K))) := c.fact 45
  have oX_InvalidText : OexC K (pp_c_InvalidText K) := c.fact 46
  have xX_InvalidText : ExcC K (pp_c_InvalidText K) := c.fact 47
  have fX_InvalidText : XfC K (pp_c_InvalidText K) := c.fact 48
  have no_InvalidText_line : PySem.W.findIn K (.ref (pp_c_InvalidText K)) "line" = some none := c.fact 49
  have z_abs : PySem.W.nsIn K mainGlobals "abs" = some none := c.fact 50
  have z_all : PySem.W.nsIn K mainGlobals "all" = some none := c.fact 51
  have z_any : PySem.W.nsIn K mainGlobals "any" = some none := c.fact 52
  have z_bool : PySem.W.nsIn K mainGlobals "bool" = some none := c.fact 53
  have z_int : PySem.W.nsIn K mainGlobals "int" = some none := c.fact 54
  have z_isinstance : PySem.W.nsIn K mainGlobals "isinstance" = some none := c.fact 55
  have z_len : PySem.W.nsIn K mainGlobals "len" = some none := c.fact 56
  have z_max : PySem.W.nsIn K mainGlobals "max" = some none := c.fact 57
  have z_min : PySem.W.nsIn K mainGlobals "min" = some none := c.fact 58
  have z_range : PySem.W.nsIn K mainGlobals "range" = some none := c.fact 59
  have z_str : PySem.W.nsIn K mainGlobals "str" = some none := c.fact 60
  have z_sum : PySem.W.nsIn K mainGlobals "sum" = some none := c.fact 61
  have z_tuple : PySem.W.nsIn K mainGlobals "tuple" = some none := c.fact 62
  have z_zip : PySem.W.nsIn K mainGlobals "zip" = some none := c.fact 63
  have at__law_box : PySem.W.nsIn K mainGlobals "_law_box" = some (some (.ref (pp_a__law_box K))) := c.fact 64
  have at_InvalidSizes___init__ : PySem.W.findIn K (.ref (pp_c_InvalidSizes K)) "__init__" = some (some (.ref (pp_a_InvalidSizes___init__ K))) := c.fact 65
  have ty_InvalidSizes___init__ : PySem.W.typeIn K (.ref (pp_a_InvalidSizes___init__ K)) = some (.type "function") := c.fact 66
  have at_prime_powers : PySem.W.nsIn K mainGlobals "prime_powers" = some (some (.ref (pp_a_prime_powers K))) := c.fact 67
  have at_is_needless : PySem.W.nsIn K mainGlobals "is_needless" = some (some (.ref (pp_a_is_needless K))) := c.fact 68
  have at_shortest : PySem.W.nsIn K mainGlobals "shortest" = some (some (.ref (pp_a_shortest K))) := c.fact 69
  have at_is_integer : PySem.W.nsIn K mainGlobals "is_integer" = some (some (.ref (pp_a_is_integer K))) := c.fact 70
  have at_are_sizes : PySem.W.nsIn K mainGlobals "are_sizes" = some (some (.ref (pp_a_are_sizes K))) := c.fact 71
  have at_Sizes___init__ : PySem.W.findIn K (.ref (pp_c_Sizes K)) "__init__" = some (some (.ref (pp_a_Sizes___init__ K))) := c.fact 72
  have fn_Sizes___init__ : PySem.W.isFn K (.ref (pp_a_Sizes___init__ K)) = true := c.fact 73
  have de_Sizes___init__ : SqT K (fun _ => none) (pp_dz_Sizes___init__ K) [] := c.fact 74
  have at_InvalidCount___init__ : PySem.W.findIn K (.ref (pp_c_InvalidCount K)) "__init__" = some (some (.ref (pp_a_InvalidCount___init__ K))) := c.fact 75
  have ty_InvalidCount___init__ : PySem.W.typeIn K (.ref (pp_a_InvalidCount___init__ K)) = some (.type "function") := c.fact 76
  have at_ascend : PySem.W.nsIn K mainGlobals "ascend" = some (some (.ref (pp_a_ascend K))) := c.fact 77
  have at_are_pairs : PySem.W.nsIn K mainGlobals "are_pairs" = some (some (.ref (pp_a_are_pairs K))) := c.fact 78
  have at_are_integers : PySem.W.nsIn K mainGlobals "are_integers" = some (some (.ref (pp_a_are_integers K))) := c.fact 79
  have at_are_parts : PySem.W.nsIn K mainGlobals "are_parts" = some (some (.ref (pp_a_are_parts K))) := c.fact 80
  have at_are_odd : PySem.W.nsIn K mainGlobals "are_odd" = some (some (.ref (pp_a_are_odd K))) := c.fact 81
  have at_cut : PySem.W.nsIn K mainGlobals "cut" = some (some (.ref (pp_a_cut K))) := c.fact 82
  have at_worth : PySem.W.nsIn K mainGlobals "worth" = some (some (.ref (pp_a_worth K))) := c.fact 83
  have at_plain_value : PySem.W.nsIn K mainGlobals "plain_value" = some (some (.ref (pp_a_plain_value K))) := c.fact 84
  have at_Count___init__ : PySem.W.findIn K (.ref (pp_c_Count K)) "__init__" = some (some (.ref (pp_a_Count___init__ K))) := c.fact 85
  have fn_Count___init__ : PySem.W.isFn K (.ref (pp_a_Count___init__ K)) = true := c.fact 86
  have de_Count___init__ : SqT K (fun _ => none) (pp_dz_Count___init__ K) [] := c.fact 87
  have at__law_take : PySem.W.nsIn K mainGlobals "_law_take" = some (some (.ref (pp_a__law_take K))) := c.fact 88
  have at__law_number : PySem.W.nsIn K mainGlobals "_law_number" = some (some (.ref (pp_a__law_number K))) := c.fact 89
  have at__law_counts : PySem.W.nsIn K mainGlobals "_law_counts" = some (some (.ref (pp_a__law_counts K))) := c.fact 90
  have at__law_sets : PySem.W.nsIn K mainGlobals "_law_sets" = some (some (.ref (pp_a__law_sets K))) := c.fact 91
  have at_InvalidText___init__ : PySem.W.findIn K (.ref (pp_c_InvalidText K)) "__init__" = some (some (.ref (pp_a_InvalidText___init__ K))) := c.fact 92
  have ty_InvalidText___init__ : PySem.W.typeIn K (.ref (pp_a_InvalidText___init__ K)) = some (.type "function") := c.fact 93
  have P0_Count_parts : PropOf K (pp_c_Count K) "parts" (pp_p_Count_parts K) (pp_a_Count_parts K) := c.fact 94
  have P0_Count_odd : PropOf K (pp_c_Count K) "odd" (pp_p_Count_odd K) (pp_a_Count_odd K) := c.fact 95
  have P0_Sizes_odd : PropOf K (pp_c_Sizes K) "odd" (pp_p_Sizes_odd K) (pp_a_Sizes_odd K) := c.fact 96
  have at_listed : PySem.W.nsIn K mainGlobals "listed" = some (some (.ref (pp_a_listed K))) := c.fact 97
  have at_figures : PySem.W.nsIn K mainGlobals "figures" = some (some (.ref (pp_a_figures K))) := c.fact 98
  have at_spaced : PySem.W.nsIn K mainGlobals "spaced" = some (some (.ref (pp_a_spaced K))) := c.fact 99
  have at_show_count : PySem.W.nsIn K mainGlobals "show_count" = some (some (.ref (pp_a_show_count K))) := c.fact 100
  have at_number_told : PySem.W.nsIn K mainGlobals "number_told" = some (some (.ref (pp_a_number_told K))) := c.fact 101
  have at_integer_of : PySem.W.nsIn K mainGlobals "integer_of" = some (some (.ref (pp_a_integer_of K))) := c.fact 102
  have at_integers_of : PySem.W.nsIn K mainGlobals "integers_of" = some (some (.ref (pp_a_integers_of K))) := c.fact 103
  have at_pair_of : PySem.W.nsIn K mainGlobals "pair_of" = some (some (.ref (pp_a_pair_of K))) := c.fact 104
  have at_pairs_of : PySem.W.nsIn K mainGlobals "pairs_of" = some (some (.ref (pp_a_pairs_of K))) := c.fact 105
  have at_odd_of : PySem.W.nsIn K mainGlobals "odd_of" = some (some (.ref (pp_a_odd_of K))) := c.fact 106
  have at_read_count : PySem.W.nsIn K mainGlobals "read_count" = some (some (.ref (pp_a_read_count K))) := c.fact 107
  have P0_Sizes_period : PropOf K (pp_c_Sizes K) "period" (pp_p_Sizes_period K) (pp_a_Sizes_period K) := c.fact 108
  have P0_Sizes_classes : PropOf K (pp_c_Sizes K) "classes" (pp_p_Sizes_classes K) (pp_a_Sizes_classes K) := c.fact 109
  have at_show_sizes : PySem.W.nsIn K mainGlobals "show_sizes" = some (some (.ref (pp_a_show_sizes K))) := c.fact 110
  have at_read_sizes : PySem.W.nsIn K mainGlobals "read_sizes" = some (some (.ref (pp_a_read_sizes K))) := c.fact 111
  have at__law_refused : PySem.W.nsIn K mainGlobals "_law_refused" = some (some (.ref (pp_a__law_refused K))) := c.fact 112
  have at_Count___eq__ : PySem.W.findIn K (.ref (pp_c_Count K)) "__eq__" = some (some (.ref (pp_a_Count___eq__ K))) := c.fact 113
  have fn_Count___eq__ : PySem.W.isFn K (.ref (pp_a_Count___eq__ K)) = true := c.fact 114
  have at_Sizes_told : PySem.W.findIn K (.ref (pp_c_Sizes K)) "told" = some (some (.ref (pp_a_Sizes_told K))) := c.fact 115
  have fn_Sizes_told : PySem.W.isFn K (.ref (pp_a_Sizes_told K)) = true := c.fact 116
  have at_Sizes___eq__ : PySem.W.findIn K (.ref (pp_c_Sizes K)) "__eq__" = some (some (.ref (pp_a_Sizes___eq__ K))) := c.fact 117
  have fn_Sizes___eq__ : PySem.W.isFn K (.ref (pp_a_Sizes___eq__ K)) = true := c.fact 118
  have at_law : PySem.W.nsIn K mainGlobals "law" = some (some (.ref (pp_a_law K))) := c.fact 119
  have kt_int_Count : PySem.W.kitOne K (.type "int") (.ref (pp_c_Count K)) = some false := c.fact 120
  have kt_bool_Count : PySem.W.kitOne K (.type "bool") (.ref (pp_c_Count K)) = some false := c.fact 121
  have kt_str_Count : PySem.W.kitOne K (.type "str") (.ref (pp_c_Count K)) = some false := c.fact 122
  have kt_tuple_Count : PySem.W.kitOne K (.type "tuple") (.ref (pp_c_Count K)) = some false := c.fact 123
  have kt_list_Count : PySem.W.kitOne K (.type "list") (.ref (pp_c_Count K)) = some false := c.fact 124
  have kt_NoneType_Count : PySem.W.kitOne K (.type "NoneType") (.ref (pp_c_Count K)) = some false := c.fact 125
  have kt_Sizes_Count : PySem.W.kitOne K (.ref (pp_c_Sizes K)) (.ref (pp_c_Count K)) = some false := c.fact 126
  have kt_int_Sizes : PySem.W.kitOne K (.type "int") (.ref (pp_c_Sizes K)) = some false := c.fact 127
  have kt_bool_Sizes : PySem.W.kitOne K (.type "bool") (.ref (pp_c_Sizes K)) = some false := c.fact 128
  have kt_str_Sizes : PySem.W.kitOne K (.type "str") (.ref (pp_c_Sizes K)) = some false := c.fact 129
  have kt_tuple_Sizes : PySem.W.kitOne K (.type "tuple") (.ref (pp_c_Sizes K)) = some false := c.fact 130
  have kt_list_Sizes : PySem.W.kitOne K (.type "list") (.ref (pp_c_Sizes K)) = some false := c.fact 131
  have kt_NoneType_Sizes : PySem.W.kitOne K (.type "NoneType") (.ref (pp_c_Sizes K)) = some false := c.fact 132
  have kt_Count_Sizes : PySem.W.kitOne K (.ref (pp_c_Count K)) (.ref (pp_c_Sizes K)) = some false := c.fact 133
  have su_Count_bool : PySem.W.subIn K (.ref (pp_c_Count K)) (.type "bool") = some false := c.fact 134
  have su_Sizes_bool : PySem.W.subIn K (.ref (pp_c_Sizes K)) (.type "bool") = some false := c.fact 135
  have su_Count_int : PySem.W.subIn K (.ref (pp_c_Count K)) (.type "int") = some false := c.fact 136
  have su_Sizes_int : PySem.W.subIn K (.ref (pp_c_Sizes K)) (.type "int") = some false := c.fact 137
  have su_Count_tuple : PySem.W.subIn K (.ref (pp_c_Count K)) (.type "tuple") = some false := c.fact 138
  have su_Sizes_tuple : PySem.W.subIn K (.ref (pp_c_Sizes K)) (.type "tuple") = some false := c.fact 139
  have ex_InvalidCount_InvalidCount : PySem.W.exmOne K (.ref (pp_c_InvalidCount K)) (.ref (pp_c_InvalidCount K)) = some true := c.fact 140
  have ex_InvalidSizes_InvalidCount : PySem.W.exmOne K (.ref (pp_c_InvalidSizes K)) (.ref (pp_c_InvalidCount K)) = some false := c.fact 141
  have ex_InvalidText_InvalidCount : PySem.W.exmOne K (.ref (pp_c_InvalidText K)) (.ref (pp_c_InvalidCount K)) = some false := c.fact 142
  have ex_InvalidCount_InvalidSizes : PySem.W.exmOne K (.ref (pp_c_InvalidCount K)) (.ref (pp_c_InvalidSizes K)) = some false := c.fact 143
  have ex_InvalidSizes_InvalidSizes : PySem.W.exmOne K (.ref (pp_c_InvalidSizes K)) (.ref (pp_c_InvalidSizes K)) = some true := c.fact 144
  have ex_InvalidText_InvalidSizes : PySem.W.exmOne K (.ref (pp_c_InvalidText K)) (.ref (pp_c_InvalidSizes K)) = some false := c.fact 145
  have ex_InvalidCount_InvalidText : PySem.W.exmOne K (.ref (pp_c_InvalidCount K)) (.ref (pp_c_InvalidText K)) = some false := c.fact 146
  have ex_InvalidSizes_InvalidText : PySem.W.exmOne K (.ref (pp_c_InvalidSizes K)) (.ref (pp_c_InvalidText K)) = some false := c.fact 147
  have ex_InvalidText_InvalidText : PySem.W.exmOne K (.ref (pp_c_InvalidText K)) (.ref (pp_c_InvalidText K)) = some true := c.fact 148
  have no_InvalidCount_line : PySem.W.findIn K (.ref (pp_c_InvalidCount K)) "line" = some none := c.fact 149
  have no_InvalidSizes_line : PySem.W.findIn K (.ref (pp_c_InvalidSizes K)) "line" = some none := c.fact 150
  have no_InvalidText_word : PySem.W.findIn K (.ref (pp_c_InvalidText K)) "word" = some none := c.fact 151
  have NE_Count : NeC K (pp_c_Count K) := c.fact 152
  have NE_Sizes : NeC K (pp_c_Sizes K) := c.fact 153
  obtain ⟨fd__law_box, F0__law_box⟩ := c.def_ 0 (d := dd__law_box)
  obtain ⟨fd_InvalidSizes___init__, F0_InvalidSizes___init__⟩ := c.def_ 1 (d := dd_InvalidSizes___init__)
  obtain ⟨fd_prime_powers, F0_prime_powers⟩ := c.def_ 2 (d := dd_prime_powers)
  obtain ⟨fd_is_needless, F0_is_needless⟩ := c.def_ 3 (d := dd_is_needless)
  obtain ⟨fd_shortest, F0_shortest⟩ := c.def_ 4 (d := dd_shortest)
  obtain ⟨fd_is_integer, F0_is_integer⟩ := c.def_ 5 (d := dd_is_integer)
  obtain ⟨fd_are_sizes, F0_are_sizes⟩ := c.def_ 6 (d := dd_are_sizes)
  obtain ⟨fd_Sizes___init__, F0_Sizes___init__⟩ := c.def_ 7 (d := dd_Sizes___init__)
  obtain ⟨fd_InvalidCount___init__, F0_InvalidCount___init__⟩ := c.def_ 8 (d := dd_InvalidCount___init__)
  obtain ⟨fd_ascend, F0_ascend⟩ := c.def_ 9 (d := dd_ascend)
  obtain ⟨fd_are_pairs, F0_are_pairs⟩ := c.def_ 10 (d := dd_are_pairs)
  obtain ⟨fd_are_integers, F0_are_integers⟩ := c.def_ 11 (d := dd_are_integers)
  obtain ⟨fd_are_parts, F0_are_parts⟩ := c.def_ 12 (d := dd_are_parts)
  obtain ⟨fd_are_odd, F0_are_odd⟩ := c.def_ 13 (d := dd_are_odd)
  obtain ⟨fd_cut, F0_cut⟩ := c.def_ 14 (d := dd_cut)
  obtain ⟨fd_worth, F0_worth⟩ := c.def_ 15 (d := dd_worth)
  obtain ⟨fd_plain_value, F0_plain_value⟩ := c.def_ 16 (d := dd_plain_value)
  obtain ⟨fd_Count___init__, F0_Count___init__⟩ := c.def_ 17 (d := dd_Count___init__)
  obtain ⟨fd__law_take, F0__law_take⟩ := c.def_ 18 (d := dd__law_take)
  obtain ⟨fd__law_number, F0__law_number⟩ := c.def_ 19 (d := dd__law_number)
  obtain ⟨fd__law_counts, F0__law_counts⟩ := c.def_ 20 (d := dd__law_counts)
  obtain ⟨fd__law_sets, F0__law_sets⟩ := c.def_ 21 (d := dd__law_sets)
  obtain ⟨fd_InvalidText___init__, F0_InvalidText___init__⟩ := c.def_ 22 (d := dd_InvalidText___init__)
  obtain ⟨fd_Count_parts, F0_Count_parts⟩ := c.def_ 23 (d := dd_Count_parts)
  obtain ⟨fd_Count_odd, F0_Count_odd⟩ := c.def_ 24 (d := dd_Count_odd)
  obtain ⟨fd_Sizes_odd, F0_Sizes_odd⟩ := c.def_ 25 (d := dd_Sizes_odd)
  obtain ⟨fd_listed, F0_listed⟩ := c.def_ 26 (d := dd_listed)
  obtain ⟨fd_figures, F0_figures⟩ := c.def_ 27 (d := dd_figures)
  obtain ⟨fd_spaced, F0_spaced⟩ := c.def_ 28 (d := dd_spaced)
  obtain ⟨fd_show_count, F0_show_count⟩ := c.def_ 29 (d := dd_show_count)
  obtain ⟨fd_number_told, F0_number_told⟩ := c.def_ 30 (d := dd_number_told)
  obtain ⟨fd_integer_of, F0_integer_of⟩ := c.def_ 31 (d := dd_integer_of)
  obtain ⟨fd_integers_of, F0_integers_of⟩ := c.def_ 32 (d := dd_integers_of)
  obtain ⟨fd_pair_of, F0_pair_of⟩ := c.def_ 33 (d := dd_pair_of)
  obtain ⟨fd_pairs_of, F0_pairs_of⟩ := c.def_ 34 (d := dd_pairs_of)
  obtain ⟨fd_odd_of, F0_odd_of⟩ := c.def_ 35 (d := dd_odd_of)
  obtain ⟨fd_read_count, F0_read_count⟩ := c.def_ 36 (d := dd_read_count)
  obtain ⟨fd_Sizes_period, F0_Sizes_period⟩ := c.def_ 37 (d := dd_Sizes_period)
  obtain ⟨fd_Sizes_classes, F0_Sizes_classes⟩ := c.def_ 38 (d := dd_Sizes_classes)
  obtain ⟨fd_show_sizes, F0_show_sizes⟩ := c.def_ 39 (d := dd_show_sizes)
  obtain ⟨fd_read_sizes, F0_read_sizes⟩ := c.def_ 40 (d := dd_read_sizes)
  obtain ⟨fd__law_refused, F0__law_refused⟩ := c.def_ 41 (d := dd__law_refused)
  obtain ⟨fd_Count___eq__, F0_Count___eq__⟩ := c.def_ 42 (d := dd_Count___eq__)
  obtain ⟨fd_Sizes_told, F0_Sizes_told⟩ := c.def_ 43 (d := dd_Sizes_told)
  obtain ⟨fd_Sizes___eq__, F0_Sizes___eq__⟩ := c.def_ 44 (d := dd_Sizes___eq__)
  obtain ⟨fd_law, F0_law⟩ := c.def_ 45 (d := dd_law)
  have e : (pp_a_law K) = fa := by
    have e := (PySem.W.mg_of X G at_law).symm.trans hfa
    injection e with e
    injection e
  subst e
  let t : Tx (tab (pp_c_Count K) (pp_c_Sizes K) (pp_c_InvalidCount K) (pp_c_InvalidSizes K) (pp_c_InvalidText K)) K mg := {
    c_Count := (pp_c_Count K),
    T_Count := rfl,
    cl_Count := ⟨pg_Count, hd_Count, po_Count, sa_Count⟩,
    i_Count := ⟨⟨pg_Count, hd_Count, po_Count, sa_Count⟩, ca_Count, cn_Count, ct_Count, cm_Count⟩,
    m_Count := PySem.W.mg_of X G aC_Count,
    no_Count_short_parts := no_Count_short_parts,
    no_Count_short_odd := no_Count_short_odd,
    c_Sizes := (pp_c_Sizes K),
    T_Sizes := rfl,
    cl_Sizes := ⟨pg_Sizes, hd_Sizes, po_Sizes, sa_Sizes⟩,
    i_Sizes := ⟨⟨pg_Sizes, hd_Sizes, po_Sizes, sa_Sizes⟩, ca_Sizes, cn_Sizes, ct_Sizes, cm_Sizes⟩,
    m_Sizes := PySem.W.mg_of X G aC_Sizes,
    no_Sizes_short_period := no_Sizes_short_period,
    no_Sizes_short_classes := no_Sizes_short_classes,
    no_Sizes_short_odd := no_Sizes_short_odd,
    no_Sizes_class_marks := no_Sizes_class_marks,
    no_Sizes_odd_marks := no_Sizes_odd_marks,
    g_MOST_COEFFICIENTS := (let ⟨t, e⟩ := aG_MOST_COEFFICIENTS; ⟨t, PySem.W.mg_of X G e⟩),
    g_FIGURES := (let ⟨t, e⟩ := aG_FIGURES; ⟨t, PySem.W.mg_of X G e⟩),
    c_ClashError := (pp_c_ClashError K),
    m_ClashError := PySem.W.mg_of X G aC_ClashError,
    ci_ClashError := iX_ClashError,
    bs_ClashError := bs_ClashError,
    hd_ClashError := hd_ClashError,
    c_InvalidCount := (pp_c_InvalidCount K),
    T_InvalidCount := rfl,
    m_InvalidCount := PySem.W.mg_of X G aC_InvalidCount,
    o_InvalidCount := oX_InvalidCount,
    x_InvalidCount := xX_InvalidCount,
    xf_InvalidCount := fX_InvalidCount,
    no_InvalidCount_word := no_InvalidCount_word,
    c_InvalidSizes := (pp_c_InvalidSizes K),
    T_InvalidSizes := rfl,
    m_InvalidSizes := PySem.W.mg_of X G aC_InvalidSizes,
    o_InvalidSizes := oX_InvalidSizes,
    x_InvalidSizes := xX_InvalidSizes,
    xf_InvalidSizes := fX_InvalidSizes,
    no_InvalidSizes_word := no_InvalidSizes_word,
    c_InvalidText := (pp_c_InvalidText K),
    T_InvalidText := rfl,
    m_InvalidText := PySem.W.mg_of X G aC_InvalidText,
    o_InvalidText := oX_InvalidText,
    x_InvalidText := xX_InvalidText,
    xf_InvalidText := fX_InvalidText,
    no_InvalidText_line := no_InvalidText_line,
    z_abs := PySem.W.mg_none_of X G z_abs,
    z_all := PySem.W.mg_none_of X G z_all,
    z_any := PySem.W.mg_none_of X G z_any,
    z_bool := PySem.W.mg_none_of X G z_bool,
    z_int := PySem.W.mg_none_of X G z_int,
    z_isinstance := PySem.W.mg_none_of X G z_isinstance,
    z_len := PySem.W.mg_none_of X G z_len,
    z_max := PySem.W.mg_none_of X G z_max,
    z_min := PySem.W.mg_none_of X G z_min,
    z_range := PySem.W.mg_none_of X G z_range,
    z_str := PySem.W.mg_none_of X G z_str,
    z_sum := PySem.W.mg_none_of X G z_sum,
    z_tuple := PySem.W.mg_none_of X G z_tuple,
    z_zip := PySem.W.mg_none_of X G z_zip,
    a__law_box := (pp_a__law_box K),
    fd__law_box := fd__law_box,
    F__law_box := toFun (st := s__law_box) F0__law_box,
    b__law_box := (toFun (st := s__law_box) F0__law_box).binds (ps := ["_law_script", "_law_k"]) fun _ _ _ _ _ _ us hl => match us, hl with | [_, _], _ => rfl,
    m__law_box := PySem.W.mg_of X G at__law_box,
    a_InvalidSizes___init__ := (pp_a_InvalidSizes___init__ K),
    fd_InvalidSizes___init__ := fd_InvalidSizes___init__,
    F_InvalidSizes___init__ := toFun (st := s_InvalidSizes___init__) F0_InvalidSizes___init__,
    b_InvalidSizes___init__ := (toFun (st := s_InvalidSizes___init__) F0_InvalidSizes___init__).binds (ps := ["self", "word"]) fun _ _ _ _ _ _ us hl => match us, hl with | [_, _], _ => rfl,
    at_InvalidSizes___init__ := at_InvalidSizes___init__,
    ty_InvalidSizes___init__ := ty_InvalidSizes___init__,
    a_prime_powers := (pp_a_prime_powers K),
    fd_prime_powers := fd_prime_powers,
    F_prime_powers := toFun (st := s_prime_powers) F0_prime_powers,
    b_prime_powers := (toFun (st := s_prime_powers) F0_prime_powers).binds (ps := ["number"]) fun _ _ _ _ _ _ us hl => match us, hl with | [_], _ => rfl,
    m_prime_powers := PySem.W.mg_of X G at_prime_powers,
    a_is_needless := (pp_a_is_needless K),
    fd_is_needless := fd_is_needless,
    F_is_needless := toFun (st := s_is_needless) F0_is_needless,
    b_is_needless := (toFun (st := s_is_needless) F0_is_needless).binds (ps := ["period", "known", "prime"]) fun _ _ _ _ _ _ us hl => match us, hl with | [_, _, _], _ => rfl,
    m_is_needless := PySem.W.mg_of X G at_is_needless,
    a_shortest := (pp_a_shortest K),
    fd_shortest := fd_shortest,
    F_shortest := toFun (st := s_shortest) F0_shortest,
    b_shortest := (toFun (st := s_shortest) F0_shortest).binds (ps := ["period", "classes"]) fun _ _ _ _ _ _ us hl => match us, hl with | [_, _], _ => rfl,
    m_shortest := PySem.W.mg_of X G at_shortest,
    a_is_integer := (pp_a_is_integer K),
    fd_is_integer := fd_is_integer,
    F_is_integer := toFun (st := s_is_integer) F0_is_integer,
    b_is_integer := (toFun (st := s_is_integer) F0_is_integer).binds (ps := ["value"]) fun _ _ _ _ _ _ us hl => match us, hl with | [_], _ => rfl,
    m_is_integer := PySem.W.mg_of X G at_is_integer,
    a_are_sizes := (pp_a_are_sizes K),
    fd_are_sizes := fd_are_sizes,
    F_are_sizes := toFun (st := s_are_sizes) F0_are_sizes,
    b_are_sizes := (toFun (st := s_are_sizes) F0_are_sizes).binds (ps := ["value"]) fun _ _ _ _ _ _ us hl => match us, hl with | [_], _ => rfl,
    m_are_sizes := PySem.W.mg_of X G at_are_sizes,
    dz_Sizes___init__ := (pp_dz_Sizes___init__ K),
    de_Sizes___init__ := de_Sizes___init__,
    a_Sizes___init__ := (pp_a_Sizes___init__ K),
    fd_Sizes___init__ := fd_Sizes___init__,
    F_Sizes___init__ := F0_Sizes___init__,
    K_Sizes := ⟨mk_Sizes, at_Sizes___init__, fn_Sizes___init__, kc_Sizes⟩,
    a_InvalidCount___init__ := (pp_a_InvalidCount___init__ K),
    fd_InvalidCount___init__ := fd_InvalidCount___init__,
    F_InvalidCount___init__ := toFun (st := s_InvalidCount___init__) F0_InvalidCount___init__,
    b_InvalidCount___init__ := (toFun (st := s_InvalidCount___init__) F0_InvalidCount___init__).binds (ps := ["self", "word"]) fun _ _ _ _ _ _ us hl => match us, hl with | [_, _], _ => rfl,
    at_InvalidCount___init__ := at_InvalidCount___init__,
    ty_InvalidCount___init__ := ty_InvalidCount___init__,
    a_ascend := (pp_a_ascend K),
    fd_ascend := fd_ascend,
    F_ascend := toFun (st := s_ascend) F0_ascend,
    b_ascend := (toFun (st := s_ascend) F0_ascend).binds (ps := ["pairs"]) fun _ _ _ _ _ _ us hl => match us, hl with | [_], _ => rfl,
    m_ascend := PySem.W.mg_of X G at_ascend,
    a_are_pairs := (pp_a_are_pairs K),
    fd_are_pairs := fd_are_pairs,
    F_are_pairs := toFun (st := s_are_pairs) F0_are_pairs,
    b_are_pairs := (toFun (st := s_are_pairs) F0_are_pairs).binds (ps := ["value"]) fun _ _ _ _ _ _ us hl => match us, hl with | [_], _ => rfl,
    m_are_pairs := PySem.W.mg_of X G at_are_pairs,
    a_are_integers := (pp_a_are_integers K),
    fd_are_integers := fd_are_integers,
    F_are_integers := toFun (st := s_are_integers) F0_are_integers,
    b_are_integers := (toFun (st := s_are_integers) F0_are_integers).binds (ps := ["value"]) fun _ _ _ _ _ _ us hl => match us, hl with | [_], _ => rfl,
    m_are_integers := PySem.W.mg_of X G at_are_integers,
    a_are_parts := (pp_a_are_parts K),
    fd_are_parts := fd_are_parts,
    F_are_parts := toFun (st := s_are_parts) F0_are_parts,
    b_are_parts := (toFun (st := s_are_parts) F0_are_parts).binds (ps := ["value"]) fun _ _ _ _ _ _ us hl => match us, hl with | [_], _ => rfl,
    m_are_parts := PySem.W.mg_of X G at_are_parts,
    a_are_odd := (pp_a_are_odd K),
    fd_are_odd := fd_are_odd,
    F_are_odd := toFun (st := s_are_odd) F0_are_odd,
    b_are_odd := (toFun (st := s_are_odd) F0_are_odd).binds (ps := ["value"]) fun _ _ _ _ _ _ us hl => match us, hl with | [_], _ => rfl,
    m_are_odd := PySem.W.mg_of X G at_are_odd,
    a_cut := (pp_a_cut K),
    fd_cut := fd_cut,
    F_cut := toFun (st := s_cut) F0_cut,
    b_cut := (toFun (st := s_cut) F0_cut).binds (ps := ["coefficients"]) fun _ _ _ _ _ _ us hl => match us, hl with | [_], _ => rfl,
    m_cut := PySem.W.mg_of X G at_cut,
    a_worth := (pp_a_worth K),
    fd_worth := fd_worth,
    F_worth := toFun (st := s_worth) F0_worth,
    b_worth := (toFun (st := s_worth) F0_worth).binds (ps := ["coefficients", "n"]) fun _ _ _ _ _ _ us hl => match us, hl with | [_, _], _ => rfl,
    m_worth := PySem.W.mg_of X G at_worth,
    a_plain_value := (pp_a_plain_value K),
    fd_plain_value := fd_plain_value,
    F_plain_value := toFun (st := s_plain_value) F0_plain_value,
    b_plain_value := (toFun (st := s_plain_value) F0_plain_value).binds (ps := ["parts", "n"]) fun _ _ _ _ _ _ us hl => match us, hl with | [_, _], _ => rfl,
    m_plain_value := PySem.W.mg_of X G at_plain_value,
    dz_Count___init__ := (pp_dz_Count___init__ K),
    de_Count___init__ := de_Count___init__,
    a_Count___init__ := (pp_a_Count___init__ K),
    fd_Count___init__ := fd_Count___init__,
    F_Count___init__ := F0_Count___init__,
    K_Count := ⟨mk_Count, at_Count___init__, fn_Count___init__, kc_Count⟩,
    a__law_take := (pp_a__law_take K),
    fd__law_take := fd__law_take,
    F__law_take := toFun (st := s__law_take) F0__law_take,
    b__law_take := (toFun (st := s__law_take) F0__law_take).binds (ps := ["_law_box_here", "_law_many"]) fun _ _ _ _ _ _ us hl => match us, hl with | [_, _], _ => rfl,
    m__law_take := PySem.W.mg_of X G at__law_take,
    a__law_number := (pp_a__law_number K),
    fd__law_number := fd__law_number,
    F__law_number := toFun (st := s__law_number) F0__law_number,
    b__law_number := (toFun (st := s__law_number) F0__law_number).binds (ps := ["_law_box_here"]) fun _ _ _ _ _ _ us hl => match us, hl with | [_], _ => rfl,
    m__law_number := PySem.W.mg_of X G at__law_number,
    a__law_counts := (pp_a__law_counts K),
    fd__law_counts := fd__law_counts,
    F__law_counts := toFun (st := s__law_counts) F0__law_counts,
    b__law_counts := (toFun (st := s__law_counts) F0__law_counts).binds (ps := ["_law_box_here"]) fun _ _ _ _ _ _ us hl => match us, hl with | [_], _ => rfl,
    m__law_counts := PySem.W.mg_of X G at__law_counts,
    a__law_sets := (pp_a__law_sets K),
    fd__law_sets := fd__law_sets,
    F__law_sets := toFun (st := s__law_sets) F0__law_sets,
    b__law_sets := (toFun (st := s__law_sets) F0__law_sets).binds (ps := ["_law_box_here"]) fun _ _ _ _ _ _ us hl => match us, hl with | [_], _ => rfl,
    m__law_sets := PySem.W.mg_of X G at__law_sets,
    a_InvalidText___init__ := (pp_a_InvalidText___init__ K),
    fd_InvalidText___init__ := fd_InvalidText___init__,
    F_InvalidText___init__ := toFun (st := s_InvalidText___init__) F0_InvalidText___init__,
    b_InvalidText___init__ := (toFun (st := s_InvalidText___init__) F0_InvalidText___init__).binds (ps := ["self", "line"]) fun _ _ _ _ _ _ us hl => match us, hl with | [_, _], _ => rfl,
    at_InvalidText___init__ := at_InvalidText___init__,
    ty_InvalidText___init__ := ty_InvalidText___init__,
    a_Count_parts := (pp_a_Count_parts K),
    fd_Count_parts := fd_Count_parts,
    F_Count_parts := toFun (st := s_Count_parts) F0_Count_parts,
    b_Count_parts := (toFun (st := s_Count_parts) F0_Count_parts).binds (ps := ["self"]) fun _ _ _ _ _ _ us hl => match us, hl with | [_], _ => rfl,
    p_Count_parts := (pp_p_Count_parts K),
    P_Count_parts := P0_Count_parts,
    a_Count_odd := (pp_a_Count_odd K),
    fd_Count_odd := fd_Count_odd,
    F_Count_odd := toFun (st := s_Count_odd) F0_Count_odd,
    b_Count_odd := (toFun (st := s_Count_odd) F0_Count_odd).binds (ps := ["self"]) fun _ _ _ _ _ _ us hl => match us, hl with | [_], _ => rfl,
    p_Count_odd := (pp_p_Count_odd K),
    P_Count_odd := P0_Count_odd,
    a_Sizes_odd := (pp_a_Sizes_odd K),
    fd_Sizes_odd := fd_Sizes_odd,
    F_Sizes_odd := toFun (st := s_Sizes_odd) F0_Sizes_odd,
    b_Sizes_odd := (toFun (st := s_Sizes_odd) F0_Sizes_odd).binds (ps := ["self"]) fun _ _ _ _ _ _ us hl => match us, hl with | [_], _ => rfl,
    p_Sizes_odd := (pp_p_Sizes_odd K),
    P_Sizes_odd := P0_Sizes_odd,
    a_listed := (pp_a_listed K),
    fd_listed := fd_listed,
    F_listed := toFun (st := s_listed) F0_listed,
    b_listed := (toFun (st := s_listed) F0_listed).binds (ps := ["words"]) fun _ _ _ _ _ _ us hl => match us, hl with | [_], _ => rfl,
    m_listed := PySem.W.mg_of X G at_listed,
    a_figures := (pp_a_figures K),
    fd_figures := fd_figures,
    F_figures := toFun (st := s_figures) F0_figures,
    b_figures := (toFun (st := s_figures) F0_figures).binds (ps := ["number"]) fun _ _ _ _ _ _ us hl => match us, hl with | [_], _ => rfl,
    m_figures := PySem.W.mg_of X G at_figures,
    a_spaced := (pp_a_spaced K),
    fd_spaced := fd_spaced,
    F_spaced := toFun (st := s_spaced) F0_spaced,
    b_spaced := (toFun (st := s_spaced) F0_spaced).binds (ps := ["numbers"]) fun _ _ _ _ _ _ us hl => match us, hl with | [_], _ => rfl,
    m_spaced := PySem.W.mg_of X G at_spaced,
    a_show_count := (pp_a_show_count K),
    fd_show_count := fd_show_count,
    F_show_count := toFun (st := s_show_count) F0_show_count,
    b_show_count := (toFun (st := s_show_count) F0_show_count).binds (ps := ["count"]) fun _ _ _ _ _ _ us hl => match us, hl with | [_], _ => rfl,
    m_show_count := PySem.W.mg_of X G at_show_count,
    a_number_told := (pp_a_number_told K),
    fd_number_told := fd_number_told,
    F_number_told := toFun (st := s_number_told) F0_number_told,
    b_number_told := (toFun (st := s_number_told) F0_number_told).binds (ps := ["text"]) fun _ _ _ _ _ _ us hl => match us, hl with | [_], _ => rfl,
    m_number_told := PySem.W.mg_of X G at_number_told,
    a_integer_of := (pp_a_integer_of K),
    fd_integer_of := fd_integer_of,
    F_integer_of := toFun (st := s_integer_of) F0_integer_of,
    b_integer_of := (toFun (st := s_integer_of) F0_integer_of).binds (ps := ["word"]) fun _ _ _ _ _ _ us hl => match us, hl with | [_], _ => rfl,
    m_integer_of := PySem.W.mg_of X G at_integer_of,
    a_integers_of := (pp_a_integers_of K),
    fd_integers_of := fd_integers_of,
    F_integers_of := toFun (st := s_integers_of) F0_integers_of,
    b_integers_of := (toFun (st := s_integers_of) F0_integers_of).binds (ps := ["text"]) fun _ _ _ _ _ _ us hl => match us, hl with | [_], _ => rfl,
    m_integers_of := PySem.W.mg_of X G at_integers_of,
    a_pair_of := (pp_a_pair_of K),
    fd_pair_of := fd_pair_of,
    F_pair_of := toFun (st := s_pair_of) F0_pair_of,
    b_pair_of := (toFun (st := s_pair_of) F0_pair_of).binds (ps := ["text"]) fun _ _ _ _ _ _ us hl => match us, hl with | [_], _ => rfl,
    m_pair_of := PySem.W.mg_of X G at_pair_of,
    a_pairs_of := (pp_a_pairs_of K),
    fd_pairs_of := fd_pairs_of,
    F_pairs_of := toFun (st := s_pairs_of) F0_pairs_of,
    b_pairs_of := (toFun (st := s_pairs_of) F0_pairs_of).binds (ps := ["text"]) fun _ _ _ _ _ _ us hl => match us, hl with | [_], _ => rfl,
    m_pairs_of := PySem.W.mg_of X G at_pairs_of,
    a_odd_of := (pp_a_odd_of K),
    fd_odd_of := fd_odd_of,
    F_odd_of := toFun (st := s_odd_of) F0_odd_of,
    b_odd_of := (toFun (st := s_odd_of) F0_odd_of).binds (ps := ["pairs"]) fun _ _ _ _ _ _ us hl => match us, hl with | [_], _ => rfl,
    m_odd_of := PySem.W.mg_of X G at_odd_of,
    a_read_count := (pp_a_read_count K),
    fd_read_count := fd_read_count,
    F_read_count := toFun (st := s_read_count) F0_read_count,
    b_read_count := (toFun (st := s_read_count) F0_read_count).binds (ps := ["text"]) fun _ _ _ _ _ _ us hl => match us, hl with | [_], _ => rfl,
    m_read_count := PySem.W.mg_of X G at_read_count,
    a_Sizes_period := (pp_a_Sizes_period K),
    fd_Sizes_period := fd_Sizes_period,
    F_Sizes_period := toFun (st := s_Sizes_period) F0_Sizes_period,
    b_Sizes_period := (toFun (st := s_Sizes_period) F0_Sizes_period).binds (ps := ["self"]) fun _ _ _ _ _ _ us hl => match us, hl with | [_], _ => rfl,
    p_Sizes_period := (pp_p_Sizes_period K),
    P_Sizes_period := P0_Sizes_period,
    a_Sizes_classes := (pp_a_Sizes_classes K),
    fd_Sizes_classes := fd_Sizes_classes,
    F_Sizes_classes := toFun (st := s_Sizes_classes) F0_Sizes_classes,
    b_Sizes_classes := (toFun (st := s_Sizes_classes) F0_Sizes_classes).binds (ps := ["self"]) fun _ _ _ _ _ _ us hl => match us, hl with | [_], _ => rfl,
    p_Sizes_classes := (pp_p_Sizes_classes K),
    P_Sizes_classes := P0_Sizes_classes,
    a_show_sizes := (pp_a_show_sizes K),
    fd_show_sizes := fd_show_sizes,
    F_show_sizes := toFun (st := s_show_sizes) F0_show_sizes,
    b_show_sizes := (toFun (st := s_show_sizes) F0_show_sizes).binds (ps := ["sizes"]) fun _ _ _ _ _ _ us hl => match us, hl with | [_], _ => rfl,
    m_show_sizes := PySem.W.mg_of X G at_show_sizes,
    a_read_sizes := (pp_a_read_sizes K),
    fd_read_sizes := fd_read_sizes,
    F_read_sizes := toFun (st := s_read_sizes) F0_read_sizes,
    b_read_sizes := (toFun (st := s_read_sizes) F0_read_sizes).binds (ps := ["text"]) fun _ _ _ _ _ _ us hl => match us, hl with | [_], _ => rfl,
    m_read_sizes := PySem.W.mg_of X G at_read_sizes,
    a__law_refused := (pp_a__law_refused K),
    fd__law_refused := fd__law_refused,
    F__law_refused := toFun (st := s__law_refused) F0__law_refused,
    b__law_refused := (toFun (st := s__law_refused) F0__law_refused).binds (ps := ["_law_text", "_law_is_count"]) fun _ _ _ _ _ _ us hl => match us, hl with | [_, _], _ => rfl,
    m__law_refused := PySem.W.mg_of X G at__law_refused,
    a_Count___eq__ := (pp_a_Count___eq__ K),
    fd_Count___eq__ := fd_Count___eq__,
    F_Count___eq__ := toFun (st := s_Count___eq__) F0_Count___eq__,
    b_Count___eq__ := (toFun (st := s_Count___eq__) F0_Count___eq__).binds (ps := ["self", "other"]) fun _ _ _ _ _ _ us hl => match us, hl with | [_, _], _ => rfl,
    M_Count___eq__ := ⟨at_Count___eq__, fn_Count___eq__, F0_Count___eq__.kp⟩,
    a_Sizes_told := (pp_a_Sizes_told K),
    fd_Sizes_told := fd_Sizes_told,
    F_Sizes_told := toFun (st := s_Sizes_told) F0_Sizes_told,
    b_Sizes_told := (toFun (st := s_Sizes_told) F0_Sizes_told).binds (ps := ["self"]) fun _ _ _ _ _ _ us hl => match us, hl with | [_], _ => rfl,
    M_Sizes_told := ⟨at_Sizes_told, fn_Sizes_told, F0_Sizes_told.kp⟩,
    a_Sizes___eq__ := (pp_a_Sizes___eq__ K),
    fd_Sizes___eq__ := fd_Sizes___eq__,
    F_Sizes___eq__ := toFun (st := s_Sizes___eq__) F0_Sizes___eq__,
    b_Sizes___eq__ := (toFun (st := s_Sizes___eq__) F0_Sizes___eq__).binds (ps := ["self", "other"]) fun _ _ _ _ _ _ us hl => match us, hl with | [_, _], _ => rfl,
    M_Sizes___eq__ := ⟨at_Sizes___eq__, fn_Sizes___eq__, F0_Sizes___eq__.kp⟩,
    a_law := (pp_a_law K),
    fd_law := fd_law,
    F_law := toFun (st := s_law) F0_law,
    b_law := (toFun (st := s_law) F0_law).binds (ps := ["_law_script"]) fun _ _ _ _ _ _ us hl => match us, hl with | [_], _ => rfl,
    m_law := PySem.W.mg_of X G at_law,
    kt_int_Count := kt_int_Count,
    kt_bool_Count := kt_bool_Count,
    kt_str_Count := kt_str_Count,
    kt_tuple_Count := kt_tuple_Count,
    kt_list_Count := kt_list_Count,
    kt_NoneType_Count := kt_NoneType_Count,
    kt_Sizes_Count := kt_Sizes_Count,
    kt_int_Sizes := kt_int_Sizes,
    kt_bool_Sizes := kt_bool_Sizes,
    kt_str_Sizes := kt_str_Sizes,
    kt_tuple_Sizes := kt_tuple_Sizes,
    kt_list_Sizes := kt_list_Sizes,
    kt_NoneType_Sizes := kt_NoneType_Sizes,
    kt_Count_Sizes := kt_Count_Sizes,
    su_Count_bool := su_Count_bool,
    su_Sizes_bool := su_Sizes_bool,
    su_Count_int := su_Count_int,
    su_Sizes_int := su_Sizes_int,
    su_Count_tuple := su_Count_tuple,
    su_Sizes_tuple := su_Sizes_tuple,
    ex_InvalidCount_InvalidCount := ex_InvalidCount_InvalidCount,
    ex_InvalidSizes_InvalidCount := ex_InvalidSizes_InvalidCount,
    ex_InvalidText_InvalidCount := ex_InvalidText_InvalidCount,
    ex_InvalidCount_InvalidSizes := ex_InvalidCount_InvalidSizes,
    ex_InvalidSizes_InvalidSizes := ex_InvalidSizes_InvalidSizes,
    ex_InvalidText_InvalidSizes := ex_InvalidText_InvalidSizes,
    ex_InvalidCount_InvalidText := ex_InvalidCount_InvalidText,
    ex_InvalidSizes_InvalidText := ex_InvalidSizes_InvalidText,
    ex_InvalidText_InvalidText := ex_InvalidText_InvalidText,
    no_InvalidCount_line := no_InvalidCount_line,
    no_InvalidSizes_line := no_InvalidSizes_line,
    no_InvalidText_word := no_InvalidText_word,
    NE_Count := NE_Count,
    NE_Sizes := NE_Sizes }
  exact ⟨fd_law, fun s v => FunD.bindsA (ps := ["_law_script"]) F0_law (fun _ _ _ _ _ _ us hl => match us, hl with | [_], _ => rfl) s [v] rfl, fun base _ _ => (Tx.ok_law t).imp fun vs H Q E q => spL_to (T := (tab (pp_c_Count K) (pp_c_Sizes K) (pp_c_InvalidCount K) (pp_c_InvalidSizes K) (pp_c_InvalidText K))) law_of q⟩
end K
namespace KH
open PySem PySem.W PySem.Calls PyProof.Rows
abbrev R : OpenRow := OpenLaw.row PySem.Challenge.rw_clashcounts_k37_texts_that_are_none
abbrev qv : Program := view R.prog [63]
def nms : List PySem.Str := (["_wall", "ClashError", "InvalidText", "InvalidCount", "InvalidSizes", "InvalidSize", "is_integer", "common", "multiple", "ascending", "prime_powers", "divisors", "figures", "number_told", "MOST_COEFFICIENTS", "are_integers", "ascend", "are_pairs", "are_parts", "are_odd", "cut", "worth", "plus", "plain_value", "Count", "count_from", "closed_sizes", "closure", "row_of", "last_change"] : List PySem.Str) ++ (["is_never_below", "BOTH", "EITHER", "FIRST", "ONE", "are_sizes", "is_needless", "shortest", "Sizes", "FIGURES", "spaced", "listed", "show_count", "show_sizes", "integer_of", "integers_of", "pair_of", "pairs_of", "odd_of", "read_count", "read_sizes", "_law_box", "_law_take", "_law_refused", "_law_number", "_law_counts", "_law_sets"] : List PySem.Str)
set_option maxHeartbeats 0 in
theorem run_false0 (w : World) : Dl.Run1 R 100000 (fun s => HandSHeadRun.looksF R.prog (PySem.W.boot_heap (w.withFollow "special-get-raises" false).params) s.abs) true (w.withFollow "special-get-raises" false) := by
  intro os
  kernel_rfl
set_option maxHeartbeats 0 in
theorem run_false1 (w : World) : Dl.Run1 R 100000 (fun s => HandSHeadRun.seenQ qv nms (importedModules R.prog.main.body) (fun s => PySem.W.xlAt qv [] s && PySem.W.recOk R.toRowW.records s) s.abs) (PySem.W.openGood qv nms) (w.withFollow "special-get-raises" false) := by
  intro os
  kernel_rfl
set_option maxHeartbeats 0 in
theorem run_false2 (w : World) : Dl.Run1 R 100000 (Dl.obX 6 K.fcl K.fnl) ((Dl.hookX 6 K.fcl K.fnl).val (w.withFollow "special-get-raises" false)) (w.withFollow "special-get-raises" false) := by
  intro os
  kernel_rfl
theorem run_false (w : World) : HandSHeadRun.RunEq R qv (Dl.hookX 6 K.fcl K.fnl) (Dl.obX 6 K.fcl K.fnl) 100000 nms (w.withFollow "special-get-raises" false) := Dl.run3 (run_false0 w) (run_false1 w) (run_false2 w)
set_option maxHeartbeats 0 in
theorem run_true0 (w : World) : Dl.Run1 R 100000 (fun s => HandSHeadRun.looksF R.prog (PySem.W.boot_heap (w.withFollow "special-get-raises" true).params) s.abs) true (w.withFollow "special-get-raises" true) := by
  intro os
  kernel_rfl
set_option maxHeartbeats 0 in
theorem run_true1 (w : World) : Dl.Run1 R 100000 (fun s => HandSHeadRun.seenQ qv nms (importedModules R.prog.main.body) (fun s => PySem.W.xlAt qv [] s && PySem.W.recOk R.toRowW.records s) s.abs) (PySem.W.openGood qv nms) (w.withFollow "special-get-raises" true) := by
  intro os
  kernel_rfl
set_option maxHeartbeats 0 in
theorem run_true2 (w : World) : Dl.Run1 R 100000 (Dl.obX 6 K.fcl K.fnl) ((Dl.hookX 6 K.fcl K.fnl).val (w.withFollow "special-get-raises" true)) (w.withFollow "special-get-raises" true) := by
  intro os
  kernel_rfl
theorem run_true (w : World) : HandSHeadRun.RunEq R qv (Dl.hookX 6 K.fcl K.fnl) (Dl.obX 6 K.fcl K.fnl) 100000 nms (w.withFollow "special-get-raises" true) := Dl.run3 (run_true0 w) (run_true1 w) (run_true2 w)
theorem run (w : World) : HandSHeadRun.RunEq R qv (Dl.hookX 6 K.fcl K.fnl) (Dl.obX 6 K.fcl K.fnl) 100000 nms w := byRow2 "special-get-raises" (P := fun w => HandSHeadRun.RunEq R qv (Dl.hookX 6 K.fcl K.fnl) (Dl.obX 6 K.fcl K.fnl) 100000 nms w) run_false run_true w
end KH
open PySem PySem.W PySem.Calls PyProof.Rows in
set_option maxRecDepth 100000 in
set_option maxHeartbeats 0 in
theorem PySem.Challenge.cw_clashcounts_k37_texts_that_are_none_holds : PySem.Challenge.rw_clashcounts_k37_texts_that_are_none.Holds := by
  w_on; o_law
  refine HandSHeadRun.head_any (r := OpenLaw.row PySem.Challenge.rw_clashcounts_k37_texts_that_are_none) (q := KH.qv) (H := Dl.hookX 6 K.fcl K.fnl) (ob := Dl.obX 6 K.fcl K.fnl) (M := 100000) (loose := KH.nms) (d := HandSHeadRun.topDef (OpenLaw.row PySem.Challenge.rw_clashcounts_k37_texts_that_are_none).prog 63) (kwd := []) (Dl.obX_eq 6 K.fcl K.fnl) (by kernel_rfl) (fun s => by kernel_rfl) KH.run (by kernel_rfl) (by kernel_rfl) (by kernel_rfl) (by rfl) (by first | assumption | decide +kernel) (by decide +kernel) ⟨rfl, rfl, rfl, rfl, rfl, by decide +kernel⟩ ?hw ?hc
  case hw => w_witness2
  case hc =>
    refine Dl.walk_xB (l := PySem.Challenge.rw_clashcounts_k37_texts_that_are_none) (n := 63) (k := 9) (x := "_law_script") rfl (by decide) (by kernel_rfl) ⟨rfl, by decide, by decide⟩ ?F (by decide)
    intro w mg fa h Y G hmg0
    obtain ⟨K, KX, c⟩ := Y
    have hmg : mg ("law" : PySem.Str) = some (.ref fa) := by
      have e : (HandSHeadRun.topDef (OpenLaw.row PySem.Challenge.rw_clashcounts_k37_texts_that_are_none).prog 63).name = ("law" : PySem.Str) := by kernel_rfl
      rw [← e]
      exact hmg0
    obtain ⟨fd, hb, hF⟩ := _root_.K.all_mk (P := (PySem.Challenge.rw_clashcounts_k37_texts_that_are_none).prog) (w := w) KX G hmg c
    exact ⟨K, fd, KX, hb, hF⟩
