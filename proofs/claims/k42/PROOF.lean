import PyProof.Rows.All
import Wide.All
import OpenK.AllK
import Wide.FinOn
import HandS.ForMost
import HandS.Wide
import HandS.EndBits
import HandS.Zip
import HandS.IsInst
import HandS.Defaults
import HandS.MakeKwOnly
import HandS.Property
import HandS.OwnEq
import HandS.Lambda
import KE.KDictKeyed
import HandS.Exc
import HandS.WordsExc
import HandS.TupAny
import HandS.Flow
import HandS.Style
import KE.KOpsOwn
import KE.GoesEnum
import HandS.NoneIn
import HandS.ExcInit
import HandS.ExcIs
import HandS.ExcField
import HandS.TryMany
import HandS.ExcOwn
import HandS.Text
import PyProof.StrOps2
import HandS.Iter
import HandS.TupMul
import HandS.RaiseMore
import KE.GoesMore
import HandS.TupLe
import HandS.More
import OpenK.KMeth
import OpenK.KOps
import KE.KCallOwn
import HandS.Conv
import HandS.MakeKw
import PyProof.Rows.Range3
import HandS.Dict
import HandS.Small
import HandS.DictComp
import HandS.SortInts
import HandS.ListItems
import HandS.WordsDict
import HandS.Star
import HandS.EndTab
import HandS.NestedK
import KE.KNestM
import HandS.StrMore
import HandS.FStr
import HandS.ReplaceLit
import HandS.Replace
import HandS.ReplaceList
import KE.KExcInit
import HandS.Records
import HandS.TryOnly
import HandS.DictTup
import HandS.HeadHook3
import PyProof.NeKinds
import PyProof.AutoSeq1
import KE.KUnpackStar
import KE.DataEq
import PyProof.Rows.StrRev
import HandS.ExcCtx
import HandS.SuiteRaise
import HandS.RaiseFrom
import HandS.ExcInitHot
import KE.GoesRaise
import KE.KStateDown
import HandS.Head0
import HandS.Head1
import HandS.Head2
import HandS.HeadEnd
import HandS.HeadHook1
import HandS.HeadHook2
import PySem.Challenge.RW_clashcounts_k42_rings_shifted_in_place
set_option Elab.async false
set_option linter.all false
set_option maxRecDepth 100000
set_option maxHeartbeats 1000000
namespace Dl
open PySem L2
structure LamF where
  q : Str
  ps : Arguments
  b : Expr
  sc : Scope
def LamO (f : Addr) (F : LamF) (c : Addr) : HO := .ext fun h => ∃ pm ctv : Value, h.get? f = some (PySem.W.kla_obj "<lambda>" F.q F.ps F.b F.sc [] pm c ctv)
inductive D where
  | non | bl (b : Bool) | int (i : Int) | str (x : Str) | tup (xs : List D) | lst (xs : List D) | obj (n : Nat) (xs : List D) | scr (xs : List D)
  /-- a caught error: its class, where it stands, its dict, its attributes -/
  | err (n : Nat) (a : Addr) (dd : Option Addr) (xs : List D)
  /-- a class -/
  | cls (C : Addr)
  /-- a dict that is only read: its keys, its values -/
  | dct (ks : List Key) (xs : List D)
  /-- a lambda -/
  | fn (F : LamF)
  /-- a dict that is only read, its keys tuples of ints and such tuples -/
  | dcn (ks xs : List D)
def nkD : D → Option NestedKey
  | .int i => some (.num i)
  | .tup ds => (go ds).map .tup
  | _ => none
where go : List D → Option (List NestedKey)
  | [] => some []
  | d :: ds => match nkD d, go ds with
    | some k, some ks => some (k :: ks)
    | _, _ => none
def DN (xs : List (NestedKey × Addr × Value)) (o : Obj) : Prop := o.ExactDict ∧ (∃ es ep, o.data = .dict es ep ∧ ∀ (P : Program) (w : World), es.toList = xs.map (entryOfKey (nestedKind P w))) ∧ (xs.map (·.1)).Nodup ∧ ∀ x ∈ xs, x.1.depth ≤ 8
def dN (a : Addr) (o : Obj) : HO := .ext fun h => h.get? a = some o
abbrev Tab := Nat → Option (Addr × List Str)
def TAt (K : PySem.W.Frag) (M : Addr → Prop) (H : Hp) (a : Addr) (vs : List V) : Prop := (¬ M a ∧ Rd H a (.tup vs)) ∨ SqT K (fun _ => none) a vs
def LAt (K : PySem.W.Frag) (M : Addr → Prop) (H : Hp) (a : Addr) (vs : List V) : Prop := (¬ M a ∧ ∃ o, H a = some (.frz o (.lst vs))) ∨ SqL K (fun _ => none) a vs
def XAt (M : Addr → Prop) (H : Hp) (dd : Option Addr) (fn : List Str) (vs : List V) : Prop := (fn = [] ∧ vs = [] ∧ dd = none) ∨ ∃ d, dd = some d ∧ ¬ M d ∧ H d = some (.xd (fn.zip vs)) ∧ vs.length = fn.length
mutual
inductive Rep (T : Tab) (K : PySem.W.Frag) (M : Addr → Prop) (H : Hp) : V → D → Prop
  | non : Rep T K M H .non .non
  | bl {b : Bool} : Rep T K M H (.bl b) (.bl b)
  | int {i : Int} : Rep T K M H (.int i) (.int i)
  | str {x : Str} : Rep T K M H (.str x) (.str x)
  | tup {a : Addr} {vs : List V} {ds : List D} : TAt K M H a vs → Reps T K M H vs ds → Rep T K M H (.ref a) (.tup ds)
  | lst {a : Addr} {vs : List V} {ds : List D} : ¬ M a → H a = some (.lst vs) → Reps T K M H vs ds → Rep T K M H (.ref a) (.lst ds)
  | scr {a : Addr} {vs : List V} {ds : List D} : LAt K M H a vs → Reps T K M H vs ds → Rep T K M H (.ref a) (.scr ds)
  | obj {a C dx : Addr} {n : Nat} {fn : List Str} {vs : List V} {ds : List D} : T n = some (C, fn) → ¬ M a → H a = some (.ins C dx (fn.zip vs)) → vs.length = fn.length → Reps T K M H vs ds → Rep T K M H (.ref a) (.obj n ds)
  | err {a C : Addr} {n : Nat} {fn : List Str} {dd : Option Addr} {vs : List V} {ds : List D} : T n = some (C, fn) → XAt M H dd fn vs → Reps T K M H vs ds → Rep T K M H (.ref a) (.err n a dd ds)
  | cls {C : Addr} : Rep T K M H (.ref C) (.cls C)
  | dct {a : Addr} {o : Obj} {kvs : List (Key × V)} {ks : List Key} {ds : List D} : ¬ M a → H a = some (.frz o (.dK kvs)) → kvs.map (·.1) = ks → Reps T K M H (kvs.map (·.2)) ds → Rep T K M H (.ref a) (.dct ks ds)
  | fn {f c : Addr} {F : LamF} : ¬ M f → ¬ M c → H f = some (LamO f F c) → H c = some (LamX.CodeO c F.q) → Rep T K M H (.ref f) (.fn F)
  | dcn {a : Addr} {o od : Obj} {xs : List (NestedKey × Addr × Value)} {vs : List V} {ks ds : List D} : ¬ M a → H a = some (.frz od (dN a o)) → DN xs o → (a == sysModules) = false → xs.length ≤ sizeLine → Reps T K M H (xs.map fun x => V.ref x.2.1) ks → ks.map nkD = xs.map (fun x => some x.1) → Vals vs (xs.map fun x => x.2.2) → Reps T K M H vs ds → Rep T K M H (.ref a) (.dcn ks ds)
inductive Reps (T : Tab) (K : PySem.W.Frag) (M : Addr → Prop) (H : Hp) : List V → List D → Prop
  | nil : Reps T K M H [] []
  | cons {v : V} {d : D} {vs : List V} {ds : List D} : Rep T K M H v d → Reps T K M H vs ds → Reps T K M H (v :: vs) (d :: ds)
end
section
variable {T : Tab} {K : PySem.W.Frag} {M M' : Addr → Prop} {H H' : Hp} {a : Addr} {v : V} {d : D} {vs : List V} {ds : List D}
def Kp (M : Addr → Prop) (H : Hp) (M' : Addr → Prop) (H' : Hp) : Prop := ∀ a o, H a = some o → ¬ M a → H' a = some o ∧ ¬ M' a
theorem Kp.refl : Kp M H M H := fun _ _ h n => ⟨h, n⟩
theorem Kp.trans {M2 : Addr → Prop} {H2 : Hp} (x : Kp M H M' H') (y : Kp M' H' M2 H2) : Kp M H M2 H2 := fun a o h n =>
  let ⟨h1, n1⟩ := x a o h n
  y a o h1 n1
theorem TAt.kp (k : Kp M H M' H') (h : TAt K M H a vs) : TAt K M' H' a vs := by
  rcases h with ⟨n, h | ⟨o, h⟩⟩ | h
  · exact .inl ⟨(k _ _ h n).2, .inl (k _ _ h n).1⟩
  · exact .inl ⟨(k _ _ h n).2, .inr ⟨o, (k _ _ h n).1⟩⟩
  · exact .inr h
theorem LAt.kp (k : Kp M H M' H') (h : LAt K M H a vs) : LAt K M' H' a vs := by
  rcases h with ⟨n, o, h⟩ | h
  · exact .inl ⟨(k _ _ h n).2, o, (k _ _ h n).1⟩
  · exact .inr h
theorem TAt.sq (h : TAt K M H a vs) : SqT K H a vs := by
  rcases h with ⟨n, h⟩ | h
  · exact .inl h
  · rcases h with (h | ⟨_, h⟩) | h
    · cases h
    · cases h
    · exact .inr h
theorem LAt.sq (h : LAt K M H a vs) : SqL K H a vs := by
  rcases h with h | h
  · exact .inl (.inr h.2)
  · rcases h with (h | ⟨_, h⟩) | h
    · cases h
    · cases h
    · exact .inr h
theorem LAt.of (hO : Only H) (h : SqL K H a vs) : LAt K (fun _ => False) H a vs := by
  rcases h with (h | ⟨o, h⟩) | h
  · rcases hO a with e | ⟨o, xs, e⟩ <;> rw [e] at h <;> cases h
  · exact .inl ⟨id, o, h⟩
  · exact .inr (.inr h)
theorem XAt.kp {dd : Option Addr} {fn : List Str} (k : Kp M H M' H') (h : XAt M H dd fn vs) : XAt M' H' dd fn vs := by
  rcases h with h | ⟨d, e, n, h1, h2⟩
  · exact .inl h
  · exact .inr ⟨d, e, (k _ _ h1 n).2, (k _ _ h1 n).1, h2⟩
mutual
theorem Rep.kp (k : Kp M H M' H') {v : V} {d : D} (h : Rep T K M H v d) : Rep T K M' H' v d :=
  match h with
  | .non => .non
  | .bl => .bl
  | .int => .int
  | .str => .str
  | .tup h1 h2 => .tup (h1.kp k) (Reps.kp k h2)
  | .lst n h1 h2 => .lst (k _ _ h1 n).2 (k _ _ h1 n).1 (Reps.kp k h2)
  | .scr h1 h2 => .scr (h1.kp k) (Reps.kp k h2)
  | .obj ht hm h1 hl h2 => .obj ht (k _ _ h1 hm).2 (k _ _ h1 hm).1 hl (Reps.kp k h2)
  | .err ht h1 h2 => .err ht (h1.kp k) (Reps.kp k h2)
  | .cls => .cls
  | .dct n h1 hl h2 => .dct (k _ _ h1 n).2 (k _ _ h1 n).1 hl (Reps.kp k h2)
  | .fn n m h1 h2 => .fn (k _ _ h1 n).2 (k _ _ h2 m).2 (k _ _ h1 n).1 (k _ _ h2 m).1
  | .dcn n h1 h2 h3 h4 h5 h6 h7 h8 => .dcn (k _ _ h1 n).2 (k _ _ h1 n).1 h2 h3 h4 (Reps.kp k h5) h6 h7 (Reps.kp k h8)
theorem Reps.kp (k : Kp M H M' H') {vs : List V} {ds : List D} (h : Reps T K M H vs ds) : Reps T K M' H' vs ds :=
  match h with
  | .nil => .nil
  | .cons h1 h2 => .cons (Rep.kp k h1) (Reps.kp k h2)
end
theorem Reps.length (h : Reps T K M H vs ds) : vs.length = ds.length := by
  induction ds generalizing vs with
  | nil => cases h; rfl
  | cons d ds ih => cases h with | cons h1 h2 => simp [ih h2]
theorem Reps.get : ∀ {vs : List V} {ds : List D} {i : Nat} {d : D}, Reps T K M H vs ds → ds[i]? = some d → ∃ v, vs[i]? = some v ∧ Rep T K M H v d
  | _, _, _, _, .nil, e => by simp at e
  | _, _, 0, _, .cons r _, e => by simp at e; subst e; exact ⟨_, rfl, r⟩
  | _, _, i + 1, d, .cons _ t, e => by
    obtain ⟨u, h1, h2⟩ := Reps.get (i := i) (d := d) t (by simpa using e)
    exact ⟨u, by simpa using h1, h2⟩
theorem Reps.append : ∀ {vs ws : List V} {ds es : List D}, Reps T K M H vs ds → Reps T K M H ws es → Reps T K M H (vs ++ ws) (ds ++ es)
  | _, _, _, _, .nil, s => s
  | _, _, _, _, .cons r t, s => .cons r (Reps.append t s)
theorem Reps.take : ∀ {vs : List V} {ds : List D} (n : Nat), Reps T K M H vs ds → Reps T K M H (vs.take n) (ds.take n)
  | _, _, 0, _ => .nil
  | _, _, _ + 1, .nil => .nil
  | _, _, n + 1, .cons r t => .cons r (Reps.take n t)
theorem Reps.drop : ∀ {vs : List V} {ds : List D} (n : Nat), Reps T K M H vs ds → Reps T K M H (vs.drop n) (ds.drop n)
  | _, _, 0, r => r
  | _, _, _ + 1, .nil => .nil
  | _, _, n + 1, .cons _ t => Reps.drop n t
theorem Reps.set {v : V} {d : D} (r : Rep T K M H v d) : ∀ {vs : List V} {ds : List D} (i : Nat), Reps T K M H vs ds → Reps T K M H (vs.set i v) (ds.set i d)
  | _, _, _, .nil => .nil
  | _, _, 0, .cons _ t => .cons r t
  | _, _, i + 1, .cons q t => .cons q (Reps.set r i t)
theorem Reps.replicate {v : V} {d : D} (r : Rep T K M H v d) : ∀ n, Reps T K M H (List.replicate n v) (List.replicate n d)
  | 0 => .nil
  | n + 1 => .cons r (Reps.replicate r n)
theorem Reps.ints : ∀ (ns : List Int), Reps T K M H (ns.map V.int) (ns.map D.int)
  | [] => .nil
  | _ :: r => .cons .int (Reps.ints r)
end
inductive Cell where
  | lst (xs : List D)
  | dct (kvs : List (Key × D))
  | ins (n : Nat) (fs : List (Str × D))
  | dcn (kds : List (D × D))
  /-- a list, a dict, an instance whose address is known -/
  | lstA (p : Addr) (xs : List D)
  | dctA (p : Addr) (kvs : List (Key × D))
  | insA (p : Addr) (n : Nat) (fs : List (Str × D))
inductive Sl where
  | dat (d : D)
  | cel (k : Nat)
structure Sta where
  sl : List (Option Sl)
  cs : List Cell
abbrev Mm (ad : List Addr) (F : Addr → Prop) : Addr → Prop := fun a => a ∈ ad ∨ F a
def NDat (T : Tab) (K : PySem.W.Frag) (M : Addr → Prop) (H : Hp) (a : Addr) (o : Obj) (kds : List (D × D)) : Prop := ∃ xs vs, DN xs o ∧ (a == sysModules) = false ∧ xs.length ≤ sizeLine ∧ Reps T K M H (xs.map fun x => V.ref x.2.1) (kds.map (·.1)) ∧ (kds.map (·.1)).map nkD = xs.map (fun x => some x.1) ∧ Vals vs (xs.map fun x => x.2.2) ∧ Reps T K M H vs (kds.map (·.2))
theorem NDat.kp {T : Tab} {K : PySem.W.Frag} {M M' : Addr → Prop} {H H' : Hp} {a : Addr} {o : Obj} {kds : List (D × D)} (k : Kp M H M' H') (h : NDat T K M H a o kds) : NDat T K M' H' a o kds :=
  let ⟨xs, vs, h1, h2, h3, h4, h5, h6, h7⟩ := h
  ⟨xs, vs, h1, h2, h3, h4.kp k, h5, h6, h7.kp k⟩
abbrev NoC (o : HO) : Prop := ∀ φ, o = .ext φ → ∀ c q, HO.ext φ ≠ LamX.CodeO c q
theorem dN_noc {a : Addr} {o : Obj} (hd : ∃ es ep, o.data = .dict es ep) : NoC (dN a o) := fun φ e c q z => by
  obtain ⟨es, ep, hd⟩ := hd
  have z : dN a o = LamX.CodeO c q := e.trans z
  unfold dN LamX.CodeO at z
  injection z with z
  have hh : ∀ h : Heap, (h.get? a = some o) = (∃ (oc : Obj) (vs : Array Value) (t : Tok), h.get? c = some oc ∧ oc.data = .fields vs ∧ vs[1]? = some (.str q t)) := fun h => congrFun z h
  have g : ∀ b : Addr, Heap.get? { (default : Heap) with objs := (Array.replicate (a + 1) o) } b = if b < a + 1 then some o else none := fun b => by
    obtain ⟨x1, x2, x3, x4⟩ := o
    have hd : x3 = .dict es ep := hd
    subst hd
    unfold Heap.get?
    rw [Array.getElem?_replicate]
    by_cases z : b < a + 1
    · rw [if_pos z]
    · rw [if_neg z]
  have h1 := hh { (default : Heap) with objs := (Array.replicate (a + 1) o) }
  rw [g, g, if_pos (Nat.lt_succ_self a)] at h1
  obtain ⟨oc, vs, t, e1, e2, _⟩ := h1.mp rfl
  split at e1
  · cases e1
    rw [hd] at e2
    cases e2
  · cases e1
def CellAt (T : Tab) (K : PySem.W.Frag) (M : Addr → Prop) (H : Hp) (a : Addr) : Cell → Prop
  | .lst ds => ∃ vs, H a = some (.lst vs) ∧ Reps T K M H vs ds
  | .dct kds => ∃ kvs, H a = some (.dK kvs) ∧ kvs.map (·.1) = kds.map (·.1) ∧ Reps T K M H (kvs.map (·.2)) (kds.map (·.2))
  | .dcn kds => ∃ o, H a = some (dN a o) ∧ NDat T K M H a o kds
  | .ins n fs => ∃ C fn dx vs, T n = some (C, fn) ∧ H a = some (.ins C dx ((fs.map (·.1)).zip vs)) ∧ vs.length = fs.length ∧ Reps T K M H vs (fs.map (·.2))
  | .lstA p ds => ∃ vs, (H a = some (.lst vs) ∧ Reps T K M H vs ds) ∧ p = a
  | .dctA p kds => ∃ kvs, (H a = some (.dK kvs) ∧ kvs.map (·.1) = kds.map (·.1) ∧ Reps T K M H (kvs.map (·.2)) (kds.map (·.2))) ∧ p = a
  | .insA p n fs => ∃ C fn dx vs, (T n = some (C, fn) ∧ H a = some (.ins C dx ((fs.map (·.1)).zip vs)) ∧ vs.length = fs.length ∧ Reps T K M H vs (fs.map (·.2))) ∧ p = a
def SlRep (T : Tab) (K : PySem.W.Frag) (ad : List Addr) (F : Addr → Prop) (H : Hp) (v : V) : Sl → Prop
  | .dat d => Rep T K (Mm ad F) H v d
  | .cel k => ∃ a, ad[k]? = some a ∧ v = .ref a
def Fr1 (H H' : Hp) (a : Addr) : Prop := H' a = H a ∨ ∃ ps qs, H a = some (.tbl ps) ∧ H' a = some (.tbl qs)
def TbOk (T : Tab) (F : Addr → Prop) (H : Hp) : Prop := ∀ P q, T 900 = some (P, [q]) → F P ∧ LamX.TabS H P q ∧ ∀ a, F a → ∃ o, H a = some o ∧ NoC o
structure HoldC (T : Tab) (K : PySem.W.Frag) (ad : List Addr) (F : Addr → Prop) (H : Hp) (cs : List Cell) : Prop where
  nd : ad.Nodup
  fr : ∀ a ∈ ad, ¬ F a
  al : ∀ a, F a → ∃ o, H a = some o
  tb : TbOk T F H
  ln : ad.length = cs.length
  ce : ∀ (k : Nat) a c, ad[k]? = some a → cs[k]? = some c → CellAt T K (Mm ad F) H a c
structure Hold (T : Tab) (K : PySem.W.Frag) (S : Sta) (ad : List Addr) (F : Addr → Prop) (σ : St) (H : Hp) : Prop where
  hc : HoldC T K ad F H S.cs
  sz : σ.length = S.sl.length
  sl : ∀ (i : Nat) s, S.sl[i]? = some (some s) → ∃ v, σ[i]? = some (some v) ∧ SlRep T K ad F H v s
structure Ext (ad : List Addr) (F : Addr → Prop) (H : Hp) (ad' : List Addr) (H' : Hp) : Prop where
  pre : ∃ t, ad' = ad ++ t ∧ ∀ a ∈ t, H a = none
  keep : ∀ a o, H a = some o → ¬ Mm ad F a → H' a = some o
  frm : ∀ a, F a → Fr1 H H' a
section
variable {T : Tab} {K : PySem.W.Frag} {F : Addr → Prop} {ad ad1 ad2 : List Addr} {H H1 H2 : Hp} {cs : List Cell} {S : Sta} {σ : St} {v : V} {d : D} {s : Sl}
theorem Fr1.same {a : Addr} (e : H1 a = H a) : Fr1 H H1 a := .inl e
theorem Fr1.trans {a : Addr} (x : Fr1 H H1 a) (y : Fr1 H1 H2 a) : Fr1 H H2 a := by
  rcases x with x | ⟨p, q, x1, x2⟩ <;> rcases y with y | ⟨p', q', y1, y2⟩
  · exact .inl (y.trans x)
  · exact .inr ⟨p', q', x ▸ y1, y2⟩
  · exact .inr ⟨p, q, x1, y.trans x2⟩
  · exact .inr ⟨p, q', x1, y2⟩
theorem Fr1.ex {a : Addr} (x : Fr1 H H1 a) (h : ∃ o, H a = some o) : ∃ o, H1 a = some o := by
  rcases x with x | ⟨_, q, _, x2⟩
  · rw [x]; exact h
  · exact ⟨_, x2⟩
theorem Fr1.eq {a : Addr} {o : HO} (x : Fr1 H H1 a) (h : H a = some o) (n : ∀ ps, o ≠ .tbl ps) : H1 a = some o := by
  rcases x with x | ⟨p, q, x1, _⟩
  · rw [x]; exact h
  · rw [h] at x1
    cases x1
    exact absurd rfl (n p)
theorem TbOk.ext (t : TbOk T F H) (e : ∀ b o, H b = some o → H1 b = some o) : TbOk T F H1 := fun P q h => by
  obtain ⟨t1, t2, t3⟩ := t P q h
  refine ⟨t1, t2.ext e, fun a fa => ?_⟩
  obtain ⟨o, o1, o2⟩ := t3 a fa
  exact ⟨o, e a o o1, o2⟩
theorem TbOk.upd {a : Addr} {o o' : HO} (t : TbOk T F H) (h : H a = some o) (n1 : ∀ ps, o ≠ .tbl ps) (n2 : NoC o) (n3 : NoC o') : TbOk T F (L2.upd H a o') := fun P q e => by
  obtain ⟨fp, ⟨ps, e1, e2, e3⟩, t3⟩ := t P q e
  have h1 : P ≠ a := fun z => n1 ps (Option.some.inj (h.symm.trans (z ▸ e1)))
  refine ⟨fp, ⟨ps, by rw [upd_ne h1]; exact e1, e2, fun pos cv hc => ?_⟩, fun b fb => ?_⟩
  · obtain ⟨c, c1, c2⟩ := e3 pos cv hc
    have h2 : c ≠ a := fun z => n2 _ (Option.some.inj (h.symm.trans (z ▸ c2))) c q rfl
    exact ⟨c, c1, by rw [upd_ne h2]; exact c2⟩
  · by_cases z : b = a
    · rw [z]; exact ⟨o', upd_same, n3⟩
    · rw [upd_ne z]; exact t3 b fb
theorem TbOk.new {a : Addr} {o' : HO} (t : TbOk T F H) (h : H a = none) : TbOk T F (L2.upd H a o') := t.ext fun b o e => by rw [upd_ne (ne_of_none e h)]; exact e
theorem TbOk.to {F1 : Addr → Prop} (t : TbOk T F H) (f : ∀ a, F a → F1 a) (g : ∀ a, F1 a → F a ∨ ∃ o, H a = some o ∧ NoC o) : TbOk T F1 H := fun P q e => by
  obtain ⟨t1, t2, t3⟩ := t P q e
  exact ⟨f P t1, t2, fun a fa => (g a fa).elim (t3 a) id⟩
theorem TbOk.newF {a : Addr} {o' : HO} (t : TbOk T F H) (h : H a = none) (n : NoC o') : TbOk T (fun b => F b ∨ b = a) (L2.upd H a o') := (t.new h).to (fun _ z => .inl z) fun b z => z.imp id fun y => by rw [y]; exact ⟨o', upd_same, n⟩
theorem TbOk.back {F1 : Addr → Prop} (t : TbOk T F H) (f : ∀ a, F a → F1 a) (t1 : TbOk T F1 H1) : TbOk T F H1 := fun P q h => ⟨(t P q h).1, (t1 P q h).2.1, fun a fa => (t1 P q h).2.2 a (f a fa)⟩
theorem CellAt.is {M : Addr → Prop} {a : Addr} {c : Cell} (h : CellAt T K M H a c) : ∃ o, H a = some o ∧ (∀ ps, o ≠ .tbl ps) ∧ NoC o := by
  cases c with
  | lst ds => obtain ⟨vs, e, _⟩ := h; exact ⟨_, e, fun _ z => (nomatch z), fun _ z => nomatch z⟩
  | dct kvs => obtain ⟨vs, e, _⟩ := h; exact ⟨_, e, fun _ z => (nomatch z), fun _ z => nomatch z⟩
  | ins n fs => obtain ⟨C, fn, dx, vs, _, e, _⟩ := h; exact ⟨_, e, fun _ z => (nomatch z), fun _ z => nomatch z⟩
  | dcn kds => obtain ⟨o, e, _, _, ⟨_, ⟨es, ep, h1, _⟩, _⟩, _⟩ := h; exact ⟨_, e, fun _ z => (nomatch z), dN_noc ⟨es, ep, h1⟩⟩
  | lstA p ds => obtain ⟨vs, ⟨e, _⟩, _⟩ := h; exact ⟨_, e, fun _ z => (nomatch z), fun _ z => nomatch z⟩
  | dctA p kvs => obtain ⟨vs, ⟨e, _⟩, _⟩ := h; exact ⟨_, e, fun _ z => (nomatch z), fun _ z => nomatch z⟩
  | insA p n fs => obtain ⟨C, fn, dx, vs, ⟨_, e, _⟩, _⟩ := h; exact ⟨_, e, fun _ z => (nomatch z), fun _ z => nomatch z⟩
theorem CellAt.some {M : Addr → Prop} {a : Addr} {c : Cell} (h : CellAt T K M H a c) : ∃ o, H a = some o := by
  cases c with
  | lst ds => obtain ⟨vs, e, _⟩ := h; exact ⟨_, e⟩
  | dct kvs => obtain ⟨vs, e, _⟩ := h; exact ⟨_, e⟩
  | ins n fs => obtain ⟨C, fn, dx, vs, _, e, _⟩ := h; exact ⟨_, e⟩
  | dcn kds => obtain ⟨o, e, _⟩ := h; exact ⟨_, e⟩
  | lstA p ds => obtain ⟨vs, ⟨e, _⟩, _⟩ := h; exact ⟨_, e⟩
  | dctA p kvs => obtain ⟨vs, ⟨e, _⟩, _⟩ := h; exact ⟨_, e⟩
  | insA p n fs => obtain ⟨C, fn, dx, vs, ⟨_, e, _⟩, _⟩ := h; exact ⟨_, e⟩
theorem CellAt.kp {M M' : Addr → Prop} {a : Addr} {c : Cell} (k : Kp M H M' H1) (e : H1 a = H a) (h : CellAt T K M H a c) : CellAt T K M' H1 a c := by
  cases c with
  | lst ds => obtain ⟨vs, h1, h2⟩ := h; exact ⟨vs, e.trans h1, h2.kp k⟩
  | dct kvs => obtain ⟨vs, h1, hl, h2⟩ := h; exact ⟨vs, e.trans h1, hl, h2.kp k⟩
  | ins n fs => obtain ⟨C, fn, dx, vs, ht, h1, hl, h2⟩ := h; exact ⟨C, fn, dx, vs, ht, e.trans h1, hl, h2.kp k⟩
  | dcn kds => obtain ⟨o, h1, h2⟩ := h; exact ⟨o, e.trans h1, h2.kp k⟩
  | lstA p ds => obtain ⟨vs, ⟨h1, h2⟩, hp⟩ := h; exact ⟨vs, ⟨e.trans h1, h2.kp k⟩, hp⟩
  | dctA p kvs => obtain ⟨vs, ⟨h1, hl, h2⟩, hp⟩ := h; exact ⟨vs, ⟨e.trans h1, hl, h2.kp k⟩, hp⟩
  | insA p n fs => obtain ⟨C, fn, dx, vs, ⟨ht, h1, hl, h2⟩, hp⟩ := h; exact ⟨C, fn, dx, vs, ⟨ht, e.trans h1, hl, h2.kp k⟩, hp⟩
theorem CellAt.kp1 {M M' : Addr → Prop} {a : Addr} {c : Cell} (k : Kp M H M' H1) (e : Fr1 H H1 a) (h : CellAt T K M H a c) : CellAt T K M' H1 a c := by
  obtain ⟨o, e1, n1, _⟩ := h.is
  exact h.kp k ((e.eq e1 n1).trans e1.symm)
theorem HoldC.mem (h : HoldC T K ad F H cs) {a : Addr} (ha : a ∈ ad) : ∃ o, H a = some o := by
  obtain ⟨k, hk, e⟩ := List.getElem_of_mem ha
  have h1 : ad[k]? = some a := by rw [List.getElem?_eq_getElem hk, e]
  have h2 : cs[k]? = some (cs[k]'(by rw [← h.ln]; exact hk)) := List.getElem?_eq_getElem _
  exact (h.ce k a _ h1 h2).some
theorem HoldC.is (h : HoldC T K ad F H cs) {a : Addr} (ha : a ∈ ad) : ∃ o, H a = some o ∧ (∀ ps, o ≠ .tbl ps) ∧ NoC o := by
  obtain ⟨k, hk, e⟩ := List.getElem_of_mem ha
  have h1 : ad[k]? = some a := by rw [List.getElem?_eq_getElem hk, e]
  have h2 : cs[k]? = some (cs[k]'(by rw [← h.ln]; exact hk)) := List.getElem?_eq_getElem _
  exact (h.ce k a _ h1 h2).is
theorem HoldC.isx (h : HoldC T K ad F H cs) {a : Addr} (ha : a ∈ ad) : ∃ o, H a = some o ∧ NoC o := let ⟨o, e, _, n⟩ := h.is ha; ⟨o, e, n⟩
theorem HoldC.new (h : HoldC T K ad F H cs) {p : Addr} (hp : H p = none) : ¬ Mm ad F p := fun z => by
  rcases z with z | z
  · obtain ⟨o, e⟩ := h.mem z
    rw [e] at hp
    cases hp
  · obtain ⟨o, e⟩ := h.al p z
    rw [e] at hp
    cases hp
theorem Ext.refl : Ext ad F H ad H := ⟨⟨[], by simp, fun _ h => nomatch h⟩, fun _ _ h _ => h, fun _ _ => .inl rfl⟩
theorem Ext.kp (x : Ext ad F H ad1 H1) : Kp (Mm ad F) H (Mm ad1 F) H1 := fun a o h n => by
  refine ⟨x.keep a o h n, fun z => ?_⟩
  obtain ⟨t, e, ht⟩ := x.pre
  rcases z with z | z
  · rw [e] at z
    rcases List.mem_append.mp z with z | z
    · exact n (.inl z)
    · rw [ht a z] at h
      cases h
  · exact n (.inr z)
theorem Ext.trans (h : HoldC T K ad1 F H1 cs) (x : Ext ad F H ad1 H1) (y : Ext ad1 F H1 ad2 H2) : Ext ad F H ad2 H2 := by
  obtain ⟨t, e, ht⟩ := x.pre
  obtain ⟨u, e2, hu⟩ := y.pre
  refine ⟨⟨t ++ u, by rw [e2, e, List.append_assoc], fun a ha => ?_⟩, fun a o q n => ?_, fun a q => (x.frm a q).trans (y.frm a q)⟩
  · rcases List.mem_append.mp ha with z | z
    · exact ht a z
    · have h1 := hu a z
      cases q : H a with
      | none => rfl
      | some o =>
        exfalso
        by_cases n : Mm ad F a
        · rcases n with n | n
          · obtain ⟨o', e'⟩ := h.mem (a := a) (by rw [e]; exact List.mem_append_left _ n)
            rw [e'] at h1
            cases h1
          · obtain ⟨o', e'⟩ := (x.frm a n).ex ⟨o, q⟩
            rw [e'] at h1
            cases h1
        · rw [x.keep a o q n] at h1
          cases h1
  · exact y.keep a o (x.keep a o q n) (x.kp a o q n).2
end
end Dl
namespace Dl
open PySem L2
theorem ix_inj {α : Type} {l : List α} (h : l.Nodup) {i j : Nat} {x : α} (a : l[i]? = some x) (b : l[j]? = some x) : i = j := by
  have hi := (List.getElem?_eq_some_iff.mp a).1
  exact (List.getElem?_inj hi h).mp (a.trans b.symm)
section
variable {T : Tab} {K : PySem.W.Frag} {F : Addr → Prop} {ad ad1 ad2 : List Addr} {H H1 H2 : Hp} {cs cs' : List Cell} {S S1 S2 : Sta} {σ : St} {v w : V} {d : D} {s s1 s2 : Sl}
theorem SlRep.ext (x : Ext ad F H ad1 H1) (h : SlRep T K ad F H v s) : SlRep T K ad1 F H1 v s := by
  cases s with
  | dat d => exact Rep.kp x.kp h
  | cel k =>
    obtain ⟨a, e, hv⟩ := h
    obtain ⟨t, e1, _⟩ := x.pre
    refine ⟨a, ?_, hv⟩
    rw [e1, List.getElem?_append_left (List.getElem?_eq_some_iff.mp e).1]
    exact e
theorem Hold.to (h : Hold T K S ad F σ H) (x : Ext ad F H ad1 H1) (c : HoldC T K ad1 F H1 cs) : Hold T K ⟨S.sl, cs⟩ ad1 F σ H1 :=
  ⟨c, h.sz, fun i s e => let ⟨v, hv, r⟩ := h.sl i s e; ⟨v, hv, r.ext x⟩⟩
theorem HoldC.newo (h : HoldC T K ad F H cs) {p : Addr} {o : HO} (hp : H p = none) : HoldC T K ad F (upd H p o) cs ∧ Ext ad F H ad (upd H p o) := by
  have ne : ∀ a o', H a = some o' → a ≠ p := fun a o' e => ne_of_none e hp
  have x : Ext ad F H ad (L2.upd H p o) := by
    refine ⟨⟨[], by simp, fun _ z => nomatch z⟩, fun a o' e _ => ?_, fun a fa => ?_⟩
    · rw [upd_ne (ne a o' e)]; exact e
    · obtain ⟨o', e⟩ := h.al a fa
      exact .inl (by rw [upd_ne (ne a o' e)])
  refine ⟨⟨h.nd, h.fr, fun a fa => ?_, h.tb.new hp, h.ln, fun k a c h1 h2 => ?_⟩, x⟩
  · obtain ⟨o', e⟩ := h.al a fa
    exact ⟨o', by rw [upd_ne (ne a o' e)]; exact e⟩
  · have q := h.ce k a c h1 h2
    obtain ⟨o', e⟩ := q.some
    exact q.kp x.kp (upd_ne (ne a o' e))
theorem HoldC.cell (h : HoldC T K ad F H cs) {p : Addr} {o : HO} {c : Cell} (hp : H p = none) (hc : CellAt T K (Mm (ad ++ [p]) F) (upd H p o) p c) :
    HoldC T K (ad ++ [p]) F (upd H p o) (cs ++ [c]) ∧ Ext ad F H (ad ++ [p]) (upd H p o) := by
  have ne : ∀ a o', H a = some o' → a ≠ p := fun a o' e => ne_of_none e hp
  have x : Ext ad F H (ad ++ [p]) (L2.upd H p o) := by
    refine ⟨⟨[p], rfl, fun a z => ?_⟩, fun a o' e _ => ?_, fun a fa => ?_⟩
    · have := List.mem_singleton.mp z; subst this; exact hp
    · rw [upd_ne (ne a o' e)]; exact e
    · obtain ⟨o', e⟩ := h.al a fa
      exact .inl (by rw [upd_ne (ne a o' e)])
  have np : p ∉ ad := fun z => h.new hp (.inl z)
  refine ⟨⟨?_, fun a ha fa => ?_, fun a fa => ?_, h.tb.new hp, by simp [h.ln], fun k a c' h1 h2 => ?_⟩, x⟩
  · rw [List.nodup_append]
    refine ⟨h.nd, by simp, fun a ha b hb e => ?_⟩
    have := List.mem_singleton.mp hb
    exact np (this ▸ e ▸ ha)
  · rcases List.mem_append.mp ha with z | z
    · exact h.fr a z fa
    · have := List.mem_singleton.mp z; subst this; exact h.new hp (.inr fa)
  · obtain ⟨o', e⟩ := h.al a fa
    exact ⟨o', by rw [upd_ne (ne a o' e)]; exact e⟩
  · by_cases hk : k < ad.length
    · rw [List.getElem?_append_left hk] at h1
      rw [List.getElem?_append_left (by rw [← h.ln]; exact hk)] at h2
      have q := h.ce k a c' h1 h2
      obtain ⟨o', e⟩ := q.some
      exact q.kp x.kp (upd_ne (ne a o' e))
    · have hk' : k = ad.length := by
        have := (List.getElem?_eq_some_iff.mp h1).1
        simp at this
        omega
      subst hk'
      rw [List.getElem?_append_right (Nat.le_refl _)] at h1
      rw [h.ln, List.getElem?_append_right (Nat.le_refl _)] at h2
      simp at h1 h2
      subst h1 h2
      exact hc
theorem HoldC.setc (h : HoldC T K ad F H cs) {k : Nat} {a : Addr} {o : HO} {c : Cell} (ha : ad[k]? = some a) (hc : CellAt T K (Mm ad F) (upd H a o) a c) : HoldC T K ad F (upd H a o) (cs.set k c) ∧ Ext ad F H ad (upd H a o) := by
  have hm : a ∈ ad := List.mem_of_getElem? ha
  have nb : ∀ b, ¬ Mm ad F b → b ≠ a := fun b n z => n (.inl (by rw [z]; exact hm))
  have nf : ∀ b, F b → b ≠ a := fun b fb z => h.fr a hm (by rw [← z]; exact fb)
  have x : Ext ad F H ad (L2.upd H a o) := by
    refine ⟨⟨[], by simp, fun _ z => nomatch z⟩, fun b o' e n => ?_, fun b fb => ?_⟩
    · rw [upd_ne (nb b n)]; exact e
    · exact .inl (by rw [upd_ne (nf b fb)])
  obtain ⟨o0, e0, n1, n2⟩ := h.is hm
  have n3 : NoC o := by
    obtain ⟨o', e', _, y⟩ := hc.is
    rw [upd_same] at e'
    cases e'
    exact y
  refine ⟨⟨h.nd, h.fr, fun b fb => ?_, h.tb.upd e0 n1 n2 n3, by simp [h.ln], fun j b c' h1 h2 => ?_⟩, x⟩
  · obtain ⟨o', e⟩ := h.al b fb
    exact ⟨o', by rw [upd_ne (nf b fb)]; exact e⟩
  · by_cases hj : k = j
    · subst hj
      have hlt : k < cs.length := by rw [← h.ln]; exact (List.getElem?_eq_some_iff.mp ha).1
      rw [List.getElem?_set_self hlt] at h2
      rw [ha] at h1
      cases h1; cases h2
      exact hc
    · rw [List.getElem?_set_ne hj] at h2
      have hb : b ≠ a := fun z => by
        subst z
        obtain ⟨l1, e1⟩ := List.getElem?_eq_some_iff.mp ha
        obtain ⟨l2, e2⟩ := List.getElem?_eq_some_iff.mp h1
        exact hj (ix_inj h.nd ha h1)
      exact (h.ce j b c' h1 h2).kp x.kp (upd_ne hb)
theorem HoldC.take (h : HoldC T K ad F H cs) (n : Nat) : HoldC T K (ad.take n) F H (cs.take n) := by
  have sub : ∀ a, Mm (ad.take n) F a → Mm ad F a := fun a z => z.elim (fun z => .inl (List.mem_of_mem_take z)) .inr
  have kp : Kp (Mm ad F) H (Mm (ad.take n) F) H := fun a o e z => ⟨e, fun y => z (sub a y)⟩
  refine ⟨h.nd.sublist (List.take_sublist _ _), fun a ha => h.fr a (List.mem_of_mem_take ha), h.al, h.tb, by simp [h.ln], fun k a c h1 h2 => ?_⟩
  have k1 : ad[k]? = some a := by
    rw [List.getElem?_take] at h1
    split at h1
    · exact h1
    · cases h1
  have k2 : cs[k]? = some c := by
    rw [List.getElem?_take] at h2
    split at h2
    · exact h2
    · cases h2
  exact (h.ce k a c k1 k2).kp kp rfl
end
def tD (T : Tab) (K : PySem.W.Frag) (S : Sta) (s : Sl) (S' : Sta) : TE := fun σ H Q => ∃ ad F, Hold T K S ad F σ H ∧
  ∀ v H' ad', Ext ad F H ad' H' → Hold T K S' ad' F σ H' → SlRep T K ad' F H' v s → Q v H'
def DE (X : Cx) (T : Tab) (S : Sta) (e : Expr) (s : Sl) (S' : Sta) : Prop := PE X e (tD T X.K S s S')
theorem weak {X : Cx} {e : Expr} {t t' : TE} (h : PE X e t) (q : ∀ σ H Q, t' σ H Q → t σ H Q) : PE X e t' := ⟨fun pins s σ H Q I z => h.run pins s σ H Q I (q σ H Q z)⟩
theorem weakT {X : Cx} {e : Expr} {t t' : TT} (h : PT X e t) (q : ∀ σ H Q, t' σ H Q → t σ H Q) : PT X e t' := ⟨fun pins s σ H Q I z => h.run pins s σ H Q I (q σ H Q z)⟩
theorem weakA {X : Cx} {e : List Expr} {t t' : TA} (h : PA X e t) (q : ∀ σ H Q, t' σ H Q → t σ H Q) : PA X e t' := ⟨fun pos pins s σ H Q I z => h.run pos pins s σ H Q I (q σ H Q z)⟩
theorem weakS {X : Cx} {e : Stmt} {t t' : TS} (h : PS X e t) (q : ∀ D σ H, t' D σ H → t D σ H) : PS X e t' := ⟨fun pins s σ H D I z => h.run pins s σ H D I (q D σ H z)⟩
theorem weakSs {X : Cx} {e : List Stmt} {t t' : TS} (h : PSs X e t) (q : ∀ D σ H, t' D σ H → t D σ H) : PSs X e t' := ⟨fun pins s σ H D I z => h.run pins s σ H D I (q D σ H z)⟩
section
variable {X : Cx} {T : Tab} {S S1 S2 S3 : Sta} {a b e : Expr} {pos : Pos} {s s1 s2 : Sl} {cs cs' : List Cell} {d d1 d2 : D} {i j : Int}
def R1 (T : Tab) (K : PySem.W.Frag) (r : V → Hp → VK → Prop) (s1 : Sl) (cs : List Cell) (s : Sl) (cs' : List Cell) : Prop :=
  ∀ ad F H v (Q : VK), HoldC T K ad F H cs → SlRep T K ad F H v s1 → (∀ z H' ad', Ext ad F H ad' H' → HoldC T K ad' F H' cs' → SlRep T K ad' F H' z s → Q z H') → r v H Q
def R2D (T : Tab) (K : PySem.W.Frag) (r : R2) (s1 s2 : Sl) (cs : List Cell) (s : Sl) (cs' : List Cell) : Prop :=
  ∀ ad F H v w (Q : VK), HoldC T K ad F H cs → SlRep T K ad F H v s1 → SlRep T K ad F H w s2 → (∀ z H' ad', Ext ad F H ad' H' → HoldC T K ad' F H' cs' → SlRep T K ad' F H' z s → Q z H') → r v w H Q
theorem de_name (i : Nat) {x : Str} (hs : S.sl[i]? = some (some s)) (hN : X.N[i]? = some x := by rfl) (hv : Vis X.env.scope x := by first | exact Or.inl rfl | exact Or.inr (Or.inl rfl) | exact Or.inr (Or.inr rfl)) (hd : (x == ("__debug__" : Str)) = false := by decide)
    (hcd : (x == ("__classdict__" : Str)) = false := by decide) : DE X T S (.Name x pos) s S :=
  weak (pe_var hN hv hd hcd) fun σ H Q ⟨ad, F, h, q⟩ => let ⟨v, e, r⟩ := h.sl i s hs; ⟨v, e, q v H ad .refl h r⟩
theorem de_c {v : V} (h : PE X e (tC v)) (r : ∀ ad F H, SlRep T X.K ad F H v s) : DE X T S e s S := weak h fun σ H Q ⟨ad, F, h, q⟩ => q v H ad .refl h (r ad F H)
theorem de_int {k : Nat} : DE X T S (.Constant (.int i) k pos) (.dat (.int i)) S := de_c pe_int fun _ _ _ => .int
theorem de_bl {b : Bool} {k : Nat} : DE X T S (.Constant (.bool b) k pos) (.dat (.bl b)) S := de_c pe_bl fun _ _ _ => .bl
theorem de_str {x : Str} {k : Nat} : DE X T S (.Constant (.str x) k pos) (.dat (.str x)) S := de_c pe_str fun _ _ _ => .str
theorem r2_I {K : PySem.W.Frag} {C : Int → Int → Prop} {g : Int → Int → Int} (hc : C i j) : R2D T K (rI C fun i j => .int (g i j)) (.dat (.int i)) (.dat (.int j)) cs (.dat (.int (g i j))) cs := fun ad F H v w Q c r1 r2 q => by
  cases r1; cases r2
  exact ⟨i, j, rfl, rfl, hc, q _ H ad .refl c .int⟩
theorem r2_I0 {K : PySem.W.Frag} {g : Int → Int → Int} : R2D T K (rI0 fun i j => .int (g i j)) (.dat (.int i)) (.dat (.int j)) cs (.dat (.int (g i j))) cs := fun ad F H v w Q c r1 r2 q => by
  cases r1; cases r2
  exact ⟨i, j, rfl, rfl, q _ H ad .refl c .int⟩
theorem r2_B0 {K : PySem.W.Frag} {g : Int → Int → Bool} : R2D T K (rI0 fun i j => .bl (g i j)) (.dat (.int i)) (.dat (.int j)) cs (.dat (.bl (g i j))) cs := fun ad F H v w Q c r1 r2 q => by
  cases r1; cases r2
  exact ⟨i, j, rfl, rfl, q _ H ad .refl c .bl⟩
theorem reps_at {K : PySem.W.Frag} {M : Addr → Prop} {H : Hp} {vs : List V} {ds : List D} (h : Reps T K M H vs ds) (e : atI ds i = some d) : ∃ v, atI vs i = some v ∧ Rep T K M H v d := by
  unfold atI at e ⊢
  rw [h.length]
  cases q : ixN ds.length i with
  | none => rw [q] at e; cases e
  | some j =>
    rw [q] at e
    obtain ⟨v, h1, h2⟩ := h.get (i := j) e
    exact ⟨v, h1, h2⟩
def SlReps (T : Tab) (K : PySem.W.Frag) (ad : List Addr) (F : Addr → Prop) (H : Hp) : List V → List Sl → Prop
  | [], [] => True
  | v :: vs, s :: ss => SlRep T K ad F H v s ∧ SlReps T K ad F H vs ss
  | _, _ => False
theorem SlReps.ext {K : PySem.W.Frag} {ad ad1 : List Addr} {F : Addr → Prop} {H H1 : Hp} (x : Ext ad F H ad1 H1) : ∀ {vs : List V} {ss : List Sl}, SlReps T K ad F H vs ss → SlReps T K ad1 F H1 vs ss
  | [], [], _ => trivial
  | _ :: _, _ :: _, h => ⟨h.1.ext x, SlReps.ext x h.2⟩
theorem SlReps.len {K : PySem.W.Frag} {ad : List Addr} {F : Addr → Prop} {H : Hp} : ∀ {vs : List V} {ss : List Sl}, SlReps T K ad F H vs ss → vs.length = ss.length
  | [], [], _ => rfl
  | _ :: _, _ :: _, h => by rw [List.length_cons, List.length_cons, SlReps.len h.2]
theorem SlReps.dats {K : PySem.W.Frag} {ad : List Addr} {F : Addr → Prop} {H : Hp} : ∀ {vs : List V} {ds : List D}, SlReps T K ad F H vs (ds.map Sl.dat) → Reps T K (Mm ad F) H vs ds
  | [], [], _ => .nil
  | _ :: _, _ :: _, h => .cons h.1 (SlReps.dats h.2)
theorem SlReps.of {K : PySem.W.Frag} {ad : List Addr} {F : Addr → Prop} {H : Hp} : ∀ {vs : List V} {ds : List D}, Reps T K (Mm ad F) H vs ds → SlReps T K ad F H vs (ds.map Sl.dat)
  | _, _, .nil => trivial
  | _, _, .cons h t => ⟨h, SlReps.of t⟩
def RCD (T : Tab) (K : PySem.W.Frag) (r : List V → Hp → VK → Prop) (ss : List Sl) (cs : List Cell) (s : Sl) (cs' : List Cell) : Prop :=
  ∀ ad F H vs (Q : VK), HoldC T K ad F H cs → SlReps T K ad F H vs ss → (∀ z H' ad', Ext ad F H ad' H' → HoldC T K ad' F H' cs' → SlRep T K ad' F H' z s → Q z H') → r vs H Q
end
end Dl
namespace Dl
open PySem L2
def tDT (T : Tab) (K : PySem.W.Frag) (S : Sta) (b : Bool) (S' : Sta) : TT := fun σ H Q => ∃ ad F, Hold T K S ad F σ H ∧ ∀ H' ad', Ext ad F H ad' H' → Hold T K S' ad' F σ H' → Q b H'
def DT (X : Cx) (T : Tab) (S : Sta) (e : Expr) (b : Bool) (S' : Sta) : Prop := PT X e (tDT T X.K S b S')
def DW (X : Cx) (T : Tab) (S : Sta) (e : Expr) (b : Bool) (S' : Sta) : Prop := PW X e (tDT T X.K S b S')
theorem weakW {X : Cx} {e : Expr} {t t' : TT} (h : PW X e t) (q : ∀ σ H Q, t' σ H Q → t σ H Q) : PW X e t' := ⟨fun whole pins s σ H Q I z => h.run whole pins s σ H Q I (q σ H Q z)⟩
section
variable {X : Cx} {T : Tab} {S S1 S2 S3 : Sta} {a b e c : Expr} {pos : Pos} {s s1 s2 : Sl} {cs cs' : List Cell} {d d1 d2 : D} {i j : Int} {k k1 k2 : Bool} {rest : List Expr}
theorem DW.pt (h : DW X T S e k S1) : DT X T S e k S1 := PW.pt h
end
structure Exc where
  n : Nat
  fs : List D
def ExRep (T : Tab) (K : PySem.W.Frag) (M : Addr → Prop) (H : Hp) (cls : Value) (d : Option Addr) (x : Exc) : Prop :=
  ∃ C fn, T x.n = some (C, fn) ∧ cls = .ref C ∧ ((fn = [] ∧ x.fs = [] ∧ d = none) ∨ ∃ dd vs, d = some dd ∧ ¬ M dd ∧ H dd = some (.xd (fn.zip vs)) ∧ vs.length = fn.length ∧ Reps T K M H vs x.fs)
structure Post where
  nx : Sta → Prop
  rt : Sl → List Cell → Prop
  bk : Sta → Prop := fun _ => False
  ct : Sta → Prop := fun _ => False
  ex : Exc → Sta → Prop := fun _ _ => False
  W : WX := fun _ _ _ _ => False
structure ExtS (n : Nat) (ad : List Addr) (F : Addr → Prop) (H : Hp) (ad' : List Addr) (H' : Hp) : Prop where
  pre : ad'.take n = ad.take n
  sub : ∀ a ∈ ad', a ∈ ad ∨ H a = none
  keep : ∀ a o, H a = some o → ¬ Mm ad F a → H' a = some o
  frm : ∀ a, F a → Fr1 H H' a
theorem ExtS.refl {n : Nat} {ad : List Addr} {F : Addr → Prop} {H : Hp} : ExtS n ad F H ad H := ⟨rfl, fun _ h => .inl h, fun _ _ h _ => h, fun _ _ => .inl rfl⟩
theorem ExtS.kp {n : Nat} {ad ad1 : List Addr} {F : Addr → Prop} {H H1 : Hp} (x : ExtS n ad F H ad1 H1) : Kp (Mm ad F) H (Mm ad1 F) H1 := fun a o h n => by
  refine ⟨x.keep a o h n, fun z => ?_⟩
  rcases z with z | z
  · rcases x.sub a z with q | q
    · exact n (.inl q)
    · rw [q] at h; cases h
  · exact n (.inr z)
theorem ExtS.trans {n : Nat} {ad ad1 ad2 : List Addr} {F : Addr → Prop} {H H1 H2 : Hp} (x : ExtS n ad F H ad1 H1) (y : ExtS n ad1 F H1 ad2 H2) : ExtS n ad F H ad2 H2 := by
  refine ⟨y.pre.trans x.pre, fun a ha => ?_, fun a o h n => y.keep a o (x.keep a o h n) (x.kp a o h n).2, fun a fa => (x.frm a fa).trans (y.frm a fa)⟩
  rcases y.sub a ha with q | q
  · exact x.sub a q
  · cases e : H a with
    | none => exact .inr rfl
    | some o =>
      by_cases m : Mm ad F a
      · rcases m with m | m
        · exact .inl m
        · obtain ⟨o', e'⟩ := (x.frm a m).ex ⟨_, e⟩
          rw [e'] at q; cases q
      · rw [x.keep a o e m] at q; cases q
theorem Ext.s {n : Nat} {ad ad1 : List Addr} {F : Addr → Prop} {H H1 : Hp} (x : Ext ad F H ad1 H1) (hn : n ≤ ad.length) : ExtS n ad F H ad1 H1 := by
  obtain ⟨t, e, ht⟩ := x.pre
  refine ⟨by rw [e, List.take_append_of_le_length hn], fun a ha => ?_, x.keep, x.frm⟩
  rw [e] at ha
  exact (List.mem_append.mp ha).imp id (ht a)
def tDS (T : Tab) (K : PySem.W.Frag) (n : Nat) (S : Sta) (P : Post) : TS := fun D σ H => ∃ ad F, n ≤ ad.length ∧ Hold T K S ad F σ H ∧
  (∀ S' σ' H' ad', ExtS n ad F H ad' H' → n ≤ ad'.length → Hold T K S' ad' F σ' H' → P.nx S' → D.nx σ' H') ∧
  (∀ s cs' v H' ad', ExtS n ad F H ad' H' → n ≤ ad'.length → HoldC T K ad' F H' cs' → SlRep T K ad' F H' v s → P.rt s cs' → D.rt v H') ∧
  (∀ S' σ' H' ad', ExtS n ad F H ad' H' → n ≤ ad'.length → Hold T K S' ad' F σ' H' → P.bk S' → D.bk σ' H') ∧
  (∀ S' σ' H' ad', ExtS n ad F H ad' H' → n ≤ ad'.length → Hold T K S' ad' F σ' H' → P.ct S' → D.ct σ' H') ∧
  (∀ x S' cls d σ' H' ad', ExtS n ad F H ad' H' → n ≤ ad'.length → Hold T K S' ad' F σ' H' → ExRep T K (Mm ad' F) H' cls d x → P.ex x S' → P.W cls d σ' H')
def DS (X : Cx) (T : Tab) (n : Nat) (S : Sta) (st : Stmt) (P : Post) : Prop := PS X st (tDS T X.K n S P)
def DSs (X : Cx) (T : Tab) (n : Nat) (S : Sta) (sts : List Stmt) (P : Post) : Prop := PSs X sts (tDS T X.K n S P)
section
variable {X : Cx} {T : Tab} {n : Nat} {S S1 S2 S3 : Sta} {a b e c : Expr} {pos : Pos} {s s1 s2 : Sl} {cs cs' : List Cell} {d d1 d2 : D} {i j : Int} {k k1 k2 : Bool} {rest body els : List Stmt} {st : Stmt} {P : Post}
theorem dss_nil (h : P.nx S) : DSs X T n S [] P := weakSs pss_nil fun D σ H ⟨ad, F, hn, h0, q, _⟩ => q S σ H ad .refl hn h0 h
theorem dss_cons (h : DS X T n S st { P with nx := fun S' => DSs X T n S' rest P }) : DSs X T n S (st :: rest) P := by
  have h2 : PSs X rest (fun D σ H => ∃ S', DSs X T n S' rest P ∧ tDS T X.K n S' P D σ H) := ⟨fun pins s σ H D I ⟨S', hS, z⟩ => hS.run pins s σ H D I z⟩
  refine weakSs (pss_cons h h2) fun D σ H ⟨ad, F, hn, h0, q1, q2, q3, q4, q5⟩ => ⟨ad, F, hn, h0, fun S' σ' H' ad' x hn' h' hS => ⟨S', hS, ad', F, hn', h', ?_, ?_, ?_, ?_, ?_⟩, q2, q3, q4, q5⟩
  · exact fun S2 σ2 H2 ad2 x2 hn2 h2 p => q1 S2 σ2 H2 ad2 (x.trans x2) hn2 h2 p
  · exact fun s cs2 v H2 ad2 x2 hn2 c2 r p => q2 s cs2 v H2 ad2 (x.trans x2) hn2 c2 r p
  · exact fun S2 σ2 H2 ad2 x2 hn2 h2 p => q3 S2 σ2 H2 ad2 (x.trans x2) hn2 h2 p
  · exact fun S2 σ2 H2 ad2 x2 hn2 h2 p => q4 S2 σ2 H2 ad2 (x.trans x2) hn2 h2 p
  · exact fun z S2 cls d σ2 H2 ad2 x2 hn2 h2 r p => q5 z S2 cls d σ2 H2 ad2 (x.trans x2) hn2 h2 r p
theorem Ext.le {ad ad1 : List Addr} {F : Addr → Prop} {H H1 : Hp} (x : Ext ad F H ad1 H1) (h : n ≤ ad.length) : n ≤ ad1.length := by
  obtain ⟨t, e, _⟩ := x.pre
  rw [e, List.length_append]
  omega
theorem tDS.go {K : PySem.W.Frag} {D : Ends} {σ σ' : St} {H H1 : Hp} {ad ad1 : List Addr} {F : Addr → Prop} (x : ExtS n ad F H ad1 H1) (hn : n ≤ ad1.length) (h : Hold T K S1 ad1 F σ' H1)
    (q1 : ∀ S' σ' H' ad', ExtS n ad F H ad' H' → n ≤ ad'.length → Hold T K S' ad' F σ' H' → P.nx S' → D.nx σ' H')
    (q2 : ∀ s cs' v H' ad', ExtS n ad F H ad' H' → n ≤ ad'.length → HoldC T K ad' F H' cs' → SlRep T K ad' F H' v s → P.rt s cs' → D.rt v H')
    (q3 : ∀ S' σ' H' ad', ExtS n ad F H ad' H' → n ≤ ad'.length → Hold T K S' ad' F σ' H' → P.bk S' → D.bk σ' H')
    (q4 : ∀ S' σ' H' ad', ExtS n ad F H ad' H' → n ≤ ad'.length → Hold T K S' ad' F σ' H' → P.ct S' → D.ct σ' H')
    (q5 : ∀ x S' cls d σ' H' ad', ExtS n ad F H ad' H' → n ≤ ad'.length → Hold T K S' ad' F σ' H' → ExRep T K (Mm ad' F) H' cls d x → P.ex x S' → P.W cls d σ' H') : tDS T K n S1 P D σ' H1 :=
  ⟨ad1, F, hn, h, fun S2 σ2 H2 ad2 x2 hn2 h2 p => q1 S2 σ2 H2 ad2 (x.trans x2) hn2 h2 p, fun s cs2 v H2 ad2 x2 hn2 c2 r p => q2 s cs2 v H2 ad2 (x.trans x2) hn2 c2 r p,
    fun S2 σ2 H2 ad2 x2 hn2 h2 p => q3 S2 σ2 H2 ad2 (x.trans x2) hn2 h2 p, fun S2 σ2 H2 ad2 x2 hn2 h2 p => q4 S2 σ2 H2 ad2 (x.trans x2) hn2 h2 p,
    fun z S2 cls d σ2 H2 ad2 x2 hn2 h2 r p => q5 z S2 cls d σ2 H2 ad2 (x.trans x2) hn2 h2 r p⟩
theorem Hold.set {K : PySem.W.Frag} {ad : List Addr} {F : Addr → Prop} {σ : St} {H : Hp} {v : V} (h : Hold T K S ad F σ H) (r : SlRep T K ad F H v s) (i : Nat) : Hold T K ⟨S.sl.set i (some s), S.cs⟩ ad F (σ.set i (some v)) H := by
  refine ⟨h.hc, by simp [h.sz], fun j u e => ?_⟩
  by_cases hj : i = j
  · subst hj
    have hl : i < S.sl.length := by
      have := (List.getElem?_eq_some_iff.mp e).1
      simpa using this
    rw [List.getElem?_set_self hl] at e
    cases e
    exact ⟨v, by rw [List.getElem?_set_self (by rw [h.sz]; exact hl)], r⟩
  · rw [List.getElem?_set_ne hj] at e
    obtain ⟨w, hw, rw'⟩ := h.sl j u e
    exact ⟨w, by rw [List.getElem?_set_ne hj]; exact hw, rw'⟩
theorem ds_mono {P' : Post} (h : DS X T n S st P) (h1 : ∀ S, P.nx S → P'.nx S) (h2 : ∀ s cs, P.rt s cs → P'.rt s cs) (h3 : ∀ S, P.bk S → P'.bk S) (h4 : ∀ S, P.ct S → P'.ct S) (h5 : ∀ x S, P.ex x S → P'.ex x S) (hW : P'.W = P.W) : DS X T n S st P' :=
  weakS h fun D σ H ⟨ad, F, hn, h0, q1, q2, q3, q4, q5⟩ => ⟨ad, F, hn, h0, fun S2 σ2 H2 ad2 x2 hn2 h2' p => q1 S2 σ2 H2 ad2 x2 hn2 h2' (h1 _ p), fun s cs2 v H2 ad2 x2 hn2 c2 r p => q2 s cs2 v H2 ad2 x2 hn2 c2 r (h2 _ _ p),
    fun S2 σ2 H2 ad2 x2 hn2 h2' p => q3 S2 σ2 H2 ad2 x2 hn2 h2' (h3 _ p), fun S2 σ2 H2 ad2 x2 hn2 h2' p => q4 S2 σ2 H2 ad2 x2 hn2 h2' (h4 _ p),
    fun z S2 cls d σ2 H2 ad2 x2 hn2 h2' r p => by rw [← hW]; exact q5 z S2 cls d σ2 H2 ad2 x2 hn2 h2' r (h5 _ _ p)⟩
theorem dss_mono {sts : List Stmt} {P' : Post} (h : DSs X T n S sts P) (h1 : ∀ S, P.nx S → P'.nx S) (h2 : ∀ s cs, P.rt s cs → P'.rt s cs) (h3 : ∀ S, P.bk S → P'.bk S) (h4 : ∀ S, P.ct S → P'.ct S) (h5 : ∀ x S, P.ex x S → P'.ex x S) (hW : P'.W = P.W) : DSs X T n S sts P' :=
  weakSs h fun D σ H ⟨ad, F, hn, h0, q1, q2, q3, q4, q5⟩ => ⟨ad, F, hn, h0, fun S2 σ2 H2 ad2 x2 hn2 h2' p => q1 S2 σ2 H2 ad2 x2 hn2 h2' (h1 _ p), fun s cs2 v H2 ad2 x2 hn2 c2 r p => q2 s cs2 v H2 ad2 x2 hn2 c2 r (h2 _ _ p),
    fun S2 σ2 H2 ad2 x2 hn2 h2' p => q3 S2 σ2 H2 ad2 x2 hn2 h2' (h3 _ p), fun S2 σ2 H2 ad2 x2 hn2 h2' p => q4 S2 σ2 H2 ad2 x2 hn2 h2' (h4 _ p),
    fun z S2 cls d σ2 H2 ad2 x2 hn2 h2' r p => by rw [← hW]; exact q5 z S2 cls d σ2 H2 ad2 x2 hn2 h2' r (h5 _ _ p)⟩
end
abbrev Ct := List Sl → List Cell → Sl → List Cell → Prop
def spC (T : Tab) (K : PySem.W.Frag) (c : Ct) : Sp := fun vs H Q _ => ∃ ad F args cs s cs', HoldC T K ad F H cs ∧ SlReps T K ad F H vs args ∧ c args cs s cs' ∧
  ∀ v H' ad', ExtS cs.length ad F H ad' H' → cs.length ≤ ad'.length → HoldC T K ad' F H' cs' → SlRep T K ad' F H' v s → Q v H'
theorem start_hold {T : Tab} {K : PySem.W.Frag} {N : List Str} {ad : List Addr} {F : Addr → Prop} {H : Hp} {vs : List V} {args : List Sl} {cs : List Cell} (hc : HoldC T K ad F H cs) (r : SlReps T K ad F H vs args) :
    Hold T K ⟨args.map some ++ List.replicate (N.length - args.length) none, cs⟩ ad F (L2.start N vs) H := by
  have hl := r.len
  refine ⟨hc, by unfold L2.start; simp [hl], fun i s e => ?_⟩
  have hi : i < args.length := by
    by_cases hi : i < args.length
    · exact hi
    · have e : (args.map some ++ List.replicate (N.length - args.length) none)[i]? = some (some s) := e
      rw [List.getElem?_append_right (by simpa using hi), List.getElem?_replicate] at e
      split at e <;> cases e
  have e : (args.map some ++ List.replicate (N.length - args.length) none)[i]? = some (some s) := e
  rw [List.getElem?_append_left (by simpa using hi), List.getElem?_map] at e
  have ea : args[i]? = some s := by
    cases q : args[i]? with
    | none => rw [q] at e; cases e
    | some z => rw [q] at e; cases e; rfl
  have get : ∀ {vs : List V} {args : List Sl} {i : Nat}, SlReps T K ad F H vs args → args[i]? = some s → ∃ v, vs[i]? = some v ∧ SlRep T K ad F H v s := by
    intro vs args
    induction args generalizing vs with
    | nil => intro i _ e; simp at e
    | cons a args ih =>
      intro i r e
      cases vs with
      | nil => exact r.elim
      | cons v vs =>
        cases i with
        | zero => simp at e; subst e; exact ⟨v, rfl, r.1⟩
        | succ i => simpa using ih r.2 (by simpa using e)
  obtain ⟨v, hv, rv⟩ := get r ea
  refine ⟨v, ?_, rv⟩
  unfold L2.start
  rw [List.getElem?_append_left (by simpa using (hl ▸ hi : i < vs.length)), List.getElem?_map, hv]
  rfl
section
variable {T : Tab} {P : Program} {w : World} {K : PySem.W.Frag} {mg : Str → Option Value} {base : Heap}
abbrev st0 (N : List Str) (args : List Sl) (cs : List Cell) : Sta := ⟨args.map some ++ List.replicate (N.length - args.length) none, cs⟩
abbrev endOf (n : Nat) (s : Sl) (cs' : List Cell) : Post := { nx := fun S => s = .dat .non ∧ S.cs.take n = cs', rt := fun r c => r = s ∧ c = cs' }
abbrev cx0 (P : Program) (w : World) (K : PySem.W.Frag) (mg : Str → Option Value) (base : Heap) (N : List Str) (qual : Str) (st : Stmt) (f : Addr) (cdv : Value) (A : Around) (outer : List Env) (s : Shared) (H : Hp) (E : XK) : Cx := (cxOf CX0 P w K mg base N qual (defScope st) f cdv A outer s H E).nox
theorem fn_ok {x qual : Str} {st : Stmt} {f : Addr} {fd : FuncData} {N ps : List Str} {k : Nat} {c : Ct} (F : Fun K x qual st f fd) (Sc : FnScope N ps (defScope st)) (len : ∀ args cs s cs', c args cs s cs' → args.length = ps.length)
    (body : ∀ cdv A outer sh H E, Room k (cx0 P w K mg base N qual st f cdv A outer sh H E).A → ∀ args cs s cs', c args cs s cs' →
      DSs (cx0 P w K mg base N qual st f cdv A outer sh H E) T cs.length (st0 N args cs) (defBody st) (endOf cs.length s cs')) : FnOk P w K mg base CX0 (k + 1) f fd ps (spC T K c) := by
  refine F.ok Sc (fun vs H Q E h => ?_) (fun cdv A outer s H vs Q E hr h => ?_)
  · obtain ⟨ad, F', args, cs, s, cs', _, r, hc, _⟩ := h
    rw [r.len, len _ _ _ _ hc]
  · obtain ⟨ad, F', args, cs, s0, cs', hc, r, h, q⟩ := h
    refine ⟨_, body cdv A outer s H E hr args cs s0 cs' h, ad, F', Nat.le_of_eq hc.ln.symm, start_hold hc r, ?_, ?_, fun _ _ _ _ _ _ _ z => z.elim, fun _ _ _ _ _ _ _ z => z.elim, fun _ _ _ _ _ _ _ _ _ _ _ z => z.elim⟩
    · rintro S' σ' H' ad' x hn h' ⟨rfl, e⟩
      subst e
      refine q .non H' (ad'.take cs.length) ⟨by rw [List.take_take, Nat.min_self]; exact x.pre, fun a ha => x.sub a (List.mem_of_mem_take ha), x.keep, x.frm⟩ (by rw [List.length_take]; omega) (h'.hc.take _) Rep.non
    · rintro s2 cs2 v H' ad' x hn c2 r2 ⟨rfl, rfl⟩
      exact q v H' ad' x hn c2 r2
end
end Dl
namespace Dl
open PySem L2
section
variable {T : Tab} {K : PySem.W.Frag} {F : Addr → Prop} {ad ad' : List Addr} {H H' : Hp} {cs cs' : List Cell} {v : V} {d : D} {s : Sl} {k : Nat} {c0 c1 : Cell} {a : Addr}
theorem frame0 (h : HoldC T K ad F H cs) : HoldC T K [] (Mm ad F) H [] := ⟨List.nodup_nil, fun _ z => (nomatch z), fun a z => z.elim (fun z => h.mem z) (h.al a), h.tb.to (fun _ z => .inr z) fun a z => z.elim (fun y => .inr (h.isx y)) .inl, rfl, fun k a c e => nomatch e⟩
theorem kp_in (h : HoldC T K ad F H cs) : Kp (Mm ad F) H (Mm [] (Mm ad F)) H := fun a o e n => ⟨e, fun z => n (Or.resolve_left z (by simp))⟩
theorem kp_out {ad2 : List Addr} : Kp (Mm ad2 (Mm ad F)) H (Mm ad F) H := fun a o e n => ⟨e, fun z => n (.inr z)⟩
theorem SlReps.kp {M : Addr → Prop} {ad2 : List Addr} {F2 : Addr → Prop} {H2 : Hp} (k : Kp (Mm ad F) H (Mm ad2 F2) H2) : ∀ {vs : List V} {ds : List D}, SlReps T K ad F H vs (ds.map Sl.dat) → SlReps T K ad2 F2 H2 vs (ds.map Sl.dat)
  | [], [], _ => trivial
  | _ :: _, _ :: _, h => ⟨Rep.kp k h.1, SlReps.kp (M := M) k h.2⟩
theorem back0 (h : HoldC T K ad F H cs) {ad2 : List Addr} {n : Nat} (t2 : TbOk T (Mm ad F) H') (x : ExtS n [] (Mm ad F) H ad2 H') : HoldC T K ad F H' cs ∧ Ext ad F H ad H' := by
  have e : Ext ad F H ad H' := ⟨⟨[], by simp, fun _ z => nomatch z⟩, fun a o e n => x.keep a o e fun z => n (Or.resolve_left z (by simp)), fun a fa => x.frm a (.inr fa)⟩
  refine ⟨⟨h.nd, h.fr, fun a fa => ?_, h.tb.back (fun _ z => .inr z) t2, h.ln, fun k a c h1 h2 => ?_⟩, e⟩
  · exact (e.frm a fa).ex (h.al a fa)
  · exact (h.ce k a c h1 h2).kp1 e.kp (x.frm a (.inl (List.mem_of_getElem? h1)))
def Fk (ad : List Addr) (F : Addr → Prop) (a : Addr) : Addr → Prop := fun b => F b ∨ (b ∈ ad ∧ b ≠ a)
theorem mm_k (ha : a ∈ ad) (b : Addr) : Mm [a] (Fk ad F a) b ↔ Mm ad F b := by
  constructor
  · rintro (z | z | z)
    · rw [List.mem_singleton.mp z]; exact .inl ha
    · exact .inr z
    · exact .inl z.1
  · rintro (z | z)
    · by_cases e : b = a
      · exact .inl (by rw [e]; exact List.mem_singleton_self _)
      · exact .inr (.inr ⟨z, e⟩)
    · exact .inr (.inl z)
theorem frame1 (h : HoldC T K ad F H cs) (ha : ad[k]? = some a) (hc : cs[k]? = some c0) : HoldC T K [a] (Fk ad F a) H [c0] := by
  have hm : a ∈ ad := List.mem_of_getElem? ha
  refine ⟨by simp, fun b hb z => ?_, fun b z => ?_, ?_, rfl, fun j b c e1 e2 => ?_⟩
  · have := List.mem_singleton.mp hb
    subst this
    rcases z with z | z
    · exact h.fr _ hm z
    · exact z.2 rfl
  · rcases z with z | z
    · exact h.al b z
    · exact h.mem z.1
  · exact h.tb.to (fun _ z => .inl z) fun b z => z.imp id fun y => h.isx y.1
  · cases j with
    | zero =>
      simp at e1 e2
      subst e1 e2
      refine (h.ce k a _ ha hc).kp (fun b o e n => ⟨e, fun z => n ((mm_k hm b).mp z)⟩) rfl
    | succ j => simp at e1
theorem back1 (h : HoldC T K ad F H cs) (ha : ad[k]? = some a) (x : ExtS 1 [a] (Fk ad F a) H [a] H') (c : HoldC T K [a] (Fk ad F a) H' [c1]) : HoldC T K ad F H' (cs.set k c1) ∧ Ext ad F H ad H' := by
  have hm : a ∈ ad := List.mem_of_getElem? ha
  have e : Ext ad F H ad H' := ⟨⟨[], by simp, fun _ z => nomatch z⟩, fun b o e n => x.keep b o e fun z => n ((mm_k hm b).mp z), fun b fb => x.frm b (.inl fb)⟩
  refine ⟨⟨h.nd, h.fr, fun b fb => ?_, h.tb.back (fun _ z => .inl z) c.tb, by simp [h.ln], fun j b c' h1 h2 => ?_⟩, e⟩
  · exact (e.frm b fb).ex (h.al b fb)
  · by_cases hj : k = j
    · subst hj
      have hlt : k < cs.length := by rw [← h.ln]; exact (List.getElem?_eq_some_iff.mp ha).1
      rw [List.getElem?_set_self hlt] at h2
      rw [ha] at h1
      cases h1; cases h2
      exact (c.ce 0 a _ rfl rfl).kp (fun b o e n => ⟨e, fun z => n ((mm_k hm b).mpr z)⟩) rfl
    · rw [List.getElem?_set_ne hj] at h2
      have hb : b ≠ a := fun z => hj (ix_inj h.nd ha (z ▸ h1))
      exact (h.ce j b c' h1 h2).kp1 e.kp (x.frm b (.inr ⟨List.mem_of_getElem? h1, hb⟩))
end
def low : Sl → Sl
  | .dat d => .dat d
  | .cel _ => .cel 0
def onlyCell (k : Nat) : Sl → Bool
  | .dat _ => true
  | .cel j => j == k
theorem low_reps {T : Tab} {K : PySem.W.Frag} {F : Addr → Prop} {ad : List Addr} {H : Hp} {k : Nat} {a : Addr} (ha : ad[k]? = some a) : ∀ {vs : List V} {ss : List Sl}, ss.all (onlyCell k) = true → SlReps T K ad F H vs ss → SlReps T K [a] (Fk ad F a) H vs (ss.map low)
  | [], [], _, _ => trivial
  | v :: vs, s :: ss, h, r => by
    rw [List.all_cons, Bool.and_eq_true] at h
    refine ⟨?_, low_reps ha h.2 r.2⟩
    have r1 := r.1
    cases s with
    | dat d => exact Rep.kp (fun b o e n => ⟨e, fun z => n ((mm_k (List.mem_of_getElem? ha) b).mp z)⟩) r1
    | cel j =>
      obtain ⟨b, hb, ev⟩ := r1
      have hj : j = k := beq_iff_eq.mp h.1
      subst hj
      rw [ha] at hb
      cases hb
      exact ⟨a, rfl, ev⟩
section
variable {X : Cx} {T : Tab} {S S1 S2 : Sta} {e : Expr} {es : List Expr} {pos p : Pos} {x : Str} {f : Addr} {fd : FuncData} {ps : List Str} {k : Nat} {c : Ct} {ds : List D} {d : D} {ss : List Sl} {c0 c1 : Cell}
theorem spC0 {K : PySem.W.Frag} {ad : List Addr} {F : Addr → Prop} {H : Hp} {cs : List Cell} {vs : List V} {Q : VK} {E : XK} (hc : c (ds.map Sl.dat) [] (.dat d) []) (h : HoldC T K ad F H cs) (r : SlReps T K ad F H vs (ds.map Sl.dat))
    (q : ∀ v H', Ext ad F H ad H' → HoldC T K ad F H' cs → SlRep T K ad F H' v (.dat d) → Q v H') : spC T K c vs H Q E := by
  refine ⟨[], Mm ad F, ds.map Sl.dat, [], .dat d, [], frame0 h, SlReps.kp (M := fun _ => False) (kp_in h) r, hc, fun v H' ad' x hn c2 r2 => ?_⟩
  obtain ⟨c3, x3⟩ := back0 h c2.tb x
  exact q v H' x3 c3 (Rep.kp kp_out r2)
theorem spC1 {K : PySem.W.Frag} {ad : List Addr} {F : Addr → Prop} {H : Hp} {cs : List Cell} {vs : List V} {Q : VK} {E : XK} {j : Nat} (hj : cs[j]? = some c0) (ho : ss.all (onlyCell j) = true) (hc : c (ss.map low) [c0] (.dat d) [c1]) (h : HoldC T K ad F H cs) (r : SlReps T K ad F H vs ss)
    (q : ∀ v H', Ext ad F H ad H' → HoldC T K ad F H' (cs.set j c1) → SlRep T K ad F H' v (.dat d) → Q v H') : spC T K c vs H Q E := by
  have hlt : j < ad.length := by rw [h.ln]; exact (List.getElem?_eq_some_iff.mp hj).1
  have ha : ad[j]? = some ad[j] := List.getElem?_eq_getElem hlt
  refine ⟨[ad[j]], Fk ad F ad[j], ss.map low, [c0], .dat d, [c1], frame1 h ha hj, low_reps ha ho r, hc, fun v H' ad' x hn c2 r2 => ?_⟩
  have e : ad' = [ad[j]] := by
    have h1 : ad'.length = 1 := c2.ln
    have h2 : ad'.take 1 = [ad[j]] := x.pre
    rw [List.take_of_length_le (by omega)] at h2
    exact h2
  subst e
  obtain ⟨c3, x3⟩ := back1 h ha x c2
  exact q v H' x3 c3 (Rep.kp (fun b o e n => ⟨e, fun z => n ((mm_k (List.mem_of_getElem? ha) b).mpr z)⟩) r2)
theorem spCN {K : PySem.W.Frag} {ad : List Addr} {F : Addr → Prop} {H : Hp} {cs : List Cell} {vs : List V} {Q : VK} {E : XK} (hc : c (ds.map Sl.dat) [] (.cel 0) [c0]) (h : HoldC T K ad F H cs) (r : SlReps T K ad F H vs (ds.map Sl.dat))
    (q : ∀ v H' a, Ext ad F H (ad ++ [a]) H' → HoldC T K (ad ++ [a]) F H' (cs ++ [c0]) → v = .ref a → Q v H') : spC T K c vs H Q E := by
  refine ⟨[], Mm ad F, ds.map Sl.dat, [], .cel 0, [c0], frame0 h, SlReps.kp (M := fun _ => False) (kp_in h) r, hc, fun v H' ad' x hn c2 r2 => ?_⟩
  obtain ⟨c3, x3⟩ := back0 h c2.tb x
  obtain ⟨a, ha, rfl⟩ := r2
  have e : ad' = [a] := by
    have h1 : ad'.length = 1 := c2.ln
    match ad', h1, ha with
    | [b], _, ha => simpa using ha
  subst e
  have na : H a = none := (x.sub a (List.mem_singleton_self _)).elim (fun z => absurd z (by simp)) id
  have nm : ¬ Mm ad F a := c2.fr a (List.mem_singleton_self _)
  have x4 : Ext ad F H (ad ++ [a]) H' := ⟨⟨[a], rfl, fun b hb => by rw [List.mem_singleton.mp hb]; exact na⟩, x3.keep, x3.frm⟩
  have kp2 : Kp (Mm ad F) H' (Mm (ad ++ [a]) F) H' → True := fun _ => trivial
  refine q _ H' a x4 ⟨?_, fun b hb fb => ?_, c3.al, c3.tb, by simp [h.ln], fun j b c' h1 h2 => ?_⟩ rfl
  · rw [List.nodup_append]
    refine ⟨h.nd, by simp, fun b hb b' hb' e => ?_⟩
    rw [List.mem_singleton.mp hb'] at e
    exact nm (.inl (e ▸ hb))
  · rcases List.mem_append.mp hb with z | z
    · exact h.fr b z fb
    · rw [List.mem_singleton.mp z] at fb; exact nm (.inr fb)
  · by_cases hj : j < ad.length
    · rw [List.getElem?_append_left hj] at h1
      rw [List.getElem?_append_left (by rw [← h.ln]; exact hj)] at h2
      exact (h.ce j b c' h1 h2).kp1 x4.kp (x.frm b (.inl (List.mem_of_getElem? h1)))
    · have hj' : j = ad.length := by
        have := (List.getElem?_eq_some_iff.mp h1).1
        simp at this
        omega
      subst hj'
      rw [List.getElem?_append_right (Nat.le_refl _)] at h1
      rw [h.ln, List.getElem?_append_right (Nat.le_refl _)] at h2
      simp at h1 h2
      subst h1 h2
      refine (c2.ce 0 a _ rfl rfl).kp (fun b o e n => ⟨e, fun z => n ?_⟩) rfl
      rcases z with z | z
      · rcases List.mem_append.mp z with z | z
        · exact .inr (.inl z)
        · exact .inl z
      · exact .inr (.inr z)
variable (G : FnOk X.prog X.w X.K X.mg X.base CX0 k f fd ps (spC T X.K c)) (hr : Room k X.A) (hm : X.mg x = some (.ref f)) (hk : PySem.W.keepIn X.K (.ref f) = true) (hb : Binds X.K fd ps [])
include G hr hm hk hb
end
inductive Pat where
  | nm (i : Nat)
  | tp (ps : List Pat)
mutual
/-- the slots behind target = data -/
def asgP : Pat → D → List (Option Sl) → Option (List (Option Sl))
  | .nm i, d, sl => some (sl.set i (some (.dat d)))
  | .tp ps, .tup ds, sl => asgPs ps ds sl
  | _, _, _ => none
def asgPs : List Pat → List D → List (Option Sl) → Option (List (Option Sl))
  | [], [], sl => some sl
  | p :: ps, d :: ds, sl => (asgP p d sl).bind fun sl' => asgPs ps ds sl'
  | _, _, _ => none
end
mutual
def slotsP : Pat → List Nat
  | .nm i => [i]
  | .tp ps => slotsPs ps
def slotsPs : List Pat → List Nat
  | [] => []
  | p :: ps => slotsP p ++ slotsPs ps
end
def AsIs (ns : List Nat) (σ σ' : St) : Prop := σ'.length = σ.length ∧ ∀ j : Nat, j ∉ ns → σ'[j]? = σ[j]?
def tDG (T : Tab) (K : PySem.W.Frag) (p : Pat) : TG := fun v σ H Q => ∃ ad F S d sl', Hold T K S ad F σ H ∧ Rep T K (Mm ad F) H v d ∧ asgP p d S.sl = some sl' ∧ ∀ σ', AsIs (slotsP p) σ σ' → Hold T K ⟨sl', S.cs⟩ ad F σ' H → Q σ' H
def tDGs (T : Tab) (K : PySem.W.Frag) (ps : List Pat) : TGs := fun vs σ H Q => ∃ ad F S ds sl', Hold T K S ad F σ H ∧ Reps T K (Mm ad F) H vs ds ∧ asgPs ps ds S.sl = some sl' ∧ ∀ σ', AsIs (slotsPs ps) σ σ' → Hold T K ⟨sl', S.cs⟩ ad F σ' H → Q σ' H
def DG (X : Cx) (T : Tab) (tg : Expr) (p : Pat) : Prop := PG X tg (tDG T X.K p)
def DGs (X : Cx) (T : Tab) (tgs : List Expr) (ps : List Pat) : Prop := PGs X tgs (tDGs T X.K ps)
theorem weakG {X : Cx} {tg : Expr} {t t' : TG} (h : PG X tg t) (q : ∀ v σ H Q, t' v σ H Q → t v σ H Q) : PG X tg t' := ⟨fun pins s σ H v u Q I r z => h.run pins s σ H v u Q I r (q v σ H Q z)⟩
theorem weakGs {X : Cx} {tg : List Expr} {t t' : TGs} (h : PGs X tg t) (q : ∀ v σ H Q, t' v σ H Q → t v σ H Q) : PGs X tg t' := ⟨fun pins s σ H v u Q I r z => h.run pins s σ H v u Q I r (q v σ H Q z)⟩
section
variable {X : Cx} {T : Tab} {pos : Pos} {e : Expr} {es : List Expr} {p : Pat} {ps : List Pat}
theorem dg_name (i : Nat) {x : Str} (hN : X.N.Nodup) (hi : X.N[i]? = some x := by rfl) (hx : Loc X.env.scope x := by first | exact Or.inl rfl | exact Or.inr rfl) (hf : X.fn x = true ∨ X.env.scope.names.lookup x = some .local := by first | exact .inl rfl | exact .inr rfl) : DG X T (.Name x pos) (.nm i) :=
  weakG (pg_name hN hi hx hf) fun v σ H Q ⟨ad, F, S, d, sl', h, r, e, q⟩ => by
    have e' : S.sl.set i (some (.dat d)) = sl' := Option.some.inj e
    subst e'
    exact q _ ⟨by simp, fun j hj => List.getElem?_set_ne (fun z => hj (by rw [← z]; exact List.mem_singleton_self _))⟩ (h.set (s := .dat d) r i)
theorem dgs_nil : DGs X T [] [] := weakGs pgs_nil fun vs σ H Q ⟨ad, F, S, ds, sl', h, r, e, q⟩ => by
  cases ds with
  | nil =>
    cases r
    have e' : S.sl = sl' := Option.some.inj e
    subst e'
    exact ⟨rfl, q σ ⟨rfl, fun _ _ => rfl⟩ h⟩
  | cons d ds => exact nomatch e
theorem dgs_cons (h1 : DG X T e p) (h2 : DGs X T es ps) (hs : (assignEach (e :: es) X.env).map (·.2) = assign e X.env :: (assignEach es X.env).map (·.2) := by rfl) : DGs X T (e :: es) (p :: ps) :=
  weakGs (pgs_cons h1 h2 hs) fun vs σ H Q ⟨ad, F, S, ds, sl', h, r, e, q⟩ => by
    cases ds with
    | nil => exact nomatch e
    | cons d ds =>
      cases r with
      | cons r1 r2 =>
        have e : (asgP p d S.sl).bind (fun sl' => asgPs ps ds sl') = some sl' := e
        cases e1 : asgP p d S.sl with
        | none => rw [e1] at e; cases e
        | some sl1 =>
          rw [e1] at e
          refine ⟨_, _, rfl, ad, F, S, d, sl1, h, r1, e1, fun σ1 a1 h1 => ⟨ad, F, _, ds, sl', h1, r2, e, fun σ2 a2 h2 => q σ2 ⟨a2.1.trans a1.1, fun j hj => ?_⟩ h2⟩⟩
          have hj' : j ∉ slotsP p ++ slotsPs ps := hj
          rw [a2.2 j fun z => hj' (List.mem_append_right _ z), a1.2 j fun z => hj' (List.mem_append_left _ z)]
theorem asgPs_len : ∀ {ps : List Pat} {ds : List D} {sl sl' : List (Option Sl)}, asgPs ps ds sl = some sl' → ds.length = ps.length
  | [], [], _, _, _ => rfl
  | p :: ps, d :: ds, sl, sl', e => by
    have e : (asgP p d sl).bind (fun sl' => asgPs ps ds sl') = some sl' := e
    cases e1 : asgP p d sl with
    | none => rw [e1] at e; cases e
    | some sl1 =>
      rw [e1] at e
      rw [List.length_cons, List.length_cons, asgPs_len (ps := ps) (ds := ds) e]
  | [], _ :: _, _, _, e => nomatch e
  | _ :: _, [], _, _, e => nomatch e
theorem dg_tup {k : Nat} {n : Nat} (hc : X.calm = true) (h : DGs X T es ps) (hn : (assignEach es X.env).length = n := by rfl) (hp : ps.length = n := by rfl) (hst : (assignEach es X.env).findIdx? (·.1) = none := by rfl) : DG X T (.Tuple es k pos) (.tp ps) :=
  weakG (pg_tup (n := n) hc h hn hst) fun v σ H Q ⟨ad, F, S, d, sl', h, r, e, q⟩ => by
    cases r with
    | tup h1 h2 => exact ⟨_, _, rfl, h1.sq, by rw [h2.length, ← hp]; exact asgPs_len e, ad, F, S, _, sl', h, h2, e, q⟩
    | _ => exact nomatch e
end
def ItOk (T : Tab) (K : PySem.W.Frag) (F : Addr → Prop) (J : It) (items : List D) (ad1 : List Addr) (H1 : Hp) : Prop :=
  ∀ (F2 : Addr → Prop) ad2 H2 cs2, HoldC T K ad2 F2 H2 cs2 → Kp (Mm ad1 F) H1 (Mm ad2 F2) H2 → ∀ i : Nat,
    (∀ d, items[i]? = some d → J.go i H2 ∧ ∀ v H3, J.yld i H2 v H3 → (∀ a o, H2 a = some o → H3 a = some o) ∧ Rep T K (Mm ad2 F2) H3 v d) ∧ (i = items.length → J.stop i H2)
theorem weakI {X : Cx} {tg it : Expr} {t t' : TI} (h : PI X tg it t) (q : ∀ σ H R, t' σ H R → t σ H R) : PI X tg it t' := ⟨fun pins s σ H R I z => h.run pins s σ H R I (q σ H R z)⟩
section
variable {X : Cx} {T : Tab} {S S1 S2 : Sta} {e tg : Expr} {pos p : Pos} {ds : List D} {i j : Int}
def rangeD (lo : Int) (n : Nat) : List D := (List.range n).map fun i : Nat => D.int (lo + (i : Int))
theorem rangeD_get {lo : Int} {n i : Nat} {d : D} (h : (rangeD lo n)[i]? = some d) : i < n ∧ d = .int (lo + (i : Int)) := by
  unfold rangeD at h
  rw [List.getElem?_map] at h
  by_cases hi : i < n
  · rw [List.getElem?_range hi] at h
    exact ⟨hi, (Option.some.inj h).symm⟩
  · rw [List.getElem?_eq_none (by simpa using hi)] at h
    cases h
theorem itr_ok {K : PySem.W.Frag} {F : Addr → Prop} {lo : Int} {n : Nat} {ad1 : List Addr} {H1 : Hp} : ItOk T K F (Itr lo n) (rangeD lo n) ad1 H1 := fun F2 ad2 H2 cs2 c2 kp i => by
  refine ⟨fun d hd => ?_, fun hi => ?_⟩
  · obtain ⟨hi, rfl⟩ := rangeD_get hd
    refine ⟨hi, fun v H3 y => ?_⟩
    obtain ⟨rfl, rfl⟩ := y
    exact ⟨fun _ _ z => z, .int⟩
  · unfold rangeD at hi
    simp at hi
    subst hi
    exact Nat.le_refl _
end
def DFor (X : Cx) (T : Tab) (n : Nat) (p : Pat) (body : List Stmt) : List D → Sta → Post → Prop
  | [], S, P => P.nx S
  | d :: ds, S, P => ∃ sl', asgP p d S.sl = some sl' ∧ DSs X T n ⟨sl', S.cs⟩ body { P with nx := fun S' => DFor X T n p body ds S' P, ct := fun S' => DFor X T n p body ds S' P, bk := P.nx }
theorem grow {T : Tab} {K : PySem.W.Frag} {F : Addr → Prop} {ad : List Addr} {H H' : Hp} {cs : List Cell} (h : HoldC T K ad F H cs) (g : ∀ a o, H a = some o → H' a = some o) : HoldC T K ad F H' cs ∧ Ext ad F H ad H' := by
  have x : Ext ad F H ad H' := ⟨⟨[], by simp, fun _ z => nomatch z⟩, fun a o e _ => g a o e, fun a fa => by obtain ⟨o, e⟩ := h.al a fa; exact .inl (by rw [g a o e, e])⟩
  refine ⟨⟨h.nd, h.fr, fun a fa => (x.frm a fa).ex (h.al a fa), h.tb.ext g, h.ln, fun k a c h1 h2 => ?_⟩, x⟩
  have q := h.ce k a c h1 h2
  obtain ⟨o, e⟩ := q.some
  exact q.kp x.kp (by rw [g a o e, e])
section
variable {X : Cx} {T : Tab} {n : Nat} {S S1 S2 : Sta} {it tg : Expr} {pos : Pos} {items : List D} {body : List Stmt} {p : Pat} {P : Post}
end
end Dl
namespace Dl
open PySem L2
def BinD (X : Cx) (T : Tab) (op : Operator) (s1 s2 : Sl) (cs : List Cell) (s : Sl) (cs' : List Cell) : Prop := ∃ r, OpR X (binaryOp op) r ∧ R2D T X.K r s1 s2 cs s cs'
def CmpD (X : Cx) (T : Tab) (op : CmpOp) (s1 s2 : Sl) (cs : List Cell) (s : Sl) (cs' : List Cell) : Prop := ∃ r, OpR X (compareOp op) r ∧ R2D T X.K r s1 s2 cs s cs'
def IxD (X : Cx) (T : Tab) (s1 s2 : Sl) (cs : List Cell) (s : Sl) (cs' : List Cell) : Prop := ∃ r, IxR X r ∧ R2D T X.K r s1 s2 cs s cs'
def UnD (X : Cx) (T : Tab) (op : UnaryOp) (s1 : Sl) (cs : List Cell) (s : Sl) (cs' : List Cell) : Prop := ∃ r, UnR X (unaryOp op) r ∧ R1 T X.K r s1 cs s cs'
def CalB (X : Cx) (T : Tab) (x : Str) (ss : List Sl) (cs : List Cell) (s : Sl) (cs' : List Cell) : Prop := ∃ u r, bootBuiltins x = some u ∧ ((∃ id, u = .builtin id) ∨ ∃ id, u = .type id) ∧ CallR X u r ∧ RCD T X.K r ss cs s cs'
section
variable {X : Cx} {T : Tab} {S S1 S2 S3 : Sta} {a b e : Expr} {pos p : Pos} {s s1 s2 : Sl} {cs cs' : List Cell} {d d1 d2 : D} {i j : Int} {ds es : List D}
theorem bin_add : BinD X T .Add (.dat (.int i)) (.dat (.int j)) cs (.dat (.int (i + j))) cs := ⟨_, op_add, r2_I0⟩
theorem bin_sub : BinD X T .Sub (.dat (.int i)) (.dat (.int j)) cs (.dat (.int (i - j))) cs := ⟨_, op_sub, r2_I0⟩
theorem op_mulI : OpR X (binaryOp .Mult) (rI IntMulOk fun i j => .int (i * j)) := opI fun _ _ _ _ _ _ _ hc q => PyProof.Rows.mul_int q hc
theorem bin_mul (h : IntMulOk i j) : BinD X T .Mult (.dat (.int i)) (.dat (.int j)) cs (.dat (.int (i * j))) cs := ⟨_, op_mulI, r2_I h⟩
theorem bin_fdiv (h : CDivW i j) : BinD X T .FloorDiv (.dat (.int i)) (.dat (.int j)) cs (.dat (.int (i / j))) cs := ⟨_, op_fdivW, r2_I h⟩
theorem bin_mod (h : 0 < j) : BinD X T .Mod (.dat (.int i)) (.dat (.int j)) cs (.dat (.int (i % j))) cs := ⟨_, op_mod, r2_I (C := fun _ j => 0 < j) h⟩
theorem bin_pow (h : CPow i j) : BinD X T .Pow (.dat (.int i)) (.dat (.int j)) cs (.dat (.int (i ^ j.toNat))) cs := ⟨_, op_pow, r2_I h⟩
theorem un_negD : UnD X T .USub (.dat (.int i)) cs (.dat (.int (-i))) cs := ⟨_, un_neg, fun ad F H v Q c r1 q => by cases r1; exact ⟨i, rfl, q _ H ad .refl c Rep.int⟩⟩
theorem cmp_lt : CmpD X T .Lt (.dat (.int i)) (.dat (.int j)) cs (.dat (.bl (decide (i < j)))) cs := ⟨_, op_lt, r2_B0⟩
theorem cmp_gt : CmpD X T .Gt (.dat (.int i)) (.dat (.int j)) cs (.dat (.bl (decide (j < i)))) cs := ⟨_, op_gt, r2_B0⟩
theorem cmp_ge : CmpD X T .GtE (.dat (.int i)) (.dat (.int j)) cs (.dat (.bl (decide (j ≤ i)))) cs := ⟨_, op_ge, r2_B0⟩
theorem dec_V (i j : Int) : decide (V.int i = V.int j) = decide (i = j) := by
  by_cases h : i = j
  · subst h; simp
  · rw [decide_eq_false h, decide_eq_false fun z => h (V.int.inj z)]
theorem cmp_eqI : CmpD X T .Eq (.dat (.int i)) (.dat (.int j)) cs (.dat (.bl (decide (i = j)))) cs := ⟨_, op_eq, fun ad F H v w Q c r1 r2 q => by
  cases r1; cases r2
  exact ⟨rfl, by rw [dec_V]; exact q _ H ad .refl c Rep.bl⟩⟩
theorem cmp_neI : CmpD X T .NotEq (.dat (.int i)) (.dat (.int j)) cs (.dat (.bl (!decide (i = j)))) cs := ⟨_, op_ne, fun ad F H v w Q c r1 r2 q => by
  cases r1; cases r2
  exact ⟨rfl, by rw [dec_V]; exact q _ H ad .refl c Rep.bl⟩⟩
theorem dec_S (i j : Str) : decide (V.str i = V.str j) = decide (i = j) := by
  by_cases h : i = j
  · subst h; simp
  · rw [decide_eq_false h, decide_eq_false fun z => h (V.str.inj z)]
theorem cmp_eqS {x y : Str} : CmpD X T .Eq (.dat (.str x)) (.dat (.str y)) cs (.dat (.bl (decide (x = y)))) cs := ⟨_, op_eq, fun ad F H v w Q c r1 r2 q => by
  cases r1; cases r2
  exact ⟨rfl, by rw [dec_S]; exact q _ H ad .refl c Rep.bl⟩⟩
theorem cmp_neS {x y : Str} : CmpD X T .NotEq (.dat (.str x)) (.dat (.str y)) cs (.dat (.bl (!decide (x = y)))) cs := ⟨_, op_ne, fun ad F H v w Q c r1 r2 q => by
  cases r1; cases r2
  exact ⟨rfl, by rw [dec_S]; exact q _ H ad .refl c Rep.bl⟩⟩
theorem dec_B (i j : Bool) : decide (V.bl i = V.bl j) = (i == j) := by cases i <;> cases j <;> decide
theorem cmp_eqB {x y : Bool} : CmpD X T .Eq (.dat (.bl x)) (.dat (.bl y)) cs (.dat (.bl (x == y))) cs := ⟨_, op_eq, fun ad F H v w Q c r1 r2 q => by
  cases r1; cases r2
  exact ⟨rfl, by rw [dec_B]; exact q _ H ad .refl c Rep.bl⟩⟩
theorem cmp_neB {x y : Bool} : CmpD X T .NotEq (.dat (.bl x)) (.dat (.bl y)) cs (.dat (.bl (!(x == y)))) cs := ⟨_, op_ne, fun ad F H v w Q c r1 r2 q => by
  cases r1; cases r2
  exact ⟨rfl, by rw [dec_B]; exact q _ H ad .refl c Rep.bl⟩⟩
theorem ix_L (hi : atI ds i = some d) : IxD X T (.dat (.lst ds)) (.dat (.int i)) cs (.dat d) cs := ⟨_, ix_list, fun ad F H v w Q c r1 r2 q => by
  cases r2
  cases r1 with
  | lst n e r =>
    obtain ⟨u, h1, h2⟩ := reps_at r hi
    exact ⟨_, _, i, u, rfl, rfl, SqL.of e, h1, q u H ad .refl c h2⟩⟩
theorem ix_R (hi : atI ds i = some d) : IxD X T (.dat (.scr ds)) (.dat (.int i)) cs (.dat d) cs := ⟨_, ix_list, fun ad F H v w Q c r1 r2 q => by
  cases r2
  cases r1 with
  | scr e r =>
    obtain ⟨u, h1, h2⟩ := reps_at r hi
    exact ⟨_, _, i, u, rfl, rfl, e.sq, h1, q u H ad .refl c h2⟩⟩
theorem ix_T (hi : atI ds i = some d) : IxD X T (.dat (.tup ds)) (.dat (.int i)) cs (.dat d) cs := ⟨_, ix_tup, fun ad F H v w Q c r1 r2 q => by
  cases r2
  cases r1 with
  | tup e r =>
    obtain ⟨u, h1, h2⟩ := reps_at r hi
    exact ⟨_, _, i, u, rfl, rfl, e.sq, h1, q u H ad .refl c h2⟩⟩
theorem ix_C {k : Nat} (hk : cs[k]? = some (.lst ds)) (hi : atI ds i = some d) : IxD X T (.cel k) (.dat (.int i)) cs (.dat d) cs := ⟨_, ix_list, fun ad F H v w Q c r1 r2 q => by
  cases r2
  obtain ⟨p, e, rfl⟩ := r1
  obtain ⟨vs, h1, h2⟩ := c.ce k p _ e hk
  obtain ⟨u, h3, h4⟩ := reps_at h2 hi
  exact ⟨_, _, i, u, rfl, rfl, SqL.of h1, h3, q u H ad .refl c h4⟩⟩
theorem ix_S {x : Str} {c : Nat} (hl : x.length ≤ sizeLine) (hi : atI x.cps.toList i = some c) : IxD X T (.dat (.str x)) (.dat (.int i)) cs (.dat (.str ⟨#[c]⟩)) cs := ⟨_, ix_str, fun ad F H v w Q c' r1 r2 q => by
  cases r1; cases r2
  exact ⟨x, i, c, rfl, rfl, hl, hi, q _ H ad .refl c' Rep.str⟩⟩
theorem new_lst {K : PySem.W.Frag} {ad : List Addr} {F : Addr → Prop} {H : Hp} {vs : List V} {Q : VK} (c : HoldC T K ad F H cs) (r : Reps T K (Mm ad F) H vs ds) (q : ∀ z H' ad', Ext ad F H ad' H' → HoldC T K ad' F H' cs → SlRep T K ad' F H' z (.dat (.lst ds)) → Q z H')
    {p : Addr} (hp : H p = none) : Q (.ref p) (upd H p (.lst vs)) := by
  obtain ⟨c2, x2⟩ := c.newo (o := .lst vs) hp
  exact q _ _ ad x2 c2 (Rep.lst (vs := vs) (c.new hp) upd_same (r.kp x2.kp))
theorem new_tup {K : PySem.W.Frag} {ad : List Addr} {F : Addr → Prop} {H : Hp} {vs : List V} {Q : VK} (c : HoldC T K ad F H cs) (r : Reps T K (Mm ad F) H vs ds) (q : ∀ z H' ad', Ext ad F H ad' H' → HoldC T K ad' F H' cs → SlRep T K ad' F H' z (.dat (.tup ds)) → Q z H')
    {p : Addr} (hp : H p = none) : Q (.ref p) (upd H p (.tup vs)) := by
  obtain ⟨c2, x2⟩ := c.newo (o := .tup vs) hp
  exact q _ _ ad x2 c2 (Rep.tup (vs := vs) (.inl ⟨c.new hp, .inl upd_same⟩) (r.kp x2.kp))
theorem new_lstC {K : PySem.W.Frag} {ad : List Addr} {F : Addr → Prop} {H : Hp} {vs : List V} {Q : VK} (c : HoldC T K ad F H cs) (r : Reps T K (Mm ad F) H vs ds) (q : ∀ z H' ad', Ext ad F H ad' H' → HoldC T K ad' F H' (cs ++ [.lst ds]) → SlRep T K ad' F H' z (.cel cs.length) → Q z H')
    {p : Addr} (hp : H p = none) : Q (.ref p) (upd H p (.lst vs)) := by
  have kp : Kp (Mm ad F) H (Mm (ad ++ [p]) F) (upd H p (.lst vs)) := fun a o e n => by
    have np : a ≠ p := ne_of_none e hp
    refine ⟨by rw [upd_ne np]; exact e, fun z => ?_⟩
    rcases z with z | z
    · rcases List.mem_append.mp z with z | z
      · exact n (.inl z)
      · exact np (List.mem_singleton.mp z)
    · exact n (.inr z)
  obtain ⟨c2, x2⟩ := c.cell (o := .lst vs) (c := .lst ds) hp ⟨vs, upd_same, r.kp kp⟩
  refine q _ _ _ x2 c2 ⟨p, ?_, rfl⟩
  rw [← c.ln, List.getElem?_append_right (Nat.le_refl _)]
  simp
def isLst (cs : List Cell) (ds : List D) : Sl → Prop
  | .dat d => d = .lst ds
  | .cel k => cs[k]? = some (.lst ds)
theorem rd_lst {K : PySem.W.Frag} {ad : List Addr} {F : Addr → Prop} {H : Hp} {v : V} (h : isLst cs ds s) (c : HoldC T K ad F H cs) (r : SlRep T K ad F H v s) : ∃ a vs, v = .ref a ∧ H a = some (.lst vs) ∧ Reps T K (Mm ad F) H vs ds := by
  cases s with
  | dat d =>
    obtain rfl : d = .lst ds := h
    cases r with
    | lst n e r => exact ⟨_, _, rfl, e, r⟩
  | cel k =>
    obtain ⟨a, e, rfl⟩ := r
    obtain ⟨vs, h1, h2⟩ := c.ce k a _ e h
    exact ⟨a, vs, rfl, h1, h2⟩
theorem bin_addL (h1 : isLst cs ds s1) (h2 : isLst cs es s2) (hl : ds.length + es.length ≤ sizeLine) : BinD X T .Add s1 s2 cs (.dat (.lst (ds ++ es))) cs := ⟨_, op_cat, fun ad F H v w Q c r1 r2 q => by
  obtain ⟨a, vs, rfl, e1, q1⟩ := rd_lst h1 c r1
  obtain ⟨b, ws, rfl, e2, q2⟩ := rd_lst h2 c r2
  exact ⟨a, b, vs, ws, rfl, rfl, e1, e2, by rw [q1.length, q2.length]; exact hl, fun p hp => new_lst c (q1.append q2) q hp⟩⟩
theorem bin_addLC (h1 : isLst cs ds s1) (h2 : isLst cs es s2) (hl : ds.length + es.length ≤ sizeLine) : BinD X T .Add s1 s2 cs (.cel cs.length) (cs ++ [.lst (ds ++ es)]) := ⟨_, op_cat, fun ad F H v w Q c r1 r2 q => by
  obtain ⟨a, vs, rfl, e1, q1⟩ := rd_lst h1 c r1
  obtain ⟨b, ws, rfl, e2, q2⟩ := rd_lst h2 c r2
  exact ⟨a, b, vs, ws, rfl, rfl, e1, e2, by rw [q1.length, q2.length]; exact hl, fun p hp => new_lstC c (q1.append q2) q hp⟩⟩
theorem bin_addT (hl : ds.length + es.length ≤ sizeLine) : BinD X T .Add (.dat (.tup ds)) (.dat (.tup es)) cs (.dat (.tup (ds ++ es))) cs := ⟨_, op_catA, fun ad F H v w Q c r1 r2 q => by
  cases r1 with
  | @tup a vs _ e1 q1 =>
    cases r2 with
    | @tup b ws _ e2 q2 =>
      refine ⟨a, b, vs, ws, rfl, rfl, e1.sq, e2.sq, by rw [q1.length, q2.length]; exact hl, ?_⟩
      refine ⟨fun h => ?_, fun h => ?_, fun h h' p hp => new_tup c (q1.append q2) q hp⟩
      · subst h
        cases q1
        exact q _ H ad .refl c (Rep.tup e2 q2)
      · first
          | (intro h'; subst h'; cases q2; refine q _ H ad .refl c ?_; rw [List.append_nil]; exact Rep.tup e1 q1)
          | (subst h; cases q2; refine q _ H ad .refl c ?_; rw [List.append_nil]; exact Rep.tup e1 q1)⟩
theorem bin_addS {x y : Str} (hl : x.length + y.length ≤ sizeLine) : BinD X T .Add (.dat (.str x)) (.dat (.str y)) cs (.dat (.str (x ++ y))) cs := ⟨_, op_add_str, fun ad F H v w Q c r1 r2 q => by
  cases r1; cases r2
  exact ⟨x, y, rfl, rfl, hl, q _ H ad .refl c Rep.str⟩⟩
theorem reps_rep {K : PySem.W.Frag} {M : Addr → Prop} {H : Hp} {vs : List V} (h : Reps T K M H vs ds) : ∀ n, Reps T K M H (List.replicate n vs).flatten (List.replicate n ds).flatten
  | 0 => .nil
  | n + 1 => by
    rw [List.replicate_succ, List.replicate_succ, List.flatten_cons, List.flatten_cons]
    exact h.append (reps_rep h n)
theorem bin_repL (h1 : isLst cs ds s1) (h2 : -(2 ^ 63) ≤ j) (h3 : j < 2 ^ 63) (hl : ds.length * j.toNat ≤ sizeLine) : BinD X T .Mult s1 (.dat (.int j)) cs (.dat (.lst (List.replicate j.toNat ds).flatten)) cs := ⟨_, op_rep, fun ad F H v w Q c r1 r2 q => by
  cases r2
  obtain ⟨a, vs, rfl, e1, q1⟩ := rd_lst h1 c r1
  refine ⟨a, j, vs, rfl, rfl, e1, h2, h3, by rw [q1.length]; exact hl, fun p hp => ?_⟩
  first
    | exact new_lst c (reps_rep q1 _) q hp
    | (have z := new_lst c (reps_rep q1 j.toNat) q hp; simpa using z)⟩
def cutD (ds : List D) (lo hi : Option Int) : List D := (ds.drop (HT.sIx ds.length 0 lo)).take (HT.sIx ds.length ds.length hi - HT.sIx ds.length 0 lo)
theorem reps_cut {K : PySem.W.Frag} {M : Addr → Prop} {H : Hp} {vs : List V} (h : Reps T K M H vs ds) (lo hi : Option Int) : Reps T K M H (cutV vs lo hi) (cutD ds lo hi) := by
  unfold cutV cutD
  rw [h.length]
  exact (h.drop _).take _
theorem weakO {X : Cx} {e : Option Expr} {t t' : TO} (h : PO X e t) (q : ∀ σ H Q, t' σ H Q → t σ H Q) : PO X e t' := ⟨fun pins s σ H Q I z => h.run pins s σ H Q I (q σ H Q z)⟩
def SlcD (X : Cx) (T : Tab) (s1 : Sl) (lo hi : Option Int) (cs : List Cell) (s : Sl) (cs' : List Cell) : Prop := ∃ r, SlR X r ∧ ∀ ad F H v (Q : VK), HoldC T X.K ad F H cs → SlRep T X.K ad F H v s1 → (∀ z H' ad', Ext ad F H ad' H' → HoldC T X.K ad' F H' cs' → SlRep T X.K ad' F H' z s → Q z H') → r v lo hi H Q
theorem slc_L {lo hi : Option Int} (h1 : isLst cs ds s1) : SlcD X T s1 lo hi cs (.dat (.lst (cutD ds lo hi))) cs := ⟨_, sl_list, fun ad F H v Q c r1 q => by
  obtain ⟨a, vs, rfl, e1, q1⟩ := rd_lst h1 c r1
  exact ⟨a, vs, rfl, SqL.of e1, fun p hp => new_lst c (reps_cut q1 lo hi) q hp⟩⟩
theorem slc_T {lo hi : Option Int} : SlcD X T (.dat (.tup ds)) lo hi cs (.dat (.tup (cutD ds lo hi))) cs := ⟨_, sl_tupA, fun ad F H v Q c r1 q => by
  cases r1 with
  | @tup a vs _ e1 q1 =>
    refine ⟨a, vs, rfl, e1.sq, fun hw => ?_, fun hw p hp => new_tup c (reps_cut q1 lo hi) q hp⟩
    have e : cutD ds lo hi = ds := by
      unfold cutD
      rw [q1.length] at hw
      rw [hw.1, hw.2]
      simp
    rw [e] at q
    exact q _ H ad .refl c (Rep.tup e1 q1)⟩
mutual
def D.py : D → PyData
  | .non => .none
  | .bl b => .bool b
  | .int i => .int i
  | .str x => .str x
  | .tup xs => .tuple (D.pys xs)
  | .lst xs => .list (D.pys xs)
  | .scr xs => .list (D.pys xs)
  | .obj _ _ => .none
  | .err _ _ _ _ => .none
  | .cls _ => .none
  | .dct _ _ => .none
  | .fn _ => .none
  | .dcn _ _ => .none
def D.pys : List D → List PyData
  | [] => []
  | x :: xs => D.py x :: D.pys xs
end
mutual
def D.plain : D → Bool
  | .tup xs => D.plains xs
  | .lst xs => D.plains xs
  | .scr xs => D.plains xs
  | .obj _ _ => false
  | .err _ _ _ _ => false
  | .cls _ => false
  | .dct _ _ => false
  | .fn _ => false
  | .dcn _ _ => false
  | _ => true
def D.plains : List D → Bool
  | [] => true
  | x :: xs => D.plain x && D.plains xs
end
mutual
theorem Rep.dp {K : PySem.W.Frag} {M : Addr → Prop} {H : Hp} {v : V} {d : D} (r : Rep T K M H v d) (h : d.plain = true) : Dp K H v d.py :=
  match r with
  | .non => .non
  | .bl => .bl _
  | .int => .int _
  | .str => .str _
  | .tup h1 h2 => .tup h1.sq (Reps.dp h2 h)
  | .lst n h1 h2 => .lst (SqL.of h1) (Reps.dp h2 h)
  | .scr h1 h2 => .lst h1.sq (Reps.dp h2 h)
  | .obj .. => Bool.noConfusion (show false = true from h)
  | .err .. => Bool.noConfusion (show false = true from h)
  | .cls => Bool.noConfusion (show false = true from h)
  | .dct .. => Bool.noConfusion (show false = true from h)
  | .fn .. => Bool.noConfusion (show false = true from h)
  | .dcn .. => Bool.noConfusion (show false = true from h)
theorem Reps.dp {K : PySem.W.Frag} {M : Addr → Prop} {H : Hp} {vs : List V} {ds : List D} (r : Reps T K M H vs ds) (h : D.plains ds = true) : DpAll K H vs (D.pys ds) :=
  match r, h with
  | .nil, _ => .nil
  | .cons h1 h2, h => .cons (Rep.dp h1 (Bool.and_eq_true_iff.mp h).1) (Reps.dp h2 (Bool.and_eq_true_iff.mp h).2)
end
def okD (d : D) : Bool := d.plain && SeqAt.shaped d.py
def eqD (d e : D) : Bool := PyData.eqv d.py e.py
theorem cmp_eqD (hu : X.A.units + 64 < cLine) (h1 : okD d1 = true) (h2 : okD d2 = true) : CmpD X T .Eq (.dat d1) (.dat d2) cs (.dat (.bl (eqD d1 d2))) cs := ⟨_, op_eqD hu, fun ad F H v w Q c r1 r2 q => by
  have a1 := Bool.and_eq_true_iff.mp h1
  have a2 := Bool.and_eq_true_iff.mp h2
  exact ⟨_, _, Rep.dp r1 a1.1, Rep.dp r2 a2.1, a1.2, a2.2, q _ H ad .refl c Rep.bl⟩⟩
theorem cmp_neD (hu : X.A.units + 64 < cLine) (h1 : okD d1 = true) (h2 : okD d2 = true) : CmpD X T .NotEq (.dat d1) (.dat d2) cs (.dat (.bl (!eqD d1 d2))) cs := ⟨_, op_neD hu, fun ad F H v w Q c r1 r2 q => by
  have a1 := Bool.and_eq_true_iff.mp h1
  have a2 := Bool.and_eq_true_iff.mp h2
  exact ⟨_, _, Rep.dp r1 a1.1, Rep.dp r2 a2.1, a1.2, a2.2, q _ H ad .refl c Rep.bl⟩⟩
theorem eqD_refl (h : okD d = true) : eqD d d = true := by
  have a1 := Bool.and_eq_true_iff.mp h
  exact SeqAt.eqv_refl _ (SeqAt.canLay_of_shaped a1.2)
theorem cb_len (h : isLst cs ds s1) : CalB X T "len" [s1] cs (.dat (.int ds.length)) cs := ⟨_, _, PySem.boot_len, .inl ⟨_, rfl⟩, call_len_seq, fun ad F H vs Q c r q => by
  match vs, r with
  | [v], r =>
    obtain ⟨a, ws, rfl, e1, q1⟩ := rd_lst h c r.1
    exact ⟨a, ws, rfl, .inl (SqL.of e1), by rw [q1.length]; exact q _ H ad .refl c Rep.int⟩⟩
theorem cb_lenR : CalB X T "len" [.dat (.scr ds)] cs (.dat (.int ds.length)) cs := ⟨_, _, PySem.boot_len, .inl ⟨_, rfl⟩, call_len_seq, fun ad F H vs Q c r q => by
  match vs, r with
  | [v], r =>
    have r1 := r.1
    cases r1 with
    | @scr a ws _ e1 q1 => exact ⟨a, ws, rfl, .inl e1.sq, by rw [q1.length]; exact q _ H ad .refl c Rep.int⟩⟩
theorem cb_lenT : CalB X T "len" [.dat (.tup ds)] cs (.dat (.int ds.length)) cs := ⟨_, _, PySem.boot_len, .inl ⟨_, rfl⟩, call_len_seq, fun ad F H vs Q c r q => by
  match vs, r with
  | [v], r =>
    have r1 := r.1
    cases r1 with
    | @tup a ws _ e1 q1 => exact ⟨a, ws, rfl, .inr e1.sq, by rw [q1.length]; exact q _ H ad .refl c Rep.int⟩⟩
theorem cb_lenS {x : Str} (hl : x.length ≤ sizeLine) : CalB X T "len" [.dat (.str x)] cs (.dat (.int x.length)) cs := ⟨_, _, PySem.boot_len, .inl ⟨_, rfl⟩, call_len_str, fun ad F H vs Q c r q => by
  match vs, r with
  | [v], r =>
    have r1 := r.1
    cases r1
    exact ⟨x, rfl, hl, q _ H ad .refl c Rep.int⟩⟩
theorem cb_int : CalB X T "int" [.dat (.int i)] cs (.dat (.int i)) cs := ⟨_, _, by decide +kernel, .inr ⟨_, rfl⟩, call_int1, fun ad F H vs Q c r q => by
  match vs, r with
  | [v], r =>
    have r1 := r.1
    cases r1
    exact .inl ⟨i, rfl, q _ H ad .refl c Rep.int⟩⟩
theorem cb_intB {k : Bool} : CalB X T "int" [.dat (.bl k)] cs (.dat (.int (if k then 1 else 0))) cs := ⟨_, _, by decide +kernel, .inr ⟨_, rfl⟩, call_int1, fun ad F H vs Q c r q => by
  match vs, r with
  | [v], r =>
    have r1 := r.1
    cases r1
    exact .inr ⟨k, rfl, q _ H ad .refl c Rep.int⟩⟩
theorem cb_lstL (h : isLst cs ds s1) : CalB X T "list" [s1] cs (.dat (.lst ds)) cs := ⟨_, _, by decide +kernel, .inr ⟨_, rfl⟩, call_list_of, fun ad F H vs Q c r q => by
  match vs, r with
  | [v], r =>
    obtain ⟨a, ws, rfl, e1, q1⟩ := rd_lst h c r.1
    exact ⟨a, ws, rfl, .inl (SqL.of e1), fun l hl => new_lst c q1 q hl⟩⟩
theorem cb_lstT : CalB X T "list" [.dat (.tup ds)] cs (.dat (.lst ds)) cs := ⟨_, _, by decide +kernel, .inr ⟨_, rfl⟩, call_list_of, fun ad F H vs Q c r q => by
  match vs, r with
  | [v], r =>
    have r1 := r.1
    cases r1 with
    | @tup a ws _ e1 q1 => exact ⟨a, ws, rfl, .inr e1.sq, fun l hl => new_lst c q1 q hl⟩⟩
theorem cb_lstLC (h : isLst cs ds s1) : CalB X T "list" [s1] cs (.cel cs.length) (cs ++ [.lst ds]) := ⟨_, _, by decide +kernel, .inr ⟨_, rfl⟩, call_list_of, fun ad F H vs Q c r q => by
  match vs, r with
  | [v], r =>
    obtain ⟨a, ws, rfl, e1, q1⟩ := rd_lst h c r.1
    exact ⟨a, ws, rfl, .inl (SqL.of e1), fun l hl => new_lstC c q1 q hl⟩⟩
theorem cb_lstTC : CalB X T "list" [.dat (.tup ds)] cs (.cel cs.length) (cs ++ [.lst ds]) := ⟨_, _, by decide +kernel, .inr ⟨_, rfl⟩, call_list_of, fun ad F H vs Q c r q => by
  match vs, r with
  | [v], r =>
    have r1 := r.1
    cases r1 with
    | @tup a ws _ e1 q1 => exact ⟨a, ws, rfl, .inr e1.sq, fun l hl => new_lstC c q1 q hl⟩⟩
end
section
variable {X : Cx} {T : Tab} {n : Nat} {S S1 S2 S3 : Sta} {e o ix : Expr} {pos p' : Pos} {d : D} {ds : List D} {k j : Nat} {i : Int} {P : Post}
end
end Dl
namespace Dl
open PySem L2
def wipeS (sl : List (Option Sl)) : List Nat → List (Option Sl)
  | [] => sl
  | v :: vs => (wipeS sl vs).set v none
theorem wipeS_len (sl : List (Option Sl)) : ∀ vs, (wipeS sl vs).length = sl.length
  | [] => rfl
  | v :: vs => by unfold wipeS; rw [List.length_set, wipeS_len sl vs]
theorem wipeS_some {sl : List (Option Sl)} {i : Nat} {s : Sl} : ∀ {vs : List Nat}, (wipeS sl vs)[i]? = some (some s) → sl[i]? = some (some s) ∧ i ∉ vs
  | [], h => ⟨h, by simp⟩
  | v :: vs, h => by
    unfold wipeS at h
    by_cases e : v = i
    · subst e
      rw [List.getElem?_set] at h
      split at h
      · split at h <;> cases h
      · rename_i z; exact absurd rfl z
    · rw [List.getElem?_set_ne e] at h
      obtain ⟨h1, h2⟩ := wipeS_some h
      exact ⟨h1, fun z => (List.mem_cons.mp z).elim (fun q => e q.symm) h2⟩
theorem weakTs {X : Cx} {e : List Expr} {t t' : TT} (h : PTs X e t) (q : ∀ σ H Q, t' σ H Q → t σ H Q) : PTs X e t' := ⟨fun pins s σ H Q I z => h.run pins s σ H Q I (q σ H Q z)⟩
abbrev Turn1 := List (Option Sl) → List Cell → Option D → List Cell → Prop
def InB (X : Cx) (scope : Scope) (f : Cx → Prop) : Prop := ∀ (s : Shared) (H : Hp) (C : Addr) (cl : List (Str × Addr)) (fp : List Addr), f (X.blk s H scope (compEnvC scope cl C X.env) fp)
structure DLC (X : Cx) (T : Tab) (S : Sta) (elt tg iter : Expr) (ifs : List Expr) (scope : Scope) (own : List (Str × Nat)) (wi : TI) (g : TG) (tt : TT) (te : TE) (s : Sl) (S' : Sta) : Prop where
  hi : PI X tg iter wi
  ok : BlkOk X.N X.env.scope scope own
  hg : ∀ (s : Shared) (H : Hp) (C : Addr) (cl : List (Str × Addr)) (fp : List Addr), PG (X.blk s H scope (compEnvC scope cl C X.env) fp) tg g
  ht : ∀ (s : Shared) (H : Hp) (C : Addr) (cl : List (Str × Addr)) (fp : List Addr), PTs (X.blk s H scope (compEnvC scope cl C X.env) fp) ifs tt
  he : ∀ (s : Shared) (H : Hp) (C : Addr) (cl : List (Str × Addr)) (fp : List Addr), PE (X.blk s H scope (compEnvC scope cl C X.env) fp) elt te
  rd : ∀ σ H Q, tD T X.K S s S' σ H Q → tLc wi g tt te (own.map (·.2)) σ H Q
section
variable {X : Cx} {T : Tab} {S S1 : Sta} {elt tg iter : Expr} {ifs : List Expr} {scope : Scope} {own : List (Str × Nat)} {p : Pat} {items acc : List D} {cs' : List Cell}
theorem wipe_asis {σ σ' : St} {vs : List Nat} {ns : List Nat} (h : AsIs ns (wipe σ vs) σ') (hs : ∀ i ∈ ns, i ∈ vs) : wipe σ' vs = wipe σ vs := by
  apply List.ext_getElem?
  intro i
  by_cases hi : i ∈ vs
  · have : ∀ (τ : St) (us : List Nat), i ∈ us → (wipe τ us)[i]? = if i < τ.length then some none else none := by
      intro τ us
      induction us with
      | nil => intro h; cases h
      | cons v us ih =>
        intro h
        unfold wipe
        by_cases e : v = i
        · subst e
          rw [List.getElem?_set, if_pos rfl, wipe_length]
        · rw [List.getElem?_set_ne e]
          exact ih ((List.mem_cons.mp h).resolve_left (fun q => e q.symm))
    rw [this _ _ hi, this _ _ hi, h.1, wipe_length]
  · rw [wipe_out hi, wipe_out hi, h.2 i fun z => hi (hs i z), wipe_out hi]
variable {wi : TI} {g : TG} {tt : TT} {te : TE} {s : Sl} {S' : Sta} {pos : Pos}
end
section
variable {B : Turn1} {p : Pat} {sl : List (Option Sl)} {cs : List Cell}
variable {X : Cx} {T : Tab} {scope : Scope} {elt c : Expr} {sl' : List (Option Sl)} {cs1 : List Cell} {d : D} {S2 S3 : Sta}
end
end Dl
namespace Dl
open PySem L2
section
variable {X : Cx} {T : Tab} {S S1 S2 : Sta} {e e2 : Expr} {pos p tpos : Pos} {ds es : List D} {elts : List Expr} {kk : Nat}
end
section
variable {X : Cx} {T : Tab} {n : Nat} {S S1 S2 : Sta} {a b c e tg : Expr} {pos px py pz pt pt2 : Pos} {kt k2 : Nat} {s1 s2 s3 : Sl} {d : D} {x y z : Str} {P : Post} {p : Pat} {sl' : List (Option Sl)}
end
section
variable {X : Cx} {T : Tab} {n : Nat} {S S1 : Sta} {c : Expr} {body : List Stmt} {pos : Pos} {P : Post}
end
def fIdx : List Str → Str → Option Nat
  | [], _ => none
  | g :: r, f => if f == g then some 0 else (fIdx r f).map (· + 1)
theorem fIdx_none : ∀ {fn : List Str} {f : Str} {vs : List V}, fIdx fn f = none → (fn.zip vs).lookup f = none
  | [], _, _, _ => rfl
  | g :: r, f, [], _ => rfl
  | g :: r, f, v :: vs, h => by
    unfold fIdx at h
    by_cases e : (f == g) = true
    · rw [if_pos e] at h; cases h
    · rw [if_neg e] at h
      have q : fIdx r f = none := by
        cases q : fIdx r f with
        | none => rfl
        | some k => rw [q] at h; cases h
      rw [List.zip_cons_cons, List.lookup_cons]
      simp only [Bool.not_eq_true] at e
      rw [e]
      exact fIdx_none q
section
variable {X : Cx} {T : Tab} {n : Nat} {S S1 S2 : Sta} {e o : Expr} {es : List Expr} {pos apos p' : Pos} {ds vs : List D} {d : D} {f m : Str} {C g : Addr} {fn : List Str} {c : Ct} {k j cn : Nat} {fd : FuncData} {ps : List Str} {P : Post} {s : Sl} {ss : List Sl} {c0 c1 : Cell}
end
end Dl
namespace Dl
open PySem L2
theorem weakK {X : Cx} {e : List Keyword} {t t' : TA} (h : PK X e t) (q : ∀ σ H Q, t' σ H Q → t σ H Q) : PK X e t' := ⟨fun pos pins s σ H Q I z => h.run pos pins s σ H Q I (q σ H Q z)⟩
section
variable {X : Cx} {T : Tab} {S S1 S2 S3 : Sta} {e o : Expr} {es : List Expr} {kws : List Keyword} {nm : Option Str} {pos kpos p apos : Pos} {s : Sl} {ss : List Sl} {ds args kargs full : List D} {d : D} {x m : Str} {C g : Addr} {fn : List Str} {c : Ct} {k cn pn : Nat} {fd : FuncData} {ps ks : List Str}
  {gg : List Value → List Value → List Value} {gV : List V → List V → List V}
def Put (K : PySem.W.Frag) (gV : List V → List V → List V) (args kargs full : List D) : Prop := ∀ (x : V) (ws zs : List V), ws.length = args.length → zs.length = kargs.length → ∃ us, gV (x :: ws) zs = x :: us ∧ ∀ T M H, Reps T K M H ws args → Reps T K M H zs kargs → Reps T K M H us full
end
def tyD : D → Option String
  | .non => some "NoneType"
  | .bl _ => some "bool"
  | .int _ => some "int"
  | .str _ => some "str"
  | .tup _ => some "tuple"
  | .lst _ => some "list"
  | .scr _ => some "list"
  | .obj _ _ => none
  | .err _ _ _ _ => none
  | .cls _ => none
  | .dct _ _ => none
  | .fn _ => none
  | .dcn _ _ => none
structure IsiC (K : PySem.W.Frag) (C : Addr) : Prop where
  cl : Cls K C
  ca : PySem.W.findIn K (.ref C) "__class__" = some (some (.builtin "object.__class__"))
  cn : PySem.W.specialIn K (.builtin "object.__class__") "__get__" = some (some (.builtin "getset_descriptor.__get__"))
  ct : PySem.W.takesIn K (.builtin "object.__class__") = some true
  cm : PySem.W.mroIn K C (.type "object") = some true
theorem tyx_of {T : Tab} {K : PySem.W.Frag} {M : Addr → Prop} {H : Hp} {v : V} {d : D} {t : String} (r : Rep T K M H v d) (h : tyD d = some t) : TyX K H v (.type t) := by
  cases r with
  | non => cases h; exact .base .non
  | bl => cases h; exact .base (.bl _)
  | int => cases h; exact .base (.int _)
  | str => cases h; exact .base (.str _)
  | tup h1 _ =>
    cases h
    rcases h1 with ⟨_, h1 | ⟨o, h1⟩⟩ | h1
    · exact .base (.tup h1)
    · exact .fTuple h1
    · rcases h1 with (z | ⟨_, z⟩) | ⟨o, its, n, e, c, _⟩
      · cases z
      · cases z
      · exact .kTuple e c
  | lst _ h1 _ => cases h; exact .base (.lst h1)
  | scr h1 _ =>
    cases h
    rcases h1 with ⟨_, o, h1⟩ | h1
    · exact .base (.frz h1)
    · rcases h1 with (z | ⟨_, z⟩) | ⟨o, its, n, e, c, _⟩
      · cases z
      · cases z
      · exact .kList e c
  | obj => cases h
  | err => cases h
  | cls => cases h
  | dct _ _ _ _ => cases h
  | fn _ _ _ _ => cases h
  | dcn => cases h
section
variable {X : Cx} {T : Tab} {S S1 : Sta} {e : Expr} {pos p p2 : Pos} {d : D} {t u : String} {b : Bool} {x : Str} {C C2 : Addr} {cn : Nat} {fn : List Str} {ds : List D}
end
theorem run_vals {X : Cx} {g : Addr} {fd : FuncData} {ps : List Str} {k : Nat} {sp : Sp} {pins : List (Addr × Obj)} {σ : St} {H : Hp} {s : Shared} {Q : VK} {us : List Value} {vs : List V} (F : FnOk X.prog X.w X.K X.mg X.base CX0 k g fd ps sp) (hr : Room k X.A) (hb : Binds X.K fd ps [])
    (I : Inv X pins σ H s) (r : Vals vs us) (h : sp vs H Q E0) : wpAny (model X.prog X.w) X.A (call (.ref g) us) (EP X pins σ Q) X.xe s :=
  run_fn F hr hb .nil pass0 I r (by rw [List.append_nil]; exact h)
theorem cmpb {X : Cx} {pins : List (Addr × Obj)} {σ : St} {Q : VK} {v : Value} {s : Shared} (h : EP X pins σ Q v s) : PySem.W.CmpBack (EP X pins σ Q) v s := by
  obtain ⟨z, H', I, r, q⟩ := id h
  cases z with
  | non => cases (show v = Value.none from r); exact h
  | bl b => cases (show v = Value.bool b from r); exact h
  | int i => obtain ⟨t, e⟩ := (show ∃ t, v = Value.int i t from r); cases e; exact h
  | str x => obtain ⟨t, e⟩ := (show ∃ t, v = Value.str x t from r); cases e; exact h
  | byt b => obtain ⟨t, e⟩ := (show ∃ t, v = Value.bytes b t from r); cases e; exact h
  | flt b => obtain ⟨t, e⟩ := (show ∃ t, v = Value.float b t from r); cases e; exact h
  | ref a => cases (show v = Value.ref a from r); exact h
  | ty n => cases (show v = Value.type n from r); exact h
section
variable {X : Cx} {T : Tab} {C g : Addr} {fd : FuncData} {ps : List Str} {k cn : Nat} {c : Ct} {fn : List Str} {op : Operator} {ds es : List D} {d : D} {cs : List Cell} {i : Int} {uop : UnaryOp}
theorem op_ownI {sp : Sp} {fo ro rc : Option Value} (G : FnOk X.prog X.w X.K X.mg X.base CX0 k g fd ps sp) (hr : Room k X.A) (hb : Binds X.K fd ps []) (hc : PySem.W.selfFirst X.K C = true) (hs : PySem.W.findIn X.K (.ref C) (PySem.dunder op.info.2) = some (some (.ref g))) (hf : PySem.W.isFn X.K (.ref g) = true)
    (hrf : PySem.W.findIn X.K (.ref C) (dunderR op.info.2) = some rc) (hp : rc = none ∨ ∃ g : Addr, rc = some (.ref g)) (h1 : PySem.W.findIn X.K (.type "int") (PySem.dunder op.info.2) = some fo) (h2 : PySem.W.findIn X.K (.type "int") (dunderR op.info.2) = some ro) (hsub : PySem.W.subIn X.K (.type "int") (.ref C) = some false) :
    OpR X (binaryOp op) (fun x y H Q => ∃ a dx fs i, x = .ref a ∧ y = .int i ∧ H a = some (.ins C dx fs) ∧ sp [x, y] H Q E0) := by
  intro pins s σ H x y v u Q I rx ry h
  obtain ⟨a, dx, fs, i, rfl, rfl, ea, hsp⟩ := h
  cases rx
  obtain ⟨t, rfl⟩ := ry
  obtain ⟨mA, J, _⟩ := ins_get I.hok ea
  obtain ⟨od, J, _⟩ := J.look
  obtain ⟨m, hF⟩ := I.fr
  exact PySem.W.ksp_binT (T := "int") hF I.ok.mod.kin J rfl hc hs hf hrf hp h1 h2 hsub (thn (run_vals (us := [.ref a, .int i t]) (vs := [.ref a, .int i]) G hr hb I (.cons rfl (.cons ⟨t, rfl⟩ .nil)) hsp) fun _ _ z => cmpb z)
theorem un_own {sp : Sp} (G : FnOk X.prog X.w X.K X.mg X.base CX0 k g fd ps sp) (hr : Room k X.A) (hb : Binds X.K fd ps []) (hs : PySem.W.findIn X.K (.ref C) "__neg__" = some (some (.ref g))) (hf : PySem.W.isFn X.K (.ref g) = true) :
    UnR X (unaryOp .USub) (fun x H Q => ∃ a dx fs, x = .ref a ∧ H a = some (.ins C dx fs) ∧ sp [x] H Q E0) := by
  intro pins s σ H x v Q I rx h
  obtain ⟨a, dx, fs, rfl, ea, hsp⟩ := h
  cases rx
  obtain ⟨mA, J, _⟩ := ins_get I.hok ea
  obtain ⟨od, J, _⟩ := J.look
  obtain ⟨m, hF⟩ := I.fr
  exact PySem.W.ksp_neg hF I.ok.mod.kin J hs hf (run_vals (us := [.ref a]) (vs := [.ref a]) G hr hb I (.cons rfl .nil) hsp)
end
end Dl
namespace Dl
open PySem L2
section
open PySem.W
variable {prog : Program} {w : World} {A : Around} {E : Value → Shared → Prop} {s : Shared} {K : Frag} {x C f g : Addr} {ox : Obj} {od : Option Obj}
end
theorem inst_get {X : Cx} {pins : List (Addr × Obj)} {σ : St} {H : Hp} {s : Shared} {a C dx : Addr} {fs : List (Str × V)} (I : Inv X pins σ H s) (ea : H a = some (.ins C dx fs)) : ∃ od, PySem.W.InstAt s.heap a (PySem.W.instObj C dx) C (some od) := by
  obtain ⟨mA, J, _⟩ := ins_get I.hok ea
  obtain ⟨od, J, _⟩ := J.look
  exact ⟨od, J⟩
structure OpC (K : PySem.W.Frag) (C : Addr) (op : Operator) (g : Addr) : Prop where
  sf : PySem.W.selfFirst K C = true
  at_ : PySem.W.findIn K (.ref C) (PySem.dunder op.info.2) = some (some (.ref g))
  fn : PySem.W.isFn K (.ref g) = true
  rc : ∃ rc, PySem.W.findIn K (.ref C) (dunderR op.info.2) = some rc ∧ (rc = none ∨ ∃ g : Addr, rc = some (.ref g))
  i1 : ∃ fo, PySem.W.findIn K (.type "int") (PySem.dunder op.info.2) = some fo
  i2 : ∃ ro, PySem.W.findIn K (.type "int") (dunderR op.info.2) = some ro
  su : PySem.W.subIn K (.type "int") (.ref C) = some false
structure OpR' (K : PySem.W.Frag) (C : Addr) (op : Operator) (g : Addr) : Prop where
  sf : PySem.W.selfFirst K C = true
  lf : ∃ f : Addr, PySem.W.findIn K (.ref C) (PySem.dunder op.info.2) = some (some (.ref f))
  at_ : PySem.W.findIn K (.ref C) (dunderR op.info.2) = some (some (.ref g))
  fn : PySem.W.isFn K (.ref g) = true
  ii : ∃ fo ro, PySem.W.findIn K (.type "int") (PySem.dunder op.info.2) = some fo ∧ PySem.W.findIn K (.type "int") (dunderR op.info.2) = some ro ∧ ((fo.isSome && !isSeqSlot fo) || (ro.isSome && !isSeqSlot ro)) = true
  su : PySem.W.subIn K (.ref C) (.type "int") = some false
structure NoIn (K : PySem.W.Frag) (C : Addr) (op : Operator) : Prop where
  cl : ∃ cd, PySem.W.clsIn K C = some cd ∧ cd.mro = [.ref C, .type "object"]
  at_ : PySem.W.findIn K (.ref C) (dunderI op.info.2) = some none
  ob : PySem.W.findIn K (.type "object") (dunderI op.info.2) = some none
structure IntNi (op : Operator) : Prop where
  ex : ∃ id name F, Slot "int" (PySem.dunder op.info.2) id ∧ entryFor table id = some (Builtin.Int.intBinary name F false) ∧ ∀ a b : Value, argsOk id ⟨[a, b], []⟩
def IopD (X : Cx) (T : Tab) (op : Operator) (s1 s2 : Sl) (cs : List Cell) (s : Sl) (cs' : List Cell) : Prop := ∃ r, OpR X (inplaceOp op) r ∧ R2D T X.K r s1 s2 cs s cs'
section
variable {X : Cx} {T : Tab} {C g : Addr} {fd : FuncData} {ps : List Str} {k cn : Nat} {c : Ct} {fn : List Str} {op : Operator} {ds es : List D} {d : D} {cs : List Cell} {i j : Int}
end
end Dl
namespace Dl
open PySem L2
end Dl
namespace Dl
open PySem L2
section
variable {X : Cx} {T : Tab} {C g : Addr} {fd : FuncData} {ps : List Str} {k cn : Nat} {c : Ct} {fn : List Str} {op : CmpOp} {ds es : List D} {d : D} {cs : List Cell}
theorem cop_own2 {sp : Sp} (G : FnOk X.prog X.w X.K X.mg X.base CX0 k g fd ps sp) (hr : Room k X.A) (hb : Binds X.K fd ps []) (hs : PySem.W.findIn X.K (.ref C) (cmpInfo op).2.1 = some (some (.ref g))) (hf : PySem.W.isFn X.K (.ref g) = true) (ho : compareOp op = richCompare op) :
    OpR X (compareOp op) (fun x y H Q => ∃ a b dx dy fs gs, x = .ref a ∧ y = .ref b ∧ H a = some (.ins C dx fs) ∧ H b = some (.ins C dy gs) ∧ sp [x, y] H Q E0) := by
  intro pins s σ H x y v u Q I rx ry h
  obtain ⟨a, b, dx, dy, fs, gs, rfl, rfl, ea, eb, hsp⟩ := h
  cases rx; cases ry
  obtain ⟨mA, J, _⟩ := ins_get I.hok ea
  obtain ⟨mB, J', _⟩ := ins_get I.hok eb
  obtain ⟨od, J, _⟩ := J.look
  obtain ⟨od', J', _⟩ := J'.look
  obtain ⟨m, hF⟩ := I.fr
  rw [ho]
  exact PySem.W.cmp_K (tb := .ref C) hr.units0 hF I.ok.mod.kin J J'.type (by simp [PySem.W.notFirst]) hs hf (thn (run_vals (us := [.ref a, .ref b]) (vs := [.ref a, .ref b]) G hr hb I (.cons rfl (.cons rfl .nil)) hsp) fun _ _ z => cmpb z)
end
section
variable {X : Cx} {T : Tab} {ds : List D} {d : D} {cs : List Cell}
def fv : D → Option V
  | .non => some .non
  | .bl b => some (.bl b)
  | .int i => some (.int i)
  | .str x => some (.str x)
  | _ => none
end
theorem mul_l {i j : Int} (h1 : -(2 ^ 64) < i) (h2 : i < 2 ^ 64) : IntMulOk i j := CMul.ok (.inl ⟨h1, h2⟩)
end Dl
namespace Dl
open PySem L2
end Dl
namespace Dl
open PySem L2
def spL (K : PySem.W.Frag) : Sp := fun vs H Q _ => ∃ (a : Addr) (ns : List Int), vs = [.ref a] ∧ LAt K (fun _ => False) H a (ns.map V.int) ∧ ns.length ≤ 63 ∧ (∀ z ∈ ns, Builtin.Int.intBits z ≤ 1048576) ∧ ∀ H', Q (.bl true) H'
theorem spL_to {T : Tab} {K : PySem.W.Frag} {c : Ct} (h : ∀ ns : List Int, ns.length ≤ 63 → (∀ z ∈ ns, Builtin.Int.intBits z ≤ 1048576) → c [.dat (.scr (ns.map D.int))] [] (.dat (.bl true)) []) {vs : List V} {H : Hp} {Q : VK} {E : XK} (q : spL K vs H Q E) (hT : T 900 = none := by rfl) : spC T K c vs H Q E := by
  obtain ⟨a, ns, rfl, hl, hn, hb, hq⟩ := q
  refine ⟨[], fun _ => False, [.dat (.scr (ns.map D.int))], [], _, _, ⟨List.nodup_nil, fun _ z => (nomatch z), fun _ z => z.elim, fun P q z => (by rw [hT] at z; cases z), rfl, fun _ _ _ e => nomatch e⟩, ⟨Rep.scr (vs := ns.map V.int) ?_ (Reps.ints ns), trivial⟩, h ns hn hb, ?_⟩
  · rcases hl with ⟨_, o, e⟩ | e
    · exact .inl ⟨fun z => z.elim (fun z => nomatch z) id, o, e⟩
    · exact .inr e
  · intro v H' ad' _ _ _ r
    cases r
    exact hq H'
theorem spL_of {K : PySem.W.Frag} (H : Hp) (a : Addr) (ns : List Int) (hl : ns.length ≤ 63) (hb : ∀ z ∈ ns, Builtin.Int.intBits z ≤ 1048576) (hO : Only H) (hS : SqL K H a (ns.map V.int)) : spL K [.ref a] H (fun v _ => v = .bl true) fun _ _ _ => False :=
  ⟨a, ns, rfl, LAt.of hO hS, hl, hb, fun _ => rfl⟩
theorem kit_self {K : PySem.W.Frag} {C : Addr} : PySem.W.kitOne K (.ref C) (.ref C) = some true := if_pos (beq_self_eq_true _)
end Dl
namespace Dl
open PySem L2
structure CIn (K : PySem.W.Frag) (C : Addr) : Prop where
  ty : PySem.W.typeIn K (.ref C) = some (.type "type")
  rd : PySem.W.readsIn K C (.type "type") = true
  ga : PySem.W.specialIn K (.ref C) "__getattribute__" = some (some (.builtin "type.__getattribute__"))
  at_ : PySem.W.findCls K (.ref C) (.type "type") "__init__" = some (.val (.builtin "ValueError.__init__"))
open PySem.Spec PyProof.Rows in
theorem pe_cinit {X : Cx} {x : Str} {C0 : Addr} {e : Expr} {es : List Expr} {ta : TA} {p1 p2 pos : Pos} {pl : Sem Bool} (hg : Gl X x) (hm : X.mg x = some (.ref C0)) (c : CIn X.K C0) (ha : PA X (e :: es) ta) (hdb : (x == ("__debug__" : Str)) = false)
    (ht : eval (.Call (.Attribute (.Name x p1) "__init__" p2) (e :: es) [] pos) X.env = (do
      let ov ← eval (.Name x p1) X.env
      standAt p2.atName
      let (f, first) ← holding [ov] (getMethod ov "__init__" pl)
      callWith pos f first (backTo pos (starEach (e :: es) X.env)) (backToKw pos (keywordEach [] X.env))))
    (he : starEach (e :: es) X.env = (false, eval e X.env) :: starEach es X.env) (hpl : (backTo pos (starEach es X.env)).any (·.1) = false) :
    PE X (.Call (.Attribute (.Name x p1) "__init__" p2) (e :: es) [] pos) (tVeI X.K ta) := by
  constructor
  intro pins s σ H Q I h
  obtain ⟨m, fr⟩ := I.fr
  refine PySem.W.methodCall_KW (ld_glob I hg hm (PySem.W.method_of_cls fr I.ok.mod.kin c.ga (PySem.W.cls_val fr I.ok.mod.kin c.ty c.rd c.at_ (by decide +kernel) ?_)) hdb) ht
  show wpAny _ _ (callWith pos (Value.builtin "ValueError.__init__") [] (backTo pos (starEach (e :: es) X.env)) []) _ _ _
  refine PyProof.Rows.callWith_method1 (thn (ha.run pos pins _ σ H _ (I.tok _) h) fun us s1 z => ?_) he hpl
  obtain ⟨vs, H1, I1, r1, a, C, ws, ev, hl, T, ea, q⟩ := z
  subst ev
  cases r1 with
  | @cons _ u0 _ ur ra rw' =>
    cases (show u0 = Value.ref a from ra)
    exact oinit_ok T I1 ea (by rw [← Paired.length rw', sizeLine_eq]; omega) fun s' J => ⟨.non, H1, J, rfl, q⟩
section
variable {X : Cx} {T : Tab} {a C Ce : Addr} {oe : Obj} {d : Option Addr} {pn : List (Addr × Obj)} {S S1 S2 : Sta} {e e2 : Expr} {pos p : Pos} {n : Nat} {fs : List D} {b : Bool} {fn : List Str} {x : Str}
structure Err (X : Cx) (T : Tab) (n : Nat) (a : Addr) (d : Option Addr) (Ce : Addr) (oe : Obj) : Prop where
  ec : ExcC X.K Ce
  hz : Zc (.ref Ce) d oe
  hf : ∃ vs, oe.data = .fields vs
  ht : ∃ fn, T n = some (Ce, fn)
end
end Dl
namespace Dl
open PySem L2
def spE1 (C : Addr) (f : Str) : Sp := fun vs H Q _ => ∃ (a : Addr) (v : V), vs = [.ref a, v] ∧ H a = some (exo a C none) ∧ ∀ dx, H dx = none → dx ≠ a → Q .non (upd (upd H dx (exd dx [(f, v)])) a (exo a C (some dx)))
abbrev CtX := List Sl → List Cell → Exc → List Cell → Prop
abbrev cxX (P : Program) (w : World) (K : PySem.W.Frag) (mg : Str → Option Value) (base : Heap) (N : List Str) (qual : Str) (st : Stmt) (f : Addr) (cdv : Value) (A : Around) (outer : List Env) (s : Shared) (H : Hp) (E : XK) : Cx := cxOf (L2.CX P w) P w K mg base N qual (defScope st) f cdv A outer s H E
section
variable {T : Tab} {P : Program} {w : World} {K : PySem.W.Frag} {mg : Str → Option Value} {base : Heap}
end
end Dl
namespace Dl
open PySem L2
theorem noA {X : Cx} {es : List Expr} : PA X es (fun _ _ _ => False) := ⟨fun _ _ _ _ _ _ _ z => z.elim⟩
section
variable {X : Cx} {T : Tab} {W : WX} {S S1 S2 : Sta} {e e2 o : Expr} {es : List Expr} {x : Exc} {s : Sl} {pos p apos : Pos} {n : Nat} {P : Post}
end
end Dl
namespace Dl
open PySem L2
section
variable {X : Cx} {T : Tab} {n : Nat} {S S1 : Sta} {P : Post} {body suite orelse : List Stmt} {b0 h0' : Stmt} {hs' : List ExceptHandler} {pos pos' np : Pos}
end
end Dl
namespace Dl
open PySem L2
section
variable {X : Cx} {T : Tab} {C g : Addr} {fd : FuncData} {ps : List Str} {k cn : Nat} {c : Ct} {fn : List Str} {ds : List D} {d : D} {cs : List Cell}
theorem run_in1 {pins : List (Addr × Obj)} {σ : St} {H : Hp} {s : Shared} {Q : VK} {us : List Value} {vs : List V} {sp : Sp} (F : FnOk X.prog X.w X.K X.mg X.base CX0 k g fd ps sp) (hr : Room (k + 1) X.A) (hb : Binds X.K fd ps [])
    (I : Inv X pins σ H s) (r : Vals vs us) (h : sp vs H Q E0) : wpAny (model X.prog X.w) X.A.in1 (call (.ref g) us) (EP X pins σ Q) X.xe s := by
  have hl : us.length = ps.length := by rw [← r.length]; exact F.len _ _ _ _ h
  have b := hb s us I.kIn (by rw [List.append_nil]; exact hl)
  rw [List.append_nil] at b
  have e := I.env0
  refine wpAny_call (codeAny_mono (F.run X.A.in1 X.stack s H ⟨us, []⟩ us vs Q E0 hr.in1 ⟨e.frames, e.mod, e.bs, e.bsz, e.funs, e.frf, e.hok, e.bare⟩ b r h) fun r s' hq => ?_)
  cases r with
  | error e => exact False.elim hq
  | ok fl =>
    cases fl with
    | ret u => exact I.after hq
    | next => exact False.elim hq
    | brk => exact False.elim hq
    | cont => exact False.elim hq
end
end Dl
namespace Dl
open PySem L2
section
variable {X : Cx} {T : Tab} {cs : List Cell}
def repS (x : Str) (n : Int) : Str := if n < 1 then Str.empty else if (n == 1 || x.length == 0) = true then x else ⟨(List.replicate n.toNat x.cps).foldl (· ++ ·) #[]⟩
theorem op_mulS : OpR X (binaryOp .Mult) (fun x y H Q => ∃ (z : Str) (n : Int), x = .str z ∧ y = .int n ∧ z.length ≤ 1000 ∧ (-1000 ≤ n ∧ n ≤ 1000) ∧ (repS z n).length ≤ sizeLine ∧ Q (.str (repS z n)) H) := by
  intro pins s σ H x y v u Q I rx ry h
  obtain ⟨z, n, rfl, rfl, hz, ⟨h1, h2⟩, hl, q⟩ := h
  obtain ⟨t, rfl⟩ := rx
  obtain ⟨t2, rfl⟩ := ry
  refine PySem.P.mul_str ?_ (fun a _ => ?_) (fun a _ => ?_) ?_
  · rw [decide_eq_false (by omega), decide_eq_false (by omega)]; rfl
  · have e : (z.length : Int) * n ≤ 1000 * 1000 := Int.mul_le_mul (by omega) h2 (by omega) (by decide)
    have e2 : (z.length : Int) ≤ (2 ^ 63 - 1) / n := (Int.le_ediv_iff_mul_le (by omega)).mpr (by omega)
    omega
  · have e : z.length * n.toNat ≤ 1000 * 1000 := Nat.mul_le_mul hz (by omega)
    have e3 : sizeLine = 16777216 := sizeLine_eq
    exact decide_eq_false (by omega)
  · unfold repS at q hl
    split
    · rename_i h
      rw [if_pos h] at q hl
      exact ⟨hl, .str _, H, I.tok _, ⟨_, rfl⟩, q⟩
    · rename_i h
      rw [if_neg h] at q hl
      split
      · rename_i h'
        rw [if_pos h'] at q hl
        exact ⟨.str _, H, I, ⟨_, rfl⟩, q⟩
      · rename_i h'
        rw [if_neg h'] at q hl
        exact ⟨hl, .str _, H, I.tok _, ⟨_, rfl⟩, q⟩
theorem bin_mulS {x : Str} {n : Int} (h1 : x.length ≤ 1000) (h2 : -1000 ≤ n ∧ n ≤ 1000) (hl : (repS x n).length ≤ sizeLine) : BinD X T .Mult (.dat (.str x)) (.dat (.int n)) cs (.dat (.str (repS x n))) cs := ⟨_, op_mulS, fun ad F H v w Q c r1 r2 q => by
  cases r1
  cases r2
  exact ⟨x, n, rfl, rfl, h1, h2, hl, q _ H ad .refl c Rep.str⟩⟩
theorem cb_intS {x : Str} {n : Int} (h : PySem.intText? x = some n) (hl : x.length ≤ 640) : CalB X T "int" [.dat (.str x)] cs (.dat (.int n)) cs := ⟨_, _, by decide +kernel, .inr ⟨_, rfl⟩, call_int_str, fun ad F H vs Q c r q => by
  match vs, r with
  | [v], r =>
    have r1 := r.1
    cases r1
    exact ⟨x, n, rfl, h, hl, q _ H ad .refl c Rep.int⟩⟩
end
end Dl
namespace Dl
open PySem L2
abbrev Sls := List (Option Sl)
abbrev RV := Sl → List Cell → Prop
abbrev RB := Bool → List Cell → Prop
abbrev RA := List Sl → List Cell → Prop
abbrev RX := Exc → List Cell → Prop
abbrev WpE := Sls → List Cell → RV → RX → Prop
abbrev WpT := Sls → List Cell → RB → RX → Prop
abbrev WpA := Sls → List Cell → RA → RX → Prop
structure Br (b : Bool) (p q : Prop) : Prop where
  t : b = true → p
  f : b = false → q
def noX : RX := fun _ _ => False
def W0 : WX := fun _ _ _ _ => False
theorem tk0 {X : Cx} : Takes X W0 := fun u s' ⟨_, _, _, _, _, _, _, _, _, _, _, _, _, _, _, _, w⟩ => w.elim
def Raz (T : Tab) (K : PySem.W.Frag) (W : WX) (σ : St) (ad : List Addr) (F : Addr → Prop) (H : Hp) (sl : Sls) (Rx : RX) : Prop := ∀ x c cls d H' ad', Rx x c → Ext ad F H ad' H' → Hold T K ⟨sl, c⟩ ad' F σ H' → ExRep T K (Mm ad' F) H' cls d x → W cls d σ H'
theorem Raz.on {T : Tab} {K : PySem.W.Frag} {W : WX} {σ : St} {ad ad1 : List Addr} {F : Addr → Prop} {H H1 : Hp} {sl : Sls} {Rx : RX} {S : Sta} (q : Raz T K W σ ad F H sl Rx) (x1 : Ext ad F H ad1 H1) (h1 : Hold T K S ad1 F σ H1) : Raz T K W σ ad1 F H1 sl Rx := fun x c cls d H' ad' hx x2 h2 er => q x c cls d H' ad' hx (x1.trans h1.hc x2) h2 er
theorem Raz.no {T : Tab} {K : PySem.W.Frag} {W : WX} {σ : St} {ad : List Addr} {F : Addr → Prop} {H : Hp} {sl : Sls} : Raz T K W σ ad F H sl noX := fun _ _ _ _ _ _ z => z.elim
def tJ (T : Tab) (K : PySem.W.Frag) (W : WX) (w : WpE) : TE := fun σ H Q => ∃ ad F sl cs R Rx, Hold T K ⟨sl, cs⟩ ad F σ H ∧ w sl cs R Rx ∧
  (∀ s c v H' ad', R s c → Ext ad F H ad' H' → Hold T K ⟨sl, c⟩ ad' F σ H' → SlRep T K ad' F H' v s → Q v H') ∧ Raz T K W σ ad F H sl Rx
def tJT (T : Tab) (K : PySem.W.Frag) (W : WX) (w : WpT) : TT := fun σ H Q => ∃ ad F sl cs R Rx, Hold T K ⟨sl, cs⟩ ad F σ H ∧ w sl cs R Rx ∧
  (∀ b c H' ad', R b c → Ext ad F H ad' H' → Hold T K ⟨sl, c⟩ ad' F σ H' → Q b H') ∧ Raz T K W σ ad F H sl Rx
def tJA (T : Tab) (K : PySem.W.Frag) (W : WX) (w : WpA) : TA := fun σ H Q => ∃ ad F sl cs R Rx, Hold T K ⟨sl, cs⟩ ad F σ H ∧ w sl cs R Rx ∧
  (∀ ss c vs H' ad', R ss c → Ext ad F H ad' H' → Hold T K ⟨sl, c⟩ ad' F σ H' → SlReps T K ad' F H' vs ss → Q vs H') ∧ Raz T K W σ ad F H sl Rx
def JE (X : Cx) (T : Tab) (W : WX) (e : Expr) (w : WpE) : Prop := PE X e (tJ T X.K W w)
def JT (X : Cx) (T : Tab) (W : WX) (e : Expr) (w : WpT) : Prop := PT X e (tJT T X.K W w)
def JW (X : Cx) (T : Tab) (W : WX) (e : Expr) (w : WpT) : Prop := PW X e (tJT T X.K W w)
def JA (X : Cx) (T : Tab) (W : WX) (es : List Expr) (w : WpA) : Prop := PA X es (tJA T X.K W w)
abbrev W2 := Sl → Sl → List Cell → RV → Prop
abbrev W1 := Sl → List Cell → RV → Prop
def JBin (X : Cx) (T : Tab) (op : Operator) (w : W2) : Prop := ∀ s1 s2 cs R, w s1 s2 cs R → ∃ s cs', BinD X T op s1 s2 cs s cs' ∧ R s cs'
def JIop (X : Cx) (T : Tab) (op : Operator) (w : W2) : Prop := ∀ s1 s2 cs R, w s1 s2 cs R → ∃ s cs', IopD X T op s1 s2 cs s cs' ∧ R s cs'
def JCmp (X : Cx) (T : Tab) (op : CmpOp) (w : W2) : Prop := ∀ s1 s2 cs R, w s1 s2 cs R → ∃ s cs', CmpD X T op s1 s2 cs s cs' ∧ R s cs'
def JIx (X : Cx) (T : Tab) (w : W2) : Prop := ∀ s1 s2 cs R, w s1 s2 cs R → ∃ s cs', IxD X T s1 s2 cs s cs' ∧ R s cs'
def JUn (X : Cx) (T : Tab) (op : UnaryOp) (w : W1) : Prop := ∀ s1 cs R, w s1 cs R → ∃ s cs', UnD X T op s1 cs s cs' ∧ R s cs'
section
variable {X : Cx} {T : Tab}
def dats : List Sl → Option (List D)
  | [] => some []
  | .dat d :: r => (dats r).map (d :: ·)
  | .cel _ :: _ => none
theorem dats_eq : ∀ {ss : List Sl} {ds : List D}, dats ss = some ds → ss = ds.map Sl.dat
  | [], ds, h => by cases h; rfl
  | .dat d :: r, ds, h => by
    cases q : dats r with
    | none => simp [dats, q] at h
    | some l =>
      simp [dats, q] at h
      subst h
      rw [dats_eq q]
      rfl
  | .cel _ :: _, _, h => nomatch h
def wDats (ss : List Sl) (k : List D → Prop) : Prop := match dats ss with
  | some ds => k ds
  | none => False
theorem wDats_of {ss : List Sl} {k : List D → Prop} (h : wDats ss k) : ∃ ds, ss = ds.map Sl.dat ∧ k ds := by
  unfold wDats at h
  split at h
  · rename_i ds e
    exact ⟨ds, dats_eq e, h⟩
  · exact h.elim
def isB (s : Sl) (k : Bool → Prop) : Prop := match s with
  | .dat (.bl b) => k b
  | _ => False
theorem isB_of {s : Sl} {k : Bool → Prop} (h : isB s k) : ∃ b, s = .dat (.bl b) ∧ k b := by
  unfold isB at h
  split at h
  · exact ⟨_, rfl, h⟩
  · exact h.elim
def truW (s : Sl) (cs : List Cell) (k : Bool → Prop) : Prop := match s with
  | .dat (.bl b) => k b
  | .dat (.int i) => k (i != 0)
  | .dat .non => k false
  | .dat (.lst ds) => k (!ds.isEmpty)
  | .dat (.tup ds) => k (!ds.isEmpty)
  | .dat (.str x) => x.length ≤ sizeLine ∧ k ((x.length : Int) != 0)
  | .cel j => match cs[j]? with
    | some (.lst ds) => k (!ds.isEmpty)
    | some (.dct kvs) => k (!kvs.isEmpty)
    | _ => False
  | _ => False
def lstOf (cs : List Cell) : Sl → Option (List D)
  | .dat (.lst ds) => some ds
  | .cel k => match cs[k]? with
    | some (.lst ds) => some ds
    | _ => none
  | _ => none
theorem lstOf_is {cs : List Cell} {s : Sl} {ds : List D} (h : lstOf cs s = some ds) : isLst cs ds s := by
  unfold lstOf at h
  split at h
  · cases h; exact rfl
  · split at h
    · rename_i e
      cases h; exact e
    · cases h
  · cases h
def wL (cs : List Cell) (s : Sl) (k : List D → Prop) : Prop := match lstOf cs s with
  | some ds => k ds
  | none => False
theorem wL_of {cs : List Cell} {s : Sl} {k : List D → Prop} (h : wL cs s k) : ∃ ds, isLst cs ds s ∧ k ds := by
  unfold wL at h
  split at h
  · rename_i ds e
    exact ⟨ds, lstOf_is e, h⟩
  · exact h.elim
def addW : W2 := fun s1 s2 cs R => match s1, s2 with
  | .dat (.int i), .dat (.int j) => R (.dat (.int (i + j))) cs
  | .dat (.str x), .dat (.str y) => x.length + y.length ≤ sizeLine ∧ R (.dat (.str (x ++ y))) cs
  | .dat (.tup ds), .dat (.tup es) => ds.length + es.length ≤ sizeLine ∧ R (.dat (.tup (ds ++ es))) cs
  | s1, s2 => wL cs s1 fun ds => wL cs s2 fun es => ds.length + es.length ≤ sizeLine ∧ R (.dat (.lst (ds ++ es))) cs
theorem jb_add : JBin X T .Add addW := fun s1 s2 cs R h => by
  unfold addW at h
  split at h
  · exact ⟨_, _, bin_add, h⟩
  · exact ⟨_, _, bin_addS h.1, h.2⟩
  · exact ⟨_, _, bin_addT h.1, h.2⟩
  · obtain ⟨ds, h1, h⟩ := wL_of h
    obtain ⟨es, h2, h⟩ := wL_of h
    exact ⟨_, _, bin_addL h1 h2 h.1, h.2⟩
def addWC : W2 := fun s1 s2 cs R => wL cs s1 fun ds => wL cs s2 fun es => ds.length + es.length ≤ sizeLine ∧ R (.cel cs.length) (cs ++ [.lst (ds ++ es)])
theorem jb_addC : JBin X T .Add addWC := fun s1 s2 cs R h => by
  obtain ⟨ds, h1, h⟩ := wL_of h
  obtain ⟨es, h2, h⟩ := wL_of h
  exact ⟨_, _, bin_addLC h1 h2 h.1, h.2⟩
def intW (C : Int → Int → Prop) (g : Int → Int → D) : W2 := fun s1 s2 cs R => match s1, s2 with
  | .dat (.int i), .dat (.int j) => C i j ∧ R (.dat (g i j)) cs
  | _, _ => False
def intW0 (g : Int → Int → D) : W2 := fun s1 s2 cs R => match s1, s2 with
  | .dat (.int i), .dat (.int j) => R (.dat (g i j)) cs
  | _, _ => False
def subW : W2 := intW0 fun i j => .int (i - j)
theorem jb_sub : JBin X T .Sub subW := fun s1 s2 cs R h => by
  unfold subW intW0 at h
  split at h
  · exact ⟨_, _, bin_sub, h⟩
  · exact h.elim
def MulC (i j : Int) : Prop := IntMulOk i j
def mulW : W2 := fun s1 s2 cs R => match s1, s2 with
  | .dat (.int i), .dat (.int j) => MulC i j ∧ R (.dat (.int (i * j))) cs
  | .dat (.str x), .dat (.int n) => x.length ≤ 1000 ∧ (-1000 ≤ n ∧ n ≤ 1000) ∧ (repS x n).length ≤ sizeLine ∧ R (.dat (.str (repS x n))) cs
  | s1, .dat (.int j) => wL cs s1 fun ds => (-(2 ^ 63) ≤ j ∧ j < 2 ^ 63 ∧ ds.length * j.toNat ≤ sizeLine) ∧ R (.dat (.lst (List.replicate j.toNat ds).flatten)) cs
  | _, _ => False
theorem jb_mul : JBin X T .Mult mulW := fun s1 s2 cs R h => by
  unfold mulW at h
  split at h
  · exact ⟨_, _, bin_mul h.1, h.2⟩
  · exact ⟨_, _, bin_mulS h.1 h.2.1 h.2.2.1, h.2.2.2⟩
  · obtain ⟨ds, h1, ⟨h2, h3, h4⟩, h⟩ := wL_of h
    exact ⟨_, _, bin_repL h1 h2 h3 h4, h⟩
  · exact h.elim
def DivC (i j : Int) : Prop := CDivW i j
def fdivW : W2 := intW DivC fun i j => .int (i / j)
theorem jb_fdiv : JBin X T .FloorDiv fdivW := fun s1 s2 cs R h => by
  unfold fdivW intW at h
  split at h
  · exact ⟨_, _, bin_fdiv h.1, h.2⟩
  · exact h.elim
def ModC (_ j : Int) : Prop := 0 < j
def modW : W2 := intW ModC fun i j => .int (i % j)
theorem jb_mod : JBin X T .Mod modW := fun s1 s2 cs R h => by
  unfold modW intW at h
  split at h
  · exact ⟨_, _, bin_mod h.1, h.2⟩
  · exact h.elim
def PowC (i j : Int) : Prop := CPow i j
def powW : W2 := intW PowC fun i j => .int (i ^ j.toNat)
theorem jb_pow : JBin X T .Pow powW := fun s1 s2 cs R h => by
  unfold powW intW at h
  split at h
  · exact ⟨_, _, bin_pow h.1, h.2⟩
  · exact h.elim
def negW : W1 := fun s1 cs R => match s1 with
  | .dat (.int i) => R (.dat (.int (-i))) cs
  | _ => False
theorem ju_neg : JUn X T .USub negW := fun s1 cs R h => by
  unfold negW at h
  split at h
  · exact ⟨_, _, un_negD, h⟩
  · exact h.elim
def ltW : W2 := intW0 fun i j => .bl (decide (i < j))
def gtW : W2 := intW0 fun i j => .bl (decide (j < i))
def geW : W2 := intW0 fun i j => .bl (decide (j ≤ i))
theorem jc_lt : JCmp X T .Lt ltW := fun s1 s2 cs R h => by
  unfold ltW intW0 at h
  split at h
  · exact ⟨_, _, cmp_lt, h⟩
  · exact h.elim
theorem jc_gt : JCmp X T .Gt gtW := fun s1 s2 cs R h => by
  unfold gtW intW0 at h
  split at h
  · exact ⟨_, _, cmp_gt, h⟩
  · exact h.elim
theorem jc_ge : JCmp X T .GtE geW := fun s1 s2 cs R h => by
  unfold geW intW0 at h
  split at h
  · exact ⟨_, _, cmp_ge, h⟩
  · exact h.elim
def eqW (neg : Bool) : W2 := fun s1 s2 cs R => match s1, s2 with
  | .dat (.int i), .dat (.int j) => R (.dat (.bl (neg.xor (decide (i = j))))) cs
  | .dat (.str i), .dat (.str j) => R (.dat (.bl (neg.xor (decide (i = j))))) cs
  | .dat (.bl i), .dat (.bl j) => R (.dat (.bl (neg.xor (i == j)))) cs
  | .dat d1, .dat d2 => okD d1 = true ∧ okD d2 = true ∧ R (.dat (.bl (neg.xor (eqD d1 d2)))) cs
  | _, _ => False
theorem jc_eq (hu : X.A.units + 64 < cLine) : JCmp X T .Eq (eqW false) := fun s1 s2 cs R h => by
  unfold eqW at h
  split at h
  · exact ⟨_, _, cmp_eqI, by simpa using h⟩
  · exact ⟨_, _, cmp_eqS, by simpa using h⟩
  · exact ⟨_, _, cmp_eqB, by simpa using h⟩
  · exact ⟨_, _, cmp_eqD hu h.1 h.2.1, by simpa using h.2.2⟩
  · exact h.elim
theorem jc_ne (hu : X.A.units + 64 < cLine) : JCmp X T .NotEq (eqW true) := fun s1 s2 cs R h => by
  unfold eqW at h
  split at h
  · exact ⟨_, _, cmp_neI, by simpa using h⟩
  · exact ⟨_, _, cmp_neS, by simpa using h⟩
  · exact ⟨_, _, cmp_neB, by simpa using h⟩
  · exact ⟨_, _, cmp_neD hu h.1 h.2.1, by simpa using h.2.2⟩
  · exact h.elim
def atW (ds : List D) (i : Int) (k : D → Prop) : Prop := match atI ds i with
  | some d => k d
  | none => False
theorem atW_of {ds : List D} {i : Int} {k : D → Prop} (h : atW ds i k) : ∃ d, atI ds i = some d ∧ k d := by
  unfold atW at h
  split at h
  · exact ⟨_, ‹_›, h⟩
  · exact h.elim
theorem atW_i {ds : List D} {i : Int} {k : D → Prop} {d : D} (e : atI ds i = some d) (h : k d) : atW ds i k := by
  unfold atW
  rw [e]
  exact h
def ixW : W2 := fun s1 s2 cs R => match s1, s2 with
  | .dat (.lst ds), .dat (.int i) => atW ds i fun d => R (.dat d) cs
  | .dat (.tup ds), .dat (.int i) => atW ds i fun d => R (.dat d) cs
  | .dat (.scr ds), .dat (.int i) => atW ds i fun d => R (.dat d) cs
  | .dat (.str x), .dat (.int i) => x.length ≤ sizeLine ∧ ∃ c, atI x.cps.toList i = some c ∧ R (.dat (.str ⟨#[c]⟩)) cs
  | .cel k, .dat (.int i) => match cs[k]? with
    | some (.lst ds) => atW ds i fun d => R (.dat d) cs
    | _ => False
  | _, _ => False
theorem ji_ix : JIx X T ixW := fun s1 s2 cs R h => by
  unfold ixW at h
  split at h
  · obtain ⟨d, e, h⟩ := atW_of h; exact ⟨_, _, ix_L e, h⟩
  · obtain ⟨d, e, h⟩ := atW_of h; exact ⟨_, _, ix_T e, h⟩
  · obtain ⟨d, e, h⟩ := atW_of h; exact ⟨_, _, ix_R e, h⟩
  · obtain ⟨hl, c, e, h⟩ := h; exact ⟨_, _, ix_S hl e, h⟩
  · split at h
    · rename_i e
      obtain ⟨d, e1, h⟩ := atW_of h; exact ⟨_, _, ix_C e e1, h⟩
    · exact h.elim
  · exact h.elim
def slcW (s1 : Sl) (l u : Option Int) (cs : List Cell) (R : RV) : Prop := match s1 with
  | .dat (.tup ds) => R (.dat (.tup (cutD ds l u))) cs
  | s1 => wL cs s1 fun ds => R (.dat (.lst (cutD ds l u))) cs
abbrev WC := List Sl → List Cell → RV → Prop
structure JCall (X : Cx) (T : Tab) (x : Str) (w : WC) : Prop where
  bo : ∃ u, bootBuiltins x = some u ∧ ((∃ id, u = .builtin id) ∨ ∃ id, u = .type id)
  run : ∀ ss cs R, w ss cs R → ∃ s cs', CalB X T x ss cs s cs' ∧ R s cs'
def lenW : WC := fun ss cs R => match ss with
  | [.dat (.tup ds)] => R (.dat (.int ds.length)) cs
  | [.dat (.scr ds)] => R (.dat (.int ds.length)) cs
  | [.dat (.str x)] => x.length ≤ sizeLine ∧ R (.dat (.int x.length)) cs
  | [s] => wL cs s fun ds => R (.dat (.int ds.length)) cs
  | _ => False
theorem jc_len : JCall X T "len" lenW := ⟨⟨_, PySem.boot_len, .inl ⟨_, rfl⟩⟩, fun ss cs R h => by
  unfold lenW at h
  split at h
  · exact ⟨_, _, cb_lenT, h⟩
  · exact ⟨_, _, cb_lenR, h⟩
  · exact ⟨_, _, cb_lenS h.1, h.2⟩
  · obtain ⟨ds, h1, h⟩ := wL_of h
    exact ⟨_, _, cb_len h1, h⟩
  · exact h.elim⟩
def intW1 : WC := fun ss cs R => match ss with
  | [.dat (.int i)] => R (.dat (.int i)) cs
  | [.dat (.bl k)] => R (.dat (.int (if k then 1 else 0))) cs
  | [.dat (.str x)] => x.length ≤ 640 ∧ ∃ n, PySem.intText? x = some n ∧ R (.dat (.int n)) cs
  | _ => False
theorem jc_int : JCall X T "int" intW1 := ⟨⟨.type "int", by decide +kernel, .inr ⟨_, rfl⟩⟩, fun ss cs R h => by
  unfold intW1 at h
  split at h
  · exact ⟨_, _, cb_int, h⟩
  · exact ⟨_, _, cb_intB, h⟩
  · obtain ⟨hl, n, e, h⟩ := h; exact ⟨_, _, cb_intS e hl, h⟩
  · exact h.elim⟩
def listW : WC := fun ss cs R => match ss with
  | [.dat (.tup ds)] => R (.dat (.lst ds)) cs
  | [s] => wL cs s fun ds => R (.dat (.lst ds)) cs
  | _ => False
theorem jc_list : JCall X T "list" listW := ⟨⟨.type "list", by decide +kernel, .inr ⟨_, rfl⟩⟩, fun ss cs R h => by
  unfold listW at h
  split at h
  · exact ⟨_, _, cb_lstT, h⟩
  · obtain ⟨ds, h1, h⟩ := wL_of h
    exact ⟨_, _, cb_lstL h1, h⟩
  · exact h.elim⟩
def listWC : WC := fun ss cs R => match ss with
  | [.dat (.tup ds)] => R (.cel cs.length) (cs ++ [.lst ds])
  | [s] => wL cs s fun ds => R (.cel cs.length) (cs ++ [.lst ds])
  | _ => False
theorem jc_listC : JCall X T "list" listWC := ⟨⟨.type "list", by decide +kernel, .inr ⟨_, rfl⟩⟩, fun ss cs R h => by
  unfold listWC at h
  split at h
  · exact ⟨_, _, cb_lstTC, h⟩
  · obtain ⟨ds, h1, h⟩ := wL_of h
    exact ⟨_, _, cb_lstLC h1, h⟩
  · exact h.elim⟩
end
end Dl
namespace Dl
open PySem L2
section
variable {X : Cx} {T : Tab} {W : WX} {a b c e o : Expr} {es : List Expr} {pos p p2 : Pos} {wa wb w : WpE} {wt wt1 wt2 : WpT} {wA : WpA} {i : Int} {rest : List Expr} {lo hi : Option Expr}
theorem je_of (h : ∀ sl cs (R : RV) Rx, w sl cs R Rx → ∃ s cs', DE X T ⟨sl, cs⟩ e s ⟨sl, cs'⟩ ∧ R s cs') : JE X T W e w := ⟨fun pins s σ H Q I ⟨ad, F, sl, cs, R, Rx, h0, hw, q, qx⟩ => by
  obtain ⟨s, cs', d, hR⟩ := h sl cs R Rx hw
  exact d.run pins _ σ H Q I ⟨ad, F, h0, fun v H' ad' x1 h1 r1 => q s cs' v H' ad' hR x1 h1 r1⟩⟩
def wName (i : Nat) : WpE := fun sl cs R _ => match sl[i]? with
  | some (some s) => R s cs
  | _ => False
theorem je_name (i : Nat) {x : Str} (hN : X.N[i]? = some x := by rfl) (hv : Vis X.env.scope x := by first | exact Or.inl rfl | exact Or.inr (Or.inl rfl) | exact Or.inr (Or.inr rfl)) (hd : (x == ("__debug__" : Str)) = false := by decide)
    (hcd : (x == ("__classdict__" : Str)) = false := by decide) : JE X T W (.Name x pos) (wName i) := je_of fun sl cs R Rx h => by
  unfold wName at h
  split at h
  · rename_i s e
    exact ⟨s, cs, de_name i e hN hv hd hcd, h⟩
  · exact h.elim
def wCon (d : D) : WpE := fun _ cs R _ => R (.dat d) cs
theorem je_int {k : Nat} : JE X T W (.Constant (.int i) k pos) (wCon (.int i)) := je_of fun sl cs R Rx h => ⟨_, cs, de_int, h⟩
theorem je_bl {b : Bool} {k : Nat} : JE X T W (.Constant (.bool b) k pos) (wCon (.bl b)) := je_of fun sl cs R Rx h => ⟨_, cs, de_bl, h⟩
theorem je_str {x : Str} {k : Nat} : JE X T W (.Constant (.str x) k pos) (wCon (.str x)) := je_of fun sl cs R Rx h => ⟨_, cs, de_str, h⟩
theorem opAll {f : Value → Value → Sem Value} : OpR X f (fun x y H Q => ∃ r, OpR X f r ∧ r x y H Q) := fun pins s σ H x y v u Q I rx ry ⟨r, o, h⟩ => o pins s σ H x y v u Q I rx ry h
theorem unAll {f : Value → Sem Value} : UnR X f (fun x H Q => ∃ r, UnR X f r ∧ r x H Q) := fun pins s σ H x v Q I rx ⟨r, o, h⟩ => o pins s σ H x v Q I rx h
theorem ixAll : IxR X (fun x y H Q => ∃ r, IxR X r ∧ r x y H Q) := fun v1 v2 pins s σ H x y v u Q I rx ry ⟨r, o, h⟩ => o v1 v2 pins s σ H x y v u Q I rx ry h
theorem callAll {f : Value} : CallR X f (fun xs H Q => ∃ r, CallR X f r ∧ r xs H Q) := fun pins s σ H xs us Q I rx ⟨r, o, h⟩ => o pins s σ H xs us Q I rx h
def wTwo (wa wb : WpE) (o : W2) : WpE := fun sl cs R Rx => wa sl cs (fun s1 c1 => wb sl c1 (fun s2 c2 => o s1 s2 c2 R) Rx) Rx
def wOne (wa : WpE) (o : W1) : WpE := fun sl cs R Rx => wa sl cs (fun s1 c1 => o s1 c1 R) Rx
theorem je_bin {op : Operator} {ow : W2} (ho : JBin X T op ow) (ha : JE X T W a wa) (hb : JE X T W b wb) : JE X T W (.BinOp a op b pos) (wTwo wa wb ow) :=
  weak (pe_op opAll ha hb) fun σ H Q ⟨ad, F, sl, cs, R, Rx, h0, hw, q, qx⟩ => ⟨ad, F, sl, cs, _, Rx, h0, hw, fun s1 c1 v H1 ad1 hw1 x1 h1 r1 => ⟨ad1, F, sl, c1, _, Rx, h1, hw1, fun s2 c2 v2 H2 ad2 hw2 x2 h2 r2 => by
    obtain ⟨s, c3, ⟨r, o1, o2⟩, hR⟩ := ho _ _ _ _ hw2
    exact ⟨r, o1, o2 ad2 F H2 v v2 Q h2.hc (r1.ext x2) r2 fun z H3 ad3 x3 k3 r3 => q s c3 z H3 ad3 hR (x1.trans h1.hc (x2.trans h2.hc x3)) (h2.to x3 k3) r3⟩, qx.on x1 h1⟩, qx⟩
theorem je_cmp {op : CmpOp} {ow : W2} (ho : JCmp X T op ow) (ha : JE X T W a wa) (hb : JE X T W b wb) (hm : behindInMarks op b = false := by first | exact nomark _ | rfl) : JE X T W (.Compare a [op] [b] pos) (wTwo wa wb ow) :=
  weak (pe_cmpR opAll ha hb hm) fun σ H Q ⟨ad, F, sl, cs, R, Rx, h0, hw, q, qx⟩ => ⟨ad, F, sl, cs, _, Rx, h0, hw, fun s1 c1 v H1 ad1 hw1 x1 h1 r1 => ⟨ad1, F, sl, c1, _, Rx, h1, hw1, fun s2 c2 v2 H2 ad2 hw2 x2 h2 r2 => by
    obtain ⟨s, c3, ⟨r, o1, o2⟩, hR⟩ := ho _ _ _ _ hw2
    exact ⟨r, o1, o2 ad2 F H2 v v2 Q h2.hc (r1.ext x2) r2 fun z H3 ad3 x3 k3 r3 => q s c3 z H3 ad3 hR (x1.trans h1.hc (x2.trans h2.hc x3)) (h2.to x3 k3) r3⟩, qx.on x1 h1⟩, qx⟩
theorem je_sub {ow : W2} (ho : JIx X T ow) (ha : JE X T W a wa) (hb : JE X T W b wb) (hp : PlainIx b := by intro _ _; rfl) : JE X T W (.Subscript a b pos) (wTwo wa wb ow) :=
  weak (pe_ix ixAll ha hb hp) fun σ H Q ⟨ad, F, sl, cs, R, Rx, h0, hw, q, qx⟩ => ⟨ad, F, sl, cs, _, Rx, h0, hw, fun s1 c1 v H1 ad1 hw1 x1 h1 r1 => ⟨ad1, F, sl, c1, _, Rx, h1, hw1, fun s2 c2 v2 H2 ad2 hw2 x2 h2 r2 => by
    obtain ⟨s, c3, ⟨r, o1, o2⟩, hR⟩ := ho _ _ _ _ hw2
    exact ⟨r, o1, o2 ad2 F H2 v v2 Q h2.hc (r1.ext x2) r2 fun z H3 ad3 x3 k3 r3 => q s c3 z H3 ad3 hR (x1.trans h1.hc (x2.trans h2.hc x3)) (h2.to x3 k3) r3⟩, qx.on x1 h1⟩, qx⟩
def wNil : WpA := fun sl cs R _ => R [] cs
def wCons (wa : WpE) (wA : WpA) : WpA := fun sl cs R Rx => wa sl cs (fun s c1 => wA sl c1 (fun ss c2 => R (s :: ss) c2) Rx) Rx
theorem ja_nil : JA X T W [] wNil := weakA pa_nil fun σ H Q ⟨ad, F, sl, cs, R, Rx, h0, hw, q, qx⟩ => q [] cs [] H ad hw .refl h0 trivial
theorem ja_cons (ha : JE X T W e w) (hr : JA X T W es wA) (hs : starEach (e :: es) X.env = (false, eval e X.env) :: starEach es X.env := by rfl) : JA X T W (e :: es) (wCons w wA) :=
  weakA (pa_cons ha hr hs) fun σ H Q ⟨ad, F, sl, cs, R, Rx, h0, hw, q, qx⟩ => ⟨ad, F, sl, cs, _, Rx, h0, hw, fun s1 c1 v H1 ad1 hw1 x1 h1 r1 => ⟨ad1, F, sl, c1, _, Rx, h1, hw1, fun ss c2 vs H2 ad2 hw2 x2 h2 r2 => q _ c2 _ H2 ad2 hw2 (x1.trans h1.hc x2) h2 ⟨r1.ext x2, r2⟩, qx.on x1 h1⟩, qx⟩
def wTup (wA : WpA) : WpE := fun sl cs R Rx => wA sl cs (fun ss c1 => wDats ss fun ds => ds.length ≤ sizeLine ∧ R (.dat (.tup ds)) c1) Rx
theorem je_tup {k : Nat} (ha : JA X T W es wA) : JE X T W (.Tuple es k pos) (wTup wA) :=
  weak (pe_tup ha) fun σ H Q ⟨ad, F, sl, cs, R, Rx, h0, hw, q, qx⟩ => ⟨ad, F, sl, cs, _, Rx, h0, hw, fun ss c1 vs H1 ad1 hw1 x1 h1 r1 => by
    obtain ⟨ds, rfl, hl, hR⟩ := wDats_of hw1
    refine ⟨by rw [r1.dats.length]; exact hl, fun p hp => ?_⟩
    obtain ⟨c, x2⟩ := h1.hc.newo (o := .tup vs) hp
    exact q _ c1 _ _ ad1 hR (x1.trans h1.hc x2) (h1.to x2 c) (.tup (vs := vs) (.inl ⟨h1.hc.new hp, .inl upd_same⟩) (r1.dats.kp x2.kp)), qx⟩
def wLst (wA : WpA) : WpE := fun sl cs R Rx => wA sl cs (fun ss c1 => wDats ss fun ds => ds.length ≤ sizeLine ∧ R (.dat (.lst ds)) c1) Rx
theorem je_lst (ha : JA X T W es wA) : JE X T W (.List es pos) (wLst wA) :=
  weak (pe_lst ha) fun σ H Q ⟨ad, F, sl, cs, R, Rx, h0, hw, q, qx⟩ => ⟨ad, F, sl, cs, _, Rx, h0, hw, fun ss c1 vs H1 ad1 hw1 x1 h1 r1 => by
    obtain ⟨ds, rfl, hl, hR⟩ := wDats_of hw1
    exact ⟨by rw [r1.dats.length]; exact hl, fun p hp => new_lst h1.hc r1.dats (fun z H' ad' x2 k2 r2 => q _ c1 z H' ad' hR (x1.trans h1.hc x2) (h1.to x2 k2) r2) hp⟩, qx⟩
def wLstC (wA : WpA) : WpE := fun sl cs R Rx => wA sl cs (fun ss c1 => wDats ss fun ds => ds.length ≤ sizeLine ∧ R (.cel c1.length) (c1 ++ [.lst ds])) Rx
theorem je_lstC (ha : JA X T W es wA) : JE X T W (.List es pos) (wLstC wA) :=
  weak (pe_lst ha) fun σ H Q ⟨ad, F, sl, cs, R, Rx, h0, hw, q, qx⟩ => ⟨ad, F, sl, cs, _, Rx, h0, hw, fun ss c1 vs H1 ad1 hw1 x1 h1 r1 => by
    obtain ⟨ds, rfl, hl, hR⟩ := wDats_of hw1
    exact ⟨by rw [r1.dats.length]; exact hl, fun p hp => new_lstC h1.hc r1.dats (fun z H' ad' x2 k2 r2 => q _ _ z H' ad' hR (x1.trans h1.hc x2) (h1.to x2 k2) r2) hp⟩, qx⟩
def wTru (w : WpE) : WpT := fun sl cs R Rx => w sl cs (fun s c => truW s c fun b => R b c) Rx
def wBl (w : WpE) : WpT := fun sl cs R Rx => w sl cs (fun s c => isB s fun b => R b c) Rx
theorem jt_cmp {op : CmpOp} {ow : W2} (ho : JCmp X T op ow) (ha : JE X T W a wa) (hb : JE X T W b wb) (hm : behindInMarks op b = false := by first | exact nomark _ | rfl) : JT X T W (.Compare a [op] [b] pos) (wBl (wTwo wa wb ow)) :=
  weakT (pt_cmpR opAll ha hb hm) fun σ H Q ⟨ad, F, sl, cs, R, Rx, h0, hw, q, qx⟩ => ⟨ad, F, sl, cs, _, Rx, h0, hw, fun s1 c1 v H1 ad1 hw1 x1 h1 r1 => ⟨ad1, F, sl, c1, _, Rx, h1, hw1, fun s2 c2 v2 H2 ad2 hw2 x2 h2 r2 => by
    obtain ⟨s, c3, ⟨r, o1, o2⟩, hR⟩ := ho _ _ _ _ hw2
    obtain ⟨k, rfl, hR⟩ := isB_of hR
    refine ⟨r, o1, o2 ad2 F H2 v v2 _ h2.hc (r1.ext x2) r2 fun z H3 ad3 x3 k3 r3 => ?_⟩
    cases r3
    exact ⟨k, rfl, q k c3 H3 ad3 hR (x1.trans h1.hc (x2.trans h2.hc x3)) (h2.to x3 k3)⟩, qx.on x1 h1⟩, qx⟩
def wNotT (wt : WpT) : WpT := fun sl cs R Rx => wt sl cs (fun b c => R (!b) c) Rx
theorem JW.jt (h : JW X T W e wt) : JT X T W e wt := PW.pt h
theorem jw_or1 (h : JT X T W a wt) : JW X T W (.BoolOp .Or [a] pos) wt := pw_or1 h
def wOrT (w1 w2 : WpT) : WpT := fun sl cs R Rx => w1 sl cs (fun k c => Br k (R true c) (w2 sl c R Rx)) Rx
theorem jw_or (ha : JT X T W a wt1) (hb : JW X T W (.BoolOp .Or (b :: rest) pos) wt2) : JW X T W (.BoolOp .Or (a :: b :: rest) pos) (wOrT wt1 wt2) :=
  weakW (pw_or ha hb) fun σ H Q ⟨ad, F, sl, cs, R, Rx, h0, hw, q, qx⟩ => ⟨ad, F, sl, cs, _, Rx, h0, hw, fun k c1 H1 ad1 hw1 x1 h1 => by
    cases k with
    | false => exact iteF ⟨ad1, F, sl, c1, _, Rx, h1, hw1.f rfl, fun k c2 H2 ad2 hw2 x2 h2 => q k c2 H2 ad2 hw2 (x1.trans h1.hc x2) h2, qx.on x1 h1⟩
    | true => exact iteT (q true c1 H1 ad1 (hw1.t rfl) x1 h1), qx⟩
theorem je_one {op} (h : JE X T W a w) : JE X T W (.BoolOp op [a] pos) w := pe_one h
def wAndV (w1 w2 : WpE) : WpE := fun sl cs R Rx => w1 sl cs (fun s c => isB s fun k => Br k (w2 sl c R Rx) (R (.dat (.bl false)) c)) Rx
theorem je_and (ha : JE X T W a wa) (hb : JE X T W (.BoolOp .And (b :: rest) pos) wb) : JE X T W (.BoolOp .And (a :: b :: rest) pos) (wAndV wa wb) :=
  weak (pe_and ha hb) fun σ H Q ⟨ad, F, sl, cs, R, Rx, h0, hw, q, qx⟩ => ⟨ad, F, sl, cs, _, Rx, h0, hw, fun s1 c1 v H1 ad1 hw1 x1 h1 r1 => by
    have hw2 := isB_of hw1
    clear hw1
    obtain ⟨k, e0, hw1⟩ := hw2
    subst e0
    cases r1
    refine ⟨k, rfl, ?_⟩
    cases k with
    | true => exact iteT ⟨ad1, F, sl, c1, _, Rx, h1, hw1.t rfl, fun s2 c2 v2 H2 ad2 hw2 x2 h2 r2 => q s2 c2 v2 H2 ad2 hw2 (x1.trans h1.hc x2) h2 r2, qx.on x1 h1⟩
    | false => exact iteF (q _ c1 _ H1 ad1 (hw1.f rfl) x1 h1 Rep.bl), qx⟩
abbrev WpO := Sls → List Cell → (Option Int → List Cell → Prop) → RX → Prop
def tJO (T : Tab) (K : PySem.W.Frag) (W : WX) (w : WpO) : TO := fun σ H Q => ∃ ad F sl cs R Rx, Hold T K ⟨sl, cs⟩ ad F σ H ∧ w sl cs R Rx ∧ (∀ o c H' ad', R o c → Ext ad F H ad' H' → Hold T K ⟨sl, c⟩ ad' F σ H' → Q o H') ∧ Raz T K W σ ad F H sl Rx
def JO (X : Cx) (T : Tab) (W : WX) (e : Option Expr) (w : WpO) : Prop := PO X e (tJO T X.K W w)
def wO0 : WpO := fun _ cs R _ => R none cs
def wO1 (w : WpE) : WpO := fun sl cs R Rx => w sl cs (fun s c => match s with
  | .dat (.int i) => R (some i) c
  | _ => False) Rx
theorem jo_none : JO X T W none wO0 := weakO po_none fun σ H Q ⟨ad, F, sl, cs, R, Rx, h0, hw, q, qx⟩ => q none cs H ad hw .refl h0
theorem jo_some (he : JE X T W e w) : JO X T W (some e) (wO1 w) := weakO (po_some he) fun σ H Q ⟨ad, F, sl, cs, R, Rx, h0, hw, q, qx⟩ => ⟨ad, F, sl, cs, _, Rx, h0, hw, fun s1 c1 v H1 ad1 hw1 x1 h1 r1 => by
    split at hw1
    · cases r1
      exact ⟨_, rfl, q _ c1 H1 ad1 hw1 x1 h1⟩
    · exact hw1.elim, qx⟩
theorem slAll : SlR X (fun x l u H Q => ∃ r, SlR X r ∧ r x l u H Q) := fun pins s σ H x v vl vu l u sl Q I rx h1 h2 h3 ⟨r, o, h⟩ => o pins s σ H x v vl vu l u sl Q I rx h1 h2 h3 h
theorem slcW_of {s1 : Sl} {l u : Option Int} {cs : List Cell} {R : RV} (h : slcW s1 l u cs R) : ∃ s, SlcD X T s1 l u cs s cs ∧ R s cs := by
  unfold slcW at h
  split at h
  · exact ⟨_, slc_T, h⟩
  · obtain ⟨ds, h1, h⟩ := wL_of h
    exact ⟨_, slc_L h1, h⟩
def wCb (wA : WpA) (cw : WC) : WpE := fun sl cs R Rx => wA sl cs (fun ss c1 => cw ss c1 R) Rx
theorem cb_then {x : Str} {cw : WC} {u : Value} (hJ : JCall X T x cw) (hu : bootBuiltins x = some u) {σ : St} {H : Hp} {Q : VK} (h : tJ T X.K W (wCb wA cw) σ H Q) : tCB (fun xs H Q => ∃ r, CallR X u r ∧ r xs H Q) (tJA T X.K W wA) σ H Q := by
  obtain ⟨ad, F, sl, cs, R, Rx, h0, hw, q, qx⟩ := h
  refine ⟨ad, F, sl, cs, _, Rx, h0, hw, fun ss c1 vs H1 ad1 hw1 x1 h1 r1 => ?_, qx⟩
  obtain ⟨s, c2, ⟨u', r, e1, _, o1, o2⟩, hR⟩ := hJ.run _ _ _ hw1
  rw [hu] at e1
  cases e1
  exact ⟨r, o1, o2 ad1 F H1 vs Q h1.hc r1 fun z H3 ad3 x3 k3 r3 => q s c2 z H3 ad3 hR (x1.trans h1.hc x3) (h1.to x3 k3) r3⟩
theorem je_cb {x : Str} {cw : WC} (hm : X.mg x = none) (hJ : JCall X T x cw) (ha : JA X T W (e :: es) wA) (hg : Gl X x := by rfl) (hn : x ≠ "__name__" := by decide) (hdb : (x == ("__debug__" : Str)) = false := by decide)
    (he : starEach (e :: es) X.env = (false, eval e X.env) :: starEach es X.env := by rfl) (hpl : (backTo pos (starEach es X.env)).any (·.1) = false := by rfl) : JE X T W (.Call (.Name x p) (e :: es) [] pos) (wCb wA cw) := by
  obtain ⟨u, hv, ⟨id, rfl⟩ | ⟨id, rfl⟩⟩ := hJ.bo
  · exact weak (pe_callB callAll hg hm hv ha hn hdb he hpl) fun σ H Q z => cb_then hJ hv z
  · exact weak (pe_callTy callAll hg hm hv ha hn hdb he hpl) fun σ H Q z => cb_then hJ hv z
end
end Dl
namespace Dl
open PySem L2
def cells1 : List Sl → Option (Option Nat)
  | [] => some none
  | .dat _ :: r => cells1 r
  | .cel k :: r => match cells1 r with
    | some none => some (some k)
    | some (some j) => if j == k then some (some k) else none
    | none => none
theorem cells1_none : ∀ {ss : List Sl}, cells1 ss = some none → ∃ ds : List D, ss = ds.map Sl.dat
  | [], _ => ⟨[], rfl⟩
  | .dat d :: r, h => let ⟨ds, e⟩ := cells1_none (ss := r) h; ⟨d :: ds, by rw [e]; rfl⟩
  | .cel k :: r, h => by
    unfold cells1 at h
    split at h
    · cases h
    · split at h <;> cases h
    · cases h
theorem cells1_dat (k : Nat) : ∀ {ss : List Sl}, cells1 ss = some none → ss.all (onlyCell k) = true
  | [], _ => rfl
  | .dat d :: r, h => by rw [List.all_cons, cells1_dat k (ss := r) h]; rfl
  | .cel k :: r, h => by
    unfold cells1 at h
    split at h
    · cases h
    · split at h <;> cases h
    · cases h
theorem cells1_some {k : Nat} : ∀ {ss : List Sl}, cells1 ss = some (some k) → ss.all (onlyCell k) = true
  | .dat d :: r, h => by rw [List.all_cons, cells1_some (ss := r) h]; rfl
  | .cel j :: r, h => by
    rw [List.all_cons]
    unfold cells1 at h
    split at h
    · rename_i e
      cases h
      rw [cells1_dat k e]
      simp [onlyCell]
    · rename_i m e
      split at h
      · rename_i q
        cases h
        have q := beq_iff_eq.mp q
        subst q
        rw [cells1_some (ss := r) e]
        simp [onlyCell]
      · cases h
    · cases h
def aft (s : Sl) (cs0 cs : List Cell) (R : RV) : Prop := match s, cs0 with
  | .dat d, [] => R (.dat d) cs
  | .cel 0, [c0] => R (.cel cs.length) (cs ++ [c0])
  | _, _ => False
def callW (c : Ct) (ss : List Sl) (cs : List Cell) (R : RV) : Prop := match cells1 ss with
  | some none => ∃ s cs0, c ss [] s cs0 ∧ aft s cs0 cs R
  | some (some k) => match cs[k]? with
    | some c0 => ∃ d c1, c (ss.map low) [c0] (.dat d) [c1] ∧ R (.dat d) (cs.set k c1)
    | none => False
  | none => False
section
variable {X : Cx} {T : Tab} {W : WX} {a b e o : Expr} {es : List Expr} {kws : List Keyword} {pos p apos : Pos} {wa wb w wo : WpE} {wA wB : WpA} {c : Ct} {cx : CtX} {k : Nat} {f : Addr} {fd : FuncData} {ps ks : List Str} {y m : Str} {C g : Addr} {fn : List Str} {cn : Nat}
theorem callW_then {K : PySem.W.Frag} {ad : List Addr} {F : Addr → Prop} {H : Hp} {cs : List Cell} {vs : List V} {ss : List Sl} {R : RV} {Q : VK} {E : XK} (h : HoldC T K ad F H cs) (r : SlReps T K ad F H vs ss) (hw : callW c ss cs R)
    (q : ∀ s c' v H' ad', R s c' → Ext ad F H ad' H' → HoldC T K ad' F H' c' → SlRep T K ad' F H' v s → Q v H') : spC T K c vs H Q E := by
  unfold callW at hw
  split at hw
  · rename_i q1
    obtain ⟨ds, rfl⟩ := cells1_none q1
    obtain ⟨s, cs0, hc, hw⟩ := hw
    unfold aft at hw
    split at hw
    · exact spC0 hc h r fun v H' x2 c2 r2 => q _ _ v H' ad hw x2 c2 r2
    · exact spCN hc h r fun v H' a x2 c2 e => q _ _ v H' _ hw x2 c2 ⟨a, by rw [← h.ln, List.getElem?_append_right (Nat.le_refl _), Nat.sub_self]; rfl, e⟩
    · exact hw.elim
  · rename_i j q1
    split at hw
    · rename_i c0 e0
      obtain ⟨d, cc, hc, hw⟩ := hw
      exact spC1 e0 (cells1_some q1) hc h r fun v H' x2 c2 r2 => q _ _ v H' ad hw x2 c2 r2
    · exact hw.elim
  · exact hw.elim
def wFn (c : Ct) (wA : WpA) : WpE := fun sl cs R Rx => wA sl cs (fun ss c1 => callW c ss c1 R) Rx
theorem je_call (G : FnOk X.prog X.w X.K X.mg X.base CX0 k f fd ps (spC T X.K c)) (hr : Room k X.A) (hm : X.mg y = some (.ref f)) (hk : PySem.W.keepIn X.K (.ref f) = true) (hb : Binds X.K fd ps []) (ha : JA X T W (e :: es) wA) (hg : Gl X y := by rfl) (hdb : (y == ("__debug__" : Str)) = false := by decide)
    (he : starEach (e :: es) X.env = (false, eval e X.env) :: starEach es X.env := by rfl) (hpl : (backTo pos (starEach es X.env)).any (·.1) = false := by rfl) : JE X T W (.Call (.Name y p) (e :: es) [] pos) (wFn c wA) :=
  weak (pe_call G hr hg hm hk hb .nil pass0 ha hdb he hpl) fun σ H Q ⟨ad, F, sl, cs, R, Rx, h0, hw, q, qx⟩ => ⟨ad, F, sl, cs, _, Rx, h0, hw, fun ss c1 vs H1 ad1 hw1 x1 h1 r1 => by
    show spC T X.K c (vs ++ []) H1 Q E0
    rw [List.append_nil]
    exact callW_then h1.hc r1 hw1 fun s c' v H' ad' hR x2 k2 r2 => q s c' v H' ad' hR (x1.trans h1.hc x2) (h1.to x2 k2) r2, qx⟩
theorem look_zip {K : PySem.W.Frag} {M : Addr → Prop} {H : Hp} {d : D} : ∀ {fs : List (Str × D)} {vs : List V}, fs.lookup m = some d → Reps T K M H vs (fs.map (·.2)) → ∃ v, ((fs.map (·.1)).zip vs).lookup m = some v ∧ Rep T K M H v d
  | [], _, h, _ => nomatch h
  | (g, d') :: fs, _, h, .cons (v := v) (vs := vs) r rs => by
    rw [List.lookup_cons] at h
    show ∃ w, ((g, v) :: (fs.map (·.1)).zip vs).lookup m = some w ∧ _
    rw [List.lookup_cons]
    cases q : m == g with
    | true =>
      rw [q] at h
      cases h
      exact ⟨v, rfl, r⟩
    | false =>
      rw [q] at h
      exact look_zip h rs
def JK (X : Cx) (T : Tab) (W : WX) (kws : List Keyword) (w : WpA) : Prop := PK X kws (tJA T X.K W w)
theorem jk_nil : JK X T W [] wNil := weakK pk_nil fun σ H Q ⟨ad, F, sl, cs, R, Rx, h0, hw, q, qx⟩ => q [] cs [] H ad hw .refl h0 trivial
def isO (cn : Nat) : Sl → Bool
  | .dat (.obj n _) => n == cn
  | _ => false
variable {op : Operator} {w2 : W2}
theorem jb_no {op : Operator} : JBin X T op (fun _ _ _ _ => False) := fun s1 s2 cs R h => h.elim
end
end Dl
namespace Dl
open PySem L2
abbrev WpI := Sls → List Cell → (List D → List Cell → Prop) → RX → Prop
def tJI (T : Tab) (K : PySem.W.Frag) (W : WX) (w : WpI) : TI := fun σ H Q => ∃ ad F sl cs R Rx, Hold T K ⟨sl, cs⟩ ad F σ H ∧ w sl cs R Rx ∧
  (∀ items c J H' ad', R items c → Ext ad F H ad' H' → Hold T K ⟨sl, c⟩ ad' F σ H' → ItOk T K F J items ad' H' → Q J H') ∧ Raz T K W σ ad F H sl Rx
def JI (X : Cx) (T : Tab) (W : WX) (tg it : Expr) (w : WpI) : Prop := PI X tg it (tJI T X.K W w)
section
variable {X : Cx} {tg : Expr}
def iVal (K : PySem.W.Frag) (tl : TE) : TI := fun σ H R => tl σ H fun x H1 => (∃ a xs, x = .ref a ∧ SqL K H1 a xs ∧ R (Itl K a) H1) ∨ (∃ a xs, x = .ref a ∧ SqT K H1 a xs ∧ R (Itt K a) H1)
open PySem.Spec PyProof.Rows in
theorem pi_val {l : Expr} {tl : TE} (hl : PE X l tl) : PI X tg l (iVal X.K tl) := by
  refine ⟨fun pins s σ H R I h => ?_⟩
  refine thn (hl.run pins s σ H _ I h) fun v s1 ⟨x, H1, I1, r1, q1⟩ => ?_
  rcases q1 with ⟨a, xs, e, hq, q⟩ | ⟨a, xs, e, hq, q⟩
  · subst e
    cases r1
    obtain ⟨its, rv, p, hz⟩ := I1.list hq
    refine wpAny_pyIter_list p.isList ?_
    refine ⟨s1.heap.objs.size, [s1.heap.objs.size], _, _, H1, rfl, I1.kept (t' := s1.toks) fun b o e => Heap.get?_push_of_some _ e, turn_list a _, ⟨_, Heap.get?_push_size _ rfl, rfl, rfl⟩, fun b hb => ?_, q⟩
    have e : b = s1.heap.objs.size := by simpa using hb
    subst e
    exact I1.fpOk (Nat.le_refl _) (I1.hok.fresh (Nat.le_refl _))
  · subst e
    cases r1
    obtain ⟨its, rv, p, hz⟩ := I1.tuple hq
    refine wpAny_pyIter_tuple (show s1.heap.IsTuple a its.toArray from p) ?_
    refine ⟨s1.heap.objs.size, [s1.heap.objs.size], _, _, H1, rfl, I1.kept (t' := s1.toks) fun b o e => Heap.get?_push_of_some _ e, turn_tuple a _, ⟨_, Heap.get?_push_size _ rfl, rfl, rfl⟩, fun b hb => ?_, q⟩
    have e : b = s1.heap.objs.size := by simpa using hb
    subst e
    exact I1.fpOk (Nat.le_refl _) (I1.hok.fresh (Nat.le_refl _))
end
section
variable {T : Tab} {K : PySem.W.Frag} {F : Addr → Prop} {ad : List Addr} {H : Hp} {a : Addr} {vs : List V} {ds : List D}
theorem itl_ok (n : ¬ Mm ad F a) (e1 : H a = some (.lst vs)) (r : Reps T K (Mm ad F) H vs ds) : ItOk T K F (Itl K a) ds ad H := fun F2 ad2 H2 cs2 c2 kp i => ⟨fun d hd => by
    obtain ⟨e2, n2⟩ := kp a _ e1 n
    obtain ⟨v, hv, rv⟩ := (r.kp kp).get hd
    refine ⟨⟨vs, v, SqL.of e2, hv⟩, fun w H3 y => ?_⟩
    obtain ⟨rfl, y⟩ := y
    have := y vs (SqL.of e2)
    rw [hv] at this
    cases this
    exact ⟨fun _ _ z => z, rv⟩, fun hi => ⟨vs, SqL.of (kp a _ e1 n).1, by rw [r.length]; omega⟩⟩
theorem itr_ok' (e1 : LAt K (Mm ad F) H a vs) (r : Reps T K (Mm ad F) H vs ds) : ItOk T K F (Itl K a) ds ad H := fun F2 ad2 H2 cs2 c2 kp i => ⟨fun d hd => by
    have e2 := (e1.kp kp).sq
    obtain ⟨v, hv, rv⟩ := (r.kp kp).get hd
    refine ⟨⟨vs, v, e2, hv⟩, fun w H3 y => ?_⟩
    obtain ⟨rfl, y⟩ := y
    have := y vs e2
    rw [hv] at this
    cases this
    exact ⟨fun _ _ z => z, rv⟩, fun hi => ⟨vs, (e1.kp kp).sq, by rw [r.length]; omega⟩⟩
theorem itt_ok (e1 : TAt K (Mm ad F) H a vs) (r : Reps T K (Mm ad F) H vs ds) : ItOk T K F (Itt K a) ds ad H := fun F2 ad2 H2 cs2 c2 kp i => ⟨fun d hd => by
    have e2 := (e1.kp kp).sq
    obtain ⟨v, hv, rv⟩ := (r.kp kp).get hd
    refine ⟨⟨vs, v, e2, hv⟩, fun w H3 y => ?_⟩
    obtain ⟨rfl, y⟩ := y
    have := y vs e2
    rw [hv] at this
    cases this
    exact ⟨fun _ _ z => z, rv⟩, fun hi => ⟨vs, (e1.kp kp).sq, by rw [r.length]; omega⟩⟩
end
def itemsW (s : Sl) (k : List D → Prop) : Prop := match s with
  | .dat (.lst ds) => k ds
  | .dat (.tup ds) => k ds
  | .dat (.scr ds) => k ds
  | _ => False
section
variable {X : Cx} {T : Tab} {W : WX} {tg e e2 e3 : Expr} {w : WpE} {wA : WpA} {p pos tpos : Pos} {elts : List Expr} {kk : Nat}
def wItems (w : WpE) : WpI := fun sl cs R Rx => w sl cs (fun s c => itemsW s fun ds => R ds c) Rx
theorem ji_val (he : JE X T W e w) : JI X T W tg e (wItems w) := weakI (pi_val he) fun σ H Q ⟨ad, F, sl, cs, R, Rx, h0, hw, q, qx⟩ => ⟨ad, F, sl, cs, _, Rx, h0, hw, fun s c1 v H1 ad1 hw1 x1 h1 r1 => by
  unfold itemsW at hw1
  split at hw1
  · cases r1 with
    | @lst a vs _ n e1 r => exact .inl ⟨a, vs, rfl, SqL.of e1, q _ c1 _ H1 ad1 hw1 x1 h1 (itl_ok n e1 r)⟩
  · cases r1 with
    | @tup a vs _ e1 r => exact .inr ⟨a, vs, rfl, e1.sq, q _ c1 _ H1 ad1 hw1 x1 h1 (itt_ok e1 r)⟩
  · cases r1 with
    | @scr a vs _ e1 r => exact .inl ⟨a, vs, rfl, e1.sq, q _ c1 _ H1 ad1 hw1 x1 h1 (itr_ok' e1 r)⟩
  · exact hw1.elim, qx⟩
def SmI (i : Int) : Prop := -(2 ^ 62) ≤ i ∧ i < 2 ^ 62
def rng1W (ss : List Sl) (k : List D → Prop) : Prop := match ss with
  | [.dat (.int j)] => SmI j ∧ k (rangeD 0 j.toNat)
  | _ => False
def wRng1 (wA : WpA) : WpI := fun sl cs R Rx => wA sl cs (fun ss c => rng1W ss fun ds => R ds c) Rx
theorem ji_range1 (hm : X.mg "range" = none) (ha : JA X T W [e] wA) (hg : Gl X "range" := by rfl) (hs : starEach [e] X.env = [(false, eval e X.env)] := by rfl) : JI X T W tg (.Call (.Name "range" p) [e] [] pos) (wRng1 wA) :=
  weakI (pi_range1 hg hm ha hs) fun σ H Q ⟨ad, F, sl, cs, R, Rx, h0, hw, q, qx⟩ => ⟨ad, F, sl, cs, _, Rx, h0, hw, fun ss c1 vs H1 ad1 hw1 x1 h1 r1 => by
    unfold rng1W at hw1
    split at hw1
    · match vs, r1 with
      | [v], r1 =>
        have r1 := r1.1
        cases r1
        exact ⟨_, rfl, hw1.1.1, hw1.1.2, q _ c1 _ H1 ad1 hw1.2 x1 h1 itr_ok⟩
    · exact hw1.elim, qx⟩
end
def asgW (p : Pat) (d : D) (sl : Sls) (k : Sls → Prop) : Prop := match asgP p d sl with
  | some sl' => k sl'
  | none => False
theorem asgW_of {p : Pat} {d : D} {sl : Sls} {k : Sls → Prop} (h : asgW p d sl k) : ∃ sl', asgP p d sl = some sl' ∧ k sl' := by
  unfold asgW at h
  split at h
  · exact ⟨_, ‹_›, h⟩
  · exact h.elim
def isDat (s : Sl) (k : D → Prop) : Prop := match s with
  | .dat d => k d
  | .cel _ => False
theorem isDat_of {s : Sl} {k : D → Prop} (h : isDat s k) : ∃ d, s = .dat d ∧ k d := by
  unfold isDat at h
  split at h
  · exact ⟨_, rfl, h⟩
  · exact h.elim
def lcW (p : Pat) (wt : WpT) (we : WpE) (sl : Sls) : List D → List Cell → (List D → List Cell → Prop) → Prop
  | [], cs, R => R [] cs
  | d :: ds, cs, R => asgW p d sl fun sl' => wt sl' cs (fun b c1 => Br b (we sl' c1 (fun s c2 => isDat s fun e => lcW p wt we sl ds c2 fun acc c3 => R (e :: acc) c3) noX) (lcW p wt we sl ds c1 R)) noX
def JTs (X : Cx) (T : Tab) (W : WX) (ifs : List Expr) (w : WpT) : Prop := PTs X ifs (tJT T X.K W w)
def wYes : WpT := fun _ cs R _ => R true cs
theorem jts_nil {X : Cx} {T : Tab} {W : WX} : JTs X T W [] wYes := weakTs pts_nil fun σ H Q ⟨ad, F, sl, cs, R, Rx, h0, hw, q, qx⟩ => q true cs H ad hw .refl h0
def wLc (wi : WpI) (p : Pat) (wt : WpT) (we : WpE) (own : List Nat) : WpE := fun sl cs R Rx => wi sl cs (fun items c => items.length < sizeLine ∧ lcW p wt we (wipeS sl own) items c fun acc c' => R (.dat (.lst acc)) c') Rx
section
variable {T : Tab} {K : PySem.W.Frag} {W : WX} {p : Pat} {wi : WpI} {wt : WpT} {we : WpE} {own : List Nat}
theorem lc_core {sl : Sls} {items : List D} {cs : List Cell} {Rf : List D → List Cell → Prop} {σ : St} {H1 : Hp} {ad1 : List Addr} {F : Addr → Prop} {Q : VK} {J : It} (hp : ∀ i ∈ slotsP p, i ∈ own) (h1 : Hold T K ⟨sl, cs⟩ ad1 F σ H1) (okI : ItOk T K F J items ad1 H1) (hl : items.length < sizeLine)
    (h : lcW p wt we (wipeS sl own) items cs Rf) {Dl : Addr} (hD : H1 Dl = none)
    (q : ∀ accV accD ci ad' H', Ext ad1 F H1 ad' H' → HoldC T K ad' (fun a => F a ∨ a = Dl) H' ci → H' Dl = some (.lst accV) → Reps T K (Mm ad' fun a => F a ∨ a = Dl) H' accV accD → Rf accD ci → Q (.ref Dl) H') :
    ∃ (Inv' : Nat → Nat → Hp → Prop), (∃ m0, Inv' 0 m0 (upd H1 Dl (.lst []))) ∧ ∀ i m H', Inv' i m H' → (J.stop i H' ∧ Q (.ref Dl) H') ∨ (J.go i H' ∧ ∃ I2 : Hp → Prop, (∀ H2, I2 H2 → ∃ m', m' < m ∧ Inv' (i + 1) m' H2) ∧ ∀ v H3, J.yld i H' v H3 →
      tDG T K p v (wipe σ own) H3 fun σ' H4 => wipe σ' own = wipe σ own ∧ tJT T K W0 wt σ' H4 fun b H5 => if b = true then tJ T K W0 we σ' H5 fun w H6 => ∃ acc, H6 Dl = some (.lst acc) ∧ acc.length < sizeLine ∧ I2 (upd H6 Dl (.lst (acc ++ [w]))) else I2 H5) := by
  let vs := own
  have nD := h1.hc.new hD
  let F' : Addr → Prop := fun a => F a ∨ a = Dl
  have neD : ∀ a o, H1 a = some o → a ≠ Dl := fun a o e => ne_of_none e hD
  have slots : ∀ {ad' : List Addr} {H' : Hp} {cs : List Cell}, Ext ad1 F H1 ad' H' → HoldC T K ad' F' H' cs → Hold T K ⟨wipeS sl vs, cs⟩ ad' F' (wipe σ vs) H' := fun {ad' H' cs} x c => by
    refine ⟨c, by rw [wipe_length, wipeS_len]; exact h1.sz, fun i s e => ?_⟩
    obtain ⟨e1, e2⟩ := wipeS_some e
    obtain ⟨v, hv, r⟩ := h1.sl i s e1
    refine ⟨v, by rw [wipe_out e2]; exact hv, ?_⟩
    cases s with
    | dat d => exact Rep.kp (fun a o e n => ⟨x.keep a o e n, fun z => (x.kp a o e n).2 (z.imp id fun z => z.resolve_right (neD a o e))⟩) r
    | cel k =>
      have r' := SlRep.ext x r
      exact r'
  have h1' : HoldC T K ad1 F' (upd H1 Dl (.lst [])) cs := by
    obtain ⟨c2, x2⟩ := h1.hc.newo (o := .lst []) hD
    have kp : Kp (Mm ad1 F) H1 (Mm ad1 F') (upd H1 Dl (.lst [])) := fun a o e n => ⟨by rw [upd_ne (neD a o e)]; exact e, fun z => n (z.imp id fun z => z.resolve_right (neD a o e))⟩
    refine ⟨h1.hc.nd, fun a ha z => z.elim (h1.hc.fr a ha) fun z => nD (.inl (z ▸ ha)), fun a z => ?_, h1.hc.tb.newF hD (fun _ z => nomatch z), h1.hc.ln, fun k a c e1 e2 => ?_⟩
    · rcases z with z | z
      · exact c2.al a z
      · rw [z]; exact ⟨_, upd_same⟩
    · have qc := h1.hc.ce k a c e1 e2
      obtain ⟨o, e⟩ := qc.some
      exact qc.kp kp (upd_ne (neD a o e))
  have x1' : Ext ad1 F H1 ad1 (upd H1 Dl (.lst [])) := (h1.hc.newo hD).2
  refine ⟨fun i m H' => ∃ ad' accV accD ci, i ≤ items.length ∧ m = items.length - i ∧ Ext ad1 F H1 ad' H' ∧ HoldC T K ad' F' H' ci ∧ H' Dl = some (.lst accV) ∧ Reps T K (Mm ad' F') H' accV accD ∧ accD.length ≤ i ∧
    lcW p wt we (wipeS sl vs) (items.drop i) ci (fun acc c => Rf (accD ++ acc) c), ⟨items.length, ad1, [], [], cs, Nat.zero_le _, rfl, x1', h1', upd_same, .nil, Nat.le_refl _, h⟩, ?_⟩
  rintro i m H' ⟨ad', accV, accD, ci, hi', rfl, x', c', eD, rA, lA, hL⟩
  have kpI : Kp (Mm ad1 F) H1 (Mm ad' F') H' := fun a o e n => ⟨x'.keep a o e n, fun z => (x'.kp a o e n).2 (z.imp id fun z => z.resolve_right (neD a o e))⟩
  obtain ⟨ok1, ok2⟩ := okI F' ad' H' ci c' kpI i
  by_cases hlt : i < items.length
  · have hd : items[i]? = some items[i] := List.getElem?_eq_getElem hlt
    obtain ⟨g1, g2⟩ := ok1 _ hd
    rw [List.drop_eq_getElem_cons hlt] at hL
    obtain ⟨sl', eas, hL⟩ := asgW_of hL
    refine .inr ⟨g1, fun H2 => ∃ m', m' < items.length - i ∧ ∃ ad' accV accD ci, i + 1 ≤ items.length ∧ m' = items.length - (i + 1) ∧ Ext ad1 F H1 ad' H2 ∧ HoldC T K ad' F' H2 ci ∧ H2 Dl = some (.lst accV) ∧ Reps T K (Mm ad' F') H2 accV accD ∧ accD.length ≤ i + 1 ∧
      lcW p wt we (wipeS sl vs) (items.drop (i + 1)) ci (fun acc c => Rf (accD ++ acc) c), fun H2 ⟨m', hm, z⟩ => ⟨m', hm, z⟩, fun v H3 y => ?_⟩
    obtain ⟨gr, rv⟩ := g2 v H3 y
    obtain ⟨c3, x3⟩ := grow c' gr
    have x13 : Ext ad1 F H1 ad' H3 := ⟨x'.pre, fun a o e n => gr a o (x'.keep a o e n), fun a fa => (x'.frm a fa).trans (.inl (by
      obtain ⟨o, e⟩ := (x'.frm a fa).ex (h1.hc.al a fa)
      rw [gr a o e, e]))⟩
    have cvt : ∀ {ad6 : List Addr} {H6 : Hp}, Ext ad' F' H3 ad6 H6 → Ext ad1 F H1 ad6 H6 := fun {ad6 H6} x6 => by
      obtain ⟨t, e, ht⟩ := x13.pre
      obtain ⟨t2, e2, ht2⟩ := x6.pre
      refine ⟨⟨t ++ t2, by rw [e2, e, List.append_assoc], fun a ha => ?_⟩, fun a o e n => ?_, fun a fa => ?_⟩
      · rcases List.mem_append.mp ha with z | z
        · exact ht a z
        · cases q1 : H1 a with
          | none => rfl
          | some o =>
            exfalso
            have hz := ht2 a z
            by_cases n : Mm ad1 F a
            · rcases n with n | n
              · obtain ⟨o', e'⟩ := c3.mem (a := a) (by rw [e]; exact List.mem_append_left _ n)
                rw [e'] at hz; cases hz
              · obtain ⟨o', e'⟩ := (x13.frm a n).ex ⟨_, q1⟩
                rw [e'] at hz; cases hz
            · rw [x13.keep a o q1 n] at hz; cases hz
      · have n3 : ¬ Mm ad' F' a := fun z => (x13.kp a o e n).2 (z.imp id fun z => z.resolve_right (neD a o e))
        exact x6.keep a o (x13.keep a o e n) n3
      · exact (x13.frm a fa).trans (x6.frm a (.inl fa))
    have eD3 : H3 Dl = some (.lst accV) := gr _ _ eD
    have rA3 : Reps T K (Mm ad' F') H3 accV accD := rA.kp x3.kp
    refine ⟨ad', F', ⟨wipeS sl vs, ci⟩, items[i], sl', slots x13 c3, rv, eas, fun σ4 a4 h4 => ⟨wipe_asis a4 hp, ad', F', sl', ci, _, noX, h4, hL, fun b c1 H5 ad5 hb x5 h5 => ?_, Raz.no⟩⟩
    cases b with
    | true =>
      refine iteT ⟨ad5, F', sl', c1, _, noX, h5, hb.t rfl, fun s c2 w H6 ad6 hs x6 h6 r6 => ?_, Raz.no⟩
      obtain ⟨d', rfl, hL2⟩ := isDat_of hs
      refine ⟨accV, ?_, ?_, ?_⟩
      · exact (x6.frm Dl (.inr rfl)).eq ((x5.frm Dl (.inr rfl)).eq eD3 (fun _ z => nomatch z)) (fun _ z => nomatch z)
      · have := rA3.length
        omega
      · have x36 : Ext ad' F' H3 ad6 H6 := x5.trans h5.hc x6
        have x16 := cvt x36
        have hDa : Dl ∉ ad6 := fun z => h6.hc.fr Dl z (.inr rfl)
        have kpU : Kp (Mm ad6 F') H6 (Mm ad6 F') (upd H6 Dl (.lst (accV ++ [w]))) := fun a o e n => ⟨by rw [upd_ne (fun z => n (.inr (.inr z)))]; exact e, n⟩
        refine ⟨_, by omega, ad6, accV ++ [w], accD ++ [d'], c2, hlt, rfl, ?_, ?_, upd_same, ((rA3.kp x36.kp).append (.cons r6 .nil)).kp kpU, by rw [List.length_append]; simp; omega, ?_⟩
        · exact ⟨x16.pre, fun a o e n => by rw [upd_ne (neD a o e)]; exact x16.keep a o e n, fun a fa => by
            obtain ⟨o, e⟩ := h1.hc.al a fa
            exact (x16.frm a fa).trans (.inl (by
              obtain ⟨o6, e6⟩ := (x16.frm a fa).ex ⟨o, e⟩
              rw [upd_ne (neD a o e)]))⟩
        · refine ⟨h6.hc.nd, h6.hc.fr, fun a z => ?_, h6.hc.tb.upd ((x6.frm Dl (.inr rfl)).eq ((x5.frm Dl (.inr rfl)).eq eD3 (fun _ z => nomatch z)) (fun _ z => nomatch z)) (fun _ z => nomatch z) (fun _ z => nomatch z) (fun _ z => nomatch z), h6.hc.ln, fun k a c e1 e2 => ?_⟩
          · by_cases e : a = Dl
            · rw [e]; exact ⟨_, upd_same⟩
            · rw [upd_ne e]; exact h6.hc.al a z
          · exact (h6.hc.ce k a c e1 e2).kp kpU (upd_ne fun z => hDa (z ▸ List.mem_of_getElem? e1))
        · have e : (fun acc c => Rf (accD ++ [d'] ++ acc) c) = fun acc c => Rf (accD ++ (d' :: acc)) c := by
            funext acc c
            rw [List.append_assoc]
            rfl
          rw [e]
          exact hL2
    | false => exact iteF ⟨_, by omega, ad5, accV, accD, c1, hlt, rfl, cvt x5, h5.hc, (x5.frm Dl (.inr rfl)).eq eD3 (fun _ z => nomatch z), rA3.kp x5.kp, by omega, hb.f rfl⟩
  · have e : i = items.length := by omega
    subst e
    rw [List.drop_length] at hL
    have hL : Rf (accD ++ []) ci := hL
    rw [List.append_nil] at hL
    exact .inl ⟨ok2 rfl, q accV accD ci ad' H' x' c' eD rA hL⟩
theorem lc_then {σ : St} {H : Hp} {Q : VK} (hp : ∀ i ∈ slotsP p, i ∈ own) (h : tJ T K W (wLc wi p wt we own) σ H Q) : tLc (tJI T K W wi) (tDG T K p) (tJT T K W0 wt) (tJ T K W0 we) own σ H Q := by
  obtain ⟨ad, F, sl, cs, R, Rx, h0, hw, q, qx⟩ := h
  refine ⟨ad, F, sl, cs, _, Rx, h0, hw, fun items c J H1 ad1 hw1 x1 h1 ok Dl hD => ?_, qx⟩
  refine lc_core hp h1 ok hw1.1 hw1.2 hD fun accV accD ci ad' H' x' c' eD rA hR => ?_
  have nD := h1.hc.new hD
  have kpF : Kp (Mm ad' fun a => F a ∨ a = Dl) H' (Mm ad' F) H' := fun a o e n => ⟨e, fun z => n (z.imp id .inl)⟩
  have cF : HoldC T K ad' F H' ci := ⟨c'.nd, fun a ha z => c'.fr a ha (.inl z), fun a z => c'.al a (.inl z), h1.hc.tb.back (fun _ z => .inl z) c'.tb, c'.ln, fun k a c e1 e2 => (c'.ce k a c e1 e2).kp kpF rfl⟩
  have nD' : ¬ Mm ad' F Dl := fun z => z.elim (fun z => c'.fr Dl z (.inr rfl)) fun z => nD (.inr z)
  exact q _ ci (.ref Dl) H' ad' hR (x1.trans h1.hc x') (h1.to x' cF) (Rep.lst nD' eD (rA.kp kpF))
end
section
variable {X : Cx} {T : Tab} {W : WX} {elt tg iter : Expr} {ifs : List Expr} {scope : Scope} {own : List (Str × Nat)} {p : Pat} {wi : WpI} {wt : WpT} {we : WpE} {pos : Pos}
structure JLC (X : Cx) (T : Tab) (W : WX) (elt tg iter : Expr) (ifs : List Expr) (scope : Scope) (own : List (Str × Nat)) (wi : WpI) (p : Pat) (wt : WpT) (we : WpE) : Prop where
  hi : JI X T W tg iter wi
  ok : BlkOk X.N X.env.scope scope own
  hg : InB X scope fun X' => DG X' T tg p
  ht : InB X scope fun X' => JTs X' T W0 ifs wt
  he : InB X scope fun X' => JE X' T W0 elt we
  hp : ∀ i ∈ slotsP p, i ∈ own.map (·.2)
theorem je_lc {vs : List Nat} (hN : X.N.Nodup) (h : JLC X T W elt tg iter ifs scope own wi p wt we) (hv : own.map (·.2) = vs := by rfl) (hc : X.calm = true := by rfl) (hs : ∀ x, foldedSetIterable iter X.env x = pure x := by intro _; rfl) : JE X T W (.ListComp elt [⟨tg, iter, ifs, 0⟩] scope pos) (wLc wi p wt we vs) := by
  subst hv
  exact weak (pe_lc (g := tDG T X.K p) (tt := tJT T X.K W0 wt) (te := tJ T X.K W0 we) hc hN h.hi h.ok h.hg h.ht h.he hs) fun σ H Q z => lc_then h.hp z
end
end Dl
namespace Dl
open PySem L2
structure PJ where
  nx : Sta → Prop
  rt : Sl → List Cell → Prop
  bk : Sta → Prop := fun _ => False
  ct : Sta → Prop := fun _ => False
  ex : Exc → Sta → Prop := fun _ _ => False
abbrev PJ.to (P : PJ) (W : WX) : Post := { nx := P.nx, rt := P.rt, bk := P.bk, ct := P.ct, ex := P.ex, W := W }
abbrev WS := Sta → PJ → Prop
def JS (X : Cx) (T : Tab) (W : WX) (n : Nat) (st : Stmt) (w : WS) : Prop := ∀ (S : Sta) (P : PJ), w S P → DS X T n S st (P.to W)
def JSs (X : Cx) (T : Tab) (W : WX) (n : Nat) (sts : List Stmt) (w : WS) : Prop := ∀ (S : Sta) (P : PJ), w S P → DSs X T n S sts (P.to W)
section
variable {X : Cx} {T : Tab} {W : WX} {n : Nat} {a b c e o ix it tg : Expr} {es : List Expr} {pos p p' px py pz pt pt2 : Pos} {wa wb we wo wx w : WpE} {wt : WpT} {wA : WpA} {wi : WpI} {st : Stmt} {rest body els : List Stmt} {w1 w2 : WS} {x y z : Str} {i j l kt k2 : Nat} {pa : Pat}
theorem raz_of {K : PySem.W.Frag} {S : Sta} {P : PJ} {ad : List Addr} {F : Addr → Prop} {σ : St} {H : Hp} (hn : n ≤ ad.length) (q5 : ∀ x S' cls d σ' H' ad', ExtS n ad F H ad' H' → n ≤ ad'.length → Hold T K S' ad' F σ' H' → ExRep T K (Mm ad' F) H' cls d x → P.ex x S' → W cls d σ' H') :
    Raz T K W σ ad F H S.sl (fun x c => P.ex x ⟨S.sl, c⟩) := fun x c cls d H' ad' hx x1 h1 er => q5 x ⟨S.sl, c⟩ cls d σ H' ad' (x1.s hn) (x1.le hn) h1 er hx
def wNilS : WS := fun S P => P.nx S
def wConsS (w1 w2 : WS) : WS := fun S P => w1 S { P with nx := fun S' => w2 S' P }
theorem jss_nil : JSs X T W n [] wNilS := fun S P h => dss_nil h
theorem jss_cons (h1 : JS X T W n st w1) (h2 : JSs X T W n rest w2) : JSs X T W n (st :: rest) (wConsS w1 w2) := fun S P h =>
  dss_cons (ds_mono (h1 S { P with nx := fun S' => w2 S' P } h) (fun S' q => h2 S' P q) (fun _ _ q => q) (fun _ q => q) (fun _ q => q) (fun _ _ q => q) rfl)
def wAsg (i : Nat) (w : WpE) : WS := fun S P => w S.sl S.cs (fun s c => P.nx ⟨S.sl.set i (some s), c⟩) (fun x c => P.ex x ⟨S.sl, c⟩)
theorem js_asg (i : Nat) (hN : X.N.Nodup) (he : JE X T W e w) (hi : X.N[i]? = some x := by rfl) (hx : Loc X.env.scope x := by first | exact Or.inl rfl | exact Or.inr rfl)
    (hs : swapsWith e (some (.Name x p')) pos.line X.env = pure false := by rfl) (hf : X.fn x = true ∨ X.env.scope.names.lookup x = some .local := by first | exact .inl rfl | exact .inr rfl) : JS X T W n (.Assign [.Name x p'] e pos) (wAsg i w) := fun S P h =>
  weakS (ps_set hN hi hx he hs hf) fun D σ H ⟨ad, F, hn, h0, q1, q2, q3, q4, q5⟩ => ⟨ad, F, S.sl, S.cs, _, _, h0, h, fun s c v H1 ad1 hR x1 h1 r1 => q1 _ _ H1 ad1 (x1.s hn) (x1.le hn) (h1.set r1 i) hR, raz_of hn q5⟩
def wExpr (w : WpE) : WS := fun S P => w S.sl S.cs (fun _ c => P.nx ⟨S.sl, c⟩) (fun x c => P.ex x ⟨S.sl, c⟩)
def retW (n : Nat) (P : PJ) (s : Sl) (c : List Cell) : Prop := match s with
  | .dat d => P.rt (.dat d) (c.take n)
  | .cel k => n ≤ k ∧ match c[k]? with
    | some (.lst ds) => P.rt (.dat (.lst ds)) (c.take n)
    | _ => False
def wRet (n : Nat) (w : WpE) : WS := fun S P => w S.sl S.cs (fun s c => retW n P s c) (fun x c => P.ex x ⟨S.sl, c⟩)
theorem ext_take {ad ad1 : List Addr} {F : Addr → Prop} {H H1 : Hp} (xs : ExtS n ad F H ad1 H1) : ExtS n ad F H (ad1.take n) H1 := ⟨by rw [List.take_take, Nat.min_self]; exact xs.pre, fun a ha => xs.sub a (List.mem_of_mem_take ha), xs.keep, xs.frm⟩
theorem js_ret (he : JE X T W e w) : JS X T W n (.Return (some e) pos) (wRet n w) := fun S P h =>
  weakS (ps_ret he) fun D σ H ⟨ad, F, hn, h0, q1, q2, q3, q4, q5⟩ => ⟨ad, F, S.sl, S.cs, _, _, h0, h, fun s c v H1 ad1 hR x1 h1 r1 => by
    have xs := x1.s hn
    have hn1 := x1.le hn
    have kp : Kp (Mm ad1 F) H1 (Mm (ad1.take n) F) H1 := fun a o e m => ⟨e, fun z => m (z.imp List.mem_of_mem_take id)⟩
    have hl : n ≤ (ad1.take n).length := by rw [List.length_take]; omega
    unfold retW at hR
    split at hR
    · exact q2 (.dat _) _ v H1 (ad1.take n) (ext_take xs) hl (h1.hc.take n) (Rep.kp kp r1) hR
    · obtain ⟨hk, hR⟩ := hR
      split at hR
      · rename_i k _ ds hc
        obtain ⟨a, ha, rfl⟩ := r1
        obtain ⟨vs, e1, rv⟩ := h1.hc.ce k a _ ha hc
        have na : ¬ Mm (ad1.take n) F a := fun z => z.elim (fun z => by
          obtain ⟨j, hj, ej⟩ := List.getElem_of_mem z
          have hj' : (ad1.take n)[j]? = some a := by rw [List.getElem?_eq_getElem hj, ej]
          have hjn : j < n := by rw [List.length_take] at hj; omega
          rw [List.getElem?_take, if_pos hjn] at hj'
          have := ix_inj h1.hc.nd ha hj'
          omega) fun z => h1.hc.fr a (List.mem_of_getElem? ha) z
        exact q2 (.dat _) _ (.ref a) H1 (ad1.take n) (ext_take xs) hl (h1.hc.take n) (Rep.lst na e1 (rv.kp kp)) hR
      · exact hR.elim, raz_of hn q5⟩
def wRetC (n : Nat) (w : WpE) : WS := fun S P => w S.sl S.cs (fun s c => match s with
  | .cel k => k = n ∧ P.rt (.cel n) (c.take (n + 1))
  | _ => False) (fun x c => P.ex x ⟨S.sl, c⟩)
theorem js_retC (he : JE X T W e w) : JS X T W n (.Return (some e) pos) (wRetC n w) := fun S P h =>
  weakS (ps_ret he) fun D σ H ⟨ad, F, hn, h0, q1, q2, q3, q4, q5⟩ => ⟨ad, F, S.sl, S.cs, _, _, h0, h, fun s c v H1 ad1 hR x1 h1 r1 => by
    have xs := x1.s hn
    have hn1 := x1.le hn
    split at hR
    · obtain ⟨rfl, hR⟩ := hR
      obtain ⟨a, ha, rfl⟩ := r1
      rename_i k _
      have hl : k < ad1.length := by
        rcases Nat.lt_or_ge k ad1.length with z | z
        · exact z
        · rw [List.getElem?_eq_none z] at ha; cases ha
      refine q2 (.cel k) _ (.ref a) H1 (ad1.take (k + 1)) ⟨?_, fun b hb => xs.sub b (List.mem_of_mem_take hb), xs.keep, xs.frm⟩ ?_ (h1.hc.take _) ⟨a, ?_, rfl⟩ hR
      · rw [List.take_take, Nat.min_eq_left (Nat.le_succ k)]; exact xs.pre
      · rw [List.length_take]; omega
      · rw [List.getElem?_take, if_pos (Nat.lt_succ_self k)]; exact ha
    · exact hR.elim, raz_of hn q5⟩
def wIfS (wt : WpT) (w1 w2 : WS) : WS := fun S P => wt S.sl S.cs (fun b c => Br b (w1 ⟨S.sl, c⟩ P) (w2 ⟨S.sl, c⟩ P)) (fun x c => P.ex x ⟨S.sl, c⟩)
theorem js_if (hc : JT X T W c wt) (h1 : JSs X T W n body w1) (h2 : JSs X T W n els w2) : JS X T W n (.If c body els pos) (wIfS wt w1 w2) := fun S P h => by
  have b1 : PSs X body (fun D σ H => ∃ S P, DSs X T n S body P ∧ tDS T X.K n S P D σ H) := ⟨fun pins s σ H D I ⟨S', P', hS, z⟩ => hS.run pins s σ H D I z⟩
  have b2 : PSs X els (fun D σ H => ∃ S P, DSs X T n S els P ∧ tDS T X.K n S P D σ H) := ⟨fun pins s σ H D I ⟨S', P', hS, z⟩ => hS.run pins s σ H D I z⟩
  exact weakS (ps_if hc b1 b2) fun D σ H ⟨ad, F, hn, h0, q1, q2, q3, q4, q5⟩ => ⟨ad, F, S.sl, S.cs, _, _, h0, h, fun k c H1 ad1 hR x1 h1' => by
    cases k with
    | true => exact iteT ⟨⟨S.sl, c⟩, P.to W, h1 _ P (hR.t rfl), tDS.go (σ := σ) (x1.s hn) (x1.le hn) h1' q1 q2 q3 q4 q5⟩
    | false => exact iteF ⟨⟨S.sl, c⟩, P.to W, h2 _ P (hR.f rfl), tDS.go (σ := σ) (x1.s hn) (x1.le hn) h1' q1 q2 q3 q4 q5⟩, raz_of hn q5⟩
def forW (p : Pat) (wb : WS) : List D → Sta → PJ → Prop
  | [], S, P => P.nx S
  | d :: ds, S, P => asgW p d S.sl fun sl' => wb ⟨sl', S.cs⟩ { P with nx := fun S' => forW p wb ds S' P, ct := fun S' => forW p wb ds S' P, bk := P.nx }
theorem for_of {wb : WS} (hb : JSs X T W n body wb) : ∀ {items : List D} {S : Sta} {P : PJ}, forW pa wb items S P → DFor X T n pa body items S (P.to W)
  | [], S, P, h => h
  | d :: ds, S, P, h => by
    obtain ⟨sl', e, h⟩ := asgW_of h
    exact ⟨sl', e, dss_mono (hb _ _ h) (fun S' q => for_of hb q) (fun _ _ q => q) (fun _ q => q) (fun S' q => for_of hb q) (fun _ _ q => q) rfl⟩
theorem for_core {items : List D} {S S1 : Sta} {P : Post} {D : Ends} {σ : St} {H H1 : Hp} {ad ad1 : List Addr} {F : Addr → Prop} {J : It} (x1 : Ext ad F H ad1 H1) (hn : n ≤ ad.length) (h1 : Hold T X.K S1 ad1 F σ H1) (ok : ItOk T X.K F J items ad1 H1) (h : DFor X T n pa body items S1 P)
    (q1 : ∀ S' σ' H' ad', ExtS n ad F H ad' H' → n ≤ ad'.length → Hold T X.K S' ad' F σ' H' → P.nx S' → D.nx σ' H')
    (q2 : ∀ s cs' v H' ad', ExtS n ad F H ad' H' → n ≤ ad'.length → HoldC T X.K ad' F H' cs' → SlRep T X.K ad' F H' v s → P.rt s cs' → D.rt v H')
    (q5 : ∀ x S' cls d σ' H' ad', ExtS n ad F H ad' H' → n ≤ ad'.length → Hold T X.K S' ad' F σ' H' → ExRep T X.K (Mm ad' F) H' cls d x → P.ex x S' → P.W cls d σ' H') :
    ∃ Wl : Nat → Nat → St → Hp → Prop, (∃ m, Wl 0 m σ H1) ∧ ∀ i m σ H, Wl i m σ H →
      (J.stop i H ∧ D.nx σ H) ∨ (J.go i H ∧ ∃ N : St → Hp → Prop, (∀ σ' H', N σ' H' → ∃ m', m' < m ∧ Wl (i + 1) m' σ' H') ∧ ∀ x H', J.yld i H x H' → tDG T X.K pa x σ H' fun σ2 H2 => (fun D σ H => ∃ S P, DSs X T n S body P ∧ tDS T X.K n S P D σ H) { D with nx := N, ct := N, bk := D.nx } σ2 H2) := by
  have xs1 := x1.s hn
  have hn1 := x1.le hn
  refine ⟨fun i m σ' H' => ∃ ad' S', n ≤ ad'.length ∧ Hold T X.K S' ad' F σ' H' ∧ ExtS n ad1 F H1 ad' H' ∧ i ≤ items.length ∧ m = items.length - i ∧ DFor X T n pa body (items.drop i) S' P, ⟨items.length, ad1, S1, hn1, h1, .refl, Nat.zero_le _, rfl, h⟩, ?_⟩
  rintro i m σ' H' ⟨ad', S', hn', h', x', hi', rfl, hf⟩
  obtain ⟨ok1, ok2⟩ := ok F ad' H' S'.cs h'.hc x'.kp i
  by_cases hlt : i < items.length
  · have hd : items[i]? = some items[i] := List.getElem?_eq_getElem hlt
    obtain ⟨g1, g2⟩ := ok1 _ hd
    rw [List.drop_eq_getElem_cons hlt] at hf
    obtain ⟨sl', e, hf⟩ := hf
    refine .inr ⟨g1, fun σ2 H2 => ∃ ad2 S2, n ≤ ad2.length ∧ Hold T X.K S2 ad2 F σ2 H2 ∧ ExtS n ad1 F H1 ad2 H2 ∧ DFor X T n pa body (items.drop (i + 1)) S2 P, fun σ2 H2 ⟨ad2, S2, hn2, h2, x2, hf2⟩ => ⟨items.length - (i + 1), by omega, ad2, S2, hn2, h2, x2, hlt, rfl, hf2⟩, fun v H3 y => ?_⟩
    obtain ⟨gr, rv⟩ := g2 v H3 y
    obtain ⟨c3, x3⟩ := grow h'.hc gr
    refine ⟨ad', F, S', items[i], sl', h'.to x3 c3, rv, e, fun σ4 _ h4 => ⟨_, _, hf, ad', F, hn', h4, ?_, ?_, ?_, ?_, ?_⟩⟩
    · exact fun S5 σ5 H5 ad5 x5 hn5 h5 p5 => ⟨ad5, S5, hn5, h5, x'.trans ((x3.s hn').trans x5), p5⟩
    · exact fun s cs5 v5 H5 ad5 x5 hn5 c5 r5 p5 => q2 s cs5 v5 H5 ad5 (xs1.trans (x'.trans ((x3.s hn').trans x5))) hn5 c5 r5 p5
    · exact fun S5 σ5 H5 ad5 x5 hn5 h5 p5 => q1 S5 σ5 H5 ad5 (xs1.trans (x'.trans ((x3.s hn').trans x5))) hn5 h5 p5
    · exact fun S5 σ5 H5 ad5 x5 hn5 h5 p5 => ⟨ad5, S5, hn5, h5, x'.trans ((x3.s hn').trans x5), p5⟩
    · exact fun z S5 cls d σ5 H5 ad5 x5 hn5 h5 r5 p5 => q5 z S5 cls d σ5 H5 ad5 (xs1.trans (x'.trans ((x3.s hn').trans x5))) hn5 h5 r5 p5
  · have e : i = items.length := by omega
    subst e
    rw [List.drop_length] at hf
    exact .inl ⟨ok2 rfl, q1 S' σ' H' ad' (xs1.trans x') hn' h' hf⟩
def wFor (wi : WpI) (p : Pat) (wb : WS) : WS := fun S P => wi S.sl S.cs (fun items c => forW p wb items ⟨S.sl, c⟩ P) (fun x c => P.ex x ⟨S.sl, c⟩)
theorem js_for {wb : WS} (hp : PassesOwn (model X.prog X.w) X.A X.env X.xe) (hi : JI X T W tg it wi) (hg : DG X T tg pa) (hb : JSs X T W n body wb) (hc : X.calm = true := by rfl) (hs : ∀ x, foldedSetIterable it X.env x = pure x := by intro _; rfl) : JS X T W n (.For tg it body [] pos) (wFor wi pa wb) := fun S P h => by
  have b1 : PSs X body (fun D σ H => ∃ S P, DSs X T n S body P ∧ tDS T X.K n S P D σ H) := ⟨fun pins s σ H D I ⟨S', P', hS, z⟩ => hS.run pins s σ H D I z⟩
  exact weakS (ps_for hp hc hi hg b1 hs) fun D σ H ⟨ad, F, hn, h0, q1, q2, q3, q4, q5⟩ => ⟨ad, F, S.sl, S.cs, _, _, h0, h, fun items c J H1 ad1 hR x1 h1 ok => for_core (S := S) (P := P.to W) x1 hn h1 ok (for_of hb hR) q1 q2 q5, raz_of hn q5⟩
def par2 (i j : Nat) (ss : List Sl) (sl : Sls) (k : Sls → Prop) : Prop := match ss with
  | [s1, s2] => k ((sl.set i (some s1)).set j (some s2))
  | _ => False
def wPar2 (i j : Nat) (wA : WpA) : WS := fun S P => wA S.sl S.cs (fun ss c => par2 i j ss S.sl fun sl' => P.nx ⟨sl', c⟩) (fun x c => P.ex x ⟨S.sl, c⟩)
theorem js_par2 (i j : Nat) (hN : X.N.Nodup) (ha : JA X T W [a, b] wA) (hi : X.N[i]? = some x := by rfl) (hj : X.N[j]? = some y := by rfl) (hij : i ≠ j := by decide)
    (hx : X.env.scope.names.lookup x = some .local := by rfl) (hy : X.env.scope.names.lookup y = some .local := by rfl) (hc : X.calm = true := by rfl)
    (hw : swappedStores [.Tuple [.Name x px, .Name y py] kt pt] (.Tuple [a, b] k2 pt2) X.env = pure (some [x, y]) := by rfl)
    (hs : swapsWithSole [.Tuple [.Name x px, .Name y py] kt pt] (.Tuple [a, b] k2 pt2) pos.line X.env = pure false := by rfl) : JS X T W n (.Assign [.Tuple [.Name x px, .Name y py] kt pt] (.Tuple [a, b] k2 pt2) pos) (wPar2 i j wA) := fun S P h =>
  weakS (ps_par hc hN hi hj hij hx hy ha hw hs) fun D σ H ⟨ad, F, hn, h0, q1, q2, q3, q4, q5⟩ => ⟨ad, F, S.sl, S.cs, _, _, h0, h, fun ss c vs H1 ad1 hR x1 h1 r1 => by
    unfold par2 at hR
    split at hR
    · match vs, r1 with
      | [v, w], r1 => exact ⟨v, w, rfl, q1 _ _ H1 ad1 (x1.s hn) (x1.le hn) ((h1.set r1.1 i).set r1.2.1 j) hR⟩
    · exact hR.elim, raz_of hn q5⟩
def par3 (i j l : Nat) (ss : List Sl) (sl : Sls) (k : Sls → Prop) : Prop := match ss with
  | [s1, s2, s3] => k (((sl.set i (some s1)).set j (some s2)).set l (some s3))
  | _ => False
def wPar3 (i j l : Nat) (wA : WpA) : WS := fun S P => wA S.sl S.cs (fun ss c => par3 i j l ss S.sl fun sl' => P.nx ⟨sl', c⟩) (fun x c => P.ex x ⟨S.sl, c⟩)
def unpW (ps : List Pat) (s : Sl) (cs : List Cell) (sl : Sls) (k : Sls → Prop) : Prop := match s with
  | .dat (.tup ds) => asgW (.tp ps) (.tup ds) sl k
  | s => wL cs s fun ds => asgW (.tp ps) (.tup ds) sl k
theorem pg_or {t1 t2 : TG} (h1 : PG X tg t1) (h2 : PG X tg t2) : PG X tg (fun v σ H Q => t1 v σ H Q ∨ t2 v σ H Q) := ⟨fun pins s σ H v u Q I r h => h.elim (h1.run pins s σ H v u Q I r) (h2.run pins s σ H v u Q I r)⟩
def wTupS (ps : List Pat) (w : WpE) : WS := fun S P => w S.sl S.cs (fun s c => unpW ps s c S.sl fun sl' => P.nx ⟨sl', c⟩) (fun x c => P.ex x ⟨S.sl, c⟩)
theorem js_tup {ps : List Pat} {k m : Nat} {tpos : Pos} (he : JE X T W e w) (hg : DGs X T es ps) (hn : (assignEach es X.env).length = m := by rfl) (hp : ps.length = m := by rfl) (hst : (assignEach es X.env).findIdx? (·.1) = none := by rfl) (hc : X.calm = true := by rfl)
    (hs : swapsWithSole [.Tuple es k tpos] e pos.line X.env = pure false := by rfl) (hw : swappedStores [.Tuple es k tpos] e X.env = pure none := by rfl)
    (h1 : (assignEach [.Tuple es k tpos] X.env).map (·.2) = [assign (.Tuple es k tpos) X.env] := by rfl) : JS X T W n (.Assign [.Tuple es k tpos] e pos) (wTupS ps w) := fun S P h =>
  weakS (ps_asg he (pg_or (dg_tup hc hg hn hp hst) (pg_unl (n := m) hc hg hn hst)) hs hw h1) fun D σ H ⟨ad, F, hn', h0, q1, q2, q3, q4, q5⟩ => ⟨ad, F, S.sl, S.cs, _, _, h0, h, fun s c v H1 ad1 hR x1 h1 r1 => by
    unfold unpW at hR
    split at hR
    · obtain ⟨sl', ha, hR⟩ := asgW_of hR
      exact .inl ⟨ad1, F, ⟨S.sl, c⟩, _, sl', h1, r1, ha, fun σ' _ h2 => q1 _ _ H1 ad1 (x1.s hn') (x1.le hn') h2 hR⟩
    · obtain ⟨ds, hL, hR⟩ := wL_of hR
      obtain ⟨sl', ha, hR⟩ := asgW_of hR
      have ha : asgPs ps ds S.sl = some sl' := ha
      obtain ⟨a, ws, rfl, e1, q0⟩ := rd_lst hL h1.hc r1
      exact .inr ⟨a, ws, rfl, SqL.of e1, by rw [q0.length, ← hp]; exact asgPs_len ha, ad1, F, ⟨S.sl, c⟩, ds, sl', h1, q0, ha, fun σ' _ h2 => q1 _ _ H1 ad1 (x1.s hn') (x1.le hn') h2 hR⟩, raz_of hn' q5⟩
def wAug (v : Nat) (w : WpE) (ow : W2) : WS := fun S P => match S.sl[v]? with
  | some (some s1) => w S.sl S.cs (fun s2 c => ow s1 s2 c fun s c' => P.nx ⟨S.sl.set v (some s), c'⟩) (fun x c => P.ex x ⟨S.sl, c⟩)
  | _ => False
def setLW (s : Sl) (i : Sl) (d : Sl) (cs : List Cell) (k : List Cell → Prop) : Prop := match s, i, d with
  | .cel j, .dat (.int i), .dat d => match cs[j]? with
    | some (.lst ds) => match ixN ds.length i with
      | some m => k (cs.set j (.lst (ds.set m d)))
      | none => False
    | _ => False
  | _, _, _ => False
def wSetL (we wo wx : WpE) : WS := fun S P => we S.sl S.cs (fun d c1 => wo S.sl c1 (fun s c2 => wx S.sl c2 (fun i c3 => setLW s i d c3 fun c4 => P.nx ⟨S.sl, c4⟩) (fun x c => P.ex x ⟨S.sl, c⟩)) (fun x c => P.ex x ⟨S.sl, c⟩)) (fun x c => P.ex x ⟨S.sl, c⟩)
theorem js_setL (he : JE X T W e we) (ho : JE X T W o wo) (hx : JE X T W ix wx)
    (ha : ∀ v, assign (.Subscript o ix p') X.env v = (do
      let ov ← holding [v] (eval o X.env)
      let iv ← holding [v, ov] (eval ix X.env)
      standAt p'
      holding [v, ov, iv] (setItem ov iv v)
      release [v, ov, iv] []) := by intro _; rfl)
    (hs : swapsWithSole [.Subscript o ix p'] e pos.line X.env = pure false := by rfl) (hw : swappedStores [.Subscript o ix p'] e X.env = pure none := by rfl)
    (h1 : (assignEach [.Subscript o ix p'] X.env).map (·.2) = [assign (.Subscript o ix p') X.env] := by rfl) : JS X T W n (.Assign [.Subscript o ix p'] e pos) (wSetL we wo wx) := fun S P h =>
  weakS (ps_asg he (pg_sub ho hx set_list ha) hs hw h1) fun D σ H ⟨ad, F, hn, h0, q1, q2, q3, q4, q5⟩ => ⟨ad, F, S.sl, S.cs, _, _, h0, h, fun d c1 v H1 ad1 hR1 x1 h1 r1 => ⟨ad1, F, S.sl, c1, _, _, h1, hR1, fun s c2 w H2 ad2 hR2 x2 h2 r2 => ⟨ad2, F, S.sl, c2, _, _, h2, hR2, fun i c3 z H3 ad3 hR3 x3 h3 r3 => by
    unfold setLW at hR3
    split at hR3
    · rename_i j ii dd
      split at hR3
      · rename_i ds hk
        split at hR3
        · rename_i m hm
          cases r3
          have r2' := SlRep.ext x3 r2
          obtain ⟨a, ea, rfl⟩ := r2'
          obtain ⟨vs, e1, q0⟩ := h3.hc.ce j a _ ea hk
          have rd : Rep T X.K (Mm ad3 F) H3 v dd := SlRep.ext (s := .dat dd) x3 (SlRep.ext (s := .dat dd) x2 r1)
          refine ⟨a, vs, ii, m, rfl, rfl, e1, by rw [q0.length]; exact hm, ?_⟩
          have kp : Kp (Mm ad3 F) H3 (Mm ad3 F) (upd H3 a (.lst (vs.set m v))) := fun b o e nn => ⟨by rw [upd_ne (fun z => nn (.inl (by rw [z]; exact List.mem_of_getElem? ea)))]; exact e, nn⟩
          obtain ⟨k4, x4⟩ := h3.hc.setc (o := .lst (vs.set m v)) (c := .lst (ds.set m dd)) ea ⟨_, upd_same, (q0.set rd m).kp kp⟩
          have x := x1.trans h1.hc (x2.trans h2.hc (x3.trans h3.hc x4))
          exact q1 _ _ _ ad3 (x.s hn) (x.le hn) (h3.to x4 k4) hR3
        · exact hR3.elim
      · exact hR3.elim
    · exact hR3.elim, ((raz_of hn q5).on x1 h1).on x2 h2⟩, (raz_of hn q5).on x1 h1⟩, raz_of hn q5⟩
end
def endJ (n : Nat) (s : Sl) (cs' : List Cell) : PJ := { nx := fun S => s = .dat .non ∧ S.cs.take n = cs', rt := fun r c => r = s ∧ c = cs' }
def ctOf (N ps : List Str) (w : Nat → WS) : Ct := fun args cs s cs' => args.length = ps.length ∧ w cs.length (st0 N args cs) (endJ cs.length s cs')
section
variable {T : Tab} {P : Program} {w : World} {K : PySem.W.Frag} {mg : Str → Option Value} {base : Heap} {x qual : Str} {st : Stmt} {f : Addr} {fd : FuncData} {N ps : List Str} {k : Nat} {ws : Nat → WS}
theorem fn_J (F : Fun K x qual st f fd) (Sc : FnScope N ps (defScope st))
    (body : ∀ cdv A outer sh H E, Room k (cx0 P w K mg base N qual st f cdv A outer sh H E).A → ∀ n, JSs (cx0 P w K mg base N qual st f cdv A outer sh H E) T W0 n (defBody st) (ws n)) : FnOk P w K mg base CX0 (k + 1) f fd ps (spC T K (ctOf N ps ws)) :=
  fn_ok F Sc (fun _ _ _ _ h => h.1) fun cdv A outer sh H E hr args cs s cs' h => body cdv A outer sh H E hr _ _ _ h.2
end
end Dl
namespace Dl
open PySem L2
def optW (o : Option Bool) (k : Bool → Prop) : Prop := match o with
  | some b => k b
  | none => False
theorem optW_of {o : Option Bool} {k : Bool → Prop} (h : optW o k) : ∃ b, o = some b ∧ k b := by
  unfold optW at h
  split at h
  · exact ⟨_, rfl, h⟩
  · exact h.elim
section
variable {X : Cx} {T : Tab} {W : WX} {n : Nat} {a b c e e2 o ix it tg : Expr} {es : List Expr} {pos apos p p2 p' : Pos} {wa wb we wo wx w : WpE} {wt : WpT} {wA : WpA} {x y z : Str} {u : String} {C2 : Addr}
def isiW (tb : String → Option Bool) (ob : Nat → Option Bool) (s : Sl) (k : Bool → Prop) : Prop := match s with
  | .dat (.obj n _) => optW (ob n) k
  | .dat d => match tyD d with
    | some t => optW (tb t) k
    | none => False
  | _ => False
def ObIs (K : PySem.W.Frag) (T : Tab) (c : Value) (ob : Nat → Option Bool) : Prop := ∀ n b, ob n = some b → ∃ C fn, T n = some (C, fn) ∧ IsiC K C ∧ PySem.W.kitOne K (.ref C) c = some b
def wRaise1 (m : Nat) (w : WpE) : WS := fun S P => w S.sl S.cs (fun s c => isDat s fun d => P.ex ⟨m, [d]⟩ ⟨S.sl, c⟩) (fun x c => P.ex x ⟨S.sl, c⟩)
theorem js_raise1 {m k : Nat} {f g : Str} {C fI : Addr} {fd : FuncData} {pos2 : Pos} (tk : Takes X W) (oc : OexC X.K C) (iC : PySem.W.findIn X.K (.ref C) "__init__" = some (some (.ref fI))) (tI : PySem.W.typeIn X.K (.ref fI) = some (.type "function"))
    (F1 : FnOk X.prog X.w X.K X.mg X.base CX0 k fI fd ["self", g] (spE1 C f)) (hr : Room (k + 1) X.A) (hb : Binds X.K fd ["self", g] []) (hm : X.mg x = some (.ref C)) (hT : T m = some (C, [f])) (ha : JE X T W e w) (hc : X.calm = true := by rfl) (hg : Gl X x := by rfl)
    (hdb : (x == ("__debug__" : Str)) = false := by decide) (he : starEach [e] X.env = (false, eval e X.env) :: starEach [] X.env := by rfl) : JS X T W n (.Raise (some (.Call (.Name x p) [e] [] pos)) none pos2) (wRaise1 m w) := fun S P h =>
  weakS (ps_raise hc tk (pmk_oex oc iC tI F1 hr hb .nil pass0 hg hm (ja_cons ha ja_nil he) hdb he rfl)) fun D σ H ⟨ad, F, hn, h0, q1, q2, q3, q4, q5⟩ => ⟨ad, F, S.sl, S.cs, (fun ss c => match ss with
      | [s] => isDat s fun d => P.ex ⟨m, [d]⟩ ⟨S.sl, c⟩
      | _ => False), (fun x c => P.ex x ⟨S.sl, c⟩), h0, h, fun ss c1 vs H1 ad1 hR x1 h1 r1 => by
    match ss, vs, r1 with
    | [s], [v], r1 =>
      have hR' := isDat_of (s := s) hR
      clear hR
      obtain ⟨d, e0, hR⟩ := hR'
      subst e0
      refine ⟨by show 1 ≤ 1000; decide, fun a na => ⟨a, v, rfl, upd_same, fun dx ndx ne => ⟨rfl, dx, [(f, v)], upd_same, ?_, ?_, ?_⟩⟩⟩
      · rw [upd_ne ne, upd_same]
      · rw [upd_ne ne] at ndx; exact ndx
      · have n1 : H1 dx = none := by rw [upd_ne ne] at ndx; exact ndx
        have eH : upd (del (upd (upd (upd H1 a (exo a C none)) dx (exd dx [(f, v)])) a (exo a C (some dx))) a) dx (.xd [(f, v)]) = upd H1 dx (.xd [(f, v)]) := by
          funext b
          by_cases hb : b = dx
          · rw [hb, upd_same, upd_same]
          · rw [upd_ne hb, upd_ne hb]
            by_cases hba : b = a
            · rw [hba, del_same, na]
            · rw [del_ne hba, upd_ne hba, upd_ne hb, upd_ne hba]
        rw [eH]
        obtain ⟨c3, x3⟩ := h1.hc.newo (o := .xd [(f, v)]) n1
        have hn1 := x1.le hn
        exact q5 ⟨m, [d]⟩ ⟨S.sl, c1⟩ (.ref C) (some dx) σ _ ad1 ((x1.trans h1.hc x3).s hn) hn1 (h1.to x3 c3) ⟨C, [f], hT, rfl, .inr ⟨dx, [v], rfl, h1.hc.new n1, upd_same, rfl, .cons (Rep.kp x3.kp r1.1) .nil⟩⟩ hR, raz_of hn q5⟩
end
section
variable {X : Cx} {T : Tab} {a C Ce : Addr} {oe : Obj} {d : Option Addr} {pn : List (Addr × Obj)} {e e2 : Expr} {pos p : Pos} {m : Nat} {fn : List Str} {w w2 : WpE} {f : Str}
end
end Dl
namespace Dl
open PySem L2
open PySem.W in
theorem kit_cls {K : Frag} {C : Addr} {t : Value} {b : Bool} (hne : (t == .ref C) = false) (hd : hasDictIn K C = true) (ht : typeIn K (.ref C) = some (.type "type")) (h4 : subIn K t (.ref C) = some b) : kitOne K t (.ref C) = some b := by
  obtain ⟨cd, hc, _⟩ := any_some hd
  have e2 : ((clsIn K C).isSome && typeIn K (.ref C) == some (.type "type")) = true := by rw [hc, ht] <;> rfl
  show (if (t == .ref C) = true then some true else (if ((clsIn K C).isSome && typeIn K (.ref C) == some (.type "type")) = true then subIn K t (.ref C) else none)) = some b
  rw [hne, if_neg (by decide), if_pos e2]
  exact h4
section
variable {X : Cx} {T : Tab} {a C Ce : Addr} {oe : Obj} {d : Option Addr} {pn : List (Addr × Obj)} {e : Expr} {es : List Expr} {pos p tp q : Pos} {m : Nat} {w : WpE} {x : Str} {Cs : List Addr}
end
end Dl
namespace Dl
open PySem L2
theorem call_ {α β : Type} {c Q : α → β → Prop} {x : α} {y : β} (h : c x y) (q : Q x y) : ∃ x y, c x y ∧ Q x y := ⟨x, y, h, q⟩
theorem Br.tt {b : Bool} {p q : Prop} (h : b = true) (hp : p) : Br b p q := ⟨fun _ => hp, fun z => by rw [h] at z; cases z⟩
theorem Br.ff {b : Bool} {p q : Prop} (h : b = false) (hq : q) : Br b p q := ⟨fun z => (by rw [h] at z; cases z), fun _ => hq⟩
theorem Br.dec {c : Prop} [Decidable c] {p q : Prop} (h1 : c → p) (h2 : ¬ c → q) : Br (decide c) p q := ⟨fun h => h1 (of_decide_eq_true h), fun h => h2 (of_decide_eq_false h)⟩
theorem eqD_t {d e : D} (h : d = e) (ok : okD e = true) : eqD d e = true := by subst h; exact eqD_refl ok
theorem Br.ne {d e : D} {p q : Prop} (h : d = e) (ok : okD e = true) (hq : q) : Br (true.xor (eqD d e)) p q := Br.ff (by rw [eqD_t h ok]; rfl) hq
theorem pos_ {i j : Int} (h : 0 < j) : ModC i j := h
theorem szk (n : Nat) (h : n ≤ 16777216 := by decide) : n ≤ sizeLine := h
theorem sz {n : Nat} (h : n ≤ 16777216) : n ≤ sizeLine := h
theorem asgW_i {p : Pat} {d : D} {sl sl' : Sls} {k : Sls → Prop} (e : asgP p d sl = some sl') (h : k sl') : asgW p d sl k := by unfold asgW; rw [e]; exact h
theorem lcW_map {p : Pat} {we : WpE} {sl : Sls} {α : Type} (g f : α → D) {cs : List Cell} : ∀ {xs : List α} {R : List D → List Cell → Prop},
    (∀ x ∈ xs, ∃ sl', asgP p (g x) sl = some sl' ∧ ∀ R' : RV, R' (.dat (f x)) cs → we sl' cs R' noX) → R (xs.map f) cs → lcW p wYes we sl (xs.map g) cs R
  | [], R, _, h => h
  | x :: xs, R, hx, h => by
    obtain ⟨sl', e, h1⟩ := hx x List.mem_cons_self
    exact asgW_i e ⟨fun _ => h1 _ (lcW_map (xs := xs) g f (fun y hy => hx y (List.mem_cons_of_mem _ hy)) h), fun z => nomatch z⟩
theorem forW_ind {p : Pat} {wb : WS} {P : PJ} (I : Sta → Prop) : ∀ (items : List D), (∀ d ∈ items, ∀ S, I S → ∀ nx' : Sta → Prop, (∀ S', I S' → nx' S') → asgW p d S.sl fun sl' => wb ⟨sl', S.cs⟩ { P with nx := nx', ct := nx', bk := P.nx }) → (∀ S, I S → P.nx S) → ∀ S, I S → forW p wb items S P
  | [], _, hd, S, hI => hd S hI
  | d :: ds, hs, hd, S, hI => hs d List.mem_cons_self S hI _ fun S' h' => forW_ind I ds (fun e he => hs e (List.mem_cons_of_mem _ he)) hd S' h'
theorem mem_range {lo : Int} {n : Nat} {d : D} (h : d ∈ rangeD lo n) : ∃ i : Nat, i < n ∧ d = .int (lo + i) := by
  unfold rangeD at h
  obtain ⟨i, hi, rfl⟩ := List.mem_map.mp h
  exact ⟨i, List.mem_range.mp hi, rfl⟩
abbrev B := Int × Int
abbrev bx (b : B) : Cell := .lst [.int b.1, .int b.2]
def tk (b : B) (m : Int) : Int := if 0 < b.1 then b.1 % m else ((b.2 * 69623 % 2147483647) * 2147483647 + (((b.2 * 69623 % 2147483647) * 48271 + 30103) % 2147483629 + 1)) / 8191 % m
def nx (b : B) (m : Int) : B := if 0 < b.1 then (b.1 / m, b.2) else (b.1, ((b.2 * 69623 % 2147483647) * 48271 + 30103) % 2147483629 + 1)
def Ok (b : B) : Prop := 0 ≤ b.2 ∧ b.2 < 2 ^ 32
theorem tk_p {b : B} {m : Int} (h : 0 < b.1) : tk b m = b.1 % m := if_pos h
theorem tk_n {b : B} {m : Int} (h : ¬ 0 < b.1) : tk b m = ((b.2 * 69623 % 2147483647) * 2147483647 + (((b.2 * 69623 % 2147483647) * 48271 + 30103) % 2147483629 + 1)) / 8191 % m := if_neg h
theorem nx_p {b : B} {m : Int} (h : 0 < b.1) : nx b m = (b.1 / m, b.2) := if_pos h
theorem nx_n {b : B} {m : Int} (h : ¬ 0 < b.1) : nx b m = (b.1, ((b.2 * 69623 % 2147483647) * 48271 + 30103) % 2147483629 + 1) := if_neg h
theorem Ok.nx {b : B} (h : Ok b) (m : Int) : Ok (nx b m) := by
  by_cases hp : 0 < b.1
  · rw [nx_p hp]; exact h
  · rw [nx_n hp]; constructor <;> dsimp only <;> omega
theorem tk_lo {b : B} {m : Int} (h : 0 < m) : 0 ≤ tk b m := by
  by_cases hp : 0 < b.1
  · rw [tk_p hp]; exact Int.emod_nonneg _ (by omega)
  · rw [tk_n hp]; exact Int.emod_nonneg _ (by omega)
theorem tk_hi {b : B} {m : Int} (h : 0 < m) : tk b m < m := by
  by_cases hp : 0 < b.1
  · rw [tk_p hp]; exact Int.emod_lt_of_pos _ h
  · rw [tk_n hp]; exact Int.emod_lt_of_pos _ h
theorem lg {m : Int} (h0 : 0 < m) (h : m < 2 ^ 200) : m.natAbs.log2 < 9000 := by
  rw [Nat.log2_lt (by omega)]
  have : m.natAbs < 2 ^ 200 := by omega
  exact Nat.lt_of_lt_of_le this (Nat.pow_le_pow_right (by decide) (by omega))
def feedC (ns : List Int) (k : Nat) : Int := if k < ns.length then ns.getD k 0 else if 0 < ns.length then 7919 * (k : Int) + 11 + ns.getD (k % ns.length) 0 % 2147483629 * 69623 else 7919 * (k : Int) + 11
def feedB (ns : List Int) (k : Nat) : B := (if 10 ^ 18 ≤ feedC ns k then feedC ns k else 0, (feedC ns k % 2147483629 + 104729 * (k : Int) + 1) ^ 5 % 2147483647 % 2147483646 + 1)
theorem feedB_ok (ns : List Int) (k : Nat) : Ok (feedB ns k) := by
  unfold Ok feedB
  constructor <;> dsimp only <;> omega
abbrev scD (ns : List Int) : D := .scr (ns.map D.int)
theorem atI_scr {ns : List Int} {k : Nat} (h : k < ns.length) : atI (ns.map D.int) (k : Int) = some (.int (ns.getD k 0)) := by
  refine atI_nat (j := k) ?_
  rw [List.getElem?_map, List.getElem?_eq_getElem h, List.getD_eq_getElem?_getD, List.getElem?_eq_getElem h]
  rfl
end Dl
namespace Dl
open PySem L2
section
variable {X : Cx} {T : Tab} {cs : List Cell} {s1 : Sl} {ds : List D}
end
section
variable {X : Cx} {T : Tab} {W : WX} {o e : Expr} {wo we : WpE} {pos apos : Pos}
end
end Dl
namespace PySem
end PySem
namespace PySem
end PySem
namespace Dl
open PySem L2
section
variable {X : Cx} {T : Tab} {W : WX} {e : Expr} {wA : WpA} {p pos tpos : Pos} {elts : List Expr} {kk : Nat}
end
end Dl
namespace Dl
open PySem L2
section
variable {X : Cx} {T : Tab} {W : WX} {e o : Expr} {es : List Expr} {kws : List Keyword} {pos apos p : Pos} {wo : WpE} {wA wK : WpA} {c : Ct} {cx : CtX} {k cn pn : Nat} {fd : FuncData} {ps ks : List Str} {m y : Str} {C g : Addr} {fn : List Str} {gg : List Value → List Value → List Value} {gV : List V → List V → List V} {fu : List D → List D → List D}
end
section
variable {T : Tab} {P : Program} {w : World} {K : PySem.W.Frag} {mg : Str → Option Value} {base : Heap} {x qual : Str} {st : Stmt} {f : Addr} {fd : FuncData} {N ps : List Str} {k : Nat} {ws : Nat → WS}
end
end Dl
namespace Dl
open PySem L2
section
variable {X : Cx} {T : Tab} {cs : List Cell}
theorem cmp_isBl {a b : Bool} : CmpD X T .Is (.dat (.bl a)) (.dat (.bl b)) cs (.dat (.bl (decide (a = b)))) cs := ⟨_, op_is_bl, fun ad F H v w Q c r1 r2 q => by
  cases r1
  cases r2
  exact ⟨_, _, rfl, rfl, q _ H ad .refl c Rep.bl⟩⟩
def isBW (neg : Bool) : W2 := fun s1 s2 cs R => match s1, s2 with
  | .dat (.bl a), .dat (.bl b) => R (.dat (.bl (neg.xor (decide (a = b))))) cs
  | _, _ => False
theorem jc_isB : JCmp X T .Is (isBW false) := fun s1 s2 cs R h => by
  unfold isBW at h
  split at h
  · exact ⟨_, _, cmp_isBl, by simpa using h⟩
  · exact h.elim
end
end Dl
namespace Dl
open PySem L2
section
open PySem.W
variable {M : Model} {prog : Program} {w : World} {A : Around} {E : Value → Shared → Prop} {s : Shared} {K : PySem.W.Frag} {x C f : Addr} {ox : Obj} {od : Option Obj} {b : Value}
end
end Dl
namespace Dl
open PySem L2
structure NeC (K : PySem.W.Frag) (C : Addr) : Prop where
  mr : PySem.W.mroIn K C (.type "object") = some true
  ne : PySem.W.findIn K (.ref C) "__ne__" = some (some (.builtin "object.__ne__"))
section
variable {X : Cx} {T : Tab} {C g : Addr} {fd : FuncData} {ps : List Str} {k cn : Nat} {c : Ct} {fn : List Str} {ds es : List D} {d : D} {cs : List Cell} {w2 : W2}
theorem call_lenO {sp : Sp} (G : FnOk X.prog X.w X.K X.mg X.base CX0 k g fd ps sp) (hr : Room (k + 1) X.A) (hb : Binds X.K fd ps []) (hs : PySem.W.findIn X.K (.ref C) "__len__" = some (some (.ref g))) (hf : PySem.W.isFn X.K (.ref g) = true) :
    CallR X (.builtin "len") (fun xs H Q => ∃ a dx fs, xs = [.ref a] ∧ H a = some (.ins C dx fs) ∧ sp [.ref a] H (fun v H' => ∃ n, v = .int n ∧ (0 ≤ n ∧ n < 2 ^ 63) ∧ Q (.int n) H') E0) := by
  intro pins s σ H xs us Q I r h
  obtain ⟨a, dx, fs, rfl, ea, hsp⟩ := h
  obtain ⟨u, rfl, ru⟩ := vals1 r
  cases (show u = Value.ref a from ru)
  obtain ⟨od, J⟩ := inst_get I ea
  obtain ⟨m, hF⟩ := I.fr
  refine PySem.W.len_K hF I.ok.mod.kin J hs hf (thn (run_in1 (us := [.ref a]) (vs := [.ref a]) G hr hb I (.cons rfl .nil) hsp) fun u s' z => ?_)
  obtain ⟨v, H', I', r, n, rfl, hn, q⟩ := z
  obtain ⟨t, e⟩ := (show ∃ t, u = Value.int n t from r)
  subst e
  exact ⟨hn, .int n, H', I'.kept (t' := s'.toks + 1) (fun b ob z => z), ⟨_, rfl⟩, q⟩
end
end Dl
namespace Dl
open PySem L2
section
variable {X : Cx} {T : Tab} {W : WX} {o : Expr} {kws : List Keyword} {pos apos p : Pos} {wo : WpE} {wK : WpA} {c : Ct} {cx : CtX} {k cn : Nat} {fd : FuncData} {ps ks : List Str} {m y : Str} {C g : Addr} {fn : List Str} {gV : List V → List V → List V} {fu : List D → List D → List D}
end
section
variable {X : Cx} {T : Tab} {W : WX} {e e2 e3 : Expr} {wA : WpA} {p pos tpos : Pos} {elts : List Expr} {kk : Nat}
end
end Dl
namespace Dl
open PySem L2
section
variable {X : Cx} {T : Tab} {W : WX} {n : Nat} {a b : Expr} {wA : WpA} {x y : Str} {px py pt pt2 pos : Pos} {kt k2 : Nat}
end
end Dl
namespace Dl
open PySem L2
structure OthC (K : PySem.W.Frag) (C : Addr) : Prop where
  a1 : PySem.W.subIn K (.type "NoneType") (.ref C) = some false
  a2 : PySem.W.subIn K (.type "bool") (.ref C) = some false
  a3 : PySem.W.subIn K (.type "int") (.ref C) = some false
  a4 : PySem.W.subIn K (.type "str") (.ref C) = some false
  a5 : PySem.W.subIn K (.type "tuple") (.ref C) = some false
  a6 : PySem.W.subIn K (.type "list") (.ref C) = some false
theorem OthC.of {K : PySem.W.Frag} {C : Addr} (h : OthC K C) {d : D} {t : String} (e : tyD d = some t) : PySem.W.subIn K (.type t) (.ref C) = some false := by
  cases d with
  | non => cases e; exact h.a1
  | bl _ => cases e; exact h.a2
  | int _ => cases e; exact h.a3
  | str _ => cases e; exact h.a4
  | tup _ => cases e; exact h.a5
  | lst _ => cases e; exact h.a6
  | scr _ => cases e; exact h.a6
  | obj _ _ => cases e
  | err _ _ _ _ => cases e
  | cls _ => cases e
  | dct _ _ => cases e
  | fn _ => cases e
  | dcn _ _ => cases e
section
open PySem.W
variable {prog : Program} {w : World} {A : Around} {E : Value → Shared → Prop} {s : Shared} {K : PySem.W.Frag} {x C f : Addr} {ox : Obj} {od : Option Obj} {b tb : Value}
end
section
variable {X : Cx} {T : Tab} {C g : Addr} {fd : FuncData} {ps : List Str} {k cn : Nat} {c : Ct} {fn : List Str} {ds es : List D} {d : D} {cs : List Cell} {w2 : W2} {t : String}
end
section
variable {X : Cx} {T : Tab} {W : WX} {e : Expr} {wa : WpE} {pos p1 p2 p3 : Pos} {k : Nat}
end
end Dl
namespace Dl
open PySem L2
section
variable {T : Tab} {K : PySem.W.Frag} {M M' : Addr → Prop} {H : Hp} {a : Addr} {xs : List V}
end
section
variable {X : Cx} {T : Tab} {W : WX} {e : Expr} {we : WpE} {pos p : Pos} {c : Ct} {k : Nat} {fd : FuncData} {ps : List Str} {y : Str} {C g : Addr} {fn : List Str} {cn : Nat}
end
section
variable {X : Cx} {T : Tab} {W : WX} {o : Expr} {wo : WpE} {pos apos : Pos}
end
end Dl
namespace Dl
open PySem L2
section
variable {X : Cx} {T : Tab} {W : WX} {e : Expr} {wt : WpT}
end
end Dl
namespace Dl
open PySem L2
section
open PySem.W PySem.Calls
variable {M : Model} {A : Around} {E : Value → Shared → Prop} {s : Shared} {pos : Pos} {x C : Addr} {ox : Obj} {Q : Value → Shared → Prop} {env : Env} {e : Expr} {rest : List Expr}
end
section
variable {X : Cx} {x : Str} {p pos : Pos} {e : Expr} {es : List Expr}
end
section
variable {X : Cx} {T : Tab} {W : WX} {x : Str} {p pos : Pos} {e : Expr} {es : List Expr} {wo : WpE} {wA : WpA} {C g : Addr} {k cn : Nat} {fd : FuncData} {ps : List Str} {c : Ct} {cx : CtX} {fn : List Str}
end
end Dl
namespace Dl
open PySem L2
section
variable {X : Cx} {T : Tab}
end
section
variable {X : Cx} {T : Tab} {W : WX} {a b : Expr} {wA : WpA} {p p2 pos pos2 : Pos}
end
end Dl
namespace HT
open PySem PySem.Spec PyProof.Rows
section
variable {prog : Program} {w : World} {A : Around} {E : Value → Shared → Prop} {s : Shared}
end
end HT
namespace Dl
open PySem L2 PySem.Spec PyProof.Rows
section
variable {X : Cx} {T : Tab} {W : WX} {e : Expr} {wa : WpE} {pos p1 p2 p3 : Pos} {k : Nat}
end
end Dl
namespace Dl
open PySem L2
section
variable {X : Cx} {T : Tab} {W : WX} {x : Str} {pos : Pos} {i : Int}
end
end Dl
namespace Dl
open PySem L2
section
variable {X : Cx} {T : Tab} {W : WX} {e : Expr} {es : List Expr} {kws : List Keyword} {pos p : Pos} {wA wK : WpA} {c : Ct} {cx : CtX} {k pn : Nat} {fd : FuncData} {ps ks : List Str} {y : Str} {C g : Addr} {fn : List Str} {cn : Nat} {gg : List Value → List Value → List Value} {gV : List V → List V → List V} {fu : List D → List D → List D}
theorem run_mkS {CX : CXT} {sp : Sp} {E : XK} {pins : List (Addr × Obj)} {σ : St} {H : Hp} {sh : Shared} {Q : VK} {us ws : List Value} {vs zs : List V} (M : Mk X.K C g) (G : FnOk X.prog X.w X.K X.mg X.base CX k g fd ps sp) (hr : Room (k + 1) X.A) (hb : KBn X.K fd ps (pn + 1) ks gg gV) (hx : PassesAt CX X σ E)
    (I : Inv X pins σ H sh) (r : Vals vs us) (rz : Vals zs ws) (l1 : vs.length = pn) (l2 : zs.length = ks.length)
    (h : ∀ a b, H a = none → H b = none → b ≠ a → sp (gV (.ref a :: vs) zs) (upd (upd H b (.own a)) a (.ins C b [])) (fun v H2 => v = .non ∧ Q (.ref a) H2) E) :
    wpAny (model X.prog X.w) X.A (call (.ref C) us (ks.zip ws)) (EP X pins σ Q) X.xe sh := by
  let n := sh.heap.objs.size
  have J := Inv.made (C := C) I
  have hs := h (n + 1) n (I.hok.fresh (Nat.le_succ n)) (I.hok.fresh (Nat.le_refl n)) (Nat.ne_of_lt (Nat.lt_succ_self n))
  have rs := hb.rel (show Vals (V.ref (n + 1) :: vs) (Value.ref (n + 1) :: us) from .cons rfl r) rz
  have bt := hb.to _ (Value.ref (n + 1) :: us) ws J.kIn (by rw [List.length_cons, ← r.length, l1]) (by rw [← rz.length]; exact l2)
  have run := G.run _ X.stack _ _ ⟨Value.ref (n + 1) :: us, ks.zip ws⟩ _ _ _ E (hr.make C us (ks.zip ws)) (J.env0.make C us (ks.zip ws)) bt rs hs
  refine wpAny_call (make_map (f := g) I.kIn M.makes M.init (beq_iff_eq.mp M.fn) (codeAny_mono run fun o s' z => ?_))
  match o, z with
  | .error v, z => exact hx pins _ _ v s' J z
  | .ok (.ret u), z =>
    obtain ⟨v, H', J', rv, rfl, q⟩ := J.after z
    exact ⟨rv, V.ref (n + 1), H', J', rfl, q⟩
  | .ok .next, z => exact z.elim
  | .ok .brk, z => exact z.elim
  | .ok .cont, z => exact z.elim
def tMkS (C : Addr) (n m : Nat) (sp : Sp) (gV : List V → List V → List V) (E : St → XK) (t tk : TA) : TE := fun σ H Q => t σ H fun vs H1 => tk σ H1 fun zs H2 => vs.length = n ∧ zs.length = m ∧ ∀ a b, H2 a = none → H2 b = none → b ≠ a →
  sp (gV (.ref a :: vs) zs) (upd (upd H2 b (.own a)) a (.ins C b [])) (fun v H3 => v = .non ∧ Q (.ref a) H3) (E σ)
theorem pe_mkS {CX : CXT} {sp : Sp} {E : St → XK} {t tk : TA} (M : Mk X.K C g) (G : FnOk X.prog X.w X.K X.mg X.base CX k g fd ps sp) (hr : Room (k + 1) X.A) (hg : Gl X y) (hm : X.mg y = some (.ref C)) (hb : KBn X.K fd ps (pn + 1) ks gg gV) (hx : ∀ σ, PassesAt CX X σ (E σ)) (ha : PA X (e :: es) t) (hkw : PK X kws tk)
    (hall : (backToKw pos (keywordEach kws X.env)).all (·.1.isSome) = true) (hks : (backToKw pos (keywordEach kws X.env)).filterMap (·.1) = ks) (hdb : (y == ("__debug__" : Str)) = false)
    (he : starEach (e :: es) X.env = (false, eval e X.env) :: starEach es X.env) (hpl : ((backTo pos (starEach (e :: es) X.env)).any (·.1) || (backToKw pos (keywordEach kws X.env)).any (·.1.isNone)) = false) :
    PE X (.Call (.Name y p) (e :: es) kws pos) (tMkS C pn ks.length sp gV E t tk) := by
  constructor
  intro pins sh σ H Q I h
  refine wpAny_Call_Name_kw (ld_glob I hg hm (PySem.W.callWith_KW (h₀ := X.base) I.ok.mod.kin M.kp hall (thn (ha.run pos pins sh σ H _ I h) fun us s1 z1 => ?_) hpl he) hdb)
  obtain ⟨vs, H1, I1, r1, q1⟩ := z1
  refine thn (hkw.run pos pins s1 σ H1 _ I1 q1) fun ws s2 z2 => ?_
  obtain ⟨zs, H2, I2, r2, l1, l2, q2⟩ := z2
  exact ⟨I2.kIn, by rw [hks]; exact run_mkS M G hr hb (hx σ) I2 r1 r2 l1 l2 q2⟩
end
end Dl
namespace Dl
open PySem L2 PySem.Spec PyProof.Rows
structure FnG (P : Program) (w : World) (K : PySem.W.Frag) (mg : Str → Option Value) (base : Heap) (C : CXT) (k : Nat) (f : Addr) (fd : FuncData) (ps : List Str) (sp : Sp) : Prop where
  ln : ∀ {vs : List V} {H : Hp} {Q : VK} {E : XK}, sp vs H Q E → vs.length = ps.length
  go : ∀ {A : Around} {fs : List Env} {s : Shared} {H : Hp} {as : Args} {us : List Value} {vs : List V} {Q : VK} {E : XK}, A.guards = some [] → Room k A → Env0 P w K mg base A fs s H → BindsTo s fd as (ps.zip us) → Vals vs us → sp vs H Q E →
    codeAny (model P w) A (.call (.ref f) as) (CR C fs P w H s Q E) s
section
variable {P : Program} {w : World} {K : PySem.W.Frag} {mg : Str → Option Value} {base : Heap} {C : CXT} {k : Nat} {f : Addr} {fd : FuncData} {ps N : List Str} {sp sp' : Sp}
theorem FnG.of (F : FnOk P w K mg base C k f fd ps sp) : FnG P w K mg base C k f fd ps sp := ⟨fun h => F.len _ _ _ _ h, fun _ hr e b v h => F.run _ _ _ _ _ _ _ _ _ hr e b v h⟩
theorem FnG.to (F : FnG P w K mg base C k f fd ps sp) (h : ∀ vs H Q E, sp' vs H Q E → sp vs H Q E) : FnG P w K mg base C k f fd ps sp' := ⟨fun q => F.ln (h _ _ _ _ q), fun g hr e b v q => F.go g hr e b v (h _ _ _ _ q)⟩
end
section
variable {T : Tab} {P : Program} {w : World} {K : PySem.W.Frag} {mg : Str → Option Value} {base : Heap} {x qual : Str} {st : Stmt} {f : Addr} {fd : FuncData} {N ps : List Str} {k : Nat} {ws : Nat → WS}
end
section
variable {X : Cx} {T : Tab} {W : WX} {e : Expr} {es : List Expr} {pos p : Pos} {wA : WpA} {c : Ct} {k : Nat} {f : Addr} {fd : FuncData} {ps : List Str} {y : Str} {sp : Sp} {E : XK}
end
section
variable {X : Cx} {T : Tab}
def okR (d : D) : Bool := d.plain && d.py.showable && !d.py.hasDict && decide (d.py.depth ≤ 60)
def rprD (d : D) : Str := d.py.shown
end
end Dl
namespace Dl
open PySem L2 PySem.Spec PyProof.Rows
section
variable {P : Program} {w : World} {K : PySem.W.Frag} {mg mb : Str → Option Value} {a : Addr} {s : Shared} {vs : List Value} {H : Hp}
end
end Dl
namespace Dl
open PySem L2
section
variable {prog : Program} {w : World} {A : Around} {E : Value → Shared → Prop} {s : Shared}
end
section
variable {X : Cx} {T : Tab} {C g : Addr} {fd : FuncData} {ps : List Str} {k cn : Nat} {c : Ct} {fn : List Str} {ds : List D} {d : D} {cs : List Cell}
end
end Dl
namespace Dl
open PySem L2
section
variable {X : Cx} {T : Tab} {W : WX} {kws : List Keyword} {pos p : Pos} {wK : WpA} {c : Ct} {k : Nat} {fd : FuncData} {ps ks : List Str} {y : Str} {C g : Addr} {fn : List Str} {cn : Nat} {gV : List V → List V → List V} {fu : List D → List D → List D}
end
end Dl
namespace Dl
open PySem L2
mutual
def wtD : D → Nat
  | .int i => i.natAbs.log2 + 3
  | .tup xs => wtDs xs + 3
  | .lst xs => wtDs xs + 3
  | .scr xs => wtDs xs + 3
  | .str x => (PySem.reprText x).length
  | _ => 5
def wtDs : List D → Nat
  | [] => 0
  | x :: xs => wtD x + 2 + wtDs xs
end
theorem lenText (i : Int) : (Str.ofString (toString i)).length ≤ i.natAbs.log2 + 3 := by
  have pos : ∀ v : Int, 0 ≤ v → (Str.ofString (toString v)).length ≤ v.natAbs.log2 + 1 := fun v hv => by
    refine PyProof.Rows.toString_length_le hv (Nat.succ_pos _) ?_
    have h1 : v.natAbs < 2 ^ (v.natAbs.log2 + 1) := Nat.lt_log2_self
    have h2 : 2 ^ (v.natAbs.log2 + 1) ≤ 10 ^ (v.natAbs.log2 + 1) := Nat.pow_le_pow_left (by decide) _
    have h3 : v.natAbs < 10 ^ (v.natAbs.log2 + 1) := Nat.lt_of_lt_of_le h1 h2
    have h4 : ((v.natAbs : Nat) : Int) < ((10 ^ (v.natAbs.log2 + 1) : Nat) : Int) := Int.ofNat_lt.mpr h3
    rw [Int.natCast_pow] at h4
    have h5 : ((v.natAbs : Nat) : Int) = v := by omega
    rw [h5] at h4
    exact h4
  rcases Int.lt_or_le i 0 with h | h
  · have := pos (0 - i) (by omega)
    rw [PyProof.Rows.len_text_neg h]
    have e : (0 - i).natAbs = i.natAbs := by omega
    rw [e] at this
    omega
  · have := pos i h
    omega
theorem piled_cons (t : Str) (ts : List Str) : PySem.piled (t :: ts) = t.length + 2 + PySem.piled ts := by simp [PySem.piled]
theorem textFrom_le : ∀ (ts : List Str) (k : Nat) (acc : Str), (PySem.textFrom k acc ts).length ≤ acc.length + PySem.piled ts
  | [], k, acc => by simp [PySem.textFrom]
  | t :: ts, k, acc => by
    have h := textFrom_le ts (k + 1) (acc ++ (if k > 0 then ", " else "" : String) ++ t)
    have e1 : (Str.ofString ", ").length = 2 := by decide
    have e2 : (Str.ofString "").length = 0 := by decide
    rw [piled_cons]
    refine Nat.le_trans h ?_
    have e3 : (acc ++ Str.ofString (if k > 0 then ", " else "" : String) ++ t).length ≤ acc.length + 2 + t.length := by
      rw [Str.length_append, Str.length_append]
      split <;> omega
    have e3' : (acc ++ (if k > 0 then ", " else "" : String) ++ t).length ≤ acc.length + 2 + t.length := e3
    omega
mutual
theorem shown_wt : ∀ d : D, d.py.shown.length ≤ wtD d
  | .non => by decide
  | .bl true => by decide
  | .bl false => by decide
  | .int i => lenText i
  | .str x => Nat.le_refl _
  | .tup xs => by
    have h := showns_wt xs
    have e1 : (Str.ofString "(").length = 1 := by decide
    have e2 : (Str.ofString ",)").length = 2 := by decide
    have e3 : (Str.ofString ")").length = 1 := by decide
    show (PySem.tupleText (PyData.shownAll (D.pys xs))).length ≤ wtDs xs + 3
    cases hx : PyData.shownAll (D.pys xs) with
    | nil => show (PySem.tupleText []).length ≤ _; exact Nat.le_trans (by decide : (PySem.tupleText []).length ≤ 3) (by omega)
    | cons t ts =>
      have hj := PySem.join_length_add (t :: ts) (by simp)
      rw [hx] at h
      unfold PySem.tupleText
      have e4 : (Str.ofString (if (t :: ts).length == 1 then ",)" else ")" : String)).length ≤ 2 := by split <;> omega
      have e5 : (Str.ofString "(" ++ Str.join (Str.ofString ", ") (t :: ts) ++ Str.ofString (if (t :: ts).length == 1 then ",)" else ")" : String)).length ≤ wtDs xs + 3 := by
        rw [Str.length_append, Str.length_append]
        have hj' : (Str.join (Str.ofString ", ") (t :: ts)).length + 2 = PySem.piled (t :: ts) := hj
        omega
      exact e5
  | .lst xs => by
    have h := showns_wt xs
    have h2 := textFrom_le (PyData.shownAll (D.pys xs)) 0 (Str.ofString "[")
    have e1 : (Str.ofString "[").length = 1 := by decide
    have e2 : (Str.ofString "]").length = 1 := by decide
    have e3 : (PySem.textFrom 0 (Str.ofString "[") (PyData.shownAll (D.pys xs)) ++ Str.ofString "]").length ≤ wtDs xs + 3 := by
      rw [Str.length_append]
      omega
    exact e3
  | .scr xs => by
    have h := showns_wt xs
    have h2 := textFrom_le (PyData.shownAll (D.pys xs)) 0 (Str.ofString "[")
    have e1 : (Str.ofString "[").length = 1 := by decide
    have e2 : (Str.ofString "]").length = 1 := by decide
    have e3 : (PySem.textFrom 0 (Str.ofString "[") (PyData.shownAll (D.pys xs)) ++ Str.ofString "]").length ≤ wtDs xs + 3 := by
      rw [Str.length_append]
      omega
    exact e3
  | .obj _ _ => by show (PyData.shown .none).length ≤ 5; decide
  | .err _ _ _ _ => by show (PyData.shown .none).length ≤ 5; decide
  | .cls _ => by show (PyData.shown .none).length ≤ 5; decide
  | .dct _ _ => by show (PyData.shown .none).length ≤ 5; decide
  | .fn _ => by show (PyData.shown .none).length ≤ 5; decide
  | .dcn _ _ => by show (PyData.shown .none).length ≤ 5; decide
theorem showns_wt : ∀ ds : List D, PySem.piled (PyData.shownAll (D.pys ds)) ≤ wtDs ds
  | [] => Nat.le_refl _
  | d :: ds => by
    have h1 := shown_wt d
    have h2 := showns_wt ds
    show PySem.piled (d.py.shown :: PyData.shownAll (D.pys ds)) ≤ wtD d + 2 + wtDs ds
    rw [piled_cons]
    omega
end
structure RN (k w : Nat) (d : D) : Prop where
  pl : d.plain = true
  sh : d.py.showable = true
  nd : d.py.hasDict = false
  dp : d.py.depth ≤ k
  wt : wtD d ≤ w
theorem RN.mono {k k' w w' : Nat} {d : D} (h : RN k w d) (hk : k ≤ k') (hw : w ≤ w') : RN k' w' d := ⟨h.pl, h.sh, h.nd, Nat.le_trans h.dp hk, Nat.le_trans h.wt hw⟩
theorem RN.int {i : Int} {n : Nat} (h : i.natAbs < 2 ^ n) (hn : n ≤ 1920) : RN 0 (n + 3) (.int i) := by
  have hl : i.natAbs.log2 < n ∨ i.natAbs = 0 := by
    rcases Nat.eq_zero_or_pos i.natAbs with z | z
    · exact .inr z
    · exact .inl ((Nat.log2_lt (by omega)).mpr h)
  have hl' : i.natAbs.log2 ≤ n ∧ i.natAbs.log2 < 1920 := by
    rcases hl with z | z
    · omega
    · rw [z]; exact ⟨Nat.zero_le _, by decide⟩
  exact ⟨rfl, decide_eq_true hl'.2, rfl, Nat.le_refl _, Nat.add_le_add_right hl'.1 3⟩
theorem rns {k w : Nat} : ∀ {xs : List D}, (∀ d ∈ xs, RN k w d) → D.plains xs = true ∧ PyData.showableAll (D.pys xs) = true ∧ PyData.hasDictAll (D.pys xs) = false ∧ PyData.depthAll (D.pys xs) ≤ k ∧ wtDs xs ≤ xs.length * (w + 2)
  | [], _ => ⟨rfl, rfl, rfl, Nat.zero_le _, Nat.zero_le _⟩
  | x :: xs, h => by
    obtain ⟨h1, h2, h3, h4, h5⟩ := rns (xs := xs) fun d hd => h d (List.mem_cons_of_mem _ hd)
    have hx := h x List.mem_cons_self
    refine ⟨?_, ?_, ?_, ?_, ?_⟩
    · show (x.plain && D.plains xs) = true
      rw [hx.pl, h1]; rfl
    · show (x.py.showable && PyData.showableAll (D.pys xs)) = true
      rw [hx.sh, h2]; rfl
    · show (x.py.hasDict || PyData.hasDictAll (D.pys xs)) = false
      rw [hx.nd, h3]; rfl
    · show max x.py.depth (PyData.depthAll (D.pys xs)) ≤ k
      exact Nat.max_le.mpr ⟨hx.dp, h4⟩
    · show wtD x + 2 + wtDs xs ≤ (xs.length + 1) * (w + 2)
      have := hx.wt
      rw [Nat.add_mul]
      omega
theorem RN.tup {k w m : Nat} {xs : List D} (h : ∀ d ∈ xs, RN k w d) (hm : xs.length ≤ m) : RN (k + 1) (m * (w + 2) + 3) (.tup xs) := by
  obtain ⟨h1, h2, h3, h4, h5⟩ := rns h
  exact ⟨h1, h2, h3, Nat.add_le_add_right h4 1, Nat.add_le_add_right (Nat.le_trans h5 (Nat.mul_le_mul_right _ hm)) 3⟩
theorem RN.lst {k w m : Nat} {xs : List D} (h : ∀ d ∈ xs, RN k w d) (hm : xs.length ≤ m) : RN (k + 1) (m * (w + 2) + 3) (.lst xs) := by
  obtain ⟨h1, h2, h3, h4, h5⟩ := rns h
  exact ⟨h1, h2, h3, Nat.add_le_add_right h4 1, Nat.add_le_add_right (Nat.le_trans h5 (Nat.mul_le_mul_right _ hm)) 3⟩
theorem RN.ok {k w : Nat} {d : D} (h : RN k w d) (hk : k ≤ 60) : okR d = true := by
  have := h.dp
  unfold okR
  rw [h.pl, h.sh, h.nd, decide_eq_true (show d.py.depth ≤ 60 by omega)]
  rfl
theorem RN.len {k w : Nat} {d : D} (h : RN k w d) (hw : w ≤ 16777216) : (rprD d).length ≤ sizeLine := Nat.le_trans (shown_wt d) (Nat.le_trans h.wt hw)
end Dl
namespace Dl
open PySem L2
section
variable {X : Cx}
end
section
variable {T : Tab} {K : PySem.W.Frag} {M M' : Addr → Prop} {H H' : Hp} {kvs kvs2 : List (Key × V)} {kds kds2 : List (Key × D)} {k : Key} {v : V} {d : D}
def KR (T : Tab) (K : PySem.W.Frag) (M : Addr → Prop) (H : Hp) (kvs : List (Key × V)) (kds : List (Key × D)) : Prop := kvs.map (·.1) = kds.map (·.1) ∧ Reps T K M H (kvs.map (·.2)) (kds.map (·.2))
theorem KR.kp (x : Kp M H M' H') (h : KR T K M H kvs kds) : KR T K M' H' kvs kds := ⟨h.1, h.2.kp x⟩
def hasK (kds : List (Key × D)) (k : Key) : Bool := kds.any fun p => decide (p.1 = k)
def getK (kds : List (Key × D)) (k : Key) : Option D := (kds.find? fun p => decide (p.1 = k)).map (·.2)
def putD (kds : List (Key × D)) (k : Key) (d : D) : List (Key × D) := if hasK kds k = true then kds.map (fun p => if p.1 = k then (p.1, d) else p) else kds ++ [(k, d)]
theorem KR.nil : KR T K M H [] [] := ⟨rfl, .nil⟩
theorem KR.inv {p : Key × V} (h : KR T K M H (p :: kvs) kds) : ∃ d r, kds = (p.1, d) :: r ∧ Rep T K M H p.2 d ∧ KR T K M H kvs r := by
  obtain ⟨h1, h2⟩ := h
  match kds, h1, h2 with
  | (j, d) :: r, h1, .cons a b =>
    have e : p.1 = j ∧ kvs.map (·.1) = r.map (·.1) := by simpa using h1
    exact ⟨d, r, by rw [e.1], a, e.2, b⟩
theorem KR.inv0 (h : KR T K M H [] kds) : kds = [] := by
  obtain ⟨h1, _⟩ := h
  cases kds with
  | nil => rfl
  | cons p r => cases h1
theorem KR.cons (r : Rep T K M H v d) (h : KR T K M H kvs kds) : KR T K M H ((k, v) :: kvs) ((k, d) :: kds) := ⟨by rw [List.map_cons, List.map_cons, h.1], .cons r h.2⟩
theorem KR.app (h : KR T K M H kvs kds) (h2 : KR T K M H kvs2 kds2) : KR T K M H (kvs ++ kvs2) (kds ++ kds2) := ⟨by rw [List.map_append, List.map_append, h.1, h2.1], by rw [List.map_append, List.map_append]; exact h.2.append h2.2⟩
theorem KR.len (h : KR T K M H kvs kds) : kvs.length = kds.length := by have := h.2.length; rw [List.length_map, List.length_map] at this; exact this
theorem KR.any (h : KR T K M H kvs kds) : (kvs.any fun p => decide (p.1 = k)) = hasK kds k := by
  have e1 : (kvs.any fun p => decide (p.1 = k)) = (kvs.map (·.1)).any fun j => decide (j = k) := by rw [List.any_map]; rfl
  have e2 : hasK kds k = (kds.map (·.1)).any fun j => decide (j = k) := by unfold hasK; rw [List.any_map]; rfl
  rw [e1, e2, h.1]
theorem KR.rep (r : Rep T K M H v d) : ∀ {kvs : List (Key × V)} {kds : List (Key × D)}, KR T K M H kvs kds → KR T K M H (kvs.map fun p => if p.1 = k then (p.1, v) else p) (kds.map fun p => if p.1 = k then (p.1, d) else p)
  | [], kds, h => by cases h.inv0; exact .nil
  | p :: kvs, kds, h => by
    obtain ⟨d', r', rfl, a, b⟩ := h.inv
    rw [List.map_cons, List.map_cons]
    by_cases e : p.1 = k
    · rw [if_pos e, if_pos (show ((p.1, d') : Key × D).1 = k from e)]
      exact .cons r (KR.rep r b)
    · rw [if_neg e, if_neg (show ¬ ((p.1, d') : Key × D).1 = k from e)]
      exact .cons (k := p.1) (v := p.2) a (KR.rep r b)
theorem KR.put (r : Rep T K M H v d) (h : KR T K M H kvs kds) : KR T K M H (putK kvs k v) (putD kds k d) := by
  unfold putK putD
  rw [h.any]
  split
  · exact h.rep r
  · exact h.app (.cons r .nil)
theorem KR.val : ∀ {kvs : List (Key × V)} {kds : List (Key × D)}, KR T K M H kvs kds → (getK kds k = none → valV kvs k = none) ∧ ∀ d, getK kds k = some d → ∃ v, valV kvs k = some v ∧ Rep T K M H v d
  | [], kds, h => by cases h.inv0; exact ⟨fun _ => rfl, fun d z => nomatch z⟩
  | p :: kvs, kds, h => by
    obtain ⟨d', r', rfl, a, b⟩ := h.inv
    obtain ⟨i1, i2⟩ := KR.val b
    by_cases e : p.1 = k
    · have g : getK ((p.1, d') :: r') k = some d' := by simp [getK, List.find?_cons, e]
      rw [g]
      exact ⟨(fun z => nomatch z), fun d z => by cases z; exact ⟨p.2, valV_pos e, a⟩⟩
    · have g : getK ((p.1, d') :: r') k = getK r' k := by simp [getK, List.find?_cons, e]
      rw [g, valV_neg e]
      exact ⟨i1, i2⟩
theorem KR.some (h : KR T K M H kvs kds) : (valV kvs k).isSome = hasK kds k := by rw [← valV_any, h.any]
theorem KR.zip {ks : List Key} {xs : List D} (h1 : kvs.map (·.1) = ks) (h2 : Reps T K M H (kvs.map (·.2)) xs) : KR T K M H kvs (ks.zip xs) := by
  have hl : ks.length = xs.length := by rw [← h2.length, ← h1, List.length_map, List.length_map]
  exact ⟨by rw [List.map_fst_zip (by omega)]; exact h1, by rw [List.map_snd_zip (by omega)]; exact h2⟩
end
section
variable {X : Cx} {T : Tab} {cs : List Cell}
end
section
variable {X : Cx} {T : Tab} {W : WX} {n : Nat} {e o i f ix : Expr} {pos p' apos cpos : Pos} {we wo wi wx wf : WpE}
end
section
variable {X : Cx} {T : Tab} {W : WX} {n : Nat}
end
end Dl
namespace Dl
open PySem L2
section
variable {T : Tab} {K : PySem.W.Frag} {F : Addr → Prop} {ad : List Addr} {H : Hp} {a : Addr} {o : Obj} {kvs : List (Key × V)}
end
section
variable {X : Cx} {tg : Expr}
end
section
variable {X : Cx} {T : Tab} {W : WX} {tg e : Expr} {w : WpE}
end
section
variable {T : Tab} {K : PySem.W.Frag} {W : WX} {p : Pat} {wi : WpI} {wt : WpT} {wk wv : WpE} {own : List Nat}
end
section
variable {X : Cx} {T : Tab} {W : WX} {n : Nat} {kx vx tg iter : Expr} {ifs : List Expr} {scope : Scope} {own : List (Str × Nat)} {p : Pat} {wi : WpI} {wt : WpT} {wk wv : WpE} {pos : Pos} {y : Str}
structure JDC (X : Cx) (T : Tab) (W : WX) (kx vx tg iter : Expr) (ifs : List Expr) (scope : Scope) (own : List (Str × Nat)) (wi : WpI) (p : Pat) (wt : WpT) (wk wv : WpE) : Prop where
  hi : JI X T W tg iter wi
  ok : BlkOk X.N X.env.scope scope own
  hg : InB X scope fun X' => DG X' T tg p
  ht : InB X scope fun X' => JTs X' T W0 ifs wt
  hk : InB X scope fun X' => JE X' T W0 kx wk
  he : InB X scope fun X' => JE X' T W0 vx wv
  hp : ∀ i ∈ slotsP p, i ∈ own.map (·.2)
end
end Dl
namespace Dl
open PySem L2
section
variable {X : Cx} {T : Tab} {W : WX} {n : Nat} {kx vx tg iter : Expr} {ifs : List Expr} {scope : Scope} {own : List (Str × Nat)} {p : Pat} {wi : WpI} {wt : WpT} {wk wv : WpE} {pos py : Pos} {y : Str}
end
section
variable {X : Cx} {T : Tab} {cs : List Cell} {s1 : Sl}
end
end Dl
namespace Dl
open PySem L2
section
variable {X : Cx} {T : Tab} {W : WX} {n cn : Nat} {C : Addr} {fn : List Str} {e o o1 o2 : Expr} {f g : Str} {pos p1 p2 tpos : Pos} {we wo1 wo2 : WpE} {ta : TE}
end
end Dl
namespace Dl
open PySem L2
section
variable {X : Cx} {T : Tab} {cs : List Cell}
end
end Dl
namespace Dl
open PySem L2
structure SmC (K : PySem.W.Frag) (C : Addr) (m : Str) (p f : Addr) : Prop where
  ga : PySem.W.specialIn K (.ref C) "__getattribute__" = some (some (.builtin "type.__getattribute__"))
  ty : PySem.W.typeIn K (.ref C) = some (.type "type")
  rd : PySem.W.readsIn K C (.type "type") = true
  fd : PySem.W.findCls K (.ref C) (.type "type") m = some (.get (.builtin "staticmethod.__get__") (.ref p) .none (.ref C))
  rc : ∃ rest, PySem.W.recIn K p "staticmethod" = some (.ref f :: rest)
section
variable {X : Cx} {x m : Str} {p1 p2 pos : Pos} {e : Expr} {es : List Expr} {kws : List Keyword} {C q f : Addr} {k : Nat} {fd : FuncData} {ps : List Str} {sp : Sp} {E : St → XK} {t tk : TA} {pl : Sem Bool} {CX : CXT}
end
section
variable {X : Cx} {T : Tab} {W : WX} {e : Expr} {es : List Expr} {kws : List Keyword} {pos p1 p2 : Pos} {wA wK : WpA} {c : Ct} {cx : CtX} {k : Nat} {fd : FuncData} {ps : List Str} {m y : Str} {C q f : Addr} {pl : Sem Bool}
end
section
variable {X : Cx} {T : Tab} {d : D} {ds : List D} {cs : List Cell}
end
end Dl
namespace Dl
open PySem L2
section
variable {X : Cx} {T : Tab} {W : WX} {c : Ct} {k cn : Nat} {fd : FuncData} {ps : List Str} {C g : Addr} {fn : List Str} {cs : List Cell} {ds : List D} {d : D}
end
end Dl
namespace Dl
open PySem L2
def TsO (x : Str) : Prop := ∀ c ∈ x.cps.toList, c < 0x110000
theorem TsO.ok {x : Str} (h : TsO x) : PyData.canLay0 (.str x) = true := by
  have e : PyData.strOk x = true := by
    unfold PyData.strOk
    rw [← Array.all_toList, List.all_eq_true]
    exact fun c hc => decide_eq_true (h c hc)
  simpa [PyData.canLay0] using e
theorem ts_str (s : String) : TsO (Str.ofString s) := by
  unfold TsO
  rw [Str.ofString_eq_toList]
  intro c hc
  obtain ⟨ch, _, rfl⟩ := List.mem_map.mp hc
  have := ch.valid
  show ch.val.toNat < 0x110000
  rcases this with h | h
  · exact Nat.lt_trans h (by decide)
  · exact h.2
theorem ts_app {a b : Str} (ha : TsO a) (hb : TsO b) : TsO (a ++ b) := by
  intro c hc
  rw [PySem.Str.cps_append, Array.toList_append, List.mem_append] at hc
  exact hc.elim (ha c) (hb c)
end Dl
namespace Dl
open PySem L2
section
variable {X : Cx} {T : Tab} {C C2 g : Addr} {fd : FuncData} {ps : List Str} {k cn cm : Nat} {c : Ct} {fn fm : List Str} {ds es : List D} {d : D} {cs : List Cell} {w2 : W2}
def PO (cn cm : Nat) (s1 s2 : Sl) : Bool := isO cn s1 && isO cm s2
end
end Dl
namespace Dl
open PySem L2
section
variable {X : Cx} {T : Tab} {W : WX} {e : Expr} {es : List Expr} {p : Pos} {w : WpE} {wA : WpA}
end
section
variable {T : Tab} {K : PySem.W.Frag} {M : Addr → Prop} {H : Hp}
end
section
variable {X : Cx} {T : Tab} {W : WX} {ad : List Addr} {F : Addr → Prop} {H : Hp} {cs : List Cell} {s1 : Sl} {ds : List D} {kds : List (Key × D)}
end
section
variable {X : Cx} {e : Expr} {te : TE} {p apos cpos pos : Pos}
end
section
variable {X : Cx} {T : Tab} {W : WX} {e : Expr} {p apos cpos pos : Pos} {we : WpE}
end
end Dl
namespace Dl
open PySem L2
section
open PySem.Spec PyProof.Rows
end
section
variable {X : Cx} {T : Tab} {ds : List D} {cs : List Cell}
end
end Dl
namespace Dl
open PySem L2
section
variable {X : Cx} {T : Tab} {W : WX} {o i : Expr} {pos : Pos} {wo wi : WpE}
end
section
variable {X : Cx} {T : Tab} {W : WX} {n : Nat} {e o ix : Expr} {pos p' : Pos} {we wo wx : WpE}
end
end Dl
namespace Dl
open PySem L2
section
variable {X : Cx} {T : Tab} {W : WX}
end
end Dl
namespace Dl
open PySem L2
end Dl
namespace Dl
open PySem L2 PySem.Spec PyProof.Rows
section
variable {X : Cx} {pins : List (Addr × Obj)} {σ : L2.St} {H : Hp} {s : Shared}
structure Made (H : Hp) (P f c : Addr) (F : LamF) (H1 : Hp) : Prop where
  keep : ∀ b o, b ≠ P → H b = some o → H1 b = some o
  tab : LamX.TabS H1 P F.q
  nf : H f = none
  fn : H1 f = some (LamO f F c)
  co : H1 c = some (LamX.CodeO c F.q)
end
section
variable {T : Tab} {K : PySem.W.Frag} {ad : List Addr} {Fm : Addr → Prop} {H H1 : Hp} {cs : List Cell} {P f c : Addr} {F : LamF}
end
section
variable {X : Cx} {T : Tab} {W : WX} {F : LamF} {c P : Addr} {pos : Pos} {ps : Arguments} {b : Expr} {sc : Scope}
end
structure LamOk (P : Program) (w : World) (K : PySem.W.Frag) (mg : Str → Option Value) (base : Heap) (k : Nat) (n : Nat) (F : LamF) (sp : Sp) : Prop where
  ln : ∀ {vs : List V} {H : Hp} {Q : VK} {E : XK}, sp vs H Q E → vs.length = n
  go : ∀ {A : Around} {fs : List Env} {s : Shared} {H : Hp} {us : List Value} {vs : List V} {Q : VK} {f c : Addr}, Room k A → Env0 P w K mg base A fs s H → H f = some (LamO f F c) → H c = some (LamX.CodeO c F.q) → Vals vs us → sp vs H Q E0 →
    codeAny (model P w) A (.call (.ref f) ⟨us, []⟩) (CR CX0 fs P w H s Q E0) s
section
variable {P : Program} {w : World} {K : PySem.W.Frag} {mg : Str → Option Value} {base : Heap} {k : Nat} {ps N : List Str} {sp : Sp} {F : LamF}
end
section
variable {T : Tab} {P : Program} {w : World} {K : PySem.W.Frag} {mg : Str → Option Value} {base : Heap} {k : Nat} {ps N : List Str} {F : LamF} {we : WpE}
end
end Dl
namespace Dl
open PySem L2 PySem.Spec PyProof.Rows
section
variable {X : Cx} {F : LamF} {x : Str} {p pos : Pos} {e : Expr} {es : List Expr} {n k : Nat} {sp : Sp}
end
section
variable {X : Cx} {T : Tab} {W : WX} {F : LamF} {x : Str} {p pos : Pos} {e : Expr} {es : List Expr} {n k : Nat} {c : Ct} {wo : WpE} {wA : WpA}
end
section
variable {X : Cx} {T : Tab} {W : WX} {ad : List Addr} {F : Addr → Prop} {H : Hp} {cs : List Cell} {kds : List (Key × D)} {pos p1 p2 : Pos} {i : Int} {b : Bool} {k1 k2 : Nat}
end
section
variable {X : Cx} {T : Tab} {W : WX} {ad : List Addr} {F : Addr → Prop} {H : Hp} {cs : List Cell} {kds : List (Key × D)} {s1 : Sl}
end
section
variable {T : Tab} {K : PySem.W.Frag} {F : Addr → Prop} {ad : List Addr} {H : Hp} {a : Addr} {o : Obj} {kvs : List (Key × V)}
end
section
variable {X : Cx} {T : Tab} {W : WX} {e : Expr} {w : WpE} {elts : List Expr} {kk : Nat} {tpos apos cpos : Pos}
end
end Dl
namespace Dl
open PySem L2 PySem.Spec PyProof.Rows
section
variable {T : Tab} {P : Program} {w : World} {K : PySem.W.Frag} {mg : Str → Option Value} {base : Heap} {nm qual : Str} {st : Stmt} {f c : Addr} {N ps : List Str} {k : Nat} {ws : Nat → WS} {dV kV doc pm ct oc : Value} {an od : Option Addr} {osl : Array (Option Value)} {fd : FuncData}
structure FunC (K : PySem.W.Frag) (nm qual : Str) (st : Stmt) (f c : Addr) (fd : FuncData) : Prop where
  ex : ∃ (dV kV doc pm ct oc : Value) (an od : Option Addr) (osl : Array (Option Value)), fd = PySem.W.fnOf nm qual (defArgs st) (defBody st) (defScope st) dV kV doc pm an (.ref c) ct ∧ K.lookup f = some ⟨oc, od, .func fd, osl⟩ ∧ PySem.W.codeIn K (.ref c) qual = true
end
section
variable {P : Program} {w : World} {K : PySem.W.Frag} {mg mb : Str → Option Value} {a c Tp : Addr} {s : Shared} {vs : List Value} {H : Hp}
end
end Dl
namespace Dl
open PySem L2 PySem.Spec PyProof.Rows
end Dl
namespace Dl
open PySem L2
section
variable {X : Cx} {T : Tab} {W : WX} {y : Str} {p pos : Pos} {kws : List Keyword} {f : Addr} {k : Nat} {fd : FuncData} {ps : List Str} {sp : Sp} {t : TA} {c : Ct} {wK : WpA}
end
end Dl
namespace Dl
open PySem L2
section
variable {X : Cx} {T : Tab} {W : WX} {n : Nat} {e it tg : Expr} {pos : Pos} {w : WpE} {body : List Stmt} {pa : Pat}
end
end Dl
namespace L2
open PySem PySem.Spec PyProof.Rows
section
variable {X : Cx} {a b c e : Expr} {ta : TA} {p p2 pos pos2 : Pos}
end
end L2
namespace Dl
open PySem L2
section
variable {X : Cx} {T : Tab} {W : WX} {a b c : Expr} {wA : WpA} {p p2 pos pos2 : Pos}
end
end Dl
namespace Dl
open PySem L2
section
variable {X : Cx} {T : Tab} {W : WX} {e o : Expr} {wa we wo : WpE} {pos apos p2 : Pos}
theorem slc_S {x : Str} {lo hi : Option Int} {cs : List Cell} (hl : x.length ≤ sizeLine) : SlcD X T (.dat (.str x)) lo hi cs (.dat (.str (cutS x lo hi))) cs := ⟨_, sl_str, fun ad F H v Q c r1 q => by
  cases r1
  exact ⟨x, rfl, hl, q _ H ad .refl c Rep.str⟩⟩
def slcSW (s1 : Sl) (l u : Option Int) (cs : List Cell) (R : RV) : Prop := match s1 with
  | .dat (.str x) => x.length ≤ sizeLine ∧ R (.dat (.str (cutS x l u))) cs
  | s1 => slcW s1 l u cs R
theorem slcSW_of {s1 : Sl} {l u : Option Int} {cs : List Cell} {R : RV} (h : slcSW s1 l u cs R) : ∃ s, SlcD X T s1 l u cs s cs ∧ R s cs := by
  unfold slcSW at h
  split at h
  · exact ⟨_, slc_S h.1, h.2⟩
  · exact slcW_of h
theorem cb_strI {i : Int} {cs : List Cell} (h : i.natAbs.log2 < 1920) : CalB X T "str" [.dat (.int i)] cs (.dat (.str (toString i))) cs := ⟨_, _, by decide +kernel, .inr ⟨_, rfl⟩, call_str_int, fun ad F H vs Q c r q => by
  match vs, r with
  | [v], r =>
    have r1 := r.1
    cases r1
    exact ⟨i, rfl, h, q _ H ad .refl c Rep.str⟩⟩
def strW1 : WC := fun ss cs R => match ss with
  | [.dat (.int i)] => i.natAbs.log2 < 1920 ∧ R (.dat (.str (toString i))) cs
  | _ => False
theorem jc_str : JCall X T "str" strW1 := ⟨⟨.type "str", by decide +kernel, .inr ⟨_, rfl⟩⟩, fun ss cs R h => by
  unfold strW1 at h
  split at h
  · exact ⟨_, _, cb_strI h.1, h.2⟩
  · exact h.elim⟩
inductive JP (X : Cx) (T : Tab) (W : WX) : List Expr → List WpE → Prop where
  | nil : JP X T W [] []
  | cons {e : Expr} {w : WpE} {es : List Expr} {ws : List WpE} (h : JE X T W e w) (r : JP X T W es ws) : JP X T W (e :: es) (w :: ws)
end
end Dl
namespace L2
open PySem PySem.Spec PyProof.Rows
section
variable {X : Cx} {e o : Expr} {es : List Expr} {st : Stmt} {rest : List Stmt} {t u : TS} {te to : TE} {ta : TA} {pos apos cp : Pos}
end
end L2
namespace Dl
open PySem L2
section
variable {X : Cx} {T : Tab} {W : WX} {n : Nat} {e o : Expr} {es : List Expr} {wA : WpA} {w we wo : WpE} {st : Stmt} {rest : List Stmt} {w1 w2 : WS} {pos apos cp lp p' : Pos} {x : Str}
end
end Dl
namespace L2
open PySem PySem.Spec PyProof.Rows
section
variable {X : Cx}
end
end L2
namespace Dl
open PySem L2
section
variable {X : Cx} {T : Tab} {W : WX} {n : Nat} {a b e o tg it : Expr} {es body : List Expr} {wa wb w we wo : WpE} {wA : WpA} {st : Stmt} {rest : List Stmt} {w1 w2 : WS} {pos apos cp lp p' : Pos} {x : Str} {pa : Pat} {wi : WpI}
end
end Dl
namespace Dl
open PySem L2
open PySem.W in
theorem kit_tyb {K : Frag} {C : Addr} {u : String} {b : Bool} (hm : kitMeta u = true) (h4 : subIn K (.ref C) (.type u) = some b) : kitOne K (.ref C) (.type u) = some b := by
  show (if ((Value.ref C) == .type u) = true then some true else (if kitMeta u = true then subIn K (.ref C) (.type u) else none)) = some b
  rw [show ((Value.ref C) == .type u) = false from rfl, if_neg (by decide), if_pos hm]
  exact h4
section
variable {X : Cx} {T : Tab} {a Ce : Addr} {oe : Obj} {d : Option Addr} {pn : List (Addr × Obj)} {e : Expr} {pos p p2 : Pos} {m : Nat} {w : WpE} {x : Str} {u : String}
end
end Dl
namespace Dl
open PySem L2 PySem.Spec PyProof.Rows PySem.W PySem.Calls PySem.HandSPX
inductive Tl (t : List Value) : List Value → Prop
  | base : Tl t t
  | ref {c : Addr} {r : List Value} : Tl t r → Tl t (.ref c :: r)
structure TlF (t : List Value) (nid : String) : Prop where
  new : ∃ B iN bN, ExcBaseFacts B nid iN bN ∧ t.contains (.type B) = true
  noA : t.contains (.type "AttributeError") = false
  noN : t.contains (.type "NameError") = false
  obj : t.contains (.type "object") = true
  ne : t.isEmpty = false
  pass : ∀ self : Value, refuseLoop self "__setattr__" t = pure ()
theorem Tl.has {t l : List Value} (h : Tl t l) (X : String) : l.contains (.type X) = t.contains (.type X) := by
  induction h with
  | base => rfl
  | ref _ ih => rw [List.contains_cons, ih] <;> rfl
theorem Tl.full {t l : List Value} (h : Tl t l) (n : t.isEmpty = false) : l.isEmpty = false := by
  cases h with
  | base => exact n
  | ref _ => rfl
structure IniF (B iid : String) : Prop where
  slot : Slot B "__init__" iid
  entry : entryFor table iid = some Builtin.«BaseException.__init__»
  split : splitId iid = some (B, "__init__")
  kind : builtinKind iid = some .slot
  row : Manifest.signature? iid = some ⟨.positional, "*", B, .self, [⟨"args", .varPos, false⟩]⟩
  star : (B != "*") = true
section
variable {prog : Program} {w : World} {A : Around} {E : Value → Shared → Prop} {R : Result → Shared → Prop} {h : Heap} {g : Array GenState} {dr : Drawn} {tk : Nat} {os : OsState}
variable {nm q : Str} {C N : Addr} {bs bm t : List Value} {hdct : Bool} {sn : List Str} {sub : List Value} {ab : Bool} {col : Option Bool} {dd : Option Addr} {k0 k1 k2 k3 k5 : Option Value} {nid iid B : String}
end
end Dl
namespace Dl
open PySem L2
structure OexB (K : PySem.W.Frag) (C : Addr) (t : List Value) (nid : String) : Prop where
  cls : ∃ nm q N bs bm sn sub ab col dd k0 k1 k2 k3 k5, K.lookup C = some (excClassObj nm q C N bs bm true sn sub ab col dd k0 k1 k2 k3 k5 nid) ∧ Tl t bm
  sa : PySem.W.findIn K (.ref C) "__setattr__" = some (some (.builtin "object.__setattr__"))
  exC : PySem.W.subIn K (.ref C) (.type "BaseException") = some true
  tyC : PySem.W.typeIn K (.ref C) = some (.type "type")
  kC : PySem.W.keepIn K (.ref C) = true
section
open Builtin Builtin.ObjectAttr PySem.W
variable {prog : Program} {w : World} {A : Around} {E : Value → Shared → Prop} {R : Result → Shared → Prop} {hp : Heap} {g : Array GenState} {dr : Drawn} {t : Nat} {os : OsState}
variable {K : Frag} {name : Str} {tk : Tok} {v : Value} {x C : Addr} {fv : Array Value} {cd : ClassData} {tl : List Value} {nid : String}
end
section
open PySem.Spec PyProof.Rows
variable {X : Cx} {pins : List (Addr × Obj)} {σ : L2.St} {H : Hp} {s : Shared} {a C dx : Addr} {f : Str} {y : V} {u : Value} {fs : List (Str × V)} {Q : Unit → Shared → Prop} {E : Value → Shared → Prop} {A : Around} {tl : List Value} {nid iid B : String}
end
section
open PySem.Spec PyProof.Rows
variable {X : Cx} {o e : Expr} {es : List Expr} {to te : TE} {ta : TA} {f x : Str} {p p' p1 p2 pos : Pos} {tl : List Value} {nid iid B : String}
structure BiC (K : PySem.W.Frag) (x : Str) (B iid : String) : Prop where
  boot : bootBuiltins x = some (.type B)
  nm : x ≠ "__name__"
  db : (x == ("__debug__" : Str)) = false
  ty : typeOf (.type B) = pure (.type "type")
  st : Manifest.isStub B = false
  at_ : PySem.W.findCls K (.type B) (.type "type") "__init__" = some (.val (.builtin iid))
  hin : PySem.W.handedIn (.builtin iid) = true
end
end Dl
namespace Dl
open PySem L2
section
variable {X : Cx} {T : Tab} {W : WX} {x : Str} {C fI : Addr} {m k n : Nat} {fd : FuncData} {fs ps : List Str} {tl : List Value} {nid : String} {e : Expr} {es : List Expr} {p pos pos2 : Pos} {wA : WpA}
end
end Dl
namespace Dl
open PySem L2
end Dl
namespace Dl
open PySem L2
section
variable {X : Cx} {T : Tab} {W : WX} {kws : List Keyword} {pos p : Pos} {wK : WpA} {c : Ct} {cx : CtX} {k : Nat} {fd : FuncData} {ps ks : List Str} {y : Str} {C g : Addr} {fn : List Str} {cn : Nat} {gg : List Value → List Value → List Value} {gV : List V → List V → List V} {fu : List D → List D → List D}
end
end Dl
namespace Dl
open PySem L2
section
variable {X : Cx} {T : Tab} {W : WX} {C g : Addr} {fd : FuncData} {ps : List Str} {k cn : Nat} {c : Ct} {fn : List Str} {e : Expr} {w : WpE}
end
end Dl
namespace Dl
open PySem L2
section
variable {X : Cx} {T : Tab} {W : WX} {n : Nat} {x : Str} {cv : Value} {body suite : List Stmt} {b0 : Stmt} {np pos pos' : Pos} {mt : Nat → Option Bool} {wb ws : WS}
end
section
variable {X : Cx} {T : Tab} {W : WX} {o e : Expr} {wo we : WpE} {pos apos p : Pos}
end
end Dl
namespace Dl
open PySem L2
section
variable {X : Cx} {pins : List (Addr × Obj)} {σ : St} {H : Hp} {s : Shared} {T : Tab} {M : Addr → Prop}
def KeyAt (K : PySem.W.Frag) (H : Hp) (v : V) (k : NestedKey) : Prop := ∀ (X : Cx) (pins : List (Addr × Obj)) (σ : St) (s : Shared) (u : Value), X.K = K → Inv X pins σ H s → RelV v u → NestedIs s.heap k u
mutual
theorem nk_is (I : Inv X pins σ H s) : ∀ (d : D) {v : V} {u : Value} {k : NestedKey}, Rep T X.K M H v d → nkD d = some k → RelV v u → NestedIs s.heap k u
  | .int i, v, u, k, r, h, rv => by
    cases r
    obtain ⟨t, e⟩ := (show ∃ t, u = Value.int i t from rv)
    cases h
    subst e
    exact .int i t
  | .tup ds, v, u, k, r, h, rv => by
    cases r with
    | @tup a vs _ h1 h2 =>
      cases (show u = Value.ref a from rv)
      obtain ⟨its, rl, ⟨o, z1, z2, n, z3⟩, _⟩ := I.tuple h1.sq
      cases hg : nkD.go ds with
      | none =>
        have h : (nkD.go ds).map NestedKey.tup = some k := h
        rw [hg] at h
        cases h
      | some ks =>
        have h : (nkD.go ds).map NestedKey.tup = some k := h
        rw [hg] at h
        cases h
        exact .tup z1 z2 z3 (nks_is I ds h2 hg rl)
  | .non, _, _, _, _, h, _ => nomatch h
  | .bl _, _, _, _, _, h, _ => nomatch h
  | .str _, _, _, _, _, h, _ => nomatch h
  | .lst _, _, _, _, _, h, _ => nomatch h
  | .obj _ _, _, _, _, _, h, _ => nomatch h
  | .scr _, _, _, _, _, h, _ => nomatch h
  | .err _ _ _ _, _, _, _, _, h, _ => nomatch h
  | .cls _, _, _, _, _, h, _ => nomatch h
  | .dct _ _, _, _, _, _, h, _ => nomatch h
  | .fn _, _, _, _, _, h, _ => nomatch h
  | .dcn _ _, _, _, _, _, h, _ => nomatch h
theorem nks_is (I : Inv X pins σ H s) : ∀ (ds : List D) {vs : List V} {us : List Value} {ks : List NestedKey}, Reps T X.K M H vs ds → nkD.go ds = some ks → Vals vs us → NestedAll s.heap ks us
  | [], vs, us, ks, r, h, rv => by
    cases r
    cases h
    cases rv
    exact .nil
  | d :: ds, vs, us, ks, r, h, rv => by
    cases r with
    | cons r1 r2 =>
      cases rv with
      | cons v1 v2 =>
        cases h1 : nkD d with
        | none => simp [nkD.go, h1] at h
        | some k =>
          cases h2 : nkD.go ds with
          | none => simp [nkD.go, h1, h2] at h
          | some l =>
            simp [nkD.go, h1, h2] at h
            subst h
            exact .cons (nk_is I d r1 h1 v1) (nks_is I ds r2 h2 v2)
end
theorem KeyAt.of {K : PySem.W.Frag} {v : V} {d : D} {k : NestedKey} (r : Rep T K M H v d) (h : nkD d = some k) : KeyAt K H v k := fun X pins σ s u e I rv => by
  subst e
  exact nk_is I d r h rv
end
section
variable {X : Cx} {pins : List (Addr × Obj)} {σ : St} {H : Hp} {s : Shared} {a b : Addr} {o : Obj} {xs : List (NestedKey × Addr × Value)} {k : NestedKey}
abbrev KeysAt (K : PySem.W.Frag) (H : Hp) (xs : List (NestedKey × Addr × Value)) : Prop := ∀ x ∈ xs, KeyAt K H (.ref x.2.1) x.1
end
section
variable {X : Cx} {e f o : Expr} {pos apos cpos : Pos} {td ty tx : TE}
end
end Dl
namespace Dl
open PySem L2
section
variable {X : Cx} {kx vx tg iter : Expr} {ifs : List Expr} {scope : Scope} {own : List (Str × Nat)} {pos : Pos} {wi : TI} {g : TG} {tt : TT} {tk tv : TE}
end
end Dl
namespace Dl
open PySem L2
def getN (kds : List (D × D)) (k : NestedKey) : Option D := (kds.find? fun p => decide (nkD p.1 = some k)).map (·.2)
def putN (kds : List (D × D)) (k : NestedKey) (kd d : D) : List (D × D) := if (kds.any fun p => decide (nkD p.1 = some k)) = true then kds.map (fun p => if nkD p.1 = some k then (p.1, d) else p) else kds ++ [(kd, d)]
section
variable {T : Tab} {K : PySem.W.Frag} {M M' : Addr → Prop} {H H' : Hp} {a b : Addr} {o : Obj} {kds : List (D × D)} {xs : List (NestedKey × Addr × Value)} {k : NestedKey} {v : V} {u : Value} {d kd : D}
abbrev NR1 (T : Tab) (K : PySem.W.Frag) (M : Addr → Prop) (H : Hp) (p : D × D) (x : NestedKey × Addr × Value) : Prop := Rep T K M H (.ref x.2.1) p.1 ∧ nkD p.1 = some x.1 ∧ ∃ v, RelV v x.2.2 ∧ Rep T K M H v p.2
abbrev NR (T : Tab) (K : PySem.W.Frag) (M : Addr → Prop) (H : Hp) : List (D × D) → List (NestedKey × Addr × Value) → Prop := Paired (NR1 T K M H)
theorem NR.kp (x : Kp M H M' H') (h : NR T K M H kds xs) : NR T K M' H' kds xs := by
  induction h with
  | nil => exact .nil
  | cons h t ih => exact .cons ⟨h.1.kp x, h.2.1, h.2.2.elim fun v z => ⟨v, z.1, z.2.kp x⟩⟩ ih
theorem NR.of : ∀ {xs : List (NestedKey × Addr × Value)} {kds : List (D × D)} {vs : List V}, Reps T K M H (xs.map fun x => V.ref x.2.1) (kds.map (·.1)) → (kds.map (·.1)).map nkD = xs.map (fun x => some x.1) → Vals vs (xs.map fun x => x.2.2) → Reps T K M H vs (kds.map (·.2)) → NR T K M H kds xs
  | [], [], _, _, _, _, _ => .nil
  | [], _ :: _, _, h, _, _, _ => by cases h
  | _ :: _, [], _, h, _, _, _ => by cases h
  | x :: xs, p :: kds, vs, h1, h2, h3, h4 => by
    cases h1 with
    | cons a1 a2 =>
      cases h3 with
      | cons b1 b2 =>
        cases h4 with
        | cons c1 c2 =>
          rw [List.map_cons, List.map_cons, List.map_cons] at h2
          injection h2 with e1 e2
          exact .cons ⟨a1, e1, _, b1, c1⟩ (NR.of a2 e2 b2 c2)
theorem NR.to : ∀ {xs : List (NestedKey × Addr × Value)} {kds : List (D × D)}, NR T K M H kds xs → Reps T K M H (xs.map fun x => V.ref x.2.1) (kds.map (·.1)) ∧ (kds.map (·.1)).map nkD = xs.map (fun x => some x.1) ∧ ∃ vs, Vals vs (xs.map fun x => x.2.2) ∧ Reps T K M H vs (kds.map (·.2)) := fun {xs kds} h => by
  induction h with
  | nil => exact ⟨.nil, rfl, [], .nil, .nil⟩
  | cons h t ih =>
    obtain ⟨i1, i2, vs, i3, i4⟩ := ih
    obtain ⟨h1, h2, v, h3, h4⟩ := h
    exact ⟨.cons h1 i1, by rw [List.map_cons, List.map_cons, List.map_cons, h2, i2], v :: vs, .cons h3 i3, .cons h4 i4⟩
theorem NR.keys (h : NR T K M H kds xs) : KeysAt K H xs := by
  induction h with
  | nil => exact fun _ z => nomatch z
  | cons h t ih =>
    intro x hx
    rcases List.mem_cons.mp hx with e | hx
    · rw [e]; exact KeyAt.of h.1 h.2.1
    · exact ih x hx
theorem NR.any (h : NR T K M H kds xs) : (kds.any fun p => decide (nkD p.1 = some k)) = (atKey xs k).isSome := by
  induction h with
  | nil => rfl
  | @cons p x ps xs h t ih =>
    by_cases e : x.1 = k
    · simp [atKey, h.2.1, e]
    · simpa [atKey, h.2.1, e] using ih
theorem NR.get (h : NR T K M H kds xs) : (getN kds k = none → atKey xs k = none) ∧ ∀ d, getN kds k = some d → ∃ b u v, atKey xs k = some (b, u) ∧ RelV v u ∧ Rep T K M H v d := by
  induction h with
  | nil => exact ⟨fun _ => rfl, fun d z => nomatch z⟩
  | @cons p x ps xs h t ih =>
    by_cases e : x.1 = k
    · have g : getN (p :: ps) k = some p.2 := by simp [getN, h.2.1, e]
      have g2 : atKey (x :: xs) k = some x.2 := by simp [atKey, e]
      rw [g, g2]
      obtain ⟨_, _, v, h3, h4⟩ := h
      exact ⟨(fun z => nomatch z), fun d z => by cases z; exact ⟨_, _, v, rfl, h3, h4⟩⟩
    · have g : getN (p :: ps) k = getN ps k := by simp [getN, h.2.1, e]
      have g2 : atKey (x :: xs) k = atKey xs k := by simp [atKey, e]
      rw [g, g2]
      exact ih
theorem NR.put (h : NR T K M H kds xs) (rk : Rep T K M H (.ref b) kd) (hk : nkD kd = some k) (rv : RelV v u) (rd : Rep T K M H v d) : NR T K M H (putN kds k kd d) (storedH xs k b u) := by
  unfold putN storedH
  rw [h.any]
  split
  · induction h with
    | nil => exact .nil
    | @cons p x ps xs h t ih =>
      rw [List.map_cons, List.map_cons]
      rename_i hs
      have rest : NR T K M H (ps.map fun p => if nkD p.1 = some k then (p.1, d) else p) (xs.map (putAt k u)) := by
        clear ih hs h
        induction t with
        | nil => exact .nil
        | @cons p x ps xs h t ih =>
          rw [List.map_cons, List.map_cons]
          refine .cons ?_ ih
          unfold putAt
          by_cases e : x.1 = k
          · rw [if_pos e, if_pos (by rw [h.2.1, e])]; exact ⟨h.1, h.2.1, v, rv, rd⟩
          · rw [if_neg e, if_neg (by rw [h.2.1]; exact fun z => e (Option.some.inj z))]; exact h
      refine .cons ?_ rest
      unfold putAt
      by_cases e : x.1 = k
      · rw [if_pos e, if_pos (by rw [h.2.1, e])]; exact ⟨h.1, h.2.1, v, rv, rd⟩
      · rw [if_neg e, if_neg (by rw [h.2.1]; exact fun z => e (Option.some.inj z))]; exact h
  · exact Paired.snoc h ⟨rk, hk, v, rv, rd⟩
theorem NR.len (h : NR T K M H kds xs) : kds.length = xs.length := Paired.length h
end
section
variable {X : Cx} {T : Tab} {W : WX} {n : Nat} {e o i f ix : Expr} {pos p' apos cpos : Pos} {we wo wi wx wf : WpE}
end
section
variable {T : Tab} {K : PySem.W.Frag} {F : Addr → Prop} {ad : List Addr} {H : Hp} {a : Addr} {o od : Obj} {xs : List (NestedKey × Addr × Value)} {vs : List V} {ks ds : List D}
end
section
variable {X : Cx} {T : Tab} {W : WX} {e : Expr} {w : WpE} {elts : List Expr} {kk : Nat} {tpos apos cpos : Pos}
end
end Dl
namespace Dl
open PySem L2
section
variable {T : Tab} {K : PySem.W.Frag} {W : WX} {p : Pat} {wi : WpI} {wt : WpT} {wk wv : WpE} {own : List Nat}
end
section
variable {X : Cx} {T : Tab} {W : WX} {n : Nat} {kx vx tg iter : Expr} {ifs : List Expr} {scope : Scope} {own : List (Str × Nat)} {p : Pat} {wi : WpI} {wt : WpT} {wk wv : WpE} {pos : Pos} {y : Str}
structure JDCN (X : Cx) (T : Tab) (W : WX) (kx vx tg iter : Expr) (ifs : List Expr) (scope : Scope) (own : List (Str × Nat)) (wi : WpI) (p : Pat) (wt : WpT) (wk wv : WpE) : Prop where
  hi : JI X T W tg iter wi
  ok : BlkOk X.N X.env.scope scope own
  hg : InB X scope fun X' => DG X' T tg p
  ht : InB X scope fun X' => JTs X' T W0 ifs wt
  hk : InB X scope fun X' => JE X' T W0 kx wk
  he : InB X scope fun X' => JE X' T W0 vx wv
  hp : ∀ i ∈ slotsP p, i ∈ own.map (·.2)
end
section
variable {X : Cx} {T : Tab} {W : WX} {n : Nat}
end
end Dl
namespace Dl
open PySem L2
section
variable {X : Cx} {T : Tab} {W : WX} {e : Expr} {we : WpE} {pos p : Pos} {c : Ct} {k : Nat} {fd : FuncData} {ps : List Str} {y : Str} {C g : Addr} {fn : List Str} {cn : Nat}
end
end Dl
namespace Dl
open PySem L2
def lkS (kds : List (Str × D)) (x : Str) : Option D := (kds.find? fun p => decide (p.1 = x)).map (·.2)
def StD (K : PySem.W.Frag) (v : V) (d : D) : Prop := ∀ T M H, Rep T K M H v d
structure KD (K : PySem.W.Frag) (w : World) (a : Addr) (kds : List (Str × D)) : Prop where
  dict : ∃ es n, KDict K w a es n
  vals : ∀ x, (∀ d, lkS kds x = some d → ∃ u v, PySem.W.nsIn K a x = some (some u) ∧ RelV v u ∧ StD K v d) ∧ (lkS kds x = none → PySem.W.nsIn K a x = some none)
section
variable {X : Cx} {T : Tab} {W : WX} {o e f : Expr} {wo we wf : WpE} {pos p apos cpos : Pos} {y : Str} {a : Addr} {kds : List (Str × D)} {es : Array DictEntry} {n : Nat}
end
inductive JDs (X : Cx) (T : Tab) (W : WX) : List Str → List (Option Expr) → List Expr → WpA → Prop where
  | nil : JDs X T W [] [] [] wNil
  | cons {x : Str} {k : Nat} {pos : Pos} {e : Expr} {we : WpE} {xs : List Str} {ks : List (Option Expr)} {es : List Expr} {wA : WpA} : JE X T W e we → JDs X T W xs ks es wA → JDs X T W (x :: xs) (some (.Constant (.str x) k pos) :: ks) (e :: es) (wCons we wA)
theorem JDs.len {X : Cx} {T : Tab} {W : WX} {xs : List Str} {ks : List (Option Expr)} {es : List Expr} {wA : WpA} (h : JDs X T W xs ks es wA) : ks.length = es.length ∧ ks.all (·.isSome) = true ∧ ks.length = xs.length := by
  induction h with
  | nil => exact ⟨rfl, rfl, rfl⟩
  | cons he hr ih => exact ⟨by rw [List.length_cons, List.length_cons, ih.1], by rw [List.all_cons, ih.2.1]; rfl, by rw [List.length_cons, List.length_cons, ih.2.2]⟩
section
variable {X : Cx} {T : Tab} {W : WX} {pos : Pos} {xs : List Str} {ks : List (Option Expr)} {es : List Expr} {wA : WpA}
end
end Dl
namespace Dl
open PySem L2
section
open PySem.SeqAt
open MeetsSeq MeetsSeq2 MeetsSeq3 SeqRoads2
variable {prog : Program} {w : World} {A : Around} {R : Result → Shared → Prop}
variable {E : Value → Shared → Prop} {s : Shared}
end
inductive EqL (E : D → D → Bool → Prop) : List D → List D → Bool → Prop where
  | nil : EqL E [] [] true
  | nilc {y : D} {ys : List D} : EqL E [] (y :: ys) false
  | cnil {x : D} {xs : List D} : EqL E (x :: xs) [] false
  | ne {x y : D} {xs ys : List D} : E x y false → EqL E (x :: xs) (y :: ys) false
  | cons {x y : D} {xs ys : List D} {b : Bool} : E x y true → EqL E xs ys b → EqL E (x :: xs) (y :: ys) b
section
variable {X : Cx} {T : Tab} {C g : Addr} {fd : FuncData} {ps : List Str} {k n m : Nat} {c : Ct} {fn : List Str} {E : D → D → Bool → Prop}
end
end Dl
namespace L2
open PySem PySem.Spec PyProof.Rows
section
variable {X : Cx} {x n : Str} {c : Value} {i : Nat} {body suite rest : List Stmt} {b₀ : Stmt} {np pos pos' : Pos} {tb : WX → TS} {ts t1 : Addr → Value → Option Addr → TS} {t0 : TS} {Wout : WX} {pins : List (Addr × Obj)} {σ : St} {H : Hp} {s : Shared}
end
end L2
namespace Dl
open PySem L2
section
variable {X : Cx} {T : Tab} {W : WX} {n : Nat} {x y : Str} {cv : Value} {body suite rest : List Stmt} {b0 : Stmt} {np pos pos' : Pos} {mt : Nat → Option Bool} {i : Nat} {wb wr : WS} {ws wx : Nat → Addr → Option Addr → WS}
end
section
variable {X : Cx} {T : Tab} {W : WX} {a C Ce : Addr} {oe : Obj} {d : Option Addr} {e e2 : Expr} {es : List Expr} {pos p p2 tp : Pos} {m kk : Nat} {fn : List Str} {w w2 : WpE} {f x : Str} {Cs : List Addr} {kb : Option Bool}
end
section
variable {X : Cx} {T : Tab} {W : WX} {e : Expr} {we : WpE}
end
theorem kbn_all {K : PySem.W.Frag} {fd : FuncData} {ps : List Str} {n : Nat} (hb : Binds K fd ps []) (hl : ps.length = n) : KBn K fd ps n [] (fun us _ => us) (fun us _ => us) :=
  ⟨fun s us ws X h1 h2 => by
    have := hb s us X (by simpa using h1.trans hl.symm)
    simpa using this, fun a _ => a⟩
end Dl
namespace Dl
open PySem L2
section
variable {X : Cx} {T : Tab} {cs : List Cell} {s1 : Sl} {ds : List D} {w2 : W2}
end
end Dl
namespace Dl
open PySem L2
section
variable {X : Cx} {T : Tab} {W : WX} {e e2 : Expr} {wA : WpA} {pos p tpos : Pos} {elts : List Expr} {kk : Nat}
end
end Dl
namespace Dl
open PySem L2
section
open PySem.SeqAt
open MeetsSeq MeetsSeq2 MeetsSeq3 SeqRoads2
end
section
open PySem.Spec PyProof.Rows
variable {X : Cx}
end
section
variable {X : Cx} {T : Tab} {W : WX} {o e : Expr} {wo we : WpE} {pos apos : Pos}
end
end Dl
namespace Dl
open PySem L2 PySem.Spec
open PyProof.Rows hiding St
abbrev Hdl := Value × Option Nat × (Addr → Value → Option Addr → TS)
inductive HdsM (X : Cx) : List ExceptHandler → List Hdl → Prop
  | nil : HdsM X [] []
  | anon {x : Str} {c : Value} {ts : Addr → Value → Option Addr → TS} {b₀ : Stmt} {suite : List Stmt} {np pos' : Pos} {hds : List ExceptHandler} {l : List Hdl} (hc : Names X x c)
      (hsu : ∀ (a : Addr) (oe : Obj) (cls : Value) (d : Option Addr) (pn : List (Addr × Obj)), Zc cls d oe → (∃ vs, oe.data = .fields vs) → PSs (X.suite a ((a, oe) :: pn)) (b₀ :: suite) (ts a cls d)) (r : HdsM X hds l) :
      HdsM X (.ExceptHandler (some (.Name x np)) none (b₀ :: suite) pos' :: hds) ((c, none, ts) :: l)
  | named {x n : Str} {i : Nat} {c : Value} {ts : Addr → Value → Option Addr → TS} {b₀ : Stmt} {suite : List Stmt} {np pos' : Pos} {hds : List ExceptHandler} {l : List Hdl} (hc : Names X x c) (hi : X.N[i]? = some n) (hln : X.env.kindOf n = some .local)
      (hsu : ∀ (a : Addr) (oe : Obj) (cls : Value) (d : Option Addr) (pn : List (Addr × Obj)), Zc cls d oe → (∃ vs, oe.data = .fields vs) → PSs (X.suite a ((a, oe) :: pn)) (b₀ :: suite) (ts a cls d)) (r : HdsM X hds l) :
      HdsM X (.ExceptHandler (some (.Name x np)) (some n) (b₀ :: suite) pos' :: hds) ((c, some i, ts) :: l)
section
variable {X : Cx} {body : List Stmt} {h₀ : ExceptHandler} {hds : List ExceptHandler} {l : List Hdl} {pos : Pos} {tb : WX → TS} {Wout : WX}
end
abbrev HdW := (Nat → Option Bool) × Option Nat × (Nat → Addr → Option Addr → WS)
inductive HdsJ (X : Cx) (T : Tab) (n : Nat) : List ExceptHandler → List HdW → Prop
  | nil : HdsJ X T n [] []
  | anon {x : Str} {cv : Value} {mt : Nat → Option Bool} {ws : Nat → Addr → Option Addr → WS} {b0 : Stmt} {suite : List Stmt} {np pos' : Pos} {hds : List ExceptHandler} {l : List HdW} (hc : Names X x cv)
      (hmt : ∀ m b, mt m = some b → ∀ C fn, T m = some (C, fn) → PySem.W.exmOne X.K (.ref C) cv = some b)
      (hsu : ∀ (m : Nat) (a : Addr) (oe : Obj) (d : Option Addr) (C : Addr) (fn : List Str) (pn : List (Addr × Obj)), mt m = some true → T m = some (C, fn) → Zc (.ref C) d oe → (∃ vs, oe.data = .fields vs) → JSs (X.suite a ((a, oe) :: pn)) T W0 n (b0 :: suite) (ws m a d)) (r : HdsJ X T n hds l) :
      HdsJ X T n (.ExceptHandler (some (.Name x np)) none (b0 :: suite) pos' :: hds) ((mt, none, ws) :: l)
  | named {x y : Str} {i : Nat} {cv : Value} {mt : Nat → Option Bool} {ws : Nat → Addr → Option Addr → WS} {b0 : Stmt} {suite : List Stmt} {np pos' : Pos} {hds : List ExceptHandler} {l : List HdW} (hc : Names X x cv)
      (hmt : ∀ m b, mt m = some b → ∀ C fn, T m = some (C, fn) → PySem.W.exmOne X.K (.ref C) cv = some b) (hi : X.N[i]? = some y) (hln : X.env.kindOf y = some .local)
      (hsu : ∀ (m : Nat) (a : Addr) (oe : Obj) (d : Option Addr) (C : Addr) (fn : List Str) (pn : List (Addr × Obj)), mt m = some true → T m = some (C, fn) → Zc (.ref C) d oe → (∃ vs, oe.data = .fields vs) → JSs (X.suite a ((a, oe) :: pn)) T W0 n (b0 :: suite) (ws m a d)) (r : HdsJ X T n hds l) :
      HdsJ X T n (.ExceptHandler (some (.Name x np)) (some y) (b0 :: suite) pos' :: hds) ((mt, some i, ws) :: l)
section
variable {X : Cx} {T : Tab} {W : WX} {n : Nat} {body : List Stmt} {h0 : ExceptHandler} {hds : List ExceptHandler} {l : List HdW} {pos : Pos} {wb : WS}
inductive MixOf (X : Cx) (T : Tab) (n : Nat) : List HdW → List Hdl → Prop
  | nil : MixOf X T n [] []
  | cons {mt : Nat → Option Bool} {o : Option Nat} {ws : Nat → Addr → Option Addr → WS} {cv : Value} {l : List HdW} {k : List Hdl} (hmt : ∀ m b, mt m = some b → ∀ C fn, T m = some (C, fn) → PySem.W.exmOne X.K (.ref C) cv = some b) (r : MixOf X T n l k) :
      MixOf X T n ((mt, o, ws) :: l) ((cv, o, fun a cls d D σ H => ∃ m C fn S1 P1, cls = .ref C ∧ mt m = some true ∧ T m = some (C, fn) ∧ ws m a d S1 P1 ∧ tDS T X.K n S1 (P1.to W0) D σ H) :: k)
end
end Dl
namespace Dl
open PySem L2
section
variable {X : Cx} {T : Tab} {W : WX} {a b c : Expr} {pos : Pos} {wa wb wc : WpE} {op op' : CmpOp} {v1 v2 : W2}
end
theorem run_in1S {X : Cx} {CX : CXT} {g : Addr} {fd : FuncData} {ps : List Str} {k : Nat} {E : St → XK} {pins : List (Addr × Obj)} {σ : St} {H : Hp} {s : Shared} {Q : VK} {us : List Value} {vs : List V} {sp : Sp} (F : FnOk X.prog X.w X.K X.mg X.base CX k g fd ps sp) (hr : Room (k + 1) X.A) (hb : Binds X.K fd ps []) (hx : PassesAt CX X σ (E σ))
    (I : Inv X pins σ H s) (r : Vals vs us) (h : sp vs H Q (E σ)) : wpAny (model X.prog X.w) X.A.in1 (call (.ref g) us) (EP X pins σ Q) X.xe s := by
  have hl : us.length = ps.length := by rw [← r.length]; exact F.len _ _ _ _ h
  have b := hb s us I.kIn (by rw [List.append_nil]; exact hl)
  rw [List.append_nil] at b
  have e := I.env0
  refine wpAny_call (codeAny_mono (F.run X.A.in1 X.stack s H ⟨us, []⟩ us vs Q (E σ) hr.in1 ⟨e.frames, e.mod, e.bs, e.bsz, e.funs, e.frf, e.hok, e.bare⟩ b r h) fun r s' hq => ?_)
  cases r with
  | error e => exact hx pins H s e s' I hq
  | ok fl =>
    cases fl with
    | ret u => exact I.after hq
    | next => exact False.elim hq
    | brk => exact False.elim hq
    | cont => exact False.elim hq
def tSubO (C : Addr) (sp : Sp) (E : St → XK) (ta tb : TE) : TE := fun σ H Q => ta σ H fun x H1 => tb σ H1 fun y H2 => ∃ a dx fs, x = .ref a ∧ H2 a = some (.ins C dx fs) ∧ sp [x, y] H2 Q (E σ)
abbrev PlainIxO (b : Expr) : Prop := ∀ (x i : Value), subscripted b true x i = runValue (.builtin "lifetime.subscript" ⟨[x, i], []⟩)
section
variable {X : Cx} {CX : CXT} {T : Tab} {W : WX} {a b : Expr} {pos : Pos} {wa wb : WpE} {ta tb : TE} {C g : Addr} {fd : FuncData} {ps : List Str} {k cn : Nat} {sp : Sp} {E : St → XK} {c : Ct} {cx : CtX} {fn : List Str}
theorem pe_subO (G : FnOk X.prog X.w X.K X.mg X.base CX k g fd ps sp) (hr : Room (k + 1) X.A) (hb : Binds X.K fd ps []) (hx : ∀ σ, PassesAt CX X σ (E σ)) (hs : PySem.W.findIn X.K (.ref C) "__getitem__" = some (some (.ref g))) (hf : PySem.W.fnIn X.K g = true) (hfn : PySem.W.isFn X.K (.ref g) = true)
    (ha : PE X a ta) (hb' : PE X b tb) (hp : PlainIxO b) : PE X (.Subscript a b pos) (tSubO C sp E ta tb) := by
  refine ⟨fun pins s σ H Q I h => ?_⟩
  refine PyProof.Rows.Subscript_ (binT ha hb' I (R := fun x y H2 => ∃ a dx fs, x = .ref a ∧ H2 a = some (.ins C dx fs) ∧ sp [x, y] H2 Q (E σ)) h fun v u s2 x y H2 I2 rx ry q => ?_)
  obtain ⟨o, dx, fs, rfl, eo, hsp⟩ := q
  cases (show v = Value.ref o from rx)
  obtain ⟨od, J⟩ := inst_get I2 eo
  obtain ⟨m, hF⟩ := I2.fr
  exact PySem.W.sub_K hF I2.ok.mod.kin J hs hf hfn (run_in1S (us := [.ref o, u]) (vs := [.ref o, y]) G hr hb (hx σ) I2 (.cons rfl (.cons ry .nil)) hsp) (hp _ _)
end
end Dl
namespace Dl
open PySem L2
section
open PySem.SeqAt
open AutoSeq1 (wpAny_loadPart')
open MeetsSeq MeetsSeq2 MeetsSeq3 SeqRoads2
variable {prog : Program} {w : World} {A : Around} {R : Result → Shared → Prop}
variable {E : Value → Shared → Prop} {s : Shared}
end
section
variable {X : Cx} {T : Tab} {C g : Addr} {fd : FuncData} {ps : List Str} {k n m : Nat} {c : Ct} {fn : List Str} {E : D → D → Bool → Prop}
end
end Dl
namespace Dl
open PySem L2
section
open PySem.Spec
open PyProof.Rows hiding St
end
section
variable {X : Cx} {T : Tab} {ds : List D} {cs : List Cell}
end
end Dl
namespace Dl
open PySem L2 PySem.Spec
open PyProof.Rows hiding St
section
open PySem.W
variable {prog : Program} {w : World} {A : Around} {E : Value → Shared → Prop} {s : Shared} {env : Env} {elts : List Expr} {k : Nat} {pos : Pos}
end
section
variable {X : Cx} {x y : Str} {p1 p2 p3 p4 pos : Pos} {i j k : Nat}
end
end Dl
namespace Dl
open PySem L2
section
variable {X : Cx} {T : Tab} {W : WX} {a b : Expr} {rest : List Expr} {pos : Pos} {wa wb : WpE}
end
end Dl
namespace Dl
open PySem L2
section
variable {X : Cx} {T : Tab}
end
end Dl
namespace Dl
open PySem L2
section
variable {X : Cx} {T : Tab} {W : WX} {e : Expr} {es fs : List Expr} {lp cp : Pos} {wA wB : WpA}
end
end Dl
namespace Dl
open PySem L2
section
variable {X : Cx} {T : Tab} {W : WX} {e e2 : Expr} {wA : WpA} {pos p tpos : Pos} {elts : List Expr} {kk : Nat}
end
end Dl
namespace Dl
open PySem L2
section
variable {X : Cx} {T : Tab}
variable {d : D} {ds : List D} {cs : List Cell}
def okI (d : D) (ds : List D) : Prop := (d.plain = true ∧ D.plains ds = true) ∧ d.py.plain = true ∧ PyData.plainAll (D.pys ds) = true ∧ d.py.depth ≤ 60
end
end Dl
namespace Dl
open PySem L2
section
variable {X : Cx} {T : Tab} {W : WX} {e : Expr} {wa : WpE} {pos p1 p2 p3 : Pos} {k : Nat}
end
end Dl
namespace Dl
open PySem L2
section
variable {T : Tab} {P : Program} {w : World} {K : PySem.W.Frag} {mg : Str → Option Value} {base : Heap} {x qual : Str} {st : Stmt} {f : Addr} {fd : FuncData} {N ps : List Str} {k : Nat} {ws : Nat → WS} {c : Ct} {cx : CtX}
end
section
variable {X : Cx} {T : Tab} {W : WX} {e : Expr} {es : List Expr} {kws : List Keyword} {pos p : Pos} {wA wK : WpA} {c : Ct} {cx : CtX} {k pn : Nat} {f : Addr} {fd : FuncData} {ps ks : List Str} {y : Str} {C g : Addr} {fn : List Str} {cn : Nat} {gV : List V → List V → List V} {fu : List D → List D → List D}
end
section
variable {X : Cx} {C fI : Addr} {k : Nat} {fd : FuncData} {f g : Str} {pins : List (Addr × Obj)} {σ : St} {H : Hp} {s : Shared} {Q : XK} {u : Value} {v : V}
end
section
variable {X : Cx} {T : Tab} {W : WX} {n m k : Nat} {e : Expr} {te : TE} {pos pos2 p : Pos} {x f g : Str} {C fI : Addr} {fd : FuncData} {w : WpE}
end
section
variable {P : Program} {w : World} {K : PySem.W.Frag} {mg : Str → Option Value} {base : Heap} {x qual : Str} {st : Stmt} {f : Addr} {fd : FuncData} {N ps : List Str} {k : Nat} {sp : Sp}
end
end Dl
namespace Dl
open PySem L2
abbrev blkE (X : Cx) (s : Shared) (H : Hp) (scope : Scope) (ce : Env) (fp : List Addr) (E : Value → Shared → Prop) : Cx := (X.blk s H scope ce fp).wish E
section
variable {X : Cx} {W : WX} {pins pins' : List (Addr × Obj)} {σ σ' : St} {H3 H' : Hp} {s3 s s' : Shared} {scope : Scope} {ce : Env} {fp : List Addr} {u : Value}
end
section
variable {B : Cx} {elt tg iter : Expr} {ifs : List Expr} {scope : Scope} {pos : Pos} {g : TG} {tt : TT} {te : TE} {fp : List Addr} {it D : Addr} {J : It} {tn : Nat → Heap → Prop} {σb : St} {vs : List Nat} {R : Result → Shared → Prop} {Qe : Hp → Prop}
end
section
variable {X : Cx} {W : WX} {elt tg iter : Expr} {ifs : List Expr} {scope : Scope} {own : List (Str × Nat)} {pos : Pos} {wi : TI} {g : TG} {tt : TT} {te : St → TE}
end
end Dl
namespace Dl
open PySem L2
section
variable {T : Tab} {K : PySem.W.Frag} {W : WX} {p : Pat} {wi : WpI} {wt : WpT} {we : WpE} {own : List Nat}
end
section
variable {X : Cx} {T : Tab} {W : WX} {elt tg iter : Expr} {ifs : List Expr} {scope : Scope} {own : List (Str × Nat)} {p : Pat} {wi : WpI} {wt : WpT} {we : WpE} {pos : Pos}
structure JLCX (X : Cx) (T : Tab) (W : WX) (elt tg iter : Expr) (ifs : List Expr) (scope : Scope) (own : List (Str × Nat)) (wi : WpI) (p : Pat) (wt : WpT) (we : WpE) : Prop where
  hi : JI X T W tg iter wi
  ok : BlkOk X.N X.env.scope scope own
  hg : InB X scope fun X' => DG X' T tg p
  ht : InB X scope fun X' => JTs X' T W0 ifs wt
  he : ∀ (σ0 : St) (s : Shared) (H : Hp) (C : Addr) (cl : List (Str × Addr)) (fp : List Addr) (E : Value → Shared → Prop), (∀ σ, PassesAt (L2N.CX X.prog X.w) (blkE X s H scope (compEnvC scope cl C X.env) fp E) σ (WE (fun cls d _ H => W cls d σ0 H) σ)) →
    JE (blkE X s H scope (compEnvC scope cl C X.env) fp E) T (fun cls d _ H => W cls d σ0 H) elt we
  hp : ∀ i ∈ slotsP p, i ∈ own.map (·.2)
end
end Dl
namespace Dl
open PySem L2
section
variable {X : Cx} {T : Tab} {W : WX} {n : Nat} {o e a b i j o1 o2 : Expr} {es : List Expr} {wo we wi wj wo1 wo2 : WpE} {wA : WpA} {pos apos p p1 p2 kp : Pos}
end
end Dl
namespace Dl
open PySem L2 PySem.Spec
open PyProof.Rows hiding St
section
open PySem.W
variable {prog : Program} {w : World} {A : Around} {E : Value → Shared → Prop} {s : Shared}
end
section
variable {X : Cx} {x y : Str} {p1 p2 p3 p4 pos : Pos} {i j k : Nat}
end
section
end
end Dl
namespace Dl
open PySem L2
section
variable {X : Cx} {T : Tab} {d : D} {ds : List D} {cs : List Cell}
end
end Dl
namespace Dl
open PySem L2
def vwC : Cell → Cell
  | .lstA _ ds => .lst ds
  | .dctA _ kvs => .dct kvs
  | .insA _ n fs => .ins n fs
  | c => c
def reC : Cell → Cell → Cell
  | .lstA p _, .lst ds => .lstA p ds
  | .dctA p _, .dct kvs => .dctA p kvs
  | .insA p _ _, .ins n fs => .insA p n fs
  | _, c => c
def rew : List Cell → List Cell → List Cell
  | c :: cs, d :: ds => reC c d :: rew cs ds
  | _, ds => ds
def adrC : Cell → Option Addr
  | .lstA p _ => some p
  | .dctA p _ => some p
  | .insA p _ _ => some p
  | _ => none
section
variable {T : Tab} {K : PySem.W.Frag} {M M' : Addr → Prop} {H H' : Hp} {a p : Addr} {c d : Cell} {cs ds : List Cell} {ad ad' : List Addr} {F : Addr → Prop} {k j : Nat} {s s' : Sl} {v : V}
theorem rew_len : ∀ {cs ds : List Cell}, (rew cs ds).length = ds.length
  | [], _ => by unfold rew; rfl
  | _ :: _, [] => rfl
  | c :: cs, d :: ds => by
    show (rew cs ds).length + 1 = ds.length + 1
    rw [rew_len]
theorem rew_at : ∀ {cs ds : List Cell} {k : Nat} {d : Cell}, ds[k]? = some d → (rew cs ds)[k]? = some (match cs[k]? with | some c => reC c d | none => d)
  | [], ds, k, d, h => by unfold rew; simpa using h
  | _ :: _, [], k, d, h => by simp at h
  | c :: cs, e :: ds, 0, d, h => by
    have h : e = d := by simpa using h
    rw [h]
    rfl
  | c :: cs, e :: ds, k + 1, d, h => by
    have := rew_at (cs := cs) (ds := ds) (k := k) (d := d) (by simpa using h)
    show (rew cs ds)[k]? = _
    rw [this]
    simp
theorem CellAt.vw (h : CellAt T K M H a c) : CellAt T K M H a (vwC c) := by
  cases c with
  | lstA p ds => obtain ⟨vs, h, _⟩ := h; exact ⟨vs, h⟩
  | dctA p kvs => obtain ⟨vs, h, _⟩ := h; exact ⟨vs, h⟩
  | insA p n fs => obtain ⟨C, fn, dx, vs, h, _⟩ := h; exact ⟨C, fn, dx, vs, h⟩
  | lst _ => exact h
  | dct _ => exact h
  | ins _ _ => exact h
  | dcn _ => exact h
theorem CellAt.adr (h : CellAt T K M H a c) (e : adrC c = Option.some p) : p = a := by
  cases c with
  | lstA q ds => cases e; obtain ⟨_, _, h⟩ := h; exact h
  | dctA q kvs => cases e; obtain ⟨_, _, h⟩ := h; exact h
  | insA q n fs => cases e; obtain ⟨_, _, _, _, _, h⟩ := h; exact h
  | lst _ => cases e
  | dct _ => cases e
  | ins _ _ => cases e
  | dcn _ => cases e
theorem CellAt.re (h : CellAt T K M H a c) (h' : CellAt T K M' H' a d) : CellAt T K M' H' a (reC c d) := by
  cases c with
  | lstA q ds =>
    cases d with
    | lst _ => obtain ⟨vs, g⟩ := h'; exact ⟨vs, g, h.adr rfl⟩
    | dct _ => exact h'
    | ins _ _ => exact h'
    | dcn _ => exact h'
    | lstA _ _ => exact h'
    | dctA _ _ => exact h'
    | insA _ _ _ => exact h'
  | dctA q kvs =>
    cases d with
    | dct _ => obtain ⟨vs, g⟩ := h'; exact ⟨vs, g, h.adr rfl⟩
    | lst _ => exact h'
    | ins _ _ => exact h'
    | dcn _ => exact h'
    | lstA _ _ => exact h'
    | dctA _ _ => exact h'
    | insA _ _ _ => exact h'
  | insA q n fs =>
    cases d with
    | ins _ _ => obtain ⟨C, fn, dx, vs, g⟩ := h'; exact ⟨C, fn, dx, vs, g, h.adr rfl⟩
    | dct _ => exact h'
    | lst _ => exact h'
    | dcn _ => exact h'
    | lstA _ _ => exact h'
    | dctA _ _ => exact h'
    | insA _ _ _ => exact h'
  | lst _ => exact h'
  | dct _ => exact h'
  | ins _ _ => exact h'
  | dcn _ => exact h'
theorem HoldC.vw (h : HoldC T K ad F H cs) : HoldC T K ad F H (cs.map vwC) := ⟨h.nd, h.fr, h.al, h.tb, by rw [List.length_map]; exact h.ln, fun k a c h1 h2 => by
  rw [List.getElem?_map] at h2
  cases e : cs[k]? with
  | none => rw [e] at h2; cases h2
  | some c0 =>
    rw [e] at h2
    cases h2
    exact (h.ce k a c0 h1 e).vw⟩
theorem HoldC.re (h : HoldC T K ad F H cs) (x : Ext ad F H ad' H') (h' : HoldC T K ad' F H' ds) : HoldC T K ad' F H' (rew cs ds) := ⟨h'.nd, h'.fr, h'.al, h'.tb, by rw [rew_len]; exact h'.ln, fun k a c h1 h2 => by
  obtain ⟨t, ht, _⟩ := x.pre
  have kl : k < ds.length := by rw [← h'.ln]; exact (List.getElem?_eq_some_iff.mp h1).1
  have e1 : ds[k]? = some ds[k] := List.getElem?_eq_getElem kl
  rw [rew_at e1] at h2
  have c1 := h'.ce k a _ h1 e1
  cases e : cs[k]? with
  | none =>
    rw [e] at h2
    cases h2
    exact c1
  | some c0 =>
    rw [e] at h2
    cases h2
    have k0 : k < ad.length := by rw [h.ln]; exact (List.getElem?_eq_some_iff.mp e).1
    rw [ht, List.getElem?_append_left k0] at h1
    exact (h.ce k a c0 h1 e).re c1⟩
inductive DeR (cs : List Cell) : Sl → Sl → Prop
  | id {s : Sl} : DeR cs s s
  | de {p : Addr} {j : Nat} {c : Cell} : cs[j]? = some c → adrC c = some p → DeR cs (.dat (.cls p)) (.cel j)
theorem SlRep.de (h : HoldC T K ad F H cs) (r : SlRep T K ad F H v s) (e : DeR cs s s') : SlRep T K ad F H v s' := by
  cases e with
  | id => exact r
  | de h1 h2 =>
    rename_i p j c
    have r : Rep T K (Mm ad F) H v (.cls p) := r
    cases r
    have jl : j < ad.length := by rw [h.ln]; exact (List.getElem?_eq_some_iff.mp h1).1
    have e := List.getElem?_eq_getElem jl
    exact ⟨_, e, congrArg V.ref ((h.ce j _ c e h1).adr h2)⟩
inductive DeRs (cs : List Cell) : List Sl → List Sl → Prop
  | nil : DeRs cs [] []
  | cons {s s' : Sl} {ss ss' : List Sl} : DeR cs s s' → DeRs cs ss ss' → DeRs cs (s :: ss) (s' :: ss')
theorem SlReps.de (h : HoldC T K ad F H cs) : ∀ {vs : List V} {ss ss' : List Sl}, SlReps T K ad F H vs ss → DeRs cs ss ss' → SlReps T K ad F H vs ss'
  | [], [], _, _, .nil => trivial
  | _ :: _, _ :: _, _, r, .cons e es => ⟨r.1.de h e, SlReps.de h r.2 es⟩
theorem R2D.li {r : R2} {s1 s2 s1' s2' s : Sl} (e1 : DeR cs s1 s1') (e2 : DeR cs s2 s2') (h : R2D T K r s1' s2' (cs.map vwC) s ds) : R2D T K r s1 s2 cs s (rew cs ds) := fun ad F H v w Q hc r1 r2 q =>
  h ad F H v w Q hc.vw (r1.de hc e1) (r2.de hc e2) fun z H' ad' x k rz => q z H' ad' x (hc.re x k) rz
theorem R1.li {r : V → Hp → VK → Prop} {s1 s1' s : Sl} (e1 : DeR cs s1 s1') (h : R1 T K r s1' (cs.map vwC) s ds) : R1 T K r s1 cs s (rew cs ds) := fun ad F H v Q hc r1 q =>
  h ad F H v Q hc.vw (r1.de hc e1) fun z H' ad' x k rz => q z H' ad' x (hc.re x k) rz
def liW2 (o : W2) : W2 := fun s1 s2 cs R => ∃ s1' s2', DeR cs s1 s1' ∧ DeR cs s2 s2' ∧ o s1' s2' (cs.map vwC) fun s c => R s (rew cs c)
def liW1 (o : W1) : W1 := fun s1 cs R => ∃ s1', DeR cs s1 s1' ∧ o s1' (cs.map vwC) fun s c => R s (rew cs c)
def liWC (o : WC) : WC := fun ss cs R => ∃ ss', DeRs cs ss ss' ∧ o ss' (cs.map vwC) fun s c => R s (rew cs c)
end
section
variable {X : Cx} {T : Tab} {op : Operator} {cop : CmpOp} {uop : UnaryOp} {w : W2}
theorem jb_li (h : JBin X T op w) : JBin X T op (liW2 w) := fun s1 s2 cs R ⟨s1', s2', e1, e2, hw⟩ => by
  obtain ⟨s, c, ⟨r, o, q⟩, hR⟩ := h _ _ _ _ hw
  exact ⟨s, _, ⟨r, o, R2D.li e1 e2 q⟩, hR⟩
theorem jc_li (h : JCmp X T cop w) : JCmp X T cop (liW2 w) := fun s1 s2 cs R ⟨s1', s2', e1, e2, hw⟩ => by
  obtain ⟨s, c, ⟨r, o, q⟩, hR⟩ := h _ _ _ _ hw
  exact ⟨s, _, ⟨r, o, R2D.li e1 e2 q⟩, hR⟩
theorem ji_li (h : JIx X T w) : JIx X T (liW2 w) := fun s1 s2 cs R ⟨s1', s2', e1, e2, hw⟩ => by
  obtain ⟨s, c, ⟨r, o, q⟩, hR⟩ := h _ _ _ _ hw
  exact ⟨s, _, ⟨r, o, R2D.li e1 e2 q⟩, hR⟩
theorem ju_li {w : W1} (h : JUn X T uop w) : JUn X T uop (liW1 w) := fun s1 cs R ⟨s1', e1, hw⟩ => by
  obtain ⟨s, c, ⟨r, o, q⟩, hR⟩ := h _ _ _ hw
  exact ⟨s, _, ⟨r, o, R1.li e1 q⟩, hR⟩
theorem RCD.li {r : List V → Hp → VK → Prop} {ss ss' : List Sl} {s : Sl} {cs ds : List Cell} {K : PySem.W.Frag} (e : DeRs cs ss ss') (h : RCD T K r ss' (cs.map vwC) s ds) : RCD T K r ss cs s (rew cs ds) := fun ad F H vs Q hc rr q =>
  h ad F H vs Q hc.vw (rr.de hc e) fun z H' ad' x k rz => q z H' ad' x (hc.re x k) rz
theorem jk_li {x : Str} {w : WC} (h : JCall X T x w) : JCall X T x (liWC w) := ⟨h.bo, fun ss cs R ⟨ss', e, hw⟩ => by
  obtain ⟨s, c, ⟨u, r, b1, b2, o, q⟩, hR⟩ := h.run _ _ _ hw
  exact ⟨s, _, ⟨u, r, b1, b2, o, RCD.li e q⟩, hR⟩⟩
end
end Dl
namespace Dl
open PySem L2
abbrev CtG := List Sl → List Cell → RV → Prop
def spG (T : Tab) (K : PySem.W.Frag) (c : CtG) : Sp := fun vs H Q _ => ∃ ad F args cs R, HoldC T K ad F H cs ∧ SlReps T K ad F H vs args ∧ c args cs R ∧
  ∀ s cs' v H' ad', R s cs' → ExtS cs.length ad F H ad' H' → cs.length ≤ ad'.length → HoldC T K ad' F H' cs' → SlRep T K ad' F H' v s → Q v H'
abbrev endG (R : RV) : PJ := { nx := fun S => R (.dat .non) S.cs, rt := R }
def cgOf (N ps : List Str) (ws : Nat → WS) : CtG := fun args cs R => args.length = ps.length ∧ ws cs.length (st0 N args cs) (endG R)
section
variable {T : Tab} {P : Program} {w : World} {K : PySem.W.Frag} {mg : Str → Option Value} {base : Heap} {x qual : Str} {st : Stmt} {f : Addr} {fd : FuncData} {N ps : List Str} {k : Nat} {ws : Nat → WS}
theorem lenG {c : Nat → WS} {vs : List V} {H : Hp} {Q : VK} {E : XK} (h : spG T K (cgOf N ps c) vs H Q E) : vs.length = ps.length := by
  obtain ⟨ad, F', args, cs, R, _, r, hc, _⟩ := h
  rw [r.len, hc.1]
theorem fn_G (F : Fun K x qual st f fd) (Sc : FnScope N ps (defScope st))
    (body : ∀ cdv A outer sh H E, Room k (cx0 P w K mg base N qual st f cdv A outer sh H E).A → ∀ n, JSs (cx0 P w K mg base N qual st f cdv A outer sh H E) T W0 n (defBody st) (ws n)) : FnOk P w K mg base CX0 (k + 1) f fd ps (spG T K (cgOf N ps ws)) := by
  refine F.ok Sc (fun vs H Q E h => lenG h) (fun cdv A outer s H vs Q E hr h => ?_)
  obtain ⟨ad, F', args, cs, R, hc, r, ⟨_, h⟩, q⟩ := h
  refine ⟨_, body cdv A outer s H E hr cs.length _ _ h, ad, F', Nat.le_of_eq hc.ln.symm, start_hold hc r, ?_, ?_, fun _ _ _ _ _ _ _ z => z.elim, fun _ _ _ _ _ _ _ z => z.elim, fun _ _ _ _ _ _ _ _ _ _ _ z => z.elim⟩
  · exact fun S' σ' H' ad' x hn h' hR => q _ _ .non H' ad' hR x hn h'.hc Rep.non
  · exact fun s2 cs2 v H' ad' x hn c2 r2 hR => q _ _ v H' ad' hR x hn c2 r2
theorem ExtS.ext {ad ad' : List Addr} {F : Addr → Prop} {H H' : Hp} {cs cs' : List Cell} (h : HoldC T K ad F H cs) (x : ExtS cs.length ad F H ad' H') (h' : HoldC T K ad' F H' cs') : Ext ad F H ad' H' := by
  have e : ad'.take ad.length = ad := by
    have := x.pre
    rw [← h.ln, List.take_length] at this
    exact this
  have e2 : ad' = ad ++ ad'.drop ad.length := by
    have := List.take_append_drop ad.length ad'
    rw [e] at this
    exact this.symm
  refine ⟨⟨ad'.drop ad.length, e2, fun a ha => ?_⟩, x.keep, x.frm⟩
  have nd := h'.nd
  rw [e2, List.nodup_append] at nd
  rcases x.sub a (List.mem_of_mem_drop ha) with z | z
  · exact absurd rfl (nd.2.2 a z a ha)
  · exact z
theorem callG_then {c : CtG} {ad : List Addr} {F : Addr → Prop} {H : Hp} {cs : List Cell} {vs : List V} {ss : List Sl} {R : RV} {Q : VK} {E : XK} (h : HoldC T K ad F H cs) (r : SlReps T K ad F H vs ss) (hw : c ss cs R)
    (q : ∀ s c' v H' ad', R s c' → Ext ad F H ad' H' → HoldC T K ad' F H' c' → SlRep T K ad' F H' v s → Q v H') : spG T K c vs H Q E :=
  ⟨ad, F, ss, cs, R, h, r, hw, fun s cs' v H' ad' hR x hn h' r' => q s cs' v H' ad' hR (ExtS.ext h x h') h' r'⟩
end
section
variable {X : Cx} {T : Tab} {W : WX} {n : Nat} {e : Expr} {es : List Expr} {pos p : Pos} {w : WpE} {wA : WpA} {c : CtG} {k : Nat} {f : Addr} {fd : FuncData} {ps : List Str} {y : Str}
def wRetG (w : WpE) : WS := fun S P => w S.sl S.cs (fun s c => P.rt s c) (fun x c => P.ex x ⟨S.sl, c⟩)
theorem js_retG (he : JE X T W e w) : JS X T W n (.Return (some e) pos) (wRetG w) := fun S P h =>
  weakS (ps_ret he) fun D σ H ⟨ad, F, hn, h0, q1, q2, q3, q4, q5⟩ => ⟨ad, F, S.sl, S.cs, _, _, h0, h, fun s c v H1 ad1 hR x1 h1 r1 => q2 s c v H1 ad1 (x1.s hn) (x1.le hn) h1.hc r1 hR, raz_of hn q5⟩
def wFnG (c : CtG) (wA : WpA) : WpE := fun sl cs R Rx => wA sl cs (fun ss c1 => c ss c1 R) Rx
theorem je_callHp (G : FnOk X.prog X.w X.K X.mg X.base CX0 k f fd ps (spG T X.K c)) (hr : Room k X.A) (hm : X.mg y = some (.ref f)) (hk : PySem.W.keepIn X.K (.ref f) = true) (hb : Binds X.K fd ps []) (ha : JA X T W (e :: es) wA) (hg : Gl X y := by rfl) (hdb : (y == ("__debug__" : Str)) = false := by decide)
    (he : starEach (e :: es) X.env = (false, eval e X.env) :: starEach es X.env := by rfl) (hpl : (backTo pos (starEach es X.env)).any (·.1) = false := by rfl) : JE X T W (.Call (.Name y p) (e :: es) [] pos) (wFnG c wA) :=
  weak (pe_call G hr hg hm hk hb .nil pass0 ha hdb he hpl) fun σ H Q ⟨ad, F, sl, cs, R, Rx, h0, hw, q, qx⟩ => ⟨ad, F, sl, cs, _, Rx, h0, hw, fun ss c1 vs H1 ad1 hw1 x1 h1 r1 => by
    show spG T X.K c (vs ++ []) H1 Q E0
    rw [List.append_nil]
    exact callG_then h1.hc r1 hw1 fun s c' v H' ad' hR x2 c2 r2 => q s c' v H' ad' hR (x1.trans h1.hc x2) (h1.to x2 c2) r2, qx⟩
def tgC (p : Addr) : Cell → Cell
  | .lst ds => .lstA p ds
  | .dct kvs => .dctA p kvs
  | .ins n fs => .insA p n fs
  | c => c
theorem CellAt.tg {K : PySem.W.Frag} {M : Addr → Prop} {H : Hp} {a : Addr} {c : Cell} (h : CellAt T K M H a c) : CellAt T K M H a (tgC a c) := by
  cases c with
  | lst ds => obtain ⟨vs, h⟩ := h; exact ⟨vs, h, rfl⟩
  | dct kvs => obtain ⟨vs, h⟩ := h; exact ⟨vs, h, rfl⟩
  | ins n fs => obtain ⟨C, fn, dx, vs, h⟩ := h; exact ⟨C, fn, dx, vs, h, rfl⟩
  | lstA _ _ => exact h
  | dctA _ _ => exact h
  | insA _ _ _ => exact h
  | dcn _ => exact h
theorem HoldC.tg {K : PySem.W.Frag} {ad : List Addr} {F : Addr → Prop} {H : Hp} {cs : List Cell} {j : Nat} {a : Addr} {c : Cell} (h : HoldC T K ad F H cs) (ha : ad[j]? = some a) (hc : cs[j]? = some c) : HoldC T K ad F H (cs.set j (tgC a c)) := ⟨h.nd, h.fr, h.al, h.tb, by rw [List.length_set]; exact h.ln, fun k b d h1 h2 => by
  by_cases e : j = k
  · subst e
    rw [ha] at h1
    cases h1
    rw [List.getElem?_set_self (List.getElem?_eq_some_iff.mp hc).1] at h2
    cases h2
    exact (h.ce j a c ha hc).tg
  · rw [List.getElem?_set_ne e] at h2
    exact h.ce k b d h1 h2⟩
def tagW (s : Sl) (cs : List Cell) (R : RV) : Prop := match s with
  | .cel j => match cs[j]? with
    | some c => ∀ p : Addr, R (.dat (.cls p)) (cs.set j (tgC p c))
    | none => False
  | .dat d => R (.dat d) cs
def wTag (w : WpE) : WpE := fun sl cs R Rx => w sl cs (fun s c => tagW s c R) Rx
theorem je_tag (h : JE X T W e w) : JE X T W e (wTag w) := weak h fun σ H Q ⟨ad, F, sl, cs, R, Rx, h0, hw, q, qx⟩ => ⟨ad, F, sl, cs, _, Rx, h0, hw, fun s c v H1 ad1 hR x1 h1 r1 => by
  unfold tagW at hR
  split at hR
  · split at hR
    · rename_i j c0 e0
      obtain ⟨a, ha, rfl⟩ := r1
      exact q _ _ (.ref a) H1 ad1 (hR a) x1 ⟨h1.hc.tg ha e0, h1.sz, h1.sl⟩ Rep.cls
    · exact hR.elim
  · exact q _ _ v H1 ad1 hR x1 h1 r1, qx⟩
end
end Dl
namespace Dl
open PySem L2
section
variable {T : Tab} {K : PySem.W.Frag} {ad : List Addr} {F : Addr → Prop} {H : Hp} {cs : List Cell} {j cn : Nat} {p C : Addr} {fn : List Str} {fs : List (Str × D)} {v : V} {s : Sl}
theorem HoldC.insA (h : HoldC T K ad F H cs) (hT : T cn = some (C, fn)) (hc : cs[j]? = some (.insA p cn fs)) : ∃ dx vs, ad[j]? = some p ∧ H p = some (.ins C dx ((fs.map (·.1)).zip vs)) ∧ vs.length = fs.length ∧ Reps T K (Mm ad F) H vs (fs.map (·.2)) := by
  have jl : j < ad.length := by rw [h.ln]; exact (List.getElem?_eq_some_iff.mp hc).1
  have e := List.getElem?_eq_getElem jl
  obtain ⟨C', fn', dx, vs, ⟨ht, e1, hl, r⟩, e2⟩ := h.ce j _ _ e hc
  rw [hT] at ht
  cases ht
  rw [← e2] at e e1
  exact ⟨dx, vs, e, e1, hl, r⟩
def putA (f : Str) (d : D) : List (Str × D) → List (Str × D)
  | [] => [(f, d)]
  | (g, x) :: r => if g = f then (g, d) :: r else (g, x) :: putA f d r
theorem putF_A {M : Addr → Prop} {f : Str} {d : D} {v : V} (rd : Rep T K M H v d) : ∀ {fs : List (Str × D)} {vs : List V}, vs.length = fs.length → Reps T K M H vs (fs.map (·.2)) →
    ∃ ws, putF f v ((fs.map (·.1)).zip vs) = ((putA f d fs).map (·.1)).zip ws ∧ ws.length = (putA f d fs).length ∧ Reps T K M H ws ((putA f d fs).map (·.2))
  | [], [], _, _ => ⟨[v], rfl, rfl, .cons rd .nil⟩
  | [], _ :: _, hl, _ => by simp at hl
  | _ :: _, [], hl, _ => by simp at hl
  | (g, x) :: fs, w :: vs, hl, .cons r rs => by
    have hl : vs.length = fs.length := by simpa using hl
    show ∃ ws, putF f v ((g, w) :: (fs.map (·.1)).zip vs) = _ ∧ _
    rw [putF.eq_def]
    unfold putA
    by_cases e : g = f
    · refine ⟨v :: vs, ?_, ?_, ?_⟩
      · show (if g = f then (g, v) :: (fs.map (·.1)).zip vs else _) = _
        rw [if_pos e, if_pos e]
        rfl
      · rw [if_pos e]
        simp [hl]
      · rw [if_pos e]
        exact .cons rd rs
    · obtain ⟨ws, e1, e2, e3⟩ := putF_A rd hl rs
      refine ⟨w :: ws, ?_, ?_, ?_⟩
      · show (if g = f then _ else (g, w) :: putF f v ((fs.map (·.1)).zip vs)) = _
        rw [if_neg e, if_neg e, e1]
        rfl
      · rw [if_neg e]
        simp [e2]
      · rw [if_neg e]
        exact .cons r e3
end
section
variable {X : Cx} {T : Tab} {W : WX} {n : Nat} {e o : Expr} {es : List Expr} {pos p p' apos : Pos} {w we wo : WpE} {wA : WpA} {c : CtG} {k cn : Nat} {f g C : Addr} {fd : FuncData} {ps fn : List Str} {y m fl : Str}
def refI (cn : Nat) (s : Sl) (cs : List Cell) (k : Addr → Nat → List (Str × D) → Prop) : Prop := ∃ p j fs, s = .dat (.cls p) ∧ cs[j]? = some (.insA p cn fs) ∧ k p j fs
def wFldA (cn : Nat) (m : Str) (w : WpE) : WpE := fun sl cs R Rx => w sl cs (fun s c => refI cn s c fun _ _ fs => ∃ d, fs.lookup m = some d ∧ R (.dat d) c) Rx
theorem je_fldA (hT : T cn = some (C, fn)) (hc : Cls X.K C) (hn : NoAttr X.K C m) (he : JE X T W e w) (hb : attributeBase e m X.env (eval e X.env) = eval e X.env := by rfl) : JE X T W (.Attribute e m pos) (wFldA cn m w) :=
  weak (pe_fld he hb) fun σ H Q ⟨ad, F, sl, cs, R, Rx, h0, hw, q, qx⟩ => ⟨ad, F, sl, cs, _, Rx, h0, hw, fun s c1 v H1 ad1 hw1 x1 h1 r1 => by
    obtain ⟨p, j, fs, rfl, e0, d, hd, hR⟩ := hw1
    have r1 : Rep T X.K (Mm ad1 F) H1 v (.cls p) := r1
    cases r1
    obtain ⟨dx, vs, _, e1, hl, rr⟩ := h1.hc.insA hT e0
    obtain ⟨w, g1, g2⟩ := look_zip hd rr
    exact ⟨p, C, dx, _, w, rfl, e1, hc, hn, g1, q _ c1 w H1 ad1 hR x1 h1 g2⟩, qx⟩
def wSetFA (cn : Nat) (fl : Str) (we wo : WpE) : WS := fun S P => we S.sl S.cs (fun d c1 => wo S.sl c1 (fun s c2 => ∃ dd, d = .dat dd ∧ refI cn s c2 fun p j fs => fs.length < 1000 ∧ P.nx ⟨S.sl, c2.set j (.insA p cn (putA fl dd fs))⟩) (fun x c => P.ex x ⟨S.sl, c⟩)) (fun x c => P.ex x ⟨S.sl, c⟩)
theorem js_fldA (hT : T cn = some (C, fn)) (hc : Cls X.K C) (hn : NoAttr X.K C fl) (he : JE X T W e we) (ho : JE X T W o wo) (hs : swapsWith e (some (.Attribute o fl p')) pos.line X.env = pure false := by rfl) : JS X T W n (.Assign [.Attribute o fl p'] e pos) (wSetFA cn fl we wo) := fun S P h =>
  weakS (ps_fld ho he hs) fun D σ H ⟨ad, F, hn', h0, q1, q2, q3, q4, q5⟩ => ⟨ad, F, S.sl, S.cs, _, _, h0, h, fun d c1 v H1 ad1 hR1 x1 h1 r1 => ⟨ad1, F, S.sl, c1, _, _, h1, hR1, fun s c2 w H2 ad2 hR2 x2 h2 r2 => by
    obtain ⟨dd, rfl, p, j, fs, rfl, e0, hl, hR⟩ := hR2
    have r2 : Rep T X.K (Mm ad2 F) H2 w (.cls p) := r2
    cases r2
    obtain ⟨dx, vs, ea, e1, lv, rv⟩ := h2.hc.insA hT e0
    have rd : Rep T X.K (Mm ad2 F) H2 v dd := SlRep.ext (s := .dat dd) x2 r1
    obtain ⟨ws, w1, w2, w3⟩ := putF_A (f := fl) rd lv rv
    have lz : ((fs.map (·.1)).zip vs).length < 1000 := by rw [List.length_zip, List.length_map]; omega
    refine ⟨p, C, dx, _, rfl, e1, hc, hn, lz, ?_⟩
    rw [w1]
    have kp : Kp (Mm ad2 F) H2 (Mm ad2 F) (upd H2 p (.ins C dx (((putA fl dd fs).map (·.1)).zip ws))) := fun b o e n => ⟨by rw [upd_ne (fun z => n (.inl (by rw [z]; exact List.mem_of_getElem? ea)))]; exact e, n⟩
    obtain ⟨c3, x3⟩ := h2.hc.setc (o := .ins C dx (((putA fl dd fs).map (·.1)).zip ws)) (c := .insA p cn (putA fl dd fs)) ea ⟨C, fn, dx, ws, ⟨hT, by rw [upd_same], w2, w3.kp kp⟩, rfl⟩
    have x : Ext ad F H ad2 _ := x1.trans h1.hc (x2.trans h2.hc x3)
    exact q1 _ _ _ ad2 (x.s hn') (x.le hn') (h2.to x3 c3) hR, (raz_of hn' q5).on x1 h1⟩, raz_of hn' q5⟩
theorem refI_of {K : PySem.W.Frag} {ad : List Addr} {F : Addr → Prop} {H : Hp} {cs : List Cell} {v : V} {s : Sl} (hT : T cn = some (C, fn)) (h : HoldC T K ad F H cs) (r : SlRep T K ad F H v s) (hw : refI cn s cs fun _ _ fs => fIdx (fs.map (·.1)) m = none) : ∃ a dx fs, v = .ref a ∧ H a = some (.ins C dx fs) ∧ fs.lookup m = none := by
  obtain ⟨p, j, fs, rfl, e0, hf⟩ := hw
  have r : Rep T K (Mm ad F) H v (.cls p) := r
  cases r
  obtain ⟨dx, vs, _, e1, hl, _⟩ := h.insA hT e0
  exact ⟨p, dx, _, rfl, e1, fIdx_none hf⟩
def wMethA0 (cn : Nat) (m : Str) (c : CtG) (wo : WpE) : WpE := fun sl cs R Rx => wo sl cs (fun s c1 => (refI cn s c1 fun _ _ fs => fIdx (fs.map (·.1)) m = none) ∧ c [s] c1 R) Rx
theorem je_methA0 {pl : Sem Bool} (hT : T cn = some (C, fn)) (hc : Cls X.K C) (hm : Meth X.K C m g) (G : FnOk X.prog X.w X.K X.mg X.base CX0 k g fd ps (spG T X.K c)) (hr : Room k X.A) (hb : Binds X.K fd ps [])
    (he : JE X T W o wo)
    (ht : eval (.Call (.Attribute o m apos) [] [] pos) X.env = (do
      let ov ← eval o X.env
      standAt apos.atName
      let (f, first) ← holding [ov] (getMethod ov m pl)
      callWith pos f first (backTo pos (starEach [] X.env)) (backToKw pos (keywordEach [] X.env))) := by rfl) : JE X T W (.Call (.Attribute o m apos) [] [] pos) (wMethA0 cn m c wo) :=
  weak (pe_meth0 (pl := pl) he hc hm G hr hb .nil pass0 ht) fun σ H Q ⟨ad, F, sl, cs, R, Rx, h0, hw, q, qx⟩ => ⟨ad, F, sl, cs, _, Rx, h0, hw, fun s c1 v H1 ad1 hw1 x1 h1 r1 => by
    obtain ⟨a, dx, fs, rfl, e1, e2⟩ := refI_of hT h1.hc r1 hw1.1
    refine ⟨a, dx, fs, rfl, e1, e2, ?_⟩
    exact callG_then (E := E0) (ss := [s]) h1.hc ⟨r1, trivial⟩ hw1.2 fun s' c' v H' ad' hR x3 k3 r3 => q s' c' v H' ad' hR (x1.trans h1.hc x3) (h1.to x3 k3) r3, qx⟩
end
end Dl
namespace Dl
open PySem L2
abbrev CtGX := List Sl → List Cell → RV → RX → Prop
def spGX (T : Tab) (K : PySem.W.Frag) (c : CtGX) : Sp := fun vs H Q E => ∃ ad F args cs R Rx, (HoldC T K ad F H cs ∧ SlReps T K ad F H vs args ∧ c args cs R Rx) ∧
  (∀ s cs' v H' ad', R s cs' → ExtS cs.length ad F H ad' H' → cs.length ≤ ad'.length → HoldC T K ad' F H' cs' → SlRep T K ad' F H' v s → Q v H') ∧
  ∀ x cs' cls d H' ad', Rx x cs' → ExtS cs.length ad F H ad' H' → cs.length ≤ ad'.length → HoldC T K ad' F H' cs' → ExRep T K (Mm ad' F) H' cls d x → E cls d H'
abbrev endGX (R : RV) (Rx : RX) : PJ := { nx := fun S => R (.dat .non) S.cs, rt := R, ex := fun x S => Rx x S.cs }
def cgxOf (N ps : List Str) (ws : Nat → WS) : CtGX := fun args cs R Rx => args.length = ps.length ∧ ws cs.length (st0 N args cs) (endGX R Rx)
section
variable {T : Tab} {P : Program} {w : World} {K : PySem.W.Frag} {mg : Str → Option Value} {base : Heap} {x qual : Str} {st : Stmt} {f : Addr} {fd : FuncData} {N ps : List Str} {k : Nat} {ws : Nat → WS}
theorem lenGX {c : Nat → WS} {vs : List V} {H : Hp} {Q : VK} {E : XK} (h : spGX T K (cgxOf N ps c) vs H Q E) : vs.length = ps.length := by
  obtain ⟨ad, F', args, cs, R, Rx, ⟨_, r, hc⟩, _⟩ := h
  rw [r.len, hc.1]
theorem fn_GX (F : Fun K x qual st f fd) (Sc : FnScope N ps (defScope st))
    (bodyX : ∀ cdv A outer sh H E, Room k (cxX P w K mg base N qual st f cdv A outer sh H E).A → Takes (cxX P w K mg base N qual st f cdv A outer sh H E) (fun cls d _ H => E cls d H) → ∀ n, JSs (cxX P w K mg base N qual st f cdv A outer sh H E) T (fun cls d _ H => E cls d H) n (defBody st) (ws n)) :
    FnOk P w K mg base (L2.CX P w) (k + 1) f fd ps (spGX T K (cgxOf N ps ws)) := by
  refine F.okX Sc (fun vs H Q E h => lenGX h) (fun cdv A outer s H vs Q E hr h => ?_)
  obtain ⟨ad, F', args, cs, R, Rx, ⟨hc, r, _, h⟩, q, qx⟩ := h
  have tk : Takes (cxX P w K mg base N qual st f cdv A outer s H E) (fun cls d _ H => E cls d H) := takes_of rfl rfl rfl rfl
  refine ⟨_, bodyX cdv A outer s H E hr tk cs.length _ _ h, ad, F', Nat.le_of_eq hc.ln.symm, start_hold hc r, ?_, ?_, fun _ _ _ _ _ _ _ z => z.elim, fun _ _ _ _ _ _ _ z => z.elim, ?_⟩
  · exact fun S' σ' H' ad' x hn h' hR => q _ _ .non H' ad' hR x hn h'.hc Rep.non
  · exact fun s2 cs2 v H' ad' x hn c2 r2 hR => q _ _ v H' ad' hR x hn c2 r2
  · exact fun y S' cls d σ' H' ad' x hn h' er hR => qx y _ cls d H' ad' hR x hn h'.hc er
theorem callGX_then {c : CtGX} {ad : List Addr} {F : Addr → Prop} {H : Hp} {cs : List Cell} {vs : List V} {ss : List Sl} {R : RV} {Rx : RX} {Q : VK} {E : XK} (h : HoldC T K ad F H cs) (r : SlReps T K ad F H vs ss) (hw : c ss cs R Rx)
    (q : ∀ s c' v H' ad', R s c' → Ext ad F H ad' H' → HoldC T K ad' F H' c' → SlRep T K ad' F H' v s → Q v H') (qx : ∀ x c' cls d H' ad', Rx x c' → Ext ad F H ad' H' → HoldC T K ad' F H' c' → ExRep T K (Mm ad' F) H' cls d x → E cls d H') : spGX T K c vs H Q E :=
  ⟨ad, F, ss, cs, R, Rx, ⟨h, r, hw⟩, fun s cs' v H' ad' hR x hn h' r' => q s cs' v H' ad' hR (ExtS.ext h x h') h' r', fun x cs' cls d H' ad' hR xe hn h' er => qx x cs' cls d H' ad' hR (ExtS.ext h xe h') h' er⟩
end
section
variable {X : Cx} {T : Tab} {W : WX} {n : Nat} {e o : Expr} {es : List Expr} {kws : List Keyword} {pos p apos : Pos} {w wo : WpE} {wA wK : WpA} {c : CtGX} {k cn pn : Nat} {f g C : Addr} {fd : FuncData} {ps ks fn : List Str} {y m : Str} {gV : List V → List V → List V} {fu : List D → List D → List D}
def makeAX (cn : Nat) (c : CtGX) (ds : List D) (cs : List Cell) (R : RV) (Rx : RX) : Prop := ∀ x : Addr, c (.dat (.cls x) :: ds.map Sl.dat) (cs ++ [.insA x cn []]) (fun s c1 => s = .dat .non ∧ R (.dat (.cls x)) c1) Rx
theorem mkAX_then {K : PySem.W.Frag} {ad : List Addr} {F : Addr → Prop} {H : Hp} {cs : List Cell} {ws : List V} {ds : List D} {R : RV} {Rx : RX} {Q : VK} {E : XK} {x dx : Addr} (hT : T cn = some (C, fn)) (h : HoldC T K ad F H cs) (r : Reps T K (Mm ad F) H ws ds) (hx : H x = none) (hdx : H dx = none) (ne : dx ≠ x) (hw : makeAX cn c ds cs R Rx)
    (q : ∀ s c' v H' ad', R s c' → Ext ad F H ad' H' → HoldC T K ad' F H' c' → SlRep T K ad' F H' v s → Q v H') (qx : ∀ x c' cls d H' ad', Rx x c' → Ext ad F H ad' H' → HoldC T K ad' F H' c' → ExRep T K (Mm ad' F) H' cls d x → E cls d H') : spGX T K c (.ref x :: ws) (upd (upd H dx (.own x)) x (.ins C dx [])) (fun v H2 => v = .non ∧ Q (.ref x) H2) E := by
  obtain ⟨h1, x1⟩ := h.newo (o := .own x) hdx
  have hx1 : upd H dx (.own x) x = none := by rw [upd_ne ne.symm]; exact hx
  obtain ⟨h2, x2⟩ := h1.cell (c := .insA x cn []) (o := .ins C dx []) hx1 ⟨C, fn, dx, [], ⟨hT, upd_same, rfl, .nil⟩, rfl⟩
  have x12 := x1.trans h1 x2
  refine callGX_then (ss := .dat (.cls x) :: ds.map Sl.dat) h2 ⟨Rep.cls, SlReps.of (r.kp x12.kp)⟩ (hw x) (fun s c' v H' ad' hR x3 h3 r3 => ?_) fun y c' cls d H' ad' hR x3 h3 er => qx y c' cls d H' ad' hR (x12.trans h2 x3) h3 er
  obtain ⟨rfl, hR⟩ := hR
  have r3 : Rep T K (Mm ad' F) H' v .non := r3
  cases r3
  exact ⟨rfl, q _ _ (.ref x) H' ad' hR (x12.trans h2 x3) h3 Rep.cls⟩
def wMakeAX (cn : Nat) (c : CtGX) (pn kn : Nat) (fu : List D → List D → List D) (wA wK : WpA) : WpE := fun sl cs R Rx => wA sl cs (fun ss c1 => wDats ss fun vs => wK sl c1 (fun zz c2 => wDats zz fun zs => vs.length = pn ∧ zs.length = kn ∧ makeAX cn c (fu vs zs) c2 R Rx) Rx) Rx
theorem je_makeAX (tk : Takes X W) (hT : T cn = some (C, fn)) (M : Mk X.K C g) (G : FnOk X.prog X.w X.K X.mg X.base (L2.CX X.prog X.w) k g fd ps (spGX T X.K c)) (hr : Room (k + 1) X.A) (hm : X.mg y = some (.ref C)) (hb : ∃ gg, KBn X.K fd ps (pn + 1) ks gg gV)
    (hp : ∀ vs zs : List D, vs.length = pn → zs.length = ks.length → Put X.K gV vs zs (fu vs zs))
    (ha : JA X T W (e :: es) wA) (hkw : JK X T W kws wK) (hg : Gl X y := by rfl)
    (hall : (backToKw pos (keywordEach kws X.env)).all (·.1.isSome) = true := by rfl) (hks : (backToKw pos (keywordEach kws X.env)).filterMap (·.1) = ks := by rfl) (hdb : (y == ("__debug__" : Str)) = false := by decide)
    (he : starEach (e :: es) X.env = (false, eval e X.env) :: starEach es X.env := by rfl) (hpl : ((backTo pos (starEach (e :: es) X.env)).any (·.1) || (backToKw pos (keywordEach kws X.env)).any (·.1.isNone)) = false := by rfl) :
    JE X T W (.Call (.Name y p) (e :: es) kws pos) (wMakeAX cn c pn ks.length fu wA wK) := by
  obtain ⟨gg, hb⟩ := hb
  exact weak (pe_mkS (E := WE W) M G hr hg hm hb (passAt tk) ha hkw hall hks hdb he hpl) fun σ H Q ⟨ad, F, sl, cs, R, Rx, h0, hw, q, qx⟩ => ⟨ad, F, sl, cs, _, Rx, h0, hw, fun ss c1 ws H1 ad1 hw1 x1 h1 r1 => by
    have hw1' := wDats_of hw1
    clear hw1
    obtain ⟨args, e0, hw1⟩ := hw1'
    subst e0
    refine ⟨ad1, F, sl, c1, _, Rx, h1, hw1, fun zz c2 zs H2 ad2 hw2 x2 h2 r2 => ?_, qx.on x1 h1⟩
    obtain ⟨kargs, rfl, l1, l2, hw2⟩ := wDats_of hw2
    have w1 := r1.dats
    have w2 := r2.dats
    refine ⟨by rw [w1.length]; exact l1, by rw [w2.length]; exact l2, fun a b ha hb ne => ?_⟩
    obtain ⟨us, e1, e2⟩ := hp args kargs l1 l2 (.ref a) ws zs w1.length w2.length
    rw [e1]
    have rr := e2 _ _ _ (w1.kp x2.kp) w2
    exact mkAX_then hT h2.hc rr ha hb ne hw2 (fun s c' v H' ad' hR x3 k3 r3 => q s c' v H' ad' hR (x1.trans h1.hc (x2.trans h2.hc x3)) (h2.to x3 k3) r3) fun x c' cls d H' ad' hR x3 k3 er => qx x c' cls d H' ad' hR (x1.trans h1.hc (x2.trans h2.hc x3)) (h2.to x3 k3) er, qx⟩
end
end Dl
namespace Dl
open PySem L2
def RP2 (T : Tab) (K : PySem.W.Frag) (r : R2) (s1 s2 : Sl) (cs : List Cell) (R : RV) : Prop :=
  ∀ ad F H v w (Q : VK), HoldC T K ad F H cs → SlRep T K ad F H v s1 → SlRep T K ad F H w s2 → (∀ s c z H' ad', R s c → Ext ad F H ad' H' → HoldC T K ad' F H' c → SlRep T K ad' F H' z s → Q z H') → r v w H Q
def RP1 (T : Tab) (K : PySem.W.Frag) (r : V → Hp → VK → Prop) (s1 : Sl) (cs : List Cell) (R : RV) : Prop :=
  ∀ ad F H v (Q : VK), HoldC T K ad F H cs → SlRep T K ad F H v s1 → (∀ s c z H' ad', R s c → Ext ad F H ad' H' → HoldC T K ad' F H' c → SlRep T K ad' F H' z s → Q z H') → r v H Q
def JBinP (X : Cx) (T : Tab) (op : Operator) (w : W2) : Prop := ∀ s1 s2 cs R, w s1 s2 cs R → ∃ r, OpR X (binaryOp op) r ∧ RP2 T X.K r s1 s2 cs R
def JCmpP (X : Cx) (T : Tab) (op : CmpOp) (w : W2) : Prop := ∀ s1 s2 cs R, w s1 s2 cs R → ∃ r, OpR X (compareOp op) r ∧ RP2 T X.K r s1 s2 cs R
def JUnP (X : Cx) (T : Tab) (op : UnaryOp) (w : W1) : Prop := ∀ s1 cs R, w s1 cs R → ∃ r, UnR X (unaryOp op) r ∧ RP1 T X.K r s1 cs R
section
variable {X : Cx} {T : Tab} {W : WX} {op : Operator} {cop : CmpOp} {uop : UnaryOp} {w v : W2} {a b : Expr} {pos : Pos} {wa wb : WpE}
theorem RP2.of {K : PySem.W.Frag} {r : R2} {s1 s2 s : Sl} {cs cs' : List Cell} {R : RV} (h : R2D T K r s1 s2 cs s cs') (hR : R s cs') : RP2 T K r s1 s2 cs R := fun ad F H v w Q c r1 r2 q => h ad F H v w Q c r1 r2 fun z H' ad' x k rz => q s cs' z H' ad' hR x k rz
theorem JBin.P (h : JBin X T op w) : JBinP X T op w := fun s1 s2 cs R hw => by
  obtain ⟨s, c, ⟨r, o1, o2⟩, hR⟩ := h _ _ _ _ hw
  exact ⟨r, o1, RP2.of o2 hR⟩
theorem JCmp.P (h : JCmp X T cop w) : JCmpP X T cop w := fun s1 s2 cs R hw => by
  obtain ⟨s, c, ⟨r, o1, o2⟩, hR⟩ := h _ _ _ _ hw
  exact ⟨r, o1, RP2.of o2 hR⟩
theorem JUn.P {w : W1} (h : JUn X T uop w) : JUnP X T uop w := fun s1 cs R hw => by
  obtain ⟨s, c, ⟨r, o1, o2⟩, hR⟩ := h _ _ _ hw
  exact ⟨r, o1, fun ad F H v Q k r1 q => o2 ad F H v Q k r1 fun z H' ad' x k rz => q s c z H' ad' hR x k rz⟩
def orW (v w : W2) : W2 := fun s1 s2 cs R => v s1 s2 cs R ∨ w s1 s2 cs R
def orW1 (v w : W1) : W1 := fun s1 cs R => v s1 cs R ∨ w s1 cs R
theorem jb_or (h : JBinP X T op v) (g : JBinP X T op w) : JBinP X T op (orW v w) := fun s1 s2 cs R z => z.elim (h _ _ _ _) (g _ _ _ _)
theorem jc_or (h : JCmpP X T cop v) (g : JCmpP X T cop w) : JCmpP X T cop (orW v w) := fun s1 s2 cs R z => z.elim (h _ _ _ _) (g _ _ _ _)
theorem ju_or {v w : W1} (h : JUnP X T uop v) (g : JUnP X T uop w) : JUnP X T uop (orW1 v w) := fun s1 cs R z => z.elim (h _ _ _) (g _ _ _)
theorem je_binP (ho : JBinP X T op w) (ha : JE X T W a wa) (hb : JE X T W b wb) : JE X T W (.BinOp a op b pos) (wTwo wa wb w) :=
  weak (pe_op opAll ha hb) fun σ H Q ⟨ad, F, sl, cs, R, Rx, h0, hw, q, qx⟩ => ⟨ad, F, sl, cs, _, Rx, h0, hw, fun s1 c1 v H1 ad1 hw1 x1 h1 r1 => ⟨ad1, F, sl, c1, _, Rx, h1, hw1, fun s2 c2 v2 H2 ad2 hw2 x2 h2 r2 => by
    obtain ⟨r, o1, o2⟩ := ho _ _ _ _ hw2
    exact ⟨r, o1, o2 ad2 F H2 v v2 Q h2.hc (r1.ext x2) r2 fun s c3 z H3 ad3 hR x3 k3 r3 => q s c3 z H3 ad3 hR (x1.trans h1.hc (x2.trans h2.hc x3)) (h2.to x3 k3) r3⟩, qx.on x1 h1⟩, qx⟩
theorem je_cmpP (ho : JCmpP X T cop w) (ha : JE X T W a wa) (hb : JE X T W b wb) (hm : behindInMarks cop b = false := by first | exact nomark _ | rfl) : JE X T W (.Compare a [cop] [b] pos) (wTwo wa wb w) :=
  weak (pe_cmpR opAll ha hb hm) fun σ H Q ⟨ad, F, sl, cs, R, Rx, h0, hw, q, qx⟩ => ⟨ad, F, sl, cs, _, Rx, h0, hw, fun s1 c1 v H1 ad1 hw1 x1 h1 r1 => ⟨ad1, F, sl, c1, _, Rx, h1, hw1, fun s2 c2 v2 H2 ad2 hw2 x2 h2 r2 => by
    obtain ⟨r, o1, o2⟩ := ho _ _ _ _ hw2
    exact ⟨r, o1, o2 ad2 F H2 v v2 Q h2.hc (r1.ext x2) r2 fun s c3 z H3 ad3 hR x3 k3 r3 => q s c3 z H3 ad3 hR (x1.trans h1.hc (x2.trans h2.hc x3)) (h2.to x3 k3) r3⟩, qx.on x1 h1⟩, qx⟩
theorem jt_cmpP (ho : JCmpP X T cop w) (ha : JE X T W a wa) (hb : JE X T W b wb) (hm : behindInMarks cop b = false := by first | exact nomark _ | rfl) : JT X T W (.Compare a [cop] [b] pos) (wBl (wTwo wa wb w)) :=
  weakT (pt_cmpR opAll ha hb hm) fun σ H Q ⟨ad, F, sl, cs, R, Rx, h0, hw, q, qx⟩ => ⟨ad, F, sl, cs, _, Rx, h0, hw, fun s1 c1 v H1 ad1 hw1 x1 h1 r1 => ⟨ad1, F, sl, c1, _, Rx, h1, hw1, fun s2 c2 v2 H2 ad2 hw2 x2 h2 r2 => by
    obtain ⟨r, o1, o2⟩ := ho _ _ _ _ hw2
    refine ⟨r, o1, o2 ad2 F H2 v v2 _ h2.hc (r1.ext x2) r2 fun s c3 z H3 ad3 hR x3 k3 r3 => ?_⟩
    obtain ⟨k, rfl, hR⟩ := isB_of hR
    cases r3
    exact ⟨k, rfl, q k c3 H3 ad3 hR (x1.trans h1.hc (x2.trans h2.hc x3)) (h2.to x3 k3)⟩, qx.on x1 h1⟩, qx⟩
theorem je_unP {w : W1} (ho : JUnP X T uop w) (ha : JE X T W a wa) : JE X T W (.UnaryOp uop a pos) (wOne wa w) :=
  weak (pe_un unAll ha) fun σ H Q ⟨ad, F, sl, cs, R, Rx, h0, hw, q, qx⟩ => ⟨ad, F, sl, cs, _, Rx, h0, hw, fun s1 c1 v H1 ad1 hw1 x1 h1 r1 => by
    obtain ⟨r, o1, o2⟩ := ho _ _ _ hw1
    exact ⟨r, o1, o2 ad1 F H1 v Q h1.hc r1 fun s c3 z H3 ad3 hR x3 k3 r3 => q s c3 z H3 ad3 hR (x1.trans h1.hc x3) (h1.to x3 k3) r3⟩, qx⟩
end
section
variable {X : Cx} {T : Tab} {op : Operator} {cop : CmpOp} {cn k : Nat} {C g : Addr} {fn ps : List Str} {fd : FuncData} {c : CtG}
def isRf (cn : Nat) (s : Sl) (cs : List Cell) : Prop := refI cn s cs fun _ _ _ => True
theorem isRf_of {K : PySem.W.Frag} {ad : List Addr} {F : Addr → Prop} {H : Hp} {cs : List Cell} {v : V} {s : Sl} (hT : T cn = some (C, fn)) (h : HoldC T K ad F H cs) (r : SlRep T K ad F H v s) (hw : isRf cn s cs) : ∃ a dx fs, v = .ref a ∧ H a = some (.ins C dx fs) := by
  obtain ⟨p, j, fs, rfl, e0, _⟩ := hw
  have r : Rep T K (Mm ad F) H v (.cls p) := r
  cases r
  obtain ⟨dx, vs, _, e1, hl, _⟩ := h.insA hT e0
  exact ⟨p, dx, _, rfl, e1⟩
def refIW (cn : Nat) (c : CtG) : W2 := fun s1 s2 cs R => isRf cn s1 cs ∧ (∃ i, s2 = .dat (.int i)) ∧ c [s1, s2] cs R
theorem jb_refI (hT : T cn = some (C, fn)) (O : OpC X.K C op g) (G : FnOk X.prog X.w X.K X.mg X.base CX0 k g fd ps (spG T X.K c)) (hr : Room k X.A) (hb : Binds X.K fd ps []) : JBinP X T op (refIW cn c) := fun s1 s2 cs R ⟨h1, ⟨i, h2⟩, hc⟩ => by
  obtain ⟨rc, q1, q2⟩ := O.rc
  obtain ⟨fo, q3⟩ := O.i1
  obtain ⟨ro, q4⟩ := O.i2
  subst h2
  refine ⟨_, op_ownI G hr hb O.sf O.at_ O.fn q1 q2 q3 q4 O.su, fun ad F H v w Q hh r1 r2 q => ?_⟩
  obtain ⟨a, dx, fs, rfl, e1⟩ := isRf_of hT hh r1 h1
  have r3 : Rep T X.K (Mm ad F) H w (.int i) := r2
  cases r3
  exact ⟨a, dx, fs, i, rfl, rfl, e1, callG_then (ss := [s1, .dat (.int i)]) hh ⟨r1, r2, trivial⟩ hc fun s c' v H' ad' hR x2 c2 r2 => q s c' v H' ad' hR x2 c2 r2⟩
def ref2W (cn : Nat) (c : CtG) : W2 := fun s1 s2 cs R => isRf cn s1 cs ∧ isRf cn s2 cs ∧ c [s1, s2] cs R
theorem jc_ref2 (hT : T cn = some (C, fn)) (G : FnOk X.prog X.w X.K X.mg X.base CX0 k g fd ps (spG T X.K c)) (hr : Room k X.A) (hb : Binds X.K fd ps []) (hs : PySem.W.findIn X.K (.ref C) (cmpInfo cop).2.1 = some (some (.ref g))) (hf : PySem.W.isFn X.K (.ref g) = true) (ho : compareOp cop = richCompare cop := by rfl) : JCmpP X T cop (ref2W cn c) := fun s1 s2 cs R ⟨h1, h2, hc⟩ => by
  refine ⟨_, cop_own2 G hr hb hs hf ho, fun ad F H v w Q hh r1 r2 q => ?_⟩
  obtain ⟨a, dx, fs, rfl, e1⟩ := isRf_of hT hh r1 h1
  obtain ⟨b, dy, gs, rfl, e2⟩ := isRf_of hT hh r2 h2
  exact ⟨a, b, dx, dy, _, _, rfl, rfl, e1, e2, callG_then (ss := [s1, s2]) hh ⟨r1, r2, trivial⟩ hc fun s c' v H' ad' hR x2 c2 r2 => q s c' v H' ad' hR x2 c2 r2⟩
def refNW (cn : Nat) (c : CtG) : W1 := fun s1 cs R => isRf cn s1 cs ∧ c [s1] cs R
theorem ju_refN (hT : T cn = some (C, fn)) (G : FnOk X.prog X.w X.K X.mg X.base CX0 k g fd ps (spG T X.K c)) (hr : Room k X.A) (hb : Binds X.K fd ps []) (hs : PySem.W.findIn X.K (.ref C) "__neg__" = some (some (.ref g))) (hf : PySem.W.isFn X.K (.ref g) = true) : JUnP X T .USub (refNW cn c) := fun s1 cs R ⟨h1, hc⟩ => by
  refine ⟨_, un_own G hr hb hs hf, fun ad F H v Q hh r1 q => ?_⟩
  obtain ⟨a, dx, fs, rfl, e1⟩ := isRf_of hT hh r1 h1
  exact ⟨a, dx, fs, rfl, e1, callG_then (ss := [s1]) hh ⟨r1, trivial⟩ hc fun s c' v H' ad' hR x2 c2 r2 => q s c' v H' ad' hR x2 c2 r2⟩
def refLenW (cn : Nat) (c : CtG) (w : WC) : WC := fun ss cs R => (∃ s n, ss = [s] ∧ isRf cn s cs ∧ (c [s] cs fun s' c' => s' = .dat (.int n) ∧ c' = cs) ∧ (0 ≤ n ∧ n < 2 ^ 63) ∧ R (.dat (.int n)) cs) ∨ w ss cs R
theorem jc_refLen {w : WC} (h : JCall X T "len" w) (hT : T cn = some (C, fn)) (G : FnOk X.prog X.w X.K X.mg X.base CX0 k g fd ps (spG T X.K c)) (hr : Room (k + 1) X.A) (hb : Binds X.K fd ps []) (hs : PySem.W.findIn X.K (.ref C) "__len__" = some (some (.ref g))) (hf : PySem.W.isFn X.K (.ref g) = true) : JCall X T "len" (refLenW cn c w) := ⟨h.bo, fun ss cs R hw => by
  rcases hw with ⟨s, n, rfl, h1, hc, hn, hR⟩ | hw
  · refine ⟨_, cs, ⟨_, _, PySem.boot_len, .inl ⟨_, rfl⟩, call_lenO G hr hb hs hf, fun ad F H vs Q hh r q => ?_⟩, hR⟩
    match vs, r with
    | [v], r =>
      obtain ⟨a, dx, fs, rfl, e1⟩ := isRf_of hT hh r.1 h1
      refine ⟨a, dx, fs, rfl, e1, callG_then hh r hc fun s' c' v H' ad' hR x2 c2 r2 => ?_⟩
      obtain ⟨rfl, rfl⟩ := hR
      have r3 : Rep T X.K (Mm ad' F) H' v (.int n) := r2
      cases r3
      exact ⟨n, rfl, hn, q _ H' ad' x2 c2 Rep.int⟩
  · exact h.run _ _ _ hw⟩
end
end Dl
namespace Dl
open PySem L2
section
variable {X : Cx} {T : Tab} {W : WX} {n : Nat} {a b e o ix : Expr} {pos p' : Pos} {wa wb we wo wx w : WpE} {C g : Addr} {fd : FuncData} {ps fn : List Str} {k cn : Nat} {c : CtG} {op : Operator} {x : Str}
def wSubA (cn : Nat) (c : CtG) (wa wb : WpE) : WpE := fun sl cs R Rx => wa sl cs (fun s c1 => wb sl c1 (fun s2 c2 => isRf cn s c2 ∧ c [s, s2] c2 R) Rx) Rx
theorem je_subA (hT : T cn = some (C, fn)) (G : FnOk X.prog X.w X.K X.mg X.base CX0 k g fd ps (spG T X.K c)) (hr : Room (k + 1) X.A) (hb : Binds X.K fd ps []) (hs : PySem.W.findIn X.K (.ref C) "__getitem__" = some (some (.ref g))) (hf : PySem.W.fnIn X.K g = true) (hfn : PySem.W.isFn X.K (.ref g) = true)
    (ha : JE X T W a wa) (hb' : JE X T W b wb) (hp : PlainIxO b := by intro _ _; rfl) : JE X T W (.Subscript a b pos) (wSubA cn c wa wb) :=
  weak (pe_subO (E := fun _ => E0) G hr hb (fun _ _ _ _ _ _ _ z => z.elim) hs hf hfn ha hb' hp) fun σ H Q ⟨ad, F, sl, cs, R, Rx, h0, hw, q, qx⟩ => ⟨ad, F, sl, cs, _, Rx, h0, hw, fun s c1 v H1 ad1 hw1 x1 h1 r1 => ⟨ad1, F, sl, c1, _, Rx, h1, hw1, fun s2 c2 u H2 ad2 hw2 x2 h2 r2 => by
    obtain ⟨o, dx, fs, rfl, eo⟩ := isRf_of hT h2.hc (r1.ext x2) hw2.1
    exact ⟨o, dx, fs, rfl, eo, callG_then (E := E0) (ss := [s, s2]) h2.hc ⟨r1.ext x2, r2, trivial⟩ hw2.2 fun s' c' v H' ad' hR x3 k3 r3 => q s' c' v H' ad' hR (x1.trans h1.hc (x2.trans h2.hc x3)) (h2.to x3 k3) r3⟩, qx.on x1 h1⟩, qx⟩
def rSetO (C : Addr) (sp : Sp) : TSet := fun o i v H Q => ∃ a dx fs, o = .ref a ∧ H a = some (.ins C dx fs) ∧ sp [o, i, v] H (fun _ H' => Q H') E0
theorem set_own {sp : Sp} (G : FnOk X.prog X.w X.K X.mg X.base CX0 k g fd ps sp) (hr : Room k X.A) (hb : Binds X.K fd ps []) (hq : PySem.W.noSeq X.K C = true) (hs : PySem.W.findIn X.K (.ref C) "__setitem__" = some (some (.ref g))) (hf : PySem.W.isFn X.K (.ref g) = true) : PSet X (rSetO C sp) := by
  intro pins s σ H o i v ov iv u Q I ro ri rv h
  obtain ⟨a, dx, fs, rfl, ea, hsp⟩ := h
  cases (show ov = Value.ref a from ro)
  obtain ⟨od, J⟩ := inst_get I ea
  obtain ⟨m, hF⟩ := I.fr
  refine PySem.W.ksp_setItem hF I.ok.mod.kin J hq hs hf (thn (run_vals (us := [.ref a, iv, u]) (vs := [.ref a, i, v]) G hr hb I (.cons rfl (.cons ri (.cons rv .nil))) hsp) fun u' s' z => ?_)
  obtain ⟨y, H', I', _, q⟩ := z
  exact ⟨H', I', q⟩
def wSetA (cn : Nat) (c : CtG) (we wo wx : WpE) : WS := fun S P => we S.sl S.cs (fun d c1 => wo S.sl c1 (fun s c2 => wx S.sl c2 (fun i c3 => isRf cn s c3 ∧ c [s, i, d] c3 fun _ c4 => P.nx ⟨S.sl, c4⟩) (fun x c => P.ex x ⟨S.sl, c⟩)) (fun x c => P.ex x ⟨S.sl, c⟩)) (fun x c => P.ex x ⟨S.sl, c⟩)
theorem js_setA (hT : T cn = some (C, fn)) (G : FnOk X.prog X.w X.K X.mg X.base CX0 k g fd ps (spG T X.K c)) (hr : Room k X.A) (hb : Binds X.K fd ps []) (hq : PySem.W.noSeq X.K C = true) (hsi : PySem.W.findIn X.K (.ref C) "__setitem__" = some (some (.ref g))) (hf : PySem.W.isFn X.K (.ref g) = true)
    (he : JE X T W e we) (ho : JE X T W o wo) (hx : JE X T W ix wx)
    (ha : ∀ v, assign (.Subscript o ix p') X.env v = (do
      let ov ← holding [v] (eval o X.env)
      let iv ← holding [v, ov] (eval ix X.env)
      standAt p'
      holding [v, ov, iv] (setItem ov iv v)
      release [v, ov, iv] []) := by intro _; rfl)
    (hs : swapsWithSole [.Subscript o ix p'] e pos.line X.env = pure false := by rfl) (hw : swappedStores [.Subscript o ix p'] e X.env = pure none := by rfl)
    (h1 : (assignEach [.Subscript o ix p'] X.env).map (·.2) = [assign (.Subscript o ix p') X.env] := by rfl) : JS X T W n (.Assign [.Subscript o ix p'] e pos) (wSetA cn c we wo wx) := fun S P h =>
  weakS (ps_asg he (pg_sub ho hx (set_own G hr hb hq hsi hf) ha) hs hw h1) fun D σ H ⟨ad, F, hn, h0, q1, q2, q3, q4, q5⟩ => ⟨ad, F, S.sl, S.cs, _, _, h0, h, fun d c1 v H1 ad1 hR1 x1 h1 r1 => ⟨ad1, F, S.sl, c1, _, _, h1, hR1, fun s c2 w H2 ad2 hR2 x2 h2 r2 => ⟨ad2, F, S.sl, c2, _, _, h2, hR2, fun i c3 z H3 ad3 hR3 x3 h3 r3 => by
    obtain ⟨hi, hc⟩ := hR3
    obtain ⟨o, dx, fs, rfl, eo⟩ := isRf_of hT h3.hc (r2.ext x3) hi
    refine ⟨o, dx, fs, rfl, eo, callG_then (E := E0) (ss := [s, i, d]) h3.hc ⟨r2.ext x3, r3, (r1.ext x2).ext x3, trivial⟩ hc fun s' c' v' H' ad' hR x4 k4 r4 => ?_⟩
    have xx := x1.trans h1.hc (x2.trans h2.hc (x3.trans h3.hc x4))
    exact q1 _ _ H' ad' (xx.s hn) (xx.le hn) (h3.to x4 k4) hR, ((raz_of hn q5).on x1 h1).on x2 h2⟩, (raz_of hn q5).on x1 h1⟩, raz_of hn q5⟩
structure InpC (K : PySem.W.Frag) (C : Addr) (op : Operator) (g : Addr) : Prop where
  sf : PySem.W.selfFirst K C = true
  at_ : PySem.W.findIn K (.ref C) (dunderI op.info.2) = some (some (.ref g))
  fn : PySem.W.isFn K (.ref g) = true
theorem iop_own {sp : Sp} (G : FnOk X.prog X.w X.K X.mg X.base CX0 k g fd ps sp) (hr : Room k X.A) (hb : Binds X.K fd ps []) (O : InpC X.K C op g) :
    OpR X (inplaceOp op) (fun x y H Q => ∃ a dx fs, x = .ref a ∧ H a = some (.ins C dx fs) ∧ sp [x, y] H Q E0) := by
  intro pins s σ H x y v u Q I rx ry h
  obtain ⟨a, dx, fs, rfl, ea, hsp⟩ := h
  cases rx
  obtain ⟨od, J⟩ := inst_get I ea
  obtain ⟨m, hF⟩ := I.fr
  exact PySem.W.ksp_inplace hF I.ok.mod.kin J O.sf O.at_ O.fn (thn (run_vals (us := [.ref a, u]) (vs := [.ref a, y]) G hr hb I (.cons rfl (.cons ry .nil)) hsp) fun _ _ z => cmpb z)
def JIopP (X : Cx) (T : Tab) (op : Operator) (w : W2) : Prop := ∀ s1 s2 cs R, w s1 s2 cs R → ∃ r, OpR X (inplaceOp op) r ∧ RP2 T X.K r s1 s2 cs R
theorem JIop.P {w : W2} (h : JIop X T op w) : JIopP X T op w := fun s1 s2 cs R hw => by
  obtain ⟨s, c, ⟨r, o1, o2⟩, hR⟩ := h _ _ _ _ hw
  exact ⟨r, o1, RP2.of o2 hR⟩
def refOpW (cn : Nat) (c : CtG) : W2 := fun s1 s2 cs R => isRf cn s1 cs ∧ c [s1, s2] cs R
theorem jp_ref (hT : T cn = some (C, fn)) (G : FnOk X.prog X.w X.K X.mg X.base CX0 k g fd ps (spG T X.K c)) (hr : Room k X.A) (hb : Binds X.K fd ps []) (O : InpC X.K C op g) : JIopP X T op (refOpW cn c) := fun s1 s2 cs R ⟨h1, hc⟩ => by
  refine ⟨_, iop_own G hr hb O, fun ad F H v w Q hh r1 r2 q => ?_⟩
  obtain ⟨a, dx, fs, rfl, e1⟩ := isRf_of hT hh r1 h1
  exact ⟨a, dx, fs, rfl, e1, callG_then (ss := [s1, s2]) hh ⟨r1, r2, trivial⟩ hc fun s c' v H' ad' hR x2 c2 r2 => q s c' v H' ad' hR x2 c2 r2⟩
theorem js_augP (v : Nat) {ow : W2} (hN : X.N.Nodup) (ho : JIopP X T op ow) (he : JE X T W e w) (hi : X.N[v]? = some x := by rfl) (hx : Loc X.env.scope x := by first | exact Or.inl rfl | exact Or.inr rfl) (hf : X.fn x = true ∨ X.env.scope.names.lookup x = some .local := by first | exact .inl rfl | exact .inr rfl) : JS X T W n (.AugAssign (.Name x p') op e pos) (wAug v w ow) := fun S P h => by
  unfold wAug at h
  split at h
  · rename_i s1 hs
    refine weakS (ps_aug hN hi hx he opAll hf) fun D σ H ⟨ad, F, hn, h0, q1, q2, q3, q4, q5⟩ => ?_
    obtain ⟨u, hu, ru⟩ := h0.sl v s1 hs
    refine ⟨u, hu, ad, F, S.sl, S.cs, _, _, h0, h, fun s2 c v2 H1 ad1 hR x1 h1 r1 => ?_, raz_of hn q5⟩
    obtain ⟨r, o1, o2⟩ := ho _ _ _ _ hR
    refine ⟨r, o1, o2 ad1 F H1 u v2 _ h1.hc (ru.ext x1) r1 fun s c' z H' ad' hR x2 k2 r2 => ?_⟩
    have x12 := x1.trans h1.hc x2
    exact q1 _ _ H' ad' (x12.s hn) (x12.le hn) ((h1.to x2 k2).set r2 v) hR
  · exact h.elim
def wSetLA (we wo wx : WpE) : WS := fun S P => we S.sl S.cs (fun d c1 => wo S.sl c1 (fun s c2 => wx S.sl c2 (fun i c3 => ∃ dd ii p j ds m, (d = .dat dd ∧ i = .dat (.int ii) ∧ s = .dat (.cls p)) ∧ c3[j]? = some (.lstA p ds) ∧ ixN ds.length ii = some m ∧ P.nx ⟨S.sl, c3.set j (.lstA p (ds.set m dd))⟩) (fun x c => P.ex x ⟨S.sl, c⟩)) (fun x c => P.ex x ⟨S.sl, c⟩)) (fun x c => P.ex x ⟨S.sl, c⟩)
theorem HoldC.lstA {K : PySem.W.Frag} {ad : List Addr} {F : Addr → Prop} {H : Hp} {cs : List Cell} {j : Nat} {p : Addr} {ds : List D} (h : HoldC T K ad F H cs) (hc : cs[j]? = some (.lstA p ds)) : ∃ vs, ad[j]? = some p ∧ H p = some (.lst vs) ∧ Reps T K (Mm ad F) H vs ds := by
  have jl : j < ad.length := by rw [h.ln]; exact (List.getElem?_eq_some_iff.mp hc).1
  have e := List.getElem?_eq_getElem jl
  obtain ⟨vs, ⟨e1, r⟩, e2⟩ := h.ce j _ _ e hc
  rw [← e2] at e e1
  exact ⟨vs, e, e1, r⟩
theorem js_setLA (he : JE X T W e we) (ho : JE X T W o wo) (hx : JE X T W ix wx)
    (ha : ∀ v, assign (.Subscript o ix p') X.env v = (do
      let ov ← holding [v] (eval o X.env)
      let iv ← holding [v, ov] (eval ix X.env)
      standAt p'
      holding [v, ov, iv] (setItem ov iv v)
      release [v, ov, iv] []) := by intro _; rfl)
    (hs : swapsWithSole [.Subscript o ix p'] e pos.line X.env = pure false := by rfl) (hw : swappedStores [.Subscript o ix p'] e X.env = pure none := by rfl)
    (h1 : (assignEach [.Subscript o ix p'] X.env).map (·.2) = [assign (.Subscript o ix p') X.env] := by rfl) : JS X T W n (.Assign [.Subscript o ix p'] e pos) (wSetLA we wo wx) := fun S P h =>
  weakS (ps_asg he (pg_sub ho hx set_list ha) hs hw h1) fun D σ H ⟨ad, F, hn, h0, q1, q2, q3, q4, q5⟩ => ⟨ad, F, S.sl, S.cs, _, _, h0, h, fun d c1 v H1 ad1 hR1 x1 h1 r1 => ⟨ad1, F, S.sl, c1, _, _, h1, hR1, fun s c2 w H2 ad2 hR2 x2 h2 r2 => ⟨ad2, F, S.sl, c2, _, _, h2, hR2, fun i c3 z H3 ad3 hR3 x3 h3 r3 => by
    obtain ⟨dd, ii, p, j, ds, m, ⟨rfl, rfl, rfl⟩, hk, hm, hR⟩ := hR3
    have r3 : Rep T X.K (Mm ad3 F) H3 z (.int ii) := r3
    cases r3
    have r2 : Rep T X.K (Mm ad2 F) H2 w (.cls p) := r2
    cases r2
    obtain ⟨vs, ea, e1, q0⟩ := h3.hc.lstA hk
    have rd : Rep T X.K (Mm ad3 F) H3 v dd := SlRep.ext (s := .dat dd) x3 (SlRep.ext (s := .dat dd) x2 r1)
    refine ⟨p, vs, ii, m, rfl, rfl, e1, by rw [q0.length]; exact hm, ?_⟩
    have kp : Kp (Mm ad3 F) H3 (Mm ad3 F) (upd H3 p (.lst (vs.set m v))) := fun b o e nn => ⟨by rw [upd_ne (fun z => nn (.inl (by rw [z]; exact List.mem_of_getElem? ea)))]; exact e, nn⟩
    obtain ⟨k4, x4⟩ := h3.hc.setc (o := .lst (vs.set m v)) (c := .lstA p (ds.set m dd)) ea ⟨_, ⟨upd_same, (q0.set rd m).kp kp⟩, rfl⟩
    have xx := x1.trans h1.hc (x2.trans h2.hc (x3.trans h3.hc x4))
    exact q1 _ _ _ ad3 (xx.s hn) (xx.le hn) (h3.to x4 k4) hR, ((raz_of hn q5).on x1 h1).on x2 h2⟩, (raz_of hn q5).on x1 h1⟩, raz_of hn q5⟩
end
end Dl
namespace Dl
open PySem L2
inductive DeSl (cs : List Cell) : Sls → Sls → Prop
  | nil : DeSl cs [] []
  | none {sl sl' : Sls} : DeSl cs sl sl' → DeSl cs (Option.none :: sl) (Option.none :: sl')
  | some {s s' : Sl} {sl sl' : Sls} : DeR cs s s' → DeSl cs sl sl' → DeSl cs (Option.some s :: sl) (Option.some s' :: sl')
theorem DeSl.len {cs : List Cell} {sl sl' : Sls} (h : DeSl cs sl sl') : sl'.length = sl.length := by
  induction h with
  | nil => rfl
  | none _ ih => simp [ih]
  | some _ _ ih => simp [ih]
theorem DeSl.at {cs : List Cell} {sl sl' : Sls} (h : DeSl cs sl sl') : ∀ {i : Nat} {s' : Sl}, sl'[i]? = Option.some (Option.some s') → ∃ s, sl[i]? = Option.some (Option.some s) ∧ DeR cs s s' := by
  induction h with
  | nil => intro i s' e; simp at e
  | none _ ih => intro i s' e; cases i with
    | zero => simp at e
    | succ i => simpa using ih (i := i) (s' := s') (by simpa using e)
  | some r _ ih => intro i s' e; cases i with
    | zero => simp at e; subst e; exact ⟨_, rfl, r⟩
    | succ i => simpa using ih (i := i) (s' := s') (by simpa using e)
section
variable {X : Cx} {T : Tab} {W : WX} {e : Expr} {w : WpE}
def liSl (s1 : Sl) (l u : Option Int) (cs : List Cell) (R : RV) : Prop := ∃ s1', DeR cs s1 s1' ∧ slcSW s1' l u (cs.map vwC) fun s c => R s (rew cs c)
def wSlcA (wa : WpE) (wl wu : WpO) : WpE := fun sl cs R Rx => wa sl cs (fun s1 c1 => wl sl c1 (fun l c2 => wu sl c2 (fun u c3 => liSl s1 l u c3 R) Rx) Rx) Rx
theorem je_sliceA {pos p2 : Pos} {wa : WpE} {lo hi : Option Expr} {wl wu : WpO} (ha : JE X T W e wa) (hl : JO X T W lo wl) (hu : JO X T W hi wu) : JE X T W (.Subscript e (.Slice lo hi none p2) pos) (wSlcA wa wl wu) :=
  weak (pe_slice slAll ha hl hu) fun σ H Q ⟨ad, F, sl, cs, R, Rx, h0, hw, q, qx⟩ => ⟨ad, F, sl, cs, _, Rx, h0, hw, fun s1 c1 v H1 ad1 hw1 x1 h1 r1 => ⟨ad1, F, sl, c1, _, Rx, h1, hw1, fun l c2 H2 ad2 hw2 x2 h2 => ⟨ad2, F, sl, c2, _, Rx, h2, hw2, fun u c3 H3 ad3 hw3 x3 h3 => by
    obtain ⟨s1', de, hw3⟩ := hw3
    obtain ⟨s, ⟨r, o1, o2⟩, hR⟩ := slcSW_of (X := X) (T := T) hw3
    exact ⟨r, o1, o2 ad3 F H3 v Q h3.hc.vw (((r1.ext x2).ext x3).de h3.hc de) fun z H4 ad4 x4 k4 r4 => q s _ z H4 ad4 hR (x1.trans h1.hc (x2.trans h2.hc (x3.trans h3.hc x4))) (h3.to x4 (h3.hc.re x4 k4)) r4⟩, (qx.on x1 h1).on x2 h2⟩, qx.on x1 h1⟩, qx⟩
def isiAW (tb : String → Option Bool) (ob : Nat → Option Bool) (s : Sl) (cs : List Cell) (k : Bool → Prop) : Prop := (∃ (p : Addr) (j n : Nat) (fs : List (Str × D)), s = .dat (.cls p) ∧ cs[j]? = some (Cell.insA p n fs) ∧ optW (ob n) k) ∨ isiW tb ob s k
def wIsiA (tb : String → Option Bool) (ob : Nat → Option Bool) (w : WpE) : WpE := fun sl cs R Rx => w sl cs (fun s c => isiAW tb ob s c fun b => R (.dat (.bl b)) c) Rx
theorem je_isiA {x : Str} {C2 : Addr} {pos p p2 : Pos} {tb : String → Option Bool} {ob : Nat → Option Bool} (hi : X.mg "isinstance" = none) (hm : X.mg x = some (.ref C2)) (htb : ∀ t b, tb t = some b → PySem.W.kitOne X.K (.type t) (.ref C2) = some b) (hob : ObIs X.K T (.ref C2) ob) (he : JE X T W e w) (hg : Gl X "isinstance" := by rfl) (hg2 : Gl X x := by rfl) (hdb : (x == ("__debug__" : Str)) = false := by decide)
    (hs1 : starEach [e, .Name x p2] X.env = (false, eval e X.env) :: starEach [.Name x p2] X.env := by rfl) (hs2 : starEach [.Name x p2] X.env = (false, eval (.Name x p2) X.env) :: starEach [] X.env := by rfl) (hpl : (backTo pos (starEach [.Name x p2] X.env)).any (·.1) = false := by rfl) :
    JE X T W (.Call (.Name "isinstance" p) [e, .Name x p2] [] pos) (wIsiA tb ob w) :=
  weak (pe_callB call_isi hg hi (by decide +kernel) (pa_cons he (pa_cons (pe_glob (v := .ref C2) hg2 hm rfl hdb) pa_nil hs2) hs1) (by decide) (by decide) hs1 hpl) fun σ H Q ⟨ad, F, sl, cs, R, Rx, h0, hw, q, qx⟩ => ⟨ad, F, sl, cs, _, Rx, h0, hw, fun s c1 v H1 ad1 hw1 x1 h1 r1 => by
    rcases hw1 with ⟨pp, j, n, fs, rfl, e0, hw1⟩ | hw1
    · obtain ⟨k, hk, hR⟩ := optW_of hw1
      obtain ⟨C, fn, hT, hI, hk⟩ := hob _ _ hk
      have r1 : Rep T X.K (Mm ad1 F) H1 v (.cls pp) := r1
      cases r1
      obtain ⟨dx, vs, _, e1, hl, _⟩ := h1.hc.insA hT e0
      exact ⟨_, .ref C2, .ref C, .ref C2, k, rfl, .own C2, .base (.ins e1 hI.cl hI.ca hI.cn hI.ct hI.cm), hk, q _ c1 _ H1 ad1 hR x1 h1 Rep.bl⟩
    · unfold isiW at hw1
      split at hw1
      · obtain ⟨k, hk, hR⟩ := optW_of hw1
        obtain ⟨C, fn, hT, hI, hk⟩ := hob _ _ hk
        cases r1 with
        | @obj a C' dx _ fn' vs' _ ht na e1 hl r =>
          rw [hT] at ht
          cases ht
          exact ⟨_, .ref C2, .ref C, .ref C2, k, rfl, .own C2, .base (.ins e1 hI.cl hI.ca hI.cn hI.ct hI.cm), hk, q _ c1 _ H1 ad1 hR x1 h1 Rep.bl⟩
      · split at hw1
        · rename_i ht
          obtain ⟨k, hk, hR⟩ := optW_of hw1
          exact ⟨v, .ref C2, .type _, .ref C2, k, rfl, .own C2, tyx_of r1 ht, htb _ _ hk, q _ c1 _ H1 ad1 hR x1 h1 Rep.bl⟩
        · exact hw1.elim
      · exact hw1.elim, qx⟩
def eqLW (neg : Bool) : W2 := fun s1 s2 cs R => wL cs s1 fun ds => wL cs s2 fun es => okD (.lst ds) = true ∧ okD (.lst es) = true ∧ R (.dat (.bl (neg.xor (eqD (.lst ds) (.lst es))))) cs
theorem lst_dp {K : PySem.W.Frag} {ad : List Addr} {F : Addr → Prop} {H : Hp} {cs : List Cell} {v : V} {s : Sl} {ds : List D} (h : isLst cs ds s) (c : HoldC T K ad F H cs) (r : SlRep T K ad F H v s) (ok : okD (.lst ds) = true) : Dp K H v (D.lst ds).py ∧ SeqAt.shaped (D.lst ds).py = true := by
  obtain ⟨a, vs, rfl, e, rs⟩ := rd_lst h c r
  have a1 := Bool.and_eq_true_iff.mp ok
  exact ⟨.lst (SqL.of e) (rs.dp a1.1), a1.2⟩
theorem jc_eqL (hu : X.A.units + 64 < cLine) : JCmp X T .Eq (eqLW false) := fun s1 s2 cs R h => by
  unfold eqLW at h
  obtain ⟨ds, h1, h⟩ := wL_of h
  obtain ⟨es, h2, o1, o2, hR⟩ := wL_of h
  exact ⟨.dat (.bl (eqD (.lst ds) (.lst es))), cs, ⟨_, op_eqD hu, fun ad F H v w Q c r1 r2 q => ⟨_, _, (lst_dp h1 c r1 o1).1, (lst_dp h2 c r2 o2).1, (lst_dp h1 c r1 o1).2, (lst_dp h2 c r2 o2).2, q _ H ad .refl c Rep.bl⟩⟩, by rw [Bool.false_xor] at hR; exact hR⟩
end
end Dl
namespace Dl
open PySem L2
section
variable {T : Tab} {P : Program} {w : World} {K : PySem.W.Frag} {mg : Str → Option Value} {base : Heap} {x qual : Str} {st : Stmt} {f : Addr} {fd : FuncData} {N ps : List Str} {k : Nat} {ws : Nat → WS}
end
section
variable {X : Cx} {T : Tab} {W : WX} {e : Expr} {es : List Expr} {pos p : Pos} {wA : WpA} {c : CtG} {k cn : Nat} {f g C : Addr} {fd : FuncData} {ps fn : List Str} {y : Str}
end
end Dl
namespace Dl
open PySem L2
def ctH (c : CtG) : Ct := fun args cs s cs' => (∃ d, s = .dat d) ∧ c args cs fun s0 c0 => s0 = s ∧ c0.take cs.length = cs'
section
variable {T : Tab} {P : Program} {w : World} {K : PySem.W.Frag} {mg : Str → Option Value} {base : Heap} {f : Addr} {fd : FuncData} {ps : List Str} {k : Nat} {c : CtG}
theorem spG_of {vs : List V} {H : Hp} {Q : VK} {E : XK} (h : spC T K (ctH c) vs H Q E) : spG T K c vs H Q E := by
  obtain ⟨ad, F, args, cs, s, cs', hc, r, ⟨⟨d, rfl⟩, hw⟩, q⟩ := h
  refine ⟨ad, F, args, cs, _, hc, r, hw, fun s0 c0 v H' ad' hR x hn h' r' => ?_⟩
  obtain ⟨rfl, rfl⟩ := hR
  have kp : Kp (Mm ad' F) H' (Mm (ad'.take cs.length) F) H' := fun a o e z => ⟨e, fun y => z (y.imp List.mem_of_mem_take id)⟩
  exact q v H' (ad'.take cs.length) (ext_take x) (by rw [List.length_take]; omega) (h'.take _) (Rep.kp kp r')
theorem FnG.toC (F : FnG P w K mg base CX0 k f fd ps (spG T K c)) : FnG P w K mg base CX0 k f fd ps (spC T K (ctH c)) := F.to fun _ _ _ _ h => spG_of h
theorem FnOk.toC (F : FnOk P w K mg base CX0 k f fd ps (spG T K c)) : FnOk P w K mg base CX0 k f fd ps (spC T K (ctH c)) := ⟨fun _ _ _ _ h => F.len _ _ _ _ (spG_of h), fun _ _ _ _ _ _ _ _ _ hr e b v h => F.run _ _ _ _ _ _ _ _ _ hr e b v (spG_of h)⟩
end
section
variable {X : Cx} {T : Tab} {W : WX} {n : Nat} {pos p : Pos}
end
end Dl
namespace Dl
open PySem L2 PyProof.Rows
def pickN (n : Nat) (lo hi st : Option Int) : List Nat := sliceRange (sliceBounds lo hi st n).1 (sliceBounds lo hi st n).2.1 (sliceBounds lo hi st n).2.2
def pickL {α : Type} (ns : List Nat) (xs : List α) : List α := ns.filterMap fun i => xs[i]?
theorem pick_arr (us : List Value) (lo hi st : Option Int) : slicePick us.toArray lo hi st = (pickL (pickN us.length lo hi st) us).toArray := by
  unfold slicePick pickL pickN
  simp
theorem vals_pick {xs : List V} {us : List Value} (r : Vals xs us) : ∀ ns : List Nat, Vals (pickL ns xs) (pickL ns us)
  | [] => .nil
  | i :: ns => by
    have ih := vals_pick r ns
    unfold pickL at ih ⊢
    rw [List.filterMap_cons, List.filterMap_cons]
    cases e : xs[i]? with
    | none =>
      have h' : us[i]? = none := by rw [List.getElem?_eq_none_iff, ← r.length]; exact List.getElem?_eq_none_iff.mp e
      rw [h']
      exact ih
    | some x =>
      obtain ⟨u, h1, h2⟩ := r.get e
      rw [h1]
      exact .cons h2 ih
theorem reps_pick {T : Tab} {K : PySem.W.Frag} {M : Addr → Prop} {H : Hp} {vs : List V} {ds : List D} (r : Reps T K M H vs ds) : ∀ ns : List Nat, Reps T K M H (pickL ns vs) (pickL ns ds)
  | [] => .nil
  | i :: ns => by
    have ih := reps_pick r ns
    unfold pickL at ih ⊢
    rw [List.filterMap_cons, List.filterMap_cons]
    cases e : ds[i]? with
    | none =>
      have h' : vs[i]? = none := by rw [List.getElem?_eq_none_iff, r.length]; exact List.getElem?_eq_none_iff.mp e
      rw [h']
      exact ih
    | some d =>
      obtain ⟨v, h1, h2⟩ := r.get e
      rw [h1]
      exact .cons h2 ih
def tSl3 (K : PySem.W.Frag) (te : TE) (tl th ts : TO) : TE := fun σ H Q => te σ H fun x H1 => tl σ H1 fun lo H2 => th σ H2 fun hi H3 => ts σ H3 fun st H4 => ∃ a xs, x = .ref a ∧ SqL K H4 a xs ∧ st ≠ some 0 ∧ (pickL (pickN xs.length lo hi st) xs).length ≤ sizeLine ∧ ∀ p, H4 p = none → Q (.ref p) (upd H4 p (.lst (pickL (pickN xs.length lo hi st) xs)))
section
variable {X : Cx} {e : Expr} {te : TE} {lo hi st : Option Expr} {tl th ts : TO} {p2 pos : Pos}
theorem pe_slice3 (he : PE X e te) (hl : L2.PO X lo tl) (hh : L2.PO X hi th) (hs : L2.PO X st ts) (hp : ∀ a b : Addr, subscripted (.Slice lo hi st p2) false (.ref a) (.ref b) = operate [.ref a, .ref b] (getItem (.ref a) (.ref b)) := by intro _ _; with_unfolding_all rfl) : PE X (.Subscript e (.Slice lo hi st p2) pos) (tSl3 X.K te tl th ts) := by
  refine ⟨fun pins s σ H Q I h => ?_⟩
  refine Subscript_ (thn (he.run pins s σ H _ I h) fun v s1 z1 => ?_)
  obtain ⟨x, H1, I1, r1, q1⟩ := z1
  refine wpAny_Slice (thn (hl.run pins s1 σ H1 _ I1 q1) fun vl s2 z2 => ?_)
  obtain ⟨l, H2, I2, pl, q2⟩ := z2
  refine thn (hh.run pins s2 σ H2 _ I2 q2) fun vu s3 z3 => ?_
  obtain ⟨u, H3, I3, pu, q3⟩ := z3
  refine thn (hs.run pins s3 σ H3 _ I3 q3) fun vs s4 z4 => ?_
  obtain ⟨o, H4, I4, ps, a, xs, rfl, hx, h0, hz, q⟩ := z4
  cases (show v = Value.ref a from r1)
  have I5 : Inv X pins σ H4 { s4 with heap := s4.heap.push { cls := .type "slice", data := .fields #[vl, vu, vs] } } := I4.kept (t' := s4.toks) fun b ob z => Heap.get?_push_of_some _ z
  obtain ⟨its, r, ht, hn⟩ := I5.list hx
  have hlen := r.length
  have sz : its.toArray.size ≤ sizeLine := by rw [List.size_toArray]; omega
  refine tail_any (ops := [.ref a, .ref s4.heap.objs.size]) ht.isList.typeIs (PySem.slot_list_getitem.lookup) (wpAny_getItem_list_slice ht.isList (Heap.IsSliceOf.new _ vl vu vs) pl pu ps h0 ?_ sz) (hp _ _)
  rw [pick_arr, ← r.length]
  have rp := vals_pick r (pickN xs.length l u o)
  refine ⟨.ref _, _, I5.laid (t' := s4.toks) (o := .lst (pickL (pickN xs.length l u o) xs)) (fun b ob z => Heap.get?_push_of_some _ z) (Nat.le_refl _) ?_, rfl, q _ (I5.hok.fresh (Nat.le_refl _))⟩
  exact ⟨by first | exact hz | (rw [← rp.length]; exact hz), _, 0, rp, Heap.get?_push_size _ rfl⟩
end
def wSl3 (wa : WpE) (wl wu ws : WpO) : WpE := fun sl cs R Rx => wa sl cs (fun s1 c1 => wl sl c1 (fun l c2 => wu sl c2 (fun u c3 => ws sl c3 (fun o c4 => ∃ s1' ds, DeR c4 s1 s1' ∧ lstOf (c4.map vwC) s1' = some ds ∧ o ≠ some 0 ∧ (pickL (pickN ds.length l u o) ds).length ≤ sizeLine ∧ R (.dat (.lst (pickL (pickN ds.length l u o) ds))) c4) Rx) Rx) Rx) Rx
section
variable {X : Cx} {T : Tab} {W : WX} {e : Expr} {wa : WpE} {lo hi st : Option Expr} {wl wu ws : WpO} {p2 pos : Pos}
theorem je_slice3 (ha : JE X T W e wa) (hl : JO X T W lo wl) (hu : JO X T W hi wu) (hs : JO X T W st ws) (hp : ∀ a b : Addr, subscripted (.Slice lo hi st p2) false (.ref a) (.ref b) = operate [.ref a, .ref b] (getItem (.ref a) (.ref b)) := by intro _ _; with_unfolding_all rfl) : JE X T W (.Subscript e (.Slice lo hi st p2) pos) (wSl3 wa wl wu ws) :=
  weak (pe_slice3 ha hl hu hs hp) fun σ H Q ⟨ad, F, sl, cs, R, Rx, h0, hw, q, qx⟩ => ⟨ad, F, sl, cs, _, Rx, h0, hw, fun s1 c1 v H1 ad1 hw1 x1 h1 r1 => ⟨ad1, F, sl, c1, _, Rx, h1, hw1, fun l c2 H2 ad2 hw2 x2 h2 => ⟨ad2, F, sl, c2, _, Rx, h2, hw2, fun u c3 H3 ad3 hw3 x3 h3 => ⟨ad3, F, sl, c3, _, Rx, h3, hw3, fun o c4 H4 ad4 hw4 x4 h4 => by
    obtain ⟨s1', ds, de, hls, h0', hz, hR⟩ := hw4
    obtain ⟨a, ws, rfl, e1, q0⟩ := rd_lst (lstOf_is hls) h4.hc.vw (((r1.ext x2).ext x3).ext x4 |>.de h4.hc de)
    have hq := q0.length
    refine ⟨a, ws, rfl, SqL.of e1, h0', by rw [hq, (reps_pick q0 _).length]; exact hz, fun p hp => ?_⟩
    rw [hq]
    exact new_lst h4.hc (reps_pick q0 _) (fun z H' ad' x5 k5 r5 => q _ c4 z H' ad' hR (x1.trans h1.hc (x2.trans h2.hc (x3.trans h3.hc (x4.trans h4.hc x5)))) (h4.to x5 k5) r5) hp, ((qx.on x1 h1).on x2 h2).on x3 h3⟩, (qx.on x1 h1).on x2 h2⟩, qx.on x1 h1⟩, qx⟩
end
end Dl
namespace Dl
open PySem L2
section
variable {X : Cx} {T : Tab} {cn cm k : Nat} {C C2 g : Addr} {fn fm ps : List Str} {fd : FuncData} {c : CtG}
end
end Dl
namespace Dl
open PySem L2
section
variable {X : Cx} {T : Tab}
end
end Dl
namespace Dl
open PySem L2 PySem.Spec PyProof.Rows
class Chk (p : Prop) where
  b : Bool
  ok : b = true → p
instance (priority := low) chkDec {p : Prop} [d : Decidable p] : Chk p := ⟨@decide p d, fun h => of_decide_eq_true h⟩
instance chkAnd {p q : Prop} [c : Chk p] [d : Chk q] : Chk (p ∧ q) := ⟨c.b && d.b, fun h => ⟨c.ok (Bool.and_eq_true_iff.mp h).1, d.ok (Bool.and_eq_true_iff.mp h).2⟩⟩
instance chkBT {b : Bool} : Chk (b = true) := ⟨b, id⟩
theorem b2 {a b : Bool} (h : (a && b) = true) : a = true ∧ b = true := Bool.and_eq_true_iff.mp h
section
variable {K : PySem.W.Frag} {C g p : Addr} {op : Operator} {m : Str}
instance chkCIn : Chk (CIn K C) := ⟨Chk.b (PySem.W.typeIn K (.ref C) = some (.type "type") ∧ PySem.W.readsIn K C (.type "type") = true ∧ PySem.W.specialIn K (.ref C) "__getattribute__" = some (some (.builtin "type.__getattribute__"))) && (match PySem.W.findCls K (.ref C) (.type "type") "__init__" with
    | some (.val (.builtin i)) => decide (i = "ValueError.__init__")
    | _ => false), fun h => by
  obtain ⟨h1, h2⟩ := b2 h
  obtain ⟨x1, x2, x3⟩ := Chk.ok h1
  refine ⟨x1, x2, x3, ?_⟩
  split at h2
  · rename_i i e
    rw [of_decide_eq_true h2] at e
    exact e
  · cases h2⟩
instance chkExcC : Chk (ExcC K C) := ⟨Chk.b (PySem.W.findIn K (.ref C) "__getattribute__" = some (some (.builtin "BaseException.__getattribute__")) ∧ PySem.W.findIn K (.ref C) "__getattr__" = some none ∧ PySem.W.subIn K (.ref C) (.type "BaseException") = some true ∧ PySem.W.hasDictIn K C = true ∧ PySem.W.findIn K (.ref C) "__class__" = some (some (.builtin "object.__class__")) ∧ PySem.W.specialIn K (.builtin "object.__class__") "__get__" = some (some (.builtin "getset_descriptor.__get__")) ∧ PySem.W.takesIn K (.builtin "object.__class__") = some true ∧ PySem.W.mroIn K C (.type "object") = some true), fun h =>
  let ⟨x1, x2, x3, x4, x5, x6, x7, x8⟩ := Chk.ok h
  ⟨x1, x2, x3, x4, x5, x6, x7, x8⟩⟩
instance chkXfC : Chk (XfC K C) := ⟨xfB K C, xfB_ok⟩
def excB (K : PySem.W.Frag) (C : Addr) (r : List Value → Bool) (nid : String) : Bool := match K.lookup C with
  | some ⟨.type "type", _, .cls cd, sl⟩ => (match cd.mro, sl.toList with
    | .ref C' :: bm, [_, _, _, _, some (.builtin n), _] => C' == C && n == nid && !cd.hasDel && cd.hasDict && r bm
    | _, _ => false)
  | _ => false
theorem excB_ok {r : List Value → Bool} {nid : String} (q : excB K C r nid = true) : ∃ nm qn N bs bm sn sub ab col dd k0 k1 k2 k3 k5, K.lookup C = some (excClassObj nm qn C N bs bm true sn sub ab col dd k0 k1 k2 k3 k5 nid) ∧ r bm = true := by
  unfold excB at q
  split at q
  · rename_i dd cd sl ho
    split at q
    · rename_i C' bm k0 k1 k2 k3 n k5 hm hs
      simp only [Bool.and_eq_true, beq_iff_eq, Bool.not_eq_true'] at q
      obtain ⟨⟨⟨⟨e1, e2⟩, e3⟩, e4⟩, hr⟩ := q
      subst e1 e2
      obtain ⟨nm, bs, mro, ns, qn, hd, sn, sub, ab, col, del⟩ := cd
      dsimp only at hm e3 e4
      subst hm e3 e4
      have hsl : sl = #[k0, k1, k2, k3, some (.builtin n), k5] := by
        obtain ⟨l⟩ := sl
        exact congrArg Array.mk hs
      subst hsl
      exact ⟨nm, qn, ns, bs, bm, sn, sub, ab, col, dd, k0, k1, k2, k3, k5, ho, hr⟩
    · cases q
  · cases q
instance chkOexC : Chk (OexC K C) := ⟨excB K C PySem.HandSPX.refsVE "ValueError.__new__" && Chk.b (PySem.W.findIn K (.ref C) "__setattr__" = some (some (.builtin "object.__setattr__")) ∧ PySem.W.subIn K (.ref C) (.type "BaseException") = some true ∧ PySem.W.typeIn K (.ref C) = some (.type "type") ∧ PySem.W.keepIn K (.ref C) = true), fun h => by
  obtain ⟨h1, h2⟩ := b2 h
  obtain ⟨x1, x2, x3, x4⟩ := Chk.ok h2
  obtain ⟨nm, qn, N, bs, bm, sn, sub, ab, col, dd, k0, k1, k2, k3, k5, e, r⟩ := excB_ok h1
  exact ⟨⟨nm, qn, N, bs, bm, sn, sub, ab, col, dd, k0, k1, k2, k3, k5, e, r⟩, x1, x2, x3, x4⟩⟩
def tlB (t : List Value) : List Value → Bool
  | .ref c :: r => decide (Value.ref c :: r = t) || tlB t r
  | l => decide (l = t)
theorem tlB_ok {t : List Value} : ∀ {l : List Value}, tlB t l = true → Tl t l
  | l, h => by
    unfold tlB at h
    split at h
    · rename_i c r
      rcases Bool.or_eq_true_iff.mp h with h | h
      · rw [of_decide_eq_true h]; exact .base
      · exact .ref (tlB_ok h)
    · rw [of_decide_eq_true h]; exact .base
instance chkOexB {t : List Value} {nid : String} : Chk (OexB K C t nid) := ⟨excB K C (tlB t) nid && Chk.b (PySem.W.findIn K (.ref C) "__setattr__" = some (some (.builtin "object.__setattr__")) ∧ PySem.W.subIn K (.ref C) (.type "BaseException") = some true ∧ PySem.W.typeIn K (.ref C) = some (.type "type") ∧ PySem.W.keepIn K (.ref C) = true), fun h => by
  obtain ⟨h1, h2⟩ := b2 h
  obtain ⟨x1, x2, x3, x4⟩ := Chk.ok h2
  obtain ⟨nm, qn, N, bs, bm, sn, sub, ab, col, dd, k0, k1, k2, k3, k5, e, r⟩ := excB_ok h1
  exact ⟨⟨nm, qn, N, bs, bm, sn, sub, ab, col, dd, k0, k1, k2, k3, k5, e, tlB_ok r⟩, x1, x2, x3, x4⟩⟩
instance chkNeC : Chk (NeC K C) := ⟨Chk.b (PySem.W.mroIn K C (.type "object") = some true ∧ PySem.W.findIn K (.ref C) "__ne__" = some (some (.builtin "object.__ne__"))), fun h => let ⟨x1, x2⟩ := Chk.ok h; ⟨x1, x2⟩⟩
instance chkOthC : Chk (OthC K C) := ⟨Chk.b (PySem.W.subIn K (.type "NoneType") (.ref C) = some false ∧ PySem.W.subIn K (.type "bool") (.ref C) = some false ∧ PySem.W.subIn K (.type "int") (.ref C) = some false ∧ PySem.W.subIn K (.type "str") (.ref C) = some false ∧ PySem.W.subIn K (.type "tuple") (.ref C) = some false ∧ PySem.W.subIn K (.type "list") (.ref C) = some false), fun h => let ⟨x1, x2, x3, x4, x5, x6⟩ := Chk.ok h; ⟨x1, x2, x3, x4, x5, x6⟩⟩
instance chkNoIn : Chk (NoIn K C op) := ⟨(match PySem.W.clsIn K C with
    | some cd => decide (cd.mro = [.ref C, .type "object"])
    | none => false) && Chk.b (PySem.W.findIn K (.ref C) (dunderI op.info.2) = some none ∧ PySem.W.findIn K (.type "object") (dunderI op.info.2) = some none), fun h => by
  obtain ⟨h1, h2⟩ := b2 h
  obtain ⟨x1, x2⟩ := Chk.ok h2
  refine ⟨?_, x1, x2⟩
  split at h1
  · rename_i cd e
    exact ⟨cd, e, of_decide_eq_true h1⟩
  · cases h1⟩
instance chkOpC : Chk (OpC K C op g) := ⟨Chk.b (PySem.W.selfFirst K C = true ∧ PySem.W.findIn K (.ref C) (PySem.dunder op.info.2) = some (some (.ref g)) ∧ PySem.W.isFn K (.ref g) = true ∧ PySem.W.subIn K (.type "int") (.ref C) = some false) && ((match PySem.W.findIn K (.ref C) (dunderR op.info.2) with
    | some none => true
    | some (some (.ref _)) => true
    | _ => false) && ((PySem.W.findIn K (.type "int") (PySem.dunder op.info.2)).isSome && (PySem.W.findIn K (.type "int") (dunderR op.info.2)).isSome)), fun h => by
  obtain ⟨h1, h⟩ := b2 h
  obtain ⟨h2, h⟩ := b2 h
  obtain ⟨h3, h4⟩ := b2 h
  obtain ⟨x1, x2, x3, x4⟩ := Chk.ok h1
  refine ⟨x1, x2, x3, ?_, Option.isSome_iff_exists.mp h3, Option.isSome_iff_exists.mp h4, x4⟩
  split at h2
  · rename_i e; exact ⟨_, e, .inl rfl⟩
  · rename_i e; exact ⟨_, e, .inr ⟨_, rfl⟩⟩
  · cases h2⟩
instance chkOpR : Chk (OpR' K C op g) := ⟨Chk.b (PySem.W.selfFirst K C = true ∧ PySem.W.findIn K (.ref C) (dunderR op.info.2) = some (some (.ref g)) ∧ PySem.W.isFn K (.ref g) = true ∧ PySem.W.subIn K (.ref C) (.type "int") = some false) && ((match PySem.W.findIn K (.ref C) (PySem.dunder op.info.2) with
    | some (some (.ref _)) => true
    | _ => false) && (match PySem.W.findIn K (.type "int") (PySem.dunder op.info.2), PySem.W.findIn K (.type "int") (dunderR op.info.2) with
    | some fo, some ro => ((fo.isSome && !isSeqSlot fo) || (ro.isSome && !isSeqSlot ro))
    | _, _ => false)), fun h => by
  obtain ⟨h1, h⟩ := b2 h
  obtain ⟨h2, h3⟩ := b2 h
  obtain ⟨x1, x2, x3, x4⟩ := Chk.ok h1
  refine ⟨x1, ?_, x2, x3, ?_, x4⟩
  · split at h2
    · rename_i e; exact ⟨_, e⟩
    · cases h2
  · split at h3
    · rename_i fo ro e1 e2; exact ⟨fo, ro, e1, e2, h3⟩
    · cases h3⟩
instance chkProp : Chk (PropOf K C m p g) := ⟨Chk.b (PySem.W.findIn K (.ref C) m = some (some (.ref p)) ∧ PySem.W.specialIn K (.ref p) "__get__" = some (some (.builtin "property.__get__")) ∧ PySem.W.takesIn K (.ref p) = some true) && (match PySem.W.recIn K p "property" with
    | some (.ref f :: _) => decide (f = g)
    | _ => false), fun h => by
  obtain ⟨h1, h2⟩ := b2 h
  obtain ⟨x1, x2, x3⟩ := Chk.ok h1
  refine ⟨x1, x2, x3, ?_⟩
  split at h2
  · rename_i f r e
    rw [of_decide_eq_true h2] at e
    exact ⟨r, e⟩
  · cases h2⟩
instance chkSmC : Chk (SmC K C m p g) := ⟨Chk.b (PySem.W.specialIn K (.ref C) "__getattribute__" = some (some (.builtin "type.__getattribute__")) ∧ PySem.W.typeIn K (.ref C) = some (.type "type") ∧ PySem.W.readsIn K C (.type "type") = true) && ((match PySem.W.findCls K (.ref C) (.type "type") m with
    | some (.get (.builtin i) (.ref p') .none (.ref C')) => decide (i = "staticmethod.__get__") && (decide (p' = p) && decide (C' = C))
    | _ => false) && (match PySem.W.recIn K p "staticmethod" with
    | some (.ref f :: _) => decide (f = g)
    | _ => false)), fun h => by
  obtain ⟨h1, h⟩ := b2 h
  obtain ⟨h2, h3⟩ := b2 h
  obtain ⟨x1, x2, x3⟩ := Chk.ok h1
  refine ⟨x1, x2, x3, ?_, ?_⟩
  · split at h2
    · rename_i i p' C' e
      obtain ⟨y1, y⟩ := b2 h2
      obtain ⟨y2, y3⟩ := b2 y
      rw [of_decide_eq_true y1, of_decide_eq_true y2, of_decide_eq_true y3] at e
      exact e
    · cases h2
  · split at h3
    · rename_i f r e
      rw [of_decide_eq_true h3] at e
      exact ⟨r, e⟩
    · cases h3⟩
instance chkGint {x : Str} {i : Int} : Chk (∃ t, PySem.W.nsIn K mainGlobals x = some (some (.int i t))) := ⟨(match PySem.W.nsIn K mainGlobals x with
    | some (some (.int j _)) => decide (j = i)
    | _ => false), fun h => by
  split at h
  · rename_i j t e
    rw [of_decide_eq_true h] at e
    exact ⟨t, e⟩
  · cases h⟩
instance chkGstr {x y : Str} : Chk (∃ t, PySem.W.nsIn K mainGlobals x = some (some (.str y t))) := ⟨(match PySem.W.nsIn K mainGlobals x with
    | some (some (.str z _)) => decide (z = y)
    | _ => false), fun h => by
  split at h
  · rename_i j t e
    rw [of_decide_eq_true h] at e
    exact ⟨t, e⟩
  · cases h⟩
def tupAt (K : PySem.W.Frag) (a : Addr) (vs : List V) : Bool := match K.lookup a with
  | some ⟨.type c, _, .seq its _, _⟩ => decide (c = "tuple") && (decide (its.size ≤ sizeLine) && He.relAll vs its.toList)
  | _ => false
theorem tupAt_ok {a : Addr} {vs : List V} (h : tupAt K a vs = true) : SqT K (fun _ => none) a vs := by
  unfold tupAt at h
  split at h
  · rename_i c od its n sl e
    obtain ⟨h1, h⟩ := b2 h
    obtain ⟨h2, h3⟩ := b2 h
    exact .inr ⟨_, its, n, e, congrArg Value.type (of_decide_eq_true h1), rfl, of_decide_eq_true h2, He.relAll_ok h3⟩
  · cases h
instance chkSqT {a : Addr} {vs : List V} : Chk (SqT K (fun _ => none) a vs) := ⟨tupAt K a vs, tupAt_ok⟩
instance chkKitB {u : String} {b : Bool} : Chk (PySem.W.kitOne K (.ref C) (.type u) = some b) := ⟨PySem.W.kitMeta u && Chk.b (PySem.W.subIn K (.ref C) (.type u) = some b), fun h => kit_tyb (b2 h).1 (Chk.ok (b2 h).2)⟩
instance chkKitC {t : Value} {b : Bool} : Chk (PySem.W.kitOne K t (.ref C) = some b) := ⟨!(t == .ref C) && Chk.b (PySem.W.hasDictIn K C = true ∧ PySem.W.typeIn K (.ref C) = some (.type "type") ∧ PySem.W.subIn K t (.ref C) = some b), fun h => by
  obtain ⟨h1, h2⟩ := b2 h
  obtain ⟨x1, x2, x3⟩ := Chk.ok h2
  exact kit_cls (by simpa using h1) x1 x2 x3⟩
instance chkExm {t : Value} {b : Bool} : Chk (PySem.W.exmOne K t (.ref C) = some b) := ⟨Chk.b (PySem.W.subIn K (.ref C) (.type "BaseException") = some true ∧ PySem.W.hasDictIn K C = true ∧ PySem.W.typeIn K (.ref C) = some (.type "type") ∧ PySem.W.subIn K t (.ref C) = some b), fun h => let ⟨x1, x2, x3, x4⟩ := Chk.ok h; PySem.W.exm_ref x1 x2 x3 x4⟩
instance chkBi {B : String} {n : Str} {i : String} : Chk (PySem.W.findCls K (.type B) (.type "type") n = some (.val (.builtin i))) := ⟨(match PySem.W.findCls K (.type B) (.type "type") n with
    | some (.val (.builtin j)) => decide (j = i)
    | _ => false), fun h => by
  split at h
  · rename_i j e
    rw [of_decide_eq_true h] at e
    exact e
  · cases h⟩
end
abbrev Pa := PySem.W.Frag → Addr
def gP (x : Str) : Pa := fun K => He.ga K x
def mP (c : Pa) (m : Str) : Pa := fun K => He.ma K (c K) m
structure DefX where
  at_ : Pa
  name : Str
  qual : Str
  params : Arguments
  body : List Stmt
  scope : Scope
  dfl : List He.Dv := []
  kwd : List (Str × He.Dv) := []
def DefX.val (d : DefX) : He.FnW := some (d.name, d.qual, d.params, .stmts d.body, d.scope, mainGlobals, [], builtinsNs)
def DefX.dvs (K : PySem.W.Frag) (d : DefX) : List V := d.dfl.map (He.Dv.v K)
def DefX.kws (K : PySem.W.Frag) (d : DefX) : List (Str × V) := d.kwd.map fun q => (q.1, q.2.v K)
def fnX (K : PySem.W.Frag) (a : Addr) : He.FnW := match K.lookup a with
  | some ⟨_, _, .func fd, _⟩ => some (fd.name, fd.qualname, fd.params, fd.body, fd.scope, fd.globals, fd.closure, fd.builtins)
  | _ => none
def DefX.ok (K : PySem.W.Frag) (d : DefX) : Bool := PySem.W.keepIn K (.ref (d.at_ K)) && (match K.lookup (d.at_ K) with
  | some ⟨_, _, .func fd, _⟩ => PySem.W.codeIn K fd.code d.qual && (He.dflB K fd.defaults (d.dvs K) && He.kwdB K fd.kwdefaults (d.kws K))
  | _ => false)
theorem DefX.funD {K : PySem.W.Frag} {d : DefX} (e : fnX K (d.at_ K) = d.val) (c : d.ok K = true) : ∃ fd, FunD K d.name d.qual d.params d.body d.scope (d.dvs K) (d.kws K) (d.at_ K) fd := by
  obtain ⟨kp, c2⟩ := b2 c
  unfold fnX at e
  split at e
  · rename_i oc od fd osl q
    rw [q] at c2
    obtain ⟨n1, n2, n3, n4, n5, n6, n7, n8, n9, n10, n11, n12, n13, n14, n15⟩ := fd
    have e2 : (some (n1, n2, n3, n4, n5, n6, n7, n15) : He.FnW) = some (d.name, d.qual, d.params, .stmts d.body, d.scope, mainGlobals, [], builtinsNs) := e
    simp only [Option.some.injEq, Prod.mk.injEq] at e2
    obtain ⟨h1, h2, h3, h4, h5, h6, h7, h8⟩ := e2
    subst h1 h2 h3 h4 h5 h6 h7 h8
    have c3 : (PySem.W.codeIn K n13 d.qual && (He.dflB K n8 (d.dvs K) && He.kwdB K n9 (d.kws K))) = true := c2
    obtain ⟨k1, k2⟩ := b2 c3
    obtain ⟨k3, k4⟩ := b2 k2
    exact ⟨_, ⟨oc, od, n8, n9, n10, n11, n12, n13, n14, osl, rfl, q, k1, He.dflB_ok k3, He.kwdB_ok k4⟩, kp⟩
  · cases e
theorem toFun {K : PySem.W.Frag} {x qual : Str} {st : Stmt} {f : Addr} {fd : FuncData} (h : FunD K x qual (defArgs st) (defBody st) (defScope st) [] [] f fd) : L2.Fun K x qual st f fd := by
  obtain ⟨oc, od, dV, kV, doc, pm, an, cdv, ct, osl, e, lk, hcd, hd, hk⟩ := h.ex
  rcases hd with ⟨_, rfl⟩ | ⟨z, _⟩
  · exact ⟨⟨oc, od, kV, doc, pm, an, cdv, ct, osl, e, lk, hcd⟩, h.kp⟩
  · exact absurd rfl z
structure Pc where
  p : PySem.W.Frag → Prop
  c : ∀ K, Chk (p K)
abbrev AlX : Type := Bool × List He.FnW
def obsX (fl : List Pc) (fn : List DefX) (K : PySem.W.Frag) : AlX := ((fl.all fun f => (f.c K).b) && fn.all fun d => d.ok K, fn.map fun d => fnX K (d.at_ K))
def valX (fn : List DefX) : AlX := (true, fn.map DefX.val)
def SaysX (fl : List Pc) (fn : List DefX) (K : PySem.W.Frag) : Prop := obsX fl fn K = valX fn
def reachT (g : Addr → Option Obj) : Nat → Nat → List (Addr × Obj) → List Addr → List (Addr × Obj)
  | 0, _, acc, _ => acc
  | n + 1, t, acc, front => match step front t acc [] with
    | (t', acc', nf) => reachT g n t' acc' nf
where step : List Addr → Nat → List (Addr × Obj) → List Addr → Nat × List (Addr × Obj) × List Addr
  | [], t, acc, nf => (t, acc, nf)
  | a :: as, t, acc, nf => match Nat.beq (Nat.land (Nat.shiftRight t a) 1) 0 with
    | false => step as t acc nf
    | true => match g a with
      | some o => step as (Nat.lor t (Nat.shiftLeft 1 a)) ((a, o) :: acc) (He.refsD o ++ nf)
      | none => step as t acc nf
def KX (g : Addr → Option Obj) (n : Nat) : PySem.W.Frag := (reachT g n 0 [] [mainGlobals, cStatics]).reverse
theorem reach_step {g : Addr → Option Obj} : ∀ {as : List Addr} {t : Nat} {acc : List (Addr × Obj)} {nf : List Addr}, (∀ q ∈ acc, g q.1 = some q.2) → ∀ q ∈ (reachT.step g as t acc nf).2.1, g q.1 = some q.2
  | [], t, acc, nf, h => h
  | a :: as, t, acc, nf, h => by
    unfold reachT.step
    split
    · exact reach_step h
    · split
      · rename_i o e
        exact reach_step fun q hq => by
          rcases List.mem_cons.mp hq with rfl | hq
          · exact e
          · exact h q hq
      · exact reach_step h
theorem reach_ok {g : Addr → Option Obj} : ∀ {n : Nat} {t : Nat} {acc : List (Addr × Obj)} {front : List Addr}, (∀ q ∈ acc, g q.1 = some q.2) → ∀ q ∈ reachT g n t acc front, g q.1 = some q.2
  | 0, _, _, _, h => h
  | n + 1, t, acc, front, h => by
    unfold reachT
    exact reach_ok (reach_step h)
theorem KX_in {h : Heap} {n : Nat} : (KX h.get? n).In h := fun a o e => by
  have hm : (a, o) ∈ KX h.get? n := by
    have : ∀ {l : PySem.W.Frag}, l.lookup a = some o → (a, o) ∈ l := by
      intro l
      induction l with
      | nil => intro e; cases e
      | cons p l ih =>
        intro e
        obtain ⟨b, ob⟩ := p
        rw [List.lookup_cons] at e
        cases q : a == b with
        | true =>
          rw [q] at e
          cases e
          rw [beq_iff_eq.mp q]
          exact List.mem_cons_self
        | false =>
          rw [q] at e
          exact List.mem_cons_of_mem _ (ih e)
    exact this e
  exact reach_ok (g := h.get?) (fun q hq => by cases hq) (a, o) (List.mem_reverse.mp hm)
def hookX (n : Nat) (fl : List Pc) (fn : List DefX) : PySem.W.Hook where
  α := AlX
  obs := fun s => obsX fl fn (KX s.heap.get? n)
  val := fun _ => valX fn
  says := fun _ h => ∃ K : PySem.W.Frag, K.In h ∧ SaysX fl fn K
  of := fun _ _ e => ⟨_, KX_in, e⟩
  keeps := fun _ _ _ ⟨K, hK, c⟩ k => ⟨K, PySem.W.Frag.In.keeps hK k, c⟩
def obX (n : Nat) (fl : List Pc) (fn : List DefX) (s : PySem.W.SharedT) : AlX := obsX fl fn (KX (HandSHeadRun.getT s) n)
theorem obX_eq (n : Nat) (fl : List Pc) (fn : List DefX) (s : PySem.W.SharedT) : obX n fl fn s = (hookX n fl fn).obs s.abs := by
  have e : HandSHeadRun.getT s = s.abs.heap.get? := funext (HandSHeadRun.getT_eq s)
  unfold obX
  rw [e]
  rfl
section
variable {fl : List Pc} {fn : List DefX} {K : PySem.W.Frag}
theorem SaysX.fact (c : SaysX fl fn K) (i : Nat) {f : Pc} (h : fl[i]? = some f := by rfl) : f.p K := by
  have c1 := (b2 (show ((fl.all fun f => (f.c K).b) && fn.all fun d => d.ok K) = true from congrArg (fun z : AlX => z.1) c)).1
  exact (f.c K).ok (List.all_eq_true.mp c1 f (List.mem_of_getElem? h))
theorem SaysX.def_ (c : SaysX fl fn K) (i : Nat) {d : DefX} (h : fn[i]? = some d := by rfl) : ∃ fd, FunD K d.name d.qual d.params d.body d.scope (d.dvs K) (d.kws K) (d.at_ K) fd := by
  have c2 := (b2 (show ((fl.all fun f => (f.c K).b) && fn.all fun d => d.ok K) = true from congrArg (fun z : AlX => z.1) c)).2
  have e : fn.map (fun d => fnX K (d.at_ K)) = fn.map DefX.val := congrArg (fun z : AlX => z.2) c
  have e2 : (fn.map fun d => fnX K (d.at_ K))[i]? = (fn.map DefX.val)[i]? := by rw [e]
  rw [List.getElem?_map, List.getElem?_map, h] at e2
  exact DefX.funD (Option.some.inj e2) (List.all_eq_true.mp c2 d (List.mem_of_getElem? h))
end
def Run1 {α : Type} (r : PySem.W.OpenRow) (M : Nat) (f : PySem.W.SharedT → α) (a : α) (w : World) : Prop := ∀ os : OsState, (HandSHeadRun.endF (HandSHeadRun.stepQ (HandSHeadRun.denQ HandSHeadRun.tabQ) r.prog w) M r.prog w os).map f = some a
theorem run3 {r : PySem.W.OpenRow} {q : Program} {H : PySem.W.Hook} {ob : PySem.W.SharedT → H.α} {M : Nat} {loose : List Str} {w : World} (h1 : Run1 r M (fun s => HandSHeadRun.looksF r.prog (PySem.W.boot_heap w.params) s.abs) true w)
    (h2 : Run1 r M (fun s => HandSHeadRun.seenQ q loose (importedModules r.prog.main.body) (fun s => PySem.W.xlAt q [] s && PySem.W.recOk r.toRowW.records s) s.abs) (PySem.W.openGood q loose) w) (h3 : Run1 r M ob (H.val w) w) : HandSHeadRun.RunEq r q H ob M loose w := fun os => by
  have a1 := h1 os
  have a2 := h2 os
  have a3 := h3 os
  cases e : HandSHeadRun.endF (HandSHeadRun.stepQ (HandSHeadRun.denQ HandSHeadRun.tabQ) r.prog w) M r.prog w os with
  | none => rw [e] at a1; cases a1
  | some s =>
    rw [e] at a1 a2 a3
    have b1 := Option.some.inj a1
    have b2 := Option.some.inj a2
    have b3 := Option.some.inj a3
    show some (_, _, _) = some _
    exact congrArg some (Prod.ext b1 (Prod.ext b2 b3))
theorem walk_xB {l : PySem.W.OpenLaw} {n k : Nat} {q : Program} {loose : List Str} {XP : (Str → Option Value) → Heap → Prop} {YP : World → Heap → Prop} {d : DefRec} {x : Str} (hn : l.most = some n) (hn2 : n ≤ sizeLine) (hdf : d.params.defaults = []) (hr : Room k callerA)
    (F : ∀ (w : World) (mg : Str → Option Value) (fa : Addr) (h : Heap), YP w h → h.Ns mainGlobals mg → mg d.name = some (.ref fa) → ∃ (K : PySem.W.Frag) (fd : FuncData), K.In h ∧ (∀ (s : Shared) (u : Value), BindsTo s fd ⟨[u], []⟩ [(x, u)]) ∧ ∀ base : Heap, K.In base → base.Ns mainGlobals mg → FnOk l.prog w K mg base CX0 k fa fd [x] (spL K))
    (h63 : n ≤ 63) : PySem.W.WalkO q loose XP YP l.row.toRowW d [] (fun f vs => PySem.call f vs) := by
  refine Att.attach_callB hn hdf fun w s₀ s₁ mg mb fa o pm cd doc a vs ns G Y ho hd hcd hmg hobj hints hlen hbits hg => ?_
  obtain ⟨K, fd, KX, hb, hF⟩ := F w mg fa _ Y G.T.g hmg
  exact law_call KX G.T.g G.T.b G.T.builtins G.T.nolimit hg hobj hints (Nat.le_trans hlen hn2) hr hF hb (fun H hO hS => Dl.spL_of H a ns (Nat.le_trans hlen h63) hbits hO hS) fun H e s' h => h
end Dl
namespace Dl
open PySem L2
instance chkInpC {K : PySem.W.Frag} {C g : Addr} {op : Operator} : Chk (InpC K C op g) := ⟨Chk.b (PySem.W.selfFirst K C = true ∧ PySem.W.findIn K (.ref C) (dunderI op.info.2) = some (some (.ref g)) ∧ PySem.W.isFn K (.ref g) = true), fun h => let ⟨x1, x2, x3⟩ := Chk.ok h; ⟨x1, x2, x3⟩⟩
end Dl
namespace K
open PySem L2 Dl
def top (i : Nat) : Stmt := PySem.Challenge.pw_clashcounts_k42_rings_shifted_in_place.main.body.getD i (.Pass ⟨0, 0, 0, 0⟩)
abbrev FD (K : PySem.W.Frag) (x qual : Str) (st : Stmt) (dvs : List V) (kws : List (Str × V)) (f : Addr) (fd : FuncData) : Prop := FunD K x qual (defArgs st) (defBody st) (defScope st) dvs kws f fd
abbrev s__law_box : Stmt := top 7
theorem sc__law_box : FnScope ["_law_script", "_law_k", "_law_cell", "_law_seed"] ["_law_script", "_law_k"] (defScope s__law_box) := ⟨rfl, rfl, rfl, by decide +kernel, rfl, by decide +kernel, by decide +kernel⟩
abbrev s_InvalidSize___init__ : Stmt := inClass (top 2) 0
theorem sc_InvalidSize___init__ : FnScope ["self", "size"] ["self", "size"] (defScope s_InvalidSize___init__) := ⟨rfl, rfl, rfl, by decide +kernel, rfl, by decide +kernel, by decide +kernel⟩
abbrev s_Ring___init__ : Stmt := inClass (top 5) 0
theorem sc_Ring___init__ : FnScope ["self", "values"] ["self", "values"] (defScope s_Ring___init__) := ⟨rfl, rfl, rfl, by decide +kernel, rfl, by decide +kernel, by decide +kernel⟩
abbrev s__law_take : Stmt := top 8
theorem sc__law_take : FnScope ["_law_box_here", "_law_many", "_law_digit", "_law_one"] ["_law_box_here", "_law_many"] (defScope s__law_take) := ⟨rfl, rfl, rfl, by decide +kernel, rfl, by decide +kernel, by decide +kernel⟩
abbrev s_Ring_cells : Stmt := inClass (top 5) 7
theorem sc_Ring_cells : FnScope ["self"] ["self"] (defScope s_Ring_cells) := ⟨rfl, rfl, rfl, by decide +kernel, rfl, by decide +kernel, by decide +kernel⟩
abbrev s__law_far : Stmt := top 9
theorem sc__law_far : FnScope ["_law_box_here", "_law_n", "_law_way"] ["_law_box_here", "_law_n"] (defScope s__law_far) := ⟨rfl, rfl, rfl, by decide +kernel, rfl, by decide +kernel, by decide +kernel⟩
abbrev s__law_moved : Stmt := top 10
theorem sc__law_moved : FnScope ["_law_cells", "_law_k", "_law_q"] ["_law_cells", "_law_k"] (defScope s__law_moved) := ⟨rfl, rfl, rfl, by decide +kernel, rfl, by decide +kernel, by decide +kernel⟩
abbrev s_Ring___len__ : Stmt := inClass (top 5) 1
theorem sc_Ring___len__ : FnScope ["self"] ["self"] (defScope s_Ring___len__) := ⟨rfl, rfl, rfl, by decide +kernel, rfl, by decide +kernel, by decide +kernel⟩
abbrev s_Ring___getitem__ : Stmt := inClass (top 5) 2
theorem sc_Ring___getitem__ : FnScope ["self", "k"] ["self", "k"] (defScope s_Ring___getitem__) := ⟨rfl, rfl, rfl, by decide +kernel, rfl, by decide +kernel, by decide +kernel⟩
abbrev s_Ring___setitem__ : Stmt := inClass (top 5) 3
theorem sc_Ring___setitem__ : FnScope ["self", "k", "worth"] ["self", "k", "worth"] (defScope s_Ring___setitem__) := ⟨rfl, rfl, rfl, by decide +kernel, rfl, by decide +kernel, by decide +kernel⟩
abbrev s_moved_on : Stmt := top 4
theorem sc_moved_on : FnScope ["cells", "k", "first"] ["cells", "k"] (defScope s_moved_on) := ⟨rfl, rfl, rfl, by decide +kernel, rfl, by decide +kernel, by decide +kernel⟩
abbrev s_Ring___lshift__ : Stmt := inClass (top 5) 8
theorem sc_Ring___lshift__ : FnScope ["self", "k"] ["self", "k"] (defScope s_Ring___lshift__) := ⟨rfl, rfl, rfl, by decide +kernel, rfl, by decide +kernel, by decide +kernel⟩
abbrev s_Ring___rshift__ : Stmt := inClass (top 5) 9
theorem sc_Ring___rshift__ : FnScope ["self", "k"] ["self", "k"] (defScope s_Ring___rshift__) := ⟨rfl, rfl, rfl, by decide +kernel, rfl, by decide +kernel, by decide +kernel⟩
abbrev s_Ring___neg__ : Stmt := inClass (top 5) 12
theorem sc_Ring___neg__ : FnScope ["self"] ["self"] (defScope s_Ring___neg__) := ⟨rfl, rfl, rfl, by decide +kernel, rfl, by decide +kernel, by decide +kernel⟩
abbrev s_Ring___eq__ : Stmt := inClass (top 5) 6
theorem sc_Ring___eq__ : FnScope ["self", "other"] ["self", "other"] (defScope s_Ring___eq__) := ⟨rfl, rfl, rfl, by decide +kernel, rfl, by decide +kernel, by decide +kernel⟩
abbrev s_Ring___ilshift__ : Stmt := inClass (top 5) 10
theorem sc_Ring___ilshift__ : FnScope ["self", "k"] ["self", "k"] (defScope s_Ring___ilshift__) := ⟨rfl, rfl, rfl, by decide +kernel, rfl, by decide +kernel, by decide +kernel⟩
abbrev s_Ring___irshift__ : Stmt := inClass (top 5) 11
theorem sc_Ring___irshift__ : FnScope ["self", "k"] ["self", "k"] (defScope s_Ring___irshift__) := ⟨rfl, rfl, rfl, by decide +kernel, rfl, by decide +kernel, by decide +kernel⟩
abbrev s_law : Stmt := top 11
theorem sc_law : FnScope ["_law_script", "_law_box_here", "_law_n", "_law_one", "_law_k", "_law_other", "_law_again", "_law_cells", "_law_others", "_law_turn", "_law_way", "_law_before", "_law_kept", "_law_q", "_law_ring"] ["_law_script"] (defScope s_law) := ⟨rfl, rfl, rfl, by decide +kernel, rfl, by decide +kernel, by decide +kernel⟩
structure Tx (T : Tab) (K : PySem.W.Frag) (mg : Str → Option Value) where
  c_Ring : Addr
  T_Ring : T 0 = some (c_Ring, (["row"] : List Str))
  cl_Ring : Cls K c_Ring
  i_Ring : IsiC K c_Ring
  m_Ring : mg "Ring" = some (.ref c_Ring)
  no_Ring_row : NoAttr K c_Ring "row"
  c_ClashError : Addr
  m_ClashError : mg "ClashError" = some (.ref c_ClashError)
  ci_ClashError : CIn K c_ClashError
  bs_ClashError : PySem.W.subIn K (.ref c_ClashError) (.type "BaseException") = some true
  hd_ClashError : PySem.W.hasDictIn K c_ClashError = true
  c_InvalidSize : Addr
  T_InvalidSize : T 2 = some (c_InvalidSize, (["size"] : List Str))
  m_InvalidSize : mg "InvalidSize" = some (.ref c_InvalidSize)
  o_InvalidSize : OexC K c_InvalidSize
  x_InvalidSize : ExcC K c_InvalidSize
  xf_InvalidSize : XfC K c_InvalidSize
  no_InvalidSize_size : PySem.W.findIn K (.ref c_InvalidSize) "size" = some none
  z_int : mg "int" = none
  z_isinstance : mg "isinstance" = none
  z_len : mg "len" = none
  z_list : mg "list" = none
  z_range : mg "range" = none
  z_str : mg "str" = none
  a__law_box : Addr
  fd__law_box : FuncData
  F__law_box : Fun K "_law_box" "_law_box" s__law_box a__law_box fd__law_box
  b__law_box : Binds K fd__law_box ["_law_script", "_law_k"] []
  m__law_box : mg "_law_box" = some (.ref a__law_box)
  a_InvalidSize___init__ : Addr
  fd_InvalidSize___init__ : FuncData
  F_InvalidSize___init__ : Fun K "__init__" "InvalidSize.__init__" s_InvalidSize___init__ a_InvalidSize___init__ fd_InvalidSize___init__
  b_InvalidSize___init__ : Binds K fd_InvalidSize___init__ ["self", "size"] []
  at_InvalidSize___init__ : PySem.W.findIn K (.ref c_InvalidSize) "__init__" = some (some (.ref a_InvalidSize___init__))
  ty_InvalidSize___init__ : PySem.W.typeIn K (.ref a_InvalidSize___init__) = some (.type "function")
  a_Ring___init__ : Addr
  fd_Ring___init__ : FuncData
  F_Ring___init__ : Fun K "__init__" "Ring.__init__" s_Ring___init__ a_Ring___init__ fd_Ring___init__
  b_Ring___init__ : Binds K fd_Ring___init__ ["self", "values"] []
  M_Ring___init__ : Meth K c_Ring "__init__" a_Ring___init__
  K_Ring : Mk K c_Ring a_Ring___init__
  a__law_take : Addr
  fd__law_take : FuncData
  F__law_take : Fun K "_law_take" "_law_take" s__law_take a__law_take fd__law_take
  b__law_take : Binds K fd__law_take ["_law_box_here", "_law_many"] []
  m__law_take : mg "_law_take" = some (.ref a__law_take)
  a_Ring_cells : Addr
  fd_Ring_cells : FuncData
  F_Ring_cells : Fun K "cells" "Ring.cells" s_Ring_cells a_Ring_cells fd_Ring_cells
  b_Ring_cells : Binds K fd_Ring_cells ["self"] []
  M_Ring_cells : Meth K c_Ring "cells" a_Ring_cells
  a__law_far : Addr
  fd__law_far : FuncData
  F__law_far : Fun K "_law_far" "_law_far" s__law_far a__law_far fd__law_far
  b__law_far : Binds K fd__law_far ["_law_box_here", "_law_n"] []
  m__law_far : mg "_law_far" = some (.ref a__law_far)
  a__law_moved : Addr
  fd__law_moved : FuncData
  F__law_moved : Fun K "_law_moved" "_law_moved" s__law_moved a__law_moved fd__law_moved
  b__law_moved : Binds K fd__law_moved ["_law_cells", "_law_k"] []
  m__law_moved : mg "_law_moved" = some (.ref a__law_moved)
  a_Ring___len__ : Addr
  fd_Ring___len__ : FuncData
  F_Ring___len__ : Fun K "__len__" "Ring.__len__" s_Ring___len__ a_Ring___len__ fd_Ring___len__
  b_Ring___len__ : Binds K fd_Ring___len__ ["self"] []
  M_Ring___len__ : Meth K c_Ring "__len__" a_Ring___len__
  a_Ring___getitem__ : Addr
  fd_Ring___getitem__ : FuncData
  F_Ring___getitem__ : Fun K "__getitem__" "Ring.__getitem__" s_Ring___getitem__ a_Ring___getitem__ fd_Ring___getitem__
  b_Ring___getitem__ : Binds K fd_Ring___getitem__ ["self", "k"] []
  M_Ring___getitem__ : Meth K c_Ring "__getitem__" a_Ring___getitem__
  a_Ring___setitem__ : Addr
  fd_Ring___setitem__ : FuncData
  F_Ring___setitem__ : Fun K "__setitem__" "Ring.__setitem__" s_Ring___setitem__ a_Ring___setitem__ fd_Ring___setitem__
  b_Ring___setitem__ : Binds K fd_Ring___setitem__ ["self", "k", "worth"] []
  M_Ring___setitem__ : Meth K c_Ring "__setitem__" a_Ring___setitem__
  a_moved_on : Addr
  fd_moved_on : FuncData
  F_moved_on : Fun K "moved_on" "moved_on" s_moved_on a_moved_on fd_moved_on
  b_moved_on : Binds K fd_moved_on ["cells", "k"] []
  m_moved_on : mg "moved_on" = some (.ref a_moved_on)
  a_Ring___lshift__ : Addr
  fd_Ring___lshift__ : FuncData
  F_Ring___lshift__ : Fun K "__lshift__" "Ring.__lshift__" s_Ring___lshift__ a_Ring___lshift__ fd_Ring___lshift__
  b_Ring___lshift__ : Binds K fd_Ring___lshift__ ["self", "k"] []
  M_Ring___lshift__ : Meth K c_Ring "__lshift__" a_Ring___lshift__
  a_Ring___rshift__ : Addr
  fd_Ring___rshift__ : FuncData
  F_Ring___rshift__ : Fun K "__rshift__" "Ring.__rshift__" s_Ring___rshift__ a_Ring___rshift__ fd_Ring___rshift__
  b_Ring___rshift__ : Binds K fd_Ring___rshift__ ["self", "k"] []
  M_Ring___rshift__ : Meth K c_Ring "__rshift__" a_Ring___rshift__
  a_Ring___neg__ : Addr
  fd_Ring___neg__ : FuncData
  F_Ring___neg__ : Fun K "__neg__" "Ring.__neg__" s_Ring___neg__ a_Ring___neg__ fd_Ring___neg__
  b_Ring___neg__ : Binds K fd_Ring___neg__ ["self"] []
  M_Ring___neg__ : Meth K c_Ring "__neg__" a_Ring___neg__
  a_Ring___eq__ : Addr
  fd_Ring___eq__ : FuncData
  F_Ring___eq__ : Fun K "__eq__" "Ring.__eq__" s_Ring___eq__ a_Ring___eq__ fd_Ring___eq__
  b_Ring___eq__ : Binds K fd_Ring___eq__ ["self", "other"] []
  M_Ring___eq__ : Meth K c_Ring "__eq__" a_Ring___eq__
  a_Ring___ilshift__ : Addr
  fd_Ring___ilshift__ : FuncData
  F_Ring___ilshift__ : Fun K "__ilshift__" "Ring.__ilshift__" s_Ring___ilshift__ a_Ring___ilshift__ fd_Ring___ilshift__
  b_Ring___ilshift__ : Binds K fd_Ring___ilshift__ ["self", "k"] []
  M_Ring___ilshift__ : Meth K c_Ring "__ilshift__" a_Ring___ilshift__
  a_Ring___irshift__ : Addr
  fd_Ring___irshift__ : FuncData
  F_Ring___irshift__ : Fun K "__irshift__" "Ring.__irshift__" s_Ring___irshift__ a_Ring___irshift__ fd_Ring___irshift__
  b_Ring___irshift__ : Binds K fd_Ring___irshift__ ["self", "k"] []
  M_Ring___irshift__ : Meth K c_Ring "__irshift__" a_Ring___irshift__
  a_law : Addr
  fd_law : FuncData
  F_law : Fun K "law" "law" s_law a_law fd_law
  b_law : Binds K fd_law ["_law_script"] []
  m_law : mg "law" = some (.ref a_law)
  kt_int_Ring : PySem.W.kitOne K (.type "int") (.ref c_Ring) = some false
  kt_bool_Ring : PySem.W.kitOne K (.type "bool") (.ref c_Ring) = some false
  kt_str_Ring : PySem.W.kitOne K (.type "str") (.ref c_Ring) = some false
  kt_tuple_Ring : PySem.W.kitOne K (.type "tuple") (.ref c_Ring) = some false
  kt_list_Ring : PySem.W.kitOne K (.type "list") (.ref c_Ring) = some false
  kt_NoneType_Ring : PySem.W.kitOne K (.type "NoneType") (.ref c_Ring) = some false
  O_lshift : OpC K c_Ring .LShift a_Ring___lshift__
  O_rshift : OpC K c_Ring .RShift a_Ring___rshift__
  I_lshift : InpC K c_Ring .LShift a_Ring___ilshift__
  I_rshift : InpC K c_Ring .RShift a_Ring___irshift__
  NS_Ring : PySem.W.noSeq K c_Ring = true
  FG_Ring : PySem.W.fnIn K a_Ring___getitem__ = true
def tb_Ring (t : String) : Option Bool := if t = "int" then some false else if t = "bool" then some false else if t = "str" then some false else if t = "tuple" then some false else if t = "list" then some false else if t = "NoneType" then some false else none
theorem Tx.tbIs_Ring {T : Tab} {K : PySem.W.Frag} {mg : Str → Option Value} (t : Tx T K mg) : ∀ z b, tb_Ring z = some b → PySem.W.kitOne K (.type z) (.ref t.c_Ring) = some b := fun z b h => by
  unfold tb_Ring at h
  split at h
  · rename_i e; subst e; cases h; exact t.kt_int_Ring
  split at h
  · rename_i e; subst e; cases h; exact t.kt_bool_Ring
  split at h
  · rename_i e; subst e; cases h; exact t.kt_str_Ring
  split at h
  · rename_i e; subst e; cases h; exact t.kt_tuple_Ring
  split at h
  · rename_i e; subst e; cases h; exact t.kt_list_Ring
  split at h
  · rename_i e; subst e; cases h; exact t.kt_NoneType_Ring
  cases h
def ob_Ring (n : Nat) : Option Bool := match n with | 0 => some true | _ => none
theorem Tx.obIs_Ring {T : Tab} {K : PySem.W.Frag} {mg : Str → Option Value} (t : Tx T K mg) : ObIs K T (.ref t.c_Ring) ob_Ring := fun n b h => by
  unfold ob_Ring at h
  split at h
  · cases h; exact ⟨_, _, t.T_Ring, t.i_Ring, kit_self⟩
  · cases h
theorem Tx.kb_Ring_1_ {T : Tab} {K : PySem.W.Frag} {mg : Str → Option Value} (t : Tx T K mg) : ∃ gg, KBn K t.fd_Ring___init__ ["self", "values"] 2 [] gg (fun us ws => us) := by
  exact ⟨_, kbn_all t.b_Ring___init__ rfl⟩
def fu_Ring_1_ (vs zs : List D) : List D := match vs, zs with | [d0], [] => [d0] | _, _ => []
theorem Tx.put_Ring_1_ {T : Tab} {K : PySem.W.Frag} {mg : Str → Option Value} (t : Tx T K mg) : ∀ vs zs : List D, vs.length = 1 → zs.length = ([] : List Str).length → Put K (fun us ws => us) vs zs (fu_Ring_1_ vs zs)
  | [d0], [], _, _ => fun x ws zs h1 h2 => match ws, zs, h1, h2 with | [w0], [], _, _ => ⟨[w0], rfl, fun _ _ _ r1 r2 => match r1, r2 with | .cons a0 .nil, .nil => .cons a0 .nil⟩
def xfn (n : Nat) : List Str := match n with | 2 => ["size"] | _ => []
def isErr (n : Nat) : Bool := match n with | 2 => true | _ => false

def w__law_box (n : Nat) : WS := (wConsS (wAsg 2 (wTwo (wTwo (wCon (.int 7919)) (wName 1) mulW) (wCon (.int 11)) addW))
  (wConsS (wIfS (wBl (wTwo (wName 1) (wCb (wCons (wName 0) wNil) lenW) ltW))
  (wConsS (wAsg 2 (wTwo (wName 0) (wName 1) ixW))
  wNilS)
  (wConsS (wIfS (wBl (wTwo (wCb (wCons (wName 0) wNil) lenW) (wCon (.int 0)) gtW))
  (wConsS (wAsg 2 (wTwo (wName 2) (wTwo (wTwo (wCb (wCons (wTwo (wName 0) (wTwo (wName 1) (wCb (wCons (wName 0) wNil) lenW) modW) ixW) wNil) intW1) (wCon (.int 2147483629)) modW) (wCon (.int 69623)) mulW) addW))
  wNilS)
  wNilS)
  wNilS))
  (wConsS (wAsg 3 (wTwo (wTwo (wTwo (wTwo (wTwo (wCb (wCons (wName 2) wNil) intW1) (wCon (.int 2147483629)) modW) (wTwo (wCon (.int 104729)) (wName 1) mulW) addW) (wCon (.int 1)) addW) (wCon (.int 5)) powW) (wCon (.int 2147483647)) modW))
  (wConsS (wRetC n (wLstC (wCons (wTwo (wLst (wCons (wCon (.int 0)) (wCons (wName 2) wNil))) (wCb (wCons (wTwo (wName 2) (wTwo (wCon (.int 10)) (wCon (.int 18)) powW) geW) wNil) intW1) ixW) (wCons (wTwo (wTwo (wCb (wCons (wName 3) wNil) intW1) (wCon (.int 2147483646)) modW) (wCon (.int 1)) addW) wNil))))
  wNilS))))
def c__law_box : Ct := ctOf ["_law_script", "_law_k", "_law_cell", "_law_seed"] ["_law_script", "_law_k"] (w__law_box)
section
variable {T : Tab} {P : Program} {w : World} {K : PySem.W.Frag} {mg : Str → Option Value} {base : Heap}
theorem Tx.ok__law_box (t : Tx T K mg) : FnOk P w K mg base CX0 1 t.a__law_box t.fd__law_box ["_law_script", "_law_k"] (spC T K c__law_box) := by
  have nd := sc__law_box.nd
  exact fn_J t.F__law_box sc__law_box fun cdv A outer sh H E hr n => (jss_cons (js_asg 2 nd (je_bin jb_add (je_bin jb_mul je_int (je_name 1)) je_int))
  (jss_cons (js_if (jt_cmp jc_lt (je_name 1) (je_cb t.z_len jc_len (ja_cons (je_name 0) ja_nil)))
  (jss_cons (js_asg 2 nd (je_sub ji_ix (je_name 0) (je_name 1)))
  jss_nil)
  (jss_cons (js_if (jt_cmp jc_gt (je_cb t.z_len jc_len (ja_cons (je_name 0) ja_nil)) je_int)
  (jss_cons (js_asg 2 nd (je_bin jb_add (je_name 2) (je_bin jb_mul (je_bin jb_mod (je_cb t.z_int jc_int (ja_cons (je_sub ji_ix (je_name 0) (je_bin jb_mod (je_name 1) (je_cb t.z_len jc_len (ja_cons (je_name 0) ja_nil)))) ja_nil)) je_int) je_int)))
  jss_nil)
  jss_nil)
  jss_nil))
  (jss_cons (js_asg 3 nd (je_bin jb_mod (je_bin jb_pow (je_bin jb_add (je_bin jb_add (je_bin jb_mod (je_cb t.z_int jc_int (ja_cons (je_name 2) ja_nil)) je_int) (je_bin jb_mul je_int (je_name 1))) je_int) je_int) je_int))
  (jss_cons (js_retC (je_lstC (ja_cons (je_sub ji_ix (je_lst (ja_cons je_int (ja_cons (je_name 2) ja_nil))) (je_cb t.z_int jc_int (ja_cons (je_cmp jc_ge (je_name 2) (je_bin jb_pow je_int je_int)) ja_nil))) (ja_cons (je_bin jb_add (je_bin jb_mod (je_cb t.z_int jc_int (ja_cons (je_name 3) ja_nil)) je_int) je_int) ja_nil))))
  jss_nil))))
end

section
variable {T : Tab} {P : Program} {w : World} {K : PySem.W.Frag} {mg : Str → Option Value} {base : Heap}
theorem Tx.ok_InvalidSize___init__ (t : Tx T K mg) : FnOk P w K mg base CX0 1 t.a_InvalidSize___init__ t.fd_InvalidSize___init__ ["self", "size"] (spE1 t.c_InvalidSize "size") := by
  refine t.F_InvalidSize___init__.ok sc_InvalidSize___init__ (fun vs H Q E h => ?_) (fun cdv A outer s H vs Q E hr h => ⟨_, pss_cons (ps_expr (pe_cinit rfl t.m_ClashError t.ci_ClashError (pa_cons (pv 0) (pa_cons pe_str pa_nil)) (by decide) rfl rfl rfl)) (pss_one (ps_ost (pv 0) (pv 1))), ?_⟩)
  · obtain ⟨a, v, rfl, _⟩ := h; rfl
  · obtain ⟨a, v, rfl, e, q⟩ := h
    exact ⟨_, rfl, a, t.c_InvalidSize, [_], rfl, by decide, t.o_InvalidSize, e, _, rfl, _, rfl, a, t.c_InvalidSize, rfl, t.o_InvalidSize, t.no_InvalidSize_size, .inl ⟨e, fun dx n1 n2 => q dx n1 n2⟩⟩
end

def w_Ring___init__ (n : Nat) : WS := (wConsS (wIfS (wBl (wTwo (wCb (wCons (wName 1) wNil) (liWC lenW)) (wCon (.int 0)) (liW2 (eqW false))))
  (wConsS (wRaise1 2 (wCon (.int 0)))
  wNilS)
  wNilS)
  (wConsS (wSetFA 0 "row" (wTag (wCb (wCons (wName 1) wNil) (liWC listWC))) (wName 0))
  wNilS))
def c_Ring___init__ : CtGX := cgxOf ["self", "values"] ["self", "values"] (w_Ring___init__)
section
variable {T : Tab} {P : Program} {w : World} {K : PySem.W.Frag} {mg : Str → Option Value} {base : Heap}
theorem Tx.ok_Ring___init__ (t : Tx T K mg) : FnOk P w K mg base (L2.CX P w) 3 t.a_Ring___init__ t.fd_Ring___init__ ["self", "values"] (spGX T K c_Ring___init__) := by
  have nd := sc_Ring___init__.nd
  exact fn_GX t.F_Ring___init__ sc_Ring___init__ fun cdv A outer sh H E hr tk n => (jss_cons (js_if (jt_cmpP (JCmp.P (jc_li (jc_eq hr.units))) (je_cb t.z_len (jk_li jc_len) (ja_cons (je_name 1) ja_nil)) je_int)
  (jss_cons (js_raise1 tk t.o_InvalidSize t.at_InvalidSize___init__ t.ty_InvalidSize___init__ t.ok_InvalidSize___init__ (hr.mono (by decide)) t.b_InvalidSize___init__ t.m_InvalidSize t.T_InvalidSize je_int)
  jss_nil)
  jss_nil)
  (jss_cons (js_fldA t.T_Ring t.cl_Ring t.no_Ring_row (je_tag (je_cb t.z_list (jk_li jc_listC) (ja_cons (je_name 1) ja_nil))) (je_name 0))
  jss_nil))
end

def w__law_take (n : Nat) : WS := (wConsS (wIfS (wBl (wTwo (wTwo (wName 0) (wCon (.int 0)) ixW) (wCon (.int 0)) gtW))
  (wConsS (wAsg 2 (wTwo (wCb (wCons (wTwo (wName 0) (wCon (.int 0)) ixW) wNil) intW1) (wName 1) modW))
  (wConsS (wSetL (wTwo (wTwo (wName 0) (wCon (.int 0)) ixW) (wName 1) fdivW) (wName 0) (wCon (.int 0)))
  (wConsS (wRet n (wName 2))
  wNilS)))
  wNilS)
  (wConsS (wAsg 3 (wTwo (wCb (wCons (wTwo (wTwo (wName 0) (wCon (.int 1)) ixW) (wCon (.int 69623)) mulW) wNil) intW1) (wCon (.int 2147483647)) modW))
  (wConsS (wSetL (wTwo (wTwo (wCb (wCons (wTwo (wTwo (wName 3) (wCon (.int 48271)) mulW) (wCon (.int 30103)) addW) wNil) intW1) (wCon (.int 2147483629)) modW) (wCon (.int 1)) addW) (wName 0) (wCon (.int 1)))
  (wConsS (wRet n (wTwo (wCb (wCons (wTwo (wTwo (wTwo (wName 3) (wCon (.int 2147483647)) mulW) (wTwo (wName 0) (wCon (.int 1)) ixW) addW) (wCon (.int 8191)) fdivW) wNil) intW1) (wName 1) modW))
  wNilS))))
def c__law_take : Ct := ctOf ["_law_box_here", "_law_many", "_law_digit", "_law_one"] ["_law_box_here", "_law_many"] (w__law_take)
section
variable {T : Tab} {P : Program} {w : World} {K : PySem.W.Frag} {mg : Str → Option Value} {base : Heap}
theorem Tx.ok__law_take (t : Tx T K mg) : FnOk P w K mg base CX0 1 t.a__law_take t.fd__law_take ["_law_box_here", "_law_many"] (spC T K c__law_take) := by
  have nd := sc__law_take.nd
  exact fn_J t.F__law_take sc__law_take fun cdv A outer sh H E hr n => (jss_cons (js_if (jt_cmp jc_gt (je_sub ji_ix (je_name 0) je_int) je_int)
  (jss_cons (js_asg 2 nd (je_bin jb_mod (je_cb t.z_int jc_int (ja_cons (je_sub ji_ix (je_name 0) je_int) ja_nil)) (je_name 1)))
  (jss_cons (js_setL (je_bin jb_fdiv (je_sub ji_ix (je_name 0) je_int) (je_name 1)) (je_name 0) je_int)
  (jss_cons (js_ret (je_name 2))
  jss_nil)))
  jss_nil)
  (jss_cons (js_asg 3 nd (je_bin jb_mod (je_cb t.z_int jc_int (ja_cons (je_bin jb_mul (je_sub ji_ix (je_name 0) je_int) je_int) ja_nil)) je_int))
  (jss_cons (js_setL (je_bin jb_add (je_bin jb_mod (je_cb t.z_int jc_int (ja_cons (je_bin jb_add (je_bin jb_mul (je_name 3) je_int) je_int) ja_nil)) je_int) je_int) (je_name 0) je_int)
  (jss_cons (js_ret (je_bin jb_mod (je_cb t.z_int jc_int (ja_cons (je_bin jb_fdiv (je_bin jb_add (je_bin jb_mul (je_name 3) je_int) (je_sub ji_ix (je_name 0) je_int)) je_int) ja_nil)) (je_name 1)))
  jss_nil))))
end

def w_Ring_cells (n : Nat) : WS := (wConsS (wRetG (wCb (wCons (wFldA 0 "row" (wName 0)) wNil) (liWC listW)))
  wNilS)
def c_Ring_cells : CtG := cgOf ["self"] ["self"] (w_Ring_cells)
section
variable {T : Tab} {P : Program} {w : World} {K : PySem.W.Frag} {mg : Str → Option Value} {base : Heap}
theorem Tx.ok_Ring_cells (t : Tx T K mg) : FnOk P w K mg base CX0 1 t.a_Ring_cells t.fd_Ring_cells ["self"] (spG T K c_Ring_cells) := by
  have nd := sc_Ring_cells.nd
  exact fn_G t.F_Ring_cells sc_Ring_cells fun cdv A outer sh H E hr n => (jss_cons (js_retG (je_cb t.z_list (jk_li jc_list) (ja_cons (je_fldA t.T_Ring t.cl_Ring t.no_Ring_row (je_name 0)) ja_nil)))
  jss_nil)
end

def w__law_far (n : Nat) : WS := (wConsS (wAsg 2 (wFn c__law_take (wCons (wName 0) (wCons (wCon (.int 3)) wNil))))
  (wConsS (wIfS (wBl (wTwo (wName 2) (wCon (.int 0)) (eqW false)))
  (wConsS (wRet n (wTwo (wTwo (wFn c__law_take (wCons (wName 0) (wCons (wTwo (wTwo (wCon (.int 2)) (wName 1) mulW) (wCon (.int 3)) addW) wNil))) (wName 1) subW) (wCon (.int 1)) subW))
  wNilS)
  wNilS)
  (wConsS (wRet n (wTwo (wLst (wCons (wFn c__law_take (wCons (wName 0) (wCons (wTwo (wCon (.int 10)) (wCon (.int 12)) powW) wNil))) (wCons (wTwo (wCon (.int 0)) (wFn c__law_take (wCons (wName 0) (wCons (wTwo (wCon (.int 10)) (wCon (.int 12)) powW) wNil))) subW) wNil))) (wTwo (wName 2) (wCon (.int 1)) subW) ixW))
  wNilS)))
def c__law_far : Ct := ctOf ["_law_box_here", "_law_n", "_law_way"] ["_law_box_here", "_law_n"] (w__law_far)
section
variable {T : Tab} {P : Program} {w : World} {K : PySem.W.Frag} {mg : Str → Option Value} {base : Heap}
theorem Tx.ok__law_far (t : Tx T K mg) : FnOk P w K mg base CX0 2 t.a__law_far t.fd__law_far ["_law_box_here", "_law_n"] (spC T K c__law_far) := by
  have nd := sc__law_far.nd
  exact fn_J t.F__law_far sc__law_far fun cdv A outer sh H E hr n => (jss_cons (js_asg 2 nd (je_call t.ok__law_take (hr.mono (by decide)) t.m__law_take t.F__law_take.kp t.b__law_take (ja_cons (je_name 0) (ja_cons je_int ja_nil))))
  (jss_cons (js_if (jt_cmp (jc_eq hr.units) (je_name 2) je_int)
  (jss_cons (js_ret (je_bin jb_sub (je_bin jb_sub (je_call t.ok__law_take (hr.mono (by decide)) t.m__law_take t.F__law_take.kp t.b__law_take (ja_cons (je_name 0) (ja_cons (je_bin jb_add (je_bin jb_mul je_int (je_name 1)) je_int) ja_nil))) (je_name 1)) je_int))
  jss_nil)
  jss_nil)
  (jss_cons (js_ret (je_sub ji_ix (je_lst (ja_cons (je_call t.ok__law_take (hr.mono (by decide)) t.m__law_take t.F__law_take.kp t.b__law_take (ja_cons (je_name 0) (ja_cons (je_bin jb_pow je_int je_int) ja_nil))) (ja_cons (je_bin jb_sub je_int (je_call t.ok__law_take (hr.mono (by decide)) t.m__law_take t.F__law_take.kp t.b__law_take (ja_cons (je_name 0) (ja_cons (je_bin jb_pow je_int je_int) ja_nil)))) ja_nil))) (je_bin jb_sub (je_name 2) je_int)))
  jss_nil)))
end

def w__law_moved (n : Nat) : WS := (wConsS (wRet n (wLc (wRng1 (wCons (wCb (wCons (wName 0) wNil) lenW) wNil)) (.nm 2) wYes (wTwo (wName 0) (wTwo (wCb (wCons (wTwo (wName 2) (wName 1) addW) wNil) intW1) (wCb (wCons (wName 0) wNil) lenW) modW) ixW) [2]))
  wNilS)
def c__law_moved : Ct := ctOf ["_law_cells", "_law_k", "_law_q"] ["_law_cells", "_law_k"] (w__law_moved)
section
variable {T : Tab} {P : Program} {w : World} {K : PySem.W.Frag} {mg : Str → Option Value} {base : Heap}
theorem Tx.ok__law_moved (t : Tx T K mg) : FnOk P w K mg base CX0 1 t.a__law_moved t.fd__law_moved ["_law_cells", "_law_k"] (spC T K c__law_moved) := by
  have nd := sc__law_moved.nd
  exact fn_J t.F__law_moved sc__law_moved fun cdv A outer sh H E hr n => (jss_cons (js_ret (je_lc nd ⟨(ji_range1 t.z_range (ja_cons (je_cb t.z_len jc_len (ja_cons (je_name 0) ja_nil)) ja_nil)), blkOk_by (own := [("_law_q", 2)]) (by kernel_rfl), fun _ _ _ _ _ => (dg_name 2 nd), fun _ _ _ _ _ => jts_nil, fun _ _ _ _ _ => (je_sub ji_ix (je_name 0) (je_bin jb_mod (je_cb t.z_int jc_int (ja_cons (je_bin jb_add (je_name 2) (je_name 1)) ja_nil)) (je_cb t.z_len jc_len (ja_cons (je_name 0) ja_nil)))), by decide⟩))
  jss_nil)
end

def w_Ring___len__ (n : Nat) : WS := (wConsS (wRetG (wCb (wCons (wFldA 0 "row" (wName 0)) wNil) (liWC lenW)))
  wNilS)
def c_Ring___len__ : CtG := cgOf ["self"] ["self"] (w_Ring___len__)
section
variable {T : Tab} {P : Program} {w : World} {K : PySem.W.Frag} {mg : Str → Option Value} {base : Heap}
theorem Tx.ok_Ring___len__ (t : Tx T K mg) : FnOk P w K mg base CX0 1 t.a_Ring___len__ t.fd_Ring___len__ ["self"] (spG T K c_Ring___len__) := by
  have nd := sc_Ring___len__.nd
  exact fn_G t.F_Ring___len__ sc_Ring___len__ fun cdv A outer sh H E hr n => (jss_cons (js_retG (je_cb t.z_len (jk_li jc_len) (ja_cons (je_fldA t.T_Ring t.cl_Ring t.no_Ring_row (je_name 0)) ja_nil)))
  jss_nil)
end

def w_Ring___getitem__ (n : Nat) : WS := (wConsS (wRetG (wTwo (wFldA 0 "row" (wName 0)) (wTwo (wName 1) (wCb (wCons (wFldA 0 "row" (wName 0)) wNil) (liWC lenW)) (liW2 modW)) (liW2 ixW)))
  wNilS)
def c_Ring___getitem__ : CtG := cgOf ["self", "k"] ["self", "k"] (w_Ring___getitem__)
section
variable {T : Tab} {P : Program} {w : World} {K : PySem.W.Frag} {mg : Str → Option Value} {base : Heap}
theorem Tx.ok_Ring___getitem__ (t : Tx T K mg) : FnOk P w K mg base CX0 1 t.a_Ring___getitem__ t.fd_Ring___getitem__ ["self", "k"] (spG T K c_Ring___getitem__) := by
  have nd := sc_Ring___getitem__.nd
  exact fn_G t.F_Ring___getitem__ sc_Ring___getitem__ fun cdv A outer sh H E hr n => (jss_cons (js_retG (je_sub (ji_li ji_ix) (je_fldA t.T_Ring t.cl_Ring t.no_Ring_row (je_name 0)) (je_binP (JBin.P (jb_li jb_mod)) (je_name 1) (je_cb t.z_len (jk_li jc_len) (ja_cons (je_fldA t.T_Ring t.cl_Ring t.no_Ring_row (je_name 0)) ja_nil)))))
  jss_nil)
end

def w_Ring___setitem__ (n : Nat) : WS := (wConsS (wSetLA (wName 2) (wFldA 0 "row" (wName 0)) (wTwo (wName 1) (wCb (wCons (wFldA 0 "row" (wName 0)) wNil) (liWC lenW)) (liW2 modW)))
  wNilS)
def c_Ring___setitem__ : CtG := cgOf ["self", "k", "worth"] ["self", "k", "worth"] (w_Ring___setitem__)
section
variable {T : Tab} {P : Program} {w : World} {K : PySem.W.Frag} {mg : Str → Option Value} {base : Heap}
theorem Tx.ok_Ring___setitem__ (t : Tx T K mg) : FnOk P w K mg base CX0 1 t.a_Ring___setitem__ t.fd_Ring___setitem__ ["self", "k", "worth"] (spG T K c_Ring___setitem__) := by
  have nd := sc_Ring___setitem__.nd
  exact fn_G t.F_Ring___setitem__ sc_Ring___setitem__ fun cdv A outer sh H E hr n => (jss_cons (js_setLA (je_name 2) (je_fldA t.T_Ring t.cl_Ring t.no_Ring_row (je_name 0)) (je_binP (JBin.P (jb_li jb_mod)) (je_name 1) (je_cb t.z_len (jk_li jc_len) (ja_cons (je_fldA t.T_Ring t.cl_Ring t.no_Ring_row (je_name 0)) ja_nil))))
  jss_nil)
end

def w_moved_on (n : Nat) : WS := (wConsS (wAsg 2 (wTwo (wName 1) (wCb (wCons (wName 0) wNil) (liWC lenW)) (liW2 modW)))
  (wConsS (wRetG (wTag (wTwo (wSlcA (wName 0) (wO1 (wName 2)) wO0) (wSlcA (wName 0) wO0 (wO1 (wName 2))) (liW2 addWC))))
  wNilS))
def c_moved_on : CtG := cgOf ["cells", "k", "first"] ["cells", "k"] (w_moved_on)
section
variable {T : Tab} {P : Program} {w : World} {K : PySem.W.Frag} {mg : Str → Option Value} {base : Heap}
theorem Tx.ok_moved_on (t : Tx T K mg) : FnOk P w K mg base CX0 1 t.a_moved_on t.fd_moved_on ["cells", "k"] (spG T K c_moved_on) := by
  have nd := sc_moved_on.nd
  exact fn_G t.F_moved_on sc_moved_on fun cdv A outer sh H E hr n => (jss_cons (js_asg 2 nd (je_binP (JBin.P (jb_li jb_mod)) (je_name 1) (je_cb t.z_len (jk_li jc_len) (ja_cons (je_name 0) ja_nil))))
  (jss_cons (js_retG (je_tag (je_binP (JBin.P (jb_li jb_addC)) (je_sliceA (je_name 0) (jo_some (je_name 2)) jo_none) (je_sliceA (je_name 0) jo_none (jo_some (je_name 2))))))
  jss_nil))
end

def w_Ring___lshift__ (n : Nat) : WS := (wConsS (wRetG (wMakeAX 0 c_Ring___init__ 1 0 fu_Ring_1_ (wCons (wFnG c_moved_on (wCons (wFldA 0 "row" (wName 0)) (wCons (wName 1) wNil))) wNil) wNil))
  wNilS)
def c_Ring___lshift__ : CtG := cgOf ["self", "k"] ["self", "k"] (w_Ring___lshift__)
section
variable {T : Tab} {P : Program} {w : World} {K : PySem.W.Frag} {mg : Str → Option Value} {base : Heap}
theorem Tx.ok_Ring___lshift__ (t : Tx T K mg) : FnOk P w K mg base CX0 5 t.a_Ring___lshift__ t.fd_Ring___lshift__ ["self", "k"] (spG T K c_Ring___lshift__) := by
  have nd := sc_Ring___lshift__.nd
  exact fn_G t.F_Ring___lshift__ sc_Ring___lshift__ fun cdv A outer sh H E hr n => (jss_cons (js_retG (je_makeAX tk0 t.T_Ring t.K_Ring t.ok_Ring___init__ (hr.mono (by decide)) t.m_Ring t.kb_Ring_1_ t.put_Ring_1_ (ja_cons (je_callHp t.ok_moved_on (hr.mono (by decide)) t.m_moved_on t.F_moved_on.kp t.b_moved_on (ja_cons (je_fldA t.T_Ring t.cl_Ring t.no_Ring_row (je_name 0)) (ja_cons (je_name 1) ja_nil))) ja_nil) jk_nil))
  jss_nil)
end

def w_Ring___rshift__ (n : Nat) : WS := (wConsS (wRetG (wMakeAX 0 c_Ring___init__ 1 0 fu_Ring_1_ (wCons (wFnG c_moved_on (wCons (wFldA 0 "row" (wName 0)) (wCons (wOne (wName 1) (liW1 negW)) wNil))) wNil) wNil))
  wNilS)
def c_Ring___rshift__ : CtG := cgOf ["self", "k"] ["self", "k"] (w_Ring___rshift__)
section
variable {T : Tab} {P : Program} {w : World} {K : PySem.W.Frag} {mg : Str → Option Value} {base : Heap}
theorem Tx.ok_Ring___rshift__ (t : Tx T K mg) : FnOk P w K mg base CX0 5 t.a_Ring___rshift__ t.fd_Ring___rshift__ ["self", "k"] (spG T K c_Ring___rshift__) := by
  have nd := sc_Ring___rshift__.nd
  exact fn_G t.F_Ring___rshift__ sc_Ring___rshift__ fun cdv A outer sh H E hr n => (jss_cons (js_retG (je_makeAX tk0 t.T_Ring t.K_Ring t.ok_Ring___init__ (hr.mono (by decide)) t.m_Ring t.kb_Ring_1_ t.put_Ring_1_ (ja_cons (je_callHp t.ok_moved_on (hr.mono (by decide)) t.m_moved_on t.F_moved_on.kp t.b_moved_on (ja_cons (je_fldA t.T_Ring t.cl_Ring t.no_Ring_row (je_name 0)) (ja_cons (je_unP (JUn.P (ju_li ju_neg)) (je_name 1)) ja_nil))) ja_nil) jk_nil))
  jss_nil)
end

def w_Ring___neg__ (n : Nat) : WS := (wConsS (wRetG (wMakeAX 0 c_Ring___init__ 1 0 fu_Ring_1_ (wCons (wTag (wTwo (wSlcA (wFldA 0 "row" (wName 0)) wO0 (wO1 (wCon (.int 1)))) (wSl3 (wFldA 0 "row" (wName 0)) wO0 (wO1 (wCon (.int 0))) (wO1 (wOne (wCon (.int 1)) (liW1 negW)))) (liW2 addWC))) wNil) wNil))
  wNilS)
def c_Ring___neg__ : CtG := cgOf ["self"] ["self"] (w_Ring___neg__)
section
variable {T : Tab} {P : Program} {w : World} {K : PySem.W.Frag} {mg : Str → Option Value} {base : Heap}
theorem Tx.ok_Ring___neg__ (t : Tx T K mg) : FnOk P w K mg base CX0 5 t.a_Ring___neg__ t.fd_Ring___neg__ ["self"] (spG T K c_Ring___neg__) := by
  have nd := sc_Ring___neg__.nd
  exact fn_G t.F_Ring___neg__ sc_Ring___neg__ fun cdv A outer sh H E hr n => (jss_cons (js_retG (je_makeAX tk0 t.T_Ring t.K_Ring t.ok_Ring___init__ (hr.mono (by decide)) t.m_Ring t.kb_Ring_1_ t.put_Ring_1_ (ja_cons (je_tag (je_binP (JBin.P (jb_li jb_addC)) (je_sliceA (je_fldA t.T_Ring t.cl_Ring t.no_Ring_row (je_name 0)) jo_none (jo_some je_int)) (je_slice3 (je_fldA t.T_Ring t.cl_Ring t.no_Ring_row (je_name 0)) jo_none (jo_some je_int) (jo_some (je_unP (JUn.P (ju_li ju_neg)) je_int))))) ja_nil) jk_nil))
  jss_nil)
end

def w_Ring___eq__ (n : Nat) : WS := (wConsS (wRetG (wAndV (wIsiA tb_Ring ob_Ring (wName 1)) (wTwo (wFldA 0 "row" (wName 0)) (wFldA 0 "row" (wName 1)) (liW2 (eqLW false)))))
  wNilS)
def c_Ring___eq__ : CtG := cgOf ["self", "other"] ["self", "other"] (w_Ring___eq__)
section
variable {T : Tab} {P : Program} {w : World} {K : PySem.W.Frag} {mg : Str → Option Value} {base : Heap}
theorem Tx.ok_Ring___eq__ (t : Tx T K mg) : FnOk P w K mg base CX0 1 t.a_Ring___eq__ t.fd_Ring___eq__ ["self", "other"] (spG T K c_Ring___eq__) := by
  have nd := sc_Ring___eq__.nd
  exact fn_G t.F_Ring___eq__ sc_Ring___eq__ fun cdv A outer sh H E hr n => (jss_cons (js_retG (je_and (je_isiA t.z_isinstance t.m_Ring t.tbIs_Ring t.obIs_Ring (je_name 1)) (je_one (je_cmpP (JCmp.P (jc_li (jc_eqL hr.units))) (je_fldA t.T_Ring t.cl_Ring t.no_Ring_row (je_name 0)) (je_fldA t.T_Ring t.cl_Ring t.no_Ring_row (je_name 1))))))
  jss_nil)
end

def w_Ring___ilshift__ (n : Nat) : WS := (wConsS (wSetFA 0 "row" (wFnG c_moved_on (wCons (wFldA 0 "row" (wName 0)) (wCons (wName 1) wNil))) (wName 0))
  (wConsS (wRetG (wName 0))
  wNilS))
def c_Ring___ilshift__ : CtG := cgOf ["self", "k"] ["self", "k"] (w_Ring___ilshift__)
section
variable {T : Tab} {P : Program} {w : World} {K : PySem.W.Frag} {mg : Str → Option Value} {base : Heap}
theorem Tx.ok_Ring___ilshift__ (t : Tx T K mg) : FnOk P w K mg base CX0 2 t.a_Ring___ilshift__ t.fd_Ring___ilshift__ ["self", "k"] (spG T K c_Ring___ilshift__) := by
  have nd := sc_Ring___ilshift__.nd
  exact fn_G t.F_Ring___ilshift__ sc_Ring___ilshift__ fun cdv A outer sh H E hr n => (jss_cons (js_fldA t.T_Ring t.cl_Ring t.no_Ring_row (je_callHp t.ok_moved_on (hr.mono (by decide)) t.m_moved_on t.F_moved_on.kp t.b_moved_on (ja_cons (je_fldA t.T_Ring t.cl_Ring t.no_Ring_row (je_name 0)) (ja_cons (je_name 1) ja_nil))) (je_name 0))
  (jss_cons (js_retG (je_name 0))
  jss_nil))
end

def w_Ring___irshift__ (n : Nat) : WS := (wConsS (wSetFA 0 "row" (wFnG c_moved_on (wCons (wFldA 0 "row" (wName 0)) (wCons (wOne (wName 1) (liW1 negW)) wNil))) (wName 0))
  (wConsS (wRetG (wName 0))
  wNilS))
def c_Ring___irshift__ : CtG := cgOf ["self", "k"] ["self", "k"] (w_Ring___irshift__)
section
variable {T : Tab} {P : Program} {w : World} {K : PySem.W.Frag} {mg : Str → Option Value} {base : Heap}
theorem Tx.ok_Ring___irshift__ (t : Tx T K mg) : FnOk P w K mg base CX0 2 t.a_Ring___irshift__ t.fd_Ring___irshift__ ["self", "k"] (spG T K c_Ring___irshift__) := by
  have nd := sc_Ring___irshift__.nd
  exact fn_G t.F_Ring___irshift__ sc_Ring___irshift__ fun cdv A outer sh H E hr n => (jss_cons (js_fldA t.T_Ring t.cl_Ring t.no_Ring_row (je_callHp t.ok_moved_on (hr.mono (by decide)) t.m_moved_on t.F_moved_on.kp t.b_moved_on (ja_cons (je_fldA t.T_Ring t.cl_Ring t.no_Ring_row (je_name 0)) (ja_cons (je_unP (JUn.P (ju_li ju_neg)) (je_name 1)) ja_nil))) (je_name 0))
  (jss_cons (js_retG (je_name 0))
  jss_nil))
end

def w_law_fin (n : Nat) : WS := (wConsS (wRetG (wAndV (wTwo (wTwo (wName 3) (wName 6) (orW (ref2W 0 c_Ring___eq__) (liW2 (eqW false)))) (wCon (.bl true)) (liW2 (isBW false))) (wTwo (wTwo (wName 3) (wName 5) (orW (ref2W 0 c_Ring___eq__) (liW2 (eqW false)))) (wTwo (wName 7) (wName 8) (orW (ref2W 0 c_Ring___eq__) (liW2 (eqW false)))) (orW (ref2W 0 c_Ring___eq__) (liW2 (eqW false))))))
  wNilS)
def w_law_ats (n : Nat) : WS := (wConsS (wIfS (wOrT (wBl (wTwo (wSubA 0 c_Ring___getitem__ (wName 3) (wName 4)) (wTwo (wName 7) (wTwo (wCb (wCons (wName 4) wNil) (liWC intW1)) (wName 2) (liW2 modW)) (liW2 ixW)) (liW2 (eqW true)))) (wBl (wTwo (wSubA 0 c_Ring___getitem__ (wName 5) (wName 4)) (wTwo (wName 8) (wTwo (wCb (wCons (wName 4) wNil) (liWC intW1)) (wName 2) (liW2 modW)) (liW2 ixW)) (liW2 (eqW true)))))
  (wConsS (wRetG (wCon (.bl false)))
  wNilS)
  wNilS)
  wNilS)
def w_law_kepts (n : Nat) : WS := (wConsS (wIfS (wOrT (wBl (wTwo (wLc (wItems (wName 11)) (.nm 14) wYes (wMethA0 0 "cells" c_Ring_cells (wName 14)) [14]) (wName 12) (liW2 (eqW true)))) (wOrT (wBl (wTwo (wCb (wCons (wName 3) wNil) (refLenW 0 c_Ring___len__ (liWC lenW))) (wName 2) (liW2 (eqW true)))) (wBl (wTwo (wMethA0 0 "cells" c_Ring_cells (wName 5)) (wName 8) (liW2 (eqW true))))))
  (wConsS (wRetG (wCon (.bl false)))
  wNilS)
  wNilS)
  (w_law_ats n))
def w_law_test (n : Nat) : WS := (wConsS (wIfS (wOrT (wBl (wTwo (wMethA0 0 "cells" c_Ring_cells (wName 3)) (wName 7) (liW2 (eqW true)))) (wBl (wTwo (wMethA0 0 "cells" c_Ring_cells (wName 6)) (wName 7) (liW2 (eqW true)))))
  (wConsS (wRetG (wCon (.bl false)))
  wNilS)
  wNilS)
  (w_law_kepts n))
def w_law_deed (n : Nat) : WS := (wConsS (wIfS (wBl (wTwo (wName 10) (wCon (.int 0)) (orW (ref2W 0 c_Ring___eq__) (liW2 (eqW false)))))
  (wConsS (wAug 3 (wName 4) (refOpW 0 c_Ring___ilshift__))
  (wConsS (wAsg 7 (wFn c__law_moved (wCons (wName 7) (wCons (wName 4) wNil))))
  wNilS))
  (wConsS (wIfS (wBl (wTwo (wName 10) (wCon (.int 1)) (orW (ref2W 0 c_Ring___eq__) (liW2 (eqW false)))))
  (wConsS (wAug 6 (wName 4) (refOpW 0 c_Ring___irshift__))
  (wConsS (wAsg 7 (wFn c__law_moved (wCons (wName 7) (wCons (wTwo (wCon (.int 0)) (wName 4) (liW2 subW)) wNil))))
  wNilS))
  (wConsS (wIfS (wBl (wTwo (wName 10) (wCon (.int 2)) (orW (ref2W 0 c_Ring___eq__) (liW2 (eqW false)))))
  (wConsS (wAug 5 (wName 4) (refOpW 0 c_Ring___ilshift__))
  (wConsS (wAsg 8 (wFn c__law_moved (wCons (wName 8) (wCons (wName 4) wNil))))
  wNilS))
  (wConsS (wIfS (wBl (wTwo (wName 10) (wCon (.int 3)) (orW (ref2W 0 c_Ring___eq__) (liW2 (eqW false)))))
  (wConsS (wAug 5 (wName 4) (refOpW 0 c_Ring___irshift__))
  (wConsS (wAsg 8 (wFn c__law_moved (wCons (wName 8) (wCons (wTwo (wCon (.int 0)) (wName 4) (liW2 subW)) wNil))))
  wNilS))
  (wConsS (wSetA 0 c_Ring___setitem__ (wTwo (wCb (wCons (wName 9) wNil) (liWC strW1)) (wCon (.str "y")) (liW2 addW)) (wName 6) (wName 4))
  (wConsS (wAsg 13 (wTwo (wCb (wCons (wName 4) wNil) (liWC intW1)) (wName 2) (liW2 modW)))
  (wConsS (wAsg 7 (wTwo (wTwo (wSlcA (wName 7) wO0 (wO1 (wName 13))) (wLst (wCons (wTwo (wCb (wCons (wName 9) wNil) (liWC strW1)) (wCon (.str "y")) (liW2 addW)) wNil)) (liW2 addW)) (wSlcA (wName 7) (wO1 (wTwo (wName 13) (wCon (.int 1)) (liW2 addW))) wO0) (liW2 addW)))
  wNilS))))
  wNilS))
  wNilS))
  wNilS))
  (w_law_test n))
def w_law_kept (n : Nat) : WS := (wConsS (wAsg 12 (wTwo (wName 12) (wLst (wCons (wLc (wRng1 (wCons (wName 2) wNil)) (.nm 13) wYes (wTwo (wName 7) (wTwo (wCb (wCons (wTwo (wCon (.int 0)) (wName 13) (liW2 subW)) wNil) (liWC intW1)) (wName 2) (liW2 modW)) (liW2 ixW)) [13]) wNil)) (liW2 addW)))
  (w_law_deed n))
def w_law_turn (n : Nat) : WS := (wConsS (wPar2 10 4 (wCons (wFn c__law_take (wCons (wName 1) (wCons (wCon (.int 6)) wNil))) (wCons (wFn c__law_far (wCons (wName 1) (wCons (wName 2) wNil))) wNil)))
  (wConsS (wPar2 11 12 (wCons (wLst (wCons (wTwo (wName 3) (wCon (.int 0)) (orW (refIW 0 c_Ring___rshift__) (liW2 (fun _ _ _ _ => False)))) (wCons (wTwo (wName 3) (wCon (.int 0)) (orW (refIW 0 c_Ring___lshift__) (liW2 (fun _ _ _ _ => False)))) (wCons (wTwo (wName 3) (wName 2) (orW (refIW 0 c_Ring___lshift__) (liW2 (fun _ _ _ _ => False)))) (wCons (wOne (wName 3) (orW1 (refNW 0 c_Ring___neg__) (liW1 negW))) wNil))))) (wCons (wTwo (wLst (wCons (wCb (wCons (wName 7) wNil) (liWC listW)) wNil)) (wCon (.int 3)) (liW2 mulW)) wNil)))
  (w_law_kept n)))
def w_law (n : Nat) : WS := (wConsS (wAsg 1 (wFn c__law_box (wCons (wName 0) (wCons (wCon (.int 0)) wNil))))
  (wConsS (wAsg 2 (wTwo (wCon (.int 1)) (wFn c__law_take (wCons (wName 1) (wCons (wTwo (wLst (wCons (wCon (.int 7)) (wCons (wCon (.int 60)) wNil))) (wFn c__law_take (wCons (wName 1) (wCons (wCon (.int 2)) wNil))) (liW2 ixW)) wNil))) (liW2 addW)))
  (wConsS (wAsg 3 (wMakeAX 0 c_Ring___init__ 1 0 fu_Ring_1_ (wCons (wLc (wRng1 (wCons (wName 2) wNil)) (.nm 4) wYes (wCb (wCons (wName 4) wNil) (liWC strW1)) [4]) wNil) wNil))
  (wConsS (wPar2 5 6 (wCons (wMakeAX 0 c_Ring___init__ 1 0 fu_Ring_1_ (wCons (wLc (wRng1 (wCons (wName 2) wNil)) (.nm 4) wYes (wTwo (wCon (.str "x")) (wCb (wCons (wName 4) wNil) (liWC strW1)) (liW2 addW)) [4]) wNil) wNil) (wCons (wName 3) wNil)))
  (wConsS (wTupS [(.nm 7), (.nm 8)] (wTup (wCons (wMethA0 0 "cells" c_Ring_cells (wName 3)) (wCons (wMethA0 0 "cells" c_Ring_cells (wName 5)) wNil))))
  (wConsS (wFor (wRng1 (wCons (wTwo (wCon (.int 10)) (wFn c__law_take (wCons (wName 1) (wCons (wCon (.int 21)) wNil))) (liW2 addW)) wNil)) (.nm 9)
  (w_law_turn n))
  (w_law_fin n)))))))
def ch_law : CtG := cgOf ["_law_script", "_law_box_here", "_law_n", "_law_one", "_law_k", "_law_other", "_law_again", "_law_cells", "_law_others", "_law_turn", "_law_way", "_law_before", "_law_kept", "_law_q", "_law_ring"] ["_law_script"] (w_law)
def c_law : Ct := ctH ch_law
section
variable {T : Tab} {P : Program} {w : World} {K : PySem.W.Frag} {mg : Str → Option Value} {base : Heap}
theorem Tx.ok_law (t : Tx T K mg) : FnOk P w K mg base CX0 6 t.a_law t.fd_law ["_law_script"] (spC T K c_law) := by
  have nd := sc_law.nd
  exact Dl.FnOk.toC (fn_G t.F_law sc_law fun cdv A outer sh H E hr n => (jss_cons (js_asg 1 nd (je_call t.ok__law_box (hr.mono (by decide)) t.m__law_box t.F__law_box.kp t.b__law_box (ja_cons (je_name 0) (ja_cons je_int ja_nil))))
  (jss_cons (js_asg 2 nd (je_binP (JBin.P (jb_li jb_add)) je_int (je_call t.ok__law_take (hr.mono (by decide)) t.m__law_take t.F__law_take.kp t.b__law_take (ja_cons (je_name 1) (ja_cons (je_sub (ji_li ji_ix) (je_lst (ja_cons je_int (ja_cons je_int ja_nil))) (je_call t.ok__law_take (hr.mono (by decide)) t.m__law_take t.F__law_take.kp t.b__law_take (ja_cons (je_name 1) (ja_cons je_int ja_nil)))) ja_nil)))))
  (jss_cons (js_asg 3 nd (je_makeAX tk0 t.T_Ring t.K_Ring t.ok_Ring___init__ (hr.mono (by decide)) t.m_Ring t.kb_Ring_1_ t.put_Ring_1_ (ja_cons (je_lc nd ⟨(ji_range1 t.z_range (ja_cons (je_name 2) ja_nil)), blkOk_by (own := [("_law_k", 4)]) (by kernel_rfl), fun _ _ _ _ _ => (dg_name 4 nd), fun _ _ _ _ _ => jts_nil, fun _ _ _ _ _ => (je_cb t.z_str (jk_li jc_str) (ja_cons (je_name 4) ja_nil)), by decide⟩) ja_nil) jk_nil))
  (jss_cons (js_par2 5 6 nd (ja_cons (je_makeAX tk0 t.T_Ring t.K_Ring t.ok_Ring___init__ (hr.mono (by decide)) t.m_Ring t.kb_Ring_1_ t.put_Ring_1_ (ja_cons (je_lc nd ⟨(ji_range1 t.z_range (ja_cons (je_name 2) ja_nil)), blkOk_by (own := [("_law_k", 4)]) (by kernel_rfl), fun _ _ _ _ _ => (dg_name 4 nd), fun _ _ _ _ _ => jts_nil, fun _ _ _ _ _ => (je_binP (JBin.P (jb_li jb_add)) je_str (je_cb t.z_str (jk_li jc_str) (ja_cons (je_name 4) ja_nil))), by decide⟩) ja_nil) jk_nil) (ja_cons (je_name 3) ja_nil)))
  (jss_cons (js_tup (je_tup (ja_cons (je_methA0 t.T_Ring t.cl_Ring t.M_Ring_cells t.ok_Ring_cells (hr.mono (by decide)) t.b_Ring_cells (je_name 3)) (ja_cons (je_methA0 t.T_Ring t.cl_Ring t.M_Ring_cells t.ok_Ring_cells (hr.mono (by decide)) t.b_Ring_cells (je_name 5)) ja_nil))) (dgs_cons (dg_name 7 nd) (dgs_cons (dg_name 8 nd) dgs_nil)))
  (jss_cons (js_for PassesOwn.never (ji_range1 t.z_range (ja_cons (je_binP (JBin.P (jb_li jb_add)) je_int (je_call t.ok__law_take (hr.mono (by decide)) t.m__law_take t.F__law_take.kp t.b__law_take (ja_cons (je_name 1) (ja_cons je_int ja_nil)))) ja_nil)) (dg_name 9 nd)
  (jss_cons (js_par2 10 4 nd (ja_cons (je_call t.ok__law_take (hr.mono (by decide)) t.m__law_take t.F__law_take.kp t.b__law_take (ja_cons (je_name 1) (ja_cons je_int ja_nil))) (ja_cons (je_call t.ok__law_far (hr.mono (by decide)) t.m__law_far t.F__law_far.kp t.b__law_far (ja_cons (je_name 1) (ja_cons (je_name 2) ja_nil))) ja_nil)))
  (jss_cons (js_par2 11 12 nd (ja_cons (je_lst (ja_cons (je_binP (jb_or (jb_refI t.T_Ring t.O_rshift t.ok_Ring___rshift__ (hr.mono (by decide)) t.b_Ring___rshift__) (JBin.P (jb_li jb_no))) (je_name 3) je_int) (ja_cons (je_binP (jb_or (jb_refI t.T_Ring t.O_lshift t.ok_Ring___lshift__ (hr.mono (by decide)) t.b_Ring___lshift__) (JBin.P (jb_li jb_no))) (je_name 3) je_int) (ja_cons (je_binP (jb_or (jb_refI t.T_Ring t.O_lshift t.ok_Ring___lshift__ (hr.mono (by decide)) t.b_Ring___lshift__) (JBin.P (jb_li jb_no))) (je_name 3) (je_name 2)) (ja_cons (je_unP (ju_or (ju_refN t.T_Ring t.ok_Ring___neg__ (hr.mono (by decide)) t.b_Ring___neg__ t.M_Ring___neg__.at_ t.M_Ring___neg__.fn) (JUn.P (ju_li ju_neg))) (je_name 3)) ja_nil))))) (ja_cons (je_binP (JBin.P (jb_li jb_mul)) (je_lst (ja_cons (je_cb t.z_list (jk_li jc_list) (ja_cons (je_name 7) ja_nil)) ja_nil)) je_int) ja_nil)))
  (jss_cons (js_asg 12 nd (je_binP (JBin.P (jb_li jb_add)) (je_name 12) (je_lst (ja_cons (je_lc nd ⟨(ji_range1 t.z_range (ja_cons (je_name 2) ja_nil)), blkOk_by (own := [("_law_q", 13)]) (by kernel_rfl), fun _ _ _ _ _ => (dg_name 13 nd), fun _ _ _ _ _ => jts_nil, fun _ _ _ _ _ => (je_sub (ji_li ji_ix) (je_name 7) (je_binP (JBin.P (jb_li jb_mod)) (je_cb t.z_int (jk_li jc_int) (ja_cons (je_binP (JBin.P (jb_li jb_sub)) je_int (je_name 13)) ja_nil)) (je_name 2))), by decide⟩) ja_nil))))
  (jss_cons (js_if (jt_cmpP (jc_or (jc_ref2 t.T_Ring t.ok_Ring___eq__ (hr.mono (by decide)) t.b_Ring___eq__ t.M_Ring___eq__.at_ t.M_Ring___eq__.fn) (JCmp.P (jc_li (jc_eq hr.units)))) (je_name 10) je_int)
  (jss_cons (js_augP 3 nd (jp_ref t.T_Ring t.ok_Ring___ilshift__ (hr.mono (by decide)) t.b_Ring___ilshift__ t.I_lshift) (je_name 4))
  (jss_cons (js_asg 7 nd (je_call t.ok__law_moved (hr.mono (by decide)) t.m__law_moved t.F__law_moved.kp t.b__law_moved (ja_cons (je_name 7) (ja_cons (je_name 4) ja_nil))))
  jss_nil))
  (jss_cons (js_if (jt_cmpP (jc_or (jc_ref2 t.T_Ring t.ok_Ring___eq__ (hr.mono (by decide)) t.b_Ring___eq__ t.M_Ring___eq__.at_ t.M_Ring___eq__.fn) (JCmp.P (jc_li (jc_eq hr.units)))) (je_name 10) je_int)
  (jss_cons (js_augP 6 nd (jp_ref t.T_Ring t.ok_Ring___irshift__ (hr.mono (by decide)) t.b_Ring___irshift__ t.I_rshift) (je_name 4))
  (jss_cons (js_asg 7 nd (je_call t.ok__law_moved (hr.mono (by decide)) t.m__law_moved t.F__law_moved.kp t.b__law_moved (ja_cons (je_name 7) (ja_cons (je_binP (JBin.P (jb_li jb_sub)) je_int (je_name 4)) ja_nil))))
  jss_nil))
  (jss_cons (js_if (jt_cmpP (jc_or (jc_ref2 t.T_Ring t.ok_Ring___eq__ (hr.mono (by decide)) t.b_Ring___eq__ t.M_Ring___eq__.at_ t.M_Ring___eq__.fn) (JCmp.P (jc_li (jc_eq hr.units)))) (je_name 10) je_int)
  (jss_cons (js_augP 5 nd (jp_ref t.T_Ring t.ok_Ring___ilshift__ (hr.mono (by decide)) t.b_Ring___ilshift__ t.I_lshift) (je_name 4))
  (jss_cons (js_asg 8 nd (je_call t.ok__law_moved (hr.mono (by decide)) t.m__law_moved t.F__law_moved.kp t.b__law_moved (ja_cons (je_name 8) (ja_cons (je_name 4) ja_nil))))
  jss_nil))
  (jss_cons (js_if (jt_cmpP (jc_or (jc_ref2 t.T_Ring t.ok_Ring___eq__ (hr.mono (by decide)) t.b_Ring___eq__ t.M_Ring___eq__.at_ t.M_Ring___eq__.fn) (JCmp.P (jc_li (jc_eq hr.units)))) (je_name 10) je_int)
  (jss_cons (js_augP 5 nd (jp_ref t.T_Ring t.ok_Ring___irshift__ (hr.mono (by decide)) t.b_Ring___irshift__ t.I_rshift) (je_name 4))
  (jss_cons (js_asg 8 nd (je_call t.ok__law_moved (hr.mono (by decide)) t.m__law_moved t.F__law_moved.kp t.b__law_moved (ja_cons (je_name 8) (ja_cons (je_binP (JBin.P (jb_li jb_sub)) je_int (je_name 4)) ja_nil))))
  jss_nil))
  (jss_cons (js_setA t.T_Ring t.ok_Ring___setitem__ (hr.mono (by decide)) t.b_Ring___setitem__ t.NS_Ring t.M_Ring___setitem__.at_ t.M_Ring___setitem__.fn (je_binP (JBin.P (jb_li jb_add)) (je_cb t.z_str (jk_li jc_str) (ja_cons (je_name 9) ja_nil)) je_str) (je_name 6) (je_name 4))
  (jss_cons (js_asg 13 nd (je_binP (JBin.P (jb_li jb_mod)) (je_cb t.z_int (jk_li jc_int) (ja_cons (je_name 4) ja_nil)) (je_name 2)))
  (jss_cons (js_asg 7 nd (je_binP (JBin.P (jb_li jb_add)) (je_binP (JBin.P (jb_li jb_add)) (je_sliceA (je_name 7) jo_none (jo_some (je_name 13))) (je_lst (ja_cons (je_binP (JBin.P (jb_li jb_add)) (je_cb t.z_str (jk_li jc_str) (ja_cons (je_name 9) ja_nil)) je_str) ja_nil))) (je_sliceA (je_name 7) (jo_some (je_binP (JBin.P (jb_li jb_add)) (je_name 13) je_int)) jo_none)))
  jss_nil))))
  jss_nil))
  jss_nil))
  jss_nil))
  (jss_cons (js_if (JW.jt (jw_or (jt_cmpP (JCmp.P (jc_li (jc_ne hr.units))) (je_methA0 t.T_Ring t.cl_Ring t.M_Ring_cells t.ok_Ring_cells (hr.mono (by decide)) t.b_Ring_cells (je_name 3)) (je_name 7)) (jw_or1 (jt_cmpP (JCmp.P (jc_li (jc_ne hr.units))) (je_methA0 t.T_Ring t.cl_Ring t.M_Ring_cells t.ok_Ring_cells (hr.mono (by decide)) t.b_Ring_cells (je_name 6)) (je_name 7)))))
  (jss_cons (js_retG je_bl)
  jss_nil)
  jss_nil)
  (jss_cons (js_if (JW.jt (jw_or (jt_cmpP (JCmp.P (jc_li (jc_ne hr.units))) (je_lc nd ⟨(ji_val (je_name 11)), blkOk_by (own := [("_law_ring", 14)]) (by kernel_rfl), fun _ _ _ _ _ => (dg_name 14 nd), fun _ _ _ _ _ => jts_nil, fun _ _ _ _ _ => (je_methA0 t.T_Ring t.cl_Ring t.M_Ring_cells t.ok_Ring_cells (hr.mono (by decide)) t.b_Ring_cells (je_name 14)), by decide⟩) (je_name 12)) (jw_or (jt_cmpP (JCmp.P (jc_li (jc_ne hr.units))) (je_cb t.z_len (jc_refLen (jk_li jc_len) t.T_Ring t.ok_Ring___len__ (hr.mono (by decide)) t.b_Ring___len__ t.M_Ring___len__.at_ t.M_Ring___len__.fn) (ja_cons (je_name 3) ja_nil)) (je_name 2)) (jw_or1 (jt_cmpP (JCmp.P (jc_li (jc_ne hr.units))) (je_methA0 t.T_Ring t.cl_Ring t.M_Ring_cells t.ok_Ring_cells (hr.mono (by decide)) t.b_Ring_cells (je_name 5)) (je_name 8))))))
  (jss_cons (js_retG je_bl)
  jss_nil)
  jss_nil)
  (jss_cons (js_if (JW.jt (jw_or (jt_cmpP (JCmp.P (jc_li (jc_ne hr.units))) (je_subA t.T_Ring t.ok_Ring___getitem__ (hr.mono (by decide)) t.b_Ring___getitem__ t.M_Ring___getitem__.at_ t.FG_Ring t.M_Ring___getitem__.fn (je_name 3) (je_name 4)) (je_sub (ji_li ji_ix) (je_name 7) (je_binP (JBin.P (jb_li jb_mod)) (je_cb t.z_int (jk_li jc_int) (ja_cons (je_name 4) ja_nil)) (je_name 2)))) (jw_or1 (jt_cmpP (JCmp.P (jc_li (jc_ne hr.units))) (je_subA t.T_Ring t.ok_Ring___getitem__ (hr.mono (by decide)) t.b_Ring___getitem__ t.M_Ring___getitem__.at_ t.FG_Ring t.M_Ring___getitem__.fn (je_name 5) (je_name 4)) (je_sub (ji_li ji_ix) (je_name 8) (je_binP (JBin.P (jb_li jb_mod)) (je_cb t.z_int (jk_li jc_int) (ja_cons (je_name 4) ja_nil)) (je_name 2)))))))
  (jss_cons (js_retG je_bl)
  jss_nil)
  jss_nil)
  jss_nil))))))))
  (jss_cons (js_retG (je_and (je_cmpP (JCmp.P (jc_li jc_isB)) (je_cmpP (jc_or (jc_ref2 t.T_Ring t.ok_Ring___eq__ (hr.mono (by decide)) t.b_Ring___eq__ t.M_Ring___eq__.at_ t.M_Ring___eq__.fn) (JCmp.P (jc_li (jc_eq hr.units)))) (je_name 3) (je_name 6)) je_bl) (je_one (je_cmpP (jc_or (jc_ref2 t.T_Ring t.ok_Ring___eq__ (hr.mono (by decide)) t.b_Ring___eq__ t.M_Ring___eq__.at_ t.M_Ring___eq__.fn) (JCmp.P (jc_li (jc_eq hr.units)))) (je_cmpP (jc_or (jc_ref2 t.T_Ring t.ok_Ring___eq__ (hr.mono (by decide)) t.b_Ring___eq__ t.M_Ring___eq__.at_ t.M_Ring___eq__.fn) (JCmp.P (jc_li (jc_eq hr.units)))) (je_name 3) (je_name 5)) (je_cmpP (jc_or (jc_ref2 t.T_Ring t.ok_Ring___eq__ (hr.mono (by decide)) t.b_Ring___eq__ t.M_Ring___eq__.at_ t.M_Ring___eq__.fn) (JCmp.P (jc_li (jc_eq hr.units)))) (je_name 7) (je_name 8))))))
  jss_nil))))))))
end

/-! ### take, feed -/
theorem take_c {b : B} {m : Int} (hm : 0 < m) (hm2 : m < 2 ^ 200) (hb : Ok b) : c__law_take [.cel 0, .dat (.int m)] [bx b] (.dat (.int (tk b m))) [bx (nx b m)] := by
  refine ⟨rfl, ?_⟩
  refine Br.dec (fun h => ?_) (fun h => ?_)
  · refine And.intro hm (And.intro ⟨hm, lg hm hm2⟩ (And.intro ?_ ?_))
    · rw [tk_p h]
    · rw [nx_p h]; rfl
  · obtain ⟨hy, hy2⟩ := hb
    refine And.intro (Dl.mul_l (by omega) (by omega)) (And.intro (pos_ (by decide)) ?_)
    refine And.intro (Dl.mul_l (by omega) (by omega)) (And.intro (pos_ (by decide)) ?_)
    refine And.intro (Dl.mul_l (by omega) (by omega)) (And.intro ⟨by decide, by decide⟩ (And.intro hm (And.intro ?_ ?_)))
    · rw [tk_n h]
    · rw [nx_n h]; rfl

theorem feed_c {ns : List Int} {k : Nat} (hk : k < 100) : c__law_box [.dat (scD ns), .dat (.int k)] [] (.cel 0) [bx (feedB ns k)] := by
  refine ⟨rfl, ?_⟩
  have tail : ∀ c : Int, c = feedC ns k → wConsS (wAsg 3 (wTwo (wTwo (wTwo (wTwo (wTwo (wCb (wCons (wName 2) wNil) intW1) (wCon (.int 2147483629)) modW) (wTwo (wCon (.int 104729)) (wName 1) mulW) addW) (wCon (.int 1)) addW) (wCon (.int 5)) powW) (wCon (.int 2147483647)) modW))
      (wConsS (wRetC 0 (wLstC (wCons (wTwo (wLst (wCons (wCon (.int 0)) (wCons (wName 2) wNil))) (wCb (wCons (wTwo (wName 2) (wTwo (wCon (.int 10)) (wCon (.int 18)) powW) geW) wNil) intW1) ixW) (wCons (wTwo (wTwo (wCb (wCons (wName 3) wNil) intW1) (wCon (.int 2147483646)) modW) (wCon (.int 1)) addW) wNil)))) wNilS)
      ⟨[some (.dat (scD ns)), some (.dat (.int k)), some (.dat (.int c)), none], []⟩ (endJ 0 (.cel 0) [bx (feedB ns k)]) := by
    rintro c rfl
    refine And.intro (pos_ (by decide)) (And.intro (Dl.mul_l (by decide) (by decide)) (And.intro ⟨by decide, by decide, by omega⟩ (And.intro (pos_ (by decide)) ?_)))
    refine And.intro (szk 2) (And.intro ⟨by decide, by decide, by decide⟩ ?_)
    have e : atI [D.int 0, D.int (feedC ns k)] (if decide ((10 : Int) ^ 18 ≤ feedC ns k) = true then 1 else 0) = some (.int (if 10 ^ 18 ≤ feedC ns k then feedC ns k else 0)) := by
      by_cases h : (10 : Int) ^ 18 ≤ feedC ns k
      · rw [if_pos h, if_pos (decide_eq_true h)]; rfl
      · rw [if_neg h, if_neg (by simpa using h)]; rfl
    refine atW_i e ?_
    exact And.intro (pos_ (by decide)) (And.intro (szk 2) (And.intro rfl (And.intro rfl rfl)))
  refine And.intro (Dl.mul_l (by decide) (by decide)) ?_
  refine Br.dec (fun hc => ?_) (fun hc => ?_)
  · have hc : k < ns.length := by simpa using hc
    exact atW_i (atI_scr hc) (tail _ (by unfold feedC; rw [if_pos hc]))
  · have hc : ¬ k < ns.length := by simpa using hc
    refine Br.dec (fun hd => ?_) (fun hd => ?_)
    · have hd : 0 < ns.length := by simpa using hd
      have hm : ((k : Nat) : Int) % (((ns.map D.int).length : Nat) : Int) = ((k % ns.length : Nat) : Int) := by rw [List.length_map]; exact (Int.natCast_emod k ns.length).symm
      refine And.intro (pos_ (by rw [List.length_map]; omega)) ?_
      refine atW_i (d := .int (ns.getD (k % ns.length) 0)) (by rw [hm]; exact atI_scr (Nat.mod_lt _ hd)) ?_
      refine And.intro (pos_ (by decide)) (And.intro (Dl.mul_l (by omega) (by omega)) ?_)
      exact tail _ (by unfold feedC; rw [if_neg hc, if_pos hd])
    · have hd : ¬ 0 < ns.length := by simpa using hd
      exact tail _ (by unfold feedC; rw [if_neg hc, if_neg hd])

/-! ### loops by existence: what a loop leads to is chosen turn by turn -/
theorem forW_ex {p : Pat} {wb : WS} {α : Type} (g : α → D) (I : List α → List α → Sta → Prop) : ∀ (pre post : List α) (S : Sta), I pre post S →
    (∀ pre x post S, I pre (x :: post) S → ∃ S', I (pre ++ [x]) post S' ∧ ∀ P : PJ, P.nx S' → asgW p (g x) S.sl fun sl' => wb ⟨sl', S.cs⟩ P) → ∃ S', I (pre ++ post) [] S' ∧ ∀ P : PJ, P.nx S' → forW p wb (post.map g) S P
  | pre, [], S, h, _ => ⟨S, by rw [List.append_nil]; exact h, fun P q => q⟩
  | pre, x :: post, S, h, hs => by
    obtain ⟨S1, h1, q1⟩ := hs pre x post S h
    obtain ⟨S2, h2, q2⟩ := forW_ex g I (pre ++ [x]) post S1 h1 hs
    refine ⟨S2, by rw [List.append_assoc] at h2; exact h2, fun P q => ?_⟩
    exact q1 _ (q2 P q)
/-- [.. for .. in ..] with draws, by existence -/
theorem lcW_ex {p : Pat} {wt : WpT} {we : WpE} {sl : Sls} {α : Type} (g : α → D) (Q : α → D → Prop) : ∀ (xs : List α) (b : B), Ok b →
    (∀ x ∈ xs, ∀ b, Ok b → ∃ sl' b', asgP p (g x) sl = some sl' ∧ Ok b' ∧ ((∀ (R : RB), R false [bx b'] → wt sl' [bx b] R noX) ∨ ∃ d, Q x d ∧ ∃ b1, (∀ (R : RB), R true [bx b1] → wt sl' [bx b] R noX) ∧ ∀ (R : RV), R (.dat d) [bx b'] → we sl' [bx b1] R noX)) →
    ∃ (ys : List (α × D)) (b' : B), Ok b' ∧ List.Sublist (ys.map (·.1)) xs ∧ (∀ y ∈ ys, Q y.1 y.2) ∧ ∀ R : List D → List Cell → Prop, R (ys.map (·.2)) [bx b'] → lcW p wt we sl (xs.map g) [bx b] R
  | [], b, hb, _ => ⟨[], b, hb, List.Sublist.refl _, (fun _ z => nomatch z), fun R h => h⟩
  | x :: xs, b, hb, hx => by
    obtain ⟨sl', b', e, ok, h⟩ := hx x List.mem_cons_self b hb
    obtain ⟨ys, b2, o2, s2, q2, r2⟩ := lcW_ex g Q xs b' ok fun y hy => hx y (List.mem_cons_of_mem _ hy)
    rcases h with h | ⟨d, hq, b1, h1, h3⟩
    · exact ⟨ys, b2, o2, s2.cons x, q2, fun R hR => asgW_i e (h _ ⟨(fun z => nomatch z), fun _ => r2 R hR⟩)⟩
    · refine ⟨(x, d) :: ys, b2, o2, s2.cons₂ x, fun y hy => ?_, fun R hR => asgW_i e (h1 _ ⟨(fun _ => h3 _ (r2 _ hR)), (fun z => nomatch z)⟩)⟩
      rcases List.mem_cons.mp hy with rfl | hy
      · exact hq
      · exact q2 y hy

theorem six_nat (n d k : Nat) : HT.sIx n d (some (k : Int)) = min k n := HT.sIx_nat n d k
theorem cut_take (ds : List D) (k : Nat) : cutD ds none (some (k : Int)) = ds.take k := by
  unfold cutD
  rw [six_nat]
  show (ds.drop 0).take (min k ds.length - 0) = _
  rw [List.drop_zero, Nat.sub_zero]
  exact (List.take_eq_take_min).symm
theorem cut_drop (ds : List D) (k : Nat) : cutD ds (some (k : Int)) none = ds.drop k := by
  unfold cutD
  rw [six_nat]
  show (ds.drop (min k ds.length)).take (ds.length - min k ds.length) = _
  rw [List.take_of_length_le (by rw [List.length_drop]; exact Nat.le_refl _)]
  rcases Nat.le_total k ds.length with h | h
  · rw [Nat.min_eq_left h]
  · rw [Nat.min_eq_right h, List.drop_of_length_le (Nat.le_refl _), List.drop_of_length_le h]

/-- one statement with what comes behind kept apart -/
theorem consS_i {w1 w2 : WS} {S S' : Sta} {P : PJ} (h1 : ∀ P' : PJ, P'.nx S' → w1 S P') (h2 : w2 S' P) : wConsS w1 w2 S P := h1 _ h2

/-! ### what may be compared -/
def okN (k : Nat) (d : D) : Prop := d.plain = true ∧ d.py.canLay0 = true ∧ d.py.depth ≤ k
theorem okl_all {k : Nat} : ∀ {xs : List D}, (∀ d ∈ xs, okN k d) → D.plains xs = true ∧ PyData.canLayAll0 (D.pys xs) = true ∧ PyData.depthAll (D.pys xs) ≤ k
  | [], _ => ⟨rfl, by simp [D.pys, PyData.canLayAll0], by simp [D.pys, PyData.depthAll]⟩
  | x :: xs, h => by
    obtain ⟨a, b, c⟩ := h x List.mem_cons_self
    obtain ⟨d, e, f⟩ := okl_all fun y hy => h y (List.mem_cons_of_mem _ hy)
    refine ⟨by simp [D.plains, a, d], by simp [D.pys, PyData.canLayAll0, b, e], ?_⟩
    simp only [D.pys, PyData.depthAll]
    exact Nat.max_le.mpr ⟨c, f⟩
theorem ok_lst {k : Nat} {xs : List D} (h : ∀ d ∈ xs, okN k d) (hk : k < 64) : okD (.lst xs) = true := by
  obtain ⟨a, b, c⟩ := okl_all h
  have e : (D.lst xs).py.depth ≤ 64 := by
    show PyData.depth (.list (D.pys xs)) ≤ 64
    simp only [PyData.depth]
    omega
  simp only [okD, SeqAt.shaped, Bool.and_eq_true]
  exact ⟨a, by show PyData.canLay0 (.list (D.pys xs)) = true; simpa [PyData.canLay0] using b, decide_eq_true e⟩

theorem ok_tup {k : Nat} {xs : List D} (h : ∀ d ∈ xs, okN k d) (hk : k < 64) : okD (.tup xs) = true := by
  obtain ⟨a, b, c⟩ := okl_all h
  have e : (D.tup xs).py.depth ≤ 64 := by
    show PyData.depth (.tuple (D.pys xs)) ≤ 64
    simp only [PyData.depth]
    omega
  simp only [okD, SeqAt.shaped, Bool.and_eq_true]
  exact ⟨a, by show PyData.canLay0 (.tuple (D.pys xs)) = true; simpa [PyData.canLay0] using b, decide_eq_true e⟩

/-! ### rings: what their methods do, over any cells -/
theorem rew_vw : ∀ cs : List Cell, rew cs (cs.map vwC) = cs
  | [] => by unfold rew; rfl
  | c :: cs => by
    show reC c (vwC c) :: rew cs (cs.map vwC) = c :: cs
    rw [rew_vw cs]
    congr 1
    cases c <;> rfl
theorem vw_at {cs : List Cell} {j : Nat} {c : Cell} (h : cs[j]? = some c) : (cs.map vwC)[j]? = some (vwC c) := by
  rw [List.getElem?_map, h]
  rfl
theorem rew_app : ∀ (cs ds : List Cell), rew cs (cs.map vwC ++ ds) = cs ++ ds
  | [], ds => by unfold rew; rfl
  | c :: cs, ds => by
    show reC c (vwC c) :: rew cs (cs.map vwC ++ ds) = c :: (cs ++ ds)
    rw [rew_app cs ds]
    congr 1
    cases c <;> rfl
theorem tag_new {cs : List Cell} {c : Cell} {n : Nat} {R : RV} (hn : n = cs.length) (q : ∀ p : Addr, R (.dat (.cls p)) (cs ++ [tgC p c])) : tagW (.cel n) (cs ++ [c]) R := by
  subst hn
  show (match (cs ++ [c])[cs.length]? with
    | some c' => ∀ p : Addr, R (.dat (.cls p)) ((cs ++ [c]).set cs.length (tgC p c'))
    | none => False)
  rw [List.getElem?_append_right (Nat.le_refl _), Nat.sub_self]
  intro p
  rw [List.set_append_right _ _ (Nat.le_refl _), Nat.sub_self]
  exact q p
/-- the ring at a: its row at r has these data -/
structure Rg (cs : List Cell) (a r : Addr) (i j : Nat) (ds : List D) : Prop where
  o : cs[i]? = some (.insA a 0 [("row", .cls r)])
  l : cs[j]? = some (.lstA r ds)
section
variable {cs : List Cell} {a r : Addr} {i j : Nat} {ds : List D} {R : RV} {sl : Sls} {Rx : RX} {x : Nat}
/-- x.row -/
theorem row_c (h : Rg cs a r i j ds) (hx : sl[x]? = some (some (.dat (.cls a)))) (q : R (.dat (.cls r)) cs) : wFldA 0 "row" (wName x) sl cs R Rx := by
  unfold wFldA wName
  rw [hx]
  exact ⟨a, i, _, rfl, h.o, _, rfl, q⟩
theorem de_r (h : Rg cs a r i j ds) : DeR cs (.dat (.cls r)) (.cel j) := .de h.l rfl
theorem wL_r {k : List D → Prop} (h : Rg cs a r i j ds) (q : k ds) : wL (cs.map vwC) (.cel j) k := by
  have e : lstOf (cs.map vwC) (.cel j) = some ds := by
    show (match (cs.map vwC)[j]? with
      | some (.lst ds) => some ds
      | _ => none) = some ds
    rw [vw_at h.l]
    rfl
  unfold wL
  rw [e]
  exact q
/-- len(x.row) -/
theorem lenrow_c (h : Rg cs a r i j ds) (hx : sl[x]? = some (some (.dat (.cls a)))) (q : R (.dat (.int ds.length)) cs) : wCb (wCons (wFldA 0 "row" (wName x)) wNil) (liWC lenW) sl cs R Rx := by
  unfold wCb wCons wNil
  refine row_c h hx ⟨[.cel j], .cons (de_r h) .nil, ?_⟩
  show wL (cs.map vwC) (.cel j) _
  refine wL_r h ?_
  show R (.dat (.int ds.length)) (rew cs (cs.map vwC))
  rw [rew_vw]
  exact q
theorem len_c (h : Rg cs a r i j ds) (q : R (.dat (.int ds.length)) cs) : c_Ring___len__ [.dat (.cls a)] cs R := by
  refine ⟨rfl, ?_⟩
  unfold w_Ring___len__ wConsS wRetG
  exact lenrow_c h rfl q
theorem get_c {k : Int} {d : D} (h : Rg cs a r i j ds) (h0 : 0 < ds.length) (hd : atI ds (k % (ds.length : Int)) = some d) (q : R (.dat d) cs) : c_Ring___getitem__ [.dat (.cls a), .dat (.int k)] cs R := by
  refine ⟨rfl, ?_⟩
  unfold w_Ring___getitem__ wConsS wRetG wTwo
  refine row_c h rfl ?_
  refine lenrow_c h rfl ⟨_, _, .id, .id, And.intro (show (0 : Int) < (ds.length : Int) by omega) ?_⟩
  show liW2 ixW (.dat (.cls r)) (.dat (.int (k % (ds.length : Int)))) (rew cs (cs.map vwC)) _
  rw [rew_vw]
  refine ⟨_, _, de_r h, .id, ?_⟩
  show (match (cs.map vwC)[j]? with
    | some (.lst es) => atW es (k % ((ds.length : Nat) : Int)) fun d => R (.dat d) (rew cs (cs.map vwC))
    | _ => False)
  rw [vw_at h.l, rew_vw]
  exact atW_i hd q
/-! any list, by its address or as data -/
/-- s is a list with these items -/
def Ls (cs : List Cell) (s : Sl) (ds : List D) : Prop := ∃ s', DeR cs s s' ∧ lstOf (cs.map vwC) s' = some ds
theorem ls_r (h : Rg cs a r i j ds) : Ls cs (.dat (.cls r)) ds := ⟨.cel j, de_r h, by
  show (match (cs.map vwC)[j]? with
    | some (.lst ds) => some ds
    | _ => none) = some ds
  rw [vw_at h.l]
  rfl⟩
theorem ls_d : Ls cs (.dat (.lst ds)) ds := ⟨_, .id, rfl⟩
theorem ls_a {p : Addr} (h : cs[j]? = some (.lstA p ds)) : Ls cs (.dat (.cls p)) ds := ⟨.cel j, .de h rfl, by
  show (match (cs.map vwC)[j]? with
    | some (.lst ds) => some ds
    | _ => none) = some ds
  rw [vw_at h]
  rfl⟩
theorem wL_l {s' : Sl} {k : List D → Prop} (h : lstOf (cs.map vwC) s' = some ds) (q : k ds) : wL (cs.map vwC) s' k := by
  unfold wL
  rw [h]
  exact q
theorem lenW_l {s' : Sl} {Q : RV} (h : lstOf (cs.map vwC) s' = some ds) (q : Q (.dat (.int ds.length)) (cs.map vwC)) : lenW [s'] (cs.map vwC) Q := by
  match s', h with
  | .dat (.lst es), h => exact wL_l (k := fun es => Q (.dat (.int es.length)) (cs.map vwC)) h q
  | .cel k, h => exact wL_l (k := fun es => Q (.dat (.int es.length)) (cs.map vwC)) h q
theorem len_l {s : Sl} (h : Ls cs s ds) (q : R (.dat (.int ds.length)) cs) : liWC lenW [s] cs R := by
  obtain ⟨s', d, e⟩ := h
  refine ⟨[s'], .cons d .nil, lenW_l e ?_⟩
  show R (.dat (.int ds.length)) (rew cs (cs.map vwC))
  rw [rew_vw]
  exact q
end

/-! ### readings over references, of plain data -/
section
variable {cs ts : List Cell} {a r : Addr} {i j : Nat} {ds : List D} {R : RV} {sl : Sls} {Rx : RX} {x : Nat} {s s1 s2 : Sl} {d : D}
theorem rw_ {P : List Cell → Prop} (q : P cs) : P (rew cs (cs.map vwC)) := by rw [rew_vw]; exact q
theorem li1 {W : WC} (h : ∀ Q : RV, Q s2 (cs.map vwC) → W [s1] (cs.map vwC) Q) (q : R s2 cs) : liWC W [s1] cs R := ⟨_, .cons .id .nil, h _ (rw_ (P := R s2) q)⟩
theorem li2 {W : W2} {s3 : Sl} (h : ∀ Q : RV, Q s3 (cs.map vwC) → W s1 s2 (cs.map vwC) Q) (q : R s3 cs) : liW2 W s1 s2 cs R := ⟨_, _, .id, .id, h _ (rw_ (P := R s3) q)⟩
theorem liU {W : W1} (h : ∀ Q : RV, Q s2 (cs.map vwC) → W s1 (cs.map vwC) Q) (q : R s2 cs) : liW1 W s1 cs R := ⟨_, .id, h _ (rw_ (P := R s2) q)⟩
theorem lmod {m n : Int} (h : 0 < n) (q : R (.dat (.int (m % n))) cs) : liW2 modW (.dat (.int m)) (.dat (.int n)) cs R := li2 (fun _ q => And.intro h q) q
theorem ladd {m n : Int} (q : R (.dat (.int (m + n))) cs) : liW2 addW (.dat (.int m)) (.dat (.int n)) cs R := li2 (fun _ q => q) q
theorem lsub {m n : Int} (q : R (.dat (.int (m - n))) cs) : liW2 subW (.dat (.int m)) (.dat (.int n)) cs R := li2 (fun _ q => q) q
theorem lneg {m : Int} (q : R (.dat (.int (-m))) cs) : liW1 negW (.dat (.int m)) cs R := liU (fun _ q => q) q
theorem lint {m : Int} (q : R (.dat (.int m)) cs) : liWC intW1 [.dat (.int m)] cs R := li1 (fun _ q => q) q
theorem leqI {b : Bool} {m n : Int} (q : R (.dat (.bl (b.xor (decide (m = n))))) cs) : liW2 (eqW b) (.dat (.int m)) (.dat (.int n)) cs R := li2 (fun _ q => q) q
theorem leqS {b : Bool} {m n : Str} (q : R (.dat (.bl (b.xor (decide (m = n))))) cs) : liW2 (eqW b) (.dat (.str m)) (.dat (.str n)) cs R := li2 (fun _ q => q) q
theorem leqB {b m n : Bool} (q : R (.dat (.bl (b.xor (m == n)))) cs) : liW2 (eqW b) (.dat (.bl m)) (.dat (.bl n)) cs R := li2 (fun _ q => q) q
theorem leqL {b : Bool} {xs ys : List D} (h1 : okD (.lst xs) = true) (h2 : okD (.lst ys) = true) (q : R (.dat (.bl (b.xor (eqD (.lst xs) (.lst ys))))) cs) : liW2 (eqW b) (.dat (.lst xs)) (.dat (.lst ys)) cs R := li2 (fun _ q => ⟨h1, h2, q⟩) q
theorem lisB {b m n : Bool} (q : R (.dat (.bl (b.xor (decide (m = n))))) cs) : liW2 (isBW b) (.dat (.bl m)) (.dat (.bl n)) cs R := li2 (fun _ q => q) q
theorem lix {xs : List D} {k : Int} (e : atI xs k = some d) (q : R (.dat d) cs) : liW2 ixW (.dat (.lst xs)) (.dat (.int k)) cs R := li2 (fun Q q => (atW_i (k := fun d => Q (.dat d) (cs.map vwC)) e q)) q
/-! ### rings: shifted, made -/
theorem deR_app {s s' : Sl} (h : DeR cs s s') : DeR (cs ++ ts) s s' := by
  cases h with
  | id => exact .id
  | de h1 h2 => exact .de (by rw [List.getElem?_append_left (List.getElem?_eq_some_iff.mp h1).1]; exact h1) h2
theorem Ls.app (h : Ls cs s ds) : Ls (cs ++ ts) s ds := by
  obtain ⟨s', d, e⟩ := h
  refine ⟨s', deR_app d, ?_⟩
  rw [List.map_append]
  unfold lstOf at e ⊢
  split at e
  · exact e
  · rename_i k
    split at e
    · rename_i es h
      cases e
      rw [List.getElem?_append_left (List.getElem?_eq_some_iff.mp h).1, h]
    · cases e
  · cases e
theorem Rg.app (h : Rg cs a r i j ds) : Rg (cs ++ ts) a r i j ds := ⟨by rw [List.getElem?_append_left (List.getElem?_eq_some_iff.mp h.o).1]; exact h.o, by rw [List.getElem?_append_left (List.getElem?_eq_some_iff.mp h.l).1]; exact h.l⟩
theorem slice_l {l u : Option Int} (h : Ls cs s ds) (q : R (.dat (.lst (cutD ds l u))) cs) : liSl s l u cs R := by
  obtain ⟨s', d, e⟩ := h
  refine ⟨s', d, ?_⟩
  have q2 : R (.dat (.lst (cutD ds l u))) (rew cs (cs.map vwC)) := rw_ (P := R (.dat (.lst (cutD ds l u)))) q
  match s', e with
  | .dat (.lst es), e => exact wL_l (k := fun es => R (.dat (.lst (cutD es l u))) (rew cs (cs.map vwC))) e q2
  | .cel k, e => exact wL_l (k := fun es => R (.dat (.lst (cutD es l u))) (rew cs (cs.map vwC))) e q2
/-- two lists, put together to a new one -/
theorem add_l {as bs : List D} (hl : as.length + bs.length ≤ 10000000) (q : ∀ p : Addr, R (.dat (.cls p)) (cs ++ [.lstA p (as ++ bs)])) : liW2 addWC (.dat (.lst as)) (.dat (.lst bs)) cs fun s c => tagW s c R := by
  refine ⟨_, _, .id, .id, ?_⟩
  have key : as.length + bs.length ≤ sizeLine ∧ tagW (.cel (cs.map vwC).length) (rew cs (cs.map vwC ++ [.lst (as ++ bs)])) R := by
    rw [rew_app]
    exact ⟨sz (by omega), tag_new (by rw [List.length_map]) q⟩
  exact key
/-- what a ring has, shifted -/
def mvD (ds : List D) (k : Int) : List D := cutD ds (some (k % (ds.length : Int))) none ++ cutD ds none (some (k % (ds.length : Int)))
theorem cut_len (ds : List D) (l u : Option Int) : (cutD ds l u).length ≤ ds.length := by
  unfold cutD
  rw [List.length_take, List.length_drop]
  omega
theorem moved_c {k : Int} (h : Ls cs s ds) (h0 : 0 < ds.length) (hl : ds.length ≤ 100000) (q : ∀ p : Addr, R (.dat (.cls p)) (cs ++ [.lstA p (mvD ds k)])) : c_moved_on [s, .dat (.int k)] cs R := by
  refine ⟨rfl, (?_ : w_moved_on _ ⟨[some s, some (.dat (.int k)), none], cs⟩ (endG R))⟩
  unfold w_moved_on
  try dsimp only [wConsS, wNilS, wAsg, wTwo, wOne, wName, wCon, wCb, wCons, wNil, wRetG, wTag, wSlcA, wO0, wO1, wIfS, wBl, wFn, wFnG, wSetFA, wFldA, wMethA0, wNotT, wOrT, wAndV, Dl.wTru, wLst, wTup, wDats, dats, isB, wSubA, wSetA, wSetLA, wExpr, wPar2, par2, wPar3, par3, wItems, itemsW, wRng1, wFor, endG, List.set_cons_zero, List.set_cons_succ, List.getElem?_cons_zero, List.getElem?_cons_succ, Option.map_some]
  refine len_l h ?_
  refine lmod (show (0 : Int) < (ds.length : Int) by omega) ?_
  try dsimp only [wConsS, wNilS, wAsg, wTwo, wOne, wName, wCon, wCb, wCons, wNil, wRetG, wTag, wSlcA, wO0, wO1, wIfS, wBl, wFn, wFnG, wSetFA, wFldA, wMethA0, wNotT, wOrT, wAndV, Dl.wTru, wLst, wTup, wDats, dats, isB, wSubA, wSetA, wSetLA, wExpr, wPar2, par2, wPar3, par3, wItems, itemsW, wRng1, wFor, endG, List.set_cons_zero, List.set_cons_succ, List.getElem?_cons_zero, List.getElem?_cons_succ, Option.map_some]
  refine slice_l h ?_
  refine slice_l h ?_
  have l1 := cut_len ds (some (k % (ds.length : Int))) none
  have l2 := cut_len ds none (some (k % (ds.length : Int)))
  exact add_l (by omega) q
/-- list(..) of a list, a new one -/
theorem list_l (h : Ls cs s ds) (q : ∀ p : Addr, R (.dat (.cls p)) (cs ++ [.lstA p ds])) : liWC listWC [s] cs fun s c => tagW s c R := by
  obtain ⟨s', d, e⟩ := h
  refine ⟨[s'], .cons d .nil, ?_⟩
  have key : tagW (.cel (cs.map vwC).length) (rew cs (cs.map vwC ++ [.lst ds])) R := by
    rw [rew_app]
    exact tag_new (by rw [List.length_map]) q
  match s', e with
  | .dat (.lst es), e => exact wL_l (k := fun es => tagW (.cel (cs.map vwC).length) (rew cs (cs.map vwC ++ [.lst es])) R) e key
  | .cel k, e => exact wL_l (k := fun es => tagW (.cel (cs.map vwC).length) (rew cs (cs.map vwC ++ [.lst es])) R) e key
/-- x.row, x told -/
theorem fld_row {P : D → Prop} (h : Rg cs a r i j ds) (q : P (.cls r)) : refI 0 (.dat (.cls a)) cs fun _ _ fs => ∃ d, fs.lookup ("row" : Str) = some d ∧ P d := ⟨a, i, _, rfl, h.o, _, rfl, q⟩
/-- s is a list or a tuple with these items -/
def Sq (cs : List Cell) (s : Sl) (ds : List D) : Prop := Ls cs s ds ∨ s = .dat (.tup ds)
theorem Sq.app (h : Sq cs s ds) : Sq (cs ++ ts) s ds := h.imp (fun h => h.app) id
theorem len_q (h : Sq cs s ds) (q : R (.dat (.int ds.length)) cs) : liWC lenW [s] cs R := by
  rcases h with h | rfl
  · exact len_l h q
  · exact li1 (s2 := .dat (.int ds.length)) (fun _ q => q) q
theorem list_q (h : Sq cs s ds) (q : ∀ p : Addr, R (.dat (.cls p)) (cs ++ [.lstA p ds])) : liWC listWC [s] cs fun s c => tagW s c R := by
  rcases h with h | rfl
  · exact list_l h q
  · refine ⟨_, .cons .id .nil, ?_⟩
    have key : tagW (.cel (cs.map vwC).length) (rew cs (cs.map vwC ++ [.lst ds])) R := by
      rw [rew_app]
      exact tag_new (by rw [List.length_map]) q
    exact key
/-- __init__ of a ring -/
theorem init_c (hi : cs[i]? = some (.insA a 0 [])) (h : Sq cs s ds) (h0 : 0 < ds.length) (q : ∀ p : Addr, R (.dat .non) ((cs ++ [Cell.lstA p ds]).set i (Cell.insA a 0 [("row", .cls p)]))) : c_Ring___init__ [.dat (.cls a), s] cs R Rx := by
  refine ⟨rfl, (?_ : w_Ring___init__ _ ⟨[some (.dat (.cls a)), some s], cs⟩ (endGX R Rx))⟩
  unfold w_Ring___init__
  try dsimp only [wConsS, wNilS, wAsg, wTwo, wOne, wName, wCon, wCb, wCons, wNil, wRetG, wTag, wSlcA, wO0, wO1, wIfS, wBl, wFn, wFnG, wSetFA, wFldA, wMethA0, wNotT, wOrT, wAndV, Dl.wTru, wLst, wTup, wDats, dats, isB, wSubA, wSetA, wSetLA, wExpr, wPar2, par2, wPar3, par3, wItems, itemsW, wRng1, wFor, endG, List.set_cons_zero, List.set_cons_succ, List.getElem?_cons_zero, List.getElem?_cons_succ, Option.map_some]
  refine len_q h ?_
  refine leqI ?_
  refine Br.ff (by rw [Bool.false_xor]; exact decide_eq_false (by omega)) ?_
  refine list_q h fun p => ?_
  refine ⟨_, rfl, a, i, [], rfl, ?_, by decide, ?_⟩
  · rw [List.getElem?_append_left (List.getElem?_eq_some_iff.mp hi).1]
    exact hi
  · exact q p
/-- __init__ of a ring without a value -/
theorem init_no {y : Addr} (h : Sq cs s []) (q : Rx ⟨2, [.int 0]⟩ cs) : c_Ring___init__ [.dat (.cls y), s] cs R Rx := by
  refine ⟨rfl, (?_ : w_Ring___init__ _ ⟨[some (.dat (.cls y)), some s], cs⟩ (endGX R Rx))⟩
  unfold w_Ring___init__
  try dsimp only [wConsS, wNilS, wAsg, wTwo, wOne, wName, wCon, wCb, wCons, wNil, wRetG, wTag, wSlcA, wO0, wO1, wIfS, wBl, wFn, wFnG, wSetFA, wFldA, wMethA0, wNotT, wOrT, wAndV, Dl.wTru, wLst, wTup, wDats, dats, isB, wSubA, wSetA, wSetLA, wExpr, wPar2, par2, wPar3, par3, wItems, itemsW, wRng1, wFor, endG, List.set_cons_zero, List.set_cons_succ, List.getElem?_cons_zero, List.getElem?_cons_succ, Option.map_some]
  refine len_q h ?_
  refine leqI ?_
  refine Br.tt rfl ?_
  unfold wRaise1
  try dsimp only [wConsS, wNilS, wAsg, wTwo, wOne, wName, wCon, wCb, wCons, wNil, wRetG, wTag, wSlcA, wO0, wO1, wIfS, wBl, wFn, wFnG, wSetFA, wFldA, wMethA0, wNotT, wOrT, wAndV, Dl.wTru, wLst, wTup, wDats, dats, isB, wSubA, wSetA, wSetLA, wExpr, wPar2, par2, wPar3, par3, wItems, itemsW, wRng1, wFor, endG, List.set_cons_zero, List.set_cons_succ, List.getElem?_cons_zero, List.getElem?_cons_succ, Option.map_some]
  exact q
end

/-! ### what is due of shifted and turned rows, plain -/
/-- the item at a place, modulo the size -/
def itm (ds : List D) (m : Int) : D := ds.getD (m % (ds.length : Int)).toNat .non
/-- at each place q the item at f q -/
def dueD (ds : List D) (f : Int → Int) : List D := (List.range ds.length).map fun q : Nat => itm ds (f (q : Int))
theorem due_len (ds : List D) (f : Int → Int) : (dueD ds f).length = ds.length := by unfold dueD; rw [List.length_map, List.length_range]
theorem atI_get {ds : List D} {m : Int} {j : Nat} {d : D} (hm : m = (j : Int)) (h : ds[j]? = some d) : atI ds m = some d := by subst hm; exact atI_nat (j := j) h
theorem itm_lt {ds : List D} (h0 : 0 < ds.length) (m : Int) : (m % (ds.length : Int)).toNat < ds.length := by
  have a := Int.emod_nonneg m (show (ds.length : Int) ≠ 0 by omega)
  have b := Int.emod_lt_of_pos m (show 0 < (ds.length : Int) by omega)
  omega
theorem itm_at {ds : List D} (h0 : 0 < ds.length) (m : Int) : atI ds (m % (ds.length : Int)) = some (itm ds m) := by
  have a := Int.emod_nonneg m (show (ds.length : Int) ≠ 0 by omega)
  refine atI_get (j := (m % (ds.length : Int)).toNat) (by omega) ?_
  unfold itm
  rw [List.getD_eq_getElem?_getD, List.getElem?_eq_getElem (itm_lt h0 m)]
  rfl
theorem itm_mem {ds : List D} (h0 : 0 < ds.length) (m : Int) : itm ds m ∈ ds := by
  unfold itm
  rw [List.getD_eq_getElem?_getD, List.getElem?_eq_getElem (itm_lt h0 m)]
  exact List.getElem_mem _
theorem due_mem {ds : List D} {f : Int → Int} {d : D} (h : d ∈ dueD ds f) : d ∈ ds := by
  unfold dueD at h
  obtain ⟨q, hq, rfl⟩ := List.mem_map.mp h
  exact itm_mem (by have := List.mem_range.mp hq; omega) _
theorem due_at {ds : List D} {f : Int → Int} {q : Nat} (h : q < ds.length) : (dueD ds f)[q]? = some (itm ds (f (q : Int))) := by
  unfold dueD
  rw [List.getElem?_map, List.getElem?_range h]
  rfl
theorem itm_eq {ds : List D} {m : Int} {j : Nat} (hj : j < ds.length) (e : m % (ds.length : Int) = (j : Int)) : some (itm ds m) = ds[j]? := by
  unfold itm
  rw [e, Int.toNat_natCast, List.getD_eq_getElem?_getD, List.getElem?_eq_getElem hj]
  rfl
/-- shifted -/
theorem mv_due {ds : List D} (k : Int) (h0 : 0 < ds.length) : mvD ds k = dueD ds fun q => q + k := by
  have a := Int.emod_nonneg k (show (ds.length : Int) ≠ 0 by omega)
  have b := Int.emod_lt_of_pos k (show 0 < (ds.length : Int) by omega)
  obtain ⟨f, hf⟩ : ∃ f : Nat, k % (ds.length : Int) = (f : Int) := ⟨_, (Int.toNat_of_nonneg a).symm⟩
  have hfn : f < ds.length := by omega
  unfold mvD
  rw [hf, cut_drop, cut_take]
  refine List.ext_getElem? fun q => ?_
  by_cases hq : q < ds.length
  · rw [due_at hq]
    by_cases h1 : q < ds.length - f
    · rw [List.getElem?_append_left (by rw [List.length_drop]; exact h1), List.getElem?_drop]
      refine (itm_eq (by omega) ?_).symm
      rw [← Int.add_emod_emod, hf, Int.emod_eq_of_lt (by omega) (by omega)]
      omega
    · rw [List.getElem?_append_right (by rw [List.length_drop]; omega), List.length_drop, List.getElem?_take_of_lt (by omega)]
      refine (itm_eq (by omega) ?_).symm
      have e : ((q : Int) + k) % (ds.length : Int) = ((q : Int) + (f : Int) - (ds.length : Int)) % (ds.length : Int) := by
        rw [Int.sub_emod_right, ← hf, Int.add_emod_emod]
      rw [e, Int.emod_eq_of_lt (by omega) (by omega)]
      omega
  · rw [List.getElem?_eq_none (l := dueD ds _) (by rw [due_len]; omega), List.getElem?_eq_none (by rw [List.length_append, List.length_drop, List.length_take]; omega)]
/-- turned -/
def ngD (ds : List D) : List D := cutD ds none (some 1) ++ pickL (pickN ds.length none (some 0) (some (-1))) ds
theorem pick_neg {n : Nat} (h : 0 < n) : pickN n none (some 0) (some (-1)) = (List.range (n - 1)).map fun k => n - 1 - k := by
  have hb : sliceBounds none (some 0) (some (-1)) n = ((n : Int) - 1, 0, -1) := by
    unfold sliceBounds
    simp
    omega
  unfold pickN
  rw [hb]
  unfold sliceRange
  have hc : ((if (-1 : Int) > 0 then (if (n : Int) - 1 < 0 then (0 - ((n : Int) - 1) + -1 - 1) / -1 else 0) else (if (n : Int) - 1 > 0 then ((n : Int) - 1 - 0 - -1 - 1) / (- -1) else 0)) : Int).toNat = n - 1 := by
    rw [if_neg (by decide)]
    split
    · rw [show (- -1 : Int) = 1 from rfl, Int.ediv_one]; omega
    · omega
  show (List.range ((if (-1 : Int) > 0 then (if (n : Int) - 1 < 0 then (0 - ((n : Int) - 1) + -1 - 1) / -1 else 0) else (if (n : Int) - 1 > 0 then ((n : Int) - 1 - 0 - -1 - 1) / (- -1) else 0)) : Int).toNat).map (fun (k : Nat) => ((n : Int) - 1 + -1 * (k : Int)).toNat) = _
  rw [hc]
  refine List.map_congr_left fun k hk => ?_
  have := List.mem_range.mp hk
  omega
theorem pick_map {ds : List D} : ∀ {ns : List Nat}, (∀ i ∈ ns, i < ds.length) → pickL ns ds = ns.map fun i => ds.getD i .non
  | [], _ => rfl
  | i :: ns, h => by
    have ih := pick_map (ds := ds) (ns := ns) fun j hj => h j (List.mem_cons_of_mem _ hj)
    unfold pickL at ih ⊢
    have hi := h i List.mem_cons_self
    rw [List.filterMap_cons, List.map_cons, ih, List.getElem?_eq_getElem hi, List.getD_eq_getElem?_getD, List.getElem?_eq_getElem hi]
    rfl
theorem pk_len {ds : List D} (h0 : 0 < ds.length) : (pickL (pickN ds.length none (some 0) (some (-1))) ds).length = ds.length - 1 := by
  rw [pick_neg h0, pick_map fun i hi => by obtain ⟨k, hk, rfl⟩ := List.mem_map.mp hi; have := List.mem_range.mp hk; omega]
  simp
theorem ng_due {ds : List D} (h0 : 0 < ds.length) : ngD ds = dueD ds fun q => 0 - q := by
  unfold ngD
  rw [show (some (1 : Int)) = some ((1 : Nat) : Int) from rfl, cut_take, pick_neg h0, pick_map fun i hi => by obtain ⟨k, hk, rfl⟩ := List.mem_map.mp hi; have := List.mem_range.mp hk; omega]
  refine List.ext_getElem? fun q => ?_
  by_cases hq : q < ds.length
  · rw [due_at hq]
    by_cases h1 : q < 1
    · rw [List.getElem?_append_left (by rw [List.length_take]; omega), List.getElem?_take_of_lt h1]
      obtain rfl : q = 0 := by omega
      exact (itm_eq (j := 0) h0 (by simp)).symm
    · rw [List.getElem?_append_right (by rw [List.length_take]; omega), List.length_take, show min 1 ds.length = 1 by omega, List.getElem?_map, List.getElem?_map, List.getElem?_range (by omega)]
      have e : (0 - (q : Int)) % (ds.length : Int) = ((ds.length - q : Nat) : Int) := by
        rw [← Int.add_emod_right, Int.emod_eq_of_lt (by omega) (by omega)]
        omega
      rw [itm_eq (j := ds.length - q) (by omega) e, List.getElem?_eq_getElem (by omega)]
      show some (ds.getD (ds.length - 1 - (q - 1)) .non) = _
      rw [show ds.length - 1 - (q - 1) = ds.length - q by omega, List.getD_eq_getElem?_getD, List.getElem?_eq_getElem (by omega)]
      rfl
  · rw [List.getElem?_eq_none (l := dueD ds _) (by rw [due_len]; omega), List.getElem?_eq_none (by simp; omega)]

/-! ### rings: made, shifted, turned, compared, changed -/
section
variable {cs ts : List Cell} {a r : Addr} {i j : Nat} {ds : List D} {R : RV} {sl : Sls} {Rx : RX} {x : Nat} {s s1 s2 : Sl} {d : D}
/-- a new ring: its row is behind it -/
theorem make_c (h : Sq cs (.dat d) ds) (h0 : 0 < ds.length) (q : ∀ x p : Addr, R (.dat (.cls x)) (cs ++ [Cell.insA x 0 [("row", .cls p)], Cell.lstA p ds])) : makeAX 0 c_Ring___init__ [d] cs R Rx := fun x => by
  refine init_c (i := cs.length) (by rw [List.getElem?_append_right (Nat.le_refl _), Nat.sub_self]; rfl) h.app h0 fun p => ⟨rfl, ?_⟩
  rw [List.append_assoc, List.set_append_right _ _ (Nat.le_refl _), Nat.sub_self]
  exact q x p
/-- a list told by the last cell -/
theorem ls_new {p : Addr} : Ls (cs ++ [Cell.lstA p ds]) (.dat (.cls p)) ds := ls_a (j := cs.length) (by rw [List.getElem?_append_right (Nat.le_refl _), Nat.sub_self]; rfl)
theorem rg_new {x p : Addr} : Rg (cs ++ [Cell.insA x 0 [("row", .cls p)], Cell.lstA p ds]) x p cs.length (cs.length + 1) ds := ⟨by rw [List.getElem?_append_right (Nat.le_refl _), Nat.sub_self]; rfl, by rw [List.getElem?_append_right (Nat.le_add_right _ _), Nat.add_sub_cancel_left]; rfl⟩
/-- what a new ring is: some cells more -/
abbrev NewR (cs : List Cell) (ds : List D) (R : RV) : Prop := ∀ (x p : Addr) (i j : Nat) (ts : List Cell), cs.length ≤ j ∧ cs.length ≤ i → Rg (cs ++ ts) x p i j ds → R (.dat (.cls x)) (cs ++ ts)
theorem shl_c {k : Int} (h : Rg cs a r i j ds) (h0 : 0 < ds.length) (hl : ds.length ≤ 100000) (q : NewR cs (dueD ds fun q => q + k) R) : c_Ring___lshift__ [.dat (.cls a), .dat (.int k)] cs R := by
  refine ⟨rfl, (?_ : w_Ring___lshift__ _ ⟨[some (.dat (.cls a)), some (.dat (.int k))], cs⟩ (endG R))⟩
  unfold w_Ring___lshift__ wMakeAX
  try dsimp only [wConsS, wNilS, wAsg, wTwo, wOne, wName, wCon, wCb, wCons, wNil, wRetG, wTag, wSlcA, wO0, wO1, wIfS, wBl, wFn, wFnG, wSetFA, wFldA, wMethA0, wNotT, wOrT, wAndV, Dl.wTru, wLst, wTup, wDats, dats, isB, wSubA, wSetA, wSetLA, wExpr, wPar2, par2, wPar3, par3, wItems, itemsW, wRng1, wFor, endG, List.set_cons_zero, List.set_cons_succ, List.getElem?_cons_zero, List.getElem?_cons_succ, Option.map_some]
  refine fld_row h ?_
  refine moved_c (ls_r h) h0 hl fun p1 => ?_
  try dsimp only [wConsS, wNilS, wAsg, wTwo, wOne, wName, wCon, wCb, wCons, wNil, wRetG, wTag, wSlcA, wO0, wO1, wIfS, wBl, wFn, wFnG, wSetFA, wFldA, wMethA0, wNotT, wOrT, wAndV, Dl.wTru, wLst, wTup, wDats, dats, isB, wSubA, wSetA, wSetLA, wExpr, wPar2, par2, wPar3, par3, wItems, itemsW, wRng1, wFor, endG, List.set_cons_zero, List.set_cons_succ, List.getElem?_cons_zero, List.getElem?_cons_succ, Option.map_some]
  refine ⟨rfl, rfl, ?_⟩
  refine make_c (.inl ls_new) (by rw [mv_due k h0, due_len]; exact h0) fun x p => ?_
  rw [mv_due k h0, List.append_assoc]
  have g := rg_new (cs := cs ++ [Cell.lstA p1 (dueD ds (fun q => q + k))]) (x := x) (p := p) (ds := dueD ds (fun q => q + k))
  rw [List.append_assoc] at g
  exact q x p _ _ _ (by rw [List.length_append]; omega) g
theorem shr_c {k : Int} (h : Rg cs a r i j ds) (h0 : 0 < ds.length) (hl : ds.length ≤ 100000) (q : NewR cs (dueD ds fun q => q + -k) R) : c_Ring___rshift__ [.dat (.cls a), .dat (.int k)] cs R := by
  refine ⟨rfl, (?_ : w_Ring___rshift__ _ ⟨[some (.dat (.cls a)), some (.dat (.int k))], cs⟩ (endG R))⟩
  unfold w_Ring___rshift__ wMakeAX
  try dsimp only [wConsS, wNilS, wAsg, wTwo, wOne, wName, wCon, wCb, wCons, wNil, wRetG, wTag, wSlcA, wO0, wO1, wIfS, wBl, wFn, wFnG, wSetFA, wFldA, wMethA0, wNotT, wOrT, wAndV, Dl.wTru, wLst, wTup, wDats, dats, isB, wSubA, wSetA, wSetLA, wExpr, wPar2, par2, wPar3, par3, wItems, itemsW, wRng1, wFor, endG, List.set_cons_zero, List.set_cons_succ, List.getElem?_cons_zero, List.getElem?_cons_succ, Option.map_some]
  refine fld_row h ?_
  refine lneg ?_
  refine moved_c (ls_r h) h0 hl fun p1 => ?_
  try dsimp only [wConsS, wNilS, wAsg, wTwo, wOne, wName, wCon, wCb, wCons, wNil, wRetG, wTag, wSlcA, wO0, wO1, wIfS, wBl, wFn, wFnG, wSetFA, wFldA, wMethA0, wNotT, wOrT, wAndV, Dl.wTru, wLst, wTup, wDats, dats, isB, wSubA, wSetA, wSetLA, wExpr, wPar2, par2, wPar3, par3, wItems, itemsW, wRng1, wFor, endG, List.set_cons_zero, List.set_cons_succ, List.getElem?_cons_zero, List.getElem?_cons_succ, Option.map_some]
  refine ⟨rfl, rfl, ?_⟩
  refine make_c (.inl ls_new) (by rw [mv_due _ h0, due_len]; exact h0) fun x p => ?_
  rw [mv_due _ h0, List.append_assoc]
  have g := rg_new (cs := cs ++ [Cell.lstA p1 (dueD ds (fun q => q + -k))]) (x := x) (p := p) (ds := dueD ds (fun q => q + -k))
  rw [List.append_assoc] at g
  exact q x p _ _ _ (by rw [List.length_append]; omega) g
theorem neg_c (h : Rg cs a r i j ds) (h0 : 0 < ds.length) (hl : ds.length ≤ 100000) (q : NewR cs (dueD ds fun q => 0 - q) R) : c_Ring___neg__ [.dat (.cls a)] cs R := by
  refine ⟨rfl, (?_ : w_Ring___neg__ _ ⟨[some (.dat (.cls a))], cs⟩ (endG R))⟩
  unfold w_Ring___neg__ wMakeAX wSl3
  try dsimp only [wConsS, wNilS, wAsg, wTwo, wOne, wName, wCon, wCb, wCons, wNil, wRetG, wTag, wSlcA, wO0, wO1, wIfS, wBl, wFn, wFnG, wSetFA, wFldA, wMethA0, wNotT, wOrT, wAndV, Dl.wTru, wLst, wTup, wDats, dats, isB, wSubA, wSetA, wSetLA, wExpr, wPar2, par2, wPar3, par3, wItems, itemsW, wRng1, wFor, endG, List.set_cons_zero, List.set_cons_succ, List.getElem?_cons_zero, List.getElem?_cons_succ, Option.map_some]
  refine fld_row h ?_
  refine slice_l (ls_r h) ?_
  refine fld_row h ?_
  refine lneg ?_
  obtain ⟨s', d', e'⟩ := ls_r h
  refine ⟨s', ds, d', e', by decide, ?_, ?_⟩
  · show (pickL (pickN ds.length none (some 0) (some (-1))) ds).length ≤ sizeLine
    rw [pk_len h0]
    exact sz (by omega)
  have l1 := cut_len ds none (some 1)
  have l2 := pk_len h0
  refine add_l (as := cutD ds none (some 1)) (bs := pickL (pickN ds.length none (some 0) (some (-1))) ds) (by omega) fun p1 => ?_
  try dsimp only [wConsS, wNilS, wAsg, wTwo, wOne, wName, wCon, wCb, wCons, wNil, wRetG, wTag, wSlcA, wO0, wO1, wIfS, wBl, wFn, wFnG, wSetFA, wFldA, wMethA0, wNotT, wOrT, wAndV, Dl.wTru, wLst, wTup, wDats, dats, isB, wSubA, wSetA, wSetLA, wExpr, wPar2, par2, wPar3, par3, wItems, itemsW, wRng1, wFor, endG, List.set_cons_zero, List.set_cons_succ, List.getElem?_cons_zero, List.getElem?_cons_succ, Option.map_some]
  refine ⟨rfl, rfl, ?_⟩
  have e : cutD ds none (some 1) ++ pickL (pickN ds.length none (some 0) (some (-1))) ds = dueD ds fun q => 0 - q := ng_due h0
  rw [e]
  refine make_c (.inl ls_new) (by rw [due_len]; exact h0) fun x p => ?_
  rw [List.append_assoc]
  have g := rg_new (cs := cs ++ [Cell.lstA p1 (dueD ds (fun q => 0 - q))]) (x := x) (p := p) (ds := dueD ds (fun q => 0 - q))
  rw [List.append_assoc] at g
  exact q x p _ _ _ (by rw [List.length_append]; omega) g
/-- == of two rings -/
theorem eq_c {a2 r2 : Addr} {i2 j2 : Nat} {es : List D} (h : Rg cs a r i j ds) (h2 : Rg cs a2 r2 i2 j2 es) (o1 : okD (.lst ds) = true) (o2 : okD (.lst es) = true) (q : R (.dat (.bl (eqD (.lst ds) (.lst es)))) cs) : c_Ring___eq__ [.dat (.cls a), .dat (.cls a2)] cs R := by
  refine ⟨rfl, (?_ : w_Ring___eq__ _ ⟨[some (.dat (.cls a)), some (.dat (.cls a2))], cs⟩ (endG R))⟩
  unfold w_Ring___eq__ wIsiA
  try dsimp only [wConsS, wNilS, wAsg, wTwo, wOne, wName, wCon, wCb, wCons, wNil, wRetG, wTag, wSlcA, wO0, wO1, wIfS, wBl, wFn, wFnG, wSetFA, wFldA, wMethA0, wNotT, wOrT, wAndV, Dl.wTru, wLst, wTup, wDats, dats, isB, wSubA, wSetA, wSetLA, wExpr, wPar2, par2, wPar3, par3, wItems, itemsW, wRng1, wFor, endG, List.set_cons_zero, List.set_cons_succ, List.getElem?_cons_zero, List.getElem?_cons_succ, Option.map_some]
  refine .inl ⟨a2, i2, 0, _, rfl, h2.o, ?_⟩
  refine Br.tt rfl ?_
  refine fld_row h ?_
  refine fld_row h2 ?_
  obtain ⟨s1', d1', e1'⟩ := ls_r h
  obtain ⟨s2', d2', e2'⟩ := ls_r h2
  refine ⟨s1', s2', d1', d2', wL_l e1' (wL_l e2' ⟨o1, o2, ?_⟩)⟩
  rw [Bool.false_xor]
  exact rw_ (P := R (.dat (.bl (eqD (.lst ds) (.lst es))))) q
/-- == of a ring and of what is none -/
theorem eqd_c (hd : ∀ k : Bool → Prop, k false → isiW tb_Ring ob_Ring (.dat d) k) (q : R (.dat (.bl false)) cs) : c_Ring___eq__ [.dat (.cls a), .dat d] cs R := by
  refine ⟨rfl, (?_ : w_Ring___eq__ _ ⟨[some (.dat (.cls a)), some (.dat d)], cs⟩ (endG R))⟩
  unfold w_Ring___eq__ wIsiA
  try dsimp only [wConsS, wNilS, wAsg, wTwo, wOne, wName, wCon, wCb, wCons, wNil, wRetG, wTag, wSlcA, wO0, wO1, wIfS, wBl, wFn, wFnG, wSetFA, wFldA, wMethA0, wNotT, wOrT, wAndV, Dl.wTru, wLst, wTup, wDats, dats, isB, wSubA, wSetA, wSetLA, wExpr, wPar2, par2, wPar3, par3, wItems, itemsW, wRng1, wFor, endG, List.set_cons_zero, List.set_cons_succ, List.getElem?_cons_zero, List.getElem?_cons_succ, Option.map_some]
  refine .inr (hd _ ?_)
  exact Br.ff rfl q
theorem set_c {k : Int} (h : Rg cs a r i j ds) (h0 : 0 < ds.length) (q : R (.dat .non) (cs.set j (Cell.lstA r (ds.set (k % (ds.length : Int)).toNat d)))) : c_Ring___setitem__ [.dat (.cls a), .dat (.int k), .dat d] cs R := by
  refine ⟨rfl, (?_ : w_Ring___setitem__ _ ⟨[some (.dat (.cls a)), some (.dat (.int k)), some (.dat d)], cs⟩ (endG R))⟩
  unfold w_Ring___setitem__
  try dsimp only [wConsS, wNilS, wAsg, wTwo, wOne, wName, wCon, wCb, wCons, wNil, wRetG, wTag, wSlcA, wO0, wO1, wIfS, wBl, wFn, wFnG, wSetFA, wFldA, wMethA0, wNotT, wOrT, wAndV, Dl.wTru, wLst, wTup, wDats, dats, isB, wSubA, wSetA, wSetLA, wExpr, wPar2, par2, wPar3, par3, wItems, itemsW, wRng1, wFor, endG, List.set_cons_zero, List.set_cons_succ, List.getElem?_cons_zero, List.getElem?_cons_succ, Option.map_some]
  refine fld_row h ?_
  refine fld_row h ?_
  refine len_l (ls_r h) ?_
  refine lmod (show (0 : Int) < (ds.length : Int) by omega) ?_
  have e := Int.emod_nonneg k (show (ds.length : Int) ≠ 0 by omega)
  refine ⟨d, _, r, j, ds, (k % (ds.length : Int)).toNat, ⟨rfl, rfl, rfl⟩, h.l, ?_, q⟩
  obtain ⟨f, hf⟩ : ∃ f : Nat, k % (ds.length : Int) = (f : Int) := ⟨_, (Int.toNat_of_nonneg e).symm⟩
  have b := Int.emod_lt_of_pos k (show 0 < (ds.length : Int) by omega)
  rw [hf, Int.toNat_natCast]
  simp only [ixN, show (0 : Int) ≤ (f : Int) by omega, show (f : Int) < (ds.length : Int) by omega, if_true, Int.toNat_natCast]
end

/-! ### an integer near or far off -/
theorem far_ex {b : B} {n : Nat} (hb : Ok b) (hn : n ≤ 1000) : ∃ (k : Int) (b' : B), k.natAbs ≤ 10 ^ 12 ∧ Ok b' ∧ c__law_far [.cel 0, .dat (.int n)] [bx b] (.dat (.int k)) [bx b'] := by
  have h1 := tk_lo (b := b) (m := 3) (by decide)
  have h2 := tk_hi (b := b) (m := 3) (by decide)
  have k1 : Ok (nx b 3) := hb.nx _
  by_cases hw : tk b 3 = 0
  · have hm : (0 : Int) < 2 * (n : Int) + 3 := by omega
    have h3 := tk_lo (b := nx b 3) hm
    have h4 := tk_hi (b := nx b 3) hm
    refine ⟨tk (nx b 3) (2 * (n : Int) + 3) - n - 1, _, by omega, k1.nx (2 * (n : Int) + 3), ⟨rfl, ?_⟩⟩
    refine call_ (take_c (by decide) (by decide) hb) ?_
    refine Br.tt (by rw [Bool.false_xor]; exact decide_eq_true hw) ?_
    refine And.intro (Dl.mul_l (by decide) (by omega)) ?_
    exact call_ (take_c hm (by omega) k1) (And.intro rfl rfl)
  · have h3 := tk_lo (b := nx b 3) (m := 10 ^ 12) (by decide)
    have h4 := tk_hi (b := nx b 3) (m := 10 ^ 12) (by decide)
    have k2 : Ok (nx (nx b 3) (10 ^ 12)) := k1.nx _
    have h5 := tk_lo (b := nx (nx b 3) (10 ^ 12)) (m := 10 ^ 12) (by decide)
    have h6 := tk_hi (b := nx (nx b 3) (10 ^ 12)) (m := 10 ^ 12) (by decide)
    refine ⟨if tk b 3 = 1 then tk (nx b 3) (10 ^ 12) else 0 - tk (nx (nx b 3) (10 ^ 12)) (10 ^ 12), _, by split <;> omega, k2.nx (10 ^ 12), ⟨rfl, ?_⟩⟩
    refine call_ (take_c (by decide) (by decide) hb) ?_
    refine Br.ff (by rw [Bool.false_xor]; exact decide_eq_false hw) ?_
    refine And.intro ⟨by decide, by decide, by decide⟩ ?_
    refine call_ (take_c (by decide) (by decide) k1) ?_
    refine And.intro ⟨by decide, by decide, by decide⟩ ?_
    refine call_ (take_c (by decide) (by decide) k2) ?_
    refine And.intro (szk 2) ?_
    refine atW_i (d := .int (if tk b 3 = 1 then tk (nx b 3) (10 ^ 12) else 0 - tk (nx (nx b 3) (10 ^ 12)) (10 ^ 12))) ?_ (And.intro rfl rfl)
    rcases (show tk b 3 = 1 ∨ tk b 3 = 2 by omega) with e | e
    · rw [e]; rfl
    · rw [e]; rfl

/-! ### what is due, by a list comprehension -/
section
variable {cs ts : List Cell} {a r : Addr} {i j : Nat} {ds : List D} {R : RV} {sl : Sls} {Rx : RX} {x : Nat} {s s1 s2 : Sl} {d : D} {b b' : B}
theorem due_lc {we : WpE} {R : List D → List Cell → Prop} (f : Int → Int) (h : ∀ q : Nat, ∀ R' : RV, R' (.dat (itm ds (f (q : Int)))) cs → we (sl.set x (some (.dat (.int (q : Int))))) cs R' noX) (q : R (dueD ds f) cs) : lcW (.nm x) wYes we sl (rangeD 0 ds.length) cs R := by
  refine lcW_map (fun i : Nat => D.int (0 + (i : Int))) (fun q : Nat => itm ds (f (q : Int))) (fun k _ => ⟨_, rfl, fun R' hR => ?_⟩) q
  rw [Int.zero_add]
  exact h k R' hR
end

/-! ### rings where other cells change -/
section
variable {cs ts : List Cell} {a r : Addr} {i j k : Nat} {ds es : List D} {R : RV} {sl : Sls} {Rx : RX} {x : Nat} {s s1 s2 : Sl} {d e : D} {b b' : B}
theorem Rg.box {c c' : List D} (h : Rg (Cell.lst c :: cs) a r i j ds) : Rg (Cell.lst c' :: (cs ++ ts)) a r i j ds := by
  obtain ⟨ho, hl⟩ := h
  cases i with
  | zero => cases ho
  | succ i =>
    cases j with
    | zero => cases hl
    | succ j => exact ⟨by rw [List.getElem?_cons_succ] at ho ⊢; rw [List.getElem?_append_left (List.getElem?_eq_some_iff.mp ho).1]; exact ho, by rw [List.getElem?_cons_succ] at hl ⊢; rw [List.getElem?_append_left (List.getElem?_eq_some_iff.mp hl).1]; exact hl⟩
theorem Rg.box0 {c c' : List D} (h : Rg (Cell.lst c :: cs) a r i j ds) : Rg (Cell.lst c' :: cs) a r i j ds := by
  have := h.box (c' := c') (ts := [])
  rw [List.append_nil] at this
  exact this
theorem Rg.ref (h : Rg cs a r i j ds) : isRf 0 (.dat (.cls a)) cs := ⟨a, i, _, rfl, h.o, trivial⟩
theorem met_c {m : Str} (h : Rg cs a r i j ds) (e : fIdx [("row" : Str)] m = none) : refI 0 (.dat (.cls a)) cs fun _ _ fs => fIdx (fs.map (·.1)) m = none := ⟨a, i, _, rfl, h.o, e⟩
theorem Rg.set_self (h : Rg cs a r i j ds) : Rg (cs.set j (.lstA r es)) a r i j es := by
  have hj := (List.getElem?_eq_some_iff.mp h.l).1
  have hij : j ≠ i := fun z => by
    have := h.o
    rw [← z, h.l] at this
    cases this
  exact ⟨by rw [List.getElem?_set_ne hij]; exact h.o, by rw [List.getElem?_set_self hj]⟩
theorem Rg.set_other {c : Cell} {r' : Addr} {ds' : List D} (h : Rg cs a r i j ds) (hk : cs[k]? = some (.lstA r' ds')) (hj : k ≠ j) : Rg (cs.set k c) a r i j ds := by
  have hki : k ≠ i := fun z => by
    have := h.o
    rw [← z, hk] at this
    cases this
  exact ⟨by rw [List.getElem?_set_ne hki]; exact h.o, by rw [List.getElem?_set_ne hj]; exact h.l⟩
theorem set_parts {f : Nat} (hf : f < ds.length) : ds.take f ++ [e] ++ ds.drop (f + 1) = ds.set f e := by
  refine List.ext_getElem? fun q => ?_
  rw [List.append_assoc, List.getElem?_set]
  by_cases h1 : q < f
  · rw [List.getElem?_append_left (by rw [List.length_take]; omega), List.getElem?_take_of_lt h1, if_neg (by omega)]
  · rw [List.getElem?_append_right (by rw [List.length_take]; omega), List.length_take, Nat.min_eq_left (by omega)]
    by_cases h2 : f = q
    · subst h2
      rw [if_pos rfl, if_pos hf, Nat.sub_self]
      rfl
    · rw [if_neg h2, show q - f = (q - f - 1) + 1 by omega]
      show (ds.drop (f + 1))[q - f - 1]? = _
      rw [List.getElem?_drop]
      congr 1
      omega
end

/-! ### texts; cells as data; rings shifted in place -/
def Tx1 (d : D) : Prop := ∃ t : Str, d = .str t ∧ TsO t
theorem Tx1.okn {d : D} (h : Tx1 d) : okN 0 d := by
  obtain ⟨t, rfl, h⟩ := h
  exact ⟨rfl, h.ok, Nat.le_refl _⟩
theorem tx_ok {ds : List D} (h : ∀ d ∈ ds, Tx1 d) : okD (.lst ds) = true := ok_lst (k := 0) (fun d hd => (h d hd).okn) (by decide)
theorem tx_okn {ds : List D} (h : ∀ d ∈ ds, Tx1 d) : okN 1 (.lst ds) := by
  obtain ⟨a, b, c⟩ := okl_all (k := 0) fun d hd => (h d hd).okn
  refine ⟨a, ?_, ?_⟩
  · show PyData.canLay0 (.list (D.pys ds)) = true
    simpa [PyData.canLay0] using b
  · show PyData.depth (.list (D.pys ds)) ≤ 1
    simp only [PyData.depth]
    omega
theorem num_ts (i : Int) : TsO (Str.ofString (toString i)) := ts_str _
theorem num_le {n : Nat} (h : n < 2 ^ 40) : (Str.ofString (toString (n : Int))).length ≤ 43 := Nat.le_trans (lenText _) (RN.int (n := 40) (i := (n : Int)) (by omega) (by decide)).wt
section
variable {cs ts : List Cell} {a r : Addr} {i j : Nat} {ds es : List D} {R : RV} {sl : Sls} {Rx : RX} {x : Nat} {s s1 s2 : Sl} {d e : D}
/-- a new list of the same items, as data -/
theorem lsd_l (h : Ls cs s ds) (q : R (.dat (.lst ds)) cs) : liWC listW [s] cs R := by
  obtain ⟨s', d, e⟩ := h
  refine ⟨[s'], .cons d .nil, ?_⟩
  have q2 : R (.dat (.lst ds)) (rew cs (cs.map vwC)) := rw_ (P := R (.dat (.lst ds))) q
  match s', e with
  | .dat (.lst es), e => exact wL_l (k := fun es => R (.dat (.lst es)) (rew cs (cs.map vwC))) e q2
  | .cel k, e => exact wL_l (k := fun es => R (.dat (.lst es)) (rew cs (cs.map vwC))) e q2
theorem cells_d (h : Rg cs a r i j ds) (q : R (.dat (.lst ds)) cs) : c_Ring_cells [.dat (.cls a)] cs R := by
  refine ⟨rfl, (?_ : w_Ring_cells _ ⟨[some (.dat (.cls a))], cs⟩ (endG R))⟩
  unfold w_Ring_cells
  try dsimp only [wConsS, wNilS, wAsg, wTwo, wOne, wName, wCon, wCb, wCons, wNil, wRetG, wTag, wSlcA, wO0, wO1, wIfS, wBl, wFn, wFnG, wSetFA, wFldA, wMethA0, wNotT, wOrT, wAndV, Dl.wTru, wLst, wTup, wDats, dats, isB, wSubA, wSetA, wSetLA, wExpr, wPar2, par2, wPar3, par3, wItems, itemsW, wRng1, wFor, endG, List.set_cons_zero, List.set_cons_succ, List.getElem?_cons_zero, List.getElem?_cons_succ, Option.map_some]
  refine fld_row h ?_
  exact lsd_l (ls_r h) q
theorem Rg.in_self {p : Addr} (h : Rg cs a r i j ds) : Rg ((cs ++ [Cell.lstA p es]).set i (.insA a 0 [("row", .cls p)])) a p i cs.length es := by
  have hi := (List.getElem?_eq_some_iff.mp h.o).1
  exact ⟨by rw [List.getElem?_set_self (by rw [List.length_append]; omega)], by rw [List.getElem?_set_ne (by omega), List.getElem?_append_right (Nat.le_refl _), Nat.sub_self]; rfl⟩
theorem Rg.in_other {p a' r' : Addr} {i' j' : Nat} {fs : List D} (h : Rg cs a r i j ds) (g : Rg cs a' r' i' j' fs) (hi : i' ≠ i) : Rg ((cs ++ [Cell.lstA p es]).set i (.insA a 0 [("row", .cls p)])) a' r' i' j' fs := by
  have l1 := (List.getElem?_eq_some_iff.mp g.o).1
  have l2 := (List.getElem?_eq_some_iff.mp g.l).1
  have hj : j' ≠ i := fun z => by
    have e1 := h.o
    have e2 := g.l
    rw [z, e1] at e2
    cases e2
  exact ⟨by rw [List.getElem?_set_ne (fun z => hi z.symm), List.getElem?_append_left l1]; exact g.o, by rw [List.getElem?_set_ne (fun z => hj z.symm), List.getElem?_append_left l2]; exact g.l⟩
theorem ish_c {k : Int} (h : Rg cs a r i j ds) (h0 : 0 < ds.length) (hl : ds.length ≤ 100000) (q : ∀ p : Addr, R (.dat (.cls a)) ((cs ++ [Cell.lstA p (dueD ds fun q => q + k)]).set i (.insA a 0 [("row", .cls p)]))) : c_Ring___ilshift__ [.dat (.cls a), .dat (.int k)] cs R := by
  refine ⟨rfl, (?_ : w_Ring___ilshift__ _ ⟨[some (.dat (.cls a)), some (.dat (.int k))], cs⟩ (endG R))⟩
  unfold w_Ring___ilshift__
  try dsimp only [wConsS, wNilS, wAsg, wTwo, wOne, wName, wCon, wCb, wCons, wNil, wRetG, wTag, wSlcA, wO0, wO1, wIfS, wBl, wFn, wFnG, wSetFA, wFldA, wMethA0, wNotT, wOrT, wAndV, Dl.wTru, wLst, wTup, wDats, dats, isB, wSubA, wSetA, wSetLA, wExpr, wPar2, par2, wPar3, par3, wItems, itemsW, wRng1, wFor, endG, List.set_cons_zero, List.set_cons_succ, List.getElem?_cons_zero, List.getElem?_cons_succ, Option.map_some]
  refine fld_row h ?_
  refine moved_c (ls_r h) h0 hl fun p => ?_
  rw [mv_due k h0]
  refine ⟨_, rfl, a, i, _, rfl, h.app.o, Nat.lt_of_le_of_lt (Nat.le_refl 1) (by decide), ?_⟩
  exact q p
theorem irs_c {k : Int} (h : Rg cs a r i j ds) (h0 : 0 < ds.length) (hl : ds.length ≤ 100000) (q : ∀ p : Addr, R (.dat (.cls a)) ((cs ++ [Cell.lstA p (dueD ds fun q => q + -k)]).set i (.insA a 0 [("row", .cls p)]))) : c_Ring___irshift__ [.dat (.cls a), .dat (.int k)] cs R := by
  refine ⟨rfl, (?_ : w_Ring___irshift__ _ ⟨[some (.dat (.cls a)), some (.dat (.int k))], cs⟩ (endG R))⟩
  unfold w_Ring___irshift__
  try dsimp only [wConsS, wNilS, wAsg, wTwo, wOne, wName, wCon, wCb, wCons, wNil, wRetG, wTag, wSlcA, wO0, wO1, wIfS, wBl, wFn, wFnG, wSetFA, wFldA, wMethA0, wNotT, wOrT, wAndV, Dl.wTru, wLst, wTup, wDats, dats, isB, wSubA, wSetA, wSetLA, wExpr, wPar2, par2, wPar3, par3, wItems, itemsW, wRng1, wFor, endG, List.set_cons_zero, List.set_cons_succ, List.getElem?_cons_zero, List.getElem?_cons_succ, Option.map_some]
  refine fld_row h ?_
  refine lneg ?_
  refine moved_c (ls_r h) h0 hl fun p => ?_
  rw [mv_due (-k) h0]
  refine ⟨_, rfl, a, i, _, rfl, h.app.o, Nat.lt_of_le_of_lt (Nat.le_refl 1) (by decide), ?_⟩
  exact q p
end
/-! shifts that bring back what was there -/
theorem due_id {ds : List D} {f : Int → Int} (h : ∀ q : Nat, q < ds.length → f (q : Int) % (ds.length : Int) = (q : Int)) : dueD ds f = ds := by
  refine List.ext_getElem? fun q => ?_
  by_cases hq : q < ds.length
  · rw [due_at hq]
    exact itm_eq hq (h q hq)
  · rw [List.getElem?_eq_none (l := dueD ds _) (by rw [due_len]; omega), List.getElem?_eq_none (by omega)]
theorem due_0 {ds : List D} : dueD ds (fun q => q + 0) = ds := due_id fun q hq => by rw [Int.add_zero, Int.emod_eq_of_lt (by omega) (by omega)]
theorem due_n0 {ds : List D} : dueD ds (fun q => q + -0) = ds := due_id fun q hq => by rw [Int.neg_zero, Int.add_zero, Int.emod_eq_of_lt (by omega) (by omega)]
theorem due_n {ds : List D} : dueD ds (fun q => q + (ds.length : Int)) = ds := due_id fun q hq => by rw [Int.add_emod_right, Int.emod_eq_of_lt (by omega) (by omega)]
/-! two rings, by their cells -/
structure Tw (cs : List Cell) (x1 x2 : Addr) (i1 j1 i2 j2 : Nat) (ds es : List D) : Prop where
  a : ∃ r, Rg cs x1 r i1 j1 ds
  b : ∃ r, Rg cs x2 r i2 j2 es
  i : i1 ≠ i2
  j : j1 ≠ j2
/-- other rings stay -/
def Oth (i1 j1 i2 j2 : Nat) (cs cs' : List Cell) : Prop := ∀ a r i j fs, i ≠ i1 → i ≠ i2 → j ≠ j1 → j ≠ j2 → Rg cs a r i j fs → Rg cs' a r i j fs
section
variable {cs ts : List Cell} {x1 x2 : Addr} {i1 j1 i2 j2 : Nat} {ds es : List D} {R : RV} {d e : D} {k : Int} {b : B}
theorem Tw.swap (h : Tw cs x1 x2 i1 j1 i2 j2 ds es) : Tw cs x2 x1 i2 j2 i1 j1 es ds := ⟨h.b, h.a, h.i.symm, h.j.symm⟩
theorem Tw.box {c c' : List D} (h : Tw (Cell.lst c :: cs) x1 x2 i1 j1 i2 j2 ds es) : Tw (Cell.lst c' :: (cs ++ ts)) x1 x2 i1 j1 i2 j2 ds es := by
  obtain ⟨⟨r1, h1⟩, ⟨r2, h2⟩, hi, hj⟩ := h
  exact ⟨⟨r1, h1.box⟩, ⟨r2, h2.box⟩, hi, hj⟩
theorem Tw.box0 {c c' : List D} (h : Tw (Cell.lst c :: cs) x1 x2 i1 j1 i2 j2 ds es) : Tw (Cell.lst c' :: cs) x1 x2 i1 j1 i2 j2 ds es := by
  have := h.box (c' := c') (ts := [])
  rwa [List.append_nil] at this
theorem Oth.swap {cs' : List Cell} (h : Oth i1 j1 i2 j2 cs cs') : Oth i2 j2 i1 j1 cs cs' := fun a r i j fs a1 a2 a3 a4 g => h a r i j fs a2 a1 a4 a3 g
/-- what a changed first ring leaves -/
abbrev Ch1 (b : B) (cs : List Cell) (x1 x2 : Addr) (i1 j1 i2 j2 : Nat) (ds es : List D) (s : Sl) (R : RV) : Prop := ∀ cs' j1', Tw (bx b :: cs') x1 x2 i1 j1' i2 j2 ds es → Oth i1 j1 i2 j2 (bx b :: cs) (bx b :: cs') → R s (bx b :: cs')
theorem in_fin {p : Addr} {s : Sl} {d' : List D} (h : Tw (bx b :: cs) x1 x2 i1 j1 i2 j2 ds es) (q : Ch1 b cs x1 x2 i1 j1 i2 j2 d' es s R) : R s (((bx b :: cs) ++ [Cell.lstA p d']).set i1 (.insA x1 0 [("row", .cls p)])) := by
  obtain ⟨⟨r1, h1⟩, ⟨r2, h2⟩, hi, hj⟩ := h
  have ho := h1.o
  have g1 := h1.in_self (p := p) (es := d')
  have g2 := h1.in_other (p := p) (es := d') h2 hi.symm
  have g3 : Oth i1 j1 i2 j2 (bx b :: cs) (((bx b :: cs) ++ [Cell.lstA p d']).set i1 (.insA x1 0 [("row", .cls p)])) := fun a r i j fs a1 _ _ _ g => h1.in_other g a1
  have l2 := (List.getElem?_eq_some_iff.mp h2.l).1
  cases i1 with
  | zero => cases ho
  | succ i1 => exact q ((cs ++ [Cell.lstA p d']).set i1 (.insA x1 0 [("row", .cls p)])) _ ⟨⟨_, g1⟩, ⟨_, g2⟩, hi, by omega⟩ g3
theorem Tw.ish (h : Tw (bx b :: cs) x1 x2 i1 j1 i2 j2 ds es) (h0 : 0 < ds.length) (hl : ds.length ≤ 100000) (q : Ch1 b cs x1 x2 i1 j1 i2 j2 (dueD ds fun q => q + k) es (.dat (.cls x1)) R) : c_Ring___ilshift__ [.dat (.cls x1), .dat (.int k)] (bx b :: cs) R := by
  obtain ⟨r1, h1⟩ := h.a
  exact ish_c h1 h0 hl fun p => in_fin h q
theorem Tw.irs (h : Tw (bx b :: cs) x1 x2 i1 j1 i2 j2 ds es) (h0 : 0 < ds.length) (hl : ds.length ≤ 100000) (q : Ch1 b cs x1 x2 i1 j1 i2 j2 (dueD ds fun q => q + -k) es (.dat (.cls x1)) R) : c_Ring___irshift__ [.dat (.cls x1), .dat (.int k)] (bx b :: cs) R := by
  obtain ⟨r1, h1⟩ := h.a
  exact irs_c h1 h0 hl fun p => in_fin h q
theorem Tw.set (h : Tw (bx b :: cs) x1 x2 i1 j1 i2 j2 ds es) (h0 : 0 < ds.length) (q : Ch1 b cs x1 x2 i1 j1 i2 j2 (ds.set (k % (ds.length : Int)).toNat d) es (.dat .non) R) : c_Ring___setitem__ [.dat (.cls x1), .dat (.int k), .dat d] (bx b :: cs) R := by
  obtain ⟨⟨r1, h1⟩, ⟨r2, h2⟩, hi, hj⟩ := h
  have hl := h1.l
  refine set_c h1 h0 ?_
  have g1 := h1.set_self (es := ds.set (k % (ds.length : Int)).toNat d)
  have g2 := h2.set_other (c := .lstA r1 (ds.set (k % (ds.length : Int)).toNat d)) h1.l hj
  have g3 : Oth i1 j1 i2 j2 (bx b :: cs) ((bx b :: cs).set j1 (.lstA r1 (ds.set (k % (ds.length : Int)).toNat d))) := fun a r i j fs _ _ a3 _ g => g.set_other h1.l a3.symm
  cases j1 with
  | zero => cases hl
  | succ j1 => exact q _ _ ⟨⟨_, g1⟩, ⟨_, g2⟩, hi, hj⟩ g3
end

/-! ### one deed -/
section
variable {cs ts : List Cell} {x1 x2 : Addr} {i1 j1 i2 j2 m t : Nat} {ds es : List D} {R : RV} {d e : D} {k : Int} {b : B} {s0 s10 s11 s12 s13 : Option Sl} {P : PJ}
theorem rngD_len {lo : Int} {n : Nat} : (rangeD lo n).length = n := by unfold rangeD; rw [List.length_map, List.length_range]
theorem moved_d {k : Int} (h0 : 0 < ds.length) (hl : ds.length ≤ 1000) : c__law_moved [.dat (.lst ds), .dat (.int k)] [] (.dat (.lst (dueD ds fun q => q + k))) [] := by
  refine ⟨rfl, And.intro (show SmI (ds.length : Int) by unfold SmI; omega) ?_⟩
  refine And.intro (by rw [rngD_len]; exact Nat.lt_of_le_of_lt (show _ ≤ 1000 by omega) (by decide)) ?_
  refine due_lc (fun q => q + k) (fun q R' hR => ?_) (And.intro rfl rfl)
  refine And.intro (show (0 : Int) < (ds.length : Int) by omega) ?_
  exact atW_i (itm_at h0 _) hR
theorem due_tx {f : Int → Int} (hv : ∀ d ∈ ds, Tx1 d) : ∀ d ∈ dueD ds f, Tx1 d := fun d hd => hv d (due_mem hd)
/-- what comes behind a deed -/
abbrev Dn (b : B) (cs : List Cell) (x1 x2 : Addr) (i1 j1 i2 j2 n : Nat) (s0 s10 s11 s12 : Option Sl) (t : Nat) (k : Int) (P : PJ) : Prop := ∀ cs' ds' es' j1' j2' s13, Tw (bx b :: cs') x1 x2 i1 j1' i2 j2' ds' es' → Oth i1 j1 i2 j2 (bx b :: cs) (bx b :: cs') → ds'.length = n → es'.length = n → (∀ d ∈ ds', Tx1 d) → (∀ d ∈ es', Tx1 d) →
  P.nx ⟨[s0, some (.cel 0), some (.dat (.int n)), some (.dat (.cls x1)), some (.dat (.int k)), some (.dat (.cls x2)), some (.dat (.cls x1)), some (.dat (.lst ds')), some (.dat (.lst es')), some (.dat (.int t)), s10, s11, s12, s13, none], bx b :: cs'⟩
/-- str(t) + "y" -/
theorem ty_b (ht : t < 1000) (q : R (.dat (.str ((Str.ofString (toString (t : Int))) ++ "y"))) cs) : liWC strW1 [.dat (.int (t : Int))] cs fun s1 c1 => liW2 addW s1 (.dat (.str "y")) c1 R := by
  refine li1 (s2 := .dat (.str (toString (t : Int)))) (fun Q q => And.intro ?_ q) ?_
  · rcases Nat.eq_zero_or_pos (t : Int).natAbs with z | z
    · rw [z]; decide
    · exact Nat.lt_trans ((Nat.log2_lt (k := 10) (by omega)).mpr (show (t : Int).natAbs < 2 ^ 10 by omega)) (by decide)
  refine li2 (s3 := .dat (.str ((Str.ofString (toString (t : Int))) ++ "y"))) (fun Q q => And.intro (sz ?_) q) q
  have := num_le (n := t) (by omega)
  have e : Str.length "y" = 1 := by decide
  show (Str.ofString (toString (t : Int))).length + Str.length "y" ≤ _
  omega
theorem ty_c {sl : Sls} {Rx : RX} (ht : t < 1000) (hx : sl[9]? = some (some (.dat (.int (t : Int))))) (q : R (.dat (.str ((Str.ofString (toString (t : Int))) ++ "y"))) cs) : wTwo (wCb (wCons (wName 9) wNil) (liWC strW1)) (wCon (.str "y")) (liW2 addW) sl cs R Rx := by
  unfold wTwo wCb wCons wName
  rw [hx]
  dsimp only [wNil, wCon]
  exact ty_b ht q
theorem ty_tx : Tx1 (.str ((Str.ofString (toString (t : Int))) ++ "y")) := ⟨_, rfl, ts_app (ts_str _) (ts_str "y")⟩
theorem eqw_i {b : Bool} {c : CtG} {i j : Int} (q : R (.dat (.bl (b.xor (decide (i = j))))) cs) : orW (ref2W 0 c) (liW2 (eqW b)) (.dat (.int i)) (.dat (.int j)) cs R := .inr (leqI q)
theorem Tw.ref1 (h : Tw cs x1 x2 i1 j1 i2 j2 ds es) : isRf 0 (.dat (.cls x1)) cs := by
  obtain ⟨r, h1⟩ := h.a
  exact h1.ref
theorem deed_c {w : Int} (hl : ds.length = n) (hl2 : es.length = n) (h0 : 0 < n) (hn : n ≤ 100) (ht : t < 1000) (hd : ∀ d ∈ ds, Tx1 d) (he : ∀ d ∈ es, Tx1 d) (h : Tw (bx b :: cs) x1 x2 i1 j1 i2 j2 ds es) (q : Dn b cs x1 x2 i1 j1 i2 j2 n s0 (some (.dat (.int w))) s11 s12 t k P) :
    (wIfS (wBl (wTwo (wName 10) (wCon (.int 0)) (orW (ref2W 0 c_Ring___eq__) (liW2 (eqW false)))))
  (wConsS (wAug 3 (wName 4) (refOpW 0 c_Ring___ilshift__))
  (wConsS (wAsg 7 (wFn c__law_moved (wCons (wName 7) (wCons (wName 4) wNil))))
  wNilS))
  (wConsS (wIfS (wBl (wTwo (wName 10) (wCon (.int 1)) (orW (ref2W 0 c_Ring___eq__) (liW2 (eqW false)))))
  (wConsS (wAug 6 (wName 4) (refOpW 0 c_Ring___irshift__))
  (wConsS (wAsg 7 (wFn c__law_moved (wCons (wName 7) (wCons (wTwo (wCon (.int 0)) (wName 4) (liW2 subW)) wNil))))
  wNilS))
  (wConsS (wIfS (wBl (wTwo (wName 10) (wCon (.int 2)) (orW (ref2W 0 c_Ring___eq__) (liW2 (eqW false)))))
  (wConsS (wAug 5 (wName 4) (refOpW 0 c_Ring___ilshift__))
  (wConsS (wAsg 8 (wFn c__law_moved (wCons (wName 8) (wCons (wName 4) wNil))))
  wNilS))
  (wConsS (wIfS (wBl (wTwo (wName 10) (wCon (.int 3)) (orW (ref2W 0 c_Ring___eq__) (liW2 (eqW false)))))
  (wConsS (wAug 5 (wName 4) (refOpW 0 c_Ring___irshift__))
  (wConsS (wAsg 8 (wFn c__law_moved (wCons (wName 8) (wCons (wTwo (wCon (.int 0)) (wName 4) (liW2 subW)) wNil))))
  wNilS))
  (wConsS (wSetA 0 c_Ring___setitem__ (wTwo (wCb (wCons (wName 9) wNil) (liWC strW1)) (wCon (.str "y")) (liW2 addW)) (wName 6) (wName 4))
  (wConsS (wAsg 13 (wTwo (wCb (wCons (wName 4) wNil) (liWC intW1)) (wName 2) (liW2 modW)))
  (wConsS (wAsg 7 (wTwo (wTwo (wSlcA (wName 7) wO0 (wO1 (wName 13))) (wLst (wCons (wTwo (wCb (wCons (wName 9) wNil) (liWC strW1)) (wCon (.str "y")) (liW2 addW)) wNil)) (liW2 addW)) (wSlcA (wName 7) (wO1 (wTwo (wName 13) (wCon (.int 1)) (liW2 addW))) wO0) (liW2 addW)))
  wNilS))))
  wNilS))
  wNilS))
  wNilS)) ⟨[s0, some (.cel 0), some (.dat (.int n)), some (.dat (.cls x1)), some (.dat (.int k)), some (.dat (.cls x2)), some (.dat (.cls x1)), some (.dat (.lst ds)), some (.dat (.lst es)), some (.dat (.int t)), some (.dat (.int w)), s11, s12, s13, none], bx b :: cs⟩ P := by
  refine eqw_i ?_
  refine Br.mk (fun z => ?_) fun z => ?_
  · refine ⟨h.ref1, h.ish (by omega) (by omega) fun cs' j1' h' o' => ?_⟩
    exact call_ (moved_d (k := k) (by omega) (by omega)) (q cs' _ es j1' j2 _ h' o' (by rw [due_len]; exact hl) hl2 (due_tx hd) he)
  refine eqw_i ?_
  refine Br.mk (fun z => ?_) fun z => ?_
  · refine ⟨h.ref1, h.irs (by omega) (by omega) fun cs' j1' h' o' => ?_⟩
    refine lsub ?_
    rw [Int.zero_sub]
    exact call_ (moved_d (k := -k) (by omega) (by omega)) (q cs' _ es j1' j2 _ h' o' (by rw [due_len]; exact hl) hl2 (due_tx hd) he)
  refine eqw_i ?_
  refine Br.mk (fun z => ?_) fun z => ?_
  · refine ⟨h.swap.ref1, h.swap.ish (by omega) (by omega) fun cs' j2' h' o' => ?_⟩
    exact call_ (moved_d (k := k) (by omega) (by omega)) (q cs' ds _ j1 j2' _ h'.swap o'.swap hl (by rw [due_len]; exact hl2) hd (due_tx he))
  refine eqw_i ?_
  refine Br.mk (fun z => ?_) fun z => ?_
  · refine ⟨h.swap.ref1, h.swap.irs (by omega) (by omega) fun cs' j2' h' o' => ?_⟩
    refine lsub ?_
    rw [Int.zero_sub]
    exact call_ (moved_d (k := -k) (by omega) (by omega)) (q cs' ds _ j1 j2' _ h'.swap o'.swap hl (by rw [due_len]; exact hl2) hd (due_tx he))
  refine ty_c (sl := [s0, some (.cel 0), some (.dat (.int n)), some (.dat (.cls x1)), some (.dat (.int k)), some (.dat (.cls x2)), some (.dat (.cls x1)), some (.dat (.lst ds)), some (.dat (.lst es)), some (.dat (.int t)), some (.dat (.int w)), s11, s12, s13, none]) ht rfl ?_
  refine ⟨h.ref1, h.set (by omega) fun cs' j1' h' o' => ?_⟩
  have hn0 := Int.emod_nonneg k (show (n : Int) ≠ 0 by omega)
  have hlt := itm_lt (ds := ds) (by omega) k
  obtain ⟨f, hff⟩ : ∃ f : Nat, k % (n : Int) = (f : Int) := ⟨_, (Int.toNat_of_nonneg hn0).symm⟩
  rw [hl, hff, Int.toNat_natCast] at h'
  rw [hl, hff, Int.toNat_natCast] at hlt
  try dsimp only [wConsS, wNilS, wAsg, wTwo, wOne, wName, wCon, wCb, wCons, wNil, wRetG, wTag, wSlcA, wO0, wO1, wIfS, wBl, wFn, wFnG, wSetFA, wFldA, wMethA0, wNotT, wOrT, wAndV, Dl.wTru, wLst, wTup, wDats, dats, isB, wSubA, wSetA, wSetLA, wExpr, wPar2, par2, wPar3, par3, wItems, itemsW, wRng1, wFor, endG, List.set_cons_zero, List.set_cons_succ, List.getElem?_cons_zero, List.getElem?_cons_succ, Option.map_some]
  refine lint ?_
  refine lmod (show (0 : Int) < (n : Int) by omega) ?_
  rw [hff]
  refine slice_l ls_d ?_
  refine ty_b ht ?_
  refine And.intro (szk 1) ?_
  have hy := ty_tx (t := t)
  generalize (Str.ofString (toString (t : Int))) ++ "y" = y at *
  have l1 := cut_len ds none (some (f : Int))
  have l2 := cut_len ds (some ((f : Int) + 1)) none
  refine li2 (s3 := .dat (.lst (cutD ds none (some (f : Int)) ++ [.str y]))) (fun Q q => And.intro (sz (by simp only [List.length_singleton]; omega)) q) ?_
  refine ladd ?_
  refine slice_l ls_d ?_
  refine li2 (s3 := .dat (.lst (cutD ds none (some (f : Int)) ++ [.str y] ++ cutD ds (some ((f : Int) + 1)) none))) (fun Q q => And.intro (sz (by simp only [List.length_append, List.length_singleton]; omega)) q) ?_
  rw [show ((f : Int) + 1) = ((f + 1 : Nat) : Int) from rfl, cut_take, cut_drop, set_parts (by omega)]
  refine q cs' _ es j1' j2 _ h' o' (by rw [List.length_set]; exact hl) hl2 (fun d hx => ?_) he
  rcases List.mem_or_eq_of_mem_set hx with z | rfl
  · exact hd d z
  · exact hy
end

/-! ### what is tested behind a deed -/
section
variable {cs ts : List Cell} {x1 x2 y1 y2 y3 y4 : Addr} {i1 j1 i2 j2 m t n : Nat} {ds es : List D} {d e : D} {k : Int} {b : B} {s0 s9 s10 s13 : Option Sl} {P : PJ}
theorem lneL {R : RV} {xs : List D} (h1 : okD (.lst xs) = true) (q : R (.dat (.bl false)) cs) : liW2 (eqW true) (.dat (.lst xs)) (.dat (.lst xs)) cs R := leqL h1 h1 (by rw [eqD_refl h1]; exact q)
theorem itm_tx (h0 : 0 < ds.length) (hd : ∀ d ∈ ds, Tx1 d) (k : Int) : ∃ y : Str, itm ds k = .str y := by
  obtain ⟨y, e, _⟩ := hd _ (itm_mem h0 k)
  exact ⟨y, e⟩
theorem ats_c (hl : ds.length = n) (hl2 : es.length = n) (h0 : 0 < n) (hd : ∀ d ∈ ds, Tx1 d) (he : ∀ d ∈ es, Tx1 d) {s11 s12 : Option Sl} (h : Tw (bx b :: cs) x1 x2 i1 j1 i2 j2 ds es)
    (q : P.nx ⟨[s0, some (.cel 0), some (.dat (.int n)), some (.dat (.cls x1)), some (.dat (.int k)), some (.dat (.cls x2)), some (.dat (.cls x1)), some (.dat (.lst ds)), some (.dat (.lst es)), s9, s10, s11, s12, s13, none], bx b :: cs⟩) :
    w_law_ats m ⟨[s0, some (.cel 0), some (.dat (.int n)), some (.dat (.cls x1)), some (.dat (.int k)), some (.dat (.cls x2)), some (.dat (.cls x1)), some (.dat (.lst ds)), some (.dat (.lst es)), s9, s10, s11, s12, s13, none], bx b :: cs⟩ P := by
  obtain ⟨r1, g1⟩ := h.a
  obtain ⟨r2, g2⟩ := h.b
  obtain ⟨z1, e1⟩ := itm_tx (by omega) hd k
  obtain ⟨z2, e2⟩ := itm_tx (by omega) he k
  have a1 := itm_at (ds := ds) (by omega) k
  have a2 := itm_at (ds := es) (by omega) k
  unfold w_law_ats
  try dsimp only [wConsS, wNilS, wAsg, wTwo, wOne, wName, wCon, wCb, wCons, wNil, wRetG, wTag, wSlcA, wO0, wO1, wIfS, wBl, wFn, wFnG, wSetFA, wFldA, wMethA0, wNotT, wOrT, wAndV, Dl.wTru, wLst, wTup, wDats, dats, isB, wSubA, wSetA, wSetLA, wExpr, wPar2, par2, wPar3, par3, wItems, itemsW, wRng1, wFor, endG, List.set_cons_zero, List.set_cons_succ, List.getElem?_cons_zero, List.getElem?_cons_succ, Option.map_some]
  refine ⟨g1.ref, get_c g1 (by omega) a1 ?_⟩
  refine lint ?_
  refine lmod (show (0 : Int) < (n : Int) by omega) ?_
  rw [hl] at a1
  rw [hl2] at a2
  refine lix a1 ?_
  rw [e1]
  refine leqS ?_
  refine Br.ff (by simp) ?_
  refine ⟨g2.ref, get_c g2 (by omega) (by rw [hl2]; exact a2) ?_⟩
  refine lint ?_
  refine lmod (show (0 : Int) < (n : Int) by omega) ?_
  refine lix a2 ?_
  rw [e2]
  refine leqS ?_
  refine Br.ff (by simp) ?_
  exact q
/-- cells of the rings that were made before -/
theorem lc_cells {xs : List (Addr × List D)} {sl : Sls} {R : List D → List Cell → Prop} {v : Nat} (hv : ∀ d : D, (sl.set v (some (.dat d)))[v]? = some (some (.dat d))) (h : ∀ x ∈ xs, ∃ r i j, Rg cs x.1 r i j x.2) (q : R (xs.map fun x => .lst x.2) cs) : lcW (.nm v) wYes (wMethA0 0 "cells" c_Ring_cells (wName v)) sl (xs.map fun x => .cls x.1) cs R := by
  induction xs generalizing R with
  | nil => exact q
  | cons x xs ih =>
    obtain ⟨r, i, j, g⟩ := h x List.mem_cons_self
    refine asgW_i (sl' := sl.set v (some (.dat (.cls x.1)))) rfl (Br.tt rfl ?_)
    unfold wMethA0 wName
    rw [hv]
    refine And.intro (met_c g (by decide)) ?_
    refine cells_d g ?_
    exact ih (fun y hy => h y (List.mem_cons_of_mem _ hy)) q
theorem test_c (hl : ds.length = n) (hl2 : es.length = n) (h0 : 0 < n) (hn : n ≤ 100) (hd : ∀ d ∈ ds, Tx1 d) (he : ∀ d ∈ es, Tx1 d) (h : Tw (bx b :: cs) x1 x2 i1 j1 i2 j2 ds es)
    {xs : List (Addr × List D)} (hx : ∀ x ∈ xs, ∃ r i j, Rg (bx b :: cs) x.1 r i j x.2) (hx2 : ∀ x ∈ xs, ∀ d ∈ x.2, Tx1 d) (hx3 : xs.length ≤ 100)
    (q : P.nx ⟨[s0, some (.cel 0), some (.dat (.int n)), some (.dat (.cls x1)), some (.dat (.int k)), some (.dat (.cls x2)), some (.dat (.cls x1)), some (.dat (.lst ds)), some (.dat (.lst es)), s9, s10, some (.dat (.lst (xs.map fun x => .cls x.1))), some (.dat (.lst (xs.map fun x => .lst x.2))), s13, none], bx b :: cs⟩) :
    w_law_test m ⟨[s0, some (.cel 0), some (.dat (.int n)), some (.dat (.cls x1)), some (.dat (.int k)), some (.dat (.cls x2)), some (.dat (.cls x1)), some (.dat (.lst ds)), some (.dat (.lst es)), s9, s10, some (.dat (.lst (xs.map fun x => .cls x.1))), some (.dat (.lst (xs.map fun x => .lst x.2))), s13, none], bx b :: cs⟩ P := by
  obtain ⟨r1, g1⟩ := h.a
  obtain ⟨r2, g2⟩ := h.b
  unfold w_law_test
  refine consS_i (S' := ⟨[s0, some (.cel 0), some (.dat (.int n)), some (.dat (.cls x1)), some (.dat (.int k)), some (.dat (.cls x2)), some (.dat (.cls x1)), some (.dat (.lst ds)), some (.dat (.lst es)), s9, s10, some (.dat (.lst (xs.map fun x => .cls x.1))), some (.dat (.lst (xs.map fun x => .lst x.2))), s13, none], bx b :: cs⟩) (fun P' q => ?_) ?_
  · try dsimp only [wConsS, wNilS, wAsg, wTwo, wOne, wName, wCon, wCb, wCons, wNil, wRetG, wTag, wSlcA, wO0, wO1, wIfS, wBl, wFn, wFnG, wSetFA, wFldA, wMethA0, wNotT, wOrT, wAndV, Dl.wTru, wLst, wTup, wDats, dats, isB, wSubA, wSetA, wSetLA, wExpr, wPar2, par2, wPar3, par3, wItems, itemsW, wRng1, wFor, endG, List.set_cons_zero, List.set_cons_succ, List.getElem?_cons_zero, List.getElem?_cons_succ, Option.map_some]
    refine And.intro (met_c g1 (by decide)) ?_
    refine cells_d g1 ?_
    refine lneL (tx_ok hd) ?_
    refine Br.ff rfl ?_
    refine And.intro (met_c g1 (by decide)) ?_
    refine cells_d g1 ?_
    refine lneL (tx_ok hd) ?_
    exact Br.ff rfl q
  unfold w_law_kepts
  refine consS_i (S' := ⟨[s0, some (.cel 0), some (.dat (.int n)), some (.dat (.cls x1)), some (.dat (.int k)), some (.dat (.cls x2)), some (.dat (.cls x1)), some (.dat (.lst ds)), some (.dat (.lst es)), s9, s10, some (.dat (.lst (xs.map fun x => .cls x.1))), some (.dat (.lst (xs.map fun x => .lst x.2))), s13, none], bx b :: cs⟩) (fun P' q => ?_) ?_
  · try dsimp only [wConsS, wNilS, wAsg, wTwo, wOne, wName, wCon, wCb, wCons, wNil, wRetG, wTag, wSlcA, wO0, wO1, wIfS, wBl, wFn, wFnG, wSetFA, wFldA, wMethA0, wNotT, wOrT, wAndV, Dl.wTru, wLst, wTup, wDats, dats, isB, wSubA, wSetA, wSetLA, wExpr, wPar2, par2, wPar3, par3, wItems, itemsW, wRng1, wFor, endG, List.set_cons_zero, List.set_cons_succ, List.getElem?_cons_zero, List.getElem?_cons_succ, Option.map_some]
    refine And.intro (show (xs.map fun x => D.cls x.1).length < sizeLine by rw [List.length_map]; exact Nat.lt_of_le_of_lt hx3 (by decide)) ?_
    refine lc_cells (fun d => rfl) hx ?_
    have ok : okD (.lst (xs.map fun x => .lst x.2)) = true := ok_lst (k := 1) (fun d hd => by
      obtain ⟨x, hm, rfl⟩ := List.mem_map.mp hd
      exact tx_okn (hx2 x hm)) (by decide)
    refine lneL ok ?_
    refine Br.ff rfl ?_
    try dsimp only [wConsS, wNilS, wAsg, wTwo, wOne, wName, wCon, wCb, wCons, wNil, wRetG, wTag, wSlcA, wO0, wO1, wIfS, wBl, wFn, wFnG, wSetFA, wFldA, wMethA0, wNotT, wOrT, wAndV, Dl.wTru, wLst, wTup, wDats, dats, isB, wSubA, wSetA, wSetLA, wExpr, wPar2, par2, wPar3, par3, wItems, itemsW, wRng1, wFor, endG, List.set_cons_zero, List.set_cons_succ, List.getElem?_cons_zero, List.getElem?_cons_succ, Option.map_some]
    refine .inl ⟨_, n, rfl, g1.ref, ?_, ⟨by omega, by omega⟩, ?_⟩
    · exact len_c g1 ⟨by rw [hl], rfl⟩
    refine leqI ?_
    refine Br.ff (by simp) ?_
    refine And.intro (met_c g2 (by decide)) ?_
    refine cells_d g2 ?_
    refine lneL (tx_ok he) ?_
    exact Br.ff rfl q
  exact ats_c hl hl2 h0 hd he h q
end

/-! ### one turn -/
/-- one statement, with what is known behind it -/
theorem consS_q {w1 w2 : WS} {S : Sta} {P : PJ} (I : Sta → Prop) (h1 : ∀ P' : PJ, (∀ S', I S' → P'.nx S') → w1 S P') (h2 : ∀ S', I S' → w2 S' P) : wConsS w1 w2 S P := h1 _ h2
theorem wN_i {i : Nat} {sl : Sls} {cs : List Cell} {R : RV} {Rx : RX} {s : Sl} (e : sl[i]? = some (some s)) (h : R s cs) : wName i sl cs R Rx := by unfold wName; rw [e]; exact h
section
variable {cs ts : List Cell} {x1 x2 y1 y2 y3 y4 : Addr} {i1 j1 i2 j2 m t n : Nat} {ds es : List D} {d e : D} {k : Int} {b : B} {s0 s9 s10 s13 : Option Sl} {P : PJ}
theorem Tw.app (h : Tw cs x1 x2 i1 j1 i2 j2 ds es) : Tw (cs ++ ts) x1 x2 i1 j1 i2 j2 ds es := by
  obtain ⟨⟨r1, h1⟩, ⟨r2, h2⟩, hi, hj⟩ := h
  exact ⟨⟨r1, h1.app⟩, ⟨r2, h2.app⟩, hi, hj⟩
/-- a ring that is none of the two -/
def Nw (cs : List Cell) (i1 j1 i2 j2 : Nat) (x : Addr × List D) : Prop := ∃ r i j, Rg cs x.1 r i j x.2 ∧ i ≠ i1 ∧ i ≠ i2 ∧ j ≠ j1 ∧ j ≠ j2
theorem Nw.app {x : Addr × List D} (h : Nw cs i1 j1 i2 j2 x) : Nw (cs ++ ts) i1 j1 i2 j2 x := by
  obtain ⟨r, i, j, g, z⟩ := h
  exact ⟨r, i, j, g.app, z⟩
theorem Tw.nw {a r : Addr} {i j : Nat} {c0 : List Cell} {fs : List D} (h : Tw c0 x1 x2 i1 j1 i2 j2 ds es) (g : Rg cs a r i j fs) (hl : c0.length ≤ j ∧ c0.length ≤ i) : Nw cs i1 j1 i2 j2 (a, fs) := by
  obtain ⟨⟨r1, h1⟩, ⟨r2, h2⟩, hi, hj⟩ := h
  have a1 := (List.getElem?_eq_some_iff.mp h1.o).1
  have a2 := (List.getElem?_eq_some_iff.mp h1.l).1
  have a3 := (List.getElem?_eq_some_iff.mp h2.o).1
  have a4 := (List.getElem?_eq_some_iff.mp h2.l).1
  exact ⟨r, i, j, g, by omega, by omega, by omega, by omega⟩
def Inv (n : Nat) (S : Sta) : Prop := ∃ b cs x1 x2 i1 j1 i2 j2 ds es s0 s4 s9 s10 s11 s12 s13, (Ok b ∧ Tw (bx b :: cs) x1 x2 i1 j1 i2 j2 ds es ∧ ds.length = n ∧ es.length = n ∧ (∀ d ∈ ds, Tx1 d) ∧ (∀ d ∈ es, Tx1 d)) ∧
  S = ⟨[s0, some (.cel 0), some (.dat (.int n)), some (.dat (.cls x1)), s4, some (.dat (.cls x2)), some (.dat (.cls x1)), some (.dat (.lst ds)), some (.dat (.lst es)), s9, s10, s11, s12, s13, none], bx b :: cs⟩
theorem turn_c (hb : Ok b) (hl : ds.length = n) (hl2 : es.length = n) (h0 : 0 < n) (hn : n ≤ 100) (ht : t < 1000) (hd : ∀ d ∈ ds, Tx1 d) (he : ∀ d ∈ es, Tx1 d) (h : Tw (bx b :: cs) x1 x2 i1 j1 i2 j2 ds es) {s4 s11 s12 : Option Sl}
    (q : ∀ S', Inv n S' → P.nx S') :
    w_law_turn m ⟨[s0, some (.cel 0), some (.dat (.int n)), some (.dat (.cls x1)), s4, some (.dat (.cls x2)), some (.dat (.cls x1)), some (.dat (.lst ds)), some (.dat (.lst es)), some (.dat (.int t)), s10, s11, s12, s13, none], bx b :: cs⟩ P := by
  obtain ⟨k, b2, hk, o2, hc⟩ := far_ex (b := nx b 6) (n := n) (hb.nx _) (by omega)
  unfold w_law_turn
  refine consS_i (S' := ⟨[s0, some (.cel 0), some (.dat (.int n)), some (.dat (.cls x1)), some (.dat (.int k)), some (.dat (.cls x2)), some (.dat (.cls x1)), some (.dat (.lst ds)), some (.dat (.lst es)), some (.dat (.int t)), some (.dat (.int (tk b 6))), s11, s12, s13, none], bx b2 :: cs⟩) (fun P' q => ?_) ?_
  · refine ⟨_, _, take_c (by decide) (by decide) hb, ?_⟩
    exact ⟨_, _, hc, q⟩
  generalize tk b 6 = w
  have h : Tw (bx b2 :: cs) x1 x2 i1 j1 i2 j2 ds es := by
    have := h.box (c' := [.int b2.1, .int b2.2]) (ts := [])
    rwa [List.append_nil] at this
  refine consS_q (fun S' => ∃ y1 y2 y3 y4 ts, (∀ x ∈ [(y1, ds), (y2, ds), (y3, ds), (y4, dueD ds fun q => 0 - q)], Nw (bx b2 :: (cs ++ ts)) i1 j1 i2 j2 x) ∧ S' = ⟨[s0, some (.cel 0), some (.dat (.int n)), some (.dat (.cls x1)), some (.dat (.int k)), some (.dat (.cls x2)), some (.dat (.cls x1)), some (.dat (.lst ds)), some (.dat (.lst es)), some (.dat (.int t)), some (.dat (.int w)), some (.dat (.lst [.cls y1, .cls y2, .cls y3, .cls y4])), some (.dat (.lst [.lst ds, .lst ds, .lst ds])), s13, none], bx b2 :: (cs ++ ts)⟩) (fun P' q => ?_) ?_
  · obtain ⟨r1, g0⟩ := h.a
    refine .inl ⟨g0.ref, ⟨_, rfl⟩, shr_c g0 (by omega) (by omega) fun y1 p1 a1 c1 ts1 z1 g1 => ?_⟩
    refine .inl ⟨g0.app.ref, ⟨_, rfl⟩, shl_c g0.app (by omega) (by omega) fun y2 p2 a2 c2 ts2 z2 g2 => ?_⟩
    refine .inl ⟨g0.app.app.ref, ⟨_, rfl⟩, shl_c g0.app.app (by omega) (by omega) fun y3 p3 a3 c3 ts3 z3 g3 => ?_⟩
    refine .inl ⟨g0.app.app.app.ref, neg_c g0.app.app.app (by omega) (by omega) fun y4 p4 a4 c4 ts4 z4 g4 => ?_⟩
    refine And.intro (szk 4) ?_
    refine lsd_l ls_d ?_
    refine And.intro (szk 1) ?_
    refine li2 (s3 := .dat (.lst [.lst ds, .lst ds, .lst ds])) (fun Q q => And.intro ⟨by decide, by decide, szk 3⟩ q) ?_
    subst hl
    rw [due_n0] at g1
    rw [due_0] at g2
    rw [due_n] at g3
    have e : bx b2 :: cs ++ ts1 ++ ts2 ++ ts3 ++ ts4 = bx b2 :: (cs ++ (ts1 ++ ts2 ++ ts3 ++ ts4)) := by simp
    have w1 := ((((h.nw g1 z1).app (ts := ts2)).app (ts := ts3)).app (ts := ts4))
    have w2 := (((h.nw g2 (by simp only [List.length_append] at z2; omega)).app (ts := ts3)).app (ts := ts4))
    have w3 := ((h.nw g3 (by simp only [List.length_append] at z3; omega)).app (ts := ts4))
    have w4 := h.nw g4 (by simp only [List.length_append] at z4; omega)
    rw [e] at w1 w2 w3 w4
    rw [e]
    refine q _ ⟨y1, y2, y3, y4, ts1 ++ ts2 ++ ts3 ++ ts4, fun x hx => ?_, rfl⟩
    rcases List.mem_cons.mp hx with rfl | hx
    · exact w1
    rcases List.mem_cons.mp hx with rfl | hx
    · exact w2
    rcases List.mem_cons.mp hx with rfl | hx
    · exact w3
    rcases List.mem_cons.mp hx with rfl | hx
    · exact w4
    · cases hx
  rintro S' ⟨y1, y2, y3, y4, ts, hw, rfl⟩
  have h : Tw (bx b2 :: (cs ++ ts)) x1 x2 i1 j1 i2 j2 ds es := h.app (ts := ts)
  generalize cs ++ ts = cs at *
  unfold w_law_kept
  refine consS_i (S' := ⟨[s0, some (.cel 0), some (.dat (.int n)), some (.dat (.cls x1)), some (.dat (.int k)), some (.dat (.cls x2)), some (.dat (.cls x1)), some (.dat (.lst ds)), some (.dat (.lst es)), some (.dat (.int t)), some (.dat (.int w)), some (.dat (.lst [.cls y1, .cls y2, .cls y3, .cls y4])), some (.dat (.lst [.lst ds, .lst ds, .lst ds, .lst (dueD ds fun q => 0 - q)])), s13, none], bx b2 :: cs⟩) (fun P' q => ?_) ?_
  · refine And.intro (show SmI (n : Int) by unfold SmI; omega) ?_
    refine And.intro (by rw [rngD_len]; exact Nat.lt_of_le_of_lt (show _ ≤ 1000 by omega) (by decide)) ?_
    rw [show (n : Int).toNat = ds.length by omega]
    refine due_lc (fun q => 0 - q) (fun q R' hR => ?_) ?_
    · refine lsub ?_
      refine lint ?_
      refine wN_i (s := .dat (.int n)) rfl ?_
      refine lmod (show (0 : Int) < (n : Int) by omega) ?_
      rw [← hl]
      exact lix (itm_at (by omega) _) hR
    refine And.intro (szk 1) ?_
    exact li2 (s3 := .dat (.lst [.lst ds, .lst ds, .lst ds, .lst (dueD ds fun q => 0 - q)])) (fun Q q => And.intro (szk 4) q) q
  unfold w_law_deed
  refine consS_q (fun S' => ∃ cs' ds' es' j1' j2' s13, (Tw (bx b2 :: cs') x1 x2 i1 j1' i2 j2' ds' es' ∧ Oth i1 j1 i2 j2 (bx b2 :: cs) (bx b2 :: cs') ∧ ds'.length = n ∧ es'.length = n ∧ (∀ d ∈ ds', Tx1 d) ∧ (∀ d ∈ es', Tx1 d)) ∧
    S' = ⟨[s0, some (.cel 0), some (.dat (.int n)), some (.dat (.cls x1)), some (.dat (.int k)), some (.dat (.cls x2)), some (.dat (.cls x1)), some (.dat (.lst ds')), some (.dat (.lst es')), some (.dat (.int t)), some (.dat (.int w)), some (.dat (.lst [.cls y1, .cls y2, .cls y3, .cls y4])), some (.dat (.lst [.lst ds, .lst ds, .lst ds, .lst (dueD ds fun q => 0 - q)])), s13, none], bx b2 :: cs'⟩) (fun P' q => ?_) ?_
  · exact deed_c hl hl2 h0 hn ht hd he h fun cs' ds' es' j1' j2' s13 g1 g2 g3 g4 g5 g6 => q _ ⟨cs', ds', es', j1', j2', s13, ⟨g1, g2, g3, g4, g5, g6⟩, rfl⟩
  rintro S' ⟨cs', ds', es', j1', j2', s13', ⟨g1, g2, g3, g4, g5, g6⟩, rfl⟩
  refine test_c (xs := [(y1, ds), (y2, ds), (y3, ds), (y4, dueD ds fun q => 0 - q)]) g3 g4 h0 hn g5 g6 g1 (fun x hx => ?_) (fun x hx => ?_) (show (4 : Nat) ≤ 100 by decide) ?_
  · obtain ⟨r, i, j, g, a1, a2, a3, a4⟩ := hw x hx
    exact ⟨r, i, j, g2 _ _ _ _ _ a1 a2 a3 a4 g⟩
  · rcases List.mem_cons.mp hx with rfl | hx
    · exact hd
    rcases List.mem_cons.mp hx with rfl | hx
    · exact hd
    rcases List.mem_cons.mp hx with rfl | hx
    · exact hd
    rcases List.mem_cons.mp hx with rfl | hx
    · exact due_tx hd
    · cases hx
  · exact q _ ⟨b2, cs', x1, x2, i1, j1', i2, j2', ds', es', _, _, _, _, _, _, _, ⟨o2, g1, g3, g4, g5, g6⟩, rfl⟩
end

/-! ### the law -/
section
variable {cs ts : List Cell} {x1 x2 : Addr} {i1 j1 i2 j2 m n : Nat} {ds es : List D} {b : B} {R : RV}
theorem fin_c {S : Sta} (h : Inv n S) (hn : n ≤ 100) (q : ∀ c, R (.dat (.bl true)) c) : w_law_fin m S (endG R) := by
  obtain ⟨b, cs, x1, x2, i1, j1, i2, j2, ds, es, s0, s4, s9, s10, s11, s12, s13, ⟨ok, hw, h1, h2, h3, h4⟩, rfl⟩ := h
  obtain ⟨r1, g1⟩ := hw.a
  obtain ⟨r2, g2⟩ := hw.b
  unfold w_law_fin
  try dsimp only [wConsS, wNilS, wAsg, wTwo, wOne, wName, wCon, wCb, wCons, wNil, wRetG, wTag, wSlcA, wO0, wO1, wIfS, wBl, wFn, wFnG, wSetFA, wFldA, wMethA0, wNotT, wOrT, wAndV, Dl.wTru, wLst, wTup, wDats, dats, isB, wSubA, wSetA, wSetLA, wExpr, wPar2, par2, wPar3, par3, wItems, itemsW, wRng1, wFor, endG, List.set_cons_zero, List.set_cons_succ, List.getElem?_cons_zero, List.getElem?_cons_succ, Option.map_some]
  refine .inl ⟨g1.ref, g1.ref, eq_c g1 g1 (tx_ok h3) (tx_ok h3) ?_⟩
  rw [eqD_refl (tx_ok h3)]
  refine lisB ?_
  refine Br.tt rfl ?_
  refine .inl ⟨g1.ref, g2.ref, eq_c g1 g2 (tx_ok h3) (tx_ok h4) ?_⟩
  refine .inr (leqL (tx_ok h3) (tx_ok h4) ?_)
  refine .inr (leqB ?_)
  rw [Bool.false_xor, Bool.false_xor, beq_self_eq_true]
  exact q _
/-- texts of the first numbers -/
def nmL (n : Nat) : List D := (List.range n).map fun i : Nat => .str (Str.ofString (toString (i : Int)))
def nxL (n : Nat) : List D := (List.range n).map fun i : Nat => .str ("x" ++ (Str.ofString (toString (i : Int))))
theorem nm_tx : ∀ d ∈ nmL n, Tx1 d := fun d hd => by
  obtain ⟨i, _, rfl⟩ := List.mem_map.mp hd
  exact ⟨_, rfl, ts_str _⟩
theorem nx_tx : ∀ d ∈ nxL n, Tx1 d := fun d hd => by
  obtain ⟨i, _, rfl⟩ := List.mem_map.mp hd
  exact ⟨_, rfl, ts_app (ts_str "x") (ts_str _)⟩
theorem str_c {i : Nat} (h : i < 1000) (q : R (.dat (.str (Str.ofString (toString (i : Int))))) cs) : liWC strW1 [.dat (.int (i : Int))] cs R := by
  refine li1 (s2 := .dat (.str (toString (i : Int)))) (fun Q q => And.intro ?_ q) q
  rcases Nat.eq_zero_or_pos (i : Int).natAbs with z | z
  · rw [z]; decide
  · exact Nat.lt_trans ((Nat.log2_lt (k := 10) (by omega)).mpr (show (i : Int).natAbs < 2 ^ 10 by omega)) (by decide)
theorem nm_lc {sl : Sls} {R : List D → List Cell → Prop} (hn : n ≤ 100) (hs : ∀ d : D, (sl.set 4 (some (.dat d)))[4]? = some (some (.dat d))) (q : R (nmL n) cs) : lcW (.nm 4) wYes (wCb (wCons (wName 4) wNil) (liWC strW1)) sl (rangeD 0 n) cs R := by
  refine lcW_map (fun i : Nat => D.int (0 + (i : Int))) (fun i : Nat => .str (Str.ofString (toString (i : Int)))) (fun k hk => ⟨_, rfl, fun R' hR => ?_⟩) q
  rw [Int.zero_add]
  have := List.mem_range.mp hk
  unfold wCb wCons
  refine wN_i (hs _) ?_
  exact str_c (by omega) hR
theorem nx_lc {sl : Sls} {R : List D → List Cell → Prop} (hn : n ≤ 100) (hs : ∀ d : D, (sl.set 4 (some (.dat d)))[4]? = some (some (.dat d))) (q : R (nxL n) cs) : lcW (.nm 4) wYes (wTwo (wCon (.str "x")) (wCb (wCons (wName 4) wNil) (liWC strW1)) (liW2 addW)) sl (rangeD 0 n) cs R := by
  refine lcW_map (fun i : Nat => D.int (0 + (i : Int))) (fun i : Nat => .str ("x" ++ (Str.ofString (toString (i : Int))))) (fun k hk => ⟨_, rfl, fun R' hR => ?_⟩) q
  rw [Int.zero_add]
  have hk := List.mem_range.mp hk
  unfold wTwo wCon wCb wCons wNil
  refine wN_i (hs _) ?_
  refine str_c (i := k) (by omega) ?_
  refine li2 (s3 := .dat (.str ("x" ++ (Str.ofString (toString (k : Int)))))) (fun Q q => And.intro (sz ?_) q) hR
  have := num_le (n := k) (by omega)
  have e : Str.length "x" = 1 := by decide
  show Str.length "x" + (Str.ofString (toString (k : Int))).length ≤ _
  omega
theorem law_of (ns : List Int) (hl : ns.length ≤ 63) (hb : ∀ z ∈ ns, Builtin.Int.intBits z ≤ 1048576) : c_law [.dat (.scr (ns.map D.int))] [] (.dat (.bl true)) [] := by
  have hb0 := feedB_ok ns 0
  generalize hB : feedB ns 0 = b0 at hb0
  have h1 := tk_lo (b := b0) (m := 2) (by decide)
  have h2 := tk_hi (b := b0) (m := 2) (by decide)
  obtain ⟨g, hg, gl, gh⟩ : ∃ g : Int, atI [D.int 7, D.int 60] (tk b0 2) = some (.int g) ∧ 0 < g ∧ g ≤ 60 := by
    rcases (show tk b0 2 = 0 ∨ tk b0 2 = 1 by omega) with e | e
    · exact ⟨7, by rw [e]; rfl, by decide, by decide⟩
    · exact ⟨60, by rw [e]; rfl, by decide, by decide⟩
  have k1 : Ok (nx b0 2) := hb0.nx _
  have h3 := tk_lo (b := nx b0 2) (m := g) gl
  have h4 := tk_hi (b := nx b0 2) (m := g) gl
  have k2 : Ok (nx (nx b0 2) g) := k1.nx _
  generalize hn : (1 + tk (nx b0 2) g).toNat = n
  have en : 1 + tk (nx b0 2) g = (n : Int) := by omega
  have nb : n ≤ 100 := by omega
  have n0 : 0 < n := by omega
  have l1 : (nmL n).length = n := by unfold nmL; rw [List.length_map, List.length_range]
  have l2 : (nxL n).length = n := by unfold nxL; rw [List.length_map, List.length_range]
  refine ⟨⟨_, rfl⟩, rfl, (?_ : w_law _ ⟨[some (.dat (scD ns)), none, none, none, none, none, none, none, none, none, none, none, none, none, none], []⟩ (endG _))⟩
  unfold w_law
  refine consS_i (S' := ⟨[some (.dat (scD ns)), some (.cel 0), none, none, none, none, none, none, none, none, none, none, none, none, none], [bx b0]⟩) (fun P' q => ?_) ?_
  · refine call_ (feed_c (k := 0) (by decide)) ?_
    rw [hB]
    exact q
  refine consS_i (S' := ⟨[some (.dat (scD ns)), some (.cel 0), some (.dat (.int n)), none, none, none, none, none, none, none, none, none, none, none, none], [bx (nx (nx b0 2) g)]⟩) (fun P' q => ?_) ?_
  · refine And.intro (szk 2) ?_
    refine ⟨_, _, take_c (by decide) (by decide) hb0, ?_⟩
    refine lix hg ?_
    refine ⟨_, _, take_c gl (by omega) k1, ?_⟩
    refine ladd ?_
    rw [en]
    exact q
  generalize nx (nx b0 2) g = b2 at k2
  refine consS_q (fun S' => ∃ x1 p1 : Addr, S' = ⟨[some (.dat (scD ns)), some (.cel 0), some (.dat (.int n)), some (.dat (.cls x1)), none, none, none, none, none, none, none, none, none, none, none], [bx b2, Cell.insA x1 0 [("row", .cls p1)], Cell.lstA p1 (nmL n)]⟩) (fun P' q => ?_) ?_
  · refine And.intro (show SmI (n : Int) by unfold SmI; omega) ?_
    refine And.intro (by rw [rngD_len]; exact Nat.lt_of_le_of_lt (show _ ≤ 1000 by omega) (by decide)) ?_
    refine nm_lc nb (fun d => rfl) ?_
    refine ⟨rfl, rfl, ?_⟩
    refine make_c (.inl ls_d) (Nat.lt_of_lt_of_eq n0 l1.symm) fun x1 p1 => ?_
    exact q _ ⟨x1, p1, rfl⟩
  rintro S' ⟨x1, p1, rfl⟩
  refine consS_q (fun S' => ∃ x2 p2 : Addr, S' = ⟨[some (.dat (scD ns)), some (.cel 0), some (.dat (.int n)), some (.dat (.cls x1)), none, some (.dat (.cls x2)), some (.dat (.cls x1)), none, none, none, none, none, none, none, none], [bx b2, Cell.insA x1 0 [("row", .cls p1)], Cell.lstA p1 (nmL n), Cell.insA x2 0 [("row", .cls p2)], Cell.lstA p2 (nxL n)]⟩) (fun P' q => ?_) ?_
  · refine And.intro (show SmI (n : Int) by unfold SmI; omega) ?_
    refine And.intro (by rw [rngD_len]; exact Nat.lt_of_le_of_lt (show _ ≤ 1000 by omega) (by decide)) ?_
    refine nx_lc nb (fun d => rfl) ?_
    refine ⟨rfl, rfl, ?_⟩
    refine make_c (.inl ls_d) (Nat.lt_of_lt_of_eq n0 l2.symm) fun x2 p2 => ?_
    exact q _ ⟨x2, p2, rfl⟩
  rintro S' ⟨x2, p2, rfl⟩
  have hw : Tw [bx b2, Cell.insA x1 0 [("row", .cls p1)], Cell.lstA p1 (nmL n), Cell.insA x2 0 [("row", .cls p2)], Cell.lstA p2 (nxL n)] x1 x2 1 2 3 4 (nmL n) (nxL n) := ⟨⟨p1, rfl, rfl⟩, ⟨p2, rfl, rfl⟩, by decide, by decide⟩
  obtain ⟨_, g1⟩ := hw.a
  obtain ⟨_, g2⟩ := hw.b
  refine consS_i (S' := ⟨[some (.dat (scD ns)), some (.cel 0), some (.dat (.int n)), some (.dat (.cls x1)), none, some (.dat (.cls x2)), some (.dat (.cls x1)), some (.dat (.lst (nmL n))), some (.dat (.lst (nxL n))), none, none, none, none, none, none], [bx b2, Cell.insA x1 0 [("row", .cls p1)], Cell.lstA p1 (nmL n), Cell.insA x2 0 [("row", .cls p2)], Cell.lstA p2 (nxL n)]⟩) (fun P' q => ?_) ?_
  · refine And.intro (met_c g1 (by decide)) ?_
    refine cells_d g1 ?_
    refine And.intro (met_c g2 (by decide)) ?_
    refine cells_d g2 ?_
    refine And.intro (szk 2) ?_
    exact q
  have h5 := tk_lo (b := b2) (m := 21) (by decide)
  have h6 := tk_hi (b := b2) (m := 21) (by decide)
  have k3 : Ok (nx b2 21) := k2.nx _
  refine consS_q (Inv n) (fun P' q => ?_) fun S' hS => fin_c hS nb fun c => ⟨rfl, rfl⟩
  refine call_ (take_c (by decide) (by decide) k2) ?_
  refine ladd ?_
  refine And.intro (show SmI (10 + tk b2 21) by unfold SmI; omega) ?_
  refine forW_ind (Inv n) _ ?_ (fun S hS => q S hS) _ ?_
  · intro d hd S hS nx' hnx
    obtain ⟨b, cs, x1, x2, i1, j1, i2, j2, ds, es, s0, s4, s9, s10, s11, s12, s13, ⟨ok, hw, h1, h2, h3, h4⟩, rfl⟩ := hS
    obtain ⟨t, ht, rfl⟩ := mem_range hd
    rw [Int.zero_add]
    refine asgW_i rfl ?_
    exact turn_c ok h1 h2 n0 nb (show t < 1000 by omega) h3 h4 hw hnx
  · exact ⟨nx b2 21, _, x1, x2, 1, 2, 3, 4, nmL n, nxL n, _, _, _, _, _, _, _, ⟨k3, hw.box0, l1, l2, nm_tx, nx_tx⟩, rfl⟩
end

def pp_c_Ring : Pa := gP "Ring"
def pp_c_ClashError : Pa := gP "ClashError"
def pp_c_InvalidSize : Pa := gP "InvalidSize"
def pp_a__law_box : Pa := gP "_law_box"
def pp_a_InvalidSize___init__ : Pa := mP (pp_c_InvalidSize) "__init__"
def pp_a_Ring___init__ : Pa := mP (pp_c_Ring) "__init__"
def pp_a__law_take : Pa := gP "_law_take"
def pp_a_Ring_cells : Pa := mP (pp_c_Ring) "cells"
def pp_a__law_far : Pa := gP "_law_far"
def pp_a__law_moved : Pa := gP "_law_moved"
def pp_a_Ring___len__ : Pa := mP (pp_c_Ring) "__len__"
def pp_a_Ring___getitem__ : Pa := mP (pp_c_Ring) "__getitem__"
def pp_a_Ring___setitem__ : Pa := mP (pp_c_Ring) "__setitem__"
def pp_a_moved_on : Pa := gP "moved_on"
def pp_a_Ring___lshift__ : Pa := mP (pp_c_Ring) "__lshift__"
def pp_a_Ring___rshift__ : Pa := mP (pp_c_Ring) "__rshift__"
def pp_a_Ring___neg__ : Pa := mP (pp_c_Ring) "__neg__"
def pp_a_Ring___eq__ : Pa := mP (pp_c_Ring) "__eq__"
def pp_a_Ring___ilshift__ : Pa := mP (pp_c_Ring) "__ilshift__"
def pp_a_Ring___irshift__ : Pa := mP (pp_c_Ring) "__irshift__"
def pp_a_law : Pa := gP "law"
def dd__law_box : DefX := ⟨pp_a__law_box, "_law_box", "_law_box", defArgs s__law_box, defBody s__law_box, defScope s__law_box, [], []⟩
def dd_InvalidSize___init__ : DefX := ⟨pp_a_InvalidSize___init__, "__init__", "InvalidSize.__init__", defArgs s_InvalidSize___init__, defBody s_InvalidSize___init__, defScope s_InvalidSize___init__, [], []⟩
def dd_Ring___init__ : DefX := ⟨pp_a_Ring___init__, "__init__", "Ring.__init__", defArgs s_Ring___init__, defBody s_Ring___init__, defScope s_Ring___init__, [], []⟩
def dd__law_take : DefX := ⟨pp_a__law_take, "_law_take", "_law_take", defArgs s__law_take, defBody s__law_take, defScope s__law_take, [], []⟩
def dd_Ring_cells : DefX := ⟨pp_a_Ring_cells, "cells", "Ring.cells", defArgs s_Ring_cells, defBody s_Ring_cells, defScope s_Ring_cells, [], []⟩
def dd__law_far : DefX := ⟨pp_a__law_far, "_law_far", "_law_far", defArgs s__law_far, defBody s__law_far, defScope s__law_far, [], []⟩
def dd__law_moved : DefX := ⟨pp_a__law_moved, "_law_moved", "_law_moved", defArgs s__law_moved, defBody s__law_moved, defScope s__law_moved, [], []⟩
def dd_Ring___len__ : DefX := ⟨pp_a_Ring___len__, "__len__", "Ring.__len__", defArgs s_Ring___len__, defBody s_Ring___len__, defScope s_Ring___len__, [], []⟩
def dd_Ring___getitem__ : DefX := ⟨pp_a_Ring___getitem__, "__getitem__", "Ring.__getitem__", defArgs s_Ring___getitem__, defBody s_Ring___getitem__, defScope s_Ring___getitem__, [], []⟩
def dd_Ring___setitem__ : DefX := ⟨pp_a_Ring___setitem__, "__setitem__", "Ring.__setitem__", defArgs s_Ring___setitem__, defBody s_Ring___setitem__, defScope s_Ring___setitem__, [], []⟩
def dd_moved_on : DefX := ⟨pp_a_moved_on, "moved_on", "moved_on", defArgs s_moved_on, defBody s_moved_on, defScope s_moved_on, [], []⟩
def dd_Ring___lshift__ : DefX := ⟨pp_a_Ring___lshift__, "__lshift__", "Ring.__lshift__", defArgs s_Ring___lshift__, defBody s_Ring___lshift__, defScope s_Ring___lshift__, [], []⟩
def dd_Ring___rshift__ : DefX := ⟨pp_a_Ring___rshift__, "__rshift__", "Ring.__rshift__", defArgs s_Ring___rshift__, defBody s_Ring___rshift__, defScope s_Ring___rshift__, [], []⟩
def dd_Ring___neg__ : DefX := ⟨pp_a_Ring___neg__, "__neg__", "Ring.__neg__", defArgs s_Ring___neg__, defBody s_Ring___neg__, defScope s_Ring___neg__, [], []⟩
def dd_Ring___eq__ : DefX := ⟨pp_a_Ring___eq__, "__eq__", "Ring.__eq__", defArgs s_Ring___eq__, defBody s_Ring___eq__, defScope s_Ring___eq__, [], []⟩
def dd_Ring___ilshift__ : DefX := ⟨pp_a_Ring___ilshift__, "__ilshift__", "Ring.__ilshift__", defArgs s_Ring___ilshift__, defBody s_Ring___ilshift__, defScope s_Ring___ilshift__, [], []⟩
def dd_Ring___irshift__ : DefX := ⟨pp_a_Ring___irshift__, "__irshift__", "Ring.__irshift__", defArgs s_Ring___irshift__, defBody s_Ring___irshift__, defScope s_Ring___irshift__, [], []⟩
def dd_law : DefX := ⟨pp_a_law, "law", "law", defArgs s_law, defBody s_law, defScope s_law, [], []⟩
def fnl : List DefX := ([dd__law_box, dd_InvalidSize___init__, dd_Ring___init__, dd__law_take, dd_Ring_cells, dd__law_far, dd__law_moved, dd_Ring___len__, dd_Ring___getitem__, dd_Ring___setitem__, dd_moved_on, dd_Ring___lshift__, dd_Ring___rshift__, dd_Ring___neg__, dd_Ring___eq__, dd_Ring___ilshift__, dd_Ring___irshift__, dd_law] : List DefX)
def fc_0 : List Pc := [
  ⟨fun K => PySem.W.nsIn K mainGlobals "Ring" = some (some (.ref (pp_c_Ring K))), fun K => inferInstance⟩,
  ⟨fun K => PySem.W.plainGet K (pp_c_Ring K) Str.empty = true, fun K => inferInstance⟩,
  ⟨fun K => PySem.W.hasDictIn K (pp_c_Ring K) = true, fun K => inferInstance⟩,
  ⟨fun K => PySem.W.plainOver K (pp_c_Ring K) = true, fun K => inferInstance⟩,
  ⟨fun K => PySem.W.findIn K (.ref (pp_c_Ring K)) "__setattr__" = some (some (.builtin "object.__setattr__")), fun K => inferInstance⟩,
  ⟨fun K => PySem.W.findIn K (.ref (pp_c_Ring K)) "__class__" = some (some (.builtin "object.__class__")), fun K => inferInstance⟩,
  ⟨fun K => PySem.W.specialIn K (.builtin "object.__class__") "__get__" = some (some (.builtin "getset_descriptor.__get__")), fun K => inferInstance⟩,
  ⟨fun K => PySem.W.takesIn K (.builtin "object.__class__") = some true, fun K => inferInstance⟩,
  ⟨fun K => PySem.W.mroIn K (pp_c_Ring K) (.type "object") = some true, fun K => inferInstance⟩,
  ⟨fun K => PySem.W.makesIn K (pp_c_Ring K) = true, fun K => inferInstance⟩,
  ⟨fun K => PySem.W.keepIn K (.ref (pp_c_Ring K)) = true, fun K => inferInstance⟩,
  ⟨fun K => PySem.W.findIn K (.ref (pp_c_Ring K)) "row" = some none, fun K => inferInstance⟩,
  ⟨fun K => PySem.W.nsIn K mainGlobals "ClashError" = some (some (.ref (pp_c_ClashError K))), fun K => inferInstance⟩,
  ⟨fun K => CIn K (pp_c_ClashError K), fun K => inferInstance⟩,
  ⟨fun K => PySem.W.subIn K (.ref (pp_c_ClashError K)) (.type "BaseException") = some true, fun K => inferInstance⟩,
  ⟨fun K => PySem.W.hasDictIn K (pp_c_ClashError K) = true, fun K => inferInstance⟩,
  ⟨fun K => PySem.W.nsIn K mainGlobals "InvalidSize" = some (some (.ref (pp_c_InvalidSize K))), fun K => inferInstance⟩,
  ⟨fun K => OexC K (pp_c_InvalidSize K), fun K => inferInstance⟩,
  ⟨fun K => ExcC K (pp_c_InvalidSize K), fun K => inferInstance⟩,
  ⟨fun K => XfC K (pp_c_InvalidSize K), fun K => inferInstance⟩,
  ⟨fun K => PySem.W.findIn K (.ref (pp_c_InvalidSize K)) "size" = some none, fun K => inferInstance⟩,
  ⟨fun K => PySem.W.nsIn K mainGlobals "int" = some none, fun K => inferInstance⟩,
  ⟨fun K => PySem.W.nsIn K mainGlobals "isinstance" = some none, fun K => inferInstance⟩,
  ⟨fun K => PySem.W.nsIn K mainGlobals "len" = some none, fun K => inferInstance⟩,
  ⟨fun K => PySem.W.nsIn K mainGlobals "list" = some none, fun K => inferInstance⟩]
def fc_1 : List Pc := [
  ⟨fun K => PySem.W.nsIn K mainGlobals "range" = some none, fun K => inferInstance⟩,
  ⟨fun K => PySem.W.nsIn K mainGlobals "str" = some none, fun K => inferInstance⟩,
  ⟨fun K => PySem.W.nsIn K mainGlobals "_law_box" = some (some (.ref (pp_a__law_box K))), fun K => inferInstance⟩,
  ⟨fun K => PySem.W.findIn K (.ref (pp_c_InvalidSize K)) "__init__" = some (some (.ref (pp_a_InvalidSize___init__ K))), fun K => inferInstance⟩,
  ⟨fun K => PySem.W.typeIn K (.ref (pp_a_InvalidSize___init__ K)) = some (.type "function"), fun K => inferInstance⟩,
  ⟨fun K => PySem.W.findIn K (.ref (pp_c_Ring K)) "__init__" = some (some (.ref (pp_a_Ring___init__ K))), fun K => inferInstance⟩,
  ⟨fun K => PySem.W.isFn K (.ref (pp_a_Ring___init__ K)) = true, fun K => inferInstance⟩,
  ⟨fun K => PySem.W.nsIn K mainGlobals "_law_take" = some (some (.ref (pp_a__law_take K))), fun K => inferInstance⟩,
  ⟨fun K => PySem.W.findIn K (.ref (pp_c_Ring K)) "cells" = some (some (.ref (pp_a_Ring_cells K))), fun K => inferInstance⟩,
  ⟨fun K => PySem.W.isFn K (.ref (pp_a_Ring_cells K)) = true, fun K => inferInstance⟩,
  ⟨fun K => PySem.W.nsIn K mainGlobals "_law_far" = some (some (.ref (pp_a__law_far K))), fun K => inferInstance⟩,
  ⟨fun K => PySem.W.nsIn K mainGlobals "_law_moved" = some (some (.ref (pp_a__law_moved K))), fun K => inferInstance⟩,
  ⟨fun K => PySem.W.findIn K (.ref (pp_c_Ring K)) "__len__" = some (some (.ref (pp_a_Ring___len__ K))), fun K => inferInstance⟩,
  ⟨fun K => PySem.W.isFn K (.ref (pp_a_Ring___len__ K)) = true, fun K => inferInstance⟩,
  ⟨fun K => PySem.W.findIn K (.ref (pp_c_Ring K)) "__getitem__" = some (some (.ref (pp_a_Ring___getitem__ K))), fun K => inferInstance⟩,
  ⟨fun K => PySem.W.isFn K (.ref (pp_a_Ring___getitem__ K)) = true, fun K => inferInstance⟩,
  ⟨fun K => PySem.W.findIn K (.ref (pp_c_Ring K)) "__setitem__" = some (some (.ref (pp_a_Ring___setitem__ K))), fun K => inferInstance⟩,
  ⟨fun K => PySem.W.isFn K (.ref (pp_a_Ring___setitem__ K)) = true, fun K => inferInstance⟩,
  ⟨fun K => PySem.W.nsIn K mainGlobals "moved_on" = some (some (.ref (pp_a_moved_on K))), fun K => inferInstance⟩,
  ⟨fun K => PySem.W.findIn K (.ref (pp_c_Ring K)) "__lshift__" = some (some (.ref (pp_a_Ring___lshift__ K))), fun K => inferInstance⟩,
  ⟨fun K => PySem.W.isFn K (.ref (pp_a_Ring___lshift__ K)) = true, fun K => inferInstance⟩,
  ⟨fun K => PySem.W.findIn K (.ref (pp_c_Ring K)) "__rshift__" = some (some (.ref (pp_a_Ring___rshift__ K))), fun K => inferInstance⟩,
  ⟨fun K => PySem.W.isFn K (.ref (pp_a_Ring___rshift__ K)) = true, fun K => inferInstance⟩,
  ⟨fun K => PySem.W.findIn K (.ref (pp_c_Ring K)) "__neg__" = some (some (.ref (pp_a_Ring___neg__ K))), fun K => inferInstance⟩,
  ⟨fun K => PySem.W.isFn K (.ref (pp_a_Ring___neg__ K)) = true, fun K => inferInstance⟩]
def fc_2 : List Pc := [
  ⟨fun K => PySem.W.findIn K (.ref (pp_c_Ring K)) "__eq__" = some (some (.ref (pp_a_Ring___eq__ K))), fun K => inferInstance⟩,
  ⟨fun K => PySem.W.isFn K (.ref (pp_a_Ring___eq__ K)) = true, fun K => inferInstance⟩,
  ⟨fun K => PySem.W.findIn K (.ref (pp_c_Ring K)) "__ilshift__" = some (some (.ref (pp_a_Ring___ilshift__ K))), fun K => inferInstance⟩,
  ⟨fun K => PySem.W.isFn K (.ref (pp_a_Ring___ilshift__ K)) = true, fun K => inferInstance⟩,
  ⟨fun K => PySem.W.findIn K (.ref (pp_c_Ring K)) "__irshift__" = some (some (.ref (pp_a_Ring___irshift__ K))), fun K => inferInstance⟩,
  ⟨fun K => PySem.W.isFn K (.ref (pp_a_Ring___irshift__ K)) = true, fun K => inferInstance⟩,
  ⟨fun K => PySem.W.nsIn K mainGlobals "law" = some (some (.ref (pp_a_law K))), fun K => inferInstance⟩,
  ⟨fun K => PySem.W.kitOne K (.type "int") (.ref (pp_c_Ring K)) = some false, fun K => inferInstance⟩,
  ⟨fun K => PySem.W.kitOne K (.type "bool") (.ref (pp_c_Ring K)) = some false, fun K => inferInstance⟩,
  ⟨fun K => PySem.W.kitOne K (.type "str") (.ref (pp_c_Ring K)) = some false, fun K => inferInstance⟩,
  ⟨fun K => PySem.W.kitOne K (.type "tuple") (.ref (pp_c_Ring K)) = some false, fun K => inferInstance⟩,
  ⟨fun K => PySem.W.kitOne K (.type "list") (.ref (pp_c_Ring K)) = some false, fun K => inferInstance⟩,
  ⟨fun K => PySem.W.kitOne K (.type "NoneType") (.ref (pp_c_Ring K)) = some false, fun K => inferInstance⟩,
  ⟨fun K => OpC K (pp_c_Ring K) .LShift (pp_a_Ring___lshift__ K), fun K => inferInstance⟩,
  ⟨fun K => OpC K (pp_c_Ring K) .RShift (pp_a_Ring___rshift__ K), fun K => inferInstance⟩,
  ⟨fun K => InpC K (pp_c_Ring K) .LShift (pp_a_Ring___ilshift__ K), fun K => inferInstance⟩,
  ⟨fun K => InpC K (pp_c_Ring K) .RShift (pp_a_Ring___irshift__ K), fun K => inferInstance⟩,
  ⟨fun K => PySem.W.noSeq K (pp_c_Ring K) = true, fun K => inferInstance⟩,
  ⟨fun K => PySem.W.fnIn K (pp_a_Ring___getitem__ K) = true, fun K => inferInstance⟩]
def fcl : List Pc := fc_0 ++ fc_1 ++ fc_2
def tab (c_Ring : Addr) (c_InvalidSize : Addr) : Tab := fun n => match n with | 0 => some (c_Ring, (["row"] : List Str)) | 2 => some (c_InvalidSize, (["size"] : List Str)) | _ => none
set_option maxHeartbeats 0 in
theorem all_mk {P : Program} {w : World} {K : PySem.W.Frag} {h : Heap} {mg : Str → Option Value} {fa : Addr} (X : K.In h) (G : h.Ns mainGlobals mg) (hfa : mg "law" = some (.ref fa)) (c : SaysX fcl fnl K) : ∃ fd : FuncData, (∀ (s : Shared) (v : Value), BindsTo s fd ⟨[v], []⟩ [("_law_script", v)]) ∧ ∀ base : Heap, K.In base → base.Ns mainGlobals mg → FnOk P w K mg base CX0 6 fa fd ["_law_script"] (spL K) := by
  have aC_Ring : PySem.W.nsIn K mainGlobals "Ring" = some (some (.ref (pp_c_Ring K))) := c.fact 0
  have pg_Ring : PySem.W.plainGet K (pp_c_Ring K) Str.empty = true := c.fact 1
  have hd_Ring : PySem.W.hasDictIn K (pp_c_Ring K) = true := c.fact 2
  have po_Ring : PySem.W.plainOver K (pp_c_Ring K) = true := c.fact 3
  have sa_Ring : PySem.W.findIn K (.ref (pp_c_Ring K)) "__setattr__" = some (some (.builtin "object.__setattr__")) := c.fact 4
  have ca_Ring : PySem.W.findIn K (.ref (pp_c_Ring K)) "__class__" = some (some (.builtin "object.__class__")) := c.fact 5
  have cn_Ring : PySem.W.specialIn K (.builtin "object.__class__") "__get__" = some (some (.builtin "getset_descriptor.__get__")) := c.fact 6
  have ct_Ring : PySem.W.takesIn K (.builtin "object.__class__") = some true := c.fact 7
  have cm_Ring : PySem.W.mroIn K (pp_c_Ring K) (.type "object") = some true := c.fact 8
  have mk_Ring : PySem.W.makesIn K (pp_c_Ring K) = true := c.fact 9
  have kc_Ring : PySem.W.keepIn K (.ref (pp_c_Ring K)) = true := c.fact 10
  have no_Ring_row : PySem.W.findIn K (.ref (pp_c_Ring K)) "row" = some none := c.fact 11
  have aC_ClashError : PySem.W.nsIn K mainGlobals "ClashError" = some (some (.ref (pp_c_ClashError K))) := c.fact 12
  have iX_ClashError : CIn K (pp_c_ClashError K) := c.fact 13
  have bs_ClashError : PySem.W.subIn K (.ref (pp_c_ClashError K)) (.type "BaseException") = some true := c.fact 14
  have hd_ClashError : PySem.W.hasDictIn K (pp_c_ClashError K) = true := c.fact 15
  have aC_InvalidSize : PySem.W.nsIn K mainGlobals "InvalidSize" = some (some (.ref (pp_c_InvalidSize K))) := c.fact 16
  have oX_InvalidSize : OexC K (pp_c_InvalidSize K) := c.fact 17
  have xX_InvalidSize : ExcC K (pp_c_InvalidSize K) := c.fact 18
  have fX_InvalidSize : XfC K (pp_c_InvalidSize K) := c.fact 19
  have no_InvalidSize_size : PySem.W.findIn K (.ref (pp_c_InvalidSize K)) "size" = some none := c.fact 20
  have z_int : PySem.W.nsIn K mainGlobals "int" = some none := c.fact 21
  have z_isinstance : PySem.W.nsIn K mainGlobals "isinstance" = some none := c.fact 22
  have z_len : PySem.W.nsIn K mainGlobals "len" = some none := c.fact 23
  have z_list : PySem.W.nsIn K mainGlobals "list" = some none := c.fact 24
  have z_range : PySem.W.nsIn K mainGlobals "range" = some none := c.fact 25
  have z_str : PySem.W.nsIn K mainGlobals "str" = some none := c.fact 26
  have at__law_box : PySem.W.nsIn K mainGlobals "_law_box" = some (some (.ref (pp_a__law_box K))) := c.fact 27
  have at_InvalidSize___init__ : PySem.W.findIn K (.ref (pp_c_InvalidSize K)) "__init__" = some (some (.ref (pp_a_InvalidSize___init__ K))) := c.fact 28
  have ty_InvalidSize___init__ : PySem.W.typeIn K (.ref (pp_a_InvalidSize___init__ K)) = some (.type "function") := c.fact 29
  have at_Ring___init__ : PySem.W.findIn K (.ref (pp_c_Ring K)) "__init__" = some (some (.ref (pp_a_Ring___init__ K))) := c.fact 30
  have fn_Ring___init__ : PySem.W.isFn K (.ref (pp_a_Ring___init__ K)) = true := c.fact 31
  have at__law_take : PySem.W.nsIn K mainGlobals "_law_take" = some (some (.ref (pp_a__law_take K))) := c.fact 32
  have at_Ring_cells : PySem.W.findIn K (.ref (pp_c_Ring K)) "cells" = some (some (.ref (pp_a_Ring_cells K))) := c.fact 33
  have fn_Ring_cells : PySem.W.isFn K (.ref (pp_a_Ring_cells K)) = true := c.fact 34
  have at__law_far : PySem.W.nsIn K mainGlobals "_law_far" = some (some (.ref (pp_a__law_far K))) := c.fact 35
  have at__law_moved : PySem.W.nsIn K mainGlobals "_law_moved" = some (some (.ref (pp_a__law_moved K))) := c.fact 36
  have at_Ring___len__ : PySem.W.findIn K (.ref (pp_c_Ring K)) "__len__" = some (some (.ref (pp_a_Ring___len__ K))) := c.fact 37
  have fn_Ring___len__ : PySem.W.isFn K (.ref (pp_a_Ring___len__ K)) = true := c.fact 38
  have at_Ring___getitem__ : PySem.W.findIn K (.ref (pp_c_Ring K)) "__getitem__" = some (some (.ref (pp_a_Ring___getitem__ K))) := c.fact 39
  have fn_Ring___getitem__ : PySem.W.isFn K (.ref (pp_a_Ring___getitem__ K)) = true := c.fact 40
  have at_Ring___setitem__ : PySem.W.findIn K (.ref (pp_c_Ring K)) "__setitem__" = some (some (.ref (pp_a_Ring___setitem__ K))) := c.fact 41
  have fn_Ring___setitem__ : PySem.W.isFn K (.ref (pp_a_Ring___setitem__ K)) = true := c.fact 42
  have at_moved_on : PySem.W.nsIn K mainGlobals "moved_on" = some (some (.ref (pp_a_moved_on K))) := c.fact 43
  have at_Ring___lshift__ : PySem.W.findIn K (.ref (pp_c_Ring K)) "__lshift__" = some (some (.ref (pp_a_Ring___lshift__ K))) := c.fact 44
  have fn_Ring___lshift__ : PySem.W.isFn K (.ref (pp_a_Ring___lshift__ K)) = true := c.fact 45
  have at_Ring___rshift__ : PySem.W.findIn K (.ref (pp_c_Ring K)) "__rshift__" = some (some (.ref (pp_a_Ring___rshift__ K))) := c.fact 46
  have fn_Ring___rshift__ : PySem.W.isFn K (.ref (pp_a_Ring___rshift__ K)) = true := c.fact 47
  have at_Ring___neg__ : PySem.W.findIn K (.ref (pp_c_Ring K)) "__neg__" = some (some (.ref (pp_a_Ring___neg__ K))) := c.fact 48
  have fn_Ring___neg__ : PySem.W.isFn K (.ref (pp_a_Ring___neg__ K)) = true := c.fact 49
  have at_Ring___eq__ : PySem.W.findIn K (.ref (pp_c_Ring K)) "__eq__" = some (some (.ref (pp_a_Ring___eq__ K))) := c.fact 50
  have fn_Ring___eq__ : PySem.W.isFn K (.ref (pp_a_Ring___eq__ K)) = true := c.fact 51
  have at_Ring___ilshift__ : PySem.W.findIn K (.ref (pp_c_Ring K)) "__ilshift__" = some (some (.ref (pp_a_Ring___ilshift__ K))) := c.fact 52
  have fn_Ring___ilshift__ : PySem.W.isFn K (.ref (pp_a_Ring___ilshift__ K)) = true := c.fact 53
  have at_Ring___irshift__ : PySem.W.findIn K (.ref (pp_c_Ring K)) "__irshift__" = some (some (.ref (pp_a_Ring___irshift__ K))) := c.fact 54
  have fn_Ring___irshift__ : PySem.W.isFn K (.ref (pp_a_Ring___irshift__ K)) = true := c.fact 55
  have at_law : PySem.W.nsIn K mainGlobals "law" = some (some (.ref (pp_a_law K))) := c.fact 56
  have kt_int_Ring : PySem.W.kitOne K (.type "int") (.ref (pp_c_Ring K)) = some false := c.fact 57
  have kt_bool_Ring : PySem.W.kitOne K (.type "bool") (.ref (pp_c_Ring K)) = some false := c.fact 58
  have kt_str_Ring : PySem.W.kitOne K (.type "str") (.ref (pp_c_Ring K)) = some false := c.fact 59
  have kt_tuple_Ring : PySem.W.kitOne K (.type "tuple") (.ref (pp_c_Ring K)) = some false := c.fact 60
  have kt_list_Ring : PySem.W.kitOne K (.type "list") (.ref (pp_c_Ring K)) = some false := c.fact 61
  have kt_NoneType_Ring : PySem.W.kitOne K (.type "NoneType") (.ref (pp_c_Ring K)) = some false := c.fact 62
  have O_lshift : OpC K (pp_c_Ring K) .LShift (pp_a_Ring___lshift__ K) := c.fact 63
  have O_rshift : OpC K (pp_c_Ring K) .RShift (pp_a_Ring___rshift__ K) := c.fact 64
  have I_lshift : InpC K (pp_c_Ring K) .LShift (pp_a_Ring___ilshift__ K) := c.fact 65
  have I_rshift : InpC K (pp_c_Ring K) .RShift (pp_a_Ring___irshift__ K) := c.fact 66
  have NS_Ring : PySem.W.noSeq K (pp_c_Ring K) = true := c.fact 67
  have FG_Ring : PySem.W.fnIn K (pp_a_Ring___getitem__ K) = true := c.fact 68
  obtain ⟨fd__law_box, F0__law_box⟩ := c.def_ 0 (d := dd__law_box)
  obtain ⟨fd_InvalidSize___init__, F0_InvalidSize___init__⟩ := c.def_ 1 (d := dd_InvalidSize___init__)
  obtain ⟨fd_Ring___init__, F0_Ring___init__⟩ := c.def_ 2 (d := dd_Ring___init__)
  obtain ⟨fd__law_take, F0__law_take⟩ := c.def_ 3 (d := dd__law_take)
  obtain ⟨fd_Ring_cells, F0_Ring_cells⟩ := c.def_ 4 (d := dd_Ring_cells)
  obtain ⟨fd__law_far, F0__law_far⟩ := c.def_ 5 (d := dd__law_far)
  obtain ⟨fd__law_moved, F0__law_moved⟩ := c.def_ 6 (d := dd__law_moved)
  obtain ⟨fd_Ring___len__, F0_Ring___len__⟩ := c.def_ 7 (d := dd_Ring___len__)
  obtain ⟨fd_Ring___getitem__, F0_Ring___getitem__⟩ := c.def_ 8 (d := dd_Ring___getitem__)
  obtain ⟨fd_Ring___setitem__, F0_Ring___setitem__⟩ := c.def_ 9 (d := dd_Ring___setitem__)
  obtain ⟨fd_moved_on, F0_moved_on⟩ := c.def_ 10 (d := dd_moved_on)
  obtain ⟨fd_Ring___lshift__, F0_Ring___lshift__⟩ := c.def_ 11 (d := dd_Ring___lshift__)
  obtain ⟨fd_Ring___rshift__, F0_Ring___rshift__⟩ := c.def_ 12 (d := dd_Ring___rshift__)
  obtain ⟨fd_Ring___neg__, F0_Ring___neg__⟩ := c.def_ 13 (d := dd_Ring___neg__)
  obtain ⟨fd_Ring___eq__, F0_Ring___eq__⟩ := c.def_ 14 (d := dd_Ring___eq__)
  obtain ⟨fd_Ring___ilshift__, F0_Ring___ilshift__⟩ := c.def_ 15 (d := dd_Ring___ilshift__)
  obtain ⟨fd_Ring___irshift__, F0_Ring___irshift__⟩ := c.def_ 16 (d := dd_Ring___irshift__)
  obtain ⟨fd_law, F0_law⟩ := c.def_ 17 (d := dd_law)
  have e : (pp_a_law K) = fa := by
    have e := (PySem.W.mg_of X G at_law).symm.trans hfa
    injection e with e
    injection e
  subst e
  let t : Tx (tab (pp_c_Ring K) (pp_c_InvalidSize K)) K mg := {
    c_Ring := (pp_c_Ring K),
    T_Ring := rfl,
    cl_Ring := ⟨pg_Ring, hd_Ring, po_Ring, sa_Ring⟩,
    i_Ring := ⟨⟨pg_Ring, hd_Ring, po_Ring, sa_Ring⟩, ca_Ring, cn_Ring, ct_Ring, cm_Ring⟩,
    m_Ring := PySem.W.mg_of X G aC_Ring,
    no_Ring_row := no_Ring_row,
    c_ClashError := (pp_c_ClashError K),
    m_ClashError := PySem.W.mg_of X G aC_ClashError,
    ci_ClashError := iX_ClashError,
    bs_ClashError := bs_ClashError,
    hd_ClashError := hd_ClashError,
    c_InvalidSize := (pp_c_InvalidSize K),
    T_InvalidSize := rfl,
    m_InvalidSize := PySem.W.mg_of X G aC_InvalidSize,
    o_InvalidSize := oX_InvalidSize,
    x_InvalidSize := xX_InvalidSize,
    xf_InvalidSize := fX_InvalidSize,
    no_InvalidSize_size := no_InvalidSize_size,
    z_int := PySem.W.mg_none_of X G z_int,
    z_isinstance := PySem.W.mg_none_of X G z_isinstance,
    z_len := PySem.W.mg_none_of X G z_len,
    z_list := PySem.W.mg_none_of X G z_list,
    z_range := PySem.W.mg_none_of X G z_range,
    z_str := PySem.W.mg_none_of X G z_str,
    a__law_box := (pp_a__law_box K),
    fd__law_box := fd__law_box,
    F__law_box := toFun (st := s__law_box) F0__law_box,
    b__law_box := (toFun (st := s__law_box) F0__law_box).binds (ps := ["_law_script", "_law_k"]) fun _ _ _ _ _ _ us hl => match us, hl with | [_, _], _ => rfl,
    m__law_box := PySem.W.mg_of X G at__law_box,
    a_InvalidSize___init__ := (pp_a_InvalidSize___init__ K),
    fd_InvalidSize___init__ := fd_InvalidSize___init__,
    F_InvalidSize___init__ := toFun (st := s_InvalidSize___init__) F0_InvalidSize___init__,
    b_InvalidSize___init__ := (toFun (st := s_InvalidSize___init__) F0_InvalidSize___init__).binds (ps := ["self", "size"]) fun _ _ _ _ _ _ us hl => match us, hl with | [_, _], _ => rfl,
    at_InvalidSize___init__ := at_InvalidSize___init__,
    ty_InvalidSize___init__ := ty_InvalidSize___init__,
    a_Ring___init__ := (pp_a_Ring___init__ K),
    fd_Ring___init__ := fd_Ring___init__,
    F_Ring___init__ := toFun (st := s_Ring___init__) F0_Ring___init__,
    b_Ring___init__ := (toFun (st := s_Ring___init__) F0_Ring___init__).binds (ps := ["self", "values"]) fun _ _ _ _ _ _ us hl => match us, hl with | [_, _], _ => rfl,
    M_Ring___init__ := ⟨at_Ring___init__, fn_Ring___init__, F0_Ring___init__.kp⟩,
    K_Ring := ⟨mk_Ring, at_Ring___init__, fn_Ring___init__, kc_Ring⟩,
    a__law_take := (pp_a__law_take K),
    fd__law_take := fd__law_take,
    F__law_take := toFun (st := s__law_take) F0__law_take,
    b__law_take := (toFun (st := s__law_take) F0__law_take).binds (ps := ["_law_box_here", "_law_many"]) fun _ _ _ _ _ _ us hl => match us, hl with | [_, _], _ => rfl,
    m__law_take := PySem.W.mg_of X G at__law_take,
    a_Ring_cells := (pp_a_Ring_cells K),
    fd_Ring_cells := fd_Ring_cells,
    F_Ring_cells := toFun (st := s_Ring_cells) F0_Ring_cells,
    b_Ring_cells := (toFun (st := s_Ring_cells) F0_Ring_cells).binds (ps := ["self"]) fun _ _ _ _ _ _ us hl => match us, hl with | [_], _ => rfl,
    M_Ring_cells := ⟨at_Ring_cells, fn_Ring_cells, F0_Ring_cells.kp⟩,
    a__law_far := (pp_a__law_far K),
    fd__law_far := fd__law_far,
    F__law_far := toFun (st := s__law_far) F0__law_far,
    b__law_far := (toFun (st := s__law_far) F0__law_far).binds (ps := ["_law_box_here", "_law_n"]) fun _ _ _ _ _ _ us hl => match us, hl with | [_, _], _ => rfl,
    m__law_far := PySem.W.mg_of X G at__law_far,
    a__law_moved := (pp_a__law_moved K),
    fd__law_moved := fd__law_moved,
    F__law_moved := toFun (st := s__law_moved) F0__law_moved,
    b__law_moved := (toFun (st := s__law_moved) F0__law_moved).binds (ps := ["_law_cells", "_law_k"]) fun _ _ _ _ _ _ us hl => match us, hl with | [_, _], _ => rfl,
    m__law_moved := PySem.W.mg_of X G at__law_moved,
    a_Ring___len__ := (pp_a_Ring___len__ K),
    fd_Ring___len__ := fd_Ring___len__,
    F_Ring___len__ := toFun (st := s_Ring___len__) F0_Ring___len__,
    b_Ring___len__ := (toFun (st := s_Ring___len__) F0_Ring___len__).binds (ps := ["self"]) fun _ _ _ _ _ _ us hl => match us, hl with | [_], _ => rfl,
    M_Ring___len__ := ⟨at_Ring___len__, fn_Ring___len__, F0_Ring___len__.kp⟩,
    a_Ring___getitem__ := (pp_a_Ring___getitem__ K),
    fd_Ring___getitem__ := fd_Ring___getitem__,
    F_Ring___getitem__ := toFun (st := s_Ring___getitem__) F0_Ring___getitem__,
    b_Ring___getitem__ := (toFun (st := s_Ring___getitem__) F0_Ring___getitem__).binds (ps := ["self", "k"]) fun _ _ _ _ _ _ us hl => match us, hl with | [_, _], _ => rfl,
    M_Ring___getitem__ := ⟨at_Ring___getitem__, fn_Ring___getitem__, F0_Ring___getitem__.kp⟩,
    a_Ring___setitem__ := (pp_a_Ring___setitem__ K),
    fd_Ring___setitem__ := fd_Ring___setitem__,
    F_Ring___setitem__ := toFun (st := s_Ring___setitem__) F0_Ring___setitem__,
    b_Ring___setitem__ := (toFun (st := s_Ring___setitem__) F0_Ring___setitem__).binds (ps := ["self", "k", "worth"]) fun _ _ _ _ _ _ us hl => match us, hl with | [_, _, _], _ => rfl,
    M_Ring___setitem__ := ⟨at_Ring___setitem__, fn_Ring___setitem__, F0_Ring___setitem__.kp⟩,
    a_moved_on := (pp_a_moved_on K),
    fd_moved_on := fd_moved_on,
    F_moved_on := toFun (st := s_moved_on) F0_moved_on,
    b_moved_on := (toFun (st := s_moved_on) F0_moved_on).binds (ps := ["cells", "k"]) fun _ _ _ _ _ _ us hl => match us, hl with | [_, _], _ => rfl,
    m_moved_on := PySem.W.mg_of X G at_moved_on,
    a_Ring___lshift__ := (pp_a_Ring___lshift__ K),
    fd_Ring___lshift__ := fd_Ring___lshift__,
    F_Ring___lshift__ := toFun (st := s_Ring___lshift__) F0_Ring___lshift__,
    b_Ring___lshift__ := (toFun (st := s_Ring___lshift__) F0_Ring___lshift__).binds (ps := ["self", "k"]) fun _ _ _ _ _ _ us hl => match us, hl with | [_, _], _ => rfl,
    M_Ring___lshift__ := ⟨at_Ring___lshift__, fn_Ring___lshift__, F0_Ring___lshift__.kp⟩,
    a_Ring___rshift__ := (pp_a_Ring___rshift__ K),
    fd_Ring___rshift__ := fd_Ring___rshift__,
    F_Ring___rshift__ := toFun (st := s_Ring___rshift__) F0_Ring___rshift__,
    b_Ring___rshift__ := (toFun (st := s_Ring___rshift__) F0_Ring___rshift__).binds (ps := ["self", "k"]) fun _ _ _ _ _ _ us hl => match us, hl with | [_, _], _ => rfl,
    M_Ring___rshift__ := ⟨at_Ring___rshift__, fn_Ring___rshift__, F0_Ring___rshift__.kp⟩,
    a_Ring___neg__ := (pp_a_Ring___neg__ K),
    fd_Ring___neg__ := fd_Ring___neg__,
    F_Ring___neg__ := toFun (st := s_Ring___neg__) F0_Ring___neg__,
    b_Ring___neg__ := (toFun (st := s_Ring___neg__) F0_Ring___neg__).binds (ps := ["self"]) fun _ _ _ _ _ _ us hl => match us, hl with | [_], _ => rfl,
    M_Ring___neg__ := ⟨at_Ring___neg__, fn_Ring___neg__, F0_Ring___neg__.kp⟩,
    a_Ring___eq__ := (pp_a_Ring___eq__ K),
    fd_Ring___eq__ := fd_Ring___eq__,
    F_Ring___eq__ := toFun (st := s_Ring___eq__) F0_Ring___eq__,
    b_Ring___eq__ := (toFun (st := s_Ring___eq__) F0_Ring___eq__).binds (ps := ["self", "other"]) fun _ _ _ _ _ _ us hl => match us, hl with | [_, _], _ => rfl,
    M_Ring___eq__ := ⟨at_Ring___eq__, fn_Ring___eq__, F0_Ring___eq__.kp⟩,
    a_Ring___ilshift__ := (pp_a_Ring___ilshift__ K),
    fd_Ring___ilshift__ := fd_Ring___ilshift__,
    F_Ring___ilshift__ := toFun (st := s_Ring___ilshift__) F0_Ring___ilshift__,
    b_Ring___ilshift__ := (toFun (st := s_Ring___ilshift__) F0_Ring___ilshift__).binds (ps := ["self", "k"]) fun _ _ _ _ _ _ us hl => match us, hl with | [_, _], _ => rfl,
    M_Ring___ilshift__ := ⟨at_Ring___ilshift__, fn_Ring___ilshift__, F0_Ring___ilshift__.kp⟩,
    a_Ring___irshift__ := (pp_a_Ring___irshift__ K),
    fd_Ring___irshift__ := fd_Ring___irshift__,
    F_Ring___irshift__ := toFun (st := s_Ring___irshift__) F0_Ring___irshift__,
    b_Ring___irshift__ := (toFun (st := s_Ring___irshift__) F0_Ring___irshift__).binds (ps := ["self", "k"]) fun _ _ _ _ _ _ us hl => match us, hl with | [_, _], _ => rfl,
    M_Ring___irshift__ := ⟨at_Ring___irshift__, fn_Ring___irshift__, F0_Ring___irshift__.kp⟩,
    a_law := (pp_a_law K),
    fd_law := fd_law,
    F_law := toFun (st := s_law) F0_law,
    b_law := (toFun (st := s_law) F0_law).binds (ps := ["_law_script"]) fun _ _ _ _ _ _ us hl => match us, hl with | [_], _ => rfl,
    m_law := PySem.W.mg_of X G at_law,
    kt_int_Ring := kt_int_Ring,
    kt_bool_Ring := kt_bool_Ring,
    kt_str_Ring := kt_str_Ring,
    kt_tuple_Ring := kt_tuple_Ring,
    kt_list_Ring := kt_list_Ring,
    kt_NoneType_Ring := kt_NoneType_Ring,
    O_lshift := O_lshift,
    O_rshift := O_rshift,
    I_lshift := I_lshift,
    I_rshift := I_rshift,
    NS_Ring := NS_Ring,
    FG_Ring := FG_Ring }
  exact ⟨fd_law, fun s v => FunD.bindsA (ps := ["_law_script"]) F0_law (fun _ _ _ _ _ _ us hl => match us, hl with | [_], _ => rfl) s [v] rfl, fun base _ _ => (Tx.ok_law t).imp fun vs H Q E q => spL_to (T := (tab (pp_c_Ring K) (pp_c_InvalidSize K))) law_of q⟩
end K
namespace KH
open PySem PySem.W PySem.Calls PyProof.Rows
abbrev R : OpenRow := OpenLaw.row PySem.Challenge.rw_clashcounts_k42_rings_shifted_in_place
abbrev qv : Program := view R.prog [11]
def nms : List PySem.Str := (["ClashError", "InvalidSize", "moved_on", "Ring", "_law_box", "_law_take", "_law_far", "_law_moved"] : List PySem.Str)
set_option maxHeartbeats 0 in
theorem run_false0 (w : World) : Dl.Run1 R 100000 (fun s => HandSHeadRun.looksF R.prog (PySem.W.boot_heap (w.withFollow "special-get-raises" false).params) s.abs) true (w.withFollow "special-get-raises" false) := by
  intro os
  kernel_rfl
set_option maxHeartbeats 0 in
theorem run_false1 (w : World) : Dl.Run1 R 100000 (fun s => HandSHeadRun.seenQ qv nms (importedModules R.prog.main.body) (fun s => PySem.W.xlAt qv [] s && PySem.W.recOk R.toRowW.records s) s.abs) (PySem.W.openGood qv nms) (w.withFollow "special-get-raises" false) := by
  intro os
  kernel_rfl
set_option maxHeartbeats 0 in
theorem run_false2 (w : World) : Dl.Run1 R 100000 (Dl.obX 6 K.fcl K.fnl) ((Dl.hookX 6 K.fcl K.fnl).val (w.withFollow "special-get-raises" false)) (w.withFollow "special-get-raises" false) := by
  intro os
  kernel_rfl
theorem run_false (w : World) : HandSHeadRun.RunEq R qv (Dl.hookX 6 K.fcl K.fnl) (Dl.obX 6 K.fcl K.fnl) 100000 nms (w.withFollow "special-get-raises" false) := Dl.run3 (run_false0 w) (run_false1 w) (run_false2 w)
set_option maxHeartbeats 0 in
theorem run_true0 (w : World) : Dl.Run1 R 100000 (fun s => HandSHeadRun.looksF R.prog (PySem.W.boot_heap (w.withFollow "special-get-raises" true).params) s.abs) true (w.withFollow "special-get-raises" true) := by
  intro os
  kernel_rfl
set_option maxHeartbeats 0 in
theorem run_true1 (w : World) : Dl.Run1 R 100000 (fun s => HandSHeadRun.seenQ qv nms (importedModules R.prog.main.body) (fun s => PySem.W.xlAt qv [] s && PySem.W.recOk R.toRowW.records s) s.abs) (PySem.W.openGood qv nms) (w.withFollow "special-get-raises" true) := by
  intro os
  kernel_rfl
set_option maxHeartbeats 0 in
theorem run_true2 (w : World) : Dl.Run1 R 100000 (Dl.obX 6 K.fcl K.fnl) ((Dl.hookX 6 K.fcl K.fnl).val (w.withFollow "special-get-raises" true)) (w.withFollow "special-get-raises" true) := by
  intro os
  kernel_rfl
theorem run_true (w : World) : HandSHeadRun.RunEq R qv (Dl.hookX 6 K.fcl K.fnl) (Dl.obX 6 K.fcl K.fnl) 100000 nms (w.withFollow "special-get-raises" true) := Dl.run3 (run_true0 w) (run_true1 w) (run_true2 w)
theorem run (w : World) : HandSHeadRun.RunEq R qv (Dl.hookX 6 K.fcl K.fnl) (Dl.obX 6 K.fcl K.fnl) 100000 nms w := byRow2 "special-get-raises" (P := fun w => HandSHeadRun.RunEq R qv (Dl.hookX 6 K.fcl K.fnl) (Dl.obX 6 K.fcl K.fnl) 100000 nms w) run_false run_true w
end KH
open PySem PySem.W PySem.Calls PyProof.Rows in
set_option maxRecDepth 100000 in
set_option maxHeartbeats 0 in
theorem PySem.Challenge.cw_clashcounts_k42_rings_shifted_in_place_holds : PySem.Challenge.rw_clashcounts_k42_rings_shifted_in_place.Holds := by
  w_on; o_law
  refine HandSHeadRun.head_any (r := OpenLaw.row PySem.Challenge.rw_clashcounts_k42_rings_shifted_in_place) (q := KH.qv) (H := Dl.hookX 6 K.fcl K.fnl) (ob := Dl.obX 6 K.fcl K.fnl) (M := 100000) (loose := KH.nms) (d := HandSHeadRun.topDef (OpenLaw.row PySem.Challenge.rw_clashcounts_k42_rings_shifted_in_place).prog 11) (kwd := []) (Dl.obX_eq 6 K.fcl K.fnl) (by kernel_rfl) (fun s => by kernel_rfl) KH.run (by kernel_rfl) (by kernel_rfl) (by kernel_rfl) (by rfl) (by first | assumption | decide +kernel) (by decide +kernel) ⟨rfl, rfl, rfl, rfl, rfl, by decide +kernel⟩ ?hw ?hc
  case hw => w_witness2
  case hc =>
    refine Dl.walk_xB (l := PySem.Challenge.rw_clashcounts_k42_rings_shifted_in_place) (n := 63) (k := 6) (x := "_law_script") rfl (by decide) (by kernel_rfl) ⟨rfl, by decide, by decide⟩ ?F (by decide)
    intro w mg fa h Y G hmg0
    obtain ⟨K, KX, c⟩ := Y
    have hmg : mg ("law" : PySem.Str) = some (.ref fa) := by
      have e : (HandSHeadRun.topDef (OpenLaw.row PySem.Challenge.rw_clashcounts_k42_rings_shifted_in_place).prog 11).name = ("law" : PySem.Str) := by kernel_rfl
      rw [← e]
      exact hmg0
    obtain ⟨fd, hb, hF⟩ := _root_.K.all_mk (P := (PySem.Challenge.rw_clashcounts_k42_rings_shifted_in_place).prog) (w := w) KX G hmg c
    exact ⟨K, fd, KX, hb, hF⟩
