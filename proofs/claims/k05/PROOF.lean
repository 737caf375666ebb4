import PyProof.Rows.All
import Wide.All
import OpenK.AllK
import Wide.FinOn
import HandS.ForMost
import HandS.Wide
import HandS.EndBits
import HandS.Zip
import HandS.IsInst
import HandS.Defaults
import HandS.MakeKwOnly
import HandS.Property
import HandS.OwnEq
import HandS.Lambda
import HandS.Exc
import HandS.WordsExc
import HandS.TupAny
import HandS.Flow
import HandS.Style
import KE.KOpsOwn
import KE.GoesEnum
import HandS.NoneIn
import HandS.ExcInit
import HandS.ExcIs
import HandS.ExcField
import HandS.TryMany
import HandS.ExcOwn
import HandS.Text
import PyProof.StrOps2
import HandS.Iter
import HandS.TupMul
import HandS.RaiseMore
import KE.GoesMore
import HandS.TupLe
import HandS.More
import OpenK.KMeth
import OpenK.KOps
import KE.KCallOwn
import HandS.Conv
import HandS.MakeKw
import PyProof.Rows.Range3
import HandS.Dict
import HandS.Small
import HandS.DictComp
import HandS.SortInts
import HandS.ListItems
import HandS.WordsDict
import HandS.Star
import HandS.EndTab
import HandS.NestedK
import KE.KNestM
import HandS.StrMore
import HandS.FStr
import HandS.ReplaceLit
import HandS.Replace
import HandS.ReplaceList
import PySem.Challenge.RW_clashcounts_k05_texts_of_forms
set_option Elab.async false
set_option linter.all false
set_option maxRecDepth 100000
set_option maxHeartbeats 1000000
/-! Dl: data on top of the hand layer. D: a value as data; Rep: a value stands for data; Sta: slots and cells as data; DE: an expression evaluates to; DS: a statement. -/
namespace Dl
open PySem L2

/-- a lambda that captures nothing: its words -/
structure LamF where
  q : Str
  ps : Arguments
  b : Expr
  sc : Scope

/-- the object at f is the lambda F -/
def LamO (f : Addr) (F : LamF) (c : Addr) : HO := .ext fun h => ∃ pm ctv : Value, h.get? f = some (PySem.W.kla_obj "<lambda>" F.q F.ps F.b F.sc [] pm c ctv)

/-- data -/
inductive D where
  | non | bl (b : Bool) | int (i : Int) | str (x : Str) | tup (xs : List D) | lst (xs : List D) | obj (n : Nat) (xs : List D) | scr (xs : List D)
  /-- a caught error: its class, where it stands, its dict, its attributes -/
  | err (n : Nat) (a : Addr) (dd : Option Addr) (xs : List D)
  /-- a class -/
  | cls (C : Addr)
  /-- a dict that is only read: its keys, its values -/
  | dct (ks : List Key) (xs : List D)
  /-- a lambda -/
  | fn (F : LamF)

/-- the classes: where they stand, the names of their attributes in the order of their making -/
abbrev Tab := Nat → Option (Addr × List Str)

def TAt (K : PySem.W.Frag) (M : Addr → Prop) (H : Hp) (a : Addr) (vs : List V) : Prop := (¬ M a ∧ Rd H a (.tup vs)) ∨ SqT K (fun _ => none) a vs
/-- a list that is only read: the script -/
def LAt (K : PySem.W.Frag) (M : Addr → Prop) (H : Hp) (a : Addr) (vs : List V) : Prop := (¬ M a ∧ ∃ o, H a = some (.frz o (.lst vs))) ∨ SqL K (fun _ => none) a vs

/-- an error's dict -/
def XAt (M : Addr → Prop) (H : Hp) (dd : Option Addr) (fn : List Str) (vs : List V) : Prop := (fn = [] ∧ vs = [] ∧ dd = none) ∨ ∃ d, dd = some d ∧ ¬ M d ∧ H d = some (.xd (fn.zip vs)) ∧ vs.length = fn.length

mutual
inductive Rep (T : Tab) (K : PySem.W.Frag) (M : Addr → Prop) (H : Hp) : V → D → Prop
  | non : Rep T K M H .non .non
  | bl {b : Bool} : Rep T K M H (.bl b) (.bl b)
  | int {i : Int} : Rep T K M H (.int i) (.int i)
  | str {x : Str} : Rep T K M H (.str x) (.str x)
  | tup {a : Addr} {vs : List V} {ds : List D} : TAt K M H a vs → Reps T K M H vs ds → Rep T K M H (.ref a) (.tup ds)
  | lst {a : Addr} {vs : List V} {ds : List D} : ¬ M a → H a = some (.lst vs) → Reps T K M H vs ds → Rep T K M H (.ref a) (.lst ds)
  | scr {a : Addr} {vs : List V} {ds : List D} : LAt K M H a vs → Reps T K M H vs ds → Rep T K M H (.ref a) (.scr ds)
  | obj {a C dx : Addr} {n : Nat} {fn : List Str} {vs : List V} {ds : List D} : T n = some (C, fn) → ¬ M a → H a = some (.ins C dx (fn.zip vs)) → vs.length = fn.length → Reps T K M H vs ds → Rep T K M H (.ref a) (.obj n ds)
  | err {a C : Addr} {n : Nat} {fn : List Str} {dd : Option Addr} {vs : List V} {ds : List D} : T n = some (C, fn) → XAt M H dd fn vs → Reps T K M H vs ds → Rep T K M H (.ref a) (.err n a dd ds)
  | cls {C : Addr} : Rep T K M H (.ref C) (.cls C)
  | dct {a : Addr} {o : Obj} {kvs : List (Key × V)} {ks : List Key} {ds : List D} : ¬ M a → H a = some (.frz o (.dK kvs)) → kvs.map (·.1) = ks → Reps T K M H (kvs.map (·.2)) ds → Rep T K M H (.ref a) (.dct ks ds)
  | fn {f c : Addr} {F : LamF} : ¬ M f → ¬ M c → H f = some (LamO f F c) → H c = some (LamX.CodeO c F.q) → Rep T K M H (.ref f) (.fn F)
inductive Reps (T : Tab) (K : PySem.W.Frag) (M : Addr → Prop) (H : Hp) : List V → List D → Prop
  | nil : Reps T K M H [] []
  | cons {v : V} {d : D} {vs : List V} {ds : List D} : Rep T K M H v d → Reps T K M H vs ds → Reps T K M H (v :: vs) (d :: ds)
end

section
variable {T : Tab} {K : PySem.W.Frag} {M M' : Addr → Prop} {H H' : Hp} {a : Addr} {v : V} {d : D} {vs : List V} {ds : List D}

/-- what is known and not mutable stays so -/
def Kp (M : Addr → Prop) (H : Hp) (M' : Addr → Prop) (H' : Hp) : Prop := ∀ a o, H a = some o → ¬ M a → H' a = some o ∧ ¬ M' a

theorem Kp.refl : Kp M H M H := fun _ _ h n => ⟨h, n⟩
theorem Kp.trans {M2 : Addr → Prop} {H2 : Hp} (x : Kp M H M' H') (y : Kp M' H' M2 H2) : Kp M H M2 H2 := fun a o h n =>
  let ⟨h1, n1⟩ := x a o h n
  y a o h1 n1

theorem TAt.kp (k : Kp M H M' H') (h : TAt K M H a vs) : TAt K M' H' a vs := by
  rcases h with ⟨n, h | ⟨o, h⟩⟩ | h
  · exact .inl ⟨(k _ _ h n).2, .inl (k _ _ h n).1⟩
  · exact .inl ⟨(k _ _ h n).2, .inr ⟨o, (k _ _ h n).1⟩⟩
  · exact .inr h
theorem LAt.kp (k : Kp M H M' H') (h : LAt K M H a vs) : LAt K M' H' a vs := by
  rcases h with ⟨n, o, h⟩ | h
  · exact .inl ⟨(k _ _ h n).2, o, (k _ _ h n).1⟩
  · exact .inr h
theorem TAt.sq (h : TAt K M H a vs) : SqT K H a vs := by
  rcases h with ⟨n, h⟩ | h
  · exact .inl h
  · rcases h with (h | ⟨_, h⟩) | h
    · cases h
    · cases h
    · exact .inr h
theorem LAt.sq (h : LAt K M H a vs) : SqL K H a vs := by
  rcases h with h | h
  · exact .inl (.inr h.2)
  · rcases h with (h | ⟨_, h⟩) | h
    · cases h
    · cases h
    · exact .inr h
/-- the script at the law's entry -/
theorem LAt.of (hO : Only H) (h : SqL K H a vs) : LAt K (fun _ => False) H a vs := by
  rcases h with (h | ⟨o, h⟩) | h
  · rcases hO a with e | ⟨o, xs, e⟩ <;> rw [e] at h <;> cases h
  · exact .inl ⟨id, o, h⟩
  · exact .inr (.inr h)

theorem XAt.kp {dd : Option Addr} {fn : List Str} (k : Kp M H M' H') (h : XAt M H dd fn vs) : XAt M' H' dd fn vs := by
  rcases h with h | ⟨d, e, n, h1, h2⟩
  · exact .inl h
  · exact .inr ⟨d, e, (k _ _ h1 n).2, (k _ _ h1 n).1, h2⟩

mutual
theorem Rep.kp (k : Kp M H M' H') {v : V} {d : D} (h : Rep T K M H v d) : Rep T K M' H' v d :=
  match h with
  | .non => .non
  | .bl => .bl
  | .int => .int
  | .str => .str
  | .tup h1 h2 => .tup (h1.kp k) (Reps.kp k h2)
  | .lst n h1 h2 => .lst (k _ _ h1 n).2 (k _ _ h1 n).1 (Reps.kp k h2)
  | .scr h1 h2 => .scr (h1.kp k) (Reps.kp k h2)
  | .obj ht hm h1 hl h2 => .obj ht (k _ _ h1 hm).2 (k _ _ h1 hm).1 hl (Reps.kp k h2)
  | .err ht h1 h2 => .err ht (h1.kp k) (Reps.kp k h2)
  | .cls => .cls
  | .dct n h1 hl h2 => .dct (k _ _ h1 n).2 (k _ _ h1 n).1 hl (Reps.kp k h2)
  | .fn n m h1 h2 => .fn (k _ _ h1 n).2 (k _ _ h2 m).2 (k _ _ h1 n).1 (k _ _ h2 m).1
theorem Reps.kp (k : Kp M H M' H') {vs : List V} {ds : List D} (h : Reps T K M H vs ds) : Reps T K M' H' vs ds :=
  match h with
  | .nil => .nil
  | .cons h1 h2 => .cons (Rep.kp k h1) (Reps.kp k h2)
end

theorem Reps.length (h : Reps T K M H vs ds) : vs.length = ds.length := by
  induction ds generalizing vs with
  | nil => cases h; rfl
  | cons d ds ih => cases h with | cons h1 h2 => simp [ih h2]
theorem Reps.get : ∀ {vs : List V} {ds : List D} {i : Nat} {d : D}, Reps T K M H vs ds → ds[i]? = some d → ∃ v, vs[i]? = some v ∧ Rep T K M H v d
  | _, _, _, _, .nil, e => by simp at e
  | _, _, 0, _, .cons r _, e => by simp at e; subst e; exact ⟨_, rfl, r⟩
  | _, _, i + 1, d, .cons _ t, e => by
    obtain ⟨u, h1, h2⟩ := Reps.get (i := i) (d := d) t (by simpa using e)
    exact ⟨u, by simpa using h1, h2⟩
theorem Reps.getV : ∀ {vs : List V} {ds : List D} {i : Nat} {v : V}, Reps T K M H vs ds → vs[i]? = some v → ∃ d, ds[i]? = some d ∧ Rep T K M H v d
  | _, _, _, _, .nil, e => by simp at e
  | _, _, 0, _, .cons r _, e => by simp at e; subst e; exact ⟨_, rfl, r⟩
  | _, _, i + 1, d, .cons _ t, e => by
    obtain ⟨u, h1, h2⟩ := Reps.getV (i := i) t (by simpa using e)
    exact ⟨u, by simpa using h1, h2⟩
theorem Reps.append : ∀ {vs ws : List V} {ds es : List D}, Reps T K M H vs ds → Reps T K M H ws es → Reps T K M H (vs ++ ws) (ds ++ es)
  | _, _, _, _, .nil, s => s
  | _, _, _, _, .cons r t, s => .cons r (Reps.append t s)
theorem Reps.take : ∀ {vs : List V} {ds : List D} (n : Nat), Reps T K M H vs ds → Reps T K M H (vs.take n) (ds.take n)
  | _, _, 0, _ => .nil
  | _, _, _ + 1, .nil => .nil
  | _, _, n + 1, .cons r t => .cons r (Reps.take n t)
theorem Reps.drop : ∀ {vs : List V} {ds : List D} (n : Nat), Reps T K M H vs ds → Reps T K M H (vs.drop n) (ds.drop n)
  | _, _, 0, r => r
  | _, _, _ + 1, .nil => .nil
  | _, _, n + 1, .cons _ t => Reps.drop n t
theorem Reps.set {v : V} {d : D} (r : Rep T K M H v d) : ∀ {vs : List V} {ds : List D} (i : Nat), Reps T K M H vs ds → Reps T K M H (vs.set i v) (ds.set i d)
  | _, _, _, .nil => .nil
  | _, _, 0, .cons _ t => .cons r t
  | _, _, i + 1, .cons q t => .cons q (Reps.set r i t)
theorem Reps.rev : ∀ {vs : List V} {ds : List D}, Reps T K M H vs ds → Reps T K M H vs.reverse ds.reverse
  | _, _, .nil => .nil
  | _, _, .cons r t => by
    rw [List.reverse_cons, List.reverse_cons]
    exact (Reps.rev t).append (.cons r .nil)
theorem Reps.replicate {v : V} {d : D} (r : Rep T K M H v d) : ∀ n, Reps T K M H (List.replicate n v) (List.replicate n d)
  | 0 => .nil
  | n + 1 => .cons r (Reps.replicate r n)
theorem Reps.ints : ∀ (ns : List Int), Reps T K M H (ns.map V.int) (ns.map D.int)
  | [] => .nil
  | _ :: r => .cons .int (Reps.ints r)
theorem Reps.of_ints : ∀ {ns : List Int} {vs : List V}, Reps T K M H vs (ns.map D.int) → vs = ns.map V.int
  | [], _, .nil => rfl
  | _ :: r, _, .cons h t => by
    cases h
    rw [Reps.of_ints t]
    rfl
end

/-! ### cells and slots -/
inductive Cell where
  | lst (xs : List D)
  | dct (kvs : List (Key × D))
  | ins (n : Nat) (fs : List (Str × D))

inductive Sl where
  | dat (d : D)
  | cel (k : Nat)

structure Sta where
  sl : List (Option Sl)
  cs : List Cell

abbrev Mm (ad : List Addr) (F : Addr → Prop) : Addr → Prop := fun a => a ∈ ad ∨ F a

def CellAt (T : Tab) (K : PySem.W.Frag) (M : Addr → Prop) (H : Hp) (a : Addr) : Cell → Prop
  | .lst ds => ∃ vs, H a = some (.lst vs) ∧ Reps T K M H vs ds
  | .dct kds => ∃ kvs, H a = some (.dK kvs) ∧ kvs.map (·.1) = kds.map (·.1) ∧ Reps T K M H (kvs.map (·.2)) (kds.map (·.2))
  | .ins n fs => ∃ C fn dx vs, T n = some (C, fn) ∧ H a = some (.ins C dx ((fs.map (·.1)).zip vs)) ∧ vs.length = fs.length ∧ Reps T K M H vs (fs.map (·.2))

def SlRep (T : Tab) (K : PySem.W.Frag) (ad : List Addr) (F : Addr → Prop) (H : Hp) (v : V) : Sl → Prop
  | .dat d => Rep T K (Mm ad F) H v d
  | .cel k => ∃ a, ad[k]? = some a ∧ v = .ref a

/-- what another one's object may become: it stays, or it is a table of code objects -/
def Fr1 (H H' : Hp) (a : Addr) : Prop := H' a = H a ∨ ∃ ps qs, H a = some (.tbl ps) ∧ H' a = some (.tbl qs)
/-- the table of code objects that the lambdas stand in: one of the frame's, with one name -/
def TbOk (T : Tab) (F : Addr → Prop) (H : Hp) : Prop := ∀ P q, T 900 = some (P, [q]) → F P ∧ LamX.TabS H P q ∧ ∀ a, F a → ∃ o, H a = some o ∧ ∀ φ, o ≠ .ext φ
structure HoldC (T : Tab) (K : PySem.W.Frag) (ad : List Addr) (F : Addr → Prop) (H : Hp) (cs : List Cell) : Prop where
  nd : ad.Nodup
  fr : ∀ a ∈ ad, ¬ F a
  al : ∀ a, F a → ∃ o, H a = some o
  tb : TbOk T F H
  ln : ad.length = cs.length
  ce : ∀ (k : Nat) a c, ad[k]? = some a → cs[k]? = some c → CellAt T K (Mm ad F) H a c

structure Hold (T : Tab) (K : PySem.W.Frag) (S : Sta) (ad : List Addr) (F : Addr → Prop) (σ : St) (H : Hp) : Prop where
  hc : HoldC T K ad F H S.cs
  sz : σ.length = S.sl.length
  sl : ∀ (i : Nat) s, S.sl[i]? = some (some s) → ∃ v, σ[i]? = some (some v) ∧ SlRep T K ad F H v s

/-- behind an expression: what was known stays, new cells come behind -/
structure Ext (ad : List Addr) (F : Addr → Prop) (H : Hp) (ad' : List Addr) (H' : Hp) : Prop where
  pre : ∃ t, ad' = ad ++ t ∧ ∀ a ∈ t, H a = none
  keep : ∀ a o, H a = some o → ¬ Mm ad F a → H' a = some o
  frm : ∀ a, F a → Fr1 H H' a

section
variable {T : Tab} {K : PySem.W.Frag} {F : Addr → Prop} {ad ad1 ad2 : List Addr} {H H1 H2 : Hp} {cs : List Cell} {S : Sta} {σ : St} {v : V} {d : D} {s : Sl}

theorem Fr1.same {a : Addr} (e : H1 a = H a) : Fr1 H H1 a := .inl e
theorem Fr1.trans {a : Addr} (x : Fr1 H H1 a) (y : Fr1 H1 H2 a) : Fr1 H H2 a := by
  rcases x with x | ⟨p, q, x1, x2⟩ <;> rcases y with y | ⟨p', q', y1, y2⟩
  · exact .inl (y.trans x)
  · exact .inr ⟨p', q', x ▸ y1, y2⟩
  · exact .inr ⟨p, q, x1, y.trans x2⟩
  · exact .inr ⟨p, q', x1, y2⟩
theorem Fr1.ex {a : Addr} (x : Fr1 H H1 a) (h : ∃ o, H a = some o) : ∃ o, H1 a = some o := by
  rcases x with x | ⟨_, q, _, x2⟩
  · rw [x]; exact h
  · exact ⟨_, x2⟩
/-- what is no table stays -/
theorem Fr1.eq {a : Addr} {o : HO} (x : Fr1 H H1 a) (h : H a = some o) (n : ∀ ps, o ≠ .tbl ps) : H1 a = some o := by
  rcases x with x | ⟨p, q, x1, _⟩
  · rw [x]; exact h
  · rw [h] at x1
    cases x1
    exact absurd rfl (n p)
theorem TbOk.ext (t : TbOk T F H) (e : ∀ b o, H b = some o → H1 b = some o) : TbOk T F H1 := fun P q h => by
  obtain ⟨t1, t2, t3⟩ := t P q h
  refine ⟨t1, t2.ext e, fun a fa => ?_⟩
  obtain ⟨o, o1, o2⟩ := t3 a fa
  exact ⟨o, e a o o1, o2⟩
/-- an object that is neither a table nor a code object is changed -/
theorem TbOk.upd {a : Addr} {o o' : HO} (t : TbOk T F H) (h : H a = some o) (n1 : ∀ ps, o ≠ .tbl ps) (n2 : ∀ φ, o ≠ .ext φ) (n3 : ∀ φ, o' ≠ .ext φ) : TbOk T F (L2.upd H a o') := fun P q e => by
  obtain ⟨fp, ⟨ps, e1, e2, e3⟩, t3⟩ := t P q e
  have h1 : P ≠ a := fun z => n1 ps (Option.some.inj (h.symm.trans (z ▸ e1)))
  refine ⟨fp, ⟨ps, by rw [upd_ne h1]; exact e1, e2, fun pos cv hc => ?_⟩, fun b fb => ?_⟩
  · obtain ⟨c, c1, c2⟩ := e3 pos cv hc
    have h2 : c ≠ a := fun z => n2 _ (Option.some.inj (h.symm.trans (z ▸ c2)))
    exact ⟨c, c1, by rw [upd_ne h2]; exact c2⟩
  · by_cases z : b = a
    · rw [z]; exact ⟨o', upd_same, n3⟩
    · rw [upd_ne z]; exact t3 b fb
theorem TbOk.new {a : Addr} {o' : HO} (t : TbOk T F H) (h : H a = none) : TbOk T F (L2.upd H a o') := t.ext fun b o e => by rw [upd_ne (ne_of_none e h)]; exact e
/-- another frame -/
theorem TbOk.to {F1 : Addr → Prop} (t : TbOk T F H) (f : ∀ a, F a → F1 a) (g : ∀ a, F1 a → F a ∨ ∃ o, H a = some o ∧ ∀ φ, o ≠ .ext φ) : TbOk T F1 H := fun P q e => by
  obtain ⟨t1, t2, t3⟩ := t P q e
  exact ⟨f P t1, t2, fun a fa => (g a fa).elim (t3 a) id⟩
/-- the new object is one of the frame's -/
theorem TbOk.newF {a : Addr} {o' : HO} (t : TbOk T F H) (h : H a = none) (n : ∀ φ, o' ≠ .ext φ) : TbOk T (fun b => F b ∨ b = a) (L2.upd H a o') := (t.new h).to (fun _ z => .inl z) fun b z => z.imp id fun y => by rw [y]; exact ⟨o', upd_same, n⟩
theorem TbOk.back {F1 : Addr → Prop} (t : TbOk T F H) (f : ∀ a, F a → F1 a) (t1 : TbOk T F1 H1) : TbOk T F H1 := fun P q h => ⟨(t P q h).1, (t1 P q h).2.1, fun a fa => (t1 P q h).2.2 a (f a fa)⟩
/-- what a cell is -/
theorem CellAt.is {M : Addr → Prop} {a : Addr} {c : Cell} (h : CellAt T K M H a c) : ∃ o, H a = some o ∧ (∀ ps, o ≠ .tbl ps) ∧ ∀ φ, o ≠ .ext φ := by
  cases c with
  | lst ds => obtain ⟨vs, e, _⟩ := h; exact ⟨_, e, fun _ z => (nomatch z), fun _ z => nomatch z⟩
  | dct kvs => obtain ⟨vs, e, _⟩ := h; exact ⟨_, e, fun _ z => (nomatch z), fun _ z => nomatch z⟩
  | ins n fs => obtain ⟨C, fn, dx, vs, _, e, _⟩ := h; exact ⟨_, e, fun _ z => (nomatch z), fun _ z => nomatch z⟩

theorem CellAt.some {M : Addr → Prop} {a : Addr} {c : Cell} (h : CellAt T K M H a c) : ∃ o, H a = some o := by
  cases c with
  | lst ds => obtain ⟨vs, e, _⟩ := h; exact ⟨_, e⟩
  | dct kvs => obtain ⟨vs, e, _⟩ := h; exact ⟨_, e⟩
  | ins n fs => obtain ⟨C, fn, dx, vs, _, e, _⟩ := h; exact ⟨_, e⟩
theorem CellAt.kp {M M' : Addr → Prop} {a : Addr} {c : Cell} (k : Kp M H M' H1) (e : H1 a = H a) (h : CellAt T K M H a c) : CellAt T K M' H1 a c := by
  cases c with
  | lst ds => obtain ⟨vs, h1, h2⟩ := h; exact ⟨vs, e.trans h1, h2.kp k⟩
  | dct kvs => obtain ⟨vs, h1, hl, h2⟩ := h; exact ⟨vs, e.trans h1, hl, h2.kp k⟩
  | ins n fs => obtain ⟨C, fn, dx, vs, ht, h1, hl, h2⟩ := h; exact ⟨C, fn, dx, vs, ht, e.trans h1, hl, h2.kp k⟩
theorem CellAt.kp1 {M M' : Addr → Prop} {a : Addr} {c : Cell} (k : Kp M H M' H1) (e : Fr1 H H1 a) (h : CellAt T K M H a c) : CellAt T K M' H1 a c := by
  obtain ⟨o, e1, n1, _⟩ := h.is
  exact h.kp k ((e.eq e1 n1).trans e1.symm)
theorem HoldC.mem (h : HoldC T K ad F H cs) {a : Addr} (ha : a ∈ ad) : ∃ o, H a = some o := by
  obtain ⟨k, hk, e⟩ := List.getElem_of_mem ha
  have h1 : ad[k]? = some a := by rw [List.getElem?_eq_getElem hk, e]
  have h2 : cs[k]? = some (cs[k]'(by rw [← h.ln]; exact hk)) := List.getElem?_eq_getElem _
  exact (h.ce k a _ h1 h2).some
theorem HoldC.is (h : HoldC T K ad F H cs) {a : Addr} (ha : a ∈ ad) : ∃ o, H a = some o ∧ (∀ ps, o ≠ .tbl ps) ∧ ∀ φ, o ≠ .ext φ := by
  obtain ⟨k, hk, e⟩ := List.getElem_of_mem ha
  have h1 : ad[k]? = some a := by rw [List.getElem?_eq_getElem hk, e]
  have h2 : cs[k]? = some (cs[k]'(by rw [← h.ln]; exact hk)) := List.getElem?_eq_getElem _
  exact (h.ce k a _ h1 h2).is
theorem HoldC.isx (h : HoldC T K ad F H cs) {a : Addr} (ha : a ∈ ad) : ∃ o, H a = some o ∧ ∀ φ, o ≠ .ext φ := let ⟨o, e, _, n⟩ := h.is ha; ⟨o, e, n⟩
theorem HoldC.new (h : HoldC T K ad F H cs) {p : Addr} (hp : H p = none) : ¬ Mm ad F p := fun z => by
  rcases z with z | z
  · obtain ⟨o, e⟩ := h.mem z
    rw [e] at hp
    cases hp
  · obtain ⟨o, e⟩ := h.al p z
    rw [e] at hp
    cases hp

theorem Ext.refl : Ext ad F H ad H := ⟨⟨[], by simp, fun _ h => nomatch h⟩, fun _ _ h _ => h, fun _ _ => .inl rfl⟩
theorem Ext.kp (x : Ext ad F H ad1 H1) : Kp (Mm ad F) H (Mm ad1 F) H1 := fun a o h n => by
  refine ⟨x.keep a o h n, fun z => ?_⟩
  obtain ⟨t, e, ht⟩ := x.pre
  rcases z with z | z
  · rw [e] at z
    rcases List.mem_append.mp z with z | z
    · exact n (.inl z)
    · rw [ht a z] at h
      cases h
  · exact n (.inr z)
theorem Ext.trans (h : HoldC T K ad1 F H1 cs) (x : Ext ad F H ad1 H1) (y : Ext ad1 F H1 ad2 H2) : Ext ad F H ad2 H2 := by
  obtain ⟨t, e, ht⟩ := x.pre
  obtain ⟨u, e2, hu⟩ := y.pre
  refine ⟨⟨t ++ u, by rw [e2, e, List.append_assoc], fun a ha => ?_⟩, fun a o q n => ?_, fun a q => (x.frm a q).trans (y.frm a q)⟩
  · rcases List.mem_append.mp ha with z | z
    · exact ht a z
    · have h1 := hu a z
      cases q : H a with
      | none => rfl
      | some o =>
        exfalso
        by_cases n : Mm ad F a
        · rcases n with n | n
          · obtain ⟨o', e'⟩ := h.mem (a := a) (by rw [e]; exact List.mem_append_left _ n)
            rw [e'] at h1
            cases h1
          · obtain ⟨o', e'⟩ := (x.frm a n).ex ⟨o, q⟩
            rw [e'] at h1
            cases h1
        · rw [x.keep a o q n] at h1
          cases h1
  · exact y.keep a o (x.keep a o q n) (x.kp a o q n).2
end
end Dl

namespace Dl
open PySem L2

theorem ix_inj {α : Type} {l : List α} (h : l.Nodup) {i j : Nat} {x : α} (a : l[i]? = some x) (b : l[j]? = some x) : i = j := by
  have hi := (List.getElem?_eq_some_iff.mp a).1
  exact (List.getElem?_inj hi h).mp (a.trans b.symm)
section
variable {T : Tab} {K : PySem.W.Frag} {F : Addr → Prop} {ad ad1 ad2 : List Addr} {H H1 H2 : Hp} {cs cs' : List Cell} {S S1 S2 : Sta} {σ : St} {v w : V} {d : D} {s s1 s2 : Sl}

theorem SlRep.ext (x : Ext ad F H ad1 H1) (h : SlRep T K ad F H v s) : SlRep T K ad1 F H1 v s := by
  cases s with
  | dat d => exact Rep.kp x.kp h
  | cel k =>
    obtain ⟨a, e, hv⟩ := h
    obtain ⟨t, e1, _⟩ := x.pre
    refine ⟨a, ?_, hv⟩
    rw [e1, List.getElem?_append_left (List.getElem?_eq_some_iff.mp e).1]
    exact e
theorem Hold.to (h : Hold T K S ad F σ H) (x : Ext ad F H ad1 H1) (c : HoldC T K ad1 F H1 cs) : Hold T K ⟨S.sl, cs⟩ ad1 F σ H1 :=
  ⟨c, h.sz, fun i s e => let ⟨v, hv, r⟩ := h.sl i s e; ⟨v, hv, r.ext x⟩⟩
/-- a new object that is no cell -/
theorem HoldC.newo (h : HoldC T K ad F H cs) {p : Addr} {o : HO} (hp : H p = none) : HoldC T K ad F (upd H p o) cs ∧ Ext ad F H ad (upd H p o) := by
  have ne : ∀ a o', H a = some o' → a ≠ p := fun a o' e => ne_of_none e hp
  have x : Ext ad F H ad (L2.upd H p o) := by
    refine ⟨⟨[], by simp, fun _ z => nomatch z⟩, fun a o' e _ => ?_, fun a fa => ?_⟩
    · rw [upd_ne (ne a o' e)]; exact e
    · obtain ⟨o', e⟩ := h.al a fa
      exact .inl (by rw [upd_ne (ne a o' e)])
  refine ⟨⟨h.nd, h.fr, fun a fa => ?_, h.tb.new hp, h.ln, fun k a c h1 h2 => ?_⟩, x⟩
  · obtain ⟨o', e⟩ := h.al a fa
    exact ⟨o', by rw [upd_ne (ne a o' e)]; exact e⟩
  · have q := h.ce k a c h1 h2
    obtain ⟨o', e⟩ := q.some
    exact q.kp x.kp (upd_ne (ne a o' e))
/-- a new cell -/
theorem HoldC.cell (h : HoldC T K ad F H cs) {p : Addr} {o : HO} {c : Cell} (hp : H p = none) (hc : CellAt T K (Mm (ad ++ [p]) F) (upd H p o) p c) :
    HoldC T K (ad ++ [p]) F (upd H p o) (cs ++ [c]) ∧ Ext ad F H (ad ++ [p]) (upd H p o) := by
  have ne : ∀ a o', H a = some o' → a ≠ p := fun a o' e => ne_of_none e hp
  have x : Ext ad F H (ad ++ [p]) (L2.upd H p o) := by
    refine ⟨⟨[p], rfl, fun a z => ?_⟩, fun a o' e _ => ?_, fun a fa => ?_⟩
    · have := List.mem_singleton.mp z; subst this; exact hp
    · rw [upd_ne (ne a o' e)]; exact e
    · obtain ⟨o', e⟩ := h.al a fa
      exact .inl (by rw [upd_ne (ne a o' e)])
  have np : p ∉ ad := fun z => h.new hp (.inl z)
  refine ⟨⟨?_, fun a ha fa => ?_, fun a fa => ?_, h.tb.new hp, by simp [h.ln], fun k a c' h1 h2 => ?_⟩, x⟩
  · rw [List.nodup_append]
    refine ⟨h.nd, by simp, fun a ha b hb e => ?_⟩
    have := List.mem_singleton.mp hb
    exact np (this ▸ e ▸ ha)
  · rcases List.mem_append.mp ha with z | z
    · exact h.fr a z fa
    · have := List.mem_singleton.mp z; subst this; exact h.new hp (.inr fa)
  · obtain ⟨o', e⟩ := h.al a fa
    exact ⟨o', by rw [upd_ne (ne a o' e)]; exact e⟩
  · by_cases hk : k < ad.length
    · rw [List.getElem?_append_left hk] at h1
      rw [List.getElem?_append_left (by rw [← h.ln]; exact hk)] at h2
      have q := h.ce k a c' h1 h2
      obtain ⟨o', e⟩ := q.some
      exact q.kp x.kp (upd_ne (ne a o' e))
    · have hk' : k = ad.length := by
        have := (List.getElem?_eq_some_iff.mp h1).1
        simp at this
        omega
      subst hk'
      rw [List.getElem?_append_right (Nat.le_refl _)] at h1
      rw [h.ln, List.getElem?_append_right (Nat.le_refl _)] at h2
      simp at h1 h2
      subst h1 h2
      exact hc
/-- a cell is changed -/
theorem HoldC.setc (h : HoldC T K ad F H cs) {k : Nat} {a : Addr} {o : HO} {c : Cell} (ha : ad[k]? = some a) (hc : CellAt T K (Mm ad F) (upd H a o) a c) : HoldC T K ad F (upd H a o) (cs.set k c) ∧ Ext ad F H ad (upd H a o) := by
  have hm : a ∈ ad := List.mem_of_getElem? ha
  have nb : ∀ b, ¬ Mm ad F b → b ≠ a := fun b n z => n (.inl (by rw [z]; exact hm))
  have nf : ∀ b, F b → b ≠ a := fun b fb z => h.fr a hm (by rw [← z]; exact fb)
  have x : Ext ad F H ad (L2.upd H a o) := by
    refine ⟨⟨[], by simp, fun _ z => nomatch z⟩, fun b o' e n => ?_, fun b fb => ?_⟩
    · rw [upd_ne (nb b n)]; exact e
    · exact .inl (by rw [upd_ne (nf b fb)])
  obtain ⟨o0, e0, n1, n2⟩ := h.is hm
  have n3 : ∀ φ, o ≠ .ext φ := fun φ z => by
    obtain ⟨o', e', _, y⟩ := hc.is
    rw [upd_same] at e'
    cases e'
    exact y φ z
  refine ⟨⟨h.nd, h.fr, fun b fb => ?_, h.tb.upd e0 n1 n2 n3, by simp [h.ln], fun j b c' h1 h2 => ?_⟩, x⟩
  · obtain ⟨o', e⟩ := h.al b fb
    exact ⟨o', by rw [upd_ne (nf b fb)]; exact e⟩
  · by_cases hj : k = j
    · subst hj
      have hlt : k < cs.length := by rw [← h.ln]; exact (List.getElem?_eq_some_iff.mp ha).1
      rw [List.getElem?_set_self hlt] at h2
      rw [ha] at h1
      cases h1; cases h2
      exact hc
    · rw [List.getElem?_set_ne hj] at h2
      have hb : b ≠ a := fun z => by
        subst z
        obtain ⟨l1, e1⟩ := List.getElem?_eq_some_iff.mp ha
        obtain ⟨l2, e2⟩ := List.getElem?_eq_some_iff.mp h1
        exact hj (ix_inj h.nd ha h1)
      exact (h.ce j b c' h1 h2).kp x.kp (upd_ne hb)
/-- fewer cells (those behind are no cells any more) -/
theorem HoldC.take (h : HoldC T K ad F H cs) (n : Nat) : HoldC T K (ad.take n) F H (cs.take n) := by
  have sub : ∀ a, Mm (ad.take n) F a → Mm ad F a := fun a z => z.elim (fun z => .inl (List.mem_of_mem_take z)) .inr
  have kp : Kp (Mm ad F) H (Mm (ad.take n) F) H := fun a o e z => ⟨e, fun y => z (sub a y)⟩
  refine ⟨h.nd.sublist (List.take_sublist _ _), fun a ha => h.fr a (List.mem_of_mem_take ha), h.al, h.tb, by simp [h.ln], fun k a c h1 h2 => ?_⟩
  have k1 : ad[k]? = some a := by
    rw [List.getElem?_take] at h1
    split at h1
    · exact h1
    · cases h1
  have k2 : cs[k]? = some c := by
    rw [List.getElem?_take] at h2
    split at h2
    · exact h2
    · cases h2
  exact (h.ce k a c k1 k2).kp kp rfl
end

/-! ### expressions -/
def tD (T : Tab) (K : PySem.W.Frag) (S : Sta) (s : Sl) (S' : Sta) : TE := fun σ H Q => ∃ ad F, Hold T K S ad F σ H ∧
  ∀ v H' ad', Ext ad F H ad' H' → Hold T K S' ad' F σ H' → SlRep T K ad' F H' v s → Q v H'
/-- from the state S the expression e gives s and leaves S' -/
def DE (X : Cx) (T : Tab) (S : Sta) (e : Expr) (s : Sl) (S' : Sta) : Prop := PE X e (tD T X.K S s S')
theorem weak {X : Cx} {e : Expr} {t t' : TE} (h : PE X e t) (q : ∀ σ H Q, t' σ H Q → t σ H Q) : PE X e t' := ⟨fun pins s σ H Q I z => h.run pins s σ H Q I (q σ H Q z)⟩
theorem weakT {X : Cx} {e : Expr} {t t' : TT} (h : PT X e t) (q : ∀ σ H Q, t' σ H Q → t σ H Q) : PT X e t' := ⟨fun pins s σ H Q I z => h.run pins s σ H Q I (q σ H Q z)⟩
theorem weakA {X : Cx} {e : List Expr} {t t' : TA} (h : PA X e t) (q : ∀ σ H Q, t' σ H Q → t σ H Q) : PA X e t' := ⟨fun pos pins s σ H Q I z => h.run pos pins s σ H Q I (q σ H Q z)⟩
theorem weakS {X : Cx} {e : Stmt} {t t' : TS} (h : PS X e t) (q : ∀ D σ H, t' D σ H → t D σ H) : PS X e t' := ⟨fun pins s σ H D I z => h.run pins s σ H D I (q D σ H z)⟩
theorem weakSs {X : Cx} {e : List Stmt} {t t' : TS} (h : PSs X e t) (q : ∀ D σ H, t' D σ H → t D σ H) : PSs X e t' := ⟨fun pins s σ H D I z => h.run pins s σ H D I (q D σ H z)⟩

section
variable {X : Cx} {T : Tab} {S S1 S2 S3 : Sta} {a b e : Expr} {pos : Pos} {s s1 s2 : Sl} {cs cs' : List Cell} {d d1 d2 : D} {i j : Int}

/-- one expression, then an operation on its value -/
def R1 (T : Tab) (K : PySem.W.Frag) (r : V → Hp → VK → Prop) (s1 : Sl) (cs : List Cell) (s : Sl) (cs' : List Cell) : Prop :=
  ∀ ad F H v (Q : VK), HoldC T K ad F H cs → SlRep T K ad F H v s1 → (∀ z H' ad', Ext ad F H ad' H' → HoldC T K ad' F H' cs' → SlRep T K ad' F H' z s → Q z H') → r v H Q
def R2D (T : Tab) (K : PySem.W.Frag) (r : R2) (s1 s2 : Sl) (cs : List Cell) (s : Sl) (cs' : List Cell) : Prop :=
  ∀ ad F H v w (Q : VK), HoldC T K ad F H cs → SlRep T K ad F H v s1 → SlRep T K ad F H w s2 → (∀ z H' ad', Ext ad F H ad' H' → HoldC T K ad' F H' cs' → SlRep T K ad' F H' z s → Q z H') → r v w H Q
theorem one_then {K : PySem.W.Frag} {r : V → Hp → VK → Prop} {σ : St} {H : Hp} {Q : VK} (hr : R1 T K r s1 S1.cs s cs') (h : tD T K S s ⟨S1.sl, cs'⟩ σ H Q) : tD T K S s1 S1 σ H fun v H1 => r v H1 Q := by
  obtain ⟨ad, F, h0, q⟩ := h
  refine ⟨ad, F, h0, fun v H1 ad1 x1 h1 r1 => ?_⟩
  exact hr ad1 F H1 v Q h1.hc r1 fun z H' ad' x2 c2 r2 => q z H' ad' (x1.trans h1.hc x2) (h1.to x2 c2) r2
theorem two_then {K : PySem.W.Frag} {r : R2} {σ : St} {H : Hp} {Q : VK} (hr : R2D T K r s1 s2 S2.cs s cs') (h : tD T K S s ⟨S2.sl, cs'⟩ σ H Q) : tD T K S s1 S1 σ H fun v H1 => tD T K S1 s2 S2 σ H1 fun w H2 => r v w H2 Q := by
  obtain ⟨ad, F, h0, q⟩ := h
  refine ⟨ad, F, h0, fun v H1 ad1 x1 h1 r1 => ⟨ad1, F, h1, fun w H2 ad2 x2 h2 r2 => ?_⟩⟩
  exact hr ad2 F H2 v w Q h2.hc (r1.ext x2) r2 fun z H' ad' x3 c3 r3 => q z H' ad' (x1.trans h1.hc (x2.trans h2.hc x3)) (h2.to x3 c3) r3

/-! #### names, constants -/
theorem de_name (i : Nat) {x : Str} (hs : S.sl[i]? = some (some s)) (hN : X.N[i]? = some x := by rfl) (hv : Vis X.env.scope x := by first | exact Or.inl rfl | exact Or.inr (Or.inl rfl) | exact Or.inr (Or.inr rfl)) (hd : (x == ("__debug__" : Str)) = false := by decide)
    (hcd : (x == ("__classdict__" : Str)) = false := by decide) : DE X T S (.Name x pos) s S :=
  weak (pe_var hN hv hd hcd) fun σ H Q ⟨ad, F, h, q⟩ => let ⟨v, e, r⟩ := h.sl i s hs; ⟨v, e, q v H ad .refl h r⟩
theorem de_c {v : V} (h : PE X e (tC v)) (r : ∀ ad F H, SlRep T X.K ad F H v s) : DE X T S e s S := weak h fun σ H Q ⟨ad, F, h, q⟩ => q v H ad .refl h (r ad F H)
theorem de_int {k : Nat} : DE X T S (.Constant (.int i) k pos) (.dat (.int i)) S := de_c pe_int fun _ _ _ => .int
theorem de_bl {b : Bool} {k : Nat} : DE X T S (.Constant (.bool b) k pos) (.dat (.bl b)) S := de_c pe_bl fun _ _ _ => .bl
theorem de_non {k : Nat} : DE X T S (.Constant .none k pos) (.dat .non) S := de_c pe_non fun _ _ _ => .non
theorem de_str {x : Str} {k : Nat} : DE X T S (.Constant (.str x) k pos) (.dat (.str x)) S := de_c pe_str fun _ _ _ => .str

/-! #### operators -/
theorem de_op {op : Operator} {r : R2} (ho : OpR X (binaryOp op) r) (ha : DE X T S a s1 S1) (hb : DE X T S1 b s2 S2) (hr : R2D T X.K r s1 s2 S2.cs s cs') : DE X T S (.BinOp a op b pos) s ⟨S2.sl, cs'⟩ :=
  weak (pe_op ho ha hb) fun _ _ _ h => two_then hr h
theorem de_cmp {op : CmpOp} {r : R2} (ho : OpR X (compareOp op) r) (ha : DE X T S a s1 S1) (hb : DE X T S1 b s2 S2) (hr : R2D T X.K r s1 s2 S2.cs s cs') (hm : behindInMarks op b = false) : DE X T S (.Compare a [op] [b] pos) s ⟨S2.sl, cs'⟩ :=
  weak (pe_cmpR ho ha hb hm) fun _ _ _ h => two_then hr h
theorem de_ix {r : R2} (hr' : IxR X r) (ha : DE X T S a s1 S1) (hb : DE X T S1 b s2 S2) (hr : R2D T X.K r s1 s2 S2.cs s cs') (hp : PlainIx b := by intro _ _; rfl) : DE X T S (.Subscript a b pos) s ⟨S2.sl, cs'⟩ :=
  weak (pe_ix hr' ha hb hp) fun _ _ _ h => two_then hr h
theorem de_unop {op : UnaryOp} {r : V → Hp → VK → Prop} (ho : UnR X (unaryOp op) r) (ha : DE X T S a s1 S1) (hr : R1 T X.K r s1 S1.cs s cs') : DE X T S (.UnaryOp op a pos) s ⟨S1.sl, cs'⟩ :=
  weak (pe_un ho ha) fun _ _ _ h => one_then hr h
theorem r2_I {K : PySem.W.Frag} {C : Int → Int → Prop} {g : Int → Int → Int} (hc : C i j) : R2D T K (rI C fun i j => .int (g i j)) (.dat (.int i)) (.dat (.int j)) cs (.dat (.int (g i j))) cs := fun ad F H v w Q c r1 r2 q => by
  cases r1; cases r2
  exact ⟨i, j, rfl, rfl, hc, q _ H ad .refl c .int⟩
theorem r2_I0 {K : PySem.W.Frag} {g : Int → Int → Int} : R2D T K (rI0 fun i j => .int (g i j)) (.dat (.int i)) (.dat (.int j)) cs (.dat (.int (g i j))) cs := fun ad F H v w Q c r1 r2 q => by
  cases r1; cases r2
  exact ⟨i, j, rfl, rfl, q _ H ad .refl c .int⟩
theorem r2_B0 {K : PySem.W.Frag} {g : Int → Int → Bool} : R2D T K (rI0 fun i j => .bl (g i j)) (.dat (.int i)) (.dat (.int j)) cs (.dat (.bl (g i j))) cs := fun ad F H v w Q c r1 r2 q => by
  cases r1; cases r2
  exact ⟨i, j, rfl, rfl, q _ H ad .refl c .bl⟩
theorem de_add (ha : DE X T S a (.dat (.int i)) S1) (hb : DE X T S1 b (.dat (.int j)) S2) : DE X T S (.BinOp a .Add b pos) (.dat (.int (i + j))) S2 := de_op op_add ha hb r2_I0
theorem de_sub (ha : DE X T S a (.dat (.int i)) S1) (hb : DE X T S1 b (.dat (.int j)) S2) : DE X T S (.BinOp a .Sub b pos) (.dat (.int (i - j))) S2 := de_op op_sub ha hb r2_I0
theorem de_mul (ha : DE X T S a (.dat (.int i)) S1) (hb : DE X T S1 b (.dat (.int j)) S2) (hc : CMul i j) : DE X T S (.BinOp a .Mult b pos) (.dat (.int (i * j))) S2 := de_op op_mul ha hb (r2_I hc)
theorem de_mulW (ha : DE X T S a (.dat (.int i)) S1) (hb : DE X T S1 b (.dat (.int j)) S2) (hc : CMulW i j) : DE X T S (.BinOp a .Mult b pos) (.dat (.int (i * j))) S2 := de_op op_mulW ha hb (r2_I hc)
theorem de_fdiv (ha : DE X T S a (.dat (.int i)) S1) (hb : DE X T S1 b (.dat (.int j)) S2) (hc : CDivW i j) : DE X T S (.BinOp a .FloorDiv b pos) (.dat (.int (i / j))) S2 := de_op op_fdivW ha hb (r2_I hc)
theorem de_mod (ha : DE X T S a (.dat (.int i)) S1) (hb : DE X T S1 b (.dat (.int j)) S2) (hc : 0 < j) : DE X T S (.BinOp a .Mod b pos) (.dat (.int (i % j))) S2 := de_op op_mod ha hb (r2_I (C := fun _ j => 0 < j) hc)
theorem de_pow (ha : DE X T S a (.dat (.int i)) S1) (hb : DE X T S1 b (.dat (.int j)) S2) (hc : CPow i j) : DE X T S (.BinOp a .Pow b pos) (.dat (.int (i ^ j.toNat))) S2 := de_op op_pow ha hb (r2_I hc)
theorem de_lt (ha : DE X T S a (.dat (.int i)) S1) (hb : DE X T S1 b (.dat (.int j)) S2) : DE X T S (.Compare a [.Lt] [b] pos) (.dat (.bl (decide (i < j)))) S2 := de_cmp op_lt ha hb r2_B0 (nomark _)
theorem de_le (ha : DE X T S a (.dat (.int i)) S1) (hb : DE X T S1 b (.dat (.int j)) S2) : DE X T S (.Compare a [.LtE] [b] pos) (.dat (.bl (decide (i ≤ j)))) S2 := de_cmp op_le ha hb r2_B0 (nomark _)
theorem de_gt (ha : DE X T S a (.dat (.int i)) S1) (hb : DE X T S1 b (.dat (.int j)) S2) : DE X T S (.Compare a [.Gt] [b] pos) (.dat (.bl (decide (j < i)))) S2 := de_cmp op_gt ha hb r2_B0 (nomark _)
theorem de_ge (ha : DE X T S a (.dat (.int i)) S1) (hb : DE X T S1 b (.dat (.int j)) S2) : DE X T S (.Compare a [.GtE] [b] pos) (.dat (.bl (decide (j ≤ i)))) S2 := de_cmp op_ge ha hb r2_B0 (nomark _)
theorem de_neg (ha : DE X T S a (.dat (.int i)) S1) : DE X T S (.UnaryOp .USub a pos) (.dat (.int (-i))) S1 := de_unop un_neg ha fun ad F H v Q c r1 q => by
  cases r1
  exact ⟨i, rfl, q _ H ad .refl c .int⟩

/-! #### subscripts -/
theorem reps_at {K : PySem.W.Frag} {M : Addr → Prop} {H : Hp} {vs : List V} {ds : List D} (h : Reps T K M H vs ds) (e : atI ds i = some d) : ∃ v, atI vs i = some v ∧ Rep T K M H v d := by
  unfold atI at e ⊢
  rw [h.length]
  cases q : ixN ds.length i with
  | none => rw [q] at e; cases e
  | some j =>
    rw [q] at e
    obtain ⟨v, h1, h2⟩ := h.get (i := j) e
    exact ⟨v, h1, h2⟩
theorem de_ixL {ds : List D} (ha : DE X T S a (.dat (.lst ds)) S1) (hb : DE X T S1 b (.dat (.int i)) S2) (hi : atI ds i = some d) (hp : PlainIx b := by intro _ _; rfl) : DE X T S (.Subscript a b pos) (.dat d) S2 :=
  de_ix ix_list ha hb (fun ad F H v w Q c r1 r2 q => by
    cases r2
    cases r1 with
    | lst n e r =>
      obtain ⟨u, h1, h2⟩ := reps_at r hi
      exact ⟨_, _, i, u, rfl, rfl, SqL.of e, h1, q u H ad .refl c h2⟩) hp
theorem de_ixR {ds : List D} (ha : DE X T S a (.dat (.scr ds)) S1) (hb : DE X T S1 b (.dat (.int i)) S2) (hi : atI ds i = some d) (hp : PlainIx b := by intro _ _; rfl) : DE X T S (.Subscript a b pos) (.dat d) S2 :=
  de_ix ix_list ha hb (fun ad F H v w Q c r1 r2 q => by
    cases r2
    cases r1 with
    | scr e r =>
      obtain ⟨u, h1, h2⟩ := reps_at r hi
      exact ⟨_, _, i, u, rfl, rfl, e.sq, h1, q u H ad .refl c h2⟩) hp
theorem de_ixT {ds : List D} (ha : DE X T S a (.dat (.tup ds)) S1) (hb : DE X T S1 b (.dat (.int i)) S2) (hi : atI ds i = some d) (hp : PlainIx b := by intro _ _; rfl) : DE X T S (.Subscript a b pos) (.dat d) S2 :=
  de_ix ix_tup ha hb (fun ad F H v w Q c r1 r2 q => by
    cases r2
    cases r1 with
    | tup e r =>
      obtain ⟨u, h1, h2⟩ := reps_at r hi
      exact ⟨_, _, i, u, rfl, rfl, e.sq, h1, q u H ad .refl c h2⟩) hp
theorem de_ixC {k : Nat} {ds : List D} (ha : DE X T S a (.cel k) S1) (hb : DE X T S1 b (.dat (.int i)) S2) (hk : S2.cs[k]? = some (.lst ds)) (hi : atI ds i = some d) (hp : PlainIx b := by intro _ _; rfl) : DE X T S (.Subscript a b pos) (.dat d) S2 :=
  de_ix ix_list ha hb (fun ad F H v w Q c r1 r2 q => by
    cases r2
    obtain ⟨p, e, rfl⟩ := r1
    obtain ⟨vs, h1, h2⟩ := c.ce k p _ e hk
    obtain ⟨u, h3, h4⟩ := reps_at h2 hi
    exact ⟨_, _, i, u, rfl, rfl, SqL.of h1, h3, q u H ad .refl c h4⟩) hp

/-! #### arguments -/
def SlReps (T : Tab) (K : PySem.W.Frag) (ad : List Addr) (F : Addr → Prop) (H : Hp) : List V → List Sl → Prop
  | [], [] => True
  | v :: vs, s :: ss => SlRep T K ad F H v s ∧ SlReps T K ad F H vs ss
  | _, _ => False
theorem SlReps.ext {K : PySem.W.Frag} {ad ad1 : List Addr} {F : Addr → Prop} {H H1 : Hp} (x : Ext ad F H ad1 H1) : ∀ {vs : List V} {ss : List Sl}, SlReps T K ad F H vs ss → SlReps T K ad1 F H1 vs ss
  | [], [], _ => trivial
  | _ :: _, _ :: _, h => ⟨h.1.ext x, SlReps.ext x h.2⟩
theorem SlReps.len {K : PySem.W.Frag} {ad : List Addr} {F : Addr → Prop} {H : Hp} : ∀ {vs : List V} {ss : List Sl}, SlReps T K ad F H vs ss → vs.length = ss.length
  | [], [], _ => rfl
  | _ :: _, _ :: _, h => by rw [List.length_cons, List.length_cons, SlReps.len h.2]
theorem SlReps.dats {K : PySem.W.Frag} {ad : List Addr} {F : Addr → Prop} {H : Hp} : ∀ {vs : List V} {ds : List D}, SlReps T K ad F H vs (ds.map Sl.dat) → Reps T K (Mm ad F) H vs ds
  | [], [], _ => .nil
  | _ :: _, _ :: _, h => .cons h.1 (SlReps.dats h.2)
theorem SlReps.of {K : PySem.W.Frag} {ad : List Addr} {F : Addr → Prop} {H : Hp} : ∀ {vs : List V} {ds : List D}, Reps T K (Mm ad F) H vs ds → SlReps T K ad F H vs (ds.map Sl.dat)
  | _, _, .nil => trivial
  | _, _, .cons h t => ⟨h, SlReps.of t⟩
def tDA (T : Tab) (K : PySem.W.Frag) (S : Sta) (ss : List Sl) (S' : Sta) : TA := fun σ H Q => ∃ ad F, Hold T K S ad F σ H ∧
  ∀ vs H' ad', Ext ad F H ad' H' → Hold T K S' ad' F σ H' → SlReps T K ad' F H' vs ss → Q vs H'
def DA (X : Cx) (T : Tab) (S : Sta) (es : List Expr) (ss : List Sl) (S' : Sta) : Prop := PA X es (tDA T X.K S ss S')
theorem da_nil : DA X T S [] [] S := weakA pa_nil fun σ H Q ⟨ad, F, h, q⟩ => q [] H ad .refl h trivial
theorem da_cons {es : List Expr} {ss : List Sl} (ha : DE X T S e s S1) (hr : DA X T S1 es ss S2) (hs : starEach (e :: es) X.env = (false, eval e X.env) :: starEach es X.env := by rfl) : DA X T S (e :: es) (s :: ss) S2 :=
  weakA (pa_cons ha hr hs) fun σ H Q ⟨ad, F, h, q⟩ => ⟨ad, F, h, fun v H1 ad1 x1 h1 r1 => ⟨ad1, F, h1, fun vs H2 ad2 x2 h2 r2 => q _ H2 ad2 (x1.trans h1.hc x2) h2 ⟨r1.ext x2, r2⟩⟩⟩
theorem de_tup {es : List Expr} {ds : List D} {x1} (h : DA X T S es (ds.map Sl.dat) S1) (hl : ds.length ≤ sizeLine) : DE X T S (.Tuple es x1 pos) (.dat (.tup ds)) S1 :=
  weak (pe_tup h) fun σ H Q ⟨ad, F, h, q⟩ => ⟨ad, F, h, fun vs H1 ad1 x1 h1 r1 => ⟨by rw [r1.dats.length]; exact hl, fun p hp => by
    obtain ⟨c, x2⟩ := h1.hc.newo (o := .tup vs) hp
    refine q _ _ ad1 (x1.trans h1.hc x2) (h1.to x2 c) (.tup (vs := vs) (.inl ⟨h1.hc.new hp, .inl upd_same⟩) (r1.dats.kp x2.kp))⟩⟩
theorem de_lst {es : List Expr} {ds : List D} (h : DA X T S es (ds.map Sl.dat) S1) (hl : ds.length ≤ sizeLine) : DE X T S (.List es pos) (.dat (.lst ds)) S1 :=
  weak (pe_lst h) fun σ H Q ⟨ad, F, h, q⟩ => ⟨ad, F, h, fun vs H1 ad1 x1 h1 r1 => ⟨by rw [r1.dats.length]; exact hl, fun p hp => by
    obtain ⟨c, x2⟩ := h1.hc.newo (o := .lst vs) hp
    refine q _ _ ad1 (x1.trans h1.hc x2) (h1.to x2 c) (.lst (vs := vs) (h1.hc.new hp) upd_same (r1.dats.kp x2.kp))⟩⟩
/-- a list that will be changed -/
theorem de_lstC {es : List Expr} {ds : List D} (h : DA X T S es (ds.map Sl.dat) S1) (hl : ds.length ≤ sizeLine) : DE X T S (.List es pos) (.cel S1.cs.length) ⟨S1.sl, S1.cs ++ [.lst ds]⟩ :=
  weak (pe_lst h) fun σ H Q ⟨ad, F, h, q⟩ => ⟨ad, F, h, fun vs H1 ad1 x1 h1 r1 => ⟨by rw [r1.dats.length]; exact hl, fun p hp => by
    have kp : Kp (Mm ad1 F) H1 (Mm (ad1 ++ [p]) F) (upd H1 p (.lst vs)) := fun a o e n => by
      have np : a ≠ p := ne_of_none e hp
      refine ⟨by rw [upd_ne np]; exact e, fun z => ?_⟩
      rcases z with z | z
      · rcases List.mem_append.mp z with z | z
        · exact n (.inl z)
        · exact np (List.mem_singleton.mp z)
      · exact n (.inr z)
    obtain ⟨c, x2⟩ := h1.hc.cell (o := .lst vs) (c := .lst ds) hp ⟨vs, upd_same, r1.dats.kp kp⟩
    refine q _ _ _ (x1.trans h1.hc x2) (h1.to x2 c) ⟨p, ?_, rfl⟩
    rw [← h1.hc.ln, List.getElem?_append_right (Nat.le_refl _)]
    simp⟩⟩

/-! #### calls of builtins -/
def RCD (T : Tab) (K : PySem.W.Frag) (r : List V → Hp → VK → Prop) (ss : List Sl) (cs : List Cell) (s : Sl) (cs' : List Cell) : Prop :=
  ∀ ad F H vs (Q : VK), HoldC T K ad F H cs → SlReps T K ad F H vs ss → (∀ z H' ad', Ext ad F H ad' H' → HoldC T K ad' F H' cs' → SlRep T K ad' F H' z s → Q z H') → r vs H Q
theorem call_then {K : PySem.W.Frag} {r : List V → Hp → VK → Prop} {ss : List Sl} {σ : St} {H : Hp} {Q : VK} (hr : RCD T K r ss S1.cs s cs') (h : tD T K S s ⟨S1.sl, cs'⟩ σ H Q) : tDA T K S ss S1 σ H fun vs H1 => r vs H1 Q := by
  obtain ⟨ad, F, h0, q⟩ := h
  refine ⟨ad, F, h0, fun vs H1 ad1 x1 h1 r1 => ?_⟩
  exact hr ad1 F H1 vs Q h1.hc r1 fun z H' ad' x2 c2 r2 => q z H' ad' (x1.trans h1.hc x2) (h1.to x2 c2) r2
theorem de_callB {id : String} {r : List V → Hp → VK → Prop} {x : Str} {p : Pos} {es : List Expr} {ss : List Sl} (hc : CallR X (.builtin id) r) (hm : X.mg x = none) (hv : bootBuiltins x = some (.builtin id)) (ha : DA X T S (e :: es) ss S1) (hr : RCD T X.K r ss S1.cs s cs')
    (hg : Gl X x := by rfl) (hn : x ≠ "__name__" := by decide) (hdb : (x == ("__debug__" : Str)) = false := by decide)
    (he : starEach (e :: es) X.env = (false, eval e X.env) :: starEach es X.env := by rfl) (hpl : (backTo pos (starEach es X.env)).any (·.1) = false := by rfl) : DE X T S (.Call (.Name x p) (e :: es) [] pos) s ⟨S1.sl, cs'⟩ :=
  weak (pe_callB hc hg hm hv ha hn hdb he hpl) fun _ _ _ h => call_then hr h
theorem de_callTy {id : String} {r : List V → Hp → VK → Prop} {x : Str} {p : Pos} {es : List Expr} {ss : List Sl} (hc : CallR X (.type id) r) (hm : X.mg x = none) (hv : bootBuiltins x = some (.type id)) (ha : DA X T S (e :: es) ss S1) (hr : RCD T X.K r ss S1.cs s cs')
    (hg : Gl X x := by rfl) (hn : x ≠ "__name__" := by decide) (hdb : (x == ("__debug__" : Str)) = false := by decide)
    (he : starEach (e :: es) X.env = (false, eval e X.env) :: starEach es X.env := by rfl) (hpl : (backTo pos (starEach es X.env)).any (·.1) = false := by rfl) : DE X T S (.Call (.Name x p) (e :: es) [] pos) s ⟨S1.sl, cs'⟩ :=
  weak (pe_callTy hc hg hm hv ha hn hdb he hpl) fun _ _ _ h => call_then hr h
end
end Dl

namespace Dl
open PySem L2

/-! ### tests -/
def tDT (T : Tab) (K : PySem.W.Frag) (S : Sta) (b : Bool) (S' : Sta) : TT := fun σ H Q => ∃ ad F, Hold T K S ad F σ H ∧ ∀ H' ad', Ext ad F H ad' H' → Hold T K S' ad' F σ H' → Q b H'
def DT (X : Cx) (T : Tab) (S : Sta) (e : Expr) (b : Bool) (S' : Sta) : Prop := PT X e (tDT T X.K S b S')
def DW (X : Cx) (T : Tab) (S : Sta) (e : Expr) (b : Bool) (S' : Sta) : Prop := PW X e (tDT T X.K S b S')
theorem weakW {X : Cx} {e : Expr} {t t' : TT} (h : PW X e t) (q : ∀ σ H Q, t' σ H Q → t σ H Q) : PW X e t' := ⟨fun whole pins s σ H Q I z => h.run whole pins s σ H Q I (q σ H Q z)⟩
theorem noE {X : Cx} {e : Expr} : PE X e (fun _ _ _ => False) := ⟨fun _ _ _ _ _ _ h => h.elim⟩
theorem noW {X : Cx} {e : Expr} : PW X e (fun _ _ _ => False) := ⟨fun _ _ _ _ _ _ _ h => h.elim⟩
theorem noSs {X : Cx} {e : List Stmt} : PSs X e (fun _ _ _ => False) := ⟨fun _ _ _ _ _ _ h => h.elim⟩
section
variable {X : Cx} {T : Tab} {S S1 S2 S3 : Sta} {a b e c : Expr} {pos : Pos} {s s1 s2 : Sl} {cs cs' : List Cell} {d d1 d2 : D} {i j : Int} {k k1 k2 : Bool} {rest : List Expr}
theorem DW.pt (h : DW X T S e k S1) : DT X T S e k S1 := PW.pt h
theorem dt_val (h : DE X T S e (.dat (.bl k)) S1) (he : ∀ whole, isTrue e X.env whole = (do let v ← whole; standAt e.pos; holding [v] (truthy v)) := by intro _; rfl) : DT X T S e k S1 :=
  weakT (pt_val h he) fun σ H Q ⟨ad, F, h, q⟩ => ⟨ad, F, h, fun v H1 ad1 x1 h1 r1 => by cases r1; exact ⟨k, rfl, q H1 ad1 x1 h1⟩⟩
theorem dt_not (h : DT X T S a k S1) : DT X T S (.UnaryOp .Not a pos) (!k) S1 := weakT (pt_not h) fun σ H Q ⟨ad, F, h, q⟩ => ⟨ad, F, h, fun H1 ad1 x1 h1 => q H1 ad1 x1 h1⟩
theorem dw_and1 (h : DT X T S a k S1) : DW X T S (.BoolOp .And [a] pos) k S1 := pw_and1 h
theorem dw_or1 (h : DT X T S a k S1) : DW X T S (.BoolOp .Or [a] pos) k S1 := pw_or1 h
theorem dw_andT (ha : DT X T S a true S1) (hb : DW X T S1 (.BoolOp .And (b :: rest) pos) k S2) : DW X T S (.BoolOp .And (a :: b :: rest) pos) k S2 :=
  weakW (pw_and ha hb) fun σ H Q ⟨ad, F, h, q⟩ => ⟨ad, F, h, fun H1 ad1 x1 h1 => iteT ⟨ad1, F, h1, fun H2 ad2 x2 h2 => q H2 ad2 (x1.trans h1.hc x2) h2⟩⟩
theorem dw_andF (ha : DT X T S a false S1) : DW X T S (.BoolOp .And (a :: b :: rest) pos) false S1 :=
  weakW (pw_and ha noW) fun σ H Q ⟨ad, F, h, q⟩ => ⟨ad, F, h, fun H1 ad1 x1 h1 => iteF (q H1 ad1 x1 h1)⟩
theorem dw_orF (ha : DT X T S a false S1) (hb : DW X T S1 (.BoolOp .Or (b :: rest) pos) k S2) : DW X T S (.BoolOp .Or (a :: b :: rest) pos) k S2 :=
  weakW (pw_or ha hb) fun σ H Q ⟨ad, F, h, q⟩ => ⟨ad, F, h, fun H1 ad1 x1 h1 => iteF ⟨ad1, F, h1, fun H2 ad2 x2 h2 => q H2 ad2 (x1.trans h1.hc x2) h2⟩⟩
theorem dw_orT (ha : DT X T S a true S1) : DW X T S (.BoolOp .Or (a :: b :: rest) pos) true S1 :=
  weakW (pw_or ha noW) fun σ H Q ⟨ad, F, h, q⟩ => ⟨ad, F, h, fun H1 ad1 x1 h1 => iteT (q H1 ad1 x1 h1)⟩
/-- and, or: the state stays -/
theorem dw_and (ha : DT X T S a k1 S) (hb : k1 = true → DW X T S (.BoolOp .And (b :: rest) pos) k2 S) : DW X T S (.BoolOp .And (a :: b :: rest) pos) (k1 && k2) S := by
  cases k1 with
  | true => exact dw_andT ha (hb rfl)
  | false => exact dw_andF ha
theorem dw_or (ha : DT X T S a k1 S) (hb : k1 = false → DW X T S (.BoolOp .Or (b :: rest) pos) k2 S) : DW X T S (.BoolOp .Or (a :: b :: rest) pos) (k1 || k2) S := by
  cases k1 with
  | true => exact dw_orT ha
  | false => exact dw_orF ha (hb rfl)
/-! #### as values -/
theorem de_one {op} (h : DE X T S a s S1) : DE X T S (.BoolOp op [a] pos) s S1 := pe_one h
theorem de_andT (ha : DE X T S a (.dat (.bl true)) S1) (hb : DE X T S1 (.BoolOp .And (b :: rest) pos) s S2) : DE X T S (.BoolOp .And (a :: b :: rest) pos) s S2 :=
  weak (pe_and ha hb) fun σ H Q ⟨ad, F, h, q⟩ => ⟨ad, F, h, fun v H1 ad1 x1 h1 r1 => by cases r1; exact ⟨true, rfl, iteT ⟨ad1, F, h1, fun v2 H2 ad2 x2 h2 r2 => q v2 H2 ad2 (x1.trans h1.hc x2) h2 r2⟩⟩⟩
theorem de_andF (ha : DE X T S a (.dat (.bl false)) S1) : DE X T S (.BoolOp .And (a :: b :: rest) pos) (.dat (.bl false)) S1 :=
  weak (pe_and ha noE) fun σ H Q ⟨ad, F, h, q⟩ => ⟨ad, F, h, fun v H1 ad1 x1 h1 r1 => by cases r1; exact ⟨false, rfl, iteF (q _ H1 ad1 x1 h1 .bl)⟩⟩
theorem de_orF (ha : DE X T S a (.dat (.bl false)) S1) (hb : DE X T S1 (.BoolOp .Or (b :: rest) pos) s S2) : DE X T S (.BoolOp .Or (a :: b :: rest) pos) s S2 :=
  weak (pe_or ha hb) fun σ H Q ⟨ad, F, h, q⟩ => ⟨ad, F, h, fun v H1 ad1 x1 h1 r1 => by cases r1; exact ⟨false, rfl, iteF ⟨ad1, F, h1, fun v2 H2 ad2 x2 h2 r2 => q v2 H2 ad2 (x1.trans h1.hc x2) h2 r2⟩⟩⟩
theorem de_orT (ha : DE X T S a (.dat (.bl true)) S1) : DE X T S (.BoolOp .Or (a :: b :: rest) pos) (.dat (.bl true)) S1 :=
  weak (pe_or ha noE) fun σ H Q ⟨ad, F, h, q⟩ => ⟨ad, F, h, fun v H1 ad1 x1 h1 r1 => by cases r1; exact ⟨true, rfl, iteT (q _ H1 ad1 x1 h1 .bl)⟩⟩
theorem de_and (ha : DE X T S a (.dat (.bl k1)) S) (hb : k1 = true → DE X T S (.BoolOp .And (b :: rest) pos) (.dat (.bl k2)) S) : DE X T S (.BoolOp .And (a :: b :: rest) pos) (.dat (.bl (k1 && k2))) S := by
  cases k1 with
  | true => exact de_andT ha (hb rfl)
  | false => exact de_andF ha
theorem de_or (ha : DE X T S a (.dat (.bl k1)) S) (hb : k1 = false → DE X T S (.BoolOp .Or (b :: rest) pos) (.dat (.bl k2)) S) : DE X T S (.BoolOp .Or (a :: b :: rest) pos) (.dat (.bl (k1 || k2))) S := by
  cases k1 with
  | true => exact de_orT ha
  | false => exact de_orF ha (hb rfl)
theorem de_not (ha : DE X T S a (.dat (.bl k)) S1) : DE X T S (.UnaryOp .Not a pos) (.dat (.bl (!k))) S1 :=
  weak (pe_not ha) fun σ H Q ⟨ad, F, h, q⟩ => ⟨ad, F, h, fun v H1 ad1 x1 h1 r1 => by cases r1; exact ⟨k, rfl, q _ H1 ad1 x1 h1 .bl⟩⟩
theorem de_ifT (hc : DT X T S c true S1) (ha : DE X T S1 a s S2) : DE X T S (.IfExp c a b pos) s S2 :=
  weak (pe_ifExp hc ha noE) fun σ H Q ⟨ad, F, h, q⟩ => ⟨ad, F, h, fun H1 ad1 x1 h1 => iteT ⟨ad1, F, h1, fun v2 H2 ad2 x2 h2 r2 => q v2 H2 ad2 (x1.trans h1.hc x2) h2 r2⟩⟩
theorem de_ifF (hc : DT X T S c false S1) (hb : DE X T S1 b s S2) : DE X T S (.IfExp c a b pos) s S2 :=
  weak (pe_ifExp hc noE hb) fun σ H Q ⟨ad, F, h, q⟩ => ⟨ad, F, h, fun H1 ad1 x1 h1 => iteF ⟨ad1, F, h1, fun v2 H2 ad2 x2 h2 r2 => q v2 H2 ad2 (x1.trans h1.hc x2) h2 r2⟩⟩
theorem de_if (hc : DT X T S c k S1) (ha : k = true → DE X T S1 a (.dat d1) S2) (hb : k = false → DE X T S1 b (.dat d2) S2) : DE X T S (.IfExp c a b pos) (.dat (if k then d1 else d2)) S2 := by
  cases k with
  | true => exact de_ifT hc (ha rfl)
  | false => exact de_ifF hc (hb rfl)
end

/-! ### statements -/
/-- an error: the number of its class, its attributes -/
structure Exc where
  n : Nat
  fs : List D
def ExRep (T : Tab) (K : PySem.W.Frag) (M : Addr → Prop) (H : Hp) (cls : Value) (d : Option Addr) (x : Exc) : Prop :=
  ∃ C fn, T x.n = some (C, fn) ∧ cls = .ref C ∧ ((fn = [] ∧ x.fs = [] ∧ d = none) ∨ ∃ dd vs, d = some dd ∧ ¬ M dd ∧ H dd = some (.xd (fn.zip vs)) ∧ vs.length = fn.length ∧ Reps T K M H vs x.fs)
structure Post where
  nx : Sta → Prop
  rt : Sl → List Cell → Prop
  bk : Sta → Prop := fun _ => False
  ct : Sta → Prop := fun _ => False
  ex : Exc → Sta → Prop := fun _ _ => False
  W : WX := fun _ _ _ _ => False

structure ExtS (n : Nat) (ad : List Addr) (F : Addr → Prop) (H : Hp) (ad' : List Addr) (H' : Hp) : Prop where
  pre : ad'.take n = ad.take n
  sub : ∀ a ∈ ad', a ∈ ad ∨ H a = none
  keep : ∀ a o, H a = some o → ¬ Mm ad F a → H' a = some o
  frm : ∀ a, F a → Fr1 H H' a
theorem ExtS.refl {n : Nat} {ad : List Addr} {F : Addr → Prop} {H : Hp} : ExtS n ad F H ad H := ⟨rfl, fun _ h => .inl h, fun _ _ h _ => h, fun _ _ => .inl rfl⟩
theorem ExtS.kp {n : Nat} {ad ad1 : List Addr} {F : Addr → Prop} {H H1 : Hp} (x : ExtS n ad F H ad1 H1) : Kp (Mm ad F) H (Mm ad1 F) H1 := fun a o h n => by
  refine ⟨x.keep a o h n, fun z => ?_⟩
  rcases z with z | z
  · rcases x.sub a z with q | q
    · exact n (.inl q)
    · rw [q] at h; cases h
  · exact n (.inr z)
theorem ExtS.trans {n : Nat} {ad ad1 ad2 : List Addr} {F : Addr → Prop} {H H1 H2 : Hp} (x : ExtS n ad F H ad1 H1) (y : ExtS n ad1 F H1 ad2 H2) : ExtS n ad F H ad2 H2 := by
  refine ⟨y.pre.trans x.pre, fun a ha => ?_, fun a o h n => y.keep a o (x.keep a o h n) (x.kp a o h n).2, fun a fa => (x.frm a fa).trans (y.frm a fa)⟩
  rcases y.sub a ha with q | q
  · exact x.sub a q
  · cases e : H a with
    | none => exact .inr rfl
    | some o =>
      by_cases m : Mm ad F a
      · rcases m with m | m
        · exact .inl m
        · obtain ⟨o', e'⟩ := (x.frm a m).ex ⟨_, e⟩
          rw [e'] at q; cases q
      · rw [x.keep a o e m] at q; cases q
theorem Ext.s {n : Nat} {ad ad1 : List Addr} {F : Addr → Prop} {H H1 : Hp} (x : Ext ad F H ad1 H1) (hn : n ≤ ad.length) : ExtS n ad F H ad1 H1 := by
  obtain ⟨t, e, ht⟩ := x.pre
  refine ⟨by rw [e, List.take_append_of_le_length hn], fun a ha => ?_, x.keep, x.frm⟩
  rw [e] at ha
  exact (List.mem_append.mp ha).imp id (ht a)

def tDS (T : Tab) (K : PySem.W.Frag) (n : Nat) (S : Sta) (P : Post) : TS := fun D σ H => ∃ ad F, n ≤ ad.length ∧ Hold T K S ad F σ H ∧
  (∀ S' σ' H' ad', ExtS n ad F H ad' H' → n ≤ ad'.length → Hold T K S' ad' F σ' H' → P.nx S' → D.nx σ' H') ∧
  (∀ s cs' v H' ad', ExtS n ad F H ad' H' → n ≤ ad'.length → HoldC T K ad' F H' cs' → SlRep T K ad' F H' v s → P.rt s cs' → D.rt v H') ∧
  (∀ S' σ' H' ad', ExtS n ad F H ad' H' → n ≤ ad'.length → Hold T K S' ad' F σ' H' → P.bk S' → D.bk σ' H') ∧
  (∀ S' σ' H' ad', ExtS n ad F H ad' H' → n ≤ ad'.length → Hold T K S' ad' F σ' H' → P.ct S' → D.ct σ' H') ∧
  (∀ x S' cls d σ' H' ad', ExtS n ad F H ad' H' → n ≤ ad'.length → Hold T K S' ad' F σ' H' → ExRep T K (Mm ad' F) H' cls d x → P.ex x S' → P.W cls d σ' H')
def DS (X : Cx) (T : Tab) (n : Nat) (S : Sta) (st : Stmt) (P : Post) : Prop := PS X st (tDS T X.K n S P)
def DSs (X : Cx) (T : Tab) (n : Nat) (S : Sta) (sts : List Stmt) (P : Post) : Prop := PSs X sts (tDS T X.K n S P)

section
variable {X : Cx} {T : Tab} {n : Nat} {S S1 S2 S3 : Sta} {a b e c : Expr} {pos : Pos} {s s1 s2 : Sl} {cs cs' : List Cell} {d d1 d2 : D} {i j : Int} {k k1 k2 : Bool} {rest body els : List Stmt} {st : Stmt} {P : Post}

theorem dss_nil (h : P.nx S) : DSs X T n S [] P := weakSs pss_nil fun D σ H ⟨ad, F, hn, h0, q, _⟩ => q S σ H ad .refl hn h0 h
theorem dss_cons (h : DS X T n S st { P with nx := fun S' => DSs X T n S' rest P }) : DSs X T n S (st :: rest) P := by
  have h2 : PSs X rest (fun D σ H => ∃ S', DSs X T n S' rest P ∧ tDS T X.K n S' P D σ H) := ⟨fun pins s σ H D I ⟨S', hS, z⟩ => hS.run pins s σ H D I z⟩
  refine weakSs (pss_cons h h2) fun D σ H ⟨ad, F, hn, h0, q1, q2, q3, q4, q5⟩ => ⟨ad, F, hn, h0, fun S' σ' H' ad' x hn' h' hS => ⟨S', hS, ad', F, hn', h', ?_, ?_, ?_, ?_, ?_⟩, q2, q3, q4, q5⟩
  · exact fun S2 σ2 H2 ad2 x2 hn2 h2 p => q1 S2 σ2 H2 ad2 (x.trans x2) hn2 h2 p
  · exact fun s cs2 v H2 ad2 x2 hn2 c2 r p => q2 s cs2 v H2 ad2 (x.trans x2) hn2 c2 r p
  · exact fun S2 σ2 H2 ad2 x2 hn2 h2 p => q3 S2 σ2 H2 ad2 (x.trans x2) hn2 h2 p
  · exact fun S2 σ2 H2 ad2 x2 hn2 h2 p => q4 S2 σ2 H2 ad2 (x.trans x2) hn2 h2 p
  · exact fun z S2 cls d σ2 H2 ad2 x2 hn2 h2 r p => q5 z S2 cls d σ2 H2 ad2 (x.trans x2) hn2 h2 r p
theorem Ext.le {ad ad1 : List Addr} {F : Addr → Prop} {H H1 : Hp} (x : Ext ad F H ad1 H1) (h : n ≤ ad.length) : n ≤ ad1.length := by
  obtain ⟨t, e, _⟩ := x.pre
  rw [e, List.length_append]
  omega
/-- the state behind, seen with other ends -/
theorem tDS.go {K : PySem.W.Frag} {D : Ends} {σ σ' : St} {H H1 : Hp} {ad ad1 : List Addr} {F : Addr → Prop} (x : ExtS n ad F H ad1 H1) (hn : n ≤ ad1.length) (h : Hold T K S1 ad1 F σ' H1)
    (q1 : ∀ S' σ' H' ad', ExtS n ad F H ad' H' → n ≤ ad'.length → Hold T K S' ad' F σ' H' → P.nx S' → D.nx σ' H')
    (q2 : ∀ s cs' v H' ad', ExtS n ad F H ad' H' → n ≤ ad'.length → HoldC T K ad' F H' cs' → SlRep T K ad' F H' v s → P.rt s cs' → D.rt v H')
    (q3 : ∀ S' σ' H' ad', ExtS n ad F H ad' H' → n ≤ ad'.length → Hold T K S' ad' F σ' H' → P.bk S' → D.bk σ' H')
    (q4 : ∀ S' σ' H' ad', ExtS n ad F H ad' H' → n ≤ ad'.length → Hold T K S' ad' F σ' H' → P.ct S' → D.ct σ' H')
    (q5 : ∀ x S' cls d σ' H' ad', ExtS n ad F H ad' H' → n ≤ ad'.length → Hold T K S' ad' F σ' H' → ExRep T K (Mm ad' F) H' cls d x → P.ex x S' → P.W cls d σ' H') : tDS T K n S1 P D σ' H1 :=
  ⟨ad1, F, hn, h, fun S2 σ2 H2 ad2 x2 hn2 h2 p => q1 S2 σ2 H2 ad2 (x.trans x2) hn2 h2 p, fun s cs2 v H2 ad2 x2 hn2 c2 r p => q2 s cs2 v H2 ad2 (x.trans x2) hn2 c2 r p,
    fun S2 σ2 H2 ad2 x2 hn2 h2 p => q3 S2 σ2 H2 ad2 (x.trans x2) hn2 h2 p, fun S2 σ2 H2 ad2 x2 hn2 h2 p => q4 S2 σ2 H2 ad2 (x.trans x2) hn2 h2 p,
    fun z S2 cls d σ2 H2 ad2 x2 hn2 h2 r p => q5 z S2 cls d σ2 H2 ad2 (x.trans x2) hn2 h2 r p⟩
theorem ds_pass (h : P.nx S) : DS X T n S (.Pass pos) P := weakS ps_pass fun D σ H ⟨ad, F, hn, h0, q, _⟩ => q S σ H ad .refl hn h0 h
theorem ds_break (h : P.bk S) : DS X T n S (.Break pos) P := weakS ps_break fun D σ H ⟨ad, F, hn, h0, _, _, q, _⟩ => q S σ H ad .refl hn h0 h
theorem ds_continue (h : P.ct S) : DS X T n S (.Continue pos) P := weakS ps_continue fun D σ H ⟨ad, F, hn, h0, _, _, _, q, _⟩ => q S σ H ad .refl hn h0 h
theorem Hold.set {K : PySem.W.Frag} {ad : List Addr} {F : Addr → Prop} {σ : St} {H : Hp} {v : V} (h : Hold T K S ad F σ H) (r : SlRep T K ad F H v s) (i : Nat) : Hold T K ⟨S.sl.set i (some s), S.cs⟩ ad F (σ.set i (some v)) H := by
  refine ⟨h.hc, by simp [h.sz], fun j u e => ?_⟩
  by_cases hj : i = j
  · subst hj
    have hl : i < S.sl.length := by
      have := (List.getElem?_eq_some_iff.mp e).1
      simpa using this
    rw [List.getElem?_set_self hl] at e
    cases e
    exact ⟨v, by rw [List.getElem?_set_self (by rw [h.sz]; exact hl)], r⟩
  · rw [List.getElem?_set_ne hj] at e
    obtain ⟨w, hw, rw'⟩ := h.sl j u e
    exact ⟨w, by rw [List.getElem?_set_ne hj]; exact hw, rw'⟩
theorem ds_asg (i : Nat) {x : Str} {p' : Pos} (hN : X.N.Nodup) (he : DE X T S e s S1) (h : P.nx ⟨S1.sl.set i (some s), S1.cs⟩) (hi : X.N[i]? = some x := by rfl) (hx : Loc X.env.scope x := by first | exact Or.inl rfl | exact Or.inr rfl)
    (hs : swapsWith e (some (.Name x p')) pos.line X.env = pure false := by rfl) (hf : X.fn x = true ∨ X.env.scope.names.lookup x = some .local := by first | exact .inl rfl | exact .inr rfl) : DS X T n S (.Assign [.Name x p'] e pos) P :=
  weakS (ps_set hN hi hx he hs hf) fun D σ H ⟨ad, F, hn, h0, q, _⟩ => ⟨ad, F, h0, fun v H1 ad1 x1 h1 r1 => q _ _ H1 ad1 (x1.s hn) (x1.le hn) (h1.set r1 i) h⟩
theorem ds_expr (he : DE X T S e s S1) (h : P.nx S1) (hs : swapsWith e none pos.line X.env = pure false := by rfl) : DS X T n S (.Expr e pos) P :=
  weakS (ps_expr he hs) fun D σ H ⟨ad, F, hn, h0, q, _⟩ => ⟨ad, F, h0, fun v H1 ad1 x1 h1 r1 => q S1 σ H1 ad1 (x1.s hn) (x1.le hn) h1 h⟩
/-- return of data: the def's own cells are dropped -/
theorem ds_ret (he : DE X T S e (.dat d) S1) (h : P.rt (.dat d) (S1.cs.take n)) : DS X T n S (.Return (some e) pos) P :=
  weakS (ps_ret he) fun D σ H ⟨ad, F, hn, h0, _, q, _⟩ => ⟨ad, F, h0, fun v H1 ad1 x1 h1 r1 => by
    have xs := x1.s hn
    have hn1 := x1.le hn
    have kp : Kp (Mm ad1 F) H1 (Mm (ad1.take n) F) H1 := fun a o e z => ⟨e, fun y => z (y.imp List.mem_of_mem_take id)⟩
    refine q (.dat d) _ v H1 (ad1.take n) ⟨by rw [List.take_take, Nat.min_self]; exact xs.pre, fun a ha => xs.sub a (List.mem_of_mem_take ha), xs.keep, xs.frm⟩ (by rw [List.length_take]; omega) (h1.hc.take n) (Rep.kp kp r1) h⟩
theorem ds_retN (h : P.rt (.dat .non) (S.cs.take n)) : DS X T n S (.Return none pos) P :=
  weakS ps_retN fun D σ H ⟨ad, F, hn, h0, _, q, _⟩ => by
    refine q (.dat .non) _ .non H (ad.take n) ⟨by rw [List.take_take, Nat.min_self], fun a ha => .inl (List.mem_of_mem_take ha), fun _ _ e _ => e, fun _ _ => .inl rfl⟩ (by rw [List.length_take]; omega) (h0.hc.take n) Rep.non h
/-- return of a new cell -/
theorem ds_retC (m : Nat) {k : Nat} (he : DE X T S e (.cel k) S1) (hm : n ≤ m) (hk : k < m) (h : P.rt (.cel k) (S1.cs.take m)) : DS X T n S (.Return (some e) pos) P :=
  weakS (ps_ret he) fun D σ H ⟨ad, F, hn, h0, _, q, _⟩ => ⟨ad, F, h0, fun v H1 ad1 x1 h1 r1 => by
    have xs := x1.s hn
    have hn1 := x1.le hn
    obtain ⟨a, ha, hv⟩ := r1
    refine q (.cel k) _ v H1 (ad1.take m) ⟨by rw [List.take_take, Nat.min_eq_left hm]; exact xs.pre, fun a ha => xs.sub a (List.mem_of_mem_take ha), xs.keep, xs.frm⟩ (by rw [List.length_take]; omega) (h1.hc.take m) ⟨a, by rw [List.getElem?_take_of_lt hk]; exact ha, hv⟩ h⟩
/-- return of a cell of the def's own, as data -/
theorem ds_retF {k : Nat} {ds : List D} (he : DE X T S e (.cel k) S1) (hk : n ≤ k) (hc : S1.cs[k]? = some (.lst ds)) (h : P.rt (.dat (.lst ds)) (S1.cs.take n)) : DS X T n S (.Return (some e) pos) P :=
  weakS (ps_ret he) fun D σ H ⟨ad, F, hn, h0, _, q, _⟩ => ⟨ad, F, h0, fun v H1 ad1 x1 h1 r1 => by
    have xs := x1.s hn
    have hn1 := x1.le hn
    obtain ⟨a, ha, rfl⟩ := r1
    have kp : Kp (Mm ad1 F) H1 (Mm (ad1.take n) F) H1 := fun a o e z => ⟨e, fun y => z (y.imp List.mem_of_mem_take id)⟩
    obtain ⟨vs, e1, r⟩ := h1.hc.ce k a _ ha hc
    have na : ¬ Mm (ad1.take n) F a := fun y => by
      rcases y with y | y
      · obtain ⟨m, hm, em⟩ := List.getElem_of_mem y
        have hm' : m < n := by rw [List.length_take] at hm; omega
        rw [List.getElem_take] at em
        have hm2 : m < ad1.length := by omega
        have := ix_inj (j := m) h1.hc.nd ha (by rw [List.getElem?_eq_getElem hm2, em])
        omega
      · exact h1.hc.fr a (List.mem_of_getElem? ha) y
    refine q (.dat (.lst ds)) _ _ H1 (ad1.take n) ⟨by rw [List.take_take, Nat.min_self]; exact xs.pre, fun a ha => xs.sub a (List.mem_of_mem_take ha), xs.keep, xs.frm⟩ (by rw [List.length_take]; omega) (h1.hc.take n) (Rep.lst na e1 (r.kp kp)) h⟩
theorem ds_if (hc : DT X T S c k S1) (h1 : k = true → DSs X T n S1 body P) (h2 : k = false → DSs X T n S1 els P) : DS X T n S (.If c body els pos) P := by
  cases k with
  | true => exact weakS (ps_if hc (h1 rfl) noSs) fun D σ H ⟨ad, F, hn, h0, q1, q2, q3, q4, q5⟩ => ⟨ad, F, h0, fun H1 ad1 x1 h1 => iteT (tDS.go (σ := σ) (x1.s hn) (x1.le hn) h1 q1 q2 q3 q4 q5)⟩
  | false => exact weakS (ps_if hc noSs (h2 rfl)) fun D σ H ⟨ad, F, hn, h0, q1, q2, q3, q4, q5⟩ => ⟨ad, F, h0, fun H1 ad1 x1 h1 => iteF (tDS.go (σ := σ) (x1.s hn) (x1.le hn) h1 q1 q2 q3 q4 q5)⟩
theorem ds_mono {P' : Post} (h : DS X T n S st P) (h1 : ∀ S, P.nx S → P'.nx S) (h2 : ∀ s cs, P.rt s cs → P'.rt s cs) (h3 : ∀ S, P.bk S → P'.bk S) (h4 : ∀ S, P.ct S → P'.ct S) (h5 : ∀ x S, P.ex x S → P'.ex x S) (hW : P'.W = P.W) : DS X T n S st P' :=
  weakS h fun D σ H ⟨ad, F, hn, h0, q1, q2, q3, q4, q5⟩ => ⟨ad, F, hn, h0, fun S2 σ2 H2 ad2 x2 hn2 h2' p => q1 S2 σ2 H2 ad2 x2 hn2 h2' (h1 _ p), fun s cs2 v H2 ad2 x2 hn2 c2 r p => q2 s cs2 v H2 ad2 x2 hn2 c2 r (h2 _ _ p),
    fun S2 σ2 H2 ad2 x2 hn2 h2' p => q3 S2 σ2 H2 ad2 x2 hn2 h2' (h3 _ p), fun S2 σ2 H2 ad2 x2 hn2 h2' p => q4 S2 σ2 H2 ad2 x2 hn2 h2' (h4 _ p),
    fun z S2 cls d σ2 H2 ad2 x2 hn2 h2' r p => by rw [← hW]; exact q5 z S2 cls d σ2 H2 ad2 x2 hn2 h2' r (h5 _ _ p)⟩
theorem dss_mono {sts : List Stmt} {P' : Post} (h : DSs X T n S sts P) (h1 : ∀ S, P.nx S → P'.nx S) (h2 : ∀ s cs, P.rt s cs → P'.rt s cs) (h3 : ∀ S, P.bk S → P'.bk S) (h4 : ∀ S, P.ct S → P'.ct S) (h5 : ∀ x S, P.ex x S → P'.ex x S) (hW : P'.W = P.W) : DSs X T n S sts P' :=
  weakSs h fun D σ H ⟨ad, F, hn, h0, q1, q2, q3, q4, q5⟩ => ⟨ad, F, hn, h0, fun S2 σ2 H2 ad2 x2 hn2 h2' p => q1 S2 σ2 H2 ad2 x2 hn2 h2' (h1 _ p), fun s cs2 v H2 ad2 x2 hn2 c2 r p => q2 s cs2 v H2 ad2 x2 hn2 c2 r (h2 _ _ p),
    fun S2 σ2 H2 ad2 x2 hn2 h2' p => q3 S2 σ2 H2 ad2 x2 hn2 h2' (h3 _ p), fun S2 σ2 H2 ad2 x2 hn2 h2' p => q4 S2 σ2 H2 ad2 x2 hn2 h2' (h4 _ p),
    fun z S2 cls d σ2 H2 ad2 x2 hn2 h2' r p => by rw [← hW]; exact q5 z S2 cls d σ2 H2 ad2 x2 hn2 h2' r (h5 _ _ p)⟩
/-- slots and cells at the end may be forgotten -/
theorem dss_forget {sts : List Stmt} {sl' : List (Option Sl)} (m : Nat) (h : DSs X T n ⟨sl', S.cs.take m⟩ sts P) (hm : n ≤ m) (hl : sl'.length = S.sl.length) (hs : ∀ (i : Nat) s, sl'[i]? = some (some s) → S.sl[i]? = some (some s) ∧ (∀ k, s = .cel k → k < m)) : DSs X T n S sts P :=
  weakSs h fun D σ H ⟨ad, F, hn, h0, q1, q2, q3, q4, q5⟩ => by
    have kp : Kp (Mm ad F) H (Mm (ad.take m) F) H := fun a o e z => ⟨e, fun y => z (y.imp List.mem_of_mem_take id)⟩
    have x : ExtS n ad F H (ad.take m) H := ⟨by rw [List.take_take, Nat.min_eq_left hm], fun a ha => .inl (List.mem_of_mem_take ha), fun _ _ e _ => e, fun _ _ => .inl rfl⟩
    refine tDS.go (σ := σ) x (by rw [List.length_take]; omega) ⟨h0.hc.take m, by rw [h0.sz, hl], fun i s e => ?_⟩ q1 q2 q3 q4 q5
    obtain ⟨e1, e2⟩ := hs i s e
    obtain ⟨v, hv, r⟩ := h0.sl i s e1
    refine ⟨v, hv, ?_⟩
    cases s with
    | dat d => exact Rep.kp kp r
    | cel k =>
      obtain ⟨a, ha, ev⟩ := r
      exact ⟨a, by rw [List.getElem?_take_of_lt (e2 k rfl)]; exact ha, ev⟩
end

/-! ### defs -/
/-- a contract: arguments, the cells handed in; the answer, the cells behind -/
abbrev Ct := List Sl → List Cell → Sl → List Cell → Prop
def spC (T : Tab) (K : PySem.W.Frag) (c : Ct) : Sp := fun vs H Q _ => ∃ ad F args cs s cs', HoldC T K ad F H cs ∧ SlReps T K ad F H vs args ∧ c args cs s cs' ∧
  ∀ v H' ad', ExtS cs.length ad F H ad' H' → cs.length ≤ ad'.length → HoldC T K ad' F H' cs' → SlRep T K ad' F H' v s → Q v H'
theorem start_hold {T : Tab} {K : PySem.W.Frag} {N : List Str} {ad : List Addr} {F : Addr → Prop} {H : Hp} {vs : List V} {args : List Sl} {cs : List Cell} (hc : HoldC T K ad F H cs) (r : SlReps T K ad F H vs args) :
    Hold T K ⟨args.map some ++ List.replicate (N.length - args.length) none, cs⟩ ad F (L2.start N vs) H := by
  have hl := r.len
  refine ⟨hc, by unfold L2.start; simp [hl], fun i s e => ?_⟩
  have hi : i < args.length := by
    by_cases hi : i < args.length
    · exact hi
    · have e : (args.map some ++ List.replicate (N.length - args.length) none)[i]? = some (some s) := e
      rw [List.getElem?_append_right (by simpa using hi), List.getElem?_replicate] at e
      split at e <;> cases e
  have e : (args.map some ++ List.replicate (N.length - args.length) none)[i]? = some (some s) := e
  rw [List.getElem?_append_left (by simpa using hi), List.getElem?_map] at e
  have ea : args[i]? = some s := by
    cases q : args[i]? with
    | none => rw [q] at e; cases e
    | some z => rw [q] at e; cases e; rfl
  have get : ∀ {vs : List V} {args : List Sl} {i : Nat}, SlReps T K ad F H vs args → args[i]? = some s → ∃ v, vs[i]? = some v ∧ SlRep T K ad F H v s := by
    intro vs args
    induction args generalizing vs with
    | nil => intro i _ e; simp at e
    | cons a args ih =>
      intro i r e
      cases vs with
      | nil => exact r.elim
      | cons v vs =>
        cases i with
        | zero => simp at e; subst e; exact ⟨v, rfl, r.1⟩
        | succ i => simpa using ih r.2 (by simpa using e)
  obtain ⟨v, hv, rv⟩ := get r ea
  refine ⟨v, ?_, rv⟩
  unfold L2.start
  rw [List.getElem?_append_left (by simpa using (hl ▸ hi : i < vs.length)), List.getElem?_map, hv]
  rfl
section
variable {T : Tab} {P : Program} {w : World} {K : PySem.W.Frag} {mg : Str → Option Value} {base : Heap}
/-- the state at a def's entry -/
abbrev st0 (N : List Str) (args : List Sl) (cs : List Cell) : Sta := ⟨args.map some ++ List.replicate (N.length - args.length) none, cs⟩
/-- what is to be shown at a def's end -/
abbrev endOf (n : Nat) (s : Sl) (cs' : List Cell) : Post := { nx := fun S => s = .dat .non ∧ S.cs.take n = cs', rt := fun r c => r = s ∧ c = cs' }
/-- a def's own context -/
abbrev cx0 (P : Program) (w : World) (K : PySem.W.Frag) (mg : Str → Option Value) (base : Heap) (N : List Str) (qual : Str) (st : Stmt) (f : Addr) (cdv : Value) (A : Around) (outer : List Env) (s : Shared) (H : Hp) (E : XK) : Cx := (cxOf CX0 P w K mg base N qual (defScope st) f cdv A outer s H E).nox
theorem fn_ok {x qual : Str} {st : Stmt} {f : Addr} {fd : FuncData} {N ps : List Str} {k : Nat} {c : Ct} (F : Fun K x qual st f fd) (Sc : FnScope N ps (defScope st)) (len : ∀ args cs s cs', c args cs s cs' → args.length = ps.length)
    (body : ∀ cdv A outer sh H E, Room k (cx0 P w K mg base N qual st f cdv A outer sh H E).A → ∀ args cs s cs', c args cs s cs' →
      DSs (cx0 P w K mg base N qual st f cdv A outer sh H E) T cs.length (st0 N args cs) (defBody st) (endOf cs.length s cs')) : FnOk P w K mg base CX0 (k + 1) f fd ps (spC T K c) := by
  refine F.ok Sc (fun vs H Q E h => ?_) (fun cdv A outer s H vs Q E hr h => ?_)
  · obtain ⟨ad, F', args, cs, s, cs', _, r, hc, _⟩ := h
    rw [r.len, len _ _ _ _ hc]
  · obtain ⟨ad, F', args, cs, s0, cs', hc, r, h, q⟩ := h
    refine ⟨_, body cdv A outer s H E hr args cs s0 cs' h, ad, F', Nat.le_of_eq hc.ln.symm, start_hold hc r, ?_, ?_, fun _ _ _ _ _ _ _ z => z.elim, fun _ _ _ _ _ _ _ z => z.elim, fun _ _ _ _ _ _ _ _ _ _ _ z => z.elim⟩
    · rintro S' σ' H' ad' x hn h' ⟨rfl, e⟩
      subst e
      refine q .non H' (ad'.take cs.length) ⟨by rw [List.take_take, Nat.min_self]; exact x.pre, fun a ha => x.sub a (List.mem_of_mem_take ha), x.keep, x.frm⟩ (by rw [List.length_take]; omega) (h'.hc.take _) Rep.non
    · rintro s2 cs2 v H' ad' x hn c2 r2 ⟨rfl, rfl⟩
      exact q v H' ad' x hn c2 r2
end
end Dl

namespace Dl
open PySem L2

/-! ### calls of defs -/
section
variable {T : Tab} {K : PySem.W.Frag} {F : Addr → Prop} {ad ad' : List Addr} {H H' : Hp} {cs cs' : List Cell} {v : V} {d : D} {s : Sl} {k : Nat} {c0 c1 : Cell} {a : Addr}
/-- a callee that gets no cell -/
theorem frame0 (h : HoldC T K ad F H cs) : HoldC T K [] (Mm ad F) H [] := ⟨List.nodup_nil, fun _ z => (nomatch z), fun a z => z.elim (fun z => h.mem z) (h.al a), h.tb.to (fun _ z => .inr z) fun a z => z.elim (fun y => .inr (h.isx y)) .inl, rfl, fun k a c e => nomatch e⟩
theorem kp_in (h : HoldC T K ad F H cs) : Kp (Mm ad F) H (Mm [] (Mm ad F)) H := fun a o e n => ⟨e, fun z => n (Or.resolve_left z (by simp))⟩
theorem kp_out {ad2 : List Addr} : Kp (Mm ad2 (Mm ad F)) H (Mm ad F) H := fun a o e n => ⟨e, fun z => n (.inr z)⟩
theorem SlReps.kp {M : Addr → Prop} {ad2 : List Addr} {F2 : Addr → Prop} {H2 : Hp} (k : Kp (Mm ad F) H (Mm ad2 F2) H2) : ∀ {vs : List V} {ds : List D}, SlReps T K ad F H vs (ds.map Sl.dat) → SlReps T K ad2 F2 H2 vs (ds.map Sl.dat)
  | [], [], _ => trivial
  | _ :: _, _ :: _, h => ⟨Rep.kp k h.1, SlReps.kp (M := M) k h.2⟩
/-- .. behind it -/
theorem back0 (h : HoldC T K ad F H cs) {ad2 : List Addr} {n : Nat} (t2 : TbOk T (Mm ad F) H') (x : ExtS n [] (Mm ad F) H ad2 H') : HoldC T K ad F H' cs ∧ Ext ad F H ad H' := by
  have e : Ext ad F H ad H' := ⟨⟨[], by simp, fun _ z => nomatch z⟩, fun a o e n => x.keep a o e fun z => n (Or.resolve_left z (by simp)), fun a fa => x.frm a (.inr fa)⟩
  refine ⟨⟨h.nd, h.fr, fun a fa => ?_, h.tb.back (fun _ z => .inr z) t2, h.ln, fun k a c h1 h2 => ?_⟩, e⟩
  · exact (e.frm a fa).ex (h.al a fa)
  · exact (h.ce k a c h1 h2).kp1 e.kp (x.frm a (.inl (List.mem_of_getElem? h1)))
/-- a callee that gets the cell k -/
def Fk (ad : List Addr) (F : Addr → Prop) (a : Addr) : Addr → Prop := fun b => F b ∨ (b ∈ ad ∧ b ≠ a)
theorem mm_k (ha : a ∈ ad) (b : Addr) : Mm [a] (Fk ad F a) b ↔ Mm ad F b := by
  constructor
  · rintro (z | z | z)
    · rw [List.mem_singleton.mp z]; exact .inl ha
    · exact .inr z
    · exact .inl z.1
  · rintro (z | z)
    · by_cases e : b = a
      · exact .inl (by rw [e]; exact List.mem_singleton_self _)
      · exact .inr (.inr ⟨z, e⟩)
    · exact .inr (.inl z)
theorem frame1 (h : HoldC T K ad F H cs) (ha : ad[k]? = some a) (hc : cs[k]? = some c0) : HoldC T K [a] (Fk ad F a) H [c0] := by
  have hm : a ∈ ad := List.mem_of_getElem? ha
  refine ⟨by simp, fun b hb z => ?_, fun b z => ?_, ?_, rfl, fun j b c e1 e2 => ?_⟩
  · have := List.mem_singleton.mp hb
    subst this
    rcases z with z | z
    · exact h.fr _ hm z
    · exact z.2 rfl
  · rcases z with z | z
    · exact h.al b z
    · exact h.mem z.1
  · exact h.tb.to (fun _ z => .inl z) fun b z => z.imp id fun y => h.isx y.1
  · cases j with
    | zero =>
      simp at e1 e2
      subst e1 e2
      refine (h.ce k a _ ha hc).kp (fun b o e n => ⟨e, fun z => n ((mm_k hm b).mp z)⟩) rfl
    | succ j => simp at e1
theorem back1 (h : HoldC T K ad F H cs) (ha : ad[k]? = some a) (x : ExtS 1 [a] (Fk ad F a) H [a] H') (c : HoldC T K [a] (Fk ad F a) H' [c1]) : HoldC T K ad F H' (cs.set k c1) ∧ Ext ad F H ad H' := by
  have hm : a ∈ ad := List.mem_of_getElem? ha
  have e : Ext ad F H ad H' := ⟨⟨[], by simp, fun _ z => nomatch z⟩, fun b o e n => x.keep b o e fun z => n ((mm_k hm b).mp z), fun b fb => x.frm b (.inl fb)⟩
  refine ⟨⟨h.nd, h.fr, fun b fb => ?_, h.tb.back (fun _ z => .inl z) c.tb, by simp [h.ln], fun j b c' h1 h2 => ?_⟩, e⟩
  · exact (e.frm b fb).ex (h.al b fb)
  · by_cases hj : k = j
    · subst hj
      have hlt : k < cs.length := by rw [← h.ln]; exact (List.getElem?_eq_some_iff.mp ha).1
      rw [List.getElem?_set_self hlt] at h2
      rw [ha] at h1
      cases h1; cases h2
      exact (c.ce 0 a _ rfl rfl).kp (fun b o e n => ⟨e, fun z => n ((mm_k hm b).mpr z)⟩) rfl
    · rw [List.getElem?_set_ne hj] at h2
      have hb : b ≠ a := fun z => hj (ix_inj h.nd ha (z ▸ h1))
      exact (h.ce j b c' h1 h2).kp1 e.kp (x.frm b (.inr ⟨List.mem_of_getElem? h1, hb⟩))
end

/-- the cells of the arguments by the callee's numbers -/
def low : Sl → Sl
  | .dat d => .dat d
  | .cel _ => .cel 0
def onlyCell (k : Nat) : Sl → Bool
  | .dat _ => true
  | .cel j => j == k
theorem low_reps {T : Tab} {K : PySem.W.Frag} {F : Addr → Prop} {ad : List Addr} {H : Hp} {k : Nat} {a : Addr} (ha : ad[k]? = some a) : ∀ {vs : List V} {ss : List Sl}, ss.all (onlyCell k) = true → SlReps T K ad F H vs ss → SlReps T K [a] (Fk ad F a) H vs (ss.map low)
  | [], [], _, _ => trivial
  | v :: vs, s :: ss, h, r => by
    rw [List.all_cons, Bool.and_eq_true] at h
    refine ⟨?_, low_reps ha h.2 r.2⟩
    have r1 := r.1
    cases s with
    | dat d => exact Rep.kp (fun b o e n => ⟨e, fun z => n ((mm_k (List.mem_of_getElem? ha) b).mp z)⟩) r1
    | cel j =>
      obtain ⟨b, hb, ev⟩ := r1
      have hj : j = k := beq_iff_eq.mp h.1
      subst hj
      rw [ha] at hb
      cases hb
      exact ⟨a, rfl, ev⟩
section
variable {X : Cx} {T : Tab} {S S1 S2 : Sta} {e : Expr} {es : List Expr} {pos p : Pos} {x : Str} {f : Addr} {fd : FuncData} {ps : List Str} {k : Nat} {c : Ct} {ds : List D} {d : D} {ss : List Sl} {c0 c1 : Cell}
theorem spC0 {K : PySem.W.Frag} {ad : List Addr} {F : Addr → Prop} {H : Hp} {cs : List Cell} {vs : List V} {Q : VK} {E : XK} (hc : c (ds.map Sl.dat) [] (.dat d) []) (h : HoldC T K ad F H cs) (r : SlReps T K ad F H vs (ds.map Sl.dat))
    (q : ∀ v H', Ext ad F H ad H' → HoldC T K ad F H' cs → SlRep T K ad F H' v (.dat d) → Q v H') : spC T K c vs H Q E := by
  refine ⟨[], Mm ad F, ds.map Sl.dat, [], .dat d, [], frame0 h, SlReps.kp (M := fun _ => False) (kp_in h) r, hc, fun v H' ad' x hn c2 r2 => ?_⟩
  obtain ⟨c3, x3⟩ := back0 h c2.tb x
  exact q v H' x3 c3 (Rep.kp kp_out r2)
theorem spC1 {K : PySem.W.Frag} {ad : List Addr} {F : Addr → Prop} {H : Hp} {cs : List Cell} {vs : List V} {Q : VK} {E : XK} {j : Nat} (hj : cs[j]? = some c0) (ho : ss.all (onlyCell j) = true) (hc : c (ss.map low) [c0] (.dat d) [c1]) (h : HoldC T K ad F H cs) (r : SlReps T K ad F H vs ss)
    (q : ∀ v H', Ext ad F H ad H' → HoldC T K ad F H' (cs.set j c1) → SlRep T K ad F H' v (.dat d) → Q v H') : spC T K c vs H Q E := by
  have hlt : j < ad.length := by rw [h.ln]; exact (List.getElem?_eq_some_iff.mp hj).1
  have ha : ad[j]? = some ad[j] := List.getElem?_eq_getElem hlt
  refine ⟨[ad[j]], Fk ad F ad[j], ss.map low, [c0], .dat d, [c1], frame1 h ha hj, low_reps ha ho r, hc, fun v H' ad' x hn c2 r2 => ?_⟩
  have e : ad' = [ad[j]] := by
    have h1 : ad'.length = 1 := c2.ln
    have h2 : ad'.take 1 = [ad[j]] := x.pre
    rw [List.take_of_length_le (by omega)] at h2
    exact h2
  subst e
  obtain ⟨c3, x3⟩ := back1 h ha x c2
  exact q v H' x3 c3 (Rep.kp (fun b o e n => ⟨e, fun z => n ((mm_k (List.mem_of_getElem? ha) b).mpr z)⟩) r2)
theorem spCN {K : PySem.W.Frag} {ad : List Addr} {F : Addr → Prop} {H : Hp} {cs : List Cell} {vs : List V} {Q : VK} {E : XK} (hc : c (ds.map Sl.dat) [] (.cel 0) [c0]) (h : HoldC T K ad F H cs) (r : SlReps T K ad F H vs (ds.map Sl.dat))
    (q : ∀ v H' a, Ext ad F H (ad ++ [a]) H' → HoldC T K (ad ++ [a]) F H' (cs ++ [c0]) → v = .ref a → Q v H') : spC T K c vs H Q E := by
  refine ⟨[], Mm ad F, ds.map Sl.dat, [], .cel 0, [c0], frame0 h, SlReps.kp (M := fun _ => False) (kp_in h) r, hc, fun v H' ad' x hn c2 r2 => ?_⟩
  obtain ⟨c3, x3⟩ := back0 h c2.tb x
  obtain ⟨a, ha, rfl⟩ := r2
  have e : ad' = [a] := by
    have h1 : ad'.length = 1 := c2.ln
    match ad', h1, ha with
    | [b], _, ha => simpa using ha
  subst e
  have na : H a = none := (x.sub a (List.mem_singleton_self _)).elim (fun z => absurd z (by simp)) id
  have nm : ¬ Mm ad F a := c2.fr a (List.mem_singleton_self _)
  have x4 : Ext ad F H (ad ++ [a]) H' := ⟨⟨[a], rfl, fun b hb => by rw [List.mem_singleton.mp hb]; exact na⟩, x3.keep, x3.frm⟩
  have kp2 : Kp (Mm ad F) H' (Mm (ad ++ [a]) F) H' → True := fun _ => trivial
  refine q _ H' a x4 ⟨?_, fun b hb fb => ?_, c3.al, c3.tb, by simp [h.ln], fun j b c' h1 h2 => ?_⟩ rfl
  · rw [List.nodup_append]
    refine ⟨h.nd, by simp, fun b hb b' hb' e => ?_⟩
    rw [List.mem_singleton.mp hb'] at e
    exact nm (.inl (e ▸ hb))
  · rcases List.mem_append.mp hb with z | z
    · exact h.fr b z fb
    · rw [List.mem_singleton.mp z] at fb; exact nm (.inr fb)
  · by_cases hj : j < ad.length
    · rw [List.getElem?_append_left hj] at h1
      rw [List.getElem?_append_left (by rw [← h.ln]; exact hj)] at h2
      exact (h.ce j b c' h1 h2).kp1 x4.kp (x.frm b (.inl (List.mem_of_getElem? h1)))
    · have hj' : j = ad.length := by
        have := (List.getElem?_eq_some_iff.mp h1).1
        simp at this
        omega
      subst hj'
      rw [List.getElem?_append_right (Nat.le_refl _)] at h1
      rw [h.ln, List.getElem?_append_right (Nat.le_refl _)] at h2
      simp at h1 h2
      subst h1 h2
      refine (c2.ce 0 a _ rfl rfl).kp (fun b o e n => ⟨e, fun z => n ?_⟩) rfl
      rcases z with z | z
      · rcases List.mem_append.mp z with z | z
        · exact .inr (.inl z)
        · exact .inl z
      · exact .inr (.inr z)
variable (G : FnOk X.prog X.w X.K X.mg X.base CX0 k f fd ps (spC T X.K c)) (hr : Room k X.A) (hm : X.mg x = some (.ref f)) (hk : PySem.W.keepIn X.K (.ref f) = true) (hb : Binds X.K fd ps [])
include G hr hm hk hb
theorem de_call (ha : DA X T S (e :: es) (ds.map Sl.dat) S1) (hc : c (ds.map Sl.dat) [] (.dat d) []) (hg : Gl X x := by rfl) (hdb : (x == ("__debug__" : Str)) = false := by decide)
    (he : starEach (e :: es) X.env = (false, eval e X.env) :: starEach es X.env := by rfl) (hpl : (backTo pos (starEach es X.env)).any (·.1) = false := by rfl) : DE X T S (.Call (.Name x p) (e :: es) [] pos) (.dat d) S1 :=
  weak (pe_call G hr hg hm hk hb .nil pass0 ha hdb he hpl) fun σ H Q ⟨ad, F, h0, q⟩ => ⟨ad, F, h0, fun vs H1 ad1 x1 h1 r1 => by
    show spC T X.K c (vs ++ []) H1 Q E0
    rw [List.append_nil]
    exact spC0 hc h1.hc r1 fun v H' x2 c2 r2 => q v H' ad1 (x1.trans h1.hc x2) (h1.to x2 c2) r2⟩
theorem de_callC (j : Nat) (ha : DA X T S (e :: es) ss S1) (hj : S1.cs[j]? = some c0) (ho : ss.all (onlyCell j) = true) (hc : c (ss.map low) [c0] (.dat d) [c1]) (hg : Gl X x := by rfl) (hdb : (x == ("__debug__" : Str)) = false := by decide)
    (he : starEach (e :: es) X.env = (false, eval e X.env) :: starEach es X.env := by rfl) (hpl : (backTo pos (starEach es X.env)).any (·.1) = false := by rfl) : DE X T S (.Call (.Name x p) (e :: es) [] pos) (.dat d) ⟨S1.sl, S1.cs.set j c1⟩ :=
  weak (pe_call G hr hg hm hk hb .nil pass0 ha hdb he hpl) fun σ H Q ⟨ad, F, h0, q⟩ => ⟨ad, F, h0, fun vs H1 ad1 x1 h1 r1 => by
    show spC T X.K c (vs ++ []) H1 Q E0
    rw [List.append_nil]
    exact spC1 hj ho hc h1.hc r1 fun v H' x2 c2 r2 => q v H' ad1 (x1.trans h1.hc x2) (h1.to x2 c2) r2⟩
theorem de_callN (ha : DA X T S (e :: es) (ds.map Sl.dat) S1) (hc : c (ds.map Sl.dat) [] (.cel 0) [c0]) (hg : Gl X x := by rfl) (hdb : (x == ("__debug__" : Str)) = false := by decide)
    (he : starEach (e :: es) X.env = (false, eval e X.env) :: starEach es X.env := by rfl) (hpl : (backTo pos (starEach es X.env)).any (·.1) = false := by rfl) : DE X T S (.Call (.Name x p) (e :: es) [] pos) (.cel S1.cs.length) ⟨S1.sl, S1.cs ++ [c0]⟩ :=
  weak (pe_call G hr hg hm hk hb .nil pass0 ha hdb he hpl) fun σ H Q ⟨ad, F, h0, q⟩ => ⟨ad, F, h0, fun vs H1 ad1 x1 h1 r1 => by
    show spC T X.K c (vs ++ []) H1 Q E0
    rw [List.append_nil]
    exact spCN hc h1.hc r1 fun v H' a x2 c2 e => q v H' _ (x1.trans h1.hc x2) (h1.to x2 c2) ⟨a, by rw [← h1.hc.ln, List.getElem?_append_right (Nat.le_refl _)]; simp, e⟩⟩
end

/-! ### targets -/
inductive Pat where
  | nm (i : Nat)
  | tp (ps : List Pat)
mutual
/-- the slots behind target = data -/
def asgP : Pat → D → List (Option Sl) → Option (List (Option Sl))
  | .nm i, d, sl => some (sl.set i (some (.dat d)))
  | .tp ps, .tup ds, sl => asgPs ps ds sl
  | _, _, _ => none
def asgPs : List Pat → List D → List (Option Sl) → Option (List (Option Sl))
  | [], [], sl => some sl
  | p :: ps, d :: ds, sl => (asgP p d sl).bind fun sl' => asgPs ps ds sl'
  | _, _, _ => none
end
mutual
def slotsP : Pat → List Nat
  | .nm i => [i]
  | .tp ps => slotsPs ps
def slotsPs : List Pat → List Nat
  | [] => []
  | p :: ps => slotsP p ++ slotsPs ps
end
def AsIs (ns : List Nat) (σ σ' : St) : Prop := σ'.length = σ.length ∧ ∀ j : Nat, j ∉ ns → σ'[j]? = σ[j]?
def tDG (T : Tab) (K : PySem.W.Frag) (p : Pat) : TG := fun v σ H Q => ∃ ad F S d sl', Hold T K S ad F σ H ∧ Rep T K (Mm ad F) H v d ∧ asgP p d S.sl = some sl' ∧ ∀ σ', AsIs (slotsP p) σ σ' → Hold T K ⟨sl', S.cs⟩ ad F σ' H → Q σ' H
def tDGs (T : Tab) (K : PySem.W.Frag) (ps : List Pat) : TGs := fun vs σ H Q => ∃ ad F S ds sl', Hold T K S ad F σ H ∧ Reps T K (Mm ad F) H vs ds ∧ asgPs ps ds S.sl = some sl' ∧ ∀ σ', AsIs (slotsPs ps) σ σ' → Hold T K ⟨sl', S.cs⟩ ad F σ' H → Q σ' H
def DG (X : Cx) (T : Tab) (tg : Expr) (p : Pat) : Prop := PG X tg (tDG T X.K p)
def DGs (X : Cx) (T : Tab) (tgs : List Expr) (ps : List Pat) : Prop := PGs X tgs (tDGs T X.K ps)
theorem weakG {X : Cx} {tg : Expr} {t t' : TG} (h : PG X tg t) (q : ∀ v σ H Q, t' v σ H Q → t v σ H Q) : PG X tg t' := ⟨fun pins s σ H v u Q I r z => h.run pins s σ H v u Q I r (q v σ H Q z)⟩
theorem weakGs {X : Cx} {tg : List Expr} {t t' : TGs} (h : PGs X tg t) (q : ∀ v σ H Q, t' v σ H Q → t v σ H Q) : PGs X tg t' := ⟨fun pins s σ H v u Q I r z => h.run pins s σ H v u Q I r (q v σ H Q z)⟩
section
variable {X : Cx} {T : Tab} {pos : Pos} {e : Expr} {es : List Expr} {p : Pat} {ps : List Pat}
theorem dg_name (i : Nat) {x : Str} (hN : X.N.Nodup) (hi : X.N[i]? = some x := by rfl) (hx : Loc X.env.scope x := by first | exact Or.inl rfl | exact Or.inr rfl) (hf : X.fn x = true ∨ X.env.scope.names.lookup x = some .local := by first | exact .inl rfl | exact .inr rfl) : DG X T (.Name x pos) (.nm i) :=
  weakG (pg_name hN hi hx hf) fun v σ H Q ⟨ad, F, S, d, sl', h, r, e, q⟩ => by
    have e' : S.sl.set i (some (.dat d)) = sl' := Option.some.inj e
    subst e'
    exact q _ ⟨by simp, fun j hj => List.getElem?_set_ne (fun z => hj (by rw [← z]; exact List.mem_singleton_self _))⟩ (h.set (s := .dat d) r i)
theorem dgs_nil : DGs X T [] [] := weakGs pgs_nil fun vs σ H Q ⟨ad, F, S, ds, sl', h, r, e, q⟩ => by
  cases ds with
  | nil =>
    cases r
    have e' : S.sl = sl' := Option.some.inj e
    subst e'
    exact ⟨rfl, q σ ⟨rfl, fun _ _ => rfl⟩ h⟩
  | cons d ds => exact nomatch e
theorem dgs_cons (h1 : DG X T e p) (h2 : DGs X T es ps) (hs : (assignEach (e :: es) X.env).map (·.2) = assign e X.env :: (assignEach es X.env).map (·.2) := by rfl) : DGs X T (e :: es) (p :: ps) :=
  weakGs (pgs_cons h1 h2 hs) fun vs σ H Q ⟨ad, F, S, ds, sl', h, r, e, q⟩ => by
    cases ds with
    | nil => exact nomatch e
    | cons d ds =>
      cases r with
      | cons r1 r2 =>
        have e : (asgP p d S.sl).bind (fun sl' => asgPs ps ds sl') = some sl' := e
        cases e1 : asgP p d S.sl with
        | none => rw [e1] at e; cases e
        | some sl1 =>
          rw [e1] at e
          refine ⟨_, _, rfl, ad, F, S, d, sl1, h, r1, e1, fun σ1 a1 h1 => ⟨ad, F, _, ds, sl', h1, r2, e, fun σ2 a2 h2 => q σ2 ⟨a2.1.trans a1.1, fun j hj => ?_⟩ h2⟩⟩
          have hj' : j ∉ slotsP p ++ slotsPs ps := hj
          rw [a2.2 j fun z => hj' (List.mem_append_right _ z), a1.2 j fun z => hj' (List.mem_append_left _ z)]
theorem asgPs_len : ∀ {ps : List Pat} {ds : List D} {sl sl' : List (Option Sl)}, asgPs ps ds sl = some sl' → ds.length = ps.length
  | [], [], _, _, _ => rfl
  | p :: ps, d :: ds, sl, sl', e => by
    have e : (asgP p d sl).bind (fun sl' => asgPs ps ds sl') = some sl' := e
    cases e1 : asgP p d sl with
    | none => rw [e1] at e; cases e
    | some sl1 =>
      rw [e1] at e
      rw [List.length_cons, List.length_cons, asgPs_len (ps := ps) (ds := ds) e]
  | [], _ :: _, _, _, e => nomatch e
  | _ :: _, [], _, _, e => nomatch e
theorem dg_tup {k : Nat} {n : Nat} (hc : X.calm = true) (h : DGs X T es ps) (hn : (assignEach es X.env).length = n := by rfl) (hp : ps.length = n := by rfl) (hst : (assignEach es X.env).findIdx? (·.1) = none := by rfl) : DG X T (.Tuple es k pos) (.tp ps) :=
  weakG (pg_tup (n := n) hc h hn hst) fun v σ H Q ⟨ad, F, S, d, sl', h, r, e, q⟩ => by
    cases r with
    | tup h1 h2 => exact ⟨_, _, rfl, h1.sq, by rw [h2.length, ← hp]; exact asgPs_len e, ad, F, S, _, sl', h, h2, e, q⟩
    | _ => exact nomatch e
end

/-! ### what a loop walks -/
def ItOk (T : Tab) (K : PySem.W.Frag) (F : Addr → Prop) (J : It) (items : List D) (ad1 : List Addr) (H1 : Hp) : Prop :=
  ∀ (F2 : Addr → Prop) ad2 H2 cs2, HoldC T K ad2 F2 H2 cs2 → Kp (Mm ad1 F) H1 (Mm ad2 F2) H2 → ∀ i : Nat,
    (∀ d, items[i]? = some d → J.go i H2 ∧ ∀ v H3, J.yld i H2 v H3 → (∀ a o, H2 a = some o → H3 a = some o) ∧ Rep T K (Mm ad2 F2) H3 v d) ∧ (i = items.length → J.stop i H2)
def tDI (T : Tab) (K : PySem.W.Frag) (S : Sta) (items : List D) (S' : Sta) : TI := fun σ H R => ∃ ad F, Hold T K S ad F σ H ∧
  ∀ J H' ad', Ext ad F H ad' H' → Hold T K S' ad' F σ H' → ItOk T K F J items ad' H' → R J H'
def DI (X : Cx) (T : Tab) (S : Sta) (tg it : Expr) (items : List D) (S' : Sta) : Prop := PI X tg it (tDI T X.K S items S')
theorem weakI {X : Cx} {tg it : Expr} {t t' : TI} (h : PI X tg it t) (q : ∀ σ H R, t' σ H R → t σ H R) : PI X tg it t' := ⟨fun pins s σ H R I z => h.run pins s σ H R I (q σ H R z)⟩
section
variable {X : Cx} {T : Tab} {S S1 S2 : Sta} {e tg : Expr} {pos p : Pos} {ds : List D} {i j : Int}
theorem di_list (h : DE X T S e (.dat (.lst ds)) S1) : DI X T S tg e ds S1 := weakI (pi_list h) fun σ H R ⟨ad, F, h0, q⟩ => ⟨ad, F, h0, fun v H1 ad1 x1 h1 r1 => by
  cases r1 with
  | @lst a vs _ n e1 r =>
    refine ⟨a, rfl, ⟨vs, SqL.of e1⟩, q _ H1 ad1 x1 h1 fun F2 ad2 H2 cs2 c2 kp i => ⟨fun d hd => ?_, fun hi => ?_⟩⟩
    · obtain ⟨e2, n2⟩ := kp a _ e1 n
      obtain ⟨v, hv, rv⟩ := (r.kp kp).get hd
      refine ⟨⟨vs, v, SqL.of e2, hv⟩, fun w H3 y => ?_⟩
      obtain ⟨rfl, y⟩ := y
      have := y vs (SqL.of e2)
      rw [hv] at this
      cases this
      exact ⟨fun _ _ z => z, rv⟩
    · exact ⟨vs, SqL.of (kp a _ e1 n).1, by rw [r.length]; omega⟩⟩
theorem di_tup (h : DE X T S e (.dat (.tup ds)) S1) : DI X T S tg e ds S1 := weakI (pi_tup h) fun σ H R ⟨ad, F, h0, q⟩ => ⟨ad, F, h0, fun v H1 ad1 x1 h1 r1 => by
  cases r1 with
  | @tup a vs _ e1 r =>
    refine ⟨a, rfl, ⟨vs, e1.sq⟩, q _ H1 ad1 x1 h1 fun F2 ad2 H2 cs2 c2 kp i => ⟨fun d hd => ?_, fun hi => ?_⟩⟩
    · have e2 := (e1.kp kp).sq
      obtain ⟨v, hv, rv⟩ := (r.kp kp).get hd
      refine ⟨⟨vs, v, e2, hv⟩, fun w H3 y => ?_⟩
      obtain ⟨rfl, y⟩ := y
      have := y vs e2
      rw [hv] at this
      cases this
      exact ⟨fun _ _ z => z, rv⟩
    · exact ⟨vs, (e1.kp kp).sq, by rw [r.length]; omega⟩⟩
def rangeD (lo : Int) (n : Nat) : List D := (List.range n).map fun i : Nat => D.int (lo + (i : Int))
theorem rangeD_get {lo : Int} {n i : Nat} {d : D} (h : (rangeD lo n)[i]? = some d) : i < n ∧ d = .int (lo + (i : Int)) := by
  unfold rangeD at h
  rw [List.getElem?_map] at h
  by_cases hi : i < n
  · rw [List.getElem?_range hi] at h
    exact ⟨hi, (Option.some.inj h).symm⟩
  · rw [List.getElem?_eq_none (by simpa using hi)] at h
    cases h
theorem itr_ok {K : PySem.W.Frag} {F : Addr → Prop} {lo : Int} {n : Nat} {ad1 : List Addr} {H1 : Hp} : ItOk T K F (Itr lo n) (rangeD lo n) ad1 H1 := fun F2 ad2 H2 cs2 c2 kp i => by
  refine ⟨fun d hd => ?_, fun hi => ?_⟩
  · obtain ⟨hi, rfl⟩ := rangeD_get hd
    refine ⟨hi, fun v H3 y => ?_⟩
    obtain ⟨rfl, rfl⟩ := y
    exact ⟨fun _ _ z => z, .int⟩
  · unfold rangeD at hi
    simp at hi
    subst hi
    exact Nat.le_refl _
theorem di_range1 (h : DA X T S [e] [.dat (.int j)] S1) (hm : X.mg "range" = none) (h1 : -(2 ^ 62) ≤ j) (h2 : j < 2 ^ 62) (hg : Gl X "range" := by rfl) (hs : starEach [e] X.env = [(false, eval e X.env)] := by rfl) : DI X T S tg (.Call (.Name "range" p) [e] [] pos) (rangeD 0 j.toNat) S1 :=
  weakI (pi_range1 hg hm h hs) fun σ H R ⟨ad, F, h0, q⟩ => ⟨ad, F, h0, fun vs H1 ad1 x1 h1' r1 => by
    match vs, r1 with
    | [v], r1 =>
      have r1 := r1.1
      cases r1
      exact ⟨j, rfl, h1, h2, q _ H1 ad1 x1 h1' itr_ok⟩⟩
theorem di_range2 {e2 : Expr} (h : DA X T S [e, e2] [.dat (.int i), .dat (.int j)] S1) (hm : X.mg "range" = none) (h1 : -(2 ^ 62) ≤ i) (h2 : i < 2 ^ 62) (h3 : -(2 ^ 62) ≤ j) (h4 : j < 2 ^ 62) (hg : Gl X "range" := by rfl)
    (hs : starEach [e, e2] X.env = [(false, eval e X.env), (false, eval e2 X.env)] := by rfl) (hs2 : starEach [e2] X.env = [(false, eval e2 X.env)] := by rfl) : DI X T S tg (.Call (.Name "range" p) [e, e2] [] pos) (rangeD i (j - i).toNat) S1 :=
  weakI (pi_range2 hg hm h hs hs2) fun σ H R ⟨ad, F, h0, q⟩ => ⟨ad, F, h0, fun vs H1 ad1 x1 h1' r1 => by
    match vs, r1 with
    | [v, w], r1 =>
      have r2 := r1.2.1
      have r1 := r1.1
      cases r1
      cases r2
      exact ⟨i, j, rfl, ⟨h1, h2, h3, h4⟩, q _ H1 ad1 x1 h1' itr_ok⟩⟩
end

/-! ### for -/
def DFor (X : Cx) (T : Tab) (n : Nat) (p : Pat) (body : List Stmt) : List D → Sta → Post → Prop
  | [], S, P => P.nx S
  | d :: ds, S, P => ∃ sl', asgP p d S.sl = some sl' ∧ DSs X T n ⟨sl', S.cs⟩ body { P with nx := fun S' => DFor X T n p body ds S' P, ct := fun S' => DFor X T n p body ds S' P, bk := P.nx }
theorem grow {T : Tab} {K : PySem.W.Frag} {F : Addr → Prop} {ad : List Addr} {H H' : Hp} {cs : List Cell} (h : HoldC T K ad F H cs) (g : ∀ a o, H a = some o → H' a = some o) : HoldC T K ad F H' cs ∧ Ext ad F H ad H' := by
  have x : Ext ad F H ad H' := ⟨⟨[], by simp, fun _ z => nomatch z⟩, fun a o e _ => g a o e, fun a fa => by obtain ⟨o, e⟩ := h.al a fa; exact .inl (by rw [g a o e, e])⟩
  refine ⟨⟨h.nd, h.fr, fun a fa => (x.frm a fa).ex (h.al a fa), h.tb.ext g, h.ln, fun k a c h1 h2 => ?_⟩, x⟩
  have q := h.ce k a c h1 h2
  obtain ⟨o, e⟩ := q.some
  exact q.kp x.kp (by rw [g a o e, e])
section
variable {X : Cx} {T : Tab} {n : Nat} {S S1 S2 : Sta} {it tg : Expr} {pos : Pos} {items : List D} {body : List Stmt} {p : Pat} {P : Post}
theorem ds_for (hi : DI X T S tg it items S1) (hg : DG X T tg p) (h : DFor X T n p body items S1 P) (hc : X.calm = true := by rfl) (hp : PassesOwn (model X.prog X.w) X.A X.env X.xe := by exact PassesOwn.never)
    (hs : ∀ x, foldedSetIterable it X.env x = pure x := by intro _; rfl) : DS X T n S (.For tg it body [] pos) P := by
  have hb : PSs X body (fun D σ H => ∃ S P, DSs X T n S body P ∧ tDS T X.K n S P D σ H) := ⟨fun pins s σ H D I ⟨S', P', hS, z⟩ => hS.run pins s σ H D I z⟩
  refine weakS (ps_for hp hc hi hg hb hs) fun D σ H ⟨ad, F, hn, h0, q1, q2, q3, q4, q5⟩ => ⟨ad, F, h0, fun J H1 ad1 x1 h1 ok => ?_⟩
  have xs1 := x1.s hn
  have hn1 := x1.le hn
  refine ⟨fun i m σ' H' => ∃ ad' S', n ≤ ad'.length ∧ Hold T X.K S' ad' F σ' H' ∧ ExtS n ad1 F H1 ad' H' ∧ i ≤ items.length ∧ m = items.length - i ∧ DFor X T n p body (items.drop i) S' P, ⟨items.length, ad1, S1, hn1, h1, .refl, Nat.zero_le _, rfl, h⟩, ?_⟩
  rintro i m σ' H' ⟨ad', S', hn', h', x', hi', rfl, hf⟩
  obtain ⟨ok1, ok2⟩ := ok F ad' H' S'.cs h'.hc x'.kp i
  by_cases hlt : i < items.length
  · have hd : items[i]? = some items[i] := List.getElem?_eq_getElem hlt
    obtain ⟨g1, g2⟩ := ok1 _ hd
    rw [List.drop_eq_getElem_cons hlt] at hf
    obtain ⟨sl', e, hf⟩ := hf
    refine .inr ⟨g1, fun σ2 H2 => ∃ ad2 S2, n ≤ ad2.length ∧ Hold T X.K S2 ad2 F σ2 H2 ∧ ExtS n ad1 F H1 ad2 H2 ∧ DFor X T n p body (items.drop (i + 1)) S2 P, fun σ2 H2 ⟨ad2, S2, hn2, h2, x2, hf2⟩ => ⟨items.length - (i + 1), by omega, ad2, S2, hn2, h2, x2, hlt, rfl, hf2⟩, fun v H3 y => ?_⟩
    obtain ⟨gr, rv⟩ := g2 v H3 y
    obtain ⟨c3, x3⟩ := grow h'.hc gr
    refine ⟨ad', F, S', items[i], sl', h'.to x3 c3, rv, e, fun σ4 _ h4 => ⟨_, _, hf, ad', F, hn', h4, ?_, ?_, ?_, ?_, ?_⟩⟩
    · exact fun S5 σ5 H5 ad5 x5 hn5 h5 p5 => ⟨ad5, S5, hn5, h5, x'.trans ((x3.s hn').trans x5), p5⟩
    · exact fun s cs5 v5 H5 ad5 x5 hn5 c5 r5 p5 => q2 s cs5 v5 H5 ad5 (xs1.trans (x'.trans ((x3.s hn').trans x5))) hn5 c5 r5 p5
    · exact fun S5 σ5 H5 ad5 x5 hn5 h5 p5 => q1 S5 σ5 H5 ad5 (xs1.trans (x'.trans ((x3.s hn').trans x5))) hn5 h5 p5
    · exact fun S5 σ5 H5 ad5 x5 hn5 h5 p5 => ⟨ad5, S5, hn5, h5, x'.trans ((x3.s hn').trans x5), p5⟩
    · exact fun z S5 cls d σ5 H5 ad5 x5 hn5 h5 r5 p5 => q5 z S5 cls d σ5 H5 ad5 (xs1.trans (x'.trans ((x3.s hn').trans x5))) hn5 h5 r5 p5
  · have e : i = items.length := by omega
    subst e
    rw [List.drop_length] at hf
    exact .inl ⟨ok2 rfl, q1 S' σ' H' ad' (xs1.trans x') hn' h' hf⟩
/-- by an invariant over what has been taken -/
theorem dfor_inv (I : List D → Sta → Prop) {items : List D} : ∀ (pre post : List D), pre ++ post = items → ∀ S, I pre S →
    (∀ pre d post S, pre ++ d :: post = items → I pre S → ∃ sl', asgP p d S.sl = some sl' ∧ DSs X T n ⟨sl', S.cs⟩ body { P with nx := I (pre ++ [d]), ct := I (pre ++ [d]), bk := P.nx }) →
    (∀ S, I items S → P.nx S) → DFor X T n p body post S P
  | pre, [], e, S, h, _, hd => hd S (by rw [← e, List.append_nil]; exact h)
  | pre, d :: post, e, S, h, hs, hd => by
    obtain ⟨sl', e1, h1⟩ := hs pre d post S e h
    refine ⟨sl', e1, dss_mono h1 (fun S2 h2 => ?_) (fun _ _ z => z) (fun _ z => z) (fun S2 h2 => ?_) (fun _ _ z => z) rfl⟩
    · exact dfor_inv I (pre ++ [d]) post (by rw [List.append_assoc]; exact e) S2 h2 hs hd
    · exact dfor_inv I (pre ++ [d]) post (by rw [List.append_assoc]; exact e) S2 h2 hs hd
end
end Dl

namespace Dl
open PySem L2

/-! ### operators by what they work on -/
def BinD (X : Cx) (T : Tab) (op : Operator) (s1 s2 : Sl) (cs : List Cell) (s : Sl) (cs' : List Cell) : Prop := ∃ r, OpR X (binaryOp op) r ∧ R2D T X.K r s1 s2 cs s cs'
def CmpD (X : Cx) (T : Tab) (op : CmpOp) (s1 s2 : Sl) (cs : List Cell) (s : Sl) (cs' : List Cell) : Prop := ∃ r, OpR X (compareOp op) r ∧ R2D T X.K r s1 s2 cs s cs'
def IxD (X : Cx) (T : Tab) (s1 s2 : Sl) (cs : List Cell) (s : Sl) (cs' : List Cell) : Prop := ∃ r, IxR X r ∧ R2D T X.K r s1 s2 cs s cs'
def UnD (X : Cx) (T : Tab) (op : UnaryOp) (s1 : Sl) (cs : List Cell) (s : Sl) (cs' : List Cell) : Prop := ∃ r, UnR X (unaryOp op) r ∧ R1 T X.K r s1 cs s cs'
def CalB (X : Cx) (T : Tab) (x : Str) (ss : List Sl) (cs : List Cell) (s : Sl) (cs' : List Cell) : Prop := ∃ u r, bootBuiltins x = some u ∧ ((∃ id, u = .builtin id) ∨ ∃ id, u = .type id) ∧ CallR X u r ∧ RCD T X.K r ss cs s cs'

section
variable {X : Cx} {T : Tab} {S S1 S2 S3 : Sta} {a b e : Expr} {pos p : Pos} {s s1 s2 : Sl} {cs cs' : List Cell} {d d1 d2 : D} {i j : Int} {ds es : List D}
theorem de_bin {op : Operator} (ha : DE X T S a s1 S1) (hb : DE X T S1 b s2 S2) (h : BinD X T op s1 s2 S2.cs s S2.cs) : DE X T S (.BinOp a op b pos) s S2 := let ⟨_, ho, hr⟩ := h; de_op ho ha hb hr
theorem de_binC {op : Operator} (ha : DE X T S a s1 S1) (hb : DE X T S1 b s2 S2) (h : BinD X T op s1 s2 S2.cs s cs') : DE X T S (.BinOp a op b pos) s ⟨S2.sl, cs'⟩ := let ⟨_, ho, hr⟩ := h; de_op ho ha hb hr
theorem de_cm {op : CmpOp} (ha : DE X T S a s1 S1) (hb : DE X T S1 b s2 S2) (h : CmpD X T op s1 s2 S2.cs s S2.cs) (hm : behindInMarks op b = false := by first | exact nomark _ | rfl) : DE X T S (.Compare a [op] [b] pos) s S2 := let ⟨_, ho, hr⟩ := h; de_cmp ho ha hb hr hm
theorem dt_cm {op : CmpOp} {k : Bool} (ha : DE X T S a s1 S1) (hb : DE X T S1 b s2 S2) (h : CmpD X T op s1 s2 S2.cs (.dat (.bl k)) S2.cs) (hm : behindInMarks op b = false := by first | exact nomark _ | rfl) : DT X T S (.Compare a [op] [b] pos) k S2 := by
  obtain ⟨r, ho, hr⟩ := h
  refine weakT (pt_cmpR ho ha hb hm) fun σ H Q ⟨ad, F, h0, q⟩ => ?_
  refine two_then (Q := fun x H' => ∃ k, x = .bl k ∧ Q k H') hr ⟨ad, F, h0, fun v H1 ad1 x1 h1 r1 => ?_⟩
  cases r1
  exact ⟨k, rfl, q H1 ad1 x1 h1⟩
theorem de_sub1 (ha : DE X T S a s1 S1) (hb : DE X T S1 b s2 S2) (h : IxD X T s1 s2 S2.cs s S2.cs) (hp : PlainIx b := by intro _ _; rfl) : DE X T S (.Subscript a b pos) s S2 := let ⟨_, ho, hr⟩ := h; de_ix ho ha hb hr hp
theorem de_un {op : UnaryOp} (ha : DE X T S a s1 S1) (h : UnD X T op s1 S1.cs s S1.cs) : DE X T S (.UnaryOp op a pos) s S1 := let ⟨_, ho, hr⟩ := h; de_unop ho ha hr
theorem de_cbC {x : Str} {es : List Expr} {ss : List Sl} (hm : X.mg x = none) (ha : DA X T S (e :: es) ss S1) (h : CalB X T x ss S1.cs s cs') (hg : Gl X x := by rfl) (hn : x ≠ "__name__" := by decide) (hdb : (x == ("__debug__" : Str)) = false := by decide)
    (he : starEach (e :: es) X.env = (false, eval e X.env) :: starEach es X.env := by rfl) (hpl : (backTo pos (starEach es X.env)).any (·.1) = false := by rfl) : DE X T S (.Call (.Name x p) (e :: es) [] pos) s ⟨S1.sl, cs'⟩ := by
  obtain ⟨u, r, hv, ho, hc, hr⟩ := h
  rcases ho with ⟨id, rfl⟩ | ⟨id, rfl⟩
  · exact de_callB hc hm hv ha hr hg hn hdb he hpl
  · exact de_callTy hc hm hv ha hr hg hn hdb he hpl
theorem de_cb {x : Str} {es : List Expr} {ss : List Sl} (hm : X.mg x = none) (ha : DA X T S (e :: es) ss S1) (h : CalB X T x ss S1.cs s S1.cs) (hg : Gl X x := by rfl) (hn : x ≠ "__name__" := by decide) (hdb : (x == ("__debug__" : Str)) = false := by decide)
    (he : starEach (e :: es) X.env = (false, eval e X.env) :: starEach es X.env := by rfl) (hpl : (backTo pos (starEach es X.env)).any (·.1) = false := by rfl) : DE X T S (.Call (.Name x p) (e :: es) [] pos) s S1 := de_cbC hm ha h hg hn hdb he hpl

/-! #### + - * // % ** of ints -/
theorem bin_add : BinD X T .Add (.dat (.int i)) (.dat (.int j)) cs (.dat (.int (i + j))) cs := ⟨_, op_add, r2_I0⟩
theorem bin_sub : BinD X T .Sub (.dat (.int i)) (.dat (.int j)) cs (.dat (.int (i - j))) cs := ⟨_, op_sub, r2_I0⟩
theorem op_mulI : OpR X (binaryOp .Mult) (rI IntMulOk fun i j => .int (i * j)) := opI fun _ _ _ _ _ _ _ hc q => PyProof.Rows.mul_int q hc
theorem bin_mul (h : IntMulOk i j) : BinD X T .Mult (.dat (.int i)) (.dat (.int j)) cs (.dat (.int (i * j))) cs := ⟨_, op_mulI, r2_I h⟩
theorem bin_fdiv (h : CDivW i j) : BinD X T .FloorDiv (.dat (.int i)) (.dat (.int j)) cs (.dat (.int (i / j))) cs := ⟨_, op_fdivW, r2_I h⟩
theorem bin_mod (h : 0 < j) : BinD X T .Mod (.dat (.int i)) (.dat (.int j)) cs (.dat (.int (i % j))) cs := ⟨_, op_mod, r2_I (C := fun _ j => 0 < j) h⟩
theorem bin_pow (h : CPow i j) : BinD X T .Pow (.dat (.int i)) (.dat (.int j)) cs (.dat (.int (i ^ j.toNat))) cs := ⟨_, op_pow, r2_I h⟩
theorem un_negD : UnD X T .USub (.dat (.int i)) cs (.dat (.int (-i))) cs := ⟨_, un_neg, fun ad F H v Q c r1 q => by cases r1; exact ⟨i, rfl, q _ H ad .refl c Rep.int⟩⟩
theorem cmp_lt : CmpD X T .Lt (.dat (.int i)) (.dat (.int j)) cs (.dat (.bl (decide (i < j)))) cs := ⟨_, op_lt, r2_B0⟩
theorem cmp_le : CmpD X T .LtE (.dat (.int i)) (.dat (.int j)) cs (.dat (.bl (decide (i ≤ j)))) cs := ⟨_, op_le, r2_B0⟩
theorem cmp_gt : CmpD X T .Gt (.dat (.int i)) (.dat (.int j)) cs (.dat (.bl (decide (j < i)))) cs := ⟨_, op_gt, r2_B0⟩
theorem cmp_ge : CmpD X T .GtE (.dat (.int i)) (.dat (.int j)) cs (.dat (.bl (decide (j ≤ i)))) cs := ⟨_, op_ge, r2_B0⟩
theorem dec_V (i j : Int) : decide (V.int i = V.int j) = decide (i = j) := by
  by_cases h : i = j
  · subst h; simp
  · rw [decide_eq_false h, decide_eq_false fun z => h (V.int.inj z)]
theorem cmp_eqI : CmpD X T .Eq (.dat (.int i)) (.dat (.int j)) cs (.dat (.bl (decide (i = j)))) cs := ⟨_, op_eq, fun ad F H v w Q c r1 r2 q => by
  cases r1; cases r2
  exact ⟨rfl, by rw [dec_V]; exact q _ H ad .refl c Rep.bl⟩⟩
theorem cmp_neI : CmpD X T .NotEq (.dat (.int i)) (.dat (.int j)) cs (.dat (.bl (!decide (i = j)))) cs := ⟨_, op_ne, fun ad F H v w Q c r1 r2 q => by
  cases r1; cases r2
  exact ⟨rfl, by rw [dec_V]; exact q _ H ad .refl c Rep.bl⟩⟩
theorem dec_S (i j : Str) : decide (V.str i = V.str j) = decide (i = j) := by
  by_cases h : i = j
  · subst h; simp
  · rw [decide_eq_false h, decide_eq_false fun z => h (V.str.inj z)]
theorem cmp_eqS {x y : Str} : CmpD X T .Eq (.dat (.str x)) (.dat (.str y)) cs (.dat (.bl (decide (x = y)))) cs := ⟨_, op_eq, fun ad F H v w Q c r1 r2 q => by
  cases r1; cases r2
  exact ⟨rfl, by rw [dec_S]; exact q _ H ad .refl c Rep.bl⟩⟩
theorem cmp_neS {x y : Str} : CmpD X T .NotEq (.dat (.str x)) (.dat (.str y)) cs (.dat (.bl (!decide (x = y)))) cs := ⟨_, op_ne, fun ad F H v w Q c r1 r2 q => by
  cases r1; cases r2
  exact ⟨rfl, by rw [dec_S]; exact q _ H ad .refl c Rep.bl⟩⟩
theorem dec_B (i j : Bool) : decide (V.bl i = V.bl j) = (i == j) := by cases i <;> cases j <;> decide
theorem cmp_eqB {x y : Bool} : CmpD X T .Eq (.dat (.bl x)) (.dat (.bl y)) cs (.dat (.bl (x == y))) cs := ⟨_, op_eq, fun ad F H v w Q c r1 r2 q => by
  cases r1; cases r2
  exact ⟨rfl, by rw [dec_B]; exact q _ H ad .refl c Rep.bl⟩⟩
theorem cmp_neB {x y : Bool} : CmpD X T .NotEq (.dat (.bl x)) (.dat (.bl y)) cs (.dat (.bl (!(x == y)))) cs := ⟨_, op_ne, fun ad F H v w Q c r1 r2 q => by
  cases r1; cases r2
  exact ⟨rfl, by rw [dec_B]; exact q _ H ad .refl c Rep.bl⟩⟩
/-- is None -/
def isNon : D → Bool
  | .non => true
  | _ => false
theorem rep_non {K : PySem.W.Frag} {M : Addr → Prop} {H : Hp} {v : V} (r : Rep T K M H v d) : decide (v = .non) = isNon d := by
  cases r <;> simp [isNon]
theorem cmp_isN : CmpD X T .Is (.dat d) (.dat .non) cs (.dat (.bl (isNon d))) cs := ⟨_, op_isN, fun ad F H v w Q c r1 r2 q => by
  cases r2
  exact ⟨rfl, by rw [rep_non r1]; exact q _ H ad .refl c Rep.bl⟩⟩
theorem cmp_notN : CmpD X T .IsNot (.dat d) (.dat .non) cs (.dat (.bl (!isNon d))) cs := ⟨_, op_notN, fun ad F H v w Q c r1 r2 q => by
  cases r2
  exact ⟨rfl, by rw [rep_non r1]; exact q _ H ad .refl c Rep.bl⟩⟩

/-! #### subscripts -/
theorem ix_L (hi : atI ds i = some d) : IxD X T (.dat (.lst ds)) (.dat (.int i)) cs (.dat d) cs := ⟨_, ix_list, fun ad F H v w Q c r1 r2 q => by
  cases r2
  cases r1 with
  | lst n e r =>
    obtain ⟨u, h1, h2⟩ := reps_at r hi
    exact ⟨_, _, i, u, rfl, rfl, SqL.of e, h1, q u H ad .refl c h2⟩⟩
theorem ix_R (hi : atI ds i = some d) : IxD X T (.dat (.scr ds)) (.dat (.int i)) cs (.dat d) cs := ⟨_, ix_list, fun ad F H v w Q c r1 r2 q => by
  cases r2
  cases r1 with
  | scr e r =>
    obtain ⟨u, h1, h2⟩ := reps_at r hi
    exact ⟨_, _, i, u, rfl, rfl, e.sq, h1, q u H ad .refl c h2⟩⟩
theorem ix_T (hi : atI ds i = some d) : IxD X T (.dat (.tup ds)) (.dat (.int i)) cs (.dat d) cs := ⟨_, ix_tup, fun ad F H v w Q c r1 r2 q => by
  cases r2
  cases r1 with
  | tup e r =>
    obtain ⟨u, h1, h2⟩ := reps_at r hi
    exact ⟨_, _, i, u, rfl, rfl, e.sq, h1, q u H ad .refl c h2⟩⟩
theorem ix_C {k : Nat} (hk : cs[k]? = some (.lst ds)) (hi : atI ds i = some d) : IxD X T (.cel k) (.dat (.int i)) cs (.dat d) cs := ⟨_, ix_list, fun ad F H v w Q c r1 r2 q => by
  cases r2
  obtain ⟨p, e, rfl⟩ := r1
  obtain ⟨vs, h1, h2⟩ := c.ce k p _ e hk
  obtain ⟨u, h3, h4⟩ := reps_at h2 hi
  exact ⟨_, _, i, u, rfl, rfl, SqL.of h1, h3, q u H ad .refl c h4⟩⟩
theorem ix_S {x : Str} {c : Nat} (hl : x.length ≤ sizeLine) (hi : atI x.cps.toList i = some c) : IxD X T (.dat (.str x)) (.dat (.int i)) cs (.dat (.str ⟨#[c]⟩)) cs := ⟨_, ix_str, fun ad F H v w Q c' r1 r2 q => by
  cases r1; cases r2
  exact ⟨x, i, c, rfl, rfl, hl, hi, q _ H ad .refl c' Rep.str⟩⟩

/-! #### sequences: +, *, slices -/
theorem new_lst {K : PySem.W.Frag} {ad : List Addr} {F : Addr → Prop} {H : Hp} {vs : List V} {Q : VK} (c : HoldC T K ad F H cs) (r : Reps T K (Mm ad F) H vs ds) (q : ∀ z H' ad', Ext ad F H ad' H' → HoldC T K ad' F H' cs → SlRep T K ad' F H' z (.dat (.lst ds)) → Q z H')
    {p : Addr} (hp : H p = none) : Q (.ref p) (upd H p (.lst vs)) := by
  obtain ⟨c2, x2⟩ := c.newo (o := .lst vs) hp
  exact q _ _ ad x2 c2 (Rep.lst (vs := vs) (c.new hp) upd_same (r.kp x2.kp))
theorem new_tup {K : PySem.W.Frag} {ad : List Addr} {F : Addr → Prop} {H : Hp} {vs : List V} {Q : VK} (c : HoldC T K ad F H cs) (r : Reps T K (Mm ad F) H vs ds) (q : ∀ z H' ad', Ext ad F H ad' H' → HoldC T K ad' F H' cs → SlRep T K ad' F H' z (.dat (.tup ds)) → Q z H')
    {p : Addr} (hp : H p = none) : Q (.ref p) (upd H p (.tup vs)) := by
  obtain ⟨c2, x2⟩ := c.newo (o := .tup vs) hp
  exact q _ _ ad x2 c2 (Rep.tup (vs := vs) (.inl ⟨c.new hp, .inl upd_same⟩) (r.kp x2.kp))
theorem new_lstC {K : PySem.W.Frag} {ad : List Addr} {F : Addr → Prop} {H : Hp} {vs : List V} {Q : VK} (c : HoldC T K ad F H cs) (r : Reps T K (Mm ad F) H vs ds) (q : ∀ z H' ad', Ext ad F H ad' H' → HoldC T K ad' F H' (cs ++ [.lst ds]) → SlRep T K ad' F H' z (.cel cs.length) → Q z H')
    {p : Addr} (hp : H p = none) : Q (.ref p) (upd H p (.lst vs)) := by
  have kp : Kp (Mm ad F) H (Mm (ad ++ [p]) F) (upd H p (.lst vs)) := fun a o e n => by
    have np : a ≠ p := ne_of_none e hp
    refine ⟨by rw [upd_ne np]; exact e, fun z => ?_⟩
    rcases z with z | z
    · rcases List.mem_append.mp z with z | z
      · exact n (.inl z)
      · exact np (List.mem_singleton.mp z)
    · exact n (.inr z)
  obtain ⟨c2, x2⟩ := c.cell (o := .lst vs) (c := .lst ds) hp ⟨vs, upd_same, r.kp kp⟩
  refine q _ _ _ x2 c2 ⟨p, ?_, rfl⟩
  rw [← c.ln, List.getElem?_append_right (Nat.le_refl _)]
  simp
/-- a list to be read: data or a cell -/
def isLst (cs : List Cell) (ds : List D) : Sl → Prop
  | .dat d => d = .lst ds
  | .cel k => cs[k]? = some (.lst ds)
theorem rd_lst {K : PySem.W.Frag} {ad : List Addr} {F : Addr → Prop} {H : Hp} {v : V} (h : isLst cs ds s) (c : HoldC T K ad F H cs) (r : SlRep T K ad F H v s) : ∃ a vs, v = .ref a ∧ H a = some (.lst vs) ∧ Reps T K (Mm ad F) H vs ds := by
  cases s with
  | dat d =>
    obtain rfl : d = .lst ds := h
    cases r with
    | lst n e r => exact ⟨_, _, rfl, e, r⟩
  | cel k =>
    obtain ⟨a, e, rfl⟩ := r
    obtain ⟨vs, h1, h2⟩ := c.ce k a _ e h
    exact ⟨a, vs, rfl, h1, h2⟩
theorem bin_addL (h1 : isLst cs ds s1) (h2 : isLst cs es s2) (hl : ds.length + es.length ≤ sizeLine) : BinD X T .Add s1 s2 cs (.dat (.lst (ds ++ es))) cs := ⟨_, op_cat, fun ad F H v w Q c r1 r2 q => by
  obtain ⟨a, vs, rfl, e1, q1⟩ := rd_lst h1 c r1
  obtain ⟨b, ws, rfl, e2, q2⟩ := rd_lst h2 c r2
  exact ⟨a, b, vs, ws, rfl, rfl, e1, e2, by rw [q1.length, q2.length]; exact hl, fun p hp => new_lst c (q1.append q2) q hp⟩⟩
theorem bin_addLC (h1 : isLst cs ds s1) (h2 : isLst cs es s2) (hl : ds.length + es.length ≤ sizeLine) : BinD X T .Add s1 s2 cs (.cel cs.length) (cs ++ [.lst (ds ++ es)]) := ⟨_, op_cat, fun ad F H v w Q c r1 r2 q => by
  obtain ⟨a, vs, rfl, e1, q1⟩ := rd_lst h1 c r1
  obtain ⟨b, ws, rfl, e2, q2⟩ := rd_lst h2 c r2
  exact ⟨a, b, vs, ws, rfl, rfl, e1, e2, by rw [q1.length, q2.length]; exact hl, fun p hp => new_lstC c (q1.append q2) q hp⟩⟩
theorem bin_addT (hl : ds.length + es.length ≤ sizeLine) : BinD X T .Add (.dat (.tup ds)) (.dat (.tup es)) cs (.dat (.tup (ds ++ es))) cs := ⟨_, op_catA, fun ad F H v w Q c r1 r2 q => by
  cases r1 with
  | @tup a vs _ e1 q1 =>
    cases r2 with
    | @tup b ws _ e2 q2 =>
      refine ⟨a, b, vs, ws, rfl, rfl, e1.sq, e2.sq, by rw [q1.length, q2.length]; exact hl, ?_⟩
      refine ⟨fun h => ?_, fun h => ?_, fun h h' p hp => new_tup c (q1.append q2) q hp⟩
      · subst h
        cases q1
        exact q _ H ad .refl c (Rep.tup e2 q2)
      · first
          | (intro h'; subst h'; cases q2; refine q _ H ad .refl c ?_; rw [List.append_nil]; exact Rep.tup e1 q1)
          | (subst h; cases q2; refine q _ H ad .refl c ?_; rw [List.append_nil]; exact Rep.tup e1 q1)⟩
theorem bin_addS {x y : Str} (hl : x.length + y.length ≤ sizeLine) : BinD X T .Add (.dat (.str x)) (.dat (.str y)) cs (.dat (.str (x ++ y))) cs := ⟨_, op_add_str, fun ad F H v w Q c r1 r2 q => by
  cases r1; cases r2
  exact ⟨x, y, rfl, rfl, hl, q _ H ad .refl c Rep.str⟩⟩
theorem reps_rep {K : PySem.W.Frag} {M : Addr → Prop} {H : Hp} {vs : List V} (h : Reps T K M H vs ds) : ∀ n, Reps T K M H (List.replicate n vs).flatten (List.replicate n ds).flatten
  | 0 => .nil
  | n + 1 => by
    rw [List.replicate_succ, List.replicate_succ, List.flatten_cons, List.flatten_cons]
    exact h.append (reps_rep h n)
theorem bin_repL (h1 : isLst cs ds s1) (h2 : -(2 ^ 63) ≤ j) (h3 : j < 2 ^ 63) (hl : ds.length * j.toNat ≤ sizeLine) : BinD X T .Mult s1 (.dat (.int j)) cs (.dat (.lst (List.replicate j.toNat ds).flatten)) cs := ⟨_, op_rep, fun ad F H v w Q c r1 r2 q => by
  cases r2
  obtain ⟨a, vs, rfl, e1, q1⟩ := rd_lst h1 c r1
  refine ⟨a, j, vs, rfl, rfl, e1, h2, h3, by rw [q1.length]; exact hl, fun p hp => ?_⟩
  first
    | exact new_lst c (reps_rep q1 _) q hp
    | (have z := new_lst c (reps_rep q1 j.toNat) q hp; simpa using z)⟩
def cutD (ds : List D) (lo hi : Option Int) : List D := (ds.drop (HT.sIx ds.length 0 lo)).take (HT.sIx ds.length ds.length hi - HT.sIx ds.length 0 lo)
theorem reps_cut {K : PySem.W.Frag} {M : Addr → Prop} {H : Hp} {vs : List V} (h : Reps T K M H vs ds) (lo hi : Option Int) : Reps T K M H (cutV vs lo hi) (cutD ds lo hi) := by
  unfold cutV cutD
  rw [h.length]
  exact (h.drop _).take _
/-- an optional part of a slice -/
def tDO (T : Tab) (K : PySem.W.Frag) (S : Sta) (o : Option Int) (S' : Sta) : TO := fun σ H Q => ∃ ad F, Hold T K S ad F σ H ∧ ∀ H' ad', Ext ad F H ad' H' → Hold T K S' ad' F σ H' → Q o H'
def DO' (X : Cx) (T : Tab) (S : Sta) (e : Option Expr) (o : Option Int) (S' : Sta) : Prop := PO X e (tDO T X.K S o S')
theorem weakO {X : Cx} {e : Option Expr} {t t' : TO} (h : PO X e t) (q : ∀ σ H Q, t' σ H Q → t σ H Q) : PO X e t' := ⟨fun pins s σ H Q I z => h.run pins s σ H Q I (q σ H Q z)⟩
theorem do_none : DO' X T S none none S := weakO po_none fun σ H Q ⟨ad, F, h, q⟩ => q H ad .refl h
theorem do_some (h : DE X T S e (.dat (.int i)) S1) : DO' X T S (some e) (some i) S1 := weakO (po_some h) fun σ H Q ⟨ad, F, h, q⟩ => ⟨ad, F, h, fun v H1 ad1 x1 h1 r1 => by cases r1; exact ⟨i, rfl, q H1 ad1 x1 h1⟩⟩
def SlcD (X : Cx) (T : Tab) (s1 : Sl) (lo hi : Option Int) (cs : List Cell) (s : Sl) (cs' : List Cell) : Prop := ∃ r, SlR X r ∧ ∀ ad F H v (Q : VK), HoldC T X.K ad F H cs → SlRep T X.K ad F H v s1 → (∀ z H' ad', Ext ad F H ad' H' → HoldC T X.K ad' F H' cs' → SlRep T X.K ad' F H' z s → Q z H') → r v lo hi H Q
theorem de_slice {lo hi : Option Expr} {l u : Option Int} {p2 : Pos} (ha : DE X T S e s1 S1) (hl : DO' X T S1 lo l S2) (hu : DO' X T S2 hi u S3) (h : SlcD X T s1 l u S3.cs s S3.cs) : DE X T S (.Subscript e (.Slice lo hi none p2) pos) s S3 := by
  obtain ⟨r, hs, hr⟩ := h
  refine weak (pe_slice hs ha hl hu) fun σ H Q ⟨ad, F, h0, q⟩ => ⟨ad, F, h0, fun v H1 ad1 x1 h1 r1 => ⟨ad1, F, h1, fun H2 ad2 x2 h2 => ⟨ad2, F, h2, fun H3 ad3 x3 h3 => ?_⟩⟩⟩
  refine hr ad3 F H3 v Q h3.hc ((r1.ext x2).ext x3) fun z H' ad' x4 c4 r4 => ?_
  exact q z H' ad' (x1.trans h1.hc (x2.trans h2.hc (x3.trans h3.hc x4))) (h3.to x4 c4) r4
theorem slc_L {lo hi : Option Int} (h1 : isLst cs ds s1) : SlcD X T s1 lo hi cs (.dat (.lst (cutD ds lo hi))) cs := ⟨_, sl_list, fun ad F H v Q c r1 q => by
  obtain ⟨a, vs, rfl, e1, q1⟩ := rd_lst h1 c r1
  exact ⟨a, vs, rfl, SqL.of e1, fun p hp => new_lst c (reps_cut q1 lo hi) q hp⟩⟩
theorem slc_T {lo hi : Option Int} : SlcD X T (.dat (.tup ds)) lo hi cs (.dat (.tup (cutD ds lo hi))) cs := ⟨_, sl_tupA, fun ad F H v Q c r1 q => by
  cases r1 with
  | @tup a vs _ e1 q1 =>
    refine ⟨a, vs, rfl, e1.sq, fun hw => ?_, fun hw p hp => new_tup c (reps_cut q1 lo hi) q hp⟩
    have e : cutD ds lo hi = ds := by
      unfold cutD
      rw [q1.length] at hw
      rw [hw.1, hw.2]
      simp
    rw [e] at q
    exact q _ H ad .refl c (Rep.tup e1 q1)⟩

/-! #### == of data -/
mutual
def D.py : D → PyData
  | .non => .none
  | .bl b => .bool b
  | .int i => .int i
  | .str x => .str x
  | .tup xs => .tuple (D.pys xs)
  | .lst xs => .list (D.pys xs)
  | .scr xs => .list (D.pys xs)
  | .obj _ _ => .none
  | .err _ _ _ _ => .none
  | .cls _ => .none
  | .dct _ _ => .none
  | .fn _ => .none
def D.pys : List D → List PyData
  | [] => []
  | x :: xs => D.py x :: D.pys xs
end
mutual
def D.plain : D → Bool
  | .tup xs => D.plains xs
  | .lst xs => D.plains xs
  | .scr xs => D.plains xs
  | .obj _ _ => false
  | .err _ _ _ _ => false
  | .cls _ => false
  | .dct _ _ => false
  | .fn _ => false
  | _ => true
def D.plains : List D → Bool
  | [] => true
  | x :: xs => D.plain x && D.plains xs
end
mutual
theorem Rep.dp {K : PySem.W.Frag} {M : Addr → Prop} {H : Hp} {v : V} {d : D} (r : Rep T K M H v d) (h : d.plain = true) : Dp K H v d.py :=
  match r with
  | .non => .non
  | .bl => .bl _
  | .int => .int _
  | .str => .str _
  | .tup h1 h2 => .tup h1.sq (Reps.dp h2 h)
  | .lst n h1 h2 => .lst (SqL.of h1) (Reps.dp h2 h)
  | .scr h1 h2 => .lst h1.sq (Reps.dp h2 h)
  | .obj .. => Bool.noConfusion (show false = true from h)
  | .err .. => Bool.noConfusion (show false = true from h)
  | .cls => Bool.noConfusion (show false = true from h)
  | .dct .. => Bool.noConfusion (show false = true from h)
  | .fn .. => Bool.noConfusion (show false = true from h)
theorem Reps.dp {K : PySem.W.Frag} {M : Addr → Prop} {H : Hp} {vs : List V} {ds : List D} (r : Reps T K M H vs ds) (h : D.plains ds = true) : DpAll K H vs (D.pys ds) :=
  match r, h with
  | .nil, _ => .nil
  | .cons h1 h2, h => .cons (Rep.dp h1 (Bool.and_eq_true_iff.mp h).1) (Reps.dp h2 (Bool.and_eq_true_iff.mp h).2)
end
def okD (d : D) : Bool := d.plain && SeqAt.shaped d.py
def eqD (d e : D) : Bool := PyData.eqv d.py e.py
theorem cmp_eqD (hu : X.A.units + 64 < cLine) (h1 : okD d1 = true) (h2 : okD d2 = true) : CmpD X T .Eq (.dat d1) (.dat d2) cs (.dat (.bl (eqD d1 d2))) cs := ⟨_, op_eqD hu, fun ad F H v w Q c r1 r2 q => by
  have a1 := Bool.and_eq_true_iff.mp h1
  have a2 := Bool.and_eq_true_iff.mp h2
  exact ⟨_, _, Rep.dp r1 a1.1, Rep.dp r2 a2.1, a1.2, a2.2, q _ H ad .refl c Rep.bl⟩⟩
theorem cmp_neD (hu : X.A.units + 64 < cLine) (h1 : okD d1 = true) (h2 : okD d2 = true) : CmpD X T .NotEq (.dat d1) (.dat d2) cs (.dat (.bl (!eqD d1 d2))) cs := ⟨_, op_neD hu, fun ad F H v w Q c r1 r2 q => by
  have a1 := Bool.and_eq_true_iff.mp h1
  have a2 := Bool.and_eq_true_iff.mp h2
  exact ⟨_, _, Rep.dp r1 a1.1, Rep.dp r2 a2.1, a1.2, a2.2, q _ H ad .refl c Rep.bl⟩⟩
theorem eqD_refl (h : okD d = true) : eqD d d = true := by
  have a1 := Bool.and_eq_true_iff.mp h
  exact SeqAt.eqv_refl _ (SeqAt.canLay_of_shaped a1.2)

/-! #### builtins -/
theorem cb_len (h : isLst cs ds s1) : CalB X T "len" [s1] cs (.dat (.int ds.length)) cs := ⟨_, _, PySem.boot_len, .inl ⟨_, rfl⟩, call_len_seq, fun ad F H vs Q c r q => by
  match vs, r with
  | [v], r =>
    obtain ⟨a, ws, rfl, e1, q1⟩ := rd_lst h c r.1
    exact ⟨a, ws, rfl, .inl (SqL.of e1), by rw [q1.length]; exact q _ H ad .refl c Rep.int⟩⟩
theorem cb_lenR : CalB X T "len" [.dat (.scr ds)] cs (.dat (.int ds.length)) cs := ⟨_, _, PySem.boot_len, .inl ⟨_, rfl⟩, call_len_seq, fun ad F H vs Q c r q => by
  match vs, r with
  | [v], r =>
    have r1 := r.1
    cases r1 with
    | @scr a ws _ e1 q1 => exact ⟨a, ws, rfl, .inl e1.sq, by rw [q1.length]; exact q _ H ad .refl c Rep.int⟩⟩
theorem cb_lenT : CalB X T "len" [.dat (.tup ds)] cs (.dat (.int ds.length)) cs := ⟨_, _, PySem.boot_len, .inl ⟨_, rfl⟩, call_len_seq, fun ad F H vs Q c r q => by
  match vs, r with
  | [v], r =>
    have r1 := r.1
    cases r1 with
    | @tup a ws _ e1 q1 => exact ⟨a, ws, rfl, .inr e1.sq, by rw [q1.length]; exact q _ H ad .refl c Rep.int⟩⟩
theorem cb_lenS {x : Str} (hl : x.length ≤ sizeLine) : CalB X T "len" [.dat (.str x)] cs (.dat (.int x.length)) cs := ⟨_, _, PySem.boot_len, .inl ⟨_, rfl⟩, call_len_str, fun ad F H vs Q c r q => by
  match vs, r with
  | [v], r =>
    have r1 := r.1
    cases r1
    exact ⟨x, rfl, hl, q _ H ad .refl c Rep.int⟩⟩
theorem cb_int : CalB X T "int" [.dat (.int i)] cs (.dat (.int i)) cs := ⟨_, _, by decide +kernel, .inr ⟨_, rfl⟩, call_int1, fun ad F H vs Q c r q => by
  match vs, r with
  | [v], r =>
    have r1 := r.1
    cases r1
    exact .inl ⟨i, rfl, q _ H ad .refl c Rep.int⟩⟩
theorem cb_intB {k : Bool} : CalB X T "int" [.dat (.bl k)] cs (.dat (.int (if k then 1 else 0))) cs := ⟨_, _, by decide +kernel, .inr ⟨_, rfl⟩, call_int1, fun ad F H vs Q c r q => by
  match vs, r with
  | [v], r =>
    have r1 := r.1
    cases r1
    exact .inr ⟨k, rfl, q _ H ad .refl c Rep.int⟩⟩
theorem cb_boolB {k : Bool} : CalB X T "bool" [.dat (.bl k)] cs (.dat (.bl k)) cs := ⟨_, _, by decide +kernel, .inr ⟨_, rfl⟩, call_bool1, fun ad F H vs Q c r q => by
  match vs, r with
  | [v], r =>
    have r1 := r.1
    cases r1
    exact .inr ⟨k, rfl, q _ H ad .refl c Rep.bl⟩⟩
theorem cb_abs : CalB X T "abs" [.dat (.int i)] cs (.dat (.int (if i < 0 then -i else i))) cs := ⟨_, _, by decide +kernel, .inl ⟨_, rfl⟩, call_abs, fun ad F H vs Q c r q => by
  match vs, r with
  | [v], r =>
    have r1 := r.1
    cases r1
    exact ⟨i, rfl, q _ H ad .refl c Rep.int⟩⟩
theorem cb_max (hc : X.calm = true) : CalB X T "max" [.dat (.int i), .dat (.int j)] cs (.dat (.int (if j > i then j else i))) cs := ⟨_, _, by decide +kernel, .inl ⟨_, rfl⟩, call_max2 hc, fun ad F H vs Q c r q => by
  match vs, r with
  | [v, w], r =>
    have r1 := r.1
    have r2 := r.2.1
    cases r1; cases r2
    exact ⟨i, j, rfl, q _ H ad .refl c Rep.int⟩⟩
theorem cb_min (hc : X.calm = true) : CalB X T "min" [.dat (.int i), .dat (.int j)] cs (.dat (.int (if j < i then j else i))) cs := ⟨_, _, by decide +kernel, .inl ⟨_, rfl⟩, call_min2 hc, fun ad F H vs Q c r q => by
  match vs, r with
  | [v, w], r =>
    have r1 := r.1
    have r2 := r.2.1
    cases r1; cases r2
    exact ⟨i, j, rfl, q _ H ad .refl c Rep.int⟩⟩
theorem cb_tupL (h : isLst cs ds s1) : CalB X T "tuple" [s1] cs (.dat (.tup ds)) cs := ⟨_, _, by decide +kernel, .inr ⟨_, rfl⟩, call_tuple_of, fun ad F H vs Q c r q => by
  match vs, r with
  | [v], r =>
    obtain ⟨a, ws, rfl, e1, q1⟩ := rd_lst h c r.1
    exact ⟨a, ws, rfl, .inl ⟨SqL.of e1, fun l hl => new_tup c q1 q hl⟩⟩⟩
theorem cb_tupT : CalB X T "tuple" [.dat (.tup ds)] cs (.dat (.tup ds)) cs := ⟨_, _, by decide +kernel, .inr ⟨_, rfl⟩, call_tuple_of, fun ad F H vs Q c r q => by
  match vs, r with
  | [v], r =>
    have r1 := r.1
    cases r1 with
    | @tup a ws _ e1 q1 => exact ⟨a, ws, rfl, .inr ⟨e1.sq, q _ H ad .refl c (Rep.tup e1 q1)⟩⟩⟩
theorem cb_lstL (h : isLst cs ds s1) : CalB X T "list" [s1] cs (.dat (.lst ds)) cs := ⟨_, _, by decide +kernel, .inr ⟨_, rfl⟩, call_list_of, fun ad F H vs Q c r q => by
  match vs, r with
  | [v], r =>
    obtain ⟨a, ws, rfl, e1, q1⟩ := rd_lst h c r.1
    exact ⟨a, ws, rfl, .inl (SqL.of e1), fun l hl => new_lst c q1 q hl⟩⟩
theorem cb_lstT : CalB X T "list" [.dat (.tup ds)] cs (.dat (.lst ds)) cs := ⟨_, _, by decide +kernel, .inr ⟨_, rfl⟩, call_list_of, fun ad F H vs Q c r q => by
  match vs, r with
  | [v], r =>
    have r1 := r.1
    cases r1 with
    | @tup a ws _ e1 q1 => exact ⟨a, ws, rfl, .inr e1.sq, fun l hl => new_lst c q1 q hl⟩⟩
theorem cb_lstLC (h : isLst cs ds s1) : CalB X T "list" [s1] cs (.cel cs.length) (cs ++ [.lst ds]) := ⟨_, _, by decide +kernel, .inr ⟨_, rfl⟩, call_list_of, fun ad F H vs Q c r q => by
  match vs, r with
  | [v], r =>
    obtain ⟨a, ws, rfl, e1, q1⟩ := rd_lst h c r.1
    exact ⟨a, ws, rfl, .inl (SqL.of e1), fun l hl => new_lstC c q1 q hl⟩⟩
theorem cb_lstTC : CalB X T "list" [.dat (.tup ds)] cs (.cel cs.length) (cs ++ [.lst ds]) := ⟨_, _, by decide +kernel, .inr ⟨_, rfl⟩, call_list_of, fun ad F H vs Q c r q => by
  match vs, r with
  | [v], r =>
    have r1 := r.1
    cases r1 with
    | @tup a ws _ e1 q1 => exact ⟨a, ws, rfl, .inr e1.sq, fun l hl => new_lstC c q1 q hl⟩⟩
end

/-! ### stores to a list -/
section
variable {X : Cx} {T : Tab} {n : Nat} {S S1 S2 S3 : Sta} {e o ix : Expr} {pos p' : Pos} {d : D} {ds : List D} {k j : Nat} {i : Int} {P : Post}
theorem ds_setL (he : DE X T S e (.dat d) S1) (ho : DE X T S1 o (.cel k) S2) (hi : DE X T S2 ix (.dat (.int i)) S3) (hk : S3.cs[k]? = some (.lst ds)) (hj : ixN ds.length i = some j) (h : P.nx ⟨S3.sl, S3.cs.set k (.lst (ds.set j d))⟩)
    (ha : ∀ v, assign (.Subscript o ix p') X.env v = (do
      let ov ← holding [v] (eval o X.env)
      let iv ← holding [v, ov] (eval ix X.env)
      standAt p'
      holding [v, ov, iv] (setItem ov iv v)
      release [v, ov, iv] []) := by intro _; rfl)
    (hs : swapsWithSole [.Subscript o ix p'] e pos.line X.env = pure false := by rfl) (hw : swappedStores [.Subscript o ix p'] e X.env = pure none := by rfl)
    (h1 : (assignEach [.Subscript o ix p'] X.env).map (·.2) = [assign (.Subscript o ix p') X.env] := by rfl) : DS X T n S (.Assign [.Subscript o ix p'] e pos) P :=
  weakS (ps_asg he (pg_sub ho hi set_list ha) hs hw h1) fun D σ H ⟨ad, F, hn, h0, q, _⟩ => ⟨ad, F, h0, fun v H1 ad1 x1 h1 r1 => ⟨ad1, F, h1, fun w H2 ad2 x2 h2 r2 => ⟨ad2, F, h2, fun z H3 ad3 x3 h3 r3 => by
    cases r3
    have r2' := SlRep.ext x3 r2
    obtain ⟨a, ea, rfl⟩ := r2'
    obtain ⟨vs, e1, q1⟩ := h3.hc.ce k a _ ea hk
    have rd : Rep T X.K (Mm ad3 F) H3 v d := SlRep.ext (s := .dat d) x3 (SlRep.ext (s := .dat d) x2 r1)
    refine ⟨a, vs, i, j, rfl, rfl, e1, by rw [q1.length]; exact hj, ?_⟩
    have kp : Kp (Mm ad3 F) H3 (Mm ad3 F) (upd H3 a (.lst (vs.set j v))) := fun b o e n => ⟨by rw [upd_ne (fun z => n (.inl (by rw [z]; exact List.mem_of_getElem? ea)))]; exact e, n⟩
    obtain ⟨c4, x4⟩ := h3.hc.setc (o := .lst (vs.set j v)) (c := .lst (ds.set j d)) ea ⟨_, upd_same, (q1.set rd j).kp kp⟩
    have x : Ext ad F H ad3 _ := x1.trans h1.hc (x2.trans h2.hc (x3.trans h3.hc x4))
    exact q _ _ _ ad3 (x.s hn) (x.le hn) (h3.to x4 c4) h⟩⟩⟩
end
end Dl

namespace Dl
open PySem L2

/-! ### comprehensions -/
def wipeS (sl : List (Option Sl)) : List Nat → List (Option Sl)
  | [] => sl
  | v :: vs => (wipeS sl vs).set v none
theorem wipeS_len (sl : List (Option Sl)) : ∀ vs, (wipeS sl vs).length = sl.length
  | [] => rfl
  | v :: vs => by unfold wipeS; rw [List.length_set, wipeS_len sl vs]
theorem wipeS_some {sl : List (Option Sl)} {i : Nat} {s : Sl} : ∀ {vs : List Nat}, (wipeS sl vs)[i]? = some (some s) → sl[i]? = some (some s) ∧ i ∉ vs
  | [], h => ⟨h, by simp⟩
  | v :: vs, h => by
    unfold wipeS at h
    by_cases e : v = i
    · subst e
      rw [List.getElem?_set] at h
      split at h
      · split at h <;> cases h
      · rename_i z; exact absurd rfl z
    · rw [List.getElem?_set_ne e] at h
      obtain ⟨h1, h2⟩ := wipeS_some h
      exact ⟨h1, fun z => (List.mem_cons.mp z).elim (fun q => e q.symm) h2⟩
def tDTs (T : Tab) (K : PySem.W.Frag) := tDT T K
def DTs (X : Cx) (T : Tab) (S : Sta) (ifs : List Expr) (b : Bool) (S' : Sta) : Prop := PTs X ifs (tDT T X.K S b S')
theorem weakTs {X : Cx} {e : List Expr} {t t' : TT} (h : PTs X e t) (q : ∀ σ H Q, t' σ H Q → t σ H Q) : PTs X e t' := ⟨fun pins s σ H Q I z => h.run pins s σ H Q I (q σ H Q z)⟩
theorem dts_nil {X : Cx} {T : Tab} {S : Sta} : DTs X T S [] true S := weakTs pts_nil fun σ H Q ⟨ad, F, h, q⟩ => q H ad .refl h
theorem dts_one {X : Cx} {T : Tab} {S S1 : Sta} {c : Expr} {b : Bool} (h : DT X T S c b S1) : DTs X T S [c] b S1 := pts_one h

/-- one turn: from the slots and cells the item made (none: left out) and the cells behind -/
abbrev Turn1 := List (Option Sl) → List Cell → Option D → List Cell → Prop
def DLcs (B : Turn1) (p : Pat) (sl : List (Option Sl)) : List D → List Cell → List D → List Cell → Prop
  | [], cs, acc, cs' => acc = [] ∧ cs' = cs
  | d :: ds, cs, acc, cs' => ∃ sl' o cs1 acc1, asgP p d sl = some sl' ∧ B sl' cs o cs1 ∧ DLcs B p sl ds cs1 acc1 cs' ∧ acc = o.toList ++ acc1
/-- the block's contexts -/
def InB (X : Cx) (scope : Scope) (f : Cx → Prop) : Prop := ∀ (s : Shared) (H : Hp) (C : Addr) (cl : List (Str × Addr)) (fp : List Addr), f (X.blk s H scope (compEnvC scope cl C X.env) fp)
def LcB (X : Cx) (T : Tab) (scope : Scope) (ifs : List Expr) (elt : Expr) : Turn1 := fun sl' cs o cs1 =>
  ∃ b S2, InB X scope (fun X' => DTs X' T ⟨sl', cs⟩ ifs b S2) ∧ ((b = true ∧ ∃ d S3, InB X scope (fun X' => DE X' T S2 elt (.dat d) S3) ∧ o = some d ∧ cs1 = S3.cs) ∨ (b = false ∧ o = none ∧ cs1 = S2.cs))
structure DLC (X : Cx) (T : Tab) (S : Sta) (elt tg iter : Expr) (ifs : List Expr) (scope : Scope) (own : List (Str × Nat)) (wi : TI) (g : TG) (tt : TT) (te : TE) (s : Sl) (S' : Sta) : Prop where
  hi : PI X tg iter wi
  ok : BlkOk X.N X.env.scope scope own
  hg : ∀ (s : Shared) (H : Hp) (C : Addr) (cl : List (Str × Addr)) (fp : List Addr), PG (X.blk s H scope (compEnvC scope cl C X.env) fp) tg g
  ht : ∀ (s : Shared) (H : Hp) (C : Addr) (cl : List (Str × Addr)) (fp : List Addr), PTs (X.blk s H scope (compEnvC scope cl C X.env) fp) ifs tt
  he : ∀ (s : Shared) (H : Hp) (C : Addr) (cl : List (Str × Addr)) (fp : List Addr), PE (X.blk s H scope (compEnvC scope cl C X.env) fp) elt te
  rd : ∀ σ H Q, tD T X.K S s S' σ H Q → tLc wi g tt te (own.map (·.2)) σ H Q
section
variable {X : Cx} {T : Tab} {S S1 : Sta} {elt tg iter : Expr} {ifs : List Expr} {scope : Scope} {own : List (Str × Nat)} {p : Pat} {items acc : List D} {cs' : List Cell}
/-- wi and the rest, chosen -/
def wiD (T : Tab) (K : PySem.W.Frag) (S : Sta) (items : List D) (S1 : Sta) : TI := tDI T K S items S1
def ttD (X : Cx) (T : Tab) (scope : Scope) (ifs : List Expr) : TT := fun σ H Q => ∃ S b S', InB X scope (fun X' => DTs X' T S ifs b S') ∧ tDT T X.K S b S' σ H Q
def teD (X : Cx) (T : Tab) (scope : Scope) (elt : Expr) : TE := fun σ H Q => ∃ S s S', InB X scope (fun X' => DE X' T S elt s S') ∧ tD T X.K S s S' σ H Q
theorem wipe_asis {σ σ' : St} {vs : List Nat} {ns : List Nat} (h : AsIs ns (wipe σ vs) σ') (hs : ∀ i ∈ ns, i ∈ vs) : wipe σ' vs = wipe σ vs := by
  apply List.ext_getElem?
  intro i
  by_cases hi : i ∈ vs
  · have : ∀ (τ : St) (us : List Nat), i ∈ us → (wipe τ us)[i]? = if i < τ.length then some none else none := by
      intro τ us
      induction us with
      | nil => intro h; cases h
      | cons v us ih =>
        intro h
        unfold wipe
        by_cases e : v = i
        · subst e
          rw [List.getElem?_set, if_pos rfl, wipe_length]
        · rw [List.getElem?_set_ne e]
          exact ih ((List.mem_cons.mp h).resolve_left (fun q => e q.symm))
    rw [this _ _ hi, this _ _ hi, h.1, wipe_length]
  · rw [wipe_out hi, wipe_out hi, h.2 i fun z => hi (hs i z), wipe_out hi]
theorem dlc (hi : DI X T S tg iter items S1) (ok : BlkOk X.N X.env.scope scope own) (hg : InB X scope fun X' => DG X' T tg p) (hp : ∀ i ∈ slotsP p, i ∈ own.map (·.2))
    (h : DLcs (LcB X T scope ifs elt) p (wipeS S1.sl (own.map (·.2))) items S1.cs acc cs') (hl : items.length < sizeLine) : DLC X T S elt tg iter ifs scope own (wiD T X.K S items S1) (tDG T X.K p) (ttD X T scope ifs) (teD X T scope elt) (.dat (.lst acc)) ⟨S1.sl, cs'⟩ := by
  refine ⟨hi, ok, hg, fun s H C cl fp => ⟨fun pins s2 σ H2 Q I ⟨S', b, S'', hh, z⟩ => (hh s H C cl fp).run pins s2 σ H2 Q I z⟩, fun s H C cl fp => ⟨fun pins s2 σ H2 Q I ⟨S', s', S'', hh, z⟩ => (hh s H C cl fp).run pins s2 σ H2 Q I z⟩, ?_⟩
  rintro σ H Q ⟨ad, F, h0, q⟩
  refine ⟨ad, F, h0, fun J H1 ad1 x1 h1 okI Dl hD => ?_⟩
  let vs := own.map (·.2)
  have nD := h1.hc.new hD
  let F' : Addr → Prop := fun a => F a ∨ a = Dl
  have neD : ∀ a o, H1 a = some o → a ≠ Dl := fun a o e => ne_of_none e hD
  -- the slots, at any later heap
  have slots : ∀ {ad' : List Addr} {H' : Hp} {cs : List Cell}, Ext ad1 F H1 ad' H' → HoldC T X.K ad' F' H' cs → Hold T X.K ⟨wipeS S1.sl vs, cs⟩ ad' F' (wipe σ vs) H' := fun {ad' H' cs} x c => by
    refine ⟨c, by rw [wipe_length, wipeS_len]; exact h1.sz, fun i s e => ?_⟩
    obtain ⟨e1, e2⟩ := wipeS_some e
    obtain ⟨v, hv, r⟩ := h1.sl i s e1
    refine ⟨v, by rw [wipe_out e2]; exact hv, ?_⟩
    cases s with
    | dat d => exact Rep.kp (fun a o e n => ⟨x.keep a o e n, fun z => (x.kp a o e n).2 (z.imp id fun z => z.resolve_right (neD a o e))⟩) r
    | cel k =>
      have r' := SlRep.ext x r
      exact r'
  have h1' : HoldC T X.K ad1 F' (upd H1 Dl (.lst [])) S1.cs := by
    obtain ⟨c2, x2⟩ := h1.hc.newo (o := .lst []) hD
    have kp : Kp (Mm ad1 F) H1 (Mm ad1 F') (upd H1 Dl (.lst [])) := fun a o e n => ⟨by rw [upd_ne (neD a o e)]; exact e, fun z => n (z.imp id fun z => z.resolve_right (neD a o e))⟩
    refine ⟨h1.hc.nd, fun a ha z => z.elim (h1.hc.fr a ha) fun z => nD (.inl (z ▸ ha)), fun a z => ?_, h1.hc.tb.newF hD (fun _ z => nomatch z), h1.hc.ln, fun k a c e1 e2 => ?_⟩
    · rcases z with z | z
      · exact c2.al a z
      · rw [z]; exact ⟨_, upd_same⟩
    · have qc := h1.hc.ce k a c e1 e2
      obtain ⟨o, e⟩ := qc.some
      exact qc.kp kp (upd_ne (neD a o e))
  have x1' : Ext ad1 F H1 ad1 (upd H1 Dl (.lst [])) := (h1.hc.newo hD).2
  refine ⟨fun i m H' => ∃ ad' accV accD ci rest, i ≤ items.length ∧ m = items.length - i ∧ Ext ad1 F H1 ad' H' ∧ HoldC T X.K ad' F' H' ci ∧ H' Dl = some (.lst accV) ∧ Reps T X.K (Mm ad' F') H' accV accD ∧ accD.length ≤ i ∧
    DLcs (LcB X T scope ifs elt) p (wipeS S1.sl vs) (items.drop i) ci rest cs' ∧ accD ++ rest = acc, ⟨items.length, ad1, [], [], S1.cs, acc, Nat.zero_le _, rfl, x1', h1', upd_same, .nil, Nat.le_refl _, h, rfl⟩, ?_⟩
  rintro i m H' ⟨ad', accV, accD, ci, rest, hi', rfl, x', c', eD, rA, lA, hL, eA⟩
  have kpI : Kp (Mm ad1 F) H1 (Mm ad' F') H' := fun a o e n => ⟨x'.keep a o e n, fun z => (x'.kp a o e n).2 (z.imp id fun z => z.resolve_right (neD a o e))⟩
  obtain ⟨ok1, ok2⟩ := okI F' ad' H' ci c' kpI i
  by_cases hlt : i < items.length
  · have hd : items[i]? = some items[i] := List.getElem?_eq_getElem hlt
    obtain ⟨g1, g2⟩ := ok1 _ hd
    rw [List.drop_eq_getElem_cons hlt] at hL
    obtain ⟨sl', o, cs1, acc1, eas, ⟨b, S2, hts, hb⟩, hL2, eacc⟩ := hL
    refine .inr ⟨g1, fun H2 => ∃ m', m' < items.length - i ∧ ∃ ad' accV accD ci rest, i + 1 ≤ items.length ∧ m' = items.length - (i + 1) ∧ Ext ad1 F H1 ad' H2 ∧ HoldC T X.K ad' F' H2 ci ∧ H2 Dl = some (.lst accV) ∧ Reps T X.K (Mm ad' F') H2 accV accD ∧ accD.length ≤ i + 1 ∧
      DLcs (LcB X T scope ifs elt) p (wipeS S1.sl vs) (items.drop (i + 1)) ci rest cs' ∧ accD ++ rest = acc, fun H2 ⟨m', hm, z⟩ => ⟨m', hm, z⟩, fun v H3 y => ?_⟩
    obtain ⟨gr, rv⟩ := g2 v H3 y
    obtain ⟨c3, x3⟩ := grow c' gr
    have x13 : Ext ad1 F H1 ad' H3 := ⟨x'.pre, fun a o e n => gr a o (x'.keep a o e n), fun a fa => (x'.frm a fa).trans (.inl (by
      obtain ⟨o, e⟩ := (x'.frm a fa).ex (h1.hc.al a fa)
      rw [gr a o e, e]))⟩
    refine ⟨ad', F', ⟨wipeS S1.sl vs, ci⟩, items[i], sl', slots x13 c3, rv, eas, fun σ4 a4 h4 => ⟨wipe_asis a4 hp, ⟨sl', ci⟩, b, S2, hts, ad', F', h4, fun H5 ad5 x5 h5 => ?_⟩⟩
    have cvt : ∀ {ad6 : List Addr} {H6 : Hp}, Ext ad' F' H3 ad6 H6 → Ext ad1 F H1 ad6 H6 := fun {ad6 H6} x6 => by
      obtain ⟨t, e, ht⟩ := x13.pre
      obtain ⟨t2, e2, ht2⟩ := x6.pre
      refine ⟨⟨t ++ t2, by rw [e2, e, List.append_assoc], fun a ha => ?_⟩, fun a o e n => ?_, fun a fa => ?_⟩
      · rcases List.mem_append.mp ha with z | z
        · exact ht a z
        · cases q1 : H1 a with
          | none => rfl
          | some o =>
            exfalso
            have hz := ht2 a z
            by_cases n : Mm ad1 F a
            · rcases n with n | n
              · obtain ⟨o', e'⟩ := c3.mem (a := a) (by rw [e]; exact List.mem_append_left _ n)
                rw [e'] at hz; cases hz
              · obtain ⟨o', e'⟩ := (x13.frm a n).ex ⟨_, q1⟩
                rw [e'] at hz; cases hz
            · rw [x13.keep a o q1 n] at hz; cases hz
      · have n3 : ¬ Mm ad' F' a := fun z => (x13.kp a o e n).2 (z.imp id fun z => z.resolve_right (neD a o e))
        exact x6.keep a o (x13.keep a o e n) n3
      · exact (x13.frm a fa).trans (x6.frm a (.inl fa))
    have eD3 : H3 Dl = some (.lst accV) := gr _ _ eD
    have rA3 : Reps T X.K (Mm ad' F') H3 accV accD := rA.kp x3.kp
    rcases hb with ⟨rfl, d', S3, hE, rfl, rfl⟩ | ⟨rfl, rfl, rfl⟩
    · refine iteT ⟨S2, .dat d', S3, hE, ad5, F', h5, fun w H6 ad6 x6 h6 r6 => ⟨accV, ?_, ?_, ?_⟩⟩
      · exact (x6.frm Dl (.inr rfl)).eq ((x5.frm Dl (.inr rfl)).eq eD3 (fun _ z => nomatch z)) (fun _ z => nomatch z)
      · have := rA3.length
        omega
      · have x36 : Ext ad' F' H3 ad6 H6 := x5.trans h5.hc x6
        have x16 := cvt x36
        have hDa : Dl ∉ ad6 := fun z => h6.hc.fr Dl z (.inr rfl)
        have kpU : Kp (Mm ad6 F') H6 (Mm ad6 F') (upd H6 Dl (.lst (accV ++ [w]))) := fun a o e n => ⟨by rw [upd_ne (fun z => n (.inr (.inr z)))]; exact e, n⟩
        refine ⟨_, by omega, ad6, accV ++ [w], accD ++ [d'], S3.cs, acc1, hlt, rfl, ?_, ?_, upd_same, ((rA3.kp x36.kp).append (.cons r6 .nil)).kp kpU, by rw [List.length_append]; simp; omega, hL2, ?_⟩
        · exact ⟨x16.pre, fun a o e n => by rw [upd_ne (neD a o e)]; exact x16.keep a o e n, fun a fa => by
            obtain ⟨o, e⟩ := h1.hc.al a fa
            exact (x16.frm a fa).trans (.inl (by
              obtain ⟨o6, e6⟩ := (x16.frm a fa).ex ⟨o, e⟩
              rw [upd_ne (neD a o e)]))⟩
        · refine ⟨h6.hc.nd, h6.hc.fr, fun a z => ?_, h6.hc.tb.upd ((x6.frm Dl (.inr rfl)).eq ((x5.frm Dl (.inr rfl)).eq eD3 (fun _ z => nomatch z)) (fun _ z => nomatch z)) (fun _ z => nomatch z) (fun _ z => nomatch z) (fun _ z => nomatch z), h6.hc.ln, fun k a c e1 e2 => ?_⟩
          · by_cases e : a = Dl
            · rw [e]; exact ⟨_, upd_same⟩
            · rw [upd_ne e]; exact h6.hc.al a z
          · exact (h6.hc.ce k a c e1 e2).kp kpU (upd_ne fun z => hDa (z ▸ List.mem_of_getElem? e1))
        · rw [← eA, eacc, List.append_assoc]; rfl
    · refine iteF ⟨_, by omega, ad5, accV, accD, S2.cs, acc1, hlt, rfl, cvt x5, h5.hc, ?_, rA3.kp x5.kp, by omega, hL2, ?_⟩
      · exact (x5.frm Dl (.inr rfl)).eq eD3 (fun _ z => nomatch z)
      · rw [← eA, eacc]; rfl
  · have e : i = items.length := by omega
    subst e
    rw [List.drop_length] at hL
    obtain ⟨rfl, rfl⟩ := hL
    rw [List.append_nil] at eA
    subst eA
    refine .inl ⟨ok2 rfl, ?_⟩
    have kpF : Kp (Mm ad' F') H' (Mm ad' F) H' := fun a o e n => ⟨e, fun z => n (z.imp id .inl)⟩
    have cF : HoldC T X.K ad' F H' cs' := ⟨c'.nd, fun a ha z => c'.fr a ha (.inl z), fun a z => c'.al a (.inl z), h1.hc.tb.back (fun _ z => .inl z) c'.tb, c'.ln, fun k a c e1 e2 => (c'.ce k a c e1 e2).kp kpF rfl⟩
    have nD' : ¬ Mm ad' F Dl := fun z => z.elim (fun z => c'.fr Dl z (.inr rfl)) fun z => nD (.inr z)
    exact q (.ref Dl) H' ad' (x1.trans h1.hc x') (h1.to x' cF) (Rep.lst nD' eD (rA.kp kpF))
variable {wi : TI} {g : TG} {tt : TT} {te : TE} {s : Sl} {S' : Sta} {pos : Pos}
theorem de_lc (hN : X.N.Nodup) (h : DLC X T S elt tg iter ifs scope own wi g tt te s S') (hc : X.calm = true := by rfl) (hs : ∀ x, foldedSetIterable iter X.env x = pure x := by intro _; rfl) : DE X T S (.ListComp elt [⟨tg, iter, ifs, 0⟩] scope pos) s S' :=
  weak (pe_lc hc hN h.hi h.ok h.hg h.ht h.he hs) h.rd
theorem ds_lc (i : Nat) {y : Str} {py spos : Pos} {n : Nat} {P : Post} (hN : X.N.Nodup) (h : DLC X T S elt tg iter ifs scope own wi g tt te s S') (q : P.nx ⟨S'.sl.set i (some s), S'.cs⟩) (hy : X.N[i]? = some y := by rfl) (hyl : X.env.scope.names.lookup y = some .local := by rfl)
    (hsw : swapsWith (.ListComp elt [⟨tg, iter, ifs, 0⟩] scope pos) (some (.Name y py)) spos.line X.env = pure true := by exact sw_true rfl rfl rfl (by decide +kernel)) (hc : X.calm = true := by rfl) (hs : ∀ x, foldedSetIterable iter X.env x = pure x := by intro _; rfl) :
    DS X T n S (.Assign [.Name y py] (.ListComp elt [⟨tg, iter, ifs, 0⟩] scope pos) spos) P :=
  weakS (ps_setLc hc hN hy hyl hsw h.hi h.ok h.hg h.ht h.he hs) fun D σ H ⟨ad, F, hn, h0, q1, _⟩ => h.rd σ H _ ⟨ad, F, h0, fun v H1 ad1 x1 h1 r1 => q1 _ _ H1 ad1 (x1.s hn) (x1.le hn) (h1.set r1 i) q⟩
end
/-! #### the turns -/
section
variable {B : Turn1} {p : Pat} {sl : List (Option Sl)} {cs : List Cell}
theorem lcs_map {α : Type} {g : α → D} (f : α → D) : ∀ (xs : List α), (∀ x ∈ xs, ∃ sl', asgP p (g x) sl = some sl' ∧ B sl' cs (some (f x)) cs) → DLcs B p sl (xs.map g) cs (xs.map f) cs
  | [], _ => ⟨rfl, rfl⟩
  | x :: xs, h => by
    obtain ⟨sl', e, hb⟩ := h x List.mem_cons_self
    exact ⟨sl', _, cs, xs.map f, e, hb, lcs_map f xs fun y hy => h y (List.mem_cons_of_mem _ hy), rfl⟩
theorem lcs_filter {α : Type} {g : α → D} (f : α → Option D) : ∀ (xs : List α), (∀ x ∈ xs, ∃ sl', asgP p (g x) sl = some sl' ∧ B sl' cs (f x) cs) → DLcs B p sl (xs.map g) cs (xs.filterMap f) cs
  | [], _ => ⟨rfl, rfl⟩
  | x :: xs, h => by
    obtain ⟨sl', e, hb⟩ := h x List.mem_cons_self
    refine ⟨sl', _, cs, xs.filterMap f, e, hb, lcs_filter f xs fun y hy => h y (List.mem_cons_of_mem _ hy), ?_⟩
    cases q : f x with
    | none => rw [List.filterMap_cons_none q]; rfl
    | some z => rw [List.filterMap_cons_some q]; rfl
variable {X : Cx} {T : Tab} {scope : Scope} {elt c : Expr} {sl' : List (Option Sl)} {cs1 : List Cell} {d : D} {S2 S3 : Sta}
theorem lcb (h : InB X scope fun X' => DE X' T ⟨sl', cs⟩ elt (.dat d) ⟨sl', cs1⟩) : LcB X T scope [] elt sl' cs (some d) cs1 := ⟨true, ⟨sl', cs⟩, fun _ _ _ _ _ => dts_nil, .inl ⟨rfl, d, _, h, rfl, rfl⟩⟩
theorem lcb_t (h1 : InB X scope fun X' => DT X' T ⟨sl', cs⟩ c true S2) (h : InB X scope fun X' => DE X' T S2 elt (.dat d) S3) : LcB X T scope [c] elt sl' cs (some d) S3.cs := ⟨true, S2, fun s H C cl fp => dts_one (h1 s H C cl fp), .inl ⟨rfl, d, _, h, rfl, rfl⟩⟩
theorem lcb_f (h1 : InB X scope fun X' => DT X' T ⟨sl', cs⟩ c false S2) : LcB X T scope [c] elt sl' cs none S2.cs := ⟨false, S2, fun s H C cl fp => dts_one (h1 s H C cl fp), .inr ⟨rfl, rfl, rfl⟩⟩
end
end Dl

namespace Dl
open PySem L2

/-! ### zip -/
section
variable {X : Cx} {T : Tab} {S S1 S2 : Sta} {e e2 : Expr} {pos p tpos : Pos} {ds es : List D} {elts : List Expr} {kk : Nat}
def zipD (ds es : List D) : List D := (ds.zip es).map fun q => D.tup [q.1, q.2]
theorem zipD_get {i : Nat} {d : D} (h : (zipD ds es)[i]? = some d) : ∃ x y, ds[i]? = some x ∧ es[i]? = some y ∧ d = .tup [x, y] := by
  unfold zipD at h
  rw [List.getElem?_map] at h
  cases q : (ds.zip es)[i]? with
  | none => rw [q] at h; cases h
  | some z =>
    rw [q] at h
    rw [List.getElem?_zip_eq_some] at q
    exact ⟨z.1, z.2, q.1, q.2, (Option.some.inj h).symm⟩
theorem zipD_len : (zipD ds es).length = min ds.length es.length := by unfold zipD; rw [List.length_map, List.length_zip]
theorem di_zipT (h : DA X T S [e, e2] [.dat (.tup ds), .dat (.tup es)] S1) (hm : X.mg "zip" = none) (hg : Gl X "zip" := by rfl) (hs : starEach [e, e2] X.env = (false, eval e X.env) :: starEach [e2] X.env := by rfl)
    (hpl : (backTo pos (starEach [e2] X.env)).any (·.1) = false := by rfl) : DI X T S (.Tuple elts kk tpos) (.Call (.Name "zip" p) [e, e2] [] pos) (zipD ds es) S1 :=
  weakI (RZ.pi_zipA hg hm h hs hpl) fun σ H R ⟨ad, F, h0, q⟩ => ⟨ad, F, h0, fun vs H1 ad1 x1 h1' r1 => by
    match vs, r1 with
    | [v, w], r1 =>
      have r2 := r1.2.1
      have r1 := r1.1
      cases r1 with
      | @tup a xs _ e1 q1 =>
        cases r2 with
        | @tup b ys _ e2 q2 =>
          refine ⟨a, b, xs, ys, rfl, .inr ⟨e1.sq, e2.sq, q _ H1 ad1 x1 h1' fun F2 ad2 H2 cs2 c2 kp i => ⟨fun d hd => ?_, fun hi => ?_⟩⟩⟩
          · obtain ⟨x, y, hx, hy, rfl⟩ := zipD_get hd
            obtain ⟨vx, gx, rx⟩ := (q1.kp kp).get hx
            obtain ⟨vy, gy, ry⟩ := (q2.kp kp).get hy
            refine ⟨⟨xs, ys, vx, vy, (e1.kp kp).sq, (e2.kp kp).sq, gx, gy⟩, fun u H3 z => ?_⟩
            obtain ⟨t, x', y', rfl, nt, rfl, f1, f2⟩ := z
            have ex : x' = vx := Option.some.inj ((f1 _ (e1.kp kp).sq).symm.trans gx)
            have ey : y' = vy := Option.some.inj ((f2 _ (e2.kp kp).sq).symm.trans gy)
            subst ex ey
            obtain ⟨c3, x3⟩ := c2.newo (o := .tup [x', y']) nt
            exact ⟨fun a o ea => by rw [upd_ne (ne_of_none ea nt)]; exact ea, .tup (vs := [x', y']) (.inl ⟨c2.new nt, .inl upd_same⟩) (.cons (rx.kp x3.kp) (.cons (ry.kp x3.kp) .nil))⟩
          · refine ⟨xs, ys, (e1.kp kp).sq, (e2.kp kp).sq, ?_⟩
            rw [zipD_len] at hi
            rw [q1.length, q2.length]
            omega⟩
theorem di_zipL (h : DA X T S [e, e2] [.dat (.lst ds), .dat (.lst es)] S1) (hm : X.mg "zip" = none) (hg : Gl X "zip" := by rfl) (hs : starEach [e, e2] X.env = (false, eval e X.env) :: starEach [e2] X.env := by rfl)
    (hpl : (backTo pos (starEach [e2] X.env)).any (·.1) = false := by rfl) : DI X T S (.Tuple elts kk tpos) (.Call (.Name "zip" p) [e, e2] [] pos) (zipD ds es) S1 :=
  weakI (RZ.pi_zipA hg hm h hs hpl) fun σ H R ⟨ad, F, h0, q⟩ => ⟨ad, F, h0, fun vs H1 ad1 x1 h1' r1 => by
    match vs, r1 with
    | [v, w], r1 =>
      have r2 := r1.2.1
      have r1 := r1.1
      cases r1 with
      | @lst a xs _ n1 e1 q1 =>
        cases r2 with
        | @lst b ys _ n2 e2 q2 =>
          refine ⟨a, b, xs, ys, rfl, .inl ⟨SqL.of e1, SqL.of e2, q _ H1 ad1 x1 h1' fun F2 ad2 H2 cs2 c2 kp i => ⟨fun d hd => ?_, fun hi => ?_⟩⟩⟩
          · obtain ⟨x, y, hx, hy, rfl⟩ := zipD_get hd
            obtain ⟨vx, gx, rx⟩ := (q1.kp kp).get hx
            obtain ⟨vy, gy, ry⟩ := (q2.kp kp).get hy
            have s1 : SqL X.K H2 a xs := SqL.of (kp _ _ e1 n1).1
            have s2 : SqL X.K H2 b ys := SqL.of (kp _ _ e2 n2).1
            refine ⟨⟨xs, ys, vx, vy, s1, s2, gx, gy⟩, fun u H3 z => ?_⟩
            obtain ⟨t, x', y', rfl, nt, rfl, f1, f2⟩ := z
            have ex : x' = vx := Option.some.inj ((f1 _ s1).symm.trans gx)
            have ey : y' = vy := Option.some.inj ((f2 _ s2).symm.trans gy)
            subst ex ey
            obtain ⟨c3, x3⟩ := c2.newo (o := .tup [x', y']) nt
            exact ⟨fun a o ea => by rw [upd_ne (ne_of_none ea nt)]; exact ea, .tup (vs := [x', y']) (.inl ⟨c2.new nt, .inl upd_same⟩) (.cons (rx.kp x3.kp) (.cons (ry.kp x3.kp) .nil))⟩
          · refine ⟨xs, ys, SqL.of (kp _ _ e1 n1).1, SqL.of (kp _ _ e2 n2).1, ?_⟩
            rw [zipD_len] at hi
            rw [q1.length, q2.length]
            omega⟩
end

/-! ### a, b = .. -/
section
variable {X : Cx} {T : Tab} {n : Nat} {S S1 S2 : Sta} {a b c e tg : Expr} {pos px py pz pt pt2 : Pos} {kt k2 : Nat} {s1 s2 s3 : Sl} {d : D} {x y z : Str} {P : Post} {p : Pat} {sl' : List (Option Sl)}
theorem ds_par (i j : Nat) (hN : X.N.Nodup) (ha : DA X T S [a, b] [s1, s2] S1) (h : P.nx ⟨(S1.sl.set i (some s1)).set j (some s2), S1.cs⟩) (hi : X.N[i]? = some x := by rfl) (hj : X.N[j]? = some y := by rfl) (hij : i ≠ j := by decide)
    (hx : X.env.scope.names.lookup x = some .local := by rfl) (hy : X.env.scope.names.lookup y = some .local := by rfl) (hc : X.calm = true := by rfl)
    (hw : swappedStores [.Tuple [.Name x px, .Name y py] kt pt] (.Tuple [a, b] k2 pt2) X.env = pure (some [x, y]) := by rfl)
    (hs : swapsWithSole [.Tuple [.Name x px, .Name y py] kt pt] (.Tuple [a, b] k2 pt2) pos.line X.env = pure false := by rfl) : DS X T n S (.Assign [.Tuple [.Name x px, .Name y py] kt pt] (.Tuple [a, b] k2 pt2) pos) P :=
  weakS (ps_par hc hN hi hj hij hx hy ha hw hs) fun D σ H ⟨ad, F, hn, h0, q, _⟩ => ⟨ad, F, h0, fun vs H1 ad1 x1 h1 r1 => by
    match vs, r1 with
    | [v, w], r1 => exact ⟨v, w, rfl, q _ _ H1 ad1 (x1.s hn) (x1.le hn) ((h1.set r1.1 i).set r1.2.1 j) h⟩⟩
theorem ds_par3 (i j l : Nat) (hN : X.N.Nodup) (ha : DA X T S [a, b, c] [s1, s2, s3] S1) (h : P.nx ⟨((S1.sl.set i (some s1)).set j (some s2)).set l (some s3), S1.cs⟩) (hi : X.N[i]? = some x := by rfl) (hj : X.N[j]? = some y := by rfl) (hl : X.N[l]? = some z := by rfl) (hij : i ≠ j := by decide) (hil : i ≠ l := by decide) (hjl : j ≠ l := by decide)
    (hx : X.env.scope.names.lookup x = some .local := by rfl) (hy : X.env.scope.names.lookup y = some .local := by rfl) (hz : X.env.scope.names.lookup z = some .local := by rfl) (hc : X.calm = true := by rfl)
    (hw : swappedStores [.Tuple [.Name x px, .Name y py, .Name z pz] kt pt] (.Tuple [a, b, c] k2 pt2) X.env = pure (some [x, y, z]) := by rfl)
    (hs : swapsWithSole [.Tuple [.Name x px, .Name y py, .Name z pz] kt pt] (.Tuple [a, b, c] k2 pt2) pos.line X.env = pure false := by rfl) : DS X T n S (.Assign [.Tuple [.Name x px, .Name y py, .Name z pz] kt pt] (.Tuple [a, b, c] k2 pt2) pos) P :=
  weakS (L2.ps_par3 hc hN hi hj hl hij hil hjl hx hy hz ha hw hs) fun D σ H ⟨ad, F, hn, h0, q, _⟩ => ⟨ad, F, h0, fun vs H1 ad1 x1 h1 r1 => by
    match vs, r1 with
    | [u, v, w], r1 => exact ⟨u, v, w, rfl, q _ _ H1 ad1 (x1.s hn) (x1.le hn) (((h1.set r1.1 i).set r1.2.1 j).set r1.2.2.1 l) h⟩⟩
/-- targets = data -/
theorem ds_tup (he : DE X T S e (.dat d) S1) (hg : DG X T tg p) (ha : asgP p d S1.sl = some sl') (h : P.nx ⟨sl', S1.cs⟩) (hs : swapsWithSole [tg] e pos.line X.env = pure false := by rfl) (hw : swappedStores [tg] e X.env = pure none := by rfl)
    (h1 : (assignEach [tg] X.env).map (·.2) = [assign tg X.env] := by rfl) : DS X T n S (.Assign [tg] e pos) P :=
  weakS (ps_asg he hg hs hw h1) fun D σ H ⟨ad, F, hn, h0, q, _⟩ => ⟨ad, F, h0, fun v H1 ad1 x1 h1 r1 => ⟨ad1, F, S1, d, sl', h1, r1, ha, fun σ' _ h2 => q _ _ H1 ad1 (x1.s hn) (x1.le hn) h2 h⟩⟩
end

/-! ### while -/
section
variable {X : Cx} {T : Tab} {n : Nat} {S S1 : Sta} {c : Expr} {body : List Stmt} {pos : Pos} {P : Post}
theorem ds_while (I : Nat → Sta → Prop) (m0 : Nat) (h0 : I m0 S)
    (hs : ∀ m S, I m S → ∃ b S1, DT X T S c b S1 ∧ (b = true → DSs X T n S1 body { P with nx := fun S' => ∃ m', m' < m ∧ I m' S', ct := fun S' => ∃ m', m' < m ∧ I m' S', bk := P.nx }) ∧ (b = false → P.nx S1))
    (hp : PassesOwn (model X.prog X.w) X.A X.env X.xe := by exact PassesOwn.never) : DS X T n S (.While c body [] pos) P := by
  have hb : PSs X body (fun D σ H => ∃ S P, DSs X T n S body P ∧ tDS T X.K n S P D σ H) := ⟨fun pins s σ H D I ⟨S', P', hS, z⟩ => hS.run pins s σ H D I z⟩
  have hc : PT X c (fun σ H Q => ∃ S b S1, DT X T S c b S1 ∧ tDT T X.K S b S1 σ H Q) := ⟨fun pins s σ H Q I ⟨S', b, S1, hS, z⟩ => hS.run pins s σ H Q I z⟩
  refine weakS (ps_while hp hc hb) fun D σ H ⟨ad, F, hn, h1, q1, q2, q3, q4, q5⟩ => ?_
  refine ⟨fun m σ' H' => ∃ ad' S', n ≤ ad'.length ∧ Hold T X.K S' ad' F σ' H' ∧ ExtS n ad F H ad' H' ∧ I m S', ⟨m0, ad, S, hn, h1, .refl, h0⟩, ?_⟩
  rintro m σ' H' ⟨ad', S', hn', h', x', hI⟩
  obtain ⟨b, S1, hd, ht, hf⟩ := hs m S' hI
  refine ⟨S', b, S1, hd, ad', F, h', fun H2 ad2 x2 h2 => ?_⟩
  have x12 := x'.trans (x2.s hn')
  have hn2 := x2.le hn'
  cases b with
  | true =>
    refine iteT ⟨fun σ3 H3 => ∃ m', m' < m ∧ ∃ ad3 S3, n ≤ ad3.length ∧ Hold T X.K S3 ad3 F σ3 H3 ∧ ExtS n ad F H ad3 H3 ∧ I m' S3, fun σ3 H3 ⟨m', hm, z⟩ => ⟨m', hm, z⟩, _, _, ht rfl, ad2, F, hn2, h2, ?_, ?_, ?_, ?_, ?_⟩
    · exact fun S5 σ5 H5 ad5 x5 hn5 h5 ⟨m', hm, p5⟩ => ⟨m', hm, ad5, S5, hn5, h5, x12.trans x5, p5⟩
    · exact fun s cs5 v5 H5 ad5 x5 hn5 c5 r5 p5 => q2 s cs5 v5 H5 ad5 (x12.trans x5) hn5 c5 r5 p5
    · exact fun S5 σ5 H5 ad5 x5 hn5 h5 p5 => q1 S5 σ5 H5 ad5 (x12.trans x5) hn5 h5 p5
    · exact fun S5 σ5 H5 ad5 x5 hn5 h5 ⟨m', hm, p5⟩ => ⟨m', hm, ad5, S5, hn5, h5, x12.trans x5, p5⟩
    · exact fun z S5 cls d σ5 H5 ad5 x5 hn5 h5 r5 p5 => q5 z S5 cls d σ5 H5 ad5 (x12.trans x5) hn5 h5 r5 p5
  | false => exact iteF (q1 S1 σ' H2 ad2 x12 hn2 h2 (hf rfl))
end

/-! ### instances -/
def fIdx : List Str → Str → Option Nat
  | [], _ => none
  | g :: r, f => if f == g then some 0 else (fIdx r f).map (· + 1)
theorem fIdx_look : ∀ {fn : List Str} {f : Str} {j : Nat} {vs : List V}, fIdx fn f = some j → vs.length = fn.length → ∃ v, vs[j]? = some v ∧ (fn.zip vs).lookup f = some v
  | [], _, _, _, h, _ => nomatch h
  | g :: r, f, j, [], h, hl => by simp at hl
  | g :: r, f, j, v :: vs, h, hl => by
    unfold fIdx at h
    by_cases e : (f == g) = true
    · rw [if_pos e] at h
      cases h
      exact ⟨v, rfl, by rw [List.zip_cons_cons, List.lookup_cons, e]⟩
    · rw [if_neg e] at h
      cases q : fIdx r f with
      | none => rw [q] at h; cases h
      | some k =>
        rw [q] at h
        cases h
        obtain ⟨w, h1, h2⟩ := fIdx_look (vs := vs) q (by simpa using hl)
        exact ⟨w, by simpa using h1, by rw [List.zip_cons_cons, List.lookup_cons]; simp only [Bool.not_eq_true] at e; rw [e]; exact h2⟩
theorem fIdx_none : ∀ {fn : List Str} {f : Str} {vs : List V}, fIdx fn f = none → (fn.zip vs).lookup f = none
  | [], _, _, _ => rfl
  | g :: r, f, [], _ => rfl
  | g :: r, f, v :: vs, h => by
    unfold fIdx at h
    by_cases e : (f == g) = true
    · rw [if_pos e] at h; cases h
    · rw [if_neg e] at h
      have q : fIdx r f = none := by
        cases q : fIdx r f with
        | none => rfl
        | some k => rw [q] at h; cases h
      rw [List.zip_cons_cons, List.lookup_cons]
      simp only [Bool.not_eq_true] at e
      rw [e]
      exact fIdx_none q
theorem putF_new : ∀ {fn : List Str} {f : Str} {v : V} {vs : List V}, fIdx fn f = none → vs.length = fn.length → putF f v (fn.zip vs) = (fn ++ [f]).zip (vs ++ [v])
  | [], f, v, [], _, _ => rfl
  | [], _, _, _ :: _, _, hl => by simp at hl
  | g :: r, f, v, [], _, hl => by simp at hl
  | g :: r, f, v, w :: vs, h, hl => by
    unfold fIdx at h
    by_cases e : (f == g) = true
    · rw [if_pos e] at h; cases h
    · rw [if_neg e] at h
      have q : fIdx r f = none := by
        cases q : fIdx r f with
        | none => rfl
        | some k => rw [q] at h; cases h
      have ne : ¬ g = f := fun z => e (by rw [z]; exact beq_self_eq_true _)
      show (if g = f then _ else (g, w) :: putF f v (r.zip vs)) = _
      rw [if_neg ne, putF_new q (by simpa using hl)]
      rfl
section
variable {X : Cx} {T : Tab} {n : Nat} {S S1 S2 : Sta} {e o : Expr} {es : List Expr} {pos apos p' : Pos} {ds vs : List D} {d : D} {f m : Str} {C g : Addr} {fn : List Str} {c : Ct} {k j cn : Nat} {fd : FuncData} {ps : List Str} {P : Post} {s : Sl} {ss : List Sl} {c0 c1 : Cell}
theorem de_fld (hT : T cn = some (C, fn)) (hc : Cls X.K C) (hn : NoAttr X.K C f) (hf : fIdx fn f = some j) (he : DE X T S e (.dat (.obj cn ds)) S1) (hd : ds[j]? = some d) (hb : attributeBase e f X.env (eval e X.env) = eval e X.env := by rfl) : DE X T S (.Attribute e f pos) (.dat d) S1 :=
  weak (pe_fld he hb) fun σ H Q ⟨ad, F, h, q⟩ => ⟨ad, F, h, fun v H1 ad1 x1 h1 r1 => by
    cases r1 with
    | @obj a C' dx _ fn' vs _ ht na e1 hl r =>
      rw [hT] at ht
      cases ht
      obtain ⟨w, g1, g2⟩ := fIdx_look hf hl
      obtain ⟨d', g3, g4⟩ := r.getV g1
      rw [hd] at g3
      cases g3
      exact ⟨a, C, dx, _, w, rfl, e1, hc, hn, g2, q w H1 ad1 x1 h1 g4⟩⟩
/-- a property -/
theorem de_prop {pp : Addr} (hT : T cn = some (C, fn)) (hc : Cls X.K C) (hp : PropOf X.K C f pp g) (G : FnOk X.prog X.w X.K X.mg X.base CX0 k g fd ps (spC T X.K c)) (hr : Room (k + 1) X.A) (hb : Binds X.K fd ps []) (he : DE X T S e (.dat (.obj cn ds)) S1) (hq : c [.dat (.obj cn ds)] [] (.dat d) [])
    (hab : attributeBase e f X.env (eval e X.env) = eval e X.env := by rfl) : DE X T S (.Attribute e f pos) (.dat d) S1 :=
  weak (pe_prop he hc hp G hr hb .nil pass0 hab) fun σ H Q ⟨ad, F, h, q⟩ => ⟨ad, F, h, fun v H1 ad1 x1 h1 r1 => by
    have r0 := r1
    cases r1 with
    | @obj a C' dx _ fn' vs _ ht na e1 hl r =>
      rw [hT] at ht
      cases ht
      refine ⟨a, dx, _, rfl, e1, ?_⟩
      exact spC0 (ds := [.obj cn ds]) hq h1.hc ⟨r0, trivial⟩ fun v H' x2 c2 r2 => q v H' ad1 (x1.trans h1.hc x2) (h1.to x2 c2) r2⟩
/-- o.m(..) of an object that stays -/
theorem de_meth {pl : Sem Bool} (hT : T cn = some (C, fn)) (hc : Cls X.K C) (hm : Meth X.K C m g) (hf : fIdx fn m = none) (G : FnOk X.prog X.w X.K X.mg X.base CX0 k g fd ps (spC T X.K c)) (hr : Room k X.A) (hb : Binds X.K fd ps [])
    (he : DE X T S o (.dat (.obj cn ds)) S1) (ha : DA X T S1 (e :: es) (vs.map Sl.dat) S2) (hq : c ((D.obj cn ds :: vs).map Sl.dat) [] (.dat d) [])
    (hst : starEach (e :: es) X.env = (false, eval e X.env) :: starEach es X.env := by rfl) (hpl : (backTo pos (starEach es X.env)).any (·.1) = false := by rfl)
    (ht : eval (.Call (.Attribute o m apos) (e :: es) [] pos) X.env = (do
      let ov ← eval o X.env
      standAt apos.atName
      let (f, first) ← holding [ov] (getMethod ov m pl)
      callWith pos f first (backTo pos (starEach (e :: es) X.env)) (backToKw pos (keywordEach [] X.env))) := by rfl) : DE X T S (.Call (.Attribute o m apos) (e :: es) [] pos) (.dat d) S2 :=
  weak (pe_meth (pl := pl) he hc hm G hr hb .nil pass0 ha hst hpl ht) fun σ H Q ⟨ad, F, h, q⟩ => ⟨ad, F, h, fun v H1 ad1 x1 h1 r1 => by
    have r0 := r1
    cases r1 with
    | @obj a C' dx _ fn' vs' _ ht na e1 hl r =>
      rw [hT] at ht
      cases ht
      refine ⟨a, dx, _, rfl, e1, fIdx_none hf, ad1, F, h1, fun ws H2 ad2 x2 h2 r2 => ?_⟩
      show spC T X.K c (V.ref a :: (ws ++ [])) H2 Q E0
      rw [List.append_nil]
      exact spC0 (ds := .obj cn ds :: vs) hq h2.hc ⟨SlRep.ext (s := .dat (.obj cn ds)) x2 r0, r2⟩ fun v H' x3 c3 r3 => q v H' ad2 (x1.trans h1.hc (x2.trans h2.hc x3)) (h2.to x3 c3) r3⟩
theorem de_meth0 {pl : Sem Bool} (hT : T cn = some (C, fn)) (hc : Cls X.K C) (hm : Meth X.K C m g) (hf : fIdx fn m = none) (G : FnOk X.prog X.w X.K X.mg X.base CX0 k g fd ps (spC T X.K c)) (hr : Room k X.A) (hb : Binds X.K fd ps [])
    (he : DE X T S o (.dat (.obj cn ds)) S1) (hq : c [.dat (.obj cn ds)] [] (.dat d) [])
    (ht : eval (.Call (.Attribute o m apos) [] [] pos) X.env = (do
      let ov ← eval o X.env
      standAt apos.atName
      let (f, first) ← holding [ov] (getMethod ov m pl)
      callWith pos f first (backTo pos (starEach [] X.env)) (backToKw pos (keywordEach [] X.env))) := by rfl) : DE X T S (.Call (.Attribute o m apos) [] [] pos) (.dat d) S1 :=
  weak (pe_meth0 (pl := pl) he hc hm G hr hb .nil pass0 ht) fun σ H Q ⟨ad, F, h, q⟩ => ⟨ad, F, h, fun v H1 ad1 x1 h1 r1 => by
    have r0 := r1
    cases r1 with
    | @obj a C' dx _ fn' vs' _ ht na e1 hl r =>
      rw [hT] at ht
      cases ht
      refine ⟨a, dx, _, rfl, e1, fIdx_none hf, ?_⟩
      show spC T X.K c (V.ref a :: ([] ++ [])) H1 Q E0
      exact spC0 (ds := [.obj cn ds]) hq h1.hc ⟨r0, trivial⟩ fun v H' x2 c2 r2 => q v H' ad1 (x1.trans h1.hc x2) (h1.to x2 c2) r2⟩
/-- a new instance: __init__ gets it as a cell -/
theorem mk_then {K : PySem.W.Frag} {ad : List Addr} {F : Addr → Prop} {H : Hp} {cs : List Cell} {ws : List V} {args : List D} {Q : VK} {E : XK} {x dx : Addr} (hT : T cn = some (C, fn)) (h : HoldC T K ad F H cs) (r : Reps T K (Mm ad F) H ws args) (hx : H x = none) (hdx : H dx = none) (ne : dx ≠ x)
    (hq : c (.cel 0 :: args.map Sl.dat) [.ins cn []] (.dat .non) [.ins cn (fn.zip ds)]) (hl : ds.length = fn.length) (q : ∀ H', Ext ad F H ad H' → HoldC T K ad F H' cs → Rep T K (Mm ad F) H' (.ref x) (.obj cn ds) → Q (.ref x) H') :
    spC T K c (.ref x :: ws) (upd (upd H dx (.own x)) x (.ins C dx [])) (fun v H2 => v = .non ∧ Q (.ref x) H2) E := by
  obtain ⟨h1, x1⟩ := h.newo (o := .own x) hdx
  have hx1 : upd H dx (.own x) x = none := by rw [upd_ne ne.symm]; exact hx
  obtain ⟨h2, x2⟩ := h1.cell (c := .ins cn []) (o := .ins C dx []) hx1 ⟨C, fn, dx, [], hT, upd_same, rfl, .nil⟩
  have ha : (ad ++ [x])[ad.length]? = some x := by rw [List.getElem?_append_right (Nat.le_refl _)]; simp
  have hlen : cs.length = ad.length := h.ln.symm
  have x12 : Ext ad F H (ad ++ [x]) (upd (upd H dx (.own x)) x (.ins C dx [])) := x1.trans h1 x2
  have rr : SlReps T K (ad ++ [x]) F (upd (upd H dx (.own x)) x (.ins C dx [])) (.ref x :: ws) (.cel ad.length :: args.map Sl.dat) := ⟨⟨x, ha, rfl⟩, SlReps.of (r.kp x12.kp)⟩
  have ho : ∀ l : List D, (l.map Sl.dat).all (onlyCell ad.length) = true := fun l => by
    rw [List.all_map, List.all_eq_true]
    intro d _
    rfl
  have hm : (Sl.cel ad.length :: args.map Sl.dat).map low = .cel 0 :: args.map Sl.dat := by
    rw [List.map_cons, List.map_map]
    rfl
  refine spC1 (ss := .cel ad.length :: args.map Sl.dat) (c0 := .ins cn []) (c1 := .ins cn (fn.zip ds)) (d := .non) (j := ad.length) (by rw [← hlen, List.getElem?_append_right (Nat.le_refl _)]; simp) (by rw [List.all_cons, ho]; simp [onlyCell]) (by rw [hm]; exact hq) h2 rr fun v H' x3 c3 r3 => ?_
  cases r3
  refine ⟨rfl, ?_⟩
  have c4 := c3.take ad.length
  have e1 : (ad ++ [x]).take ad.length = ad := by rw [List.take_append_of_le_length (Nat.le_refl _), List.take_length]
  have e2 : ((cs ++ [Cell.ins cn []]).set ad.length (Cell.ins cn (fn.zip ds))).take ad.length = cs := by
    rw [List.take_set_of_le (Nat.le_refl _), ← hlen, List.take_append_of_le_length (Nat.le_refl _), List.take_length]
  rw [e1, e2] at c4
  have nx : ¬ Mm ad F x := h.new hx
  obtain ⟨C', fn', dx', vs, ht, ea, lv, rv⟩ := c3.ce ad.length x (.ins cn (fn.zip ds)) ha (by rw [List.getElem?_set_self (by simp [hlen])])
  rw [hT] at ht
  cases ht
  have z1 : (fn.zip ds).map (·.1) = fn := List.map_fst_zip (by omega)
  have z2 : (fn.zip ds).map (·.2) = ds := List.map_snd_zip (by omega)
  rw [z1] at ea
  rw [z2] at rv
  have kp : Kp (Mm (ad ++ [x]) F) H' (Mm ad F) H' := fun a o e n => ⟨e, fun z => n (z.imp (List.mem_append_left _) id)⟩
  have xf : Ext ad F H ad H' := by
    have x13 : Ext ad F H (ad ++ [x]) H' := x12.trans h2 x3
    exact ⟨⟨[], by simp, fun _ z => nomatch z⟩, x13.keep, x13.frm⟩
  refine q H' xf c4 (.obj hT nx ea ?_ (rv.kp kp))
  rw [List.length_zip] at lv
  omega
theorem de_make {x : Str} {p : Pos} {args : List D} (hT : T cn = some (C, fn)) (M : Mk X.K C g) (G : FnOk X.prog X.w X.K X.mg X.base CX0 k g fd ps (spC T X.K c)) (hr : Room (k + 1) X.A) (hm : X.mg x = some (.ref C)) (hb : Binds X.K fd ps [])
    (ha : DA X T S (e :: es) (args.map Sl.dat) S1) (hq : c (.cel 0 :: args.map Sl.dat) [.ins cn []] (.dat .non) [.ins cn (fn.zip ds)]) (hl : ds.length = fn.length) (hg : Gl X x := by rfl) (hdb : (x == ("__debug__" : Str)) = false := by decide)
    (he : starEach (e :: es) X.env = (false, eval e X.env) :: starEach es X.env := by rfl) (hpl : (backTo pos (starEach es X.env)).any (·.1) = false := by rfl) : DE X T S (.Call (.Name x p) (e :: es) [] pos) (.dat (.obj cn ds)) S1 :=
  weak (pe_make M G hr hg hm hb .nil pass0 ha hdb he hpl) fun σ H Q ⟨ad, F, h, q⟩ => ⟨ad, F, h, fun ws H1 ad1 x1 h1 r1 x dx hx hdx ne => by
    rw [List.append_nil]
    exact mk_then hT h1.hc r1.dats hx hdx ne hq hl fun H' x2 c2 r2 => q (.ref x) H' ad1 (x1.trans h1.hc x2) (h1.to x2 c2) r2⟩
/-- self.f = e in __init__ -/
theorem ds_fldN {fs : List (Str × D)} (hT : T cn = some (C, fn)) (hc : Cls X.K C) (hn : NoAttr X.K C f) (he : DE X T S e (.dat d) S1) (ho : DE X T S1 o (.cel j) S2) (hk : S2.cs[j]? = some (.ins cn fs)) (hf : fIdx (fs.map (·.1)) f = none) (hl : fs.length < 1000)
    (h : P.nx ⟨S2.sl, S2.cs.set j (.ins cn (fs ++ [(f, d)]))⟩) (hs : swapsWith e (some (.Attribute o f p')) pos.line X.env = pure false := by rfl) : DS X T n S (.Assign [.Attribute o f p'] e pos) P :=
  weakS (ps_fld ho he hs) fun D σ H ⟨ad, F, hn', h0, q, _⟩ => ⟨ad, F, h0, fun v H1 ad1 x1 h1 r1 => ⟨ad1, F, h1, fun w H2 ad2 x2 h2 r2 => by
    obtain ⟨a, ea, rfl⟩ := r2
    obtain ⟨C', fn', dx, vs, ht, e1, lv, rv⟩ := h2.hc.ce j a _ ea hk
    rw [hT] at ht
    cases ht
    have rd : Rep T X.K (Mm ad2 F) H2 v d := SlRep.ext (s := .dat d) x2 r1
    have lz : ((fs.map (·.1)).zip vs).length < 1000 := by rw [List.length_zip, List.length_map]; omega
    refine ⟨a, C, dx, _, rfl, e1, hc, hn, lz, ?_⟩
    rw [putF_new hf (by rw [lv, List.length_map])]
    have kp : Kp (Mm ad2 F) H2 (Mm ad2 F) (upd H2 a (.ins C dx ((fs.map (·.1) ++ [f]).zip (vs ++ [v])))) := fun b o e n => ⟨by rw [upd_ne (fun z => n (.inl (by rw [z]; exact List.mem_of_getElem? ea)))]; exact e, n⟩
    obtain ⟨c3, x3⟩ := h2.hc.setc (o := .ins C dx ((fs.map (·.1) ++ [f]).zip (vs ++ [v]))) (c := .ins cn (fs ++ [(f, d)])) ea
      ⟨C, fn, dx, vs ++ [v], hT, by rw [upd_same, List.map_append]; rfl, by simp [lv], by rw [List.map_append]; exact (rv.append (.cons rd .nil)).kp kp⟩
    have x : Ext ad F H ad2 _ := x1.trans h1.hc (x2.trans h2.hc x3)
    exact q _ _ _ ad2 (x.s hn') (x.le hn') (h2.to x3 c3) h⟩⟩
end
end Dl

namespace Dl
open PySem L2

/-! ### keywords -/
def DK (X : Cx) (T : Tab) (S : Sta) (kws : List Keyword) (ss : List Sl) (S' : Sta) : Prop := PK X kws (tDA T X.K S ss S')
theorem weakK {X : Cx} {e : List Keyword} {t t' : TA} (h : PK X e t) (q : ∀ σ H Q, t' σ H Q → t σ H Q) : PK X e t' := ⟨fun pos pins s σ H Q I z => h.run pos pins s σ H Q I (q σ H Q z)⟩
section
variable {X : Cx} {T : Tab} {S S1 S2 S3 : Sta} {e o : Expr} {es : List Expr} {kws : List Keyword} {nm : Option Str} {pos kpos p apos : Pos} {s : Sl} {ss : List Sl} {ds args kargs full : List D} {d : D} {x m : Str} {C g : Addr} {fn : List Str} {c : Ct} {k cn pn : Nat} {fd : FuncData} {ps ks : List Str}
  {gg : List Value → List Value → List Value} {gV : List V → List V → List V}
theorem dk_nil : DK X T S [] [] S := weakK pk_nil fun σ H Q ⟨ad, F, h, q⟩ => q [] H ad .refl h trivial
theorem dk_cons (ha : DE X T S e s S1) (hr : DK X T S1 kws ss S2) : DK X T S (⟨nm, e, kpos⟩ :: kws) (s :: ss) S2 :=
  weakK (pk_cons ha hr) fun σ H Q ⟨ad, F, h, q⟩ => ⟨ad, F, h, fun v H1 ad1 x1 h1 r1 => ⟨ad1, F, h1, fun vs H2 ad2 x2 h2 r2 => q _ H2 ad2 (x1.trans h1.hc x2) h2 ⟨r1.ext x2, r2⟩⟩⟩
/-- the values in the parameters' order, self ahead -/
def Put (K : PySem.W.Frag) (gV : List V → List V → List V) (args kargs full : List D) : Prop := ∀ (x : V) (ws zs : List V), ws.length = args.length → zs.length = kargs.length → ∃ us, gV (x :: ws) zs = x :: us ∧ ∀ T M H, Reps T K M H ws args → Reps T K M H zs kargs → Reps T K M H us full
theorem de_makeK (hT : T cn = some (C, fn)) (M : Mk X.K C g) (G : FnOk X.prog X.w X.K X.mg X.base CX0 k g fd ps (spC T X.K c)) (hr : Room (k + 1) X.A) (hm : X.mg x = some (.ref C)) (hb : KBn X.K fd ps (pn + 1) ks gg gV) (hp : Put X.K gV args kargs full)
    (ha : DA X T S (e :: es) (args.map Sl.dat) S1) (hkw : DK X T S1 kws (kargs.map Sl.dat) S2) (hq : c (.cel 0 :: full.map Sl.dat) [.ins cn []] (.dat .non) [.ins cn (fn.zip ds)]) (hl : ds.length = fn.length) (l1 : args.length = pn) (l2 : kargs.length = ks.length) (hg : Gl X x := by rfl)
    (hall : (backToKw pos (keywordEach kws X.env)).all (·.1.isSome) = true := by rfl) (hks : (backToKw pos (keywordEach kws X.env)).filterMap (·.1) = ks := by rfl) (hdb : (x == ("__debug__" : Str)) = false := by decide)
    (he : starEach (e :: es) X.env = (false, eval e X.env) :: starEach es X.env := by rfl) (hpl : ((backTo pos (starEach (e :: es) X.env)).any (·.1) || (backToKw pos (keywordEach kws X.env)).any (·.1.isNone)) = false := by rfl) :
    DE X T S (.Call (.Name x p) (e :: es) kws pos) (.dat (.obj cn ds)) S2 :=
  weak (pe_makeK M G hr hg hm hb pass0 ha hkw hall hks hdb he hpl) fun σ H Q ⟨ad, F, h, q⟩ => ⟨ad, F, h, fun ws H1 ad1 x1 h1 r1 => ⟨ad1, F, h1, fun zs H2 ad2 x2 h2 r2 => by
    have w1 := r1.dats
    have w2 := r2.dats
    refine ⟨by rw [w1.length]; exact l1, by rw [w2.length]; exact l2, fun x dx hx hdx ne => ?_⟩
    obtain ⟨us, e1, e2⟩ := hp (.ref x) ws zs w1.length w2.length
    rw [e1]
    exact mk_then hT h2.hc (e2 _ _ _ (w1.kp x2.kp) w2) hx hdx ne hq hl fun H' x3 c3 r3 => q (.ref x) H' ad2 (x1.trans h1.hc (x2.trans h2.hc x3)) (h2.to x3 c3) r3⟩⟩
theorem de_makeK0 (hT : T cn = some (C, fn)) (M : Mk X.K C g) (G : FnOk X.prog X.w X.K X.mg X.base CX0 k g fd ps (spC T X.K c)) (hr : Room (k + 1) X.A) (hm : X.mg x = some (.ref C)) (hb : KBn X.K fd ps 1 ks gg gV) (hp : Put X.K gV [] kargs full)
    (hkw : DK X T S kws (kargs.map Sl.dat) S2) (hq : c (.cel 0 :: full.map Sl.dat) [.ins cn []] (.dat .non) [.ins cn (fn.zip ds)]) (hl : ds.length = fn.length) (l2 : kargs.length = ks.length) (hg : Gl X x := by rfl)
    (hall : (backToKw pos (keywordEach kws X.env)).all (·.1.isSome) = true := by rfl) (hks : (backToKw pos (keywordEach kws X.env)).filterMap (·.1) = ks := by rfl) (hdb : (x == ("__debug__" : Str)) = false := by decide)
    (hpl : ((backTo pos (starEach [] X.env)).any (·.1) || (backToKw pos (keywordEach kws X.env)).any (·.1.isNone)) = false := by rfl) :
    DE X T S (.Call (.Name x p) [] kws pos) (.dat (.obj cn ds)) S2 :=
  weak (pe_makeK0 M G hr hg hm hb pass0 hkw hall hks hdb hpl) fun σ H Q ⟨ad, F, h, q⟩ => ⟨ad, F, h, fun zs H2 ad2 x2 h2 r2 => by
    have w2 := r2.dats
    refine ⟨rfl, by rw [w2.length]; exact l2, fun x dx hx hdx ne => ?_⟩
    obtain ⟨us, e1, e2⟩ := hp (.ref x) [] zs rfl w2.length
    rw [e1]
    exact mk_then hT h2.hc (e2 _ _ _ .nil w2) hx hdx ne hq hl fun H' x3 c3 r3 => q (.ref x) H' ad2 (x2.trans h2.hc x3) (h2.to x3 c3) r3⟩
/-! o.m(.., k = v, ..) -/
def tMethKw (C : Addr) (m : Str) (n : Nat) (j : Nat) (sp : Sp) (gV : List V → List V → List V) (E : XK) (ta : TE) (t tk : TA) : TE := fun σ H Q => ta σ H fun x H1 => ∃ a dx fs, x = .ref a ∧ H1 a = some (.ins C dx fs) ∧ fs.lookup m = none ∧
  t σ H1 fun vs H2 => tk σ H2 fun zs H3 => vs.length = n ∧ zs.length = j ∧ sp (gV (x :: vs) zs) H3 Q E
theorem run_methKw {sp : Sp} {pins : List (Addr × Obj)} {σ : St} {H : Hp} {sh : Shared} {Q : VK} {us ws : List Value} {vs zs : List V} (F : FnOk X.prog X.w X.K X.mg X.base CX0 k g fd ps sp) (hr : Room k X.A) (hb : KBn X.K fd ps pn ks gg gV)
    (I : Inv X pins σ H sh) (r : Vals vs us) (rz : Vals zs ws) (l1 : vs.length = pn) (l2 : zs.length = ks.length) (h : sp (gV vs zs) H Q E0) : wpAny (model X.prog X.w) X.A (call (.ref g) us (ks.zip ws)) (EP X pins σ Q) X.xe sh := by
  have r2 := hb.rel r rz
  refine wpAny_call (codeAny_mono (F.run X.A X.stack sh H ⟨us, ks.zip ws⟩ (gg us ws) (gV vs zs) Q E0 hr I.env0 (hb.to sh us ws I.kIn (r.length.symm.trans l1) (rz.length.symm.trans l2)) r2 h) fun r s' hq => ?_)
  cases r with
  | error e => exact False.elim hq
  | ok fl =>
    cases fl with
    | ret u => exact I.after hq
    | next => exact False.elim hq
    | brk => exact False.elim hq
    | cont => exact False.elim hq
theorem pe_methKw0 {sp : Sp} {pl : Sem Bool} {ta : TE} {tk : TA} (he : PE X o ta) (hc : Cls X.K C) (hm : Meth X.K C m g) (F : FnOk X.prog X.w X.K X.mg X.base CX0 k g fd ps sp) (hr : Room k X.A) (hb : KBn X.K fd ps 1 ks gg gV) (hkw : PK X kws tk)
    (hall : (backToKw pos (keywordEach kws X.env)).all (·.1.isSome) = true) (hks : (backToKw pos (keywordEach kws X.env)).filterMap (·.1) = ks)
    (hpl : ((backTo pos (starEach [] X.env)).any (·.1) || (backToKw pos (keywordEach kws X.env)).any (·.1.isNone)) = false)
    (ht : eval (.Call (.Attribute o m apos) [] kws pos) X.env = (do
      let ov ← eval o X.env
      standAt apos.atName
      let (f, first) ← holding [ov] (getMethod ov m pl)
      callWith pos f first (backTo pos (starEach [] X.env)) (backToKw pos (keywordEach kws X.env)))) : PE X (.Call (.Attribute o m apos) [] kws pos) (tMethKw C m 0 ks.length sp gV E0 ta tNil tk) := by
  refine ⟨fun pins s σ H Q I h => ?_⟩
  refine PySem.W.methodCall_KW (pl := pl) (thn (he.run pins s σ H _ I h) fun u s1 ⟨x, H1, I1, rx, a, dx, fs, ex, ea, l, q⟩ => ?_) ht
  subst ex
  obtain rfl : u = Value.ref a := rx
  refine getmeth_ok I1 ea hc hm l ?_
  refine PySem.W.callWith_KW0 (first := [.ref a]) (h₀ := X.base) I.ok.mod.kin hm.kp hall ?_ hpl
  refine thn (hkw.run pos pins s1 σ H1 _ I1 q) fun ws s2 ⟨zs, H2, I2, rz, l1, l2, q2⟩ => ⟨I2.kIn, ?_⟩
  rw [hks]
  exact run_methKw (us := [.ref a]) (vs := [.ref a]) F hr hb I2 (.cons rfl .nil) rz rfl l2 q2
theorem de_methK0 {pl : Sem Bool} (hT : T cn = some (C, fn)) (hc : Cls X.K C) (hm : Meth X.K C m g) (hf : fIdx fn m = none) (G : FnOk X.prog X.w X.K X.mg X.base CX0 k g fd ps (spC T X.K c)) (hr : Room k X.A) (hb : KBn X.K fd ps 1 ks gg gV) (hp : Put X.K gV [] kargs full)
    (he : DE X T S o (.dat (.obj cn ds)) S1) (hkw : DK X T S1 kws (kargs.map Sl.dat) S2) (hq : c ((D.obj cn ds :: full).map Sl.dat) [] (.dat d) []) (l2 : kargs.length = ks.length)
    (hall : (backToKw pos (keywordEach kws X.env)).all (·.1.isSome) = true := by rfl) (hks : (backToKw pos (keywordEach kws X.env)).filterMap (·.1) = ks := by rfl)
    (hpl : ((backTo pos (starEach [] X.env)).any (·.1) || (backToKw pos (keywordEach kws X.env)).any (·.1.isNone)) = false := by rfl)
    (ht : eval (.Call (.Attribute o m apos) [] kws pos) X.env = (do
      let ov ← eval o X.env
      standAt apos.atName
      let (f, first) ← holding [ov] (getMethod ov m pl)
      callWith pos f first (backTo pos (starEach [] X.env)) (backToKw pos (keywordEach kws X.env))) := by rfl) : DE X T S (.Call (.Attribute o m apos) [] kws pos) (.dat d) S2 :=
  weak (pe_methKw0 (pl := pl) he hc hm G hr hb hkw hall hks hpl ht) fun σ H Q ⟨ad, F, h, q⟩ => ⟨ad, F, h, fun v H1 ad1 x1 h1 r1 => by
    have r0 := r1
    cases r1 with
    | @obj a C' dx _ fn' vs' _ ht na e1 hl r =>
      rw [hT] at ht
      cases ht
      refine ⟨a, dx, _, rfl, e1, fIdx_none hf, ad1, F, h1, fun zs H2 ad2 x2 h2 r2 => ?_⟩
      have w2 := r2.dats
      obtain ⟨us, g1, g2⟩ := hp (.ref a) [] zs rfl w2.length
      refine ⟨rfl, by rw [w2.length]; exact l2, ?_⟩
      rw [g1]
      exact spC0 (ds := .obj cn ds :: full) hq h2.hc ⟨SlRep.ext (s := .dat (.obj cn ds)) x2 r0, SlReps.of (g2 _ _ _ .nil w2)⟩ fun v H' x3 c3 r3 => q v H' ad2 (x1.trans h1.hc (x2.trans h2.hc x3)) (h2.to x3 c3) r3⟩
end

/-! ### isinstance -/
/-- the built-in class of data that is no object -/
def tyD : D → Option String
  | .non => some "NoneType"
  | .bl _ => some "bool"
  | .int _ => some "int"
  | .str _ => some "str"
  | .tup _ => some "tuple"
  | .lst _ => some "list"
  | .scr _ => some "list"
  | .obj _ _ => none
  | .err _ _ _ _ => none
  | .cls _ => none
  | .dct _ _ => none
  | .fn _ => none
/-- what isinstance asks of the class at C -/
structure IsiC (K : PySem.W.Frag) (C : Addr) : Prop where
  cl : Cls K C
  ca : PySem.W.findIn K (.ref C) "__class__" = some (some (.builtin "object.__class__"))
  cn : PySem.W.specialIn K (.builtin "object.__class__") "__get__" = some (some (.builtin "getset_descriptor.__get__"))
  ct : PySem.W.takesIn K (.builtin "object.__class__") = some true
  cm : PySem.W.mroIn K C (.type "object") = some true
theorem tyx_of {T : Tab} {K : PySem.W.Frag} {M : Addr → Prop} {H : Hp} {v : V} {d : D} {t : String} (r : Rep T K M H v d) (h : tyD d = some t) : TyX K H v (.type t) := by
  cases r with
  | non => cases h; exact .base .non
  | bl => cases h; exact .base (.bl _)
  | int => cases h; exact .base (.int _)
  | str => cases h; exact .base (.str _)
  | tup h1 _ =>
    cases h
    rcases h1 with ⟨_, h1 | ⟨o, h1⟩⟩ | h1
    · exact .base (.tup h1)
    · exact .fTuple h1
    · rcases h1 with (z | ⟨_, z⟩) | ⟨o, its, n, e, c, _⟩
      · cases z
      · cases z
      · exact .kTuple e c
  | lst _ h1 _ => cases h; exact .base (.lst h1)
  | scr h1 _ =>
    cases h
    rcases h1 with ⟨_, o, h1⟩ | h1
    · exact .base (.frz h1)
    · rcases h1 with (z | ⟨_, z⟩) | ⟨o, its, n, e, c, _⟩
      · cases z
      · cases z
      · exact .kList e c
  | obj => cases h
  | err => cases h
  | cls => cases h
  | dct _ _ _ _ => cases h
  | fn _ _ _ _ => cases h
section
variable {X : Cx} {T : Tab} {S S1 : Sta} {e : Expr} {pos p p2 : Pos} {d : D} {t u : String} {b : Bool} {x : Str} {C C2 : Addr} {cn : Nat} {fn : List Str} {ds : List D}
theorem de_isi (hi : X.mg "isinstance" = none) (hm : X.mg x = none) (hv : bootBuiltins x = some (.type u)) (he : DE X T S e (.dat d) S1) (ht : tyD d = some t) (hk : kitB t u = some b) (hg : Gl X "isinstance" := by rfl) (hg2 : Gl X x := by rfl) (hn : x ≠ "__name__" := by decide) (hdb : (x == ("__debug__" : Str)) = false := by decide)
    (hs1 : starEach [e, .Name x p2] X.env = (false, eval e X.env) :: starEach [.Name x p2] X.env := by rfl) (hs2 : starEach [.Name x p2] X.env = (false, eval (.Name x p2) X.env) :: starEach [] X.env := by rfl) (hpl : (backTo pos (starEach [.Name x p2] X.env)).any (·.1) = false := by rfl) :
    DE X T S (.Call (.Name "isinstance" p) [e, .Name x p2] [] pos) (.dat (.bl b)) S1 :=
  weak (pe_callB call_isi hg hi (by decide +kernel) (pa_cons he (pa_cons (pe_bltn (v := .ty u) hg2 hm hv rfl hn hdb) pa_nil hs2) hs1) (by decide) (by decide) hs1 hpl) fun σ H Q ⟨ad, F, h, q⟩ => ⟨ad, F, h, fun v H1 ad1 x1 h1 r1 =>
    ⟨v, .ty u, .type t, .type u, b, rfl, .ty u, tyx_of r1 ht, kit_ty hk, q _ H1 ad1 x1 h1 Rep.bl⟩⟩
/-- of an object, an own class -/
theorem de_isiO (hi : X.mg "isinstance" = none) (hT : T cn = some (C, fn)) (hI : IsiC X.K C) (hm : X.mg x = some (.ref C2)) (he : DE X T S e (.dat (.obj cn ds)) S1) (hk : PySem.W.kitOne X.K (.ref C) (.ref C2) = some b) (hg : Gl X "isinstance" := by rfl) (hg2 : Gl X x := by rfl) (hdb : (x == ("__debug__" : Str)) = false := by decide)
    (hs1 : starEach [e, .Name x p2] X.env = (false, eval e X.env) :: starEach [.Name x p2] X.env := by rfl) (hs2 : starEach [.Name x p2] X.env = (false, eval (.Name x p2) X.env) :: starEach [] X.env := by rfl) (hpl : (backTo pos (starEach [.Name x p2] X.env)).any (·.1) = false := by rfl) :
    DE X T S (.Call (.Name "isinstance" p) [e, .Name x p2] [] pos) (.dat (.bl b)) S1 :=
  weak (pe_callB call_isi hg hi (by decide +kernel) (pa_cons he (pa_cons (pe_glob (v := .ref C2) hg2 hm rfl hdb) pa_nil hs2) hs1) (by decide) (by decide) hs1 hpl) fun σ H Q ⟨ad, F, h, q⟩ => ⟨ad, F, h, fun v H1 ad1 x1 h1 r1 => by
    cases r1 with
    | @obj a C' dx _ fn' vs' _ ht na e1 hl r =>
      rw [hT] at ht
      cases ht
      exact ⟨_, .ref C2, .ref C, .ref C2, b, rfl, .own C2, .base (.ins e1 hI.cl hI.ca hI.cn hI.ct hI.cm), hk, q _ H1 ad1 x1 h1 Rep.bl⟩⟩
/-- of an object, a built-in class -/
theorem de_isiOB (hi : X.mg "isinstance" = none) (hT : T cn = some (C, fn)) (hI : IsiC X.K C) (hm : X.mg x = none) (hv : bootBuiltins x = some (.type u)) (he : DE X T S e (.dat (.obj cn ds)) S1) (hk : PySem.W.kitOne X.K (.ref C) (.type u) = some b) (hg : Gl X "isinstance" := by rfl) (hg2 : Gl X x := by rfl) (hn : x ≠ "__name__" := by decide) (hdb : (x == ("__debug__" : Str)) = false := by decide)
    (hs1 : starEach [e, .Name x p2] X.env = (false, eval e X.env) :: starEach [.Name x p2] X.env := by rfl) (hs2 : starEach [.Name x p2] X.env = (false, eval (.Name x p2) X.env) :: starEach [] X.env := by rfl) (hpl : (backTo pos (starEach [.Name x p2] X.env)).any (·.1) = false := by rfl) :
    DE X T S (.Call (.Name "isinstance" p) [e, .Name x p2] [] pos) (.dat (.bl b)) S1 :=
  weak (pe_callB call_isi hg hi (by decide +kernel) (pa_cons he (pa_cons (pe_bltn (v := .ty u) hg2 hm hv rfl hn hdb) pa_nil hs2) hs1) (by decide) (by decide) hs1 hpl) fun σ H Q ⟨ad, F, h, q⟩ => ⟨ad, F, h, fun v H1 ad1 x1 h1 r1 => by
    cases r1 with
    | @obj a C' dx _ fn' vs' _ ht na e1 hl r =>
      rw [hT] at ht
      cases ht
      exact ⟨_, .ty u, .ref C, .type u, b, rfl, .ty u, .base (.ins e1 hI.cl hI.ca hI.cn hI.ct hI.cm), hk, q _ H1 ad1 x1 h1 Rep.bl⟩⟩
/-- of other data, an own class -/
theorem de_isiD (hi : X.mg "isinstance" = none) (hm : X.mg x = some (.ref C2)) (he : DE X T S e (.dat d) S1) (ht : tyD d = some t) (hk : PySem.W.kitOne X.K (.type t) (.ref C2) = some b) (hg : Gl X "isinstance" := by rfl) (hg2 : Gl X x := by rfl) (hdb : (x == ("__debug__" : Str)) = false := by decide)
    (hs1 : starEach [e, .Name x p2] X.env = (false, eval e X.env) :: starEach [.Name x p2] X.env := by rfl) (hs2 : starEach [.Name x p2] X.env = (false, eval (.Name x p2) X.env) :: starEach [] X.env := by rfl) (hpl : (backTo pos (starEach [.Name x p2] X.env)).any (·.1) = false := by rfl) :
    DE X T S (.Call (.Name "isinstance" p) [e, .Name x p2] [] pos) (.dat (.bl b)) S1 :=
  weak (pe_callB call_isi hg hi (by decide +kernel) (pa_cons he (pa_cons (pe_glob (v := .ref C2) hg2 hm rfl hdb) pa_nil hs2) hs1) (by decide) (by decide) hs1 hpl) fun σ H Q ⟨ad, F, h, q⟩ => ⟨ad, F, h, fun v H1 ad1 x1 h1 r1 =>
    ⟨v, .ref C2, .type t, .ref C2, b, rfl, .own C2, tyx_of r1 ht, hk, q _ H1 ad1 x1 h1 Rep.bl⟩⟩
end

/-! ### operators of an own class -/
/-- the callee runs by values -/
theorem run_vals {X : Cx} {g : Addr} {fd : FuncData} {ps : List Str} {k : Nat} {sp : Sp} {pins : List (Addr × Obj)} {σ : St} {H : Hp} {s : Shared} {Q : VK} {us : List Value} {vs : List V} (F : FnOk X.prog X.w X.K X.mg X.base CX0 k g fd ps sp) (hr : Room k X.A) (hb : Binds X.K fd ps [])
    (I : Inv X pins σ H s) (r : Vals vs us) (h : sp vs H Q E0) : wpAny (model X.prog X.w) X.A (call (.ref g) us) (EP X pins σ Q) X.xe s :=
  run_fn F hr hb .nil pass0 I r (by rw [List.append_nil]; exact h)
theorem cmpb {X : Cx} {pins : List (Addr × Obj)} {σ : St} {Q : VK} {v : Value} {s : Shared} (h : EP X pins σ Q v s) : PySem.W.CmpBack (EP X pins σ Q) v s := by
  obtain ⟨z, H', I, r, q⟩ := id h
  cases z with
  | non => cases (show v = Value.none from r); exact h
  | bl b => cases (show v = Value.bool b from r); exact h
  | int i => obtain ⟨t, e⟩ := (show ∃ t, v = Value.int i t from r); cases e; exact h
  | str x => obtain ⟨t, e⟩ := (show ∃ t, v = Value.str x t from r); cases e; exact h
  | byt b => obtain ⟨t, e⟩ := (show ∃ t, v = Value.bytes b t from r); cases e; exact h
  | flt b => obtain ⟨t, e⟩ := (show ∃ t, v = Value.float b t from r); cases e; exact h
  | ref a => cases (show v = Value.ref a from r); exact h
  | ty n => cases (show v = Value.type n from r); exact h
section
variable {X : Cx} {T : Tab} {C g : Addr} {fd : FuncData} {ps : List Str} {k cn : Nat} {c : Ct} {fn : List Str} {op : Operator} {ds es : List D} {d : D} {cs : List Cell} {i : Int} {uop : UnaryOp}
/-- x op y, two instances of C -/
theorem op_own2 {sp : Sp} (G : FnOk X.prog X.w X.K X.mg X.base CX0 k g fd ps sp) (hr : Room k X.A) (hb : Binds X.K fd ps []) (hc : PySem.W.selfFirst X.K C = true) (hs : PySem.W.findIn X.K (.ref C) (PySem.dunder op.info.2) = some (some (.ref g))) (hf : PySem.W.isFn X.K (.ref g) = true) :
    OpR X (binaryOp op) (fun x y H Q => ∃ a b dx dy fs gs, x = .ref a ∧ y = .ref b ∧ H a = some (.ins C dx fs) ∧ H b = some (.ins C dy gs) ∧ sp [x, y] H Q E0) := by
  intro pins s σ H x y v u Q I rx ry h
  obtain ⟨a, b, dx, dy, fs, gs, rfl, rfl, ea, eb, hsp⟩ := h
  cases rx; cases ry
  obtain ⟨mA, J, _⟩ := ins_get I.hok ea
  obtain ⟨mB, J', _⟩ := ins_get I.hok eb
  obtain ⟨od, J, _⟩ := J.look
  obtain ⟨od', J', _⟩ := J'.look
  obtain ⟨m, hF⟩ := I.fr
  refine PySem.W.binop_K hF I.ok.mod.kin J J'.type hc hs hf (thn (run_vals (us := [.ref a, .ref b]) (vs := [.ref a, .ref b]) G hr hb I (.cons rfl (.cons rfl .nil)) hsp) fun _ _ z => cmpb z)
/-- x op i, an instance and an int -/
theorem op_ownI {sp : Sp} {fo ro rc : Option Value} (G : FnOk X.prog X.w X.K X.mg X.base CX0 k g fd ps sp) (hr : Room k X.A) (hb : Binds X.K fd ps []) (hc : PySem.W.selfFirst X.K C = true) (hs : PySem.W.findIn X.K (.ref C) (PySem.dunder op.info.2) = some (some (.ref g))) (hf : PySem.W.isFn X.K (.ref g) = true)
    (hrf : PySem.W.findIn X.K (.ref C) (dunderR op.info.2) = some rc) (hp : rc = none ∨ ∃ g : Addr, rc = some (.ref g)) (h1 : PySem.W.findIn X.K (.type "int") (PySem.dunder op.info.2) = some fo) (h2 : PySem.W.findIn X.K (.type "int") (dunderR op.info.2) = some ro) (hsub : PySem.W.subIn X.K (.type "int") (.ref C) = some false) :
    OpR X (binaryOp op) (fun x y H Q => ∃ a dx fs i, x = .ref a ∧ y = .int i ∧ H a = some (.ins C dx fs) ∧ sp [x, y] H Q E0) := by
  intro pins s σ H x y v u Q I rx ry h
  obtain ⟨a, dx, fs, i, rfl, rfl, ea, hsp⟩ := h
  cases rx
  obtain ⟨t, rfl⟩ := ry
  obtain ⟨mA, J, _⟩ := ins_get I.hok ea
  obtain ⟨od, J, _⟩ := J.look
  obtain ⟨m, hF⟩ := I.fr
  exact PySem.W.ksp_binT (T := "int") hF I.ok.mod.kin J rfl hc hs hf hrf hp h1 h2 hsub (thn (run_vals (us := [.ref a, .int i t]) (vs := [.ref a, .int i]) G hr hb I (.cons rfl (.cons ⟨t, rfl⟩ .nil)) hsp) fun _ _ z => cmpb z)
theorem un_own {sp : Sp} (G : FnOk X.prog X.w X.K X.mg X.base CX0 k g fd ps sp) (hr : Room k X.A) (hb : Binds X.K fd ps []) (hs : PySem.W.findIn X.K (.ref C) "__neg__" = some (some (.ref g))) (hf : PySem.W.isFn X.K (.ref g) = true) :
    UnR X (unaryOp .USub) (fun x H Q => ∃ a dx fs, x = .ref a ∧ H a = some (.ins C dx fs) ∧ sp [x] H Q E0) := by
  intro pins s σ H x v Q I rx h
  obtain ⟨a, dx, fs, rfl, ea, hsp⟩ := h
  cases rx
  obtain ⟨mA, J, _⟩ := ins_get I.hok ea
  obtain ⟨od, J, _⟩ := J.look
  obtain ⟨m, hF⟩ := I.fr
  exact PySem.W.ksp_neg hF I.ok.mod.kin J hs hf (run_vals (us := [.ref a]) (vs := [.ref a]) G hr hb I (.cons rfl .nil) hsp)
theorem un_ownInv {sp : Sp} (G : FnOk X.prog X.w X.K X.mg X.base CX0 k g fd ps sp) (hr : Room k X.A) (hb : Binds X.K fd ps []) (hs : PySem.W.findIn X.K (.ref C) "__invert__" = some (some (.ref g))) (hf : PySem.W.isFn X.K (.ref g) = true) :
    UnR X (unaryOp .Invert) (fun x H Q => ∃ a dx fs, x = .ref a ∧ H a = some (.ins C dx fs) ∧ sp [x] H Q E0) := by
  intro pins s σ H x v Q I rx h
  obtain ⟨a, dx, fs, rfl, ea, hsp⟩ := h
  cases rx
  obtain ⟨mA, J, _⟩ := ins_get I.hok ea
  obtain ⟨od, J, _⟩ := J.look
  obtain ⟨m, hF⟩ := I.fr
  exact PySem.W.ksp_inv hF I.ok.mod.kin J hs hf (run_vals (us := [.ref a]) (vs := [.ref a]) G hr hb I (.cons rfl .nil) hsp)
/-- by data -/
theorem bin_own2 (hT : T cn = some (C, fn)) (G : FnOk X.prog X.w X.K X.mg X.base CX0 k g fd ps (spC T X.K c)) (hr : Room k X.A) (hb : Binds X.K fd ps []) (hc : PySem.W.selfFirst X.K C = true) (hs : PySem.W.findIn X.K (.ref C) (PySem.dunder op.info.2) = some (some (.ref g))) (hf : PySem.W.isFn X.K (.ref g) = true)
    (hq : c [.dat (.obj cn ds), .dat (.obj cn es)] [] (.dat d) []) : BinD X T op (.dat (.obj cn ds)) (.dat (.obj cn es)) cs (.dat d) cs := ⟨_, op_own2 G hr hb hc hs hf, fun ad F H v w Q cc r1 r2 q => by
  have s1 := r1
  have s2 := r2
  cases r1 with
  | @obj a C' dx _ fn' vs' _ ht na e1 hl r =>
    rw [hT] at ht
    cases ht
    cases r2 with
    | @obj b C' dy _ fn' ws' _ ht nb e2 hl2 r' =>
      rw [hT] at ht
      cases ht
      exact ⟨a, b, dx, dy, _, _, rfl, rfl, e1, e2, spC0 (ds := [.obj cn ds, .obj cn es]) hq cc ⟨s1, s2, trivial⟩ fun v H' x2 c2 r2 => q v H' ad x2 c2 r2⟩⟩
theorem bin_ownI {fo ro rc : Option Value} (hT : T cn = some (C, fn)) (G : FnOk X.prog X.w X.K X.mg X.base CX0 k g fd ps (spC T X.K c)) (hr : Room k X.A) (hb : Binds X.K fd ps []) (hc : PySem.W.selfFirst X.K C = true) (hs : PySem.W.findIn X.K (.ref C) (PySem.dunder op.info.2) = some (some (.ref g))) (hf : PySem.W.isFn X.K (.ref g) = true)
    (hrf : PySem.W.findIn X.K (.ref C) (dunderR op.info.2) = some rc) (hp : rc = none ∨ ∃ g : Addr, rc = some (.ref g)) (h1 : PySem.W.findIn X.K (.type "int") (PySem.dunder op.info.2) = some fo) (h2 : PySem.W.findIn X.K (.type "int") (dunderR op.info.2) = some ro) (hsub : PySem.W.subIn X.K (.type "int") (.ref C) = some false)
    (hq : c [.dat (.obj cn ds), .dat (.int i)] [] (.dat d) []) : BinD X T op (.dat (.obj cn ds)) (.dat (.int i)) cs (.dat d) cs := ⟨_, op_ownI G hr hb hc hs hf hrf hp h1 h2 hsub, fun ad F H v w Q cc r1 r2 q => by
  have s1 := r1
  cases r2
  cases r1 with
  | @obj a C' dx _ fn' vs' _ ht na e1 hl r =>
    rw [hT] at ht
    cases ht
    exact ⟨a, dx, _, i, rfl, rfl, e1, spC0 (ds := [.obj cn ds, .int i]) hq cc ⟨s1, Rep.int, trivial⟩ fun v H' x2 c2 r2 => q v H' ad x2 c2 r2⟩⟩
theorem un_ownN (hT : T cn = some (C, fn)) (G : FnOk X.prog X.w X.K X.mg X.base CX0 k g fd ps (spC T X.K c)) (hr : Room k X.A) (hb : Binds X.K fd ps []) (hs : PySem.W.findIn X.K (.ref C) "__neg__" = some (some (.ref g))) (hf : PySem.W.isFn X.K (.ref g) = true)
    (hq : c [.dat (.obj cn ds)] [] (.dat d) []) : UnD X T .USub (.dat (.obj cn ds)) cs (.dat d) cs := ⟨_, un_own G hr hb hs hf, fun ad F H v Q cc r1 q => by
  have s1 := r1
  cases r1 with
  | @obj a C' dx _ fn' vs' _ ht na e1 hl r =>
    rw [hT] at ht
    cases ht
    exact ⟨a, dx, _, rfl, e1, spC0 (ds := [.obj cn ds]) hq cc ⟨s1, trivial⟩ fun v H' x2 c2 r2 => q v H' ad x2 c2 r2⟩⟩
end
end Dl

namespace Dl
open PySem L2

/-! ### int op instance: the instance's reflected method -/
section
open PySem.W
variable {prog : Program} {w : World} {A : Around} {E : Value → Shared → Prop} {s : Shared} {K : Frag} {x C f g : Addr} {ox : Obj} {od : Option Obj}
theorem int_ni {name : String} {F : Int → Int → Sem Fin} {i : Int} {t : Tok} {Q : Fin → Shared → Prop} (ho : s.heap.get? x = some ox) (hd : ∀ v, ox.data ≠ .prim v) (h : Q (.done (.ret .notImplemented)) s) :
    wpAny (model prog w) A (Builtin.Int.intBinary name F false ⟨[.int i t, .ref x], []⟩) Q E s := by
  unfold Builtin.Int.intBinary
  refine wpAny_bind (wpAny_of_eq (a := (Value.int i t, [Value.ref x])) rfl ?_)
  refine wpAny_bind (wpAny_of_eq (a := i) rfl ?_)
  show wpAny _ _ (asInt? (.ref x) >>= _) _ _ _
  unfold asInt?
  refine wpAny_bind (wpAny_bind (wpAny_load ho ?_))
  have e : (match ox.data with | .prim (.int i _) => pure (some i) | _ => pure none : Sem (Option Int)) = pure none := by
    split
    · rename_i z; exact absurd z (hd _)
    · rfl
  first
    | rw [e]
    | (show wpAny _ _ (match ox.data with | .prim (.int i _) => pure (some i) | _ => pure none : Sem (Option Int)) _ _ _; rw [e])
  exact wpAny_pure (wpAny_bind (wpAny_rule (wpAny_pure h)))
theorem refl_bin {op : Operator} {i : Int} {t : Tok} {fo ro : Option Value} {id : String} {name : String} {F : Int → Int → Sem Fin} {Q : Value → Shared → Prop} (X : K.In s.heap) (I : InstAt s.heap x ox C od) (hd : ∀ v, ox.data ≠ .prim v) (hc : selfFirst K C = true)
    (hs : findIn K (.ref C) (PySem.dunder op.info.2) = some (some (.ref f))) (hr : findIn K (.ref C) (dunderR op.info.2) = some (some (.ref g))) (hg : isFn K (.ref g) = true)
    (h1 : findIn K (.type "int") (PySem.dunder op.info.2) = some fo) (h2 : findIn K (.type "int") (dunderR op.info.2) = some ro) (hf : ((fo.isSome && !isSeqSlot fo) || (ro.isSome && !isSeqSlot ro)) = true) (hsub : subIn K (.ref C) (.type "int") = some false)
    (slot : Slot "int" (PySem.dunder op.info.2) id) (entry : entryFor table id = some (Builtin.Int.intBinary name F false)) (args : argsOk id ⟨[.int i t, .ref x], []⟩)
    (h : wpAny (model prog w) A (call (.ref g) [.ref x, .int i t]) (CmpBack Q) E s) : wpAny (model prog w) A (binaryOp op (.int i t) (.ref x)) Q E s := by
  obtain ⟨cd, rest, hcd, hm⟩ := ksp_first hc
  rcases hi : op.info with ⟨sym, nm'⟩
  rw [hi] at hs hr h1 h2 slot
  dsimp only at hs hr h1 h2 slot
  have two := ksp_try (b := .int i t) (name := dunderR nm') X I hr hg h
  have one : wpAny (model prog w) A (tryMethod (.int i t) (PySem.dunder nm') (.ref x)) (fun r s' => r = none ∧ s' = s) E s := by
    unfold tryMethod
    refine wpAny_bind (wpAny_callSpecial?_slot (typeIs_int s i t) slot (wpAny_call_entry slot (typeIs_int s i t) entry (int_ni I.at_ hd ⟨_, rfl, wpAny_pure ⟨rfl, rfl⟩⟩) args))
  obtain ⟨hh, gg, d, tt, os⟩ := s
  have L1 : Looks (model prog w) hh (typeOf (.int i t)) (.type "int") := Looks.of_pure rfl
  have L2 : Looks (model prog w) hh (typeOf (.ref x)) (.ref C) := I.type
  have L3 : Looks (model prog w) hh (fillsNumberSlot (.ref C) nm') true := fills_K X hcd hm hs
  have L4 : Looks (model prog w) hh (fillsNumberSlot (.type "int") nm') true := by have z := ksp_fillsT (M := model prog w) X h1 h2; rw [hf] at z; exact z
  have L5 : Looks (model prog w) hh (isSubtype (.ref C) (.type "int")) false := looks_subIn X hsub
  have L7 : Looks (model prog w) hh (numberSlotInPython (.type "int") nm') false := Looks.of_pure rfl
  have hne : (Value.type "int" == Value.ref C) = false := Bool.eq_false_iff.mpr fun q => by cases beq_iff_eq.mp q
  simp only [binaryOp, hi]
  refine wpAny_holding (wpAny_bind ?_)
  unfold binaryOp1
  refine wpAny_bind (L1.at (wpAny_bind (L2.at (wpAny_bind (L4.at ?_)))))
  simp only [hne, Bool.false_eq_true, if_false]
  ksp_lk
  refine wpAny_mono one (fun r s' hr' => ?_) fun _ _ e => e
  obtain ⟨rfl, rfl⟩ := hr'
  ksp_lk
  refine wpAny_mono two (fun r s' hr' => ?_) fun _ _ e => e
  obtain ⟨v, rfl, hq⟩ := hr'
  ksp_lk
  exact hq
/-- the op itself, ahead of what += and + do with it -/
theorem bin1_own2 {nm : String} {b : Value} {Q : Value → Shared → Prop} (X : K.In s.heap) (I : InstAt s.heap x ox C od) (hb : Looks (model prog w) s.heap (typeOf b) (.ref C)) (hc : selfFirst K C = true)
    (hs : findIn K (.ref C) (PySem.dunder nm) = some (some (.ref f))) (hf : isFn K (.ref f) = true) (h : wpAny (model prog w) A (call (.ref f) [.ref x, b]) (CmpBack Q) E s) : wpAny (model prog w) A (binaryOp1 nm (.ref x) b) (fun r s' => ∃ v, r = some v ∧ Q v s') E s := by
  obtain ⟨cd, rest, hcd, hm⟩ := ksp_first hc
  have one := ksp_try X I hs hf h
  obtain ⟨hh, g, d, tt, os⟩ := s
  have L1 : Looks (model prog w) hh (typeOf (.ref x)) (.ref C) := I.type
  have L3 : Looks (model prog w) hh (fillsNumberSlot (.ref C) nm) true := fills_K X hcd hm hs
  unfold binaryOp1
  refine wpAny_bind (L1.at (wpAny_bind (hb.at (wpAny_bind (L3.at ?_)))))
  simp only [beq_self_eq_true, if_true]
  ksp_lk
  refine wpAny_mono one (fun r s' hr' => ?_) fun _ _ e => e
  obtain ⟨v, rfl, hq⟩ := hr'
  ksp_lk
  exact ⟨v, rfl, hq⟩
theorem bin1_ownT {nm T : String} {b : Value} {fo ro rc : Option Value} {Q : Value → Shared → Prop} (X : K.In s.heap) (I : InstAt s.heap x ox C od) (hb : typeOf b = pure (.type T)) (hc : selfFirst K C = true)
    (hs : findIn K (.ref C) (PySem.dunder nm) = some (some (.ref f))) (hf : isFn K (.ref f) = true) (hr : findIn K (.ref C) (dunderR nm) = some rc) (hp : rc = none ∨ ∃ g : Addr, rc = some (.ref g))
    (h1 : findIn K (.type T) (PySem.dunder nm) = some fo) (h2 : findIn K (.type T) (dunderR nm) = some ro) (hsub : subIn K (.type T) (.ref C) = some false)
    (h : wpAny (model prog w) A (call (.ref f) [.ref x, b]) (CmpBack Q) E s) : wpAny (model prog w) A (binaryOp1 nm (.ref x) b) (fun r s' => ∃ v, r = some v ∧ Q v s') E s := by
  obtain ⟨cd, rest, hcd, hm⟩ := ksp_first hc
  have one := ksp_try X I hs hf h
  obtain ⟨hh, g, d, tt, os⟩ := s
  have L1 : Looks (model prog w) hh (typeOf (.ref x)) (.ref C) := I.type
  have L2 : Looks (model prog w) hh (typeOf b) (.type T) := Looks.of_pure hb
  have L3 : Looks (model prog w) hh (fillsNumberSlot (.ref C) nm) true := fills_K X hcd hm hs
  have L4 : Looks (model prog w) hh (fillsNumberSlot (.type T) nm) ((fo.isSome && !isSeqSlot fo) || (ro.isSome && !isSeqSlot ro)) := ksp_fillsT X h1 h2
  have L5 : Looks (model prog w) hh (isSubtype (.type T) (.ref C)) false := looks_subIn X hsub
  have L6 : Looks (model prog w) hh (numberSlotInPython (.ref C) nm) true := ksp_inPy X hs hr hp
  have L7 : Looks (model prog w) hh (numberSlotInPython (.type T) nm) false := Looks.of_pure rfl
  have L8 : Looks (model prog w) hh (typeLookup (.type T) (dunderR nm)) ro := looks_findIn X h2
  generalize ((fo.isSome && !isSeqSlot fo) || (ro.isSome && !isSeqSlot ro)) = right at L4
  have hne : (Value.ref C == Value.type T) = false := Bool.eq_false_iff.mpr fun q => by cases beq_iff_eq.mp q
  unfold binaryOp1
  refine wpAny_bind (L1.at (wpAny_bind (L2.at (wpAny_bind (L3.at ?_)))))
  simp only [hne, Bool.false_eq_true, if_false]
  cases right with
  | false =>
    ksp_lk
    refine wpAny_mono one (fun r s' hr' => ?_) fun _ _ e => e
    obtain ⟨v, rfl, hq⟩ := hr'
    ksp_lk
    exact ⟨v, rfl, hq⟩
  | true =>
    ksp_lk
    refine wpAny_mono one (fun r s' hr' => ?_) fun _ _ e => e
    obtain ⟨v, rfl, hq⟩ := hr'
    ksp_lk
    exact ⟨v, rfl, hq⟩
/-- no own += : the op's -/
theorem no_inp {M : Model} {nm : String} {add : Bool} {cd : ClassData} (X : K.In s.heap) (hc : clsIn K C = some cd) (hm : cd.mro = [.ref C, .type "object"]) (hs : findIn K (.ref C) (dunderI nm) = some none) (ho : findIn K (.type "object") (dunderI nm) = some none) : Looks M s.heap (fillsInplaceSlot (.ref C) nm add) false := by
  have Lm : Looks M s.heap (mroOf (.ref C)) cd.mro := (looks_clsIn X hc).andThen (f := fun cd => pure cd.mro) .now
  intro A Q E s2 k q
  have Lm' := Lm.keeps k
  obtain ⟨hh, g, d, tt, os⟩ := s2
  have X' : K.In hh := X.keeps k
  have L1 : Looks M hh (typeLookup (.ref C) (dunderI nm)) none := looks_findIn X' hs
  have L2 : Looks M hh (typeLookup (.type "object") (dunderI nm)) none := looks_findIn X' ho
  unfold fillsInplaceSlot
  refine wpAny_bind (Lm'.at ?_)
  rw [hm, List.anyM_cons, List.anyM_cons, List.anyM_nil]
  refine wpAny_bind ?_
  repeat lk
  exact q
theorem inp_own {op : Operator} {b : Value} {cd : ClassData} {Q : Value → Shared → Prop} (X : K.In s.heap) (I : InstAt s.heap x ox C od) (hc : clsIn K C = some cd) (hm : cd.mro = [.ref C, .type "object"]) (hs : findIn K (.ref C) (dunderI op.info.2) = some none) (ho : findIn K (.type "object") (dunderI op.info.2) = some none)
    (h : wpAny (model prog w) A (binaryOp1 op.info.2 (.ref x) b) (fun r s' => ∃ v, r = some v ∧ Q v s') E s) : wpAny (model prog w) A (inplaceOp op (.ref x) b) Q E s := by
  have L2 : Looks (model prog w) s.heap (fillsInplaceSlot (.ref C) op.info.2 (op == .Add)) false := no_inp X hc hm hs ho
  unfold inplaceOp
  refine wpAny_holding ?_
  refine wpAny_bind (I.type.here ?_)
  refine wpAny_bind (L2.here ?_)
  simp only [Bool.false_eq_true, if_false]
  refine wpAny_bind (wpAny_mono h (fun r s' hr => ?_) fun _ _ e => e)
  obtain ⟨v, rfl, hq⟩ := hr
  exact wpAny_pure hq
end
/-! #### by values, by data -/
theorem inst_data {C dx : Addr} (v : Value) : (PySem.W.instObj C dx).data ≠ .prim v := fun z => nomatch z
theorem inst_get {X : Cx} {pins : List (Addr × Obj)} {σ : St} {H : Hp} {s : Shared} {a C dx : Addr} {fs : List (Str × V)} (I : Inv X pins σ H s) (ea : H a = some (.ins C dx fs)) : ∃ od, PySem.W.InstAt s.heap a (PySem.W.instObj C dx) C (some od) := by
  obtain ⟨mA, J, _⟩ := ins_get I.hok ea
  obtain ⟨od, J, _⟩ := J.look
  exact ⟨od, J⟩
/-- what an operator's method of C is -/
structure OpC (K : PySem.W.Frag) (C : Addr) (op : Operator) (g : Addr) : Prop where
  sf : PySem.W.selfFirst K C = true
  at_ : PySem.W.findIn K (.ref C) (PySem.dunder op.info.2) = some (some (.ref g))
  fn : PySem.W.isFn K (.ref g) = true
  rc : ∃ rc, PySem.W.findIn K (.ref C) (dunderR op.info.2) = some rc ∧ (rc = none ∨ ∃ g : Addr, rc = some (.ref g))
  i1 : ∃ fo, PySem.W.findIn K (.type "int") (PySem.dunder op.info.2) = some fo
  i2 : ∃ ro, PySem.W.findIn K (.type "int") (dunderR op.info.2) = some ro
  su : PySem.W.subIn K (.type "int") (.ref C) = some false
/-- .. its reflected one -/
structure OpR' (K : PySem.W.Frag) (C : Addr) (op : Operator) (g : Addr) : Prop where
  sf : PySem.W.selfFirst K C = true
  lf : ∃ f : Addr, PySem.W.findIn K (.ref C) (PySem.dunder op.info.2) = some (some (.ref f))
  at_ : PySem.W.findIn K (.ref C) (dunderR op.info.2) = some (some (.ref g))
  fn : PySem.W.isFn K (.ref g) = true
  ii : ∃ fo ro, PySem.W.findIn K (.type "int") (PySem.dunder op.info.2) = some fo ∧ PySem.W.findIn K (.type "int") (dunderR op.info.2) = some ro ∧ ((fo.isSome && !isSeqSlot fo) || (ro.isSome && !isSeqSlot ro)) = true
  su : PySem.W.subIn K (.ref C) (.type "int") = some false
/-- no own += -/
structure NoIn (K : PySem.W.Frag) (C : Addr) (op : Operator) : Prop where
  cl : ∃ cd, PySem.W.clsIn K C = some cd ∧ cd.mro = [.ref C, .type "object"]
  at_ : PySem.W.findIn K (.ref C) (dunderI op.info.2) = some none
  ob : PySem.W.findIn K (.type "object") (dunderI op.info.2) = some none
/-- how int's own method answers an instance -/
structure IntNi (op : Operator) : Prop where
  ex : ∃ id name F, Slot "int" (PySem.dunder op.info.2) id ∧ entryFor table id = some (Builtin.Int.intBinary name F false) ∧ ∀ a b : Value, argsOk id ⟨[a, b], []⟩
theorem ni_add : IntNi .Add := ⟨_, _, _, F.slot_int_add, F.entry_int_add, fun a b => F.args_int_add_2 a b⟩
theorem ni_sub : IntNi .Sub := ⟨_, _, _, F.slot_int_sub, F.entry_int_sub, fun a b => F.args_int_sub_2 a b⟩
theorem ni_mul : IntNi .Mult := ⟨_, _, _, F.slot_int_mul, F.entry_int_mul, fun a b => F.args_int_mul_2 a b⟩
def IopD (X : Cx) (T : Tab) (op : Operator) (s1 s2 : Sl) (cs : List Cell) (s : Sl) (cs' : List Cell) : Prop := ∃ r, OpR X (inplaceOp op) r ∧ R2D T X.K r s1 s2 cs s cs'
section
variable {X : Cx} {T : Tab} {C g : Addr} {fd : FuncData} {ps : List Str} {k cn : Nat} {c : Ct} {fn : List Str} {op : Operator} {ds es : List D} {d : D} {cs : List Cell} {i j : Int}
theorem bin_ownR (hT : T cn = some (C, fn)) (hn : IntNi op) (O : OpR' X.K C op g) (G : FnOk X.prog X.w X.K X.mg X.base CX0 k g fd ps (spC T X.K c)) (hr : Room k X.A) (hb : Binds X.K fd ps [])
    (hq : c [.dat (.obj cn ds), .dat (.int i)] [] (.dat d) []) : BinD X T op (.dat (.int i)) (.dat (.obj cn ds)) cs (.dat d) cs := by
  obtain ⟨id, name, F, slot, entry, args⟩ := hn.ex
  obtain ⟨f, hf⟩ := O.lf
  obtain ⟨fo, ro, e1, e2, e3⟩ := O.ii
  refine ⟨fun x y H Q => ∃ a dx fs i, y = .ref a ∧ x = .int i ∧ H a = some (.ins C dx fs) ∧ spC T X.K c [y, x] H Q E0, ?_, fun ad F H v w Q cc r1 r2 q => ?_⟩
  · intro pins s σ H x y v u Q I rx ry h
    obtain ⟨a, dx, fs, i, rfl, rfl, ea, hsp⟩ := h
    cases ry
    obtain ⟨t, rfl⟩ := rx
    obtain ⟨od, J⟩ := inst_get I ea
    exact refl_bin I.kIn J inst_data O.sf hf O.at_ O.fn e1 e2 e3 O.su slot entry (args _ _) (thn (run_vals (us := [.ref a, .int i t]) (vs := [.ref a, .int i]) G hr hb I (.cons rfl (.cons ⟨t, rfl⟩ .nil)) hsp) fun _ _ z => cmpb z)
  · have s2 := r2
    cases r1
    cases r2 with
    | @obj a C' dx _ fn' vs' _ ht na e1 hl r =>
      rw [hT] at ht
      cases ht
      exact ⟨a, dx, _, i, rfl, rfl, e1, spC0 (ds := [.obj cn ds, .int i]) hq cc ⟨s2, Rep.int, trivial⟩ fun v H' x2 c2 r2 => q v H' ad x2 c2 r2⟩
theorem bin_o2 (hT : T cn = some (C, fn)) (O : OpC X.K C op g) (G : FnOk X.prog X.w X.K X.mg X.base CX0 k g fd ps (spC T X.K c)) (hr : Room k X.A) (hb : Binds X.K fd ps []) (hq : c [.dat (.obj cn ds), .dat (.obj cn es)] [] (.dat d) []) :
    BinD X T op (.dat (.obj cn ds)) (.dat (.obj cn es)) cs (.dat d) cs := bin_own2 hT G hr hb O.sf O.at_ O.fn hq
theorem bin_oI (hT : T cn = some (C, fn)) (O : OpC X.K C op g) (G : FnOk X.prog X.w X.K X.mg X.base CX0 k g fd ps (spC T X.K c)) (hr : Room k X.A) (hb : Binds X.K fd ps []) (hq : c [.dat (.obj cn ds), .dat (.int i)] [] (.dat d) []) :
    BinD X T op (.dat (.obj cn ds)) (.dat (.int i)) cs (.dat d) cs := by
  obtain ⟨rc, h1, h2⟩ := O.rc
  obtain ⟨fo, h3⟩ := O.i1
  obtain ⟨ro, h4⟩ := O.i2
  exact bin_ownI hT G hr hb O.sf O.at_ O.fn h1 h2 h3 h4 O.su hq
theorem iop_o2 (hT : T cn = some (C, fn)) (N : NoIn X.K C op) (O : OpC X.K C op g) (G : FnOk X.prog X.w X.K X.mg X.base CX0 k g fd ps (spC T X.K c)) (hr : Room k X.A) (hb : Binds X.K fd ps []) (hq : c [.dat (.obj cn ds), .dat (.obj cn es)] [] (.dat d) []) :
    IopD X T op (.dat (.obj cn ds)) (.dat (.obj cn es)) cs (.dat d) cs := by
  obtain ⟨cd, hcd, hm⟩ := N.cl
  refine ⟨fun x y H Q => ∃ a b dx dy fs gs, x = .ref a ∧ y = .ref b ∧ H a = some (.ins C dx fs) ∧ H b = some (.ins C dy gs) ∧ spC T X.K c [x, y] H Q E0, ?_, fun ad F H v w Q cc r1 r2 q => ?_⟩
  · intro pins s σ H x y v u Q I rx ry h
    obtain ⟨a, b, dx, dy, fs, gs, rfl, rfl, ea, eb, hsp⟩ := h
    cases rx; cases ry
    obtain ⟨od, J⟩ := inst_get I ea
    obtain ⟨od', J'⟩ := inst_get I eb
    exact inp_own I.kIn J hcd hm N.at_ N.ob (bin1_own2 I.kIn J J'.type O.sf O.at_ O.fn (thn (run_vals (us := [.ref a, .ref b]) (vs := [.ref a, .ref b]) G hr hb I (.cons rfl (.cons rfl .nil)) hsp) fun _ _ z => cmpb z))
  · have s1 := r1
    have s2 := r2
    cases r1 with
    | @obj a C' dx _ fn' vs' _ ht na e1 hl r =>
      rw [hT] at ht
      cases ht
      cases r2 with
      | @obj b C' dy _ fn' ws' _ ht nb e2 hl2 r' =>
        rw [hT] at ht
        cases ht
        exact ⟨a, b, dx, dy, _, _, rfl, rfl, e1, e2, spC0 (ds := [.obj cn ds, .obj cn es]) hq cc ⟨s1, s2, trivial⟩ fun v H' x2 c2 r2 => q v H' ad x2 c2 r2⟩
theorem iop_oI (hT : T cn = some (C, fn)) (N : NoIn X.K C op) (O : OpC X.K C op g) (G : FnOk X.prog X.w X.K X.mg X.base CX0 k g fd ps (spC T X.K c)) (hr : Room k X.A) (hb : Binds X.K fd ps []) (hq : c [.dat (.obj cn ds), .dat (.int i)] [] (.dat d) []) :
    IopD X T op (.dat (.obj cn ds)) (.dat (.int i)) cs (.dat d) cs := by
  obtain ⟨cd, hcd, hm⟩ := N.cl
  obtain ⟨rc, h1, h2⟩ := O.rc
  obtain ⟨fo, h3⟩ := O.i1
  obtain ⟨ro, h4⟩ := O.i2
  refine ⟨fun x y H Q => ∃ a dx fs i, x = .ref a ∧ y = .int i ∧ H a = some (.ins C dx fs) ∧ spC T X.K c [x, y] H Q E0, ?_, fun ad F H v w Q cc r1 r2 q => ?_⟩
  · intro pins s σ H x y v u Q I rx ry h
    obtain ⟨a, dx, fs, i, rfl, rfl, ea, hsp⟩ := h
    cases rx
    obtain ⟨t, rfl⟩ := ry
    obtain ⟨od, J⟩ := inst_get I ea
    exact inp_own I.kIn J hcd hm N.at_ N.ob (bin1_ownT (T := "int") I.kIn J rfl O.sf O.at_ O.fn h1 h2 h3 h4 O.su (thn (run_vals (us := [.ref a, .int i t]) (vs := [.ref a, .int i]) G hr hb I (.cons rfl (.cons ⟨t, rfl⟩ .nil)) hsp) fun _ _ z => cmpb z))
  · have s1 := r1
    cases r2
    cases r1 with
    | @obj a C' dx _ fn' vs' _ ht na e1 hl r =>
      rw [hT] at ht
      cases ht
      exact ⟨a, dx, _, i, rfl, rfl, e1, spC0 (ds := [.obj cn ds, .int i]) hq cc ⟨s1, Rep.int, trivial⟩ fun v H' x2 c2 r2 => q v H' ad x2 c2 r2⟩
theorem iop_add : IopD X T .Add (.dat (.int i)) (.dat (.int j)) cs (.dat (.int (i + j))) cs := ⟨_, L2.iop_add, r2_I0⟩
theorem iop_sub : IopD X T .Sub (.dat (.int i)) (.dat (.int j)) cs (.dat (.int (i - j))) cs := ⟨_, L2.iop_sub, r2_I0⟩
/-- x op= e -/
theorem ds_aug (v : Nat) {n : Nat} {S S1 : Sta} {e : Expr} {s1 s2 s : Sl} {P : Post} {x : Str} {pos p' : Pos} (hN : X.N.Nodup) (hs : S.sl[v]? = some (some s1)) (he : DE X T S e s2 S1) (h : IopD X T op s1 s2 S1.cs s S1.cs) (q : P.nx ⟨S1.sl.set v (some s), S1.cs⟩)
    (hi : X.N[v]? = some x := by rfl) (hx : Loc X.env.scope x := by first | exact Or.inl rfl | exact Or.inr rfl) (hf : X.fn x = true ∨ X.env.scope.names.lookup x = some .local := by first | exact .inl rfl | exact .inr rfl) : DS X T n S (.AugAssign (.Name x p') op e pos) P := by
  obtain ⟨r, ho, hr⟩ := h
  refine weakS (ps_aug hN hi hx he ho hf) fun D σ H ⟨ad, F, hn, h0, q1, _⟩ => ?_
  obtain ⟨w, hw, rw'⟩ := h0.sl v s1 hs
  refine ⟨w, hw, ad, F, h0, fun u H1 ad1 x1 h1 r1 => ?_⟩
  refine hr ad1 F H1 w u _ h1.hc (rw'.ext x1) r1 fun z H' ad' x2 c2 r2 => ?_
  have x12 := x1.trans h1.hc x2
  exact q1 _ _ H' ad' (x12.s hn) (x12.le hn) ((h1.to x2 c2).set r2 v) q
end
end Dl

namespace Dl
open PySem L2

/-! ### zip of three tuples -/
def It3 (K : PySem.W.Frag) (a b c : Addr) : It :=
  ⟨fun i H => ∃ (xs ys zs : List V) (x y z : V), (SqT K H a xs ∧ SqT K H b ys ∧ SqT K H c zs) ∧ xs[i]? = some x ∧ ys[i]? = some y ∧ zs[i]? = some z,
    fun i H v H' => ∃ T x y z, v = .ref T ∧ H T = none ∧ H' = upd H T (.tup [x, y, z]) ∧ (∀ l, SqT K H a l → l[i]? = some x) ∧ (∀ l, SqT K H b l → l[i]? = some y) ∧ ∀ l, SqT K H c l → l[i]? = some z,
    fun i H => ∃ xs ys zs : List V, (SqT K H a xs ∧ SqT K H b ys ∧ SqT K H c zs) ∧ (i ≤ xs.length ∧ i ≤ ys.length ∧ i ≤ zs.length) ∧ (i = xs.length ∨ i = ys.length ∨ i = zs.length)⟩

theorem turn3 {P : Program} {w : World} {K : PySem.W.Frag} {elts : List Expr} {kk : Nat} {tpos : Pos} {a b c z TI TO i1 i2 i3 : Addr} (D : ZipSep3 z TI TO i1 i2 i3 [i1, a] [i2, b] [i3, c])
    (n1 : a ≠ i1) (n2 : b ≠ i2) (n3 : c ≠ i3) :
    Turn P w K (.Tuple elts kk tpos) (It3 K a b c) [z, TI, TO, i1, i2, i3] z (fun i h => IsZip h z TI TO .none ∧ IsTupOf3 h TI (.ref i1) (.ref i2) (.ref i3) ∧ (∃ x y u, IsTupOf3 h TO x y u) ∧ h.IsTupleIter i1 a i ∧ h.IsTupleIter i2 b i ∧ h.IsTupleIter i3 c i) where
  mem := by simp
  obj := fun i h st q hq => by
    obtain ⟨hz, hTI, ⟨x, y, u, hTO⟩, ⟨o1, e1, _, d1⟩, ⟨o2, e2, _, d2⟩, ⟨o3, e3, _, d3⟩⟩ := st
    have e' : q = z ∨ q = TI ∨ q = TO ∨ q = i1 ∨ q = i2 ∨ q = i3 := by simpa using hq
    rcases e' with r | r | r | r | r | r
    · rw [r]; exact ⟨_, hz, fun v q => nomatch q⟩
    · rw [r]; exact ⟨_, hTI, fun v q => nomatch q⟩
    · rw [r]; exact ⟨_, hTO, fun v q => nomatch q⟩
    · rw [r]; exact ⟨o1, e1, fun v q => by rw [d1] at q; cases q⟩
    · rw [r]; exact ⟨o2, e2, fun v q => by rw [d2] at q; cases q⟩
    · rw [r]; exact ⟨o3, e3, fun v q => by rw [d3] at q; cases q⟩
  keep := fun i h h' st k => by
    obtain ⟨hz, hTI, ⟨x, y, u, hTO⟩, h1, h2, h3⟩ := st
    exact ⟨k z (by simp) _ hz, k TI (by simp) _ hTI, ⟨x, y, u, k TO (by simp) _ hTO⟩, h1.at fun o q => k i1 (by simp) o q, h2.at fun o q => k i2 (by simp) o q, h3.at fun o q => k i3 (by simp) o q⟩
  item := by
    intro X hP hw hK hc i pins s σ H E I hf st hg
    subst hP hw hK
    obtain ⟨hz, hTI, ⟨x0, y0, u0, hTO⟩, h1, h2, h3⟩ := st
    obtain ⟨xs, ys, zs, x, y, u, ⟨hqx, hqy, hqz⟩, hx, hy, hu'⟩ := hg
    obtain ⟨its, rv, p, _⟩ := I.tuple hqx
    obtain ⟨its2, rv2, p2, _⟩ := I.tuple hqy
    obtain ⟨its3, rv3, p3, _⟩ := I.tuple hqz
    obtain ⟨v1, hv1, r1⟩ := rv.get hx
    obtain ⟨v2, hv2, r2⟩ := rv2.get hy
    obtain ⟨v3, hv3, r3⟩ := rv3.get hu'
    have hd : X.A.in1.handled = none := I.ok.hd hc
    have hzl : z < s.heap.objs.size := Heap.lt_size hz
    have lt1 : i < its.toArray.size := by have := List.getElem?_eq_some_iff.mp hv1; simpa using this.1
    have lt2 : i < its2.toArray.size := by have := List.getElem?_eq_some_iff.mp hv2; simpa using this.1
    have lt3 : i < its3.toArray.size := by have := List.getElem?_eq_some_iff.mp hv3; simpa using this.1
    refine wpAny_pyNext_zipD3_item D (Draws.tuple hd i1 a n1 its.toArray) (Draws.tuple hd i2 b n2 its2.toArray) (Draws.tuple hd i3 c n3 its3.toArray) hz hTI hTO ⟨h1, p⟩ ⟨h2, p2⟩ ⟨h3, p3⟩ lt1 lt2 lt3
      fun y1 y2 y3 h' tk q1 q2 q3 z' TO' t1 t2 t3 hT hsz hk => ?_
    have w1 : y1 = v1 := Option.some.inj (q1.symm.trans (by simpa using hv1))
    have w2 : y2 = v2 := Option.some.inj (q2.symm.trans (by simpa using hv2))
    have w3 : y3 = v3 := Option.some.inj (q3.symm.trans (by simpa using hv3))
    subst w1 w2 w3
    refine ⟨_, rfl, wpAny_letOwnedTupleGo_zip (s := { s with heap := h', toks := tk }) z' fun h'' z'' sb => ?_⟩
    have hT2 : h''.get? s.heap.objs.size = some { cls := .type "tuple", data := .seq #[y1, y2, y3] } := (sb.2 _ (Nat.ne_of_gt hzl)).trans hT
    have new : ObjOk X.prog X.w (upd H s.heap.objs.size (.tup [x, y, u])) h'' s.heap.objs.size (.tup [x, y, u]) :=
      ⟨by show 3 ≤ sizeLine; decide, [y1, y2, y3], .cons r1 (.cons r2 (.cons r3 .nil)), ⟨_, hT2, rfl, _, rfl⟩⟩
    have I1 : Inv X pins σ (upd H s.heap.objs.size (.tup [x, y, u])) { s with heap := h'', toks := tk } :=
      I.turnedNew (t' := tk) (ch := [z, TI, TO, i1, i2, i3]) (fun c o hb q => (sb.2 c (fun q' => hb (by simp [q']))).trans (hk c o (fun q' => hb (by simp [q'])) (fun q' => hb (by simp [q'])) (fun q' => hb (by simp [q'])) (fun q' => hb (by simp [q'])) (fun q' => hb (by simp [q'])) q)) hf (Nat.le_refl _) new
    refine ⟨.ref s.heap.objs.size, _, I1, rfl, ⟨_, x, y, u, rfl, I.hok.fresh (Nat.le_refl _), rfl, fun l hl => by rw [I.tuple_inj hl hqx]; exact hx, fun l hl => by rw [I.tuple_inj hl hqy]; exact hy, fun l hl => by rw [I.tuple_inj hl hqz]; exact hu'⟩, ⟨z'', ?_, ⟨y1, y2, y3, ?_⟩, ?_, ?_, ?_⟩, fun q hcm => ?_⟩
    · exact (sb.2 _ D.TIz).trans (hk _ _ D.TIz D.TITO D.TIi1 D.TIi2 D.TIi3 hTI)
    · exact (sb.2 _ D.TOz).trans TO'
    · exact t1.1.at fun o q => (sb.2 _ D.zi1.symm).trans q
    · exact t2.1.at fun o q => (sb.2 _ D.zi2.symm).trans q
    · exact t3.1.at fun o q => (sb.2 _ D.zi3.symm).trans q
    · have hlt : q < s.heap.objs.size := by
        have e' : q = z ∨ q = TI ∨ q = TO ∨ q = i1 ∨ q = i2 ∨ q = i3 := by simpa using hcm
        rcases e' with r | r | r | r | r | r
        · rw [r]; exact hzl
        · rw [r]; exact Heap.lt_size hTI
        · rw [r]; exact Heap.lt_size hTO
        · rw [r]; obtain ⟨_, e1, _⟩ := h1; exact Heap.lt_size e1
        · rw [r]; obtain ⟨_, e2, _⟩ := h2; exact Heap.lt_size e2
        · rw [r]; obtain ⟨_, e3, _⟩ := h3; exact Heap.lt_size e3
      rw [upd_ne (Nat.ne_of_lt hlt)]
      exact (hf q hcm).1
  done := by
    intro X hP hw hK hc i pins s σ H E I hf st hg
    subst hP hw hK
    obtain ⟨hz, hTI, ⟨x0, y0, u0, hTO⟩, h1, h2, h3⟩ := st
    obtain ⟨xs, ys, zs, ⟨hqx, hqy, hqz⟩, hle, hend⟩ := hg
    obtain ⟨its, rv, p, _⟩ := I.tuple hqx
    obtain ⟨its2, rv2, p2, _⟩ := I.tuple hqy
    obtain ⟨its3, rv3, p3, _⟩ := I.tuple hqz
    have hd : X.A.in1.handled = none := I.ok.hd hc
    have l1 := rv.length
    have l2 := rv2.length
    have l3 := rv3.length
    have le1 : i ≤ its.toArray.size := by simp; omega
    have le2 : i ≤ its2.toArray.size := by simp; omega
    have le3 : i ≤ its3.toArray.size := by simp; omega
    have he : i = its.toArray.size ∨ i = its2.toArray.size ∨ i = its3.toArray.size := by simp; omega
    exact wpAny_pyNext_zipD3_end D (Draws.tuple hd i1 a n1 its.toArray) (Draws.tuple hd i2 b n2 its2.toArray) (Draws.tuple hd i3 c n3 its3.toArray) hz hTI hTO ⟨h1, p⟩ ⟨h2, p2⟩ ⟨h3, p3⟩ le1 le2 le3 he
      fun h' tk hk => ⟨rfl, I.turnedL (t' := tk) (ch := [z, TI, TO, i1, i2, i3]) (fun c o hb q =>
      hk c o (fun q' => hb (by simp [q'])) (fun q' => hb (by simp [q'])) (fun q' => hb (by simp [q'])) (fun q' => hb (by simp [q'])) (fun q' => hb (by simp [q'])) q) hf⟩
  self := fun A i s Q E st h => wpAny_pyIter_zip st.1 h

def iZip3 (K : PySem.W.Frag) (ta : TA) : TI := fun σ H R => ta σ H fun vs H1 => ∃ a b c xs ys zs, vs = [.ref a, .ref b, .ref c] ∧ (SqT K H1 a xs ∧ SqT K H1 b ys ∧ SqT K H1 c zs) ∧ R (It3 K a b c) H1
open PySem.Spec PyProof.Rows in
theorem pi_zip3 {X : Cx} {e e2 e3 : Expr} {ta : TA} {p pos tpos : Pos} {elts : List Expr} {kk : Nat} (hg : Gl X "zip") (hm : X.mg "zip" = none) (ha : PA X [e, e2, e3] ta)
    (hs : starEach [e, e2, e3] X.env = (false, eval e X.env) :: starEach [e2, e3] X.env := by rfl) (hpl : (backTo pos (starEach [e2, e3] X.env)).any (·.1) = false := by rfl) :
    PI X (.Tuple elts kk tpos) (.Call (.Name "zip" p) [e, e2, e3] [] pos) (iZip3 X.K ta) := by
  refine ⟨fun pins s σ H R I h => ?_⟩
  refine Call_ (ld_blt I hg hm PyProof.Rows.boot_zip (PyProof.Rows.callWith_type1 (thn (ha.run pos pins s σ H _ I h) fun us s1 ⟨vs, H1, I1, r1, q1⟩ => ?_) hs hpl))
  obtain ⟨a, b, c, xs, ys, zs, ex, ⟨hqx, hqy, hqz⟩, q⟩ := q1
  subst ex
  obtain ⟨v1, l1, rfl, s1', r1'⟩ : ∃ v l, us = v :: l ∧ RelV (.ref a) v ∧ Vals [.ref b, .ref c] l := by
    cases r1 with
    | cons r rr => exact ⟨_, _, rfl, r, rr⟩
  obtain ⟨v2, l2, rfl, r2, r2'⟩ : ∃ v l, l1 = v :: l ∧ RelV (.ref b) v ∧ Vals [.ref c] l := by
    cases r1' with
    | cons r rr => exact ⟨_, _, rfl, r, rr⟩
  obtain ⟨v3, rfl, r3⟩ := vals1 r2'
  cases (show v1 = Value.ref a from s1')
  cases (show v2 = Value.ref b from r2)
  cases (show v3 = Value.ref c from r3)
  obtain ⟨its, rv, p1, _⟩ := I1.tuple hqx
  obtain ⟨its2, rv2, p2, _⟩ := I1.tuple hqy
  obtain ⟨its3, rv3, p3, _⟩ := I1.tuple hqz
  obtain ⟨o1, ho1, _⟩ := id p1
  obtain ⟨o2, ho2, _⟩ := id p2
  obtain ⟨o3, ho3, _⟩ := id p3
  have L1 : a < s1.heap.objs.size := Heap.lt_size ho1
  have L2 : b < s1.heap.objs.size := Heap.lt_size ho2
  have L3 : c < s1.heap.objs.size := Heap.lt_size ho3
  refine zip_begins3 (begins_tuple a its.toArray) (begins_tuple b its2.toArray) (begins_tuple c its3.toArray) p1 p2 p3 fun h' hz hTI hTO h1 h2 h3 hsz hk => wpAny_pyIter_zip hz ?_
  have I2 : Inv X pins σ H1 { s1 with heap := h' } := I1.kept (t' := s1.toks) hk
  have D := zip_sep3 (N := s1.heap.objs.size) (fp1 := [a]) (fp2 := [b]) (fp3 := [c]) (by simpa using L1) (by simpa using L2) (by simpa using L3)
  have n1 : a ≠ s1.heap.objs.size := Nat.ne_of_lt L1
  have n2 : b ≠ s1.heap.objs.size + 1 := Nat.ne_of_lt (Nat.lt_succ_of_lt L2)
  have n3 : c ≠ s1.heap.objs.size + 2 := Nat.ne_of_lt (Nat.lt_succ_of_lt (Nat.lt_succ_of_lt L3))
  exact ⟨s1.heap.objs.size + 5, [s1.heap.objs.size + 5, s1.heap.objs.size + 3, s1.heap.objs.size + 4, s1.heap.objs.size, s1.heap.objs.size + 1, s1.heap.objs.size + 2], _, _, H1, rfl, I2, turn3 D n1 n2 n3, ⟨hz, hTI, ⟨_, _, _, hTO⟩, ⟨_, h1, rfl, rfl⟩, ⟨_, h2, rfl, rfl⟩, ⟨_, h3, rfl, rfl⟩⟩, fun q hcm => by
    have e' : q = s1.heap.objs.size + 5 ∨ q = s1.heap.objs.size + 3 ∨ q = s1.heap.objs.size + 4 ∨ q = s1.heap.objs.size ∨ q = s1.heap.objs.size + 1 ∨ q = s1.heap.objs.size + 2 := by simpa using hcm
    have hle : s1.heap.objs.size ≤ q := by
      rcases e' with z | z | z | z | z | z
      all_goals rw [z]
      all_goals first | exact Nat.le_add_right _ _ | exact Nat.le_refl _
    exact I1.fpOk hle (I1.hok.fresh hle), q⟩

def zip3D (ds es fs : List D) : List D := (ds.zip (es.zip fs)).map fun q => D.tup [q.1, q.2.1, q.2.2]
theorem zip3D_get {ds es fs : List D} {i : Nat} {d : D} (h : (zip3D ds es fs)[i]? = some d) : ∃ x y z, ds[i]? = some x ∧ es[i]? = some y ∧ fs[i]? = some z ∧ d = .tup [x, y, z] := by
  unfold zip3D at h
  rw [List.getElem?_map] at h
  cases q : (ds.zip (es.zip fs))[i]? with
  | none => rw [q] at h; cases h
  | some z =>
    rw [q] at h
    rw [List.getElem?_zip_eq_some] at q
    have q2 := q.2
    rw [List.getElem?_zip_eq_some] at q2
    exact ⟨z.1, z.2.1, z.2.2, q.1, q2.1, q2.2, (Option.some.inj h).symm⟩
theorem di_zip3 {X : Cx} {T : Tab} {S S1 : Sta} {e e2 e3 : Expr} {ds es fs : List D} {p pos tpos : Pos} {elts : List Expr} {kk : Nat} (h : DA X T S [e, e2, e3] [.dat (.tup ds), .dat (.tup es), .dat (.tup fs)] S1) (hm : X.mg "zip" = none) (hg : Gl X "zip" := by rfl)
    (hs : starEach [e, e2, e3] X.env = (false, eval e X.env) :: starEach [e2, e3] X.env := by rfl)
    (hpl : (backTo pos (starEach [e2, e3] X.env)).any (·.1) = false := by rfl) : DI X T S (.Tuple elts kk tpos) (.Call (.Name "zip" p) [e, e2, e3] [] pos) (zip3D ds es fs) S1 :=
  weakI (pi_zip3 hg hm h hs hpl) fun σ H R ⟨ad, F, h0, q⟩ => ⟨ad, F, h0, fun vs H1 ad1 x1 h1' r1 => by
    match vs, r1 with
    | [v, w, u], r1 =>
      have r3 := r1.2.2.1
      have r2 := r1.2.1
      have r1 := r1.1
      cases r1 with
      | @tup a xs _ e1 q1 =>
        cases r2 with
        | @tup b ys _ e2 q2 =>
          cases r3 with
          | @tup c zs _ e3 q3 =>
            refine ⟨a, b, c, xs, ys, zs, rfl, ⟨e1.sq, e2.sq, e3.sq⟩, q _ H1 ad1 x1 h1' fun F2 ad2 H2 cs2 c2 kp i => ⟨fun d hd => ?_, fun hi => ?_⟩⟩
            · obtain ⟨x, y, z, hx, hy, hz, rfl⟩ := zip3D_get hd
              obtain ⟨vx, gx, rx⟩ := (q1.kp kp).get hx
              obtain ⟨vy, gy, ry⟩ := (q2.kp kp).get hy
              obtain ⟨vz, gz, rz⟩ := (q3.kp kp).get hz
              refine ⟨⟨xs, ys, zs, vx, vy, vz, ⟨(e1.kp kp).sq, (e2.kp kp).sq, (e3.kp kp).sq⟩, gx, gy, gz⟩, fun u H3 z => ?_⟩
              obtain ⟨t, x', y', z', rfl, nt, rfl, f1, f2, f3⟩ := z
              have ex : x' = vx := Option.some.inj ((f1 _ (e1.kp kp).sq).symm.trans gx)
              have ey : y' = vy := Option.some.inj ((f2 _ (e2.kp kp).sq).symm.trans gy)
              have ez : z' = vz := Option.some.inj ((f3 _ (e3.kp kp).sq).symm.trans gz)
              subst ex ey ez
              obtain ⟨c3, x3⟩ := c2.newo (o := .tup [x', y', z']) nt
              exact ⟨fun a o ea => by rw [upd_ne (ne_of_none ea nt)]; exact ea, .tup (vs := [x', y', z']) (.inl ⟨c2.new nt, .inl upd_same⟩) (.cons (rx.kp x3.kp) (.cons (ry.kp x3.kp) (.cons (rz.kp x3.kp) .nil)))⟩
            · refine ⟨xs, ys, zs, ⟨(e1.kp kp).sq, (e2.kp kp).sq, (e3.kp kp).sq⟩, ?_⟩
              unfold zip3D at hi
              rw [List.length_map, List.length_zip, List.length_zip] at hi
              rw [q1.length, q2.length, q3.length]
              omega⟩
end Dl

namespace Dl
open PySem L2

/-! ### a, b, .. = a list -/
theorem ds_tupL {X : Cx} {T : Tab} {n m : Nat} {S S1 : Sta} {e : Expr} {es : List Expr} {k : Nat} {pos tpos : Pos} {s1 : Sl} {ds : List D} {P : Post} {ps : List Pat} {sl' : List (Option Sl)} (hc : X.calm = true) (he : DE X T S e s1 S1) (hL : isLst S1.cs ds s1) (hg : DGs X T es ps) (ha : asgPs ps ds S1.sl = some sl') (h : P.nx ⟨sl', S1.cs⟩)
    (hn : (assignEach es X.env).length = m := by rfl) (hp : ps.length = m := by rfl) (hst : (assignEach es X.env).findIdx? (·.1) = none := by rfl)
    (hs : swapsWithSole [.Tuple es k tpos] e pos.line X.env = pure false := by rfl) (hw : swappedStores [.Tuple es k tpos] e X.env = pure none := by rfl)
    (h1 : (assignEach [.Tuple es k tpos] X.env).map (·.2) = [assign (.Tuple es k tpos) X.env] := by rfl) : DS X T n S (.Assign [.Tuple es k tpos] e pos) P :=
  weakS (ps_asg he (pg_unl (n := m) hc hg hn hst) hs hw h1) fun D σ H ⟨ad, F, hn', h0, q, _⟩ => ⟨ad, F, h0, fun v H1 ad1 x1 h1 r1 => by
    obtain ⟨a, ws, rfl, e1, q1⟩ := rd_lst hL h1.hc r1
    exact ⟨a, ws, rfl, SqL.of e1, by rw [q1.length, ← hp]; exact asgPs_len ha, ad1, F, S1, ds, sl', h1, q1, ha, fun σ' _ h2 => q _ _ H1 ad1 (x1.s hn') (x1.le hn') h2 h⟩⟩

/-! ### defs with defaults -/
abbrev cxD (P : Program) (w : World) (K : PySem.W.Frag) (mg : Str → Option Value) (base : Heap) (N : List Str) (qual : Str) (scope : Scope) (f : Addr) (cdv : Value) (A : Around) (outer : List Env) (s : Shared) (H : Hp) (E : XK) : Cx := (cxOf CX0 P w K mg base N qual scope f cdv A outer s H E).nox
theorem fn_okD {T : Tab} {P : Program} {w : World} {K : PySem.W.Frag} {mg : Str → Option Value} {base : Heap} {x qual : Str} {st : Stmt} {dvs : List V} {kws : List (Str × V)} {f : Addr} {fd : FuncData} {N ps : List Str} {k : Nat} {c : Ct} (F : FunD K x qual (defArgs st) (defBody st) (defScope st) dvs kws f fd) (Sc : FnScope N ps (defScope st)) (len : ∀ args cs s cs', c args cs s cs' → args.length = ps.length)
    (body : ∀ cdv A outer sh H E, Room k (cx0 P w K mg base N qual st f cdv A outer sh H E).A → ∀ args cs s cs', c args cs s cs' →
      DSs (cx0 P w K mg base N qual st f cdv A outer sh H E) T cs.length (st0 N args cs) (defBody st) (endOf cs.length s cs')) : FnOk P w K mg base CX0 (k + 1) f fd ps (spC T K c) := by
  refine F.ok Sc (fun vs H Q E h => ?_) (fun cdv A outer s H vs Q E hr h => ?_)
  · obtain ⟨ad, F', args, cs, s, cs', _, r, hc, _⟩ := h
    rw [r.len, len _ _ _ _ hc]
  · obtain ⟨ad, F', args, cs, s0, cs', hc, r, h, q⟩ := h
    refine ⟨_, PSs.nox (body cdv A outer s H E hr args cs s0 cs' h), ad, F', Nat.le_of_eq hc.ln.symm, start_hold hc r, ?_, ?_, fun _ _ _ _ _ _ _ z => z.elim, fun _ _ _ _ _ _ _ z => z.elim, fun _ _ _ _ _ _ _ _ _ _ _ z => z.elim⟩
    · rintro S' σ' H' ad' x hn h' ⟨rfl, e⟩
      subst e
      refine q .non H' (ad'.take cs.length) ⟨by rw [List.take_take, Nat.min_self]; exact x.pre, fun a ha => x.sub a (List.mem_of_mem_take ha), x.keep, x.frm⟩ (by rw [List.length_take]; omega) (h'.hc.take _) Rep.non
    · rintro s2 cs2 v H' ad' x hn c2 r2 ⟨rfl, rfl⟩
      exact q v H' ad' x hn c2 r2

/-! ### comparisons of an own class -/
section
variable {X : Cx} {T : Tab} {C g : Addr} {fd : FuncData} {ps : List Str} {k cn : Nat} {c : Ct} {fn : List Str} {op : CmpOp} {ds es : List D} {d : D} {cs : List Cell}
/-- x op y, two instances of C -/
theorem cop_own2 {sp : Sp} (G : FnOk X.prog X.w X.K X.mg X.base CX0 k g fd ps sp) (hr : Room k X.A) (hb : Binds X.K fd ps []) (hs : PySem.W.findIn X.K (.ref C) (cmpInfo op).2.1 = some (some (.ref g))) (hf : PySem.W.isFn X.K (.ref g) = true) (ho : compareOp op = richCompare op) :
    OpR X (compareOp op) (fun x y H Q => ∃ a b dx dy fs gs, x = .ref a ∧ y = .ref b ∧ H a = some (.ins C dx fs) ∧ H b = some (.ins C dy gs) ∧ sp [x, y] H Q E0) := by
  intro pins s σ H x y v u Q I rx ry h
  obtain ⟨a, b, dx, dy, fs, gs, rfl, rfl, ea, eb, hsp⟩ := h
  cases rx; cases ry
  obtain ⟨mA, J, _⟩ := ins_get I.hok ea
  obtain ⟨mB, J', _⟩ := ins_get I.hok eb
  obtain ⟨od, J, _⟩ := J.look
  obtain ⟨od', J', _⟩ := J'.look
  obtain ⟨m, hF⟩ := I.fr
  rw [ho]
  exact PySem.W.cmp_K (tb := .ref C) hr.units0 hF I.ok.mod.kin J J'.type (by simp [PySem.W.notFirst]) hs hf (thn (run_vals (us := [.ref a, .ref b]) (vs := [.ref a, .ref b]) G hr hb I (.cons rfl (.cons rfl .nil)) hsp) fun _ _ z => cmpb z)
theorem cmp_own2 (hT : T cn = some (C, fn)) (G : FnOk X.prog X.w X.K X.mg X.base CX0 k g fd ps (spC T X.K c)) (hr : Room k X.A) (hb : Binds X.K fd ps []) (hs : PySem.W.findIn X.K (.ref C) (cmpInfo op).2.1 = some (some (.ref g))) (hf : PySem.W.isFn X.K (.ref g) = true)
    (hq : c [.dat (.obj cn ds), .dat (.obj cn es)] [] (.dat d) []) (ho : compareOp op = richCompare op := by rfl) : CmpD X T op (.dat (.obj cn ds)) (.dat (.obj cn es)) cs (.dat d) cs := ⟨_, cop_own2 G hr hb hs hf ho, fun ad F H v w Q cc r1 r2 q => by
  have s1 := r1
  have s2 := r2
  cases r1 with
  | @obj a C' dx _ fn' vs' _ ht na e1 hl r =>
    rw [hT] at ht
    cases ht
    cases r2 with
    | @obj b C' dy _ fn' ws' _ ht nb e2 hl2 r' =>
      rw [hT] at ht
      cases ht
      exact ⟨a, b, dx, dy, _, _, rfl, rfl, e1, e2, spC0 (ds := [.obj cn ds, .obj cn es]) hq cc ⟨s1, s2, trivial⟩ fun v H' x2 c2 r2 => q v H' ad x2 c2 r2⟩⟩
end

/-! ### x in a tuple or list of flat items -/
section
variable {X : Cx} {T : Tab} {ds : List D} {d : D} {cs : List Cell}
def fv : D → Option V
  | .non => some .non
  | .bl b => some (.bl b)
  | .int i => some (.int i)
  | .str x => some (.str x)
  | _ => none
def fvs : List D → Option (List V)
  | [] => some []
  | d :: ds => (fv d).bind fun v => (fvs ds).map (v :: ·)
theorem fv_rep {K : PySem.W.Frag} {M : Addr → Prop} {H : Hp} {v w : V} (r : Rep T K M H v d) (h : fv d = some w) : v = w ∧ flatV w = true := by
  cases r <;> first | (cases h; exact ⟨rfl, rfl⟩) | exact nomatch h
theorem fvs_reps {K : PySem.W.Frag} {M : Addr → Prop} {H : Hp} : ∀ {vs : List V} {ds : List D} {ws : List V}, Reps T K M H vs ds → fvs ds = some ws → vs = ws ∧ ws.all flatV = true
  | _, _, _, .nil, h => by cases h; exact ⟨rfl, rfl⟩
  | _, d :: ds, ws, .cons r rs, h => by
    cases e : fv d with
    | none => rw [fvs, e] at h; cases h
    | some v =>
      cases e2 : fvs ds with
      | none => rw [fvs, e, e2] at h; cases h
      | some l =>
        rw [fvs, e, e2] at h
        cases h
        obtain ⟨a, fa⟩ := fv_rep r e
        obtain ⟨b, fb⟩ := fvs_reps rs e2
        exact ⟨by rw [a, b], by rw [List.all_cons, fa, fb]; rfl⟩
theorem cmp_inT {v : V} {ws : List V} (h1 : fv d = some v) (h2 : fvs ds = some ws) : CmpD X T .In (.dat d) (.dat (.tup ds)) cs (.dat (.bl (inV v ws))) cs := ⟨_, op_in_seq, fun ad F H x y Q c r1 r2 q => by
  cases r2 with
  | @tup a xs _ e1 q1 =>
    obtain ⟨rfl, fx⟩ := fv_rep r1 h1
    obtain ⟨rfl, fs⟩ := fvs_reps q1 h2
    exact ⟨a, _, rfl, .inr e1.sq, fx, fs, q _ H ad .refl c Rep.bl⟩⟩
theorem cmp_ninT {v : V} {ws : List V} (h1 : fv d = some v) (h2 : fvs ds = some ws) : CmpD X T .NotIn (.dat d) (.dat (.tup ds)) cs (.dat (.bl (!inV v ws))) cs := ⟨_, op_notIn_seq, fun ad F H x y Q c r1 r2 q => by
  cases r2 with
  | @tup a xs _ e1 q1 =>
    obtain ⟨rfl, fx⟩ := fv_rep r1 h1
    obtain ⟨rfl, fs⟩ := fvs_reps q1 h2
    exact ⟨a, _, rfl, .inr e1.sq, fx, fs, q _ H ad .refl c Rep.bl⟩⟩
end

/-! ### small helps -/
theorem mul_l {i j : Int} (h1 : -(2 ^ 64) < i) (h2 : i < 2 ^ 64) : IntMulOk i j := CMul.ok (.inl ⟨h1, h2⟩)
theorem mul_r {i j : Int} (h1 : -(2 ^ 64) < j) (h2 : j < 2 ^ 64) : IntMulOk i j := CMul.ok (.inr ⟨h1, h2⟩)
end Dl

namespace Dl
open PySem L2
/-! ### the last cell becomes data -/
def frzS (m : Nat) (ds : List D) : Option Sl → Option Sl
  | some (.cel k) => if k = m then some (.dat (.lst ds)) else if k < m then some (.cel k) else none
  | x => x
theorem dss_freeze {X : Cx} {T : Tab} {n : Nat} {S : Sta} {P : Post} {sts : List Stmt} {ds : List D} (m : Nat) (hm : n ≤ m) (hc : S.cs[m]? = some (.lst ds)) (h : DSs X T n ⟨S.sl.map (frzS m ds), S.cs.take m⟩ sts P) : DSs X T n S sts P :=
  weakSs h fun D σ H ⟨ad, F, hn, h0, q1, q2, q3, q4, q5⟩ => by
    have kp : Kp (Mm ad F) H (Mm (ad.take m) F) H := fun a o e z => ⟨e, fun y => z (y.imp List.mem_of_mem_take id)⟩
    have x : ExtS n ad F H (ad.take m) H := ⟨by rw [List.take_take, Nat.min_eq_left hm], fun a ha => .inl (List.mem_of_mem_take ha), fun _ _ e _ => e, fun _ _ => .inl rfl⟩
    have ml : m < ad.length := by rw [h0.hc.ln]; exact (List.getElem?_eq_some_iff.mp hc).1
    refine tDS.go (σ := σ) x (by rw [List.length_take]; omega) ⟨h0.hc.take m, by rw [h0.sz]; simp, fun i s e => ?_⟩ q1 q2 q3 q4 q5
    have e : (S.sl.map (frzS m ds))[i]? = some (some s) := e
    rw [List.getElem?_map] at e
    cases e0 : S.sl[i]? with
    | none => rw [e0] at e; cases e
    | some o =>
      rw [e0] at e
      have e : frzS m ds o = some s := Option.some.inj e
      cases o with
      | none => cases e
      | some s0 =>
        obtain ⟨v, hv, r⟩ := h0.sl i s0 e0
        refine ⟨v, hv, ?_⟩
        cases s0 with
        | dat d => cases e; exact Rep.kp kp r
        | cel k =>
          obtain ⟨a, ha, ev⟩ := r
          by_cases k1 : k = m
          · subst k1
            have e : some (Sl.dat (.lst ds)) = some s := by simpa [frzS] using e
            cases e
            obtain ⟨vs, e1, r1⟩ := h0.hc.ce k a _ ha hc
            have na : ¬ Mm (ad.take k) F a := fun y => by
              rcases y with y | y
              · obtain ⟨j, hj, ej⟩ := List.getElem_of_mem y
                have hj' : j < k := by rw [List.length_take] at hj; omega
                rw [List.getElem_take] at ej
                have hj2 : j < ad.length := by omega
                have := ix_inj (j := j) h0.hc.nd ha (by rw [List.getElem?_eq_getElem hj2, ej])
                omega
              · exact h0.hc.fr a (List.mem_of_getElem? ha) y
            rw [ev]
            exact Rep.lst na e1 (r1.kp kp)
          · by_cases k2 : k < m
            · have e : some (Sl.cel k) = some s := by simpa [frzS, k1, k2] using e
              cases e
              exact ⟨a, by rw [List.getElem?_take_of_lt k2]; exact ha, ev⟩
            · have e : (none : Option Sl) = some s := by simpa [frzS, k1, k2] using e
              cases e
/-! ### if c: o[i] = e -/
theorem ds_ifSet {X : Cx} {T : Tab} {n : Nat} {S : Sta} {P : Post} {c e o ix : Expr} {k : Bool} {d d0 d' : D} {j m : Nat} {i : Int} {ds : List D} {p1 p2 p3 : Pos} (hc : DT X T S c k S) (he : DE X T S e (.dat d) S) (ho : DE X T S o (.cel j) S) (hi : DE X T S ix (.dat (.int i)) S) (hk : S.cs[j]? = some (.lst ds)) (hj : ixN ds.length i = some m)
    (h0 : ds[m]? = some d0) (hd : (if k then d else d0) = d') (h : P.nx ⟨S.sl, S.cs.set j (.lst (ds.set m d'))⟩) (hs : swapsWithSole [.Subscript o ix p1] e p2.line X.env = pure false := by rfl) (hw : swappedStores [.Subscript o ix p1] e X.env = pure none := by rfl)
    (h1 : (assignEach [.Subscript o ix p1] X.env).map (·.2) = [assign (.Subscript o ix p1) X.env] := by rfl) (ha : ∀ v, assign (.Subscript o ix p1) X.env v = (do
      let ov ← holding [v] (eval o X.env)
      let iv ← holding [v, ov] (eval ix X.env)
      standAt p1
      holding [v, ov, iv] (setItem ov iv v)
      release [v, ov, iv] []) := by intro _; rfl) : DS X T n S (.If c [.Assign [.Subscript o ix p1] e p2] [] p3) P := by
  refine ds_if hc (fun hk' => ?_) (fun hk' => ?_)
  · subst hk'
    have hd : d = d' := hd
    subst hd
    exact dss_cons (ds_setL he ho hi hk hj (dss_nil h) (ha := ha) (hs := hs) (hw := hw) (h1 := h1))
  · subst hk'
    have hd : d0 = d' := hd
    subst hd
    refine dss_nil ?_
    have e1 : ds.set m d0 = ds := by
      obtain ⟨hm, e⟩ := List.getElem?_eq_some_iff.mp h0
      rw [← e]
      exact List.set_getElem_self hm
    have e2 : S.cs.set j (.lst ds) = S.cs := by
      obtain ⟨hm, e⟩ := List.getElem?_eq_some_iff.mp hk
      rw [← e]
      exact List.set_getElem_self hm
    rw [e1, e2] at h
    exact h
end Dl

namespace Dl
open PySem L2
/-! ### the law's end -/
def spL (K : PySem.W.Frag) : Sp := fun vs H Q _ => ∃ (a : Addr) (ns : List Int), vs = [.ref a] ∧ LAt K (fun _ => False) H a (ns.map V.int) ∧ ns.length ≤ 63 ∧ (∀ z ∈ ns, Builtin.Int.intBits z ≤ 1048576) ∧ ∀ H', Q (.bl true) H'
theorem spL_to {T : Tab} {K : PySem.W.Frag} {c : Ct} (h : ∀ ns : List Int, ns.length ≤ 63 → (∀ z ∈ ns, Builtin.Int.intBits z ≤ 1048576) → c [.dat (.scr (ns.map D.int))] [] (.dat (.bl true)) []) {vs : List V} {H : Hp} {Q : VK} {E : XK} (q : spL K vs H Q E) (hT : T 900 = none := by rfl) : spC T K c vs H Q E := by
  obtain ⟨a, ns, rfl, hl, hn, hb, hq⟩ := q
  refine ⟨[], fun _ => False, [.dat (.scr (ns.map D.int))], [], _, _, ⟨List.nodup_nil, fun _ z => (nomatch z), fun _ z => z.elim, fun P q z => (by rw [hT] at z; cases z), rfl, fun _ _ _ e => nomatch e⟩, ⟨Rep.scr (vs := ns.map V.int) ?_ (Reps.ints ns), trivial⟩, h ns hn hb, ?_⟩
  · rcases hl with ⟨_, o, e⟩ | e
    · exact .inl ⟨fun z => z.elim (fun z => nomatch z) id, o, e⟩
    · exact .inr e
  · intro v H' ad' _ _ _ r
    cases r
    exact hq H'
theorem spL_of {K : PySem.W.Frag} (H : Hp) (a : Addr) (ns : List Int) (hl : ns.length ≤ 63) (hb : ∀ z ∈ ns, Builtin.Int.intBits z ≤ 1048576) (hO : Only H) (hS : SqL K H a (ns.map V.int)) : spL K [.ref a] H (fun v _ => v = .bl true) fun _ _ _ => False :=
  ⟨a, ns, rfl, LAt.of hO hS, hl, hb, fun _ => rfl⟩
/-- a def with defaults, out of the heap -/
theorem fd_mk {K : PySem.W.Frag} {x qual : Str} {st : Stmt} {f : Addr} {oc dV kV doc pm cdv ct : Value} {od an : Option Addr} {osl : Array (Option Value)} {dvs : List V} {kws : List (Str × V)} (l : K.lookup f = some ⟨oc, od, .func (PySem.W.fnOf x qual (defArgs st) (defBody st) (defScope st) dV kV doc pm an cdv ct), osl⟩)
    (c : PySem.W.codeIn K cdv qual = true) (k : PySem.W.keepIn K (.ref f) = true) (hd : DflV K dV dvs) (hk : KwdV K kV kws) : FunD K x qual (defArgs st) (defBody st) (defScope st) dvs kws f (PySem.W.fnOf x qual (defArgs st) (defBody st) (defScope st) dV kV doc pm an cdv ct) :=
  ⟨⟨oc, od, dV, kV, doc, pm, an, cdv, ct, osl, rfl, l, c, hd, hk⟩, k⟩
theorem dfl0 {K : PySem.W.Frag} : DflV K .none [] := .inl ⟨rfl, rfl⟩
theorem dfl1 {K : PySem.W.Frag} {T : Addr} {o : Obj} {v : V} {u : Value} {n : Nat} (l : K.lookup T = some o) (d : o.data = .seq #[u] n) (r : RelV v u) : DflV K (.ref T) [v] := .inr ⟨by simp, T, o, [u], n, rfl, l, d, .cons r .nil⟩
theorem kwd3 {K : PySem.W.Frag} {D : Addr} {a b c : Str} {x y z : V} {u v w : Value} (h1 : PySem.W.nsIn K D a = some (some u)) (h2 : PySem.W.nsIn K D b = some (some v)) (h3 : PySem.W.nsIn K D c = some (some w)) (r1 : RelV x u) (r2 : RelV y v) (r3 : RelV z w) : KwdV K (.ref D) [(a, x), (b, y), (c, z)] :=
  .inr ⟨D, rfl, List.forall_mem_cons.mpr ⟨⟨u, h1, r1⟩, List.forall_mem_cons.mpr ⟨⟨v, h2, r2⟩, List.forall_mem_cons.mpr ⟨⟨w, h3, r3⟩, fun _ z => nomatch z⟩⟩⟩⟩
theorem kit_self {K : PySem.W.Frag} {C : Addr} : PySem.W.kitOne K (.ref C) (.ref C) = some true := if_pos (beq_self_eq_true _)
theorem kit_sub {K : PySem.W.Frag} {C : Addr} {T : String} {b : Bool} (h : PySem.W.subIn K (.ref C) (.type T) = some b) (hm : PySem.W.kitMeta T = true) : PySem.W.kitOne K (.ref C) (.type T) = some b := by
  show (if (Value.ref C == Value.type T) = true then some true else PySem.W.kitCls K (.ref C) (.type T)) = some b
  rw [if_neg (by intro z; cases (beq_iff_eq.mp z))]
  show (if PySem.W.kitMeta T = true then PySem.W.subIn K (.ref C) (.type T) else none) = some b
  rw [if_pos hm]
  exact h
theorem km_int : PySem.W.kitMeta "int" = true := by decide +kernel
end Dl

namespace Dl
open PySem L2

/-! ### Base.__init__(self, ..), Base an own class over ValueError -/
structure CIn (K : PySem.W.Frag) (C : Addr) : Prop where
  ty : PySem.W.typeIn K (.ref C) = some (.type "type")
  rd : PySem.W.readsIn K C (.type "type") = true
  ga : PySem.W.specialIn K (.ref C) "__getattribute__" = some (some (.builtin "type.__getattribute__"))
  at_ : PySem.W.findCls K (.ref C) (.type "type") "__init__" = some (.val (.builtin "ValueError.__init__"))
open PySem.Spec PyProof.Rows in
theorem pe_cinit {X : Cx} {x : Str} {C0 : Addr} {e : Expr} {es : List Expr} {ta : TA} {p1 p2 pos : Pos} {pl : Sem Bool} (hg : Gl X x) (hm : X.mg x = some (.ref C0)) (c : CIn X.K C0) (ha : PA X (e :: es) ta) (hdb : (x == ("__debug__" : Str)) = false)
    (ht : eval (.Call (.Attribute (.Name x p1) "__init__" p2) (e :: es) [] pos) X.env = (do
      let ov ← eval (.Name x p1) X.env
      standAt p2.atName
      let (f, first) ← holding [ov] (getMethod ov "__init__" pl)
      callWith pos f first (backTo pos (starEach (e :: es) X.env)) (backToKw pos (keywordEach [] X.env))))
    (he : starEach (e :: es) X.env = (false, eval e X.env) :: starEach es X.env) (hpl : (backTo pos (starEach es X.env)).any (·.1) = false) :
    PE X (.Call (.Attribute (.Name x p1) "__init__" p2) (e :: es) [] pos) (tVeI X.K ta) := by
  constructor
  intro pins s σ H Q I h
  obtain ⟨m, fr⟩ := I.fr
  refine PySem.W.methodCall_KW (ld_glob I hg hm (PySem.W.method_of_cls fr I.ok.mod.kin c.ga (PySem.W.cls_val fr I.ok.mod.kin c.ty c.rd c.at_ (by decide +kernel) ?_)) hdb) ht
  show wpAny _ _ (callWith pos (Value.builtin "ValueError.__init__") [] (backTo pos (starEach (e :: es) X.env)) []) _ _ _
  refine PyProof.Rows.callWith_method1 (thn (ha.run pos pins _ σ H _ (I.tok _) h) fun us s1 z => ?_) he hpl
  obtain ⟨vs, H1, I1, r1, a, C, ws, ev, hl, T, ea, q⟩ := z
  subst ev
  cases r1 with
  | @cons _ u0 _ ur ra rw' =>
    cases (show u0 = Value.ref a from ra)
    exact oinit_ok T I1 ea (by rw [← Paired.length rw', sizeLine_eq]; omega) fun s' J => ⟨.non, H1, J, rfl, q⟩

/-! ### the class of a caught error, with or without a dict -/
open PySem.W PySem.Spec PySem.Calls PyProof.Rows in
theorem cls_exc {prog : Program} {w : World} {A : Around} {E : Value → Shared → Prop} {s : Shared} {K : Frag} {x D : Addr} {ox : Obj} {od : Option Obj} {Q : Option Value → Shared → Prop} (c : L2.ExcC K D) (X : K.In s.heap) (I : InstAt s.heap x ox D od) (h : Q (some (.ref D)) { s with toks := s.toks + 1 }) :
    wpAny (model prog w) A (getAttr? (.ref x) "__class__") Q E s := by
  have hf : findObj K D od "__class__" = some (.bind (.builtin "getset_descriptor.__get__") (.builtin "object.__class__")) := by
    obtain ⟨cd, hc, _⟩ := any_some c.hd
    unfold findObj
    rw [hc, Option.bind_some, c.ha, Option.bind_some]
    simp [c.hn, c.ht]
  obtain ⟨hp, g, d, t, os⟩ := s
  have T0 : Looks (model prog w) hp (typeOf (.ref x)) (.ref D) := I.type
  have T3 := looks_find (M := model prog w) X I hf
  have ne : (onTheHeap (Value.ref D) && Value.builtin "BaseException.__getattribute__" == Value.builtin "object.__getattribute__") = false := by
    rw [show (Value.builtin "BaseException.__getattribute__" == Value.builtin "object.__getattribute__") = false by decide +kernel]
    rfl
  unfold getAttr? getAttrBy? getAttrBy
  refine wpAny_bind (wpAny_mkText (wpAny_bind (wpAny_attempt (wpAny_holding (wpAny_bind (T0.at (wpAny_bind ((looks_findIn (M := model prog w) X c.hg).at ?_))))))))
  show wpAny _ _ (ite ((onTheHeap (Value.ref D) && Value.builtin "BaseException.__getattribute__" == Value.builtin "object.__getattribute__") = true) _ _) _ _ _
  rw [ne, if_neg Bool.false_ne_true]
  unfold getAttrByItsOwn hookBefore
  refine wpAny_bind ?_
  rw [if_pos (show onTheHeap (Value.ref D) = true from rfl)]
  refine (looks_findIn (M := model prog w) X c.hk).at (wpAny_bind (wpAny_attempt (wpAny_holding ?_)))
  unfold callGetattribute
  rw [show (false && onTheHeap (Value.builtin "BaseException.__getattribute__")) = false from rfl, if_neg Bool.false_ne_true]
  unfold boundAndCalled
  rw [PySem.F.excAttr_ValueError.ga.bind (.ref x)]
  refine wpAny_bind (wpAny_pure ?_)
  show wpAny _ _ (call (.builtin "BaseException.__getattribute__") [.ref x, .str "__class__" t]) _ _ _
  refine wpAny_call (codeAny_call_builtin PySem.F.excAttr_ValueError.ga.plain PySem.F.entry_bexc_ga ?_)
  refine @check_slot (model prog w) _ _ ⟨hp, g, d, t + 1, os⟩ "BaseException.__getattribute__" "BaseException" "__getattribute__" (.ref x) [.str "__class__" t] [] _ (by decide +kernel) (by decide +kernel) (T0.andThen (looks_subIn X c.hs)) (PySem.F.args_bexc_ga (.ref x) (.str "__class__" t)) ?_
  unfold Builtin.«object.__getattribute__»
  refine wpAny_bind (wpAny_of_eq (a := ((Value.ref x : Value), [Value.str "__class__" t])) (by first | rfl | (simp only [slotArgs]; rfl)) ?_)
  refine wpAny_bind (wpAny_pure (wpAny_bind (T0.at (wpAny_bind (T3.at ?_)))))
  show wpAny _ _ (holding [Value.builtin "object.__class__"] (call (.builtin "getset_descriptor.__get__") [.builtin "object.__class__", .ref x, .ref D]) >>= ret) _ _ _
  refine wpAny_bind (wpAny_holding (wpAny_call (class_get (s := ⟨hp, g, d, t + 1, os⟩) (ox := ox) (od := od) X I c.hm (wpAny_pure ?_))))
  show wpAny _ _ (handedOut (.ref D)) _ _ _
  rw [handedOut_of (v := .ref D) rfl]
  first
    | exact wpAny_pure (wpAny_pure h)
    | exact wpAny_pure h
    | exact wpAny_pure (wpAny_bind (wpAny_pure (wpAny_pure h)))
open PySem.W PySem.Spec PySem.Calls PyProof.Rows in
theorem kit_exc {K : Frag} {x D : Addr} {ox : Obj} {od : Option Obj} (c : L2.ExcC K D) : KitX K (.ref x) (.ref D) (fun h => InstAt h x ox D od) := by
  have q0 := handS_kitx_exc (K := K) (x := x) (D := D) (ox := ox) c.hg c.hk c.hs c.hd c.ha c.hn c.ht c.hm
  refine { ty := fun _ _ _ I => I.type, it := fun _ _ X _ => ?_, ne := q0.ne, ca := fun X I k => cls_exc c X I k }
  obtain ⟨cd, hc, _⟩ := any_some c.hd
  intro A' Q' E' s' k q
  unfold clsIn at hc
  split at hc
  · rename_i ho
    unfold isType loadHead
    exact wpAny_bind (wpAny_loadPart (k _ _ (X _ _ ho)) (wpAny_pure q))
  · cases hc

/-! ### in the suite: isinstance(e, ..), e.f -/
section
variable {X : Cx} {T : Tab} {a C Ce : Addr} {oe : Obj} {d : Option Addr} {pn : List (Addr × Obj)} {S S1 S2 : Sta} {e e2 : Expr} {pos p : Pos} {n : Nat} {fs : List D} {b : Bool} {fn : List Str} {x : Str}
theorem de_glob (hm : X.mg x = some (.ref C)) (hg : Gl X x := by rfl) (hd : (x == ("__debug__" : Str)) = false := by decide) : DE X T S (.Name x pos) (.dat (.cls C)) S := de_c (pe_glob (v := .ref C) hg hm rfl hd) fun _ _ _ => .cls
def rIsX (K : PySem.W.Frag) (Ce a : Addr) (d : Option Addr) : List V → Hp → VK → Prop := fun xs H Q => (d = none ∨ ∃ dd fs, d = some dd ∧ H dd = some (.xd fs)) ∧
  ((∃ C b, xs = [.ref a, .ref C] ∧ PySem.W.kitOne K (.ref Ce) (.ref C) = some b ∧ Q (.bl b) H) ∨ ∃ (tp : Addr) (cs : List Addr) (b : Bool), xs = [.ref a, .ref tp] ∧ SqT K H tp (cs.map V.ref) ∧ PySem.W.kitAny K (.ref Ce) (cs.map Value.ref) = some b ∧ Q (.bl b) H)
theorem refs_of : ∀ {cs : List Addr} {us : List Value}, Vals (cs.map V.ref) us → us = cs.map Value.ref
  | [], _, .nil => rfl
  | c :: cs, _, .cons r t => by
    rw [refs_of t]
    cases (show _ = Value.ref c from r)
    rfl
theorem call_isX (c : ExcC X.K Ce) (hz : Zc (.ref Ce) d oe) (hf : ∃ vs, oe.data = .fields vs) : CallR (X.suite a ((a, oe) :: pn)) (.builtin "isinstance") (rIsX X.K Ce a d) := by
  intro pins s σ H xs us Q I r h
  obtain ⟨hd, h⟩ := h
  obtain ⟨hget, _⟩ := I.pin (a, oe) (List.mem_append.mpr (.inl List.mem_cons_self))
  obtain ⟨vs, hv⟩ := hf
  have J : ∃ od, PySem.W.InstAt s.heap a oe Ce od := by
    rcases hd with rfl | ⟨dd, fs, rfl, e⟩
    · refine ⟨none, hget, hz.1, by unfold PySem.W.notCls; rw [hv] <;> rfl, ?_⟩
      rw [hz.2]
      trivial
    · obtain ⟨mA, hns, _⟩ : ObjOk X.prog X.w H s.heap dd (.xd fs) := I.hok dd _ e
      obtain ⟨od, ho, _⟩ := lookIn_ns hns
      exact ⟨some od, hget, hz.1, by unfold PySem.W.notCls; rw [hv] <;> rfl, by rw [hz.2]; exact ho⟩
  obtain ⟨od, J⟩ := J
  rcases h with ⟨C, b, rfl, e, q⟩ | ⟨tp, cs, b, rfl, ht, e, q⟩
  · obtain ⟨u1, u2, rfl, r1, r2⟩ := vals2 r
    cases (show u1 = Value.ref a from r1)
    cases (show u2 = Value.ref C from r2)
    exact PySem.W.kia_one (kit_exc c) I.kIn J e (fun z => nomatch z) fun tk => ⟨.bl b, H, I.tok tk, rfl, q⟩
  · obtain ⟨u1, u2, rfl, r1, r2⟩ := vals2 r
    cases (show u1 = Value.ref a from r1)
    cases (show u2 = Value.ref tp from r2)
    obtain ⟨its, rv, ⟨o, h1, h2, m, h3⟩, _⟩ := I.tuple ht
    have e3 := refs_of rv
    subst e3
    obtain ⟨oc, od', dt, sl⟩ := o
    simp only at h2 h3
    subst h2 h3
    exact PySem.W.kia_tup (kit_exc c) I.kIn J h1 e (fun z => nomatch z) fun tk => ⟨.bl b, H, I.tok tk, rfl, q⟩
/-- the error of the suite: its class, its dict -/
structure Err (X : Cx) (T : Tab) (n : Nat) (a : Addr) (d : Option Addr) (Ce : Addr) (oe : Obj) : Prop where
  ec : ExcC X.K Ce
  hz : Zc (.ref Ce) d oe
  hf : ∃ vs, oe.data = .fields vs
  ht : ∃ fn, T n = some (Ce, fn)
theorem xat_or {M : Addr → Prop} {H : Hp} {fn : List Str} {vs : List V} (h : XAt M H d fn vs) : d = none ∨ ∃ dd fs, d = some dd ∧ H dd = some (.xd fs) := by
  rcases h with ⟨_, _, h⟩ | ⟨dd, h1, _, h2, _⟩
  · exact .inl h
  · exact .inr ⟨dd, _, h1, h2⟩
theorem de_isiE (E : Err X T n a d Ce oe) (hi : X.mg "isinstance" = none) (he : DE (X.suite a ((a, oe) :: pn)) T S e (.dat (.err n a d fs)) S1) (hc : DE (X.suite a ((a, oe) :: pn)) T S1 e2 (.dat (.cls C)) S2) (hk : PySem.W.kitOne X.K (.ref Ce) (.ref C) = some b) (hg : Gl X "isinstance" := by rfl)
    (h1 : starEach [e, e2] X.env = (false, eval e X.env) :: starEach [e2] X.env := by rfl) (h2 : starEach [e2] X.env = (false, eval e2 X.env) :: starEach [] X.env := by rfl) (hpl : (backTo pos (starEach [e2] X.env)).any (·.1) = false := by rfl) :
    DE (X.suite a ((a, oe) :: pn)) T S (.Call (.Name "isinstance" p) [e, e2] [] pos) (.dat (.bl b)) S2 :=
  de_callB (X := X.suite a ((a, oe) :: pn)) (cs' := S2.cs) (call_isX E.ec E.hz E.hf) hi (by decide +kernel) (da_cons he (da_cons hc da_nil h2) h1) (fun ad F H vs Q c r q => by
    match vs, r with
    | [v, w], r =>
      obtain ⟨r1, r2, _⟩ := r
      cases r1 with
      | err ht hx _ =>
        cases r2
        exact ⟨xat_or hx, .inl ⟨C, b, rfl, hk, q _ H ad .refl c Rep.bl⟩⟩) hg (by decide) (by decide) h1 hpl
theorem cls_reps {K : PySem.W.Frag} {M : Addr → Prop} {H : Hp} : ∀ {cs : List Addr} {vs : List V}, Reps T K M H vs (cs.map D.cls) → vs = cs.map V.ref
  | [], _, .nil => rfl
  | c :: cs, _, .cons r t => by
    rw [cls_reps t]
    cases r
    rfl
theorem de_isiET {cs : List Addr} (E : Err X T n a d Ce oe) (hi : X.mg "isinstance" = none) (he : DE (X.suite a ((a, oe) :: pn)) T S e (.dat (.err n a d fs)) S1) (hc : DE (X.suite a ((a, oe) :: pn)) T S1 e2 (.dat (.tup (cs.map D.cls))) S2) (hk : PySem.W.kitAny X.K (.ref Ce) (cs.map Value.ref) = some b) (hg : Gl X "isinstance" := by rfl)
    (h1 : starEach [e, e2] X.env = (false, eval e X.env) :: starEach [e2] X.env := by rfl) (h2 : starEach [e2] X.env = (false, eval e2 X.env) :: starEach [] X.env := by rfl) (hpl : (backTo pos (starEach [e2] X.env)).any (·.1) = false := by rfl) :
    DE (X.suite a ((a, oe) :: pn)) T S (.Call (.Name "isinstance" p) [e, e2] [] pos) (.dat (.bl b)) S2 :=
  de_callB (X := X.suite a ((a, oe) :: pn)) (cs' := S2.cs) (call_isX E.ec E.hz E.hf) hi (by decide +kernel) (da_cons he (da_cons hc da_nil h2) h1) (fun ad F H vs Q c r q => by
    match vs, r with
    | [v, w], r =>
      obtain ⟨r1, r2, _⟩ := r
      cases r1 with
      | err ht hx _ =>
        cases r2 with
        | tup t1 t2 =>
          rw [cls_reps t2] at t1
          exact ⟨xat_or hx, .inr ⟨_, cs, b, rfl, t1.sq, hk, q _ H ad .refl c Rep.bl⟩⟩) hg (by decide) (by decide) h1 hpl
theorem de_xf {f : Str} {j : Nat} {v : D} (E : Err X T n a d Ce oe) (xc : XfC X.K Ce) (hno : PySem.W.findIn X.K (.ref Ce) f = some none) (hT : T n = some (Ce, fn)) (hf : fIdx fn f = some j) (he : DE (X.suite a ((a, oe) :: pn)) T S e (.dat (.err n a d fs)) S1) (hv : fs[j]? = some v) (hb : attributeBase e f X.env (eval e X.env) = eval e X.env := by rfl) :
    DE (X.suite a ((a, oe) :: pn)) T S (.Attribute e f pos) (.dat v) S1 :=
  weak (pe_xf xc hno E.hz E.hf he hb) fun σ H Q ⟨ad, F, h, q⟩ => ⟨ad, F, h, fun w H1 ad1 x1 h1 r1 => by
    cases r1 with
    | @err _ C' _ fn' _ vs _ ht hx r =>
      rw [hT] at ht
      cases ht
      rcases hx with ⟨z, _, _⟩ | ⟨dd, h2, _, h3, hl⟩
      · subst z
        cases hf
      · obtain ⟨u, hu, lk⟩ := fIdx_look (vs := vs) hf hl
        obtain ⟨u', hu', ru⟩ := r.get hv
        rw [hu] at hu'
        cases hu'
        exact ⟨rfl, rfl, dd, _, u, h2, h3, lk, q u H1 ad1 x1 h1 ru⟩⟩
end
end Dl

namespace Dl
open PySem L2

/-! ### raise C(e), C over ValueError with one attribute -/
/-- what __init__(self, v) does: the base's __init__, self.f = v -/
def spE1 (C : Addr) (f : Str) : Sp := fun vs H Q _ => ∃ (a : Addr) (v : V), vs = [.ref a, v] ∧ H a = some (exo a C none) ∧ ∀ dx, H dx = none → dx ≠ a → Q .non (upd (upd H dx (exd dx [(f, v)])) a (exo a C (some dx)))
theorem ds_raise1 {X : Cx} {T : Tab} {n m : Nat} {S S1 : Sta} {P : Post} {e : Expr} {x f g : Str} {C fI : Addr} {k : Nat} {fd : FuncData} {d : D} {p pos pos2 : Pos} (o : OexC X.K C) (iC : PySem.W.findIn X.K (.ref C) "__init__" = some (some (.ref fI))) (tI : PySem.W.typeIn X.K (.ref fI) = some (.type "function"))
    (F1 : FnOk X.prog X.w X.K X.mg X.base CX0 k fI fd ["self", g] (spE1 C f)) (hr : Room (k + 1) X.A) (hb : Binds X.K fd ["self", g] []) (hm : X.mg x = some (.ref C)) (hT : T m = some (C, [f])) (tk : Takes X P.W) (ha : DE X T S e (.dat d) S1) (h : P.ex ⟨m, [d]⟩ S1) (hc : X.calm = true := by rfl) (hg : Gl X x := by rfl)
    (hdb : (x == ("__debug__" : Str)) = false := by decide) (he : starEach [e] X.env = (false, eval e X.env) :: starEach [] X.env := by rfl) : DS X T n S (.Raise (some (.Call (.Name x p) [e] [] pos)) none pos2) P :=
  weakS (ps_raise hc tk (pmk_oex o iC tI F1 hr hb .nil pass0 hg hm (da_cons ha da_nil he) hdb he rfl)) fun D σ H ⟨ad, F, hn, h0, _, _, _, _, q5⟩ => ⟨ad, F, h0, fun vs H1 ad1 x1 h1 r1 => by
    match vs, r1 with
    | [v], r1 =>
      refine ⟨by show 1 ≤ 1000; decide, fun a na => ⟨a, v, rfl, upd_same, fun dx ndx ne => ⟨rfl, dx, [(f, v)], upd_same, ?_, ?_, ?_⟩⟩⟩
      · rw [upd_ne ne, upd_same]
      · rw [upd_ne ne] at ndx; exact ndx
      · have n1 : H1 dx = none := by rw [upd_ne ne] at ndx; exact ndx
        have eH : upd (del (upd (upd (upd H1 a (exo a C none)) dx (exd dx [(f, v)])) a (exo a C (some dx))) a) dx (.xd [(f, v)]) = upd H1 dx (.xd [(f, v)]) := by
          funext b
          by_cases hb : b = dx
          · rw [hb, upd_same, upd_same]
          · rw [upd_ne hb, upd_ne hb]
            by_cases hba : b = a
            · rw [hba, del_same, na]
            · rw [del_ne hba, upd_ne hba, upd_ne hb, upd_ne hba]
        rw [eH]
        obtain ⟨c3, x3⟩ := h1.hc.newo (o := .xd [(f, v)]) n1
        have hn1 := x1.le hn
        exact q5 ⟨m, [d]⟩ S1 (.ref C) (some dx) σ _ ad1 ((x1.trans h1.hc x3).s hn) hn1 (h1.to x3 c3) ⟨C, [f], hT, rfl, .inr ⟨dx, [v], rfl, h1.hc.new n1, upd_same, rfl, .cons (Rep.kp x3.kp r1.1) .nil⟩⟩ h⟩

/-! ### defs that may raise -/
abbrev CtX := List Sl → List Cell → Exc → List Cell → Prop
def spX (T : Tab) (K : PySem.W.Frag) (c : Ct) (cx : CtX) : Sp := fun vs H Q E => spC T K c vs H Q E ∨ ∃ ad F args cs x cs', HoldC T K ad F H cs ∧ SlReps T K ad F H vs args ∧ cx args cs x cs' ∧
  ∀ cls d H' ad', ExtS cs.length ad F H ad' H' → cs.length ≤ ad'.length → HoldC T K ad' F H' cs' → ExRep T K (Mm ad' F) H' cls d x → E cls d H'
/-- what is to be shown at the end of a def that raises -/
abbrev endX (n : Nat) (E : XK) (x : Exc) (cs' : List Cell) : Post := { nx := fun _ => False, rt := fun _ _ => False, ex := fun y S => y = x ∧ S.cs.take n = cs', W := fun cls d _ H => E cls d H }
abbrev cxX (P : Program) (w : World) (K : PySem.W.Frag) (mg : Str → Option Value) (base : Heap) (N : List Str) (qual : Str) (st : Stmt) (f : Addr) (cdv : Value) (A : Around) (outer : List Env) (s : Shared) (H : Hp) (E : XK) : Cx := cxOf (L2.CX P w) P w K mg base N qual (defScope st) f cdv A outer s H E
section
variable {T : Tab} {P : Program} {w : World} {K : PySem.W.Frag} {mg : Str → Option Value} {base : Heap}
theorem fn_okX {x qual : Str} {st : Stmt} {f : Addr} {fd : FuncData} {N ps : List Str} {k : Nat} {c : Ct} {cx : CtX} (F : Fun K x qual st f fd) (Sc : FnScope N ps (defScope st)) (len : ∀ args cs s cs', c args cs s cs' → args.length = ps.length) (lenX : ∀ args cs x cs', cx args cs x cs' → args.length = ps.length)
    (body : ∀ cdv A outer sh H E, Room k (cxX P w K mg base N qual st f cdv A outer sh H E).nox.A → ∀ args cs s cs', c args cs s cs' →
      DSs (cxX P w K mg base N qual st f cdv A outer sh H E).nox T cs.length (st0 N args cs) (defBody st) (endOf cs.length s cs'))
    (bodyX : ∀ cdv A outer sh H E, Room k (cxX P w K mg base N qual st f cdv A outer sh H E).A → Takes (cxX P w K mg base N qual st f cdv A outer sh H E) (fun cls d _ H => E cls d H) → ∀ args cs x cs', cx args cs x cs' →
      DSs (cxX P w K mg base N qual st f cdv A outer sh H E) T cs.length (st0 N args cs) (defBody st) (endX cs.length E x cs')) : FnOk P w K mg base (L2.CX P w) (k + 1) f fd ps (spX T K c cx) := by
  refine F.okX Sc (fun vs H Q E h => ?_) (fun cdv A outer s H vs Q E hr h => ?_)
  · rcases h with ⟨ad, F', args, cs, s, cs', _, r, hc, _⟩ | ⟨ad, F', args, cs, s, cs', _, r, hc, _⟩
    · rw [r.len, len _ _ _ _ hc]
    · rw [r.len, lenX _ _ _ _ hc]
  · rcases h with ⟨ad, F', args, cs, s0, cs', hc, r, h, q⟩ | ⟨ad, F', args, cs, x0, cs', hc, r, h, q⟩
    · refine ⟨_, PSs.nox (body cdv A outer s H E hr args cs s0 cs' h), ad, F', Nat.le_of_eq hc.ln.symm, start_hold hc r, ?_, ?_, fun _ _ _ _ _ _ _ z => z.elim, fun _ _ _ _ _ _ _ z => z.elim, fun _ _ _ _ _ _ _ _ _ _ _ z => z.elim⟩
      · rintro S' σ' H' ad' x hn h' ⟨rfl, e⟩
        subst e
        refine q .non H' (ad'.take cs.length) ⟨by rw [List.take_take, Nat.min_self]; exact x.pre, fun a ha => x.sub a (List.mem_of_mem_take ha), x.keep, x.frm⟩ (by rw [List.length_take]; omega) (h'.hc.take _) Rep.non
      · rintro s2 cs2 v H' ad' x hn c2 r2 ⟨rfl, rfl⟩
        exact q v H' ad' x hn c2 r2
    · have tk : Takes (cxX P w K mg base N qual st f cdv A outer s H E) (fun cls d _ H => E cls d H) := takes_of rfl rfl rfl rfl
      refine ⟨_, bodyX cdv A outer s H E hr tk args cs x0 cs' h, ad, F', Nat.le_of_eq hc.ln.symm, start_hold hc r, fun _ _ _ _ _ _ _ z => z.elim, fun _ _ _ _ _ _ _ _ _ z => z.elim, fun _ _ _ _ _ _ _ z => z.elim, fun _ _ _ _ _ _ _ z => z.elim, ?_⟩
      rintro y S' cls d σ' H' ad' x hn h' er ⟨rfl, e⟩
      subst e
      have kp : Kp (Mm ad' F') H' (Mm (ad'.take cs.length) F') H' := fun a o e z => ⟨e, fun y => z (y.imp List.mem_of_mem_take id)⟩
      refine q cls d H' (ad'.take cs.length) ⟨by rw [List.take_take, Nat.min_self]; exact x.pre, fun a ha => x.sub a (List.mem_of_mem_take ha), x.keep, x.frm⟩ (by rw [List.length_take]; omega) (h'.hc.take _) ?_
      obtain ⟨C, fn, e1, e2, er⟩ := er
      refine ⟨C, fn, e1, e2, er.imp id ?_⟩
      rintro ⟨dd, vs', a1, a2, a3, a4, a5⟩
      exact ⟨dd, vs', a1, (kp _ _ a3 a2).2, a3, a4, a5.kp kp⟩
end
end Dl

namespace Dl
open PySem L2

/-! ### a def that may raise, where it does not -/
theorem calm_of {T : Tab} {P : Program} {w : World} {K : PySem.W.Frag} {mg : Str → Option Value} {base : Heap} {f : Addr} {fd : FuncData} {ps : List Str} {k : Nat} {c : Ct} {cx : CtX} (F : FnOk P w K mg base (L2.CX P w) k f fd ps (spX T K c cx)) : FnOk P w K mg base CX0 k f fd ps (spC T K c) :=
  ⟨fun vs H Q E h => F.len vs H Q E (.inl h), fun A outer s H args us vs Q E hr he hb hv hs => codeAny_mono (F.run A outer s H args us vs Q (fun _ _ _ => False) hr he hb hv (.inl hs)) fun r s' q => by
    cases r with
    | error e =>
      obtain ⟨_, _, _, _, _, _, _, _, _, _, _, _, z⟩ := q
      exact z.elim
    | ok fl =>
      cases fl with
      | ret u => exact q
      | next => exact q
      | brk => exact q
      | cont => exact q⟩

/-! ### expressions that raise -/
def tDX (T : Tab) (K : PySem.W.Frag) (W : WX) (S : Sta) (x : Exc) (S' : Sta) : TE := fun σ H _ => ∃ ad F, Hold T K S ad F σ H ∧ ∀ cls d H' ad', Ext ad F H ad' H' → Hold T K S' ad' F σ H' → ExRep T K (Mm ad' F) H' cls d x → W cls d σ H'
def tDAX (T : Tab) (K : PySem.W.Frag) (W : WX) (S : Sta) (x : Exc) (S' : Sta) : TA := fun σ H _ => ∃ ad F, Hold T K S ad F σ H ∧ ∀ cls d H' ad', Ext ad F H ad' H' → Hold T K S' ad' F σ H' → ExRep T K (Mm ad' F) H' cls d x → W cls d σ H'
def DX (X : Cx) (T : Tab) (W : WX) (S : Sta) (e : Expr) (x : Exc) (S' : Sta) : Prop := PE X e (tDX T X.K W S x S')
def DAX (X : Cx) (T : Tab) (W : WX) (S : Sta) (es : List Expr) (x : Exc) (S' : Sta) : Prop := PA X es (tDAX T X.K W S x S')
theorem noA {X : Cx} {es : List Expr} : PA X es (fun _ _ _ => False) := ⟨fun _ _ _ _ _ _ _ z => z.elim⟩
section
variable {X : Cx} {T : Tab} {W : WX} {S S1 S2 : Sta} {e e2 o : Expr} {es : List Expr} {x : Exc} {s : Sl} {pos p apos : Pos} {n : Nat} {P : Post}
/-- the head raises -/
theorem dax_h (h : DX X T W S e x S1) (hs : starEach (e :: es) X.env = (false, eval e X.env) :: starEach es X.env := by rfl) : DAX X T W S (e :: es) x S1 := weakA (pa_cons h noA hs) fun σ H Q z => z
/-- a later one -/
theorem dax_t (h : DE X T S e s S1) (ht : DAX X T W S1 es x S2) (hs : starEach (e :: es) X.env = (false, eval e X.env) :: starEach es X.env := by rfl) : DAX X T W S (e :: es) x S2 :=
  weakA (pa_cons h ht hs) fun σ H Q ⟨ad, F, h0, q⟩ => ⟨ad, F, h0, fun v H1 ad1 x1 h1 r1 => ⟨ad1, F, h1, fun cls d H2 ad2 x2 h2 er => q cls d H2 ad2 (x1.trans h1.hc x2) h2 er⟩⟩
theorem dx_tup {x1 : Nat} (h : DAX X T W S es x S1) : DX X T W S (.Tuple es x1 pos) x S1 := weak (pe_tup h) fun σ H Q z => z
/-- f(..), an argument raises -/
theorem dx_callA {k : Nat} {f : Addr} {fd : FuncData} {ps : List Str} {c : Ct} {y : Str} (G : FnOk X.prog X.w X.K X.mg X.base CX0 k f fd ps (spC T X.K c)) (hr : Room k X.A) (hm : X.mg y = some (.ref f)) (hk : PySem.W.keepIn X.K (.ref f) = true) (hb : Binds X.K fd ps []) (ha : DAX X T W S (e :: es) x S1) (hg : Gl X y := by rfl) (hdb : (y == ("__debug__" : Str)) = false := by decide)
    (he : starEach (e :: es) X.env = (false, eval e X.env) :: starEach es X.env := by rfl) (hpl : (backTo pos (starEach es X.env)).any (·.1) = false := by rfl) : DX X T W S (.Call (.Name y p) (e :: es) [] pos) x S1 :=
  weak (pe_call G hr hg hm hk hb .nil pass0 ha hdb he hpl) fun σ H Q z => z
/-- f(..) raises -/
theorem spX_at {K : PySem.W.Frag} {ad : List Addr} {F : Addr → Prop} {H : Hp} {cs : List Cell} {vs : List V} {Q : VK} {E : XK} {c : Ct} {cx : CtX} {ds : List D} (hx : cx (ds.map Sl.dat) [] x []) (h : HoldC T K ad F H cs) (r : SlReps T K ad F H vs (ds.map Sl.dat))
    (q : ∀ cls d H' , Ext ad F H ad H' → HoldC T K ad F H' cs → ExRep T K (Mm ad F) H' cls d x → E cls d H') : spX T K c cx vs H Q E := by
  refine .inr ⟨[], Mm ad F, ds.map Sl.dat, [], x, [], frame0 h, SlReps.kp (M := Mm ad F) (kp_in h) r, hx, fun cls d H' ad' x2 _ c2 er => ?_⟩
  obtain ⟨c3, x3⟩ := back0 h c2.tb x2
  refine q cls d H' x3 c3 ?_
  obtain ⟨C, fn, e1, e2, er⟩ := er
  refine ⟨C, fn, e1, e2, er.imp id ?_⟩
  rintro ⟨dd, vs', a1, a2, a3, a4, a5⟩
  exact ⟨dd, vs', a1, fun z => a2 (.inr z), a3, a4, a5.kp kp_out⟩
theorem dx_call {k : Nat} {f : Addr} {fd : FuncData} {ps : List Str} {c : Ct} {cx : CtX} {y : Str} {ds : List D} (G : FnOk X.prog X.w X.K X.mg X.base (L2.CX X.prog X.w) k f fd ps (spX T X.K c cx)) (hr : Room k X.A) (hm : X.mg y = some (.ref f)) (hk : PySem.W.keepIn X.K (.ref f) = true) (hb : Binds X.K fd ps []) (tk : Takes X W) (ha : DA X T S (e :: es) (ds.map Sl.dat) S1) (hx : cx (ds.map Sl.dat) [] x [])
    (hg : Gl X y := by rfl) (hdb : (y == ("__debug__" : Str)) = false := by decide) (he : starEach (e :: es) X.env = (false, eval e X.env) :: starEach es X.env := by rfl) (hpl : (backTo pos (starEach es X.env)).any (·.1) = false := by rfl) : DX X T W S (.Call (.Name y p) (e :: es) [] pos) x S1 :=
  weak (pe_callS (E := WE W) G hr hg hm hk hb (passAt tk) ha hdb he hpl) fun σ H Q ⟨ad, F, h0, q⟩ => ⟨ad, F, h0, fun vs H1 ad1 x1 h1 r1 => spX_at hx h1.hc r1 fun cls d H' x2 c2 er => q cls d H' ad1 (x1.trans h1.hc x2) (h1.to x2 c2) er⟩
/-- o.m(..) raises -/
def tMethS (C : Addr) (m : Str) (sp : Sp) (E : St → XK) (ta : TE) (t : TA) : TE := fun σ H Q => ta σ H fun x H1 => ∃ a dx fs, x = .ref a ∧ H1 a = some (.ins C dx fs) ∧ fs.lookup m = none ∧ t σ H1 fun vs H2 => sp (x :: vs) H2 Q (E σ)
theorem pe_methS {CX : CXT} {C f : Addr} {m : Str} {k : Nat} {fd : FuncData} {ps : List Str} {sp : Sp} {E : St → XK} {ta : TE} {t : TA} {pl : Sem Bool} (he : PE X o ta) (c : Cls X.K C) (hm : Meth X.K C m f) (F : FnOk X.prog X.w X.K X.mg X.base CX k f fd ps sp) (hr : Room k X.A) (hb : Binds X.K fd ps []) (hx : ∀ σ, PassesAt CX X σ (E σ)) (ha : PA X (e :: es) t)
    (h1 : starEach (e :: es) X.env = (false, eval e X.env) :: starEach es X.env) (h2 : (backTo pos (starEach es X.env)).any (·.1) = false)
    (h3 : eval (.Call (.Attribute o m apos) (e :: es) [] pos) X.env = (eval o X.env >>= fun ov => standAt apos.atName >>= fun _ => holding [ov] (getMethod ov m pl) >>= fun fb => callWith pos fb.1 fb.2 (backTo pos (starEach (e :: es) X.env)) (backToKw pos (keywordEach [] X.env)))) :
    PE X (.Call (.Attribute o m apos) (e :: es) [] pos) (tMethS C m sp E ta t) := by
  constructor
  intro pins s σ H Q I h
  refine PySem.W.methodCall_KW (pl := pl) (thn (he.run pins s σ H _ I h) fun u s1 z => ?_) h3
  obtain ⟨x, H1, I1, rx, a, dx, fs, ex, ea, l, q⟩ := z
  subst ex
  cases (show u = Value.ref a from rx)
  refine getmeth_ok I1 ea c hm l (PySem.W.callWith_K (first := [.ref a]) (h₀ := X.base) I.ok.mod.kin hm.kp (thn (ha.run pos pins s1 σ H1 _ I1 q) fun us s2 z => ?_) h1 h2)
  obtain ⟨vs, H2, I2, r, q2⟩ := z
  exact ⟨I2.kIn, run_fnS (us := .ref a :: us) (vs := .ref a :: vs) F hr hb (hx σ) I2 (.cons rfl r) q2⟩
theorem dx_meth {C f : Addr} {m : Str} {k cn : Nat} {fd : FuncData} {ps : List Str} {c : Ct} {cx : CtX} {fn : List Str} {ds vs : List D} {pl : Sem Bool} (hT : T cn = some (C, fn)) (hc : Cls X.K C) (hm : Meth X.K C m f) (hf : fIdx fn m = none) (G : FnOk X.prog X.w X.K X.mg X.base (L2.CX X.prog X.w) k f fd ps (spX T X.K c cx)) (hr : Room k X.A) (hb : Binds X.K fd ps []) (tk : Takes X W)
    (he : DE X T S o (.dat (.obj cn ds)) S1) (ha : DA X T S1 (e :: es) (vs.map Sl.dat) S2) (hx : cx ((D.obj cn ds :: vs).map Sl.dat) [] x [])
    (h1 : starEach (e :: es) X.env = (false, eval e X.env) :: starEach es X.env := by rfl) (h2 : (backTo pos (starEach es X.env)).any (·.1) = false := by rfl)
    (h3 : eval (.Call (.Attribute o m apos) (e :: es) [] pos) X.env = (eval o X.env >>= fun ov => standAt apos.atName >>= fun _ => holding [ov] (getMethod ov m pl) >>= fun fb => callWith pos fb.1 fb.2 (backTo pos (starEach (e :: es) X.env)) (backToKw pos (keywordEach [] X.env))) := by rfl) :
    DX X T W S (.Call (.Attribute o m apos) (e :: es) [] pos) x S2 :=
  weak (pe_methS (pl := pl) (E := WE W) he hc hm G hr hb (passAt tk) ha h1 h2 h3) fun σ H Q ⟨ad, F, h0, q⟩ => ⟨ad, F, h0, fun v H1 ad1 x1 h1 r1 => by
    have r0 := r1
    cases r1 with
    | @obj a C' dx _ fn' vs' _ ht na e1 hl r =>
      rw [hT] at ht
      cases ht
      refine ⟨a, dx, _, rfl, e1, fIdx_none hf, ad1, F, h1, fun ws H2 ad2 x2 h2 r2 => ?_⟩
      exact spX_at (ds := .obj cn ds :: vs) hx h2.hc ⟨SlRep.ext (s := .dat (.obj cn ds)) x2 r0, r2⟩ fun cls d H' x3 c3 er => q cls d H' ad2 (x1.trans h1.hc (x2.trans h2.hc x3)) (h2.to x3 c3) er⟩
/-! statements -/
theorem ds_asgX (i : Nat) {y : Str} {p' : Pos} (hN : X.N.Nodup) (he : DX X T P.W S e x S1) (h : P.ex x S1) (hi : X.N[i]? = some y := by rfl) (hx : Loc X.env.scope y := by first | exact Or.inl rfl | exact Or.inr rfl) (hf : X.fn y = true ∨ X.env.scope.names.lookup y = some .local := by first | exact .inl rfl | exact .inr rfl)
    (hs : swapsWithSole [.Name y p'] e pos.line X.env = pure false := by rfl) (hw : swappedStores [.Name y p'] e X.env = pure none := by rfl) (h1 : (assignEach [.Name y p'] X.env).map (·.2) = [assign (.Name y p') X.env] := by rfl) : DS X T n S (.Assign [.Name y p'] e pos) P :=
  weakS (ps_asg he (pg_name hN hi hx hf) hs hw h1) fun D σ H ⟨ad, F, hn, h0, _, _, _, _, q5⟩ => ⟨ad, F, h0, fun cls d H' ad' x1 h1 er => q5 x S1 cls d σ H' ad' (x1.s hn) (x1.le hn) h1 er h⟩
theorem ds_retX (he : DX X T P.W S e x S1) (h : P.ex x S1) : DS X T n S (.Return (some e) pos) P :=
  weakS (ps_ret he) fun D σ H ⟨ad, F, hn, h0, _, _, _, _, q5⟩ => ⟨ad, F, h0, fun cls d H' ad' x1 h1 er => q5 x S1 cls d σ H' ad' (x1.s hn) (x1.le hn) h1 er h⟩
theorem ds_exprX (he : DX X T P.W S e x S1) (h : P.ex x S1) (hs : swapsWith e none pos.line X.env = pure false := by rfl) : DS X T n S (.Expr e pos) P :=
  weakS (ps_expr he hs) fun D σ H ⟨ad, F, hn, h0, _, _, _, _, q5⟩ => ⟨ad, F, h0, fun cls d H' ad' x1 h1 er => q5 x S1 cls d σ H' ad' (x1.s hn) (x1.le hn) h1 er h⟩
end
end Dl

namespace Dl
open PySem L2
/-! ### try -/
section
variable {X : Cx} {T : Tab} {n : Nat} {S S1 : Sta} {P : Post} {body suite orelse : List Stmt} {b0 h0' : Stmt} {hs' : List ExceptHandler} {pos pos' np : Pos}
theorem Hold.unset {K : PySem.W.Frag} {ad : List Addr} {F : Addr → Prop} {σ : St} {H : Hp} (h : Hold T K S ad F σ H) (i : Nat) : Hold T K ⟨S.sl.set i none, S.cs⟩ ad F (σ.set i none) H := by
  refine ⟨h.hc, by simp [h.sz], fun j u e => ?_⟩
  have e : (S.sl.set i none)[j]? = some (some u) := e
  by_cases hj : i = j
  · subst hj
    rw [List.getElem?_set] at e
    split at e
    · split at e <;> cases e
    · exact absurd rfl ‹_›
  · rw [List.getElem?_set_ne hj] at e
    obtain ⟨v, hv, r⟩ := h.sl j u e
    exact ⟨v, by rw [List.getElem?_set_ne hj]; exact hv, r⟩
/-- nothing is raised -/
theorem ds_try0 {hd : ExceptHandler} (hb : DSs X.nox T n S body P) (hx : ∀ x S, ¬ P.ex x S) : DS X T n S (.Try body (hd :: hs') [] [] pos) P :=
  weakS (ps_try_thru0 hb) fun D σ H z => z
/-- what is raised is caught: except x as y -/
theorem ds_tryX {x y : Str} {c : Value} {i m : Nat} {Ce : Addr} {fn : List Str} {fs : List D} (hN : X.N.Nodup) (hc : Names X x c) (hT : T m = some (Ce, fn)) (hm : PySem.W.exmOne X.K (.ref Ce) c = some true)
    (hb : ∀ (W : WX) (pn : List (Addr × Obj)) (xe : Value → Shared → Prop), Takes (X.tr pn xe) W → DSs (X.tr pn xe) T n S body { nx := fun _ => False, rt := fun _ _ => False, ex := fun e S' => e = ⟨m, fs⟩ ∧ S' = S1, W := W })
    (hsu : ∀ (a : Addr) (oe : Obj) (d : Option Addr) (pn : List (Addr × Obj)), Zc (.ref Ce) d oe → (∃ vs, oe.data = .fields vs) →
      DSs (X.suite a ((a, oe) :: pn)) T n ⟨S1.sl.set i (some (.dat (.err m a d fs))), S1.cs⟩ (b0 :: suite) { nx := fun S' => P.nx ⟨S'.sl.set i none, S'.cs⟩, rt := P.rt, bk := fun S' => P.bk ⟨S'.sl.set i none, S'.cs⟩, ct := fun S' => P.ct ⟨S'.sl.set i none, S'.cs⟩ })
    (hs : X.stack = X.env :: X.outer := by rfl) (hf : X.env.frame = some X.env.locals := by rfl) (hi : X.N[i]? = some y := by rfl) (hln : X.env.kindOf y = some .local := by rfl) :
    DS X T n S (.Try body [.ExceptHandler (some (.Name x np)) (some y) (b0 :: suite) pos'] [] [] pos) P := by
  have tk : Takes X (fun _ _ _ _ => False) := fun u s' z => by
    obtain ⟨_, _, _, _, _, _, _, _, _, _, _, _, _, _, _, _, w⟩ := z
    exact w.elim
  let ts : Addr → Value → Option Addr → TS := fun a cls d D σ H => cls = .ref Ce ∧ tDS T X.K n ⟨S1.sl.set i (some (.dat (.err m a d fs))), S1.cs⟩ { nx := fun S' => P.nx ⟨S'.sl.set i none, S'.cs⟩, rt := P.rt, bk := fun S' => P.bk ⟨S'.sl.set i none, S'.cs⟩, ct := fun S' => P.ct ⟨S'.sl.set i none, S'.cs⟩ } D σ H
  have hsu' : ∀ (a : Addr) (oe : Obj) (cls : Value) (d : Option Addr) (pn : List (Addr × Obj)), Zc cls d oe → (∃ vs, oe.data = .fields vs) → PSs (X.suite a ((a, oe) :: pn)) (b0 :: suite) (ts a cls d) := fun a oe cls d pn hz hv => ⟨fun pins s σ H D I z => by
    obtain ⟨rfl, z⟩ := z
    exact (hsu a oe d pn hz hv).run pins s σ H D I z⟩
  refine weakS (ps_try_as (ts := ts) (tb := fun W => tDS T X.K n S { nx := fun _ => False, rt := fun _ _ => False, ex := fun e S' => e = ⟨m, fs⟩ ∧ S' = S1, W := W }) hs hf hN hi hln hc tk (fun W pn xe t _ => hb W pn xe t) hsu') fun D σ H ⟨ad, F, hn, h0, q1, q2, q3, q4, q5⟩ => ?_
  refine ⟨ad, F, hn, h0, fun _ _ _ _ _ _ _ z => z.elim, fun _ _ _ _ _ _ _ _ _ z => z.elim, fun _ _ _ _ _ _ _ z => z.elim, fun _ _ _ _ _ _ _ z => z.elim, ?_⟩
  rintro e0 S2 cls d σ' H' ad' x' hn' h' er ⟨rfl, rfl⟩
  obtain ⟨C, fn', e1, e2, er⟩ := er
  have e1 : T m = some (C, fn') := e1
  rw [hT] at e1
  cases e1
  refine ⟨true, by rw [e2]; exact hm, fun _ a na => ⟨e2, ?_⟩, fun z => nomatch z⟩
  have rp : Rep T X.K (Mm ad' F) H' (.ref a) (.err m a d fs) := by
    rcases er with ⟨f1, f2, f3⟩ | ⟨dd, vs, a1, a2, a3, a4, a5⟩
    · have f2 : fs = [] := f2
      subst f1 f2 f3
      exact .err (vs := []) hT (.inl ⟨rfl, rfl, rfl⟩) .nil
    · exact .err hT (.inr ⟨dd, a1, a2, a3, a4⟩) a5
  have hh := h'.set (s := .dat (.err m a d fs)) rp i
  refine ⟨ad', F, hn', hh, ?_, ?_, ?_, ?_, fun _ _ _ _ _ _ _ _ _ _ _ z => z.elim⟩
  · exact fun S3 σ3 H3 ad3 x3 hn3 h3 p => q1 _ _ H3 ad3 (x'.trans x3) hn3 (h3.unset i) p
  · exact fun s cs3 v H3 ad3 x3 hn3 c3 r3 p => q2 s cs3 v H3 ad3 (x'.trans x3) hn3 c3 r3 p
  · exact fun S3 σ3 H3 ad3 x3 hn3 h3 p => q3 _ _ H3 ad3 (x'.trans x3) hn3 (h3.unset i) p
  · exact fun S3 σ3 H3 ad3 x3 hn3 h3 p => q4 _ _ H3 ad3 (x'.trans x3) hn3 (h3.unset i) p
end
end Dl

namespace Dl
open PySem L2
/-! ### abs(x), x of an own class -/
section
variable {X : Cx} {T : Tab} {C g : Addr} {fd : FuncData} {ps : List Str} {k cn : Nat} {c : Ct} {fn : List Str} {ds : List D} {d : D} {cs : List Cell}
/-- the callee runs one unit deeper -/
theorem run_in1 {pins : List (Addr × Obj)} {σ : St} {H : Hp} {s : Shared} {Q : VK} {us : List Value} {vs : List V} {sp : Sp} (F : FnOk X.prog X.w X.K X.mg X.base CX0 k g fd ps sp) (hr : Room (k + 1) X.A) (hb : Binds X.K fd ps [])
    (I : Inv X pins σ H s) (r : Vals vs us) (h : sp vs H Q E0) : wpAny (model X.prog X.w) X.A.in1 (call (.ref g) us) (EP X pins σ Q) X.xe s := by
  have hl : us.length = ps.length := by rw [← r.length]; exact F.len _ _ _ _ h
  have b := hb s us I.kIn (by rw [List.append_nil]; exact hl)
  rw [List.append_nil] at b
  have e := I.env0
  refine wpAny_call (codeAny_mono (F.run X.A.in1 X.stack s H ⟨us, []⟩ us vs Q E0 hr.in1 ⟨e.frames, e.mod, e.bs, e.bsz, e.funs, e.frf, e.hok, e.bare⟩ b r h) fun r s' hq => ?_)
  cases r with
  | error e => exact False.elim hq
  | ok fl =>
    cases fl with
    | ret u => exact I.after hq
    | next => exact False.elim hq
    | brk => exact False.elim hq
    | cont => exact False.elim hq
open PySem.Calls PySem.W in
theorem call_absO {sp : Sp} (G : FnOk X.prog X.w X.K X.mg X.base CX0 k g fd ps sp) (hr : Room (k + 1) X.A) (hb : Binds X.K fd ps []) (hs : findIn X.K (.ref C) "__abs__" = some (some (.ref g))) (hf : isFn X.K (.ref g) = true) :
    CallR X (.builtin "abs") (fun xs H Q => ∃ a dx fs, xs = [.ref a] ∧ H a = some (.ins C dx fs) ∧ sp [.ref a] H Q E0) := by
  intro pins s σ H xs us Q I r h
  obtain ⟨a, dx, fs, rfl, ea, hsp⟩ := h
  obtain ⟨u, rfl, ru⟩ := vals1 r
  cases (show u = Value.ref a from ru)
  obtain ⟨od, J⟩ := inst_get I ea
  refine call_function_entry PyProof.Rows.kind_abs PyProof.Rows.plain_abs PyProof.Rows.entry_abs (PyProof.Rows.args_abs _) ?_
  unfold Builtin.«abs»
  refine wpAny_bind (m := oneArg "abs" _) (wpAny_pure ?_)
  refine wpAny_bind (special_fn I.kIn J hs (beq_iff_eq.mp hf) (wpAny_mono (run_in1 (us := [.ref a]) (vs := [.ref a]) G hr hb I (.cons rfl .nil) hsp) (fun v s' z => ?_) fun _ _ z => z))
  exact wpAny_pure ⟨v, rfl, z⟩
theorem cb_absO (hT : T cn = some (C, fn)) (G : FnOk X.prog X.w X.K X.mg X.base CX0 k g fd ps (spC T X.K c)) (hr : Room (k + 1) X.A) (hb : Binds X.K fd ps []) (hs : PySem.W.findIn X.K (.ref C) "__abs__" = some (some (.ref g))) (hf : PySem.W.isFn X.K (.ref g) = true) (hq : c [.dat (.obj cn ds)] [] (.dat d) []) :
    CalB X T "abs" [.dat (.obj cn ds)] cs (.dat d) cs := ⟨_, _, by decide +kernel, .inl ⟨_, rfl⟩, call_absO G hr hb hs hf, fun ad F H vs Q cc r q => by
  match vs, r with
  | [v], r =>
    have r1 := r.1
    cases r1 with
    | @obj a C' dx _ fn' vs' _ ht na e1 hl r2 =>
      rw [hT] at ht
      cases ht
      exact ⟨a, dx, _, rfl, e1, spC0 (ds := [.obj cn ds]) hq cc ⟨r.1, trivial⟩ fun v H' x2 c2 r2 => q v H' ad x2 c2 r2⟩⟩
end
end Dl

namespace Dl
open PySem L2
/-! ### text * n, int(text) -/
section
variable {X : Cx} {T : Tab} {cs : List Cell}
def repS (x : Str) (n : Int) : Str := if n < 1 then Str.empty else if (n == 1 || x.length == 0) = true then x else ⟨(List.replicate n.toNat x.cps).foldl (· ++ ·) #[]⟩
theorem op_mulS : OpR X (binaryOp .Mult) (fun x y H Q => ∃ (z : Str) (n : Int), x = .str z ∧ y = .int n ∧ z.length ≤ 1000 ∧ (-1000 ≤ n ∧ n ≤ 1000) ∧ (repS z n).length ≤ sizeLine ∧ Q (.str (repS z n)) H) := by
  intro pins s σ H x y v u Q I rx ry h
  obtain ⟨z, n, rfl, rfl, hz, ⟨h1, h2⟩, hl, q⟩ := h
  obtain ⟨t, rfl⟩ := rx
  obtain ⟨t2, rfl⟩ := ry
  refine PySem.P.mul_str ?_ (fun a _ => ?_) (fun a _ => ?_) ?_
  · rw [decide_eq_false (by omega), decide_eq_false (by omega)]; rfl
  · have e : (z.length : Int) * n ≤ 1000 * 1000 := Int.mul_le_mul (by omega) h2 (by omega) (by decide)
    have e2 : (z.length : Int) ≤ (2 ^ 63 - 1) / n := (Int.le_ediv_iff_mul_le (by omega)).mpr (by omega)
    omega
  · have e : z.length * n.toNat ≤ 1000 * 1000 := Nat.mul_le_mul hz (by omega)
    have e3 : sizeLine = 16777216 := sizeLine_eq
    exact decide_eq_false (by omega)
  · unfold repS at q hl
    split
    · rename_i h
      rw [if_pos h] at q hl
      exact ⟨hl, .str _, H, I.tok _, ⟨_, rfl⟩, q⟩
    · rename_i h
      rw [if_neg h] at q hl
      split
      · rename_i h'
        rw [if_pos h'] at q hl
        exact ⟨.str _, H, I, ⟨_, rfl⟩, q⟩
      · rename_i h'
        rw [if_neg h'] at q hl
        exact ⟨hl, .str _, H, I.tok _, ⟨_, rfl⟩, q⟩
theorem bin_mulS {x : Str} {n : Int} (h1 : x.length ≤ 1000) (h2 : -1000 ≤ n ∧ n ≤ 1000) (hl : (repS x n).length ≤ sizeLine) : BinD X T .Mult (.dat (.str x)) (.dat (.int n)) cs (.dat (.str (repS x n))) cs := ⟨_, op_mulS, fun ad F H v w Q c r1 r2 q => by
  cases r1
  cases r2
  exact ⟨x, n, rfl, rfl, h1, h2, hl, q _ H ad .refl c Rep.str⟩⟩
theorem cb_intS {x : Str} {n : Int} (h : PySem.intText? x = some n) (hl : x.length ≤ 640) : CalB X T "int" [.dat (.str x)] cs (.dat (.int n)) cs := ⟨_, _, by decide +kernel, .inr ⟨_, rfl⟩, call_int_str, fun ad F H vs Q c r q => by
  match vs, r with
  | [v], r =>
    have r1 := r.1
    cases r1
    exact ⟨x, n, rfl, h, hl, q _ H ad .refl c Rep.int⟩⟩
end
end Dl

/-! J: readings of syntax by data. An expression has a reading w: from slots and cells, what must hold so that R holds of its value and the cells behind it, or RX of what it raises. -/
namespace Dl
open PySem L2
abbrev Sls := List (Option Sl)
abbrev RV := Sl → List Cell → Prop
abbrev RB := Bool → List Cell → Prop
abbrev RA := List Sl → List Cell → Prop
abbrev RX := Exc → List Cell → Prop
abbrev WpE := Sls → List Cell → RV → RX → Prop
abbrev WpT := Sls → List Cell → RB → RX → Prop
abbrev WpA := Sls → List Cell → RA → RX → Prop
abbrev WpS := Sta → Post → Prop
/-- a branch -/
structure Br (b : Bool) (p q : Prop) : Prop where
  t : b = true → p
  f : b = false → q
def noX : RX := fun _ _ => False
def W0 : WX := fun _ _ _ _ => False
theorem tk0 {X : Cx} : Takes X W0 := fun u s' ⟨_, _, _, _, _, _, _, _, _, _, _, _, _, _, _, _, w⟩ => w.elim
/-- what is done with what comes of it -/
def Raz (T : Tab) (K : PySem.W.Frag) (W : WX) (σ : St) (ad : List Addr) (F : Addr → Prop) (H : Hp) (sl : Sls) (Rx : RX) : Prop := ∀ x c cls d H' ad', Rx x c → Ext ad F H ad' H' → Hold T K ⟨sl, c⟩ ad' F σ H' → ExRep T K (Mm ad' F) H' cls d x → W cls d σ H'
theorem Raz.on {T : Tab} {K : PySem.W.Frag} {W : WX} {σ : St} {ad ad1 : List Addr} {F : Addr → Prop} {H H1 : Hp} {sl : Sls} {Rx : RX} {S : Sta} (q : Raz T K W σ ad F H sl Rx) (x1 : Ext ad F H ad1 H1) (h1 : Hold T K S ad1 F σ H1) : Raz T K W σ ad1 F H1 sl Rx := fun x c cls d H' ad' hx x2 h2 er => q x c cls d H' ad' hx (x1.trans h1.hc x2) h2 er
theorem Raz.no {T : Tab} {K : PySem.W.Frag} {W : WX} {σ : St} {ad : List Addr} {F : Addr → Prop} {H : Hp} {sl : Sls} : Raz T K W σ ad F H sl noX := fun _ _ _ _ _ _ z => z.elim
def tJ (T : Tab) (K : PySem.W.Frag) (W : WX) (w : WpE) : TE := fun σ H Q => ∃ ad F sl cs R Rx, Hold T K ⟨sl, cs⟩ ad F σ H ∧ w sl cs R Rx ∧
  (∀ s c v H' ad', R s c → Ext ad F H ad' H' → Hold T K ⟨sl, c⟩ ad' F σ H' → SlRep T K ad' F H' v s → Q v H') ∧ Raz T K W σ ad F H sl Rx
def tJT (T : Tab) (K : PySem.W.Frag) (W : WX) (w : WpT) : TT := fun σ H Q => ∃ ad F sl cs R Rx, Hold T K ⟨sl, cs⟩ ad F σ H ∧ w sl cs R Rx ∧
  (∀ b c H' ad', R b c → Ext ad F H ad' H' → Hold T K ⟨sl, c⟩ ad' F σ H' → Q b H') ∧ Raz T K W σ ad F H sl Rx
def tJA (T : Tab) (K : PySem.W.Frag) (W : WX) (w : WpA) : TA := fun σ H Q => ∃ ad F sl cs R Rx, Hold T K ⟨sl, cs⟩ ad F σ H ∧ w sl cs R Rx ∧
  (∀ ss c vs H' ad', R ss c → Ext ad F H ad' H' → Hold T K ⟨sl, c⟩ ad' F σ H' → SlReps T K ad' F H' vs ss → Q vs H') ∧ Raz T K W σ ad F H sl Rx
def JE (X : Cx) (T : Tab) (W : WX) (e : Expr) (w : WpE) : Prop := PE X e (tJ T X.K W w)
def JT (X : Cx) (T : Tab) (W : WX) (e : Expr) (w : WpT) : Prop := PT X e (tJT T X.K W w)
def JW (X : Cx) (T : Tab) (W : WX) (e : Expr) (w : WpT) : Prop := PW X e (tJT T X.K W w)
def JA (X : Cx) (T : Tab) (W : WX) (es : List Expr) (w : WpA) : Prop := PA X es (tJA T X.K W w)
/-! ### operators -/
abbrev W2 := Sl → Sl → List Cell → RV → Prop
abbrev W1 := Sl → List Cell → RV → Prop
def JBin (X : Cx) (T : Tab) (op : Operator) (w : W2) : Prop := ∀ s1 s2 cs R, w s1 s2 cs R → ∃ s cs', BinD X T op s1 s2 cs s cs' ∧ R s cs'
def JIop (X : Cx) (T : Tab) (op : Operator) (w : W2) : Prop := ∀ s1 s2 cs R, w s1 s2 cs R → ∃ s cs', IopD X T op s1 s2 cs s cs' ∧ R s cs'
def JCmp (X : Cx) (T : Tab) (op : CmpOp) (w : W2) : Prop := ∀ s1 s2 cs R, w s1 s2 cs R → ∃ s cs', CmpD X T op s1 s2 cs s cs' ∧ R s cs'
def JIx (X : Cx) (T : Tab) (w : W2) : Prop := ∀ s1 s2 cs R, w s1 s2 cs R → ∃ s cs', IxD X T s1 s2 cs s cs' ∧ R s cs'
def JUn (X : Cx) (T : Tab) (op : UnaryOp) (w : W1) : Prop := ∀ s1 cs R, w s1 cs R → ∃ s cs', UnD X T op s1 cs s cs' ∧ R s cs'
section
variable {X : Cx} {T : Tab}
/-- all are data -/
def dats : List Sl → Option (List D)
  | [] => some []
  | .dat d :: r => (dats r).map (d :: ·)
  | .cel _ :: _ => none
theorem dats_eq : ∀ {ss : List Sl} {ds : List D}, dats ss = some ds → ss = ds.map Sl.dat
  | [], ds, h => by cases h; rfl
  | .dat d :: r, ds, h => by
    cases q : dats r with
    | none => simp [dats, q] at h
    | some l =>
      simp [dats, q] at h
      subst h
      rw [dats_eq q]
      rfl
  | .cel _ :: _, _, h => nomatch h
def wDats (ss : List Sl) (k : List D → Prop) : Prop := match dats ss with
  | some ds => k ds
  | none => False
theorem wDats_of {ss : List Sl} {k : List D → Prop} (h : wDats ss k) : ∃ ds, ss = ds.map Sl.dat ∧ k ds := by
  unfold wDats at h
  split at h
  · rename_i ds e
    exact ⟨ds, dats_eq e, h⟩
  · exact h.elim
def isB (s : Sl) (k : Bool → Prop) : Prop := match s with
  | .dat (.bl b) => k b
  | _ => False
theorem isB_of {s : Sl} {k : Bool → Prop} (h : isB s k) : ∃ b, s = .dat (.bl b) ∧ k b := by
  unfold isB at h
  split at h
  · exact ⟨_, rfl, h⟩
  · exact h.elim
/-! ### truth -/
def truW (s : Sl) (cs : List Cell) (k : Bool → Prop) : Prop := match s with
  | .dat (.bl b) => k b
  | .dat (.int i) => k (i != 0)
  | .dat .non => k false
  | .dat (.lst ds) => k (!ds.isEmpty)
  | .dat (.tup ds) => k (!ds.isEmpty)
  | .dat (.str x) => x.length ≤ sizeLine ∧ k ((x.length : Int) != 0)
  | .cel j => match cs[j]? with
    | some (.lst ds) => k (!ds.isEmpty)
    | some (.dct kvs) => k (!kvs.isEmpty)
    | _ => False
  | _ => False
def TruS (T : Tab) (K : PySem.W.Frag) (s : Sl) (cs : List Cell) (k : Bool) : Prop := ∀ ad F H v, HoldC T K ad F H cs → SlRep T K ad F H v s → TruV K v H k
theorem truW_of {K : PySem.W.Frag} {s : Sl} {cs : List Cell} {k : Bool → Prop} (h : truW s cs k) : ∃ b, TruS T K s cs b ∧ k b := by
  have lst : ∀ {M : Addr → Prop} {H : Hp} {vs : List V} {ds : List D}, Reps T K M H vs ds → vs.isEmpty = ds.isEmpty := fun r => by cases r <;> rfl
  unfold truW at h
  split at h
  · exact ⟨_, fun ad F H v c r => by cases r; exact rfl, h⟩
  · exact ⟨_, fun ad F H v c r => by cases r; exact rfl, h⟩
  · exact ⟨_, fun ad F H v c r => by cases r; exact rfl, h⟩
  · exact ⟨_, fun ad F H v c r => by
      cases r with
      | lst n e r => exact .inl ⟨_, .inl (.inl e), by rw [lst r]⟩, h⟩
  · exact ⟨_, fun ad F H v c r => by
      cases r with
      | tup e r => exact .inr (.inl ⟨_, e.sq, by rw [lst r]⟩), h⟩
  · exact ⟨_, fun ad F H v c r => by cases r; exact ⟨h.1, rfl⟩, h.2⟩
  · rename_i j
    split at h
    · rename_i ds e
      exact ⟨_, fun ad F H v c r => by
        obtain ⟨a, ha, rfl⟩ := r
        obtain ⟨vs, e1, r1⟩ := c.ce j a _ ha e
        exact .inl ⟨_, .inl (.inl e1), by rw [lst r1]⟩, h⟩
    · rename_i kvs e
      exact ⟨_, fun ad F H v c r => by
        obtain ⟨a, ha, rfl⟩ := r
        obtain ⟨vs, e1, hl, r1⟩ := c.ce j a _ ha e
        refine .inr (.inr ⟨_, e1, ?_⟩)
        cases kvs with
        | nil =>
          cases vs with
          | nil => rfl
          | cons v vs => cases hl
        | cons q r =>
          cases vs with
          | nil => cases hl
          | cons v vs => rfl, h⟩
    · exact h.elim
  · exact h.elim
/-! ### the operators of ints, texts, lists, tuples -/
def lstOf (cs : List Cell) : Sl → Option (List D)
  | .dat (.lst ds) => some ds
  | .cel k => match cs[k]? with
    | some (.lst ds) => some ds
    | _ => none
  | _ => none
theorem lstOf_is {cs : List Cell} {s : Sl} {ds : List D} (h : lstOf cs s = some ds) : isLst cs ds s := by
  unfold lstOf at h
  split at h
  · cases h; exact rfl
  · split at h
    · rename_i e
      cases h; exact e
    · cases h
  · cases h
def wL (cs : List Cell) (s : Sl) (k : List D → Prop) : Prop := match lstOf cs s with
  | some ds => k ds
  | none => False
theorem wL_of {cs : List Cell} {s : Sl} {k : List D → Prop} (h : wL cs s k) : ∃ ds, isLst cs ds s ∧ k ds := by
  unfold wL at h
  split at h
  · rename_i ds e
    exact ⟨ds, lstOf_is e, h⟩
  · exact h.elim
def addW : W2 := fun s1 s2 cs R => match s1, s2 with
  | .dat (.int i), .dat (.int j) => R (.dat (.int (i + j))) cs
  | .dat (.str x), .dat (.str y) => x.length + y.length ≤ sizeLine ∧ R (.dat (.str (x ++ y))) cs
  | .dat (.tup ds), .dat (.tup es) => ds.length + es.length ≤ sizeLine ∧ R (.dat (.tup (ds ++ es))) cs
  | s1, s2 => wL cs s1 fun ds => wL cs s2 fun es => ds.length + es.length ≤ sizeLine ∧ R (.dat (.lst (ds ++ es))) cs
theorem jb_add : JBin X T .Add addW := fun s1 s2 cs R h => by
  unfold addW at h
  split at h
  · exact ⟨_, _, bin_add, h⟩
  · exact ⟨_, _, bin_addS h.1, h.2⟩
  · exact ⟨_, _, bin_addT h.1, h.2⟩
  · obtain ⟨ds, h1, h⟩ := wL_of h
    obtain ⟨es, h2, h⟩ := wL_of h
    exact ⟨_, _, bin_addL h1 h2 h.1, h.2⟩
/-- a new list that will be changed -/
def addWC : W2 := fun s1 s2 cs R => wL cs s1 fun ds => wL cs s2 fun es => ds.length + es.length ≤ sizeLine ∧ R (.cel cs.length) (cs ++ [.lst (ds ++ es)])
theorem jb_addC : JBin X T .Add addWC := fun s1 s2 cs R h => by
  obtain ⟨ds, h1, h⟩ := wL_of h
  obtain ⟨es, h2, h⟩ := wL_of h
  exact ⟨_, _, bin_addLC h1 h2 h.1, h.2⟩
def intW (C : Int → Int → Prop) (g : Int → Int → D) : W2 := fun s1 s2 cs R => match s1, s2 with
  | .dat (.int i), .dat (.int j) => C i j ∧ R (.dat (g i j)) cs
  | _, _ => False
def intW0 (g : Int → Int → D) : W2 := fun s1 s2 cs R => match s1, s2 with
  | .dat (.int i), .dat (.int j) => R (.dat (g i j)) cs
  | _, _ => False
def subW : W2 := intW0 fun i j => .int (i - j)
theorem jb_sub : JBin X T .Sub subW := fun s1 s2 cs R h => by
  unfold subW intW0 at h
  split at h
  · exact ⟨_, _, bin_sub, h⟩
  · exact h.elim
def MulC (i j : Int) : Prop := IntMulOk i j
def mulW : W2 := fun s1 s2 cs R => match s1, s2 with
  | .dat (.int i), .dat (.int j) => MulC i j ∧ R (.dat (.int (i * j))) cs
  | .dat (.str x), .dat (.int n) => x.length ≤ 1000 ∧ (-1000 ≤ n ∧ n ≤ 1000) ∧ (repS x n).length ≤ sizeLine ∧ R (.dat (.str (repS x n))) cs
  | s1, .dat (.int j) => wL cs s1 fun ds => (-(2 ^ 63) ≤ j ∧ j < 2 ^ 63 ∧ ds.length * j.toNat ≤ sizeLine) ∧ R (.dat (.lst (List.replicate j.toNat ds).flatten)) cs
  | _, _ => False
theorem jb_mul : JBin X T .Mult mulW := fun s1 s2 cs R h => by
  unfold mulW at h
  split at h
  · exact ⟨_, _, bin_mul h.1, h.2⟩
  · exact ⟨_, _, bin_mulS h.1 h.2.1 h.2.2.1, h.2.2.2⟩
  · obtain ⟨ds, h1, ⟨h2, h3, h4⟩, h⟩ := wL_of h
    exact ⟨_, _, bin_repL h1 h2 h3 h4, h⟩
  · exact h.elim
def DivC (i j : Int) : Prop := CDivW i j
def fdivW : W2 := intW DivC fun i j => .int (i / j)
theorem jb_fdiv : JBin X T .FloorDiv fdivW := fun s1 s2 cs R h => by
  unfold fdivW intW at h
  split at h
  · exact ⟨_, _, bin_fdiv h.1, h.2⟩
  · exact h.elim
def ModC (_ j : Int) : Prop := 0 < j
def modW : W2 := intW ModC fun i j => .int (i % j)
theorem jb_mod : JBin X T .Mod modW := fun s1 s2 cs R h => by
  unfold modW intW at h
  split at h
  · exact ⟨_, _, bin_mod h.1, h.2⟩
  · exact h.elim
def PowC (i j : Int) : Prop := CPow i j
def powW : W2 := intW PowC fun i j => .int (i ^ j.toNat)
theorem jb_pow : JBin X T .Pow powW := fun s1 s2 cs R h => by
  unfold powW intW at h
  split at h
  · exact ⟨_, _, bin_pow h.1, h.2⟩
  · exact h.elim
def negW : W1 := fun s1 cs R => match s1 with
  | .dat (.int i) => R (.dat (.int (-i))) cs
  | _ => False
theorem ju_neg : JUn X T .USub negW := fun s1 cs R h => by
  unfold negW at h
  split at h
  · exact ⟨_, _, un_negD, h⟩
  · exact h.elim
def ltW : W2 := intW0 fun i j => .bl (decide (i < j))
def leW : W2 := intW0 fun i j => .bl (decide (i ≤ j))
def gtW : W2 := intW0 fun i j => .bl (decide (j < i))
def geW : W2 := intW0 fun i j => .bl (decide (j ≤ i))
theorem jc_lt : JCmp X T .Lt ltW := fun s1 s2 cs R h => by
  unfold ltW intW0 at h
  split at h
  · exact ⟨_, _, cmp_lt, h⟩
  · exact h.elim
theorem jc_le : JCmp X T .LtE leW := fun s1 s2 cs R h => by
  unfold leW intW0 at h
  split at h
  · exact ⟨_, _, cmp_le, h⟩
  · exact h.elim
theorem jc_gt : JCmp X T .Gt gtW := fun s1 s2 cs R h => by
  unfold gtW intW0 at h
  split at h
  · exact ⟨_, _, cmp_gt, h⟩
  · exact h.elim
theorem jc_ge : JCmp X T .GtE geW := fun s1 s2 cs R h => by
  unfold geW intW0 at h
  split at h
  · exact ⟨_, _, cmp_ge, h⟩
  · exact h.elim
/-- data of a cell, as it stands -/
def datOf (cs : List Cell) : Sl → Option D
  | .dat d => some d
  | .cel _ => none
def eqW (neg : Bool) : W2 := fun s1 s2 cs R => match s1, s2 with
  | .dat (.int i), .dat (.int j) => R (.dat (.bl (neg.xor (decide (i = j))))) cs
  | .dat (.str i), .dat (.str j) => R (.dat (.bl (neg.xor (decide (i = j))))) cs
  | .dat (.bl i), .dat (.bl j) => R (.dat (.bl (neg.xor (i == j)))) cs
  | .dat d1, .dat d2 => okD d1 = true ∧ okD d2 = true ∧ R (.dat (.bl (neg.xor (eqD d1 d2)))) cs
  | _, _ => False
theorem jc_eq (hu : X.A.units + 64 < cLine) : JCmp X T .Eq (eqW false) := fun s1 s2 cs R h => by
  unfold eqW at h
  split at h
  · exact ⟨_, _, cmp_eqI, by simpa using h⟩
  · exact ⟨_, _, cmp_eqS, by simpa using h⟩
  · exact ⟨_, _, cmp_eqB, by simpa using h⟩
  · exact ⟨_, _, cmp_eqD hu h.1 h.2.1, by simpa using h.2.2⟩
  · exact h.elim
theorem jc_ne (hu : X.A.units + 64 < cLine) : JCmp X T .NotEq (eqW true) := fun s1 s2 cs R h => by
  unfold eqW at h
  split at h
  · exact ⟨_, _, cmp_neI, by simpa using h⟩
  · exact ⟨_, _, cmp_neS, by simpa using h⟩
  · exact ⟨_, _, cmp_neB, by simpa using h⟩
  · exact ⟨_, _, cmp_neD hu h.1 h.2.1, by simpa using h.2.2⟩
  · exact h.elim
def isW (neg : Bool) : W2 := fun s1 s2 cs R => match s1, s2 with
  | .dat d, .dat .non => R (.dat (.bl (neg.xor (isNon d)))) cs
  | _, _ => False
theorem jc_is : JCmp X T .Is (isW false) := fun s1 s2 cs R h => by
  unfold isW at h
  split at h
  · exact ⟨_, _, cmp_isN, by simpa using h⟩
  · exact h.elim
theorem jc_isnot : JCmp X T .IsNot (isW true) := fun s1 s2 cs R h => by
  unfold isW at h
  split at h
  · exact ⟨_, _, cmp_notN, by simpa using h⟩
  · exact h.elim
def inW' (neg : Bool) : W2 := fun s1 s2 cs R => match s1, s2 with
  | .dat d, .dat (.tup ds) => match fv d, fvs ds with
    | some v, some ws => R (.dat (.bl (neg.xor (inV v ws)))) cs
    | _, _ => False
  | _, _ => False
theorem jc_in : JCmp X T .In (inW' false) := fun s1 s2 cs R h => by
  unfold inW' at h
  split at h
  · split at h
    · rename_i h1 h2
      exact ⟨_, _, cmp_inT h1 h2, by simpa using h⟩
    · exact h.elim
  · exact h.elim
theorem jc_notin : JCmp X T .NotIn (inW' true) := fun s1 s2 cs R h => by
  unfold inW' at h
  split at h
  · split at h
    · rename_i h1 h2
      exact ⟨_, _, cmp_ninT h1 h2, by simpa using h⟩
    · exact h.elim
  · exact h.elim
/-! ### subscripts -/
def atW (ds : List D) (i : Int) (k : D → Prop) : Prop := match atI ds i with
  | some d => k d
  | none => False
theorem atW_of {ds : List D} {i : Int} {k : D → Prop} (h : atW ds i k) : ∃ d, atI ds i = some d ∧ k d := by
  unfold atW at h
  split at h
  · exact ⟨_, ‹_›, h⟩
  · exact h.elim
theorem atW_i {ds : List D} {i : Int} {k : D → Prop} {d : D} (e : atI ds i = some d) (h : k d) : atW ds i k := by
  unfold atW
  rw [e]
  exact h
def ixW : W2 := fun s1 s2 cs R => match s1, s2 with
  | .dat (.lst ds), .dat (.int i) => atW ds i fun d => R (.dat d) cs
  | .dat (.tup ds), .dat (.int i) => atW ds i fun d => R (.dat d) cs
  | .dat (.scr ds), .dat (.int i) => atW ds i fun d => R (.dat d) cs
  | .dat (.str x), .dat (.int i) => x.length ≤ sizeLine ∧ ∃ c, atI x.cps.toList i = some c ∧ R (.dat (.str ⟨#[c]⟩)) cs
  | .cel k, .dat (.int i) => match cs[k]? with
    | some (.lst ds) => atW ds i fun d => R (.dat d) cs
    | _ => False
  | _, _ => False
theorem ji_ix : JIx X T ixW := fun s1 s2 cs R h => by
  unfold ixW at h
  split at h
  · obtain ⟨d, e, h⟩ := atW_of h; exact ⟨_, _, ix_L e, h⟩
  · obtain ⟨d, e, h⟩ := atW_of h; exact ⟨_, _, ix_T e, h⟩
  · obtain ⟨d, e, h⟩ := atW_of h; exact ⟨_, _, ix_R e, h⟩
  · obtain ⟨hl, c, e, h⟩ := h; exact ⟨_, _, ix_S hl e, h⟩
  · split at h
    · rename_i e
      obtain ⟨d, e1, h⟩ := atW_of h; exact ⟨_, _, ix_C e e1, h⟩
    · exact h.elim
  · exact h.elim
def slcW (s1 : Sl) (l u : Option Int) (cs : List Cell) (R : RV) : Prop := match s1 with
  | .dat (.tup ds) => R (.dat (.tup (cutD ds l u))) cs
  | s1 => wL cs s1 fun ds => R (.dat (.lst (cutD ds l u))) cs
abbrev WC := List Sl → List Cell → RV → Prop
structure JCall (X : Cx) (T : Tab) (x : Str) (w : WC) : Prop where
  bo : ∃ u, bootBuiltins x = some u ∧ ((∃ id, u = .builtin id) ∨ ∃ id, u = .type id)
  run : ∀ ss cs R, w ss cs R → ∃ s cs', CalB X T x ss cs s cs' ∧ R s cs'
def lenW : WC := fun ss cs R => match ss with
  | [.dat (.tup ds)] => R (.dat (.int ds.length)) cs
  | [.dat (.scr ds)] => R (.dat (.int ds.length)) cs
  | [.dat (.str x)] => x.length ≤ sizeLine ∧ R (.dat (.int x.length)) cs
  | [s] => wL cs s fun ds => R (.dat (.int ds.length)) cs
  | _ => False
theorem jc_len : JCall X T "len" lenW := ⟨⟨_, PySem.boot_len, .inl ⟨_, rfl⟩⟩, fun ss cs R h => by
  unfold lenW at h
  split at h
  · exact ⟨_, _, cb_lenT, h⟩
  · exact ⟨_, _, cb_lenR, h⟩
  · exact ⟨_, _, cb_lenS h.1, h.2⟩
  · obtain ⟨ds, h1, h⟩ := wL_of h
    exact ⟨_, _, cb_len h1, h⟩
  · exact h.elim⟩
def intW1 : WC := fun ss cs R => match ss with
  | [.dat (.int i)] => R (.dat (.int i)) cs
  | [.dat (.bl k)] => R (.dat (.int (if k then 1 else 0))) cs
  | [.dat (.str x)] => x.length ≤ 640 ∧ ∃ n, PySem.intText? x = some n ∧ R (.dat (.int n)) cs
  | _ => False
theorem jc_int : JCall X T "int" intW1 := ⟨⟨.type "int", by decide +kernel, .inr ⟨_, rfl⟩⟩, fun ss cs R h => by
  unfold intW1 at h
  split at h
  · exact ⟨_, _, cb_int, h⟩
  · exact ⟨_, _, cb_intB, h⟩
  · obtain ⟨hl, n, e, h⟩ := h; exact ⟨_, _, cb_intS e hl, h⟩
  · exact h.elim⟩
def boolW : WC := fun ss cs R => match ss with
  | [.dat (.bl k)] => R (.dat (.bl k)) cs
  | _ => False
theorem jc_bool : JCall X T "bool" boolW := ⟨⟨.type "bool", by decide +kernel, .inr ⟨_, rfl⟩⟩, fun ss cs R h => by
  unfold boolW at h
  split at h
  · exact ⟨_, _, cb_boolB, h⟩
  · exact h.elim⟩
def absW : WC := fun ss cs R => match ss with
  | [.dat (.int i)] => R (.dat (.int (if i < 0 then -i else i))) cs
  | _ => False
theorem jc_abs : JCall X T "abs" absW := ⟨⟨.builtin "abs", by decide +kernel, .inl ⟨_, rfl⟩⟩, fun ss cs R h => by
  unfold absW at h
  split at h
  · exact ⟨_, _, cb_abs, h⟩
  · exact h.elim⟩
def maxW : WC := fun ss cs R => match ss with
  | [.dat (.int i), .dat (.int j)] => R (.dat (.int (if j > i then j else i))) cs
  | _ => False
theorem jc_max (hc : X.calm = true) : JCall X T "max" maxW := ⟨⟨.builtin "max", by decide +kernel, .inl ⟨_, rfl⟩⟩, fun ss cs R h => by
  unfold maxW at h
  split at h
  · exact ⟨_, _, cb_max hc, h⟩
  · exact h.elim⟩
def minW : WC := fun ss cs R => match ss with
  | [.dat (.int i), .dat (.int j)] => R (.dat (.int (if j < i then j else i))) cs
  | _ => False
theorem jc_min (hc : X.calm = true) : JCall X T "min" minW := ⟨⟨.builtin "min", by decide +kernel, .inl ⟨_, rfl⟩⟩, fun ss cs R h => by
  unfold minW at h
  split at h
  · exact ⟨_, _, cb_min hc, h⟩
  · exact h.elim⟩
def tupleW : WC := fun ss cs R => match ss with
  | [.dat (.tup ds)] => R (.dat (.tup ds)) cs
  | [s] => wL cs s fun ds => R (.dat (.tup ds)) cs
  | _ => False
theorem jc_tuple : JCall X T "tuple" tupleW := ⟨⟨.type "tuple", by decide +kernel, .inr ⟨_, rfl⟩⟩, fun ss cs R h => by
  unfold tupleW at h
  split at h
  · exact ⟨_, _, cb_tupT, h⟩
  · obtain ⟨ds, h1, h⟩ := wL_of h
    exact ⟨_, _, cb_tupL h1, h⟩
  · exact h.elim⟩
def listW : WC := fun ss cs R => match ss with
  | [.dat (.tup ds)] => R (.dat (.lst ds)) cs
  | [s] => wL cs s fun ds => R (.dat (.lst ds)) cs
  | _ => False
theorem jc_list : JCall X T "list" listW := ⟨⟨.type "list", by decide +kernel, .inr ⟨_, rfl⟩⟩, fun ss cs R h => by
  unfold listW at h
  split at h
  · exact ⟨_, _, cb_lstT, h⟩
  · obtain ⟨ds, h1, h⟩ := wL_of h
    exact ⟨_, _, cb_lstL h1, h⟩
  · exact h.elim⟩
def listWC : WC := fun ss cs R => match ss with
  | [.dat (.tup ds)] => R (.cel cs.length) (cs ++ [.lst ds])
  | [s] => wL cs s fun ds => R (.cel cs.length) (cs ++ [.lst ds])
  | _ => False
theorem jc_listC : JCall X T "list" listWC := ⟨⟨.type "list", by decide +kernel, .inr ⟨_, rfl⟩⟩, fun ss cs R h => by
  unfold listWC at h
  split at h
  · exact ⟨_, _, cb_lstTC, h⟩
  · obtain ⟨ds, h1, h⟩ := wL_of h
    exact ⟨_, _, cb_lstLC h1, h⟩
  · exact h.elim⟩
end
end Dl

namespace Dl
open PySem L2
section
variable {X : Cx} {T : Tab} {W : WX} {a b c e o : Expr} {es : List Expr} {pos p p2 : Pos} {wa wb w : WpE} {wt wt1 wt2 : WpT} {wA : WpA} {i : Int} {rest : List Expr} {lo hi : Option Expr}
/-- out of a value that is known -/
theorem je_of (h : ∀ sl cs (R : RV) Rx, w sl cs R Rx → ∃ s cs', DE X T ⟨sl, cs⟩ e s ⟨sl, cs'⟩ ∧ R s cs') : JE X T W e w := ⟨fun pins s σ H Q I ⟨ad, F, sl, cs, R, Rx, h0, hw, q, qx⟩ => by
  obtain ⟨s, cs', d, hR⟩ := h sl cs R Rx hw
  exact d.run pins _ σ H Q I ⟨ad, F, h0, fun v H' ad' x1 h1 r1 => q s cs' v H' ad' hR x1 h1 r1⟩⟩
/-! ### names, constants -/
def wName (i : Nat) : WpE := fun sl cs R _ => match sl[i]? with
  | some (some s) => R s cs
  | _ => False
theorem je_name (i : Nat) {x : Str} (hN : X.N[i]? = some x := by rfl) (hv : Vis X.env.scope x := by first | exact Or.inl rfl | exact Or.inr (Or.inl rfl) | exact Or.inr (Or.inr rfl)) (hd : (x == ("__debug__" : Str)) = false := by decide)
    (hcd : (x == ("__classdict__" : Str)) = false := by decide) : JE X T W (.Name x pos) (wName i) := je_of fun sl cs R Rx h => by
  unfold wName at h
  split at h
  · rename_i s e
    exact ⟨s, cs, de_name i e hN hv hd hcd, h⟩
  · exact h.elim
def wCon (d : D) : WpE := fun _ cs R _ => R (.dat d) cs
theorem je_int {k : Nat} : JE X T W (.Constant (.int i) k pos) (wCon (.int i)) := je_of fun sl cs R Rx h => ⟨_, cs, de_int, h⟩
theorem je_bl {b : Bool} {k : Nat} : JE X T W (.Constant (.bool b) k pos) (wCon (.bl b)) := je_of fun sl cs R Rx h => ⟨_, cs, de_bl, h⟩
theorem je_non {k : Nat} : JE X T W (.Constant .none k pos) (wCon .non) := je_of fun sl cs R Rx h => ⟨_, cs, de_non, h⟩
theorem je_str {x : Str} {k : Nat} : JE X T W (.Constant (.str x) k pos) (wCon (.str x)) := je_of fun sl cs R Rx h => ⟨_, cs, de_str, h⟩
/-- a class, by its name -/
theorem je_cls {x : Str} {C : Addr} (hm : X.mg x = some (.ref C)) (hg : Gl X x := by rfl) (hd : (x == ("__debug__" : Str)) = false := by decide) : JE X T W (.Name x pos) (wCon (.cls C)) := je_of fun sl cs R Rx h => ⟨_, cs, de_glob hm hg hd, h⟩
/-! ### operators -/
theorem opAll {f : Value → Value → Sem Value} : OpR X f (fun x y H Q => ∃ r, OpR X f r ∧ r x y H Q) := fun pins s σ H x y v u Q I rx ry ⟨r, o, h⟩ => o pins s σ H x y v u Q I rx ry h
theorem unAll {f : Value → Sem Value} : UnR X f (fun x H Q => ∃ r, UnR X f r ∧ r x H Q) := fun pins s σ H x v Q I rx ⟨r, o, h⟩ => o pins s σ H x v Q I rx h
theorem ixAll : IxR X (fun x y H Q => ∃ r, IxR X r ∧ r x y H Q) := fun v1 v2 pins s σ H x y v u Q I rx ry ⟨r, o, h⟩ => o v1 v2 pins s σ H x y v u Q I rx ry h
theorem callAll {f : Value} : CallR X f (fun xs H Q => ∃ r, CallR X f r ∧ r xs H Q) := fun pins s σ H xs us Q I rx ⟨r, o, h⟩ => o pins s σ H xs us Q I rx h
def wTwo (wa wb : WpE) (o : W2) : WpE := fun sl cs R Rx => wa sl cs (fun s1 c1 => wb sl c1 (fun s2 c2 => o s1 s2 c2 R) Rx) Rx
def wOne (wa : WpE) (o : W1) : WpE := fun sl cs R Rx => wa sl cs (fun s1 c1 => o s1 c1 R) Rx
theorem je_bin {op : Operator} {ow : W2} (ho : JBin X T op ow) (ha : JE X T W a wa) (hb : JE X T W b wb) : JE X T W (.BinOp a op b pos) (wTwo wa wb ow) :=
  weak (pe_op opAll ha hb) fun σ H Q ⟨ad, F, sl, cs, R, Rx, h0, hw, q, qx⟩ => ⟨ad, F, sl, cs, _, Rx, h0, hw, fun s1 c1 v H1 ad1 hw1 x1 h1 r1 => ⟨ad1, F, sl, c1, _, Rx, h1, hw1, fun s2 c2 v2 H2 ad2 hw2 x2 h2 r2 => by
    obtain ⟨s, c3, ⟨r, o1, o2⟩, hR⟩ := ho _ _ _ _ hw2
    exact ⟨r, o1, o2 ad2 F H2 v v2 Q h2.hc (r1.ext x2) r2 fun z H3 ad3 x3 k3 r3 => q s c3 z H3 ad3 hR (x1.trans h1.hc (x2.trans h2.hc x3)) (h2.to x3 k3) r3⟩, qx.on x1 h1⟩, qx⟩
theorem je_cmp {op : CmpOp} {ow : W2} (ho : JCmp X T op ow) (ha : JE X T W a wa) (hb : JE X T W b wb) (hm : behindInMarks op b = false := by first | exact nomark _ | rfl) : JE X T W (.Compare a [op] [b] pos) (wTwo wa wb ow) :=
  weak (pe_cmpR opAll ha hb hm) fun σ H Q ⟨ad, F, sl, cs, R, Rx, h0, hw, q, qx⟩ => ⟨ad, F, sl, cs, _, Rx, h0, hw, fun s1 c1 v H1 ad1 hw1 x1 h1 r1 => ⟨ad1, F, sl, c1, _, Rx, h1, hw1, fun s2 c2 v2 H2 ad2 hw2 x2 h2 r2 => by
    obtain ⟨s, c3, ⟨r, o1, o2⟩, hR⟩ := ho _ _ _ _ hw2
    exact ⟨r, o1, o2 ad2 F H2 v v2 Q h2.hc (r1.ext x2) r2 fun z H3 ad3 x3 k3 r3 => q s c3 z H3 ad3 hR (x1.trans h1.hc (x2.trans h2.hc x3)) (h2.to x3 k3) r3⟩, qx.on x1 h1⟩, qx⟩
theorem je_sub {ow : W2} (ho : JIx X T ow) (ha : JE X T W a wa) (hb : JE X T W b wb) (hp : PlainIx b := by intro _ _; rfl) : JE X T W (.Subscript a b pos) (wTwo wa wb ow) :=
  weak (pe_ix ixAll ha hb hp) fun σ H Q ⟨ad, F, sl, cs, R, Rx, h0, hw, q, qx⟩ => ⟨ad, F, sl, cs, _, Rx, h0, hw, fun s1 c1 v H1 ad1 hw1 x1 h1 r1 => ⟨ad1, F, sl, c1, _, Rx, h1, hw1, fun s2 c2 v2 H2 ad2 hw2 x2 h2 r2 => by
    obtain ⟨s, c3, ⟨r, o1, o2⟩, hR⟩ := ho _ _ _ _ hw2
    exact ⟨r, o1, o2 ad2 F H2 v v2 Q h2.hc (r1.ext x2) r2 fun z H3 ad3 x3 k3 r3 => q s c3 z H3 ad3 hR (x1.trans h1.hc (x2.trans h2.hc x3)) (h2.to x3 k3) r3⟩, qx.on x1 h1⟩, qx⟩
theorem je_un {op : UnaryOp} {ow : W1} (ho : JUn X T op ow) (ha : JE X T W a wa) : JE X T W (.UnaryOp op a pos) (wOne wa ow) :=
  weak (pe_un unAll ha) fun σ H Q ⟨ad, F, sl, cs, R, Rx, h0, hw, q, qx⟩ => ⟨ad, F, sl, cs, _, Rx, h0, hw, fun s1 c1 v H1 ad1 hw1 x1 h1 r1 => by
    obtain ⟨s, c3, ⟨r, o1, o2⟩, hR⟩ := ho _ _ _ hw1
    exact ⟨r, o1, o2 ad1 F H1 v Q h1.hc r1 fun z H3 ad3 x3 k3 r3 => q s c3 z H3 ad3 hR (x1.trans h1.hc x3) (h1.to x3 k3) r3⟩, qx⟩
/-! ### arguments, displays -/
def wNil : WpA := fun sl cs R _ => R [] cs
def wCons (wa : WpE) (wA : WpA) : WpA := fun sl cs R Rx => wa sl cs (fun s c1 => wA sl c1 (fun ss c2 => R (s :: ss) c2) Rx) Rx
theorem ja_nil : JA X T W [] wNil := weakA pa_nil fun σ H Q ⟨ad, F, sl, cs, R, Rx, h0, hw, q, qx⟩ => q [] cs [] H ad hw .refl h0 trivial
theorem ja_cons (ha : JE X T W e w) (hr : JA X T W es wA) (hs : starEach (e :: es) X.env = (false, eval e X.env) :: starEach es X.env := by rfl) : JA X T W (e :: es) (wCons w wA) :=
  weakA (pa_cons ha hr hs) fun σ H Q ⟨ad, F, sl, cs, R, Rx, h0, hw, q, qx⟩ => ⟨ad, F, sl, cs, _, Rx, h0, hw, fun s1 c1 v H1 ad1 hw1 x1 h1 r1 => ⟨ad1, F, sl, c1, _, Rx, h1, hw1, fun ss c2 vs H2 ad2 hw2 x2 h2 r2 => q _ c2 _ H2 ad2 hw2 (x1.trans h1.hc x2) h2 ⟨r1.ext x2, r2⟩, qx.on x1 h1⟩, qx⟩
def wTup (wA : WpA) : WpE := fun sl cs R Rx => wA sl cs (fun ss c1 => wDats ss fun ds => ds.length ≤ sizeLine ∧ R (.dat (.tup ds)) c1) Rx
theorem je_tup {k : Nat} (ha : JA X T W es wA) : JE X T W (.Tuple es k pos) (wTup wA) :=
  weak (pe_tup ha) fun σ H Q ⟨ad, F, sl, cs, R, Rx, h0, hw, q, qx⟩ => ⟨ad, F, sl, cs, _, Rx, h0, hw, fun ss c1 vs H1 ad1 hw1 x1 h1 r1 => by
    obtain ⟨ds, rfl, hl, hR⟩ := wDats_of hw1
    refine ⟨by rw [r1.dats.length]; exact hl, fun p hp => ?_⟩
    obtain ⟨c, x2⟩ := h1.hc.newo (o := .tup vs) hp
    exact q _ c1 _ _ ad1 hR (x1.trans h1.hc x2) (h1.to x2 c) (.tup (vs := vs) (.inl ⟨h1.hc.new hp, .inl upd_same⟩) (r1.dats.kp x2.kp)), qx⟩
def wLst (wA : WpA) : WpE := fun sl cs R Rx => wA sl cs (fun ss c1 => wDats ss fun ds => ds.length ≤ sizeLine ∧ R (.dat (.lst ds)) c1) Rx
theorem je_lst (ha : JA X T W es wA) : JE X T W (.List es pos) (wLst wA) :=
  weak (pe_lst ha) fun σ H Q ⟨ad, F, sl, cs, R, Rx, h0, hw, q, qx⟩ => ⟨ad, F, sl, cs, _, Rx, h0, hw, fun ss c1 vs H1 ad1 hw1 x1 h1 r1 => by
    obtain ⟨ds, rfl, hl, hR⟩ := wDats_of hw1
    exact ⟨by rw [r1.dats.length]; exact hl, fun p hp => new_lst h1.hc r1.dats (fun z H' ad' x2 k2 r2 => q _ c1 z H' ad' hR (x1.trans h1.hc x2) (h1.to x2 k2) r2) hp⟩, qx⟩
/-- a list that will be changed -/
def wLstC (wA : WpA) : WpE := fun sl cs R Rx => wA sl cs (fun ss c1 => wDats ss fun ds => ds.length ≤ sizeLine ∧ R (.cel c1.length) (c1 ++ [.lst ds])) Rx
theorem je_lstC (ha : JA X T W es wA) : JE X T W (.List es pos) (wLstC wA) :=
  weak (pe_lst ha) fun σ H Q ⟨ad, F, sl, cs, R, Rx, h0, hw, q, qx⟩ => ⟨ad, F, sl, cs, _, Rx, h0, hw, fun ss c1 vs H1 ad1 hw1 x1 h1 r1 => by
    obtain ⟨ds, rfl, hl, hR⟩ := wDats_of hw1
    exact ⟨by rw [r1.dats.length]; exact hl, fun p hp => new_lstC h1.hc r1.dats (fun z H' ad' x2 k2 r2 => q _ _ z H' ad' hR (x1.trans h1.hc x2) (h1.to x2 k2) r2) hp⟩, qx⟩
/-! ### tests -/
def wTru (w : WpE) : WpT := fun sl cs R Rx => w sl cs (fun s c => truW s c fun b => R b c) Rx
theorem jt_val (h : JE X T W e w) (he : ∀ whole, isTrue e X.env whole = (do let v ← whole; standAt e.pos; holding [v] (truthy v)) := by intro _; rfl) : JT X T W e (wTru w) :=
  weakT (pt_truth h he) fun σ H Q ⟨ad, F, sl, cs, R, Rx, h0, hw, q, qx⟩ => ⟨ad, F, sl, cs, _, Rx, h0, hw, fun s1 c1 v H1 ad1 hw1 x1 h1 r1 => by
    obtain ⟨b, tb, hR⟩ := truW_of (T := T) (K := X.K) hw1
    exact ⟨b, tb ad1 F H1 v h1.hc r1, q b c1 H1 ad1 hR x1 h1⟩, qx⟩
def wBl (w : WpE) : WpT := fun sl cs R Rx => w sl cs (fun s c => isB s fun b => R b c) Rx
theorem jt_cmp {op : CmpOp} {ow : W2} (ho : JCmp X T op ow) (ha : JE X T W a wa) (hb : JE X T W b wb) (hm : behindInMarks op b = false := by first | exact nomark _ | rfl) : JT X T W (.Compare a [op] [b] pos) (wBl (wTwo wa wb ow)) :=
  weakT (pt_cmpR opAll ha hb hm) fun σ H Q ⟨ad, F, sl, cs, R, Rx, h0, hw, q, qx⟩ => ⟨ad, F, sl, cs, _, Rx, h0, hw, fun s1 c1 v H1 ad1 hw1 x1 h1 r1 => ⟨ad1, F, sl, c1, _, Rx, h1, hw1, fun s2 c2 v2 H2 ad2 hw2 x2 h2 r2 => by
    obtain ⟨s, c3, ⟨r, o1, o2⟩, hR⟩ := ho _ _ _ _ hw2
    obtain ⟨k, rfl, hR⟩ := isB_of hR
    refine ⟨r, o1, o2 ad2 F H2 v v2 _ h2.hc (r1.ext x2) r2 fun z H3 ad3 x3 k3 r3 => ?_⟩
    cases r3
    exact ⟨k, rfl, q k c3 H3 ad3 hR (x1.trans h1.hc (x2.trans h2.hc x3)) (h2.to x3 k3)⟩, qx.on x1 h1⟩, qx⟩
def wNotT (wt : WpT) : WpT := fun sl cs R Rx => wt sl cs (fun b c => R (!b) c) Rx
theorem jt_not (h : JT X T W a wt) : JT X T W (.UnaryOp .Not a pos) (wNotT wt) := weakT (pt_not h) fun σ H Q ⟨ad, F, sl, cs, R, Rx, h0, hw, q, qx⟩ => ⟨ad, F, sl, cs, _, Rx, h0, hw, fun b c1 H1 ad1 hw1 x1 h1 => q _ c1 H1 ad1 hw1 x1 h1, qx⟩
theorem JW.jt (h : JW X T W e wt) : JT X T W e wt := PW.pt h
theorem jw_and1 (h : JT X T W a wt) : JW X T W (.BoolOp .And [a] pos) wt := pw_and1 h
theorem jw_or1 (h : JT X T W a wt) : JW X T W (.BoolOp .Or [a] pos) wt := pw_or1 h
def wAndT (w1 w2 : WpT) : WpT := fun sl cs R Rx => w1 sl cs (fun k c => Br k (w2 sl c R Rx) (R false c)) Rx
def wOrT (w1 w2 : WpT) : WpT := fun sl cs R Rx => w1 sl cs (fun k c => Br k (R true c) (w2 sl c R Rx)) Rx
theorem jw_and (ha : JT X T W a wt1) (hb : JW X T W (.BoolOp .And (b :: rest) pos) wt2) : JW X T W (.BoolOp .And (a :: b :: rest) pos) (wAndT wt1 wt2) :=
  weakW (pw_and ha hb) fun σ H Q ⟨ad, F, sl, cs, R, Rx, h0, hw, q, qx⟩ => ⟨ad, F, sl, cs, _, Rx, h0, hw, fun k c1 H1 ad1 hw1 x1 h1 => by
    cases k with
    | true => exact iteT ⟨ad1, F, sl, c1, _, Rx, h1, hw1.t rfl, fun k c2 H2 ad2 hw2 x2 h2 => q k c2 H2 ad2 hw2 (x1.trans h1.hc x2) h2, qx.on x1 h1⟩
    | false => exact iteF (q false c1 H1 ad1 (hw1.f rfl) x1 h1), qx⟩
theorem jw_or (ha : JT X T W a wt1) (hb : JW X T W (.BoolOp .Or (b :: rest) pos) wt2) : JW X T W (.BoolOp .Or (a :: b :: rest) pos) (wOrT wt1 wt2) :=
  weakW (pw_or ha hb) fun σ H Q ⟨ad, F, sl, cs, R, Rx, h0, hw, q, qx⟩ => ⟨ad, F, sl, cs, _, Rx, h0, hw, fun k c1 H1 ad1 hw1 x1 h1 => by
    cases k with
    | false => exact iteF ⟨ad1, F, sl, c1, _, Rx, h1, hw1.f rfl, fun k c2 H2 ad2 hw2 x2 h2 => q k c2 H2 ad2 hw2 (x1.trans h1.hc x2) h2, qx.on x1 h1⟩
    | true => exact iteT (q true c1 H1 ad1 (hw1.t rfl) x1 h1), qx⟩
/-! ### and, or, not, if as values -/
theorem je_one {op} (h : JE X T W a w) : JE X T W (.BoolOp op [a] pos) w := pe_one h
def wAndV (w1 w2 : WpE) : WpE := fun sl cs R Rx => w1 sl cs (fun s c => isB s fun k => Br k (w2 sl c R Rx) (R (.dat (.bl false)) c)) Rx
def wOrV (w1 w2 : WpE) : WpE := fun sl cs R Rx => w1 sl cs (fun s c => isB s fun k => Br k (R (.dat (.bl true)) c) (w2 sl c R Rx)) Rx
theorem je_and (ha : JE X T W a wa) (hb : JE X T W (.BoolOp .And (b :: rest) pos) wb) : JE X T W (.BoolOp .And (a :: b :: rest) pos) (wAndV wa wb) :=
  weak (pe_and ha hb) fun σ H Q ⟨ad, F, sl, cs, R, Rx, h0, hw, q, qx⟩ => ⟨ad, F, sl, cs, _, Rx, h0, hw, fun s1 c1 v H1 ad1 hw1 x1 h1 r1 => by
    have hw2 := isB_of hw1
    clear hw1
    obtain ⟨k, e0, hw1⟩ := hw2
    subst e0
    cases r1
    refine ⟨k, rfl, ?_⟩
    cases k with
    | true => exact iteT ⟨ad1, F, sl, c1, _, Rx, h1, hw1.t rfl, fun s2 c2 v2 H2 ad2 hw2 x2 h2 r2 => q s2 c2 v2 H2 ad2 hw2 (x1.trans h1.hc x2) h2 r2, qx.on x1 h1⟩
    | false => exact iteF (q _ c1 _ H1 ad1 (hw1.f rfl) x1 h1 Rep.bl), qx⟩
theorem je_or (ha : JE X T W a wa) (hb : JE X T W (.BoolOp .Or (b :: rest) pos) wb) : JE X T W (.BoolOp .Or (a :: b :: rest) pos) (wOrV wa wb) :=
  weak (pe_or ha hb) fun σ H Q ⟨ad, F, sl, cs, R, Rx, h0, hw, q, qx⟩ => ⟨ad, F, sl, cs, _, Rx, h0, hw, fun s1 c1 v H1 ad1 hw1 x1 h1 r1 => by
    have hw2 := isB_of hw1
    clear hw1
    obtain ⟨k, e0, hw1⟩ := hw2
    subst e0
    cases r1
    refine ⟨k, rfl, ?_⟩
    cases k with
    | false => exact iteF ⟨ad1, F, sl, c1, _, Rx, h1, hw1.f rfl, fun s2 c2 v2 H2 ad2 hw2 x2 h2 r2 => q s2 c2 v2 H2 ad2 hw2 (x1.trans h1.hc x2) h2 r2, qx.on x1 h1⟩
    | true => exact iteT (q _ c1 _ H1 ad1 (hw1.t rfl) x1 h1 Rep.bl), qx⟩
def wNotV (w : WpE) : WpE := fun sl cs R Rx => w sl cs (fun s c => truW s c fun k => R (.dat (.bl (!k))) c) Rx
theorem je_not (ha : JE X T W a wa) : JE X T W (.UnaryOp .Not a pos) (wNotV wa) :=
  weak (pe_notT ha) fun σ H Q ⟨ad, F, sl, cs, R, Rx, h0, hw, q, qx⟩ => ⟨ad, F, sl, cs, _, Rx, h0, hw, fun s1 c1 v H1 ad1 hw1 x1 h1 r1 => by
    obtain ⟨k, tb, hR⟩ := truW_of (T := T) (K := X.K) hw1
    exact ⟨k, tb ad1 F H1 v h1.hc r1, q _ c1 _ H1 ad1 hR x1 h1 Rep.bl⟩, qx⟩
def wIf (wt : WpT) (wa wb : WpE) : WpE := fun sl cs R Rx => wt sl cs (fun k c => Br k (wa sl c R Rx) (wb sl c R Rx)) Rx
theorem je_if (hc : JT X T W c wt) (ha : JE X T W a wa) (hb : JE X T W b wb) : JE X T W (.IfExp c a b pos) (wIf wt wa wb) :=
  weak (pe_ifExp hc ha hb) fun σ H Q ⟨ad, F, sl, cs, R, Rx, h0, hw, q, qx⟩ => ⟨ad, F, sl, cs, _, Rx, h0, hw, fun k c1 H1 ad1 hw1 x1 h1 => by
    cases k with
    | true => exact iteT ⟨ad1, F, sl, c1, _, Rx, h1, hw1.t rfl, fun s2 c2 v2 H2 ad2 hw2 x2 h2 r2 => q s2 c2 v2 H2 ad2 hw2 (x1.trans h1.hc x2) h2 r2, qx.on x1 h1⟩
    | false => exact iteF ⟨ad1, F, sl, c1, _, Rx, h1, hw1.f rfl, fun s2 c2 v2 H2 ad2 hw2 x2 h2 r2 => q s2 c2 v2 H2 ad2 hw2 (x1.trans h1.hc x2) h2 r2, qx.on x1 h1⟩, qx⟩
/-! ### slices -/
abbrev WpO := Sls → List Cell → (Option Int → List Cell → Prop) → RX → Prop
def tJO (T : Tab) (K : PySem.W.Frag) (W : WX) (w : WpO) : TO := fun σ H Q => ∃ ad F sl cs R Rx, Hold T K ⟨sl, cs⟩ ad F σ H ∧ w sl cs R Rx ∧ (∀ o c H' ad', R o c → Ext ad F H ad' H' → Hold T K ⟨sl, c⟩ ad' F σ H' → Q o H') ∧ Raz T K W σ ad F H sl Rx
def JO (X : Cx) (T : Tab) (W : WX) (e : Option Expr) (w : WpO) : Prop := PO X e (tJO T X.K W w)
def wO0 : WpO := fun _ cs R _ => R none cs
def wO1 (w : WpE) : WpO := fun sl cs R Rx => w sl cs (fun s c => match s with
  | .dat (.int i) => R (some i) c
  | _ => False) Rx
theorem jo_none : JO X T W none wO0 := weakO po_none fun σ H Q ⟨ad, F, sl, cs, R, Rx, h0, hw, q, qx⟩ => q none cs H ad hw .refl h0
theorem jo_some (he : JE X T W e w) : JO X T W (some e) (wO1 w) := weakO (po_some he) fun σ H Q ⟨ad, F, sl, cs, R, Rx, h0, hw, q, qx⟩ => ⟨ad, F, sl, cs, _, Rx, h0, hw, fun s1 c1 v H1 ad1 hw1 x1 h1 r1 => by
    split at hw1
    · cases r1
      exact ⟨_, rfl, q _ c1 H1 ad1 hw1 x1 h1⟩
    · exact hw1.elim, qx⟩
theorem slAll : SlR X (fun x l u H Q => ∃ r, SlR X r ∧ r x l u H Q) := fun pins s σ H x v vl vu l u sl Q I rx h1 h2 h3 ⟨r, o, h⟩ => o pins s σ H x v vl vu l u sl Q I rx h1 h2 h3 h
def wSlc (wa : WpE) (wl wu : WpO) : WpE := fun sl cs R Rx => wa sl cs (fun s1 c1 => wl sl c1 (fun l c2 => wu sl c2 (fun u c3 => slcW s1 l u c3 R) Rx) Rx) Rx
theorem slcW_of {s1 : Sl} {l u : Option Int} {cs : List Cell} {R : RV} (h : slcW s1 l u cs R) : ∃ s, SlcD X T s1 l u cs s cs ∧ R s cs := by
  unfold slcW at h
  split at h
  · exact ⟨_, slc_T, h⟩
  · obtain ⟨ds, h1, h⟩ := wL_of h
    exact ⟨_, slc_L h1, h⟩
theorem je_slice {wl wu : WpO} (ha : JE X T W e wa) (hl : JO X T W lo wl) (hu : JO X T W hi wu) : JE X T W (.Subscript e (.Slice lo hi none p2) pos) (wSlc wa wl wu) :=
  weak (pe_slice slAll ha hl hu) fun σ H Q ⟨ad, F, sl, cs, R, Rx, h0, hw, q, qx⟩ => ⟨ad, F, sl, cs, _, Rx, h0, hw, fun s1 c1 v H1 ad1 hw1 x1 h1 r1 => ⟨ad1, F, sl, c1, _, Rx, h1, hw1, fun l c2 H2 ad2 hw2 x2 h2 => ⟨ad2, F, sl, c2, _, Rx, h2, hw2, fun u c3 H3 ad3 hw3 x3 h3 => by
    obtain ⟨s, ⟨r, o1, o2⟩, hR⟩ := slcW_of (X := X) (T := T) hw3
    exact ⟨r, o1, o2 ad3 F H3 v Q h3.hc ((r1.ext x2).ext x3) fun z H4 ad4 x4 k4 r4 => q s c3 z H4 ad4 hR (x1.trans h1.hc (x2.trans h2.hc (x3.trans h3.hc x4))) (h3.to x4 k4) r4⟩, (qx.on x1 h1).on x2 h2⟩, qx.on x1 h1⟩, qx⟩
/-! ### calls of builtins -/
def wCb (wA : WpA) (cw : WC) : WpE := fun sl cs R Rx => wA sl cs (fun ss c1 => cw ss c1 R) Rx
theorem cb_then {x : Str} {cw : WC} {u : Value} (hJ : JCall X T x cw) (hu : bootBuiltins x = some u) {σ : St} {H : Hp} {Q : VK} (h : tJ T X.K W (wCb wA cw) σ H Q) : tCB (fun xs H Q => ∃ r, CallR X u r ∧ r xs H Q) (tJA T X.K W wA) σ H Q := by
  obtain ⟨ad, F, sl, cs, R, Rx, h0, hw, q, qx⟩ := h
  refine ⟨ad, F, sl, cs, _, Rx, h0, hw, fun ss c1 vs H1 ad1 hw1 x1 h1 r1 => ?_, qx⟩
  obtain ⟨s, c2, ⟨u', r, e1, _, o1, o2⟩, hR⟩ := hJ.run _ _ _ hw1
  rw [hu] at e1
  cases e1
  exact ⟨r, o1, o2 ad1 F H1 vs Q h1.hc r1 fun z H3 ad3 x3 k3 r3 => q s c2 z H3 ad3 hR (x1.trans h1.hc x3) (h1.to x3 k3) r3⟩
theorem je_cb {x : Str} {cw : WC} (hm : X.mg x = none) (hJ : JCall X T x cw) (ha : JA X T W (e :: es) wA) (hg : Gl X x := by rfl) (hn : x ≠ "__name__" := by decide) (hdb : (x == ("__debug__" : Str)) = false := by decide)
    (he : starEach (e :: es) X.env = (false, eval e X.env) :: starEach es X.env := by rfl) (hpl : (backTo pos (starEach es X.env)).any (·.1) = false := by rfl) : JE X T W (.Call (.Name x p) (e :: es) [] pos) (wCb wA cw) := by
  obtain ⟨u, hv, ⟨id, rfl⟩ | ⟨id, rfl⟩⟩ := hJ.bo
  · exact weak (pe_callB callAll hg hm hv ha hn hdb he hpl) fun σ H Q z => cb_then hJ hv z
  · exact weak (pe_callTy callAll hg hm hv ha hn hdb he hpl) fun σ H Q z => cb_then hJ hv z
end
end Dl

namespace Dl
open PySem L2
/-- one of two readings -/
theorem je_alt {X : Cx} {T : Tab} {W : WX} {e : Expr} {v w : WpE} (h1 : JE X T W e v) (h2 : JE X T W e w) : JE X T W e (fun sl cs R Rx => v sl cs R Rx ∨ w sl cs R Rx) := ⟨fun pins s σ H Q I ⟨ad, F, sl, cs, R, Rx, h0, hw, q, qx⟩ => hw.elim (fun hw => h1.run pins s σ H Q I ⟨ad, F, sl, cs, R, Rx, h0, hw, q, qx⟩) fun hw => h2.run pins s σ H Q I ⟨ad, F, sl, cs, R, Rx, h0, hw, q, qx⟩⟩
/-! ### calls of defs -/
def cells1 : List Sl → Option (Option Nat)
  | [] => some none
  | .dat _ :: r => cells1 r
  | .cel k :: r => match cells1 r with
    | some none => some (some k)
    | some (some j) => if j == k then some (some k) else none
    | none => none
theorem cells1_none : ∀ {ss : List Sl}, cells1 ss = some none → ∃ ds : List D, ss = ds.map Sl.dat
  | [], _ => ⟨[], rfl⟩
  | .dat d :: r, h => let ⟨ds, e⟩ := cells1_none (ss := r) h; ⟨d :: ds, by rw [e]; rfl⟩
  | .cel k :: r, h => by
    unfold cells1 at h
    split at h
    · cases h
    · split at h <;> cases h
    · cases h
theorem cells1_dat (k : Nat) : ∀ {ss : List Sl}, cells1 ss = some none → ss.all (onlyCell k) = true
  | [], _ => rfl
  | .dat d :: r, h => by rw [List.all_cons, cells1_dat k (ss := r) h]; rfl
  | .cel k :: r, h => by
    unfold cells1 at h
    split at h
    · cases h
    · split at h <;> cases h
    · cases h
theorem cells1_some {k : Nat} : ∀ {ss : List Sl}, cells1 ss = some (some k) → ss.all (onlyCell k) = true
  | .dat d :: r, h => by rw [List.all_cons, cells1_some (ss := r) h]; rfl
  | .cel j :: r, h => by
    rw [List.all_cons]
    unfold cells1 at h
    split at h
    · rename_i e
      cases h
      rw [cells1_dat k e]
      simp [onlyCell]
    · rename_i m e
      split at h
      · rename_i q
        cases h
        have q := beq_iff_eq.mp q
        subst q
        rw [cells1_some (ss := r) e]
        simp [onlyCell]
      · cases h
    · cases h
/-- what a call leaves: data, or a new cell -/
def aft (s : Sl) (cs0 cs : List Cell) (R : RV) : Prop := match s, cs0 with
  | .dat d, [] => R (.dat d) cs
  | .cel 0, [c0] => R (.cel cs.length) (cs ++ [c0])
  | _, _ => False
/-- a call by its contract: no cell is handed in, or one -/
def callW (c : Ct) (ss : List Sl) (cs : List Cell) (R : RV) : Prop := match cells1 ss with
  | some none => ∃ s cs0, c ss [] s cs0 ∧ aft s cs0 cs R
  | some (some k) => match cs[k]? with
    | some c0 => ∃ d c1, c (ss.map low) [c0] (.dat d) [c1] ∧ R (.dat d) (cs.set k c1)
    | none => False
  | none => False
def callXW (c : Ct) (cx : CtX) (ss : List Sl) (cs : List Cell) (R : RV) (Rx : RX) : Prop := callW c ss cs R ∨ (cells1 ss = some none ∧ ∃ x, cx ss [] x [] ∧ Rx x cs)
section
variable {X : Cx} {T : Tab} {W : WX} {a b e o : Expr} {es : List Expr} {kws : List Keyword} {pos p apos : Pos} {wa wb w wo : WpE} {wA wB : WpA} {c : Ct} {cx : CtX} {k : Nat} {f : Addr} {fd : FuncData} {ps ks : List Str} {y m : Str} {C g : Addr} {fn : List Str} {cn : Nat}
theorem callW_then {K : PySem.W.Frag} {ad : List Addr} {F : Addr → Prop} {H : Hp} {cs : List Cell} {vs : List V} {ss : List Sl} {R : RV} {Q : VK} {E : XK} (h : HoldC T K ad F H cs) (r : SlReps T K ad F H vs ss) (hw : callW c ss cs R)
    (q : ∀ s c' v H' ad', R s c' → Ext ad F H ad' H' → HoldC T K ad' F H' c' → SlRep T K ad' F H' v s → Q v H') : spC T K c vs H Q E := by
  unfold callW at hw
  split at hw
  · rename_i q1
    obtain ⟨ds, rfl⟩ := cells1_none q1
    obtain ⟨s, cs0, hc, hw⟩ := hw
    unfold aft at hw
    split at hw
    · exact spC0 hc h r fun v H' x2 c2 r2 => q _ _ v H' ad hw x2 c2 r2
    · exact spCN hc h r fun v H' a x2 c2 e => q _ _ v H' _ hw x2 c2 ⟨a, by rw [← h.ln, List.getElem?_append_right (Nat.le_refl _), Nat.sub_self]; rfl, e⟩
    · exact hw.elim
  · rename_i j q1
    split at hw
    · rename_i c0 e0
      obtain ⟨d, cc, hc, hw⟩ := hw
      exact spC1 e0 (cells1_some q1) hc h r fun v H' x2 c2 r2 => q _ _ v H' ad hw x2 c2 r2
    · exact hw.elim
  · exact hw.elim
theorem callXW_then {K : PySem.W.Frag} {ad : List Addr} {F : Addr → Prop} {H : Hp} {cs : List Cell} {vs : List V} {ss : List Sl} {R : RV} {Rx : RX} {Q : VK} {E : XK} (h : HoldC T K ad F H cs) (r : SlReps T K ad F H vs ss) (hw : callXW c cx ss cs R Rx)
    (q : ∀ s c' v H' ad', R s c' → Ext ad F H ad' H' → HoldC T K ad' F H' c' → SlRep T K ad' F H' v s → Q v H') (qx : ∀ x c' cls d H' ad', Rx x c' → Ext ad F H ad' H' → HoldC T K ad' F H' c' → ExRep T K (Mm ad' F) H' cls d x → E cls d H') : spX T K c cx vs H Q E := by
  rcases hw with hw | ⟨q1, x, hx, hw⟩
  · exact .inl (callW_then h r hw q)
  · obtain ⟨ds, rfl⟩ := cells1_none q1
    exact spX_at hx h r fun cls d H' x2 c2 er => qx x cs cls d H' ad hw x2 c2 er
def wFn (c : Ct) (wA : WpA) : WpE := fun sl cs R Rx => wA sl cs (fun ss c1 => callW c ss c1 R) Rx
def wFnX (c : Ct) (cx : CtX) (wA : WpA) : WpE := fun sl cs R Rx => wA sl cs (fun ss c1 => callXW c cx ss c1 R Rx) Rx
theorem je_call (G : FnOk X.prog X.w X.K X.mg X.base CX0 k f fd ps (spC T X.K c)) (hr : Room k X.A) (hm : X.mg y = some (.ref f)) (hk : PySem.W.keepIn X.K (.ref f) = true) (hb : Binds X.K fd ps []) (ha : JA X T W (e :: es) wA) (hg : Gl X y := by rfl) (hdb : (y == ("__debug__" : Str)) = false := by decide)
    (he : starEach (e :: es) X.env = (false, eval e X.env) :: starEach es X.env := by rfl) (hpl : (backTo pos (starEach es X.env)).any (·.1) = false := by rfl) : JE X T W (.Call (.Name y p) (e :: es) [] pos) (wFn c wA) :=
  weak (pe_call G hr hg hm hk hb .nil pass0 ha hdb he hpl) fun σ H Q ⟨ad, F, sl, cs, R, Rx, h0, hw, q, qx⟩ => ⟨ad, F, sl, cs, _, Rx, h0, hw, fun ss c1 vs H1 ad1 hw1 x1 h1 r1 => by
    show spC T X.K c (vs ++ []) H1 Q E0
    rw [List.append_nil]
    exact callW_then h1.hc r1 hw1 fun s c' v H' ad' hR x2 k2 r2 => q s c' v H' ad' hR (x1.trans h1.hc x2) (h1.to x2 k2) r2, qx⟩
theorem je_callX (tk : Takes X W) (G : FnOk X.prog X.w X.K X.mg X.base (L2.CX X.prog X.w) k f fd ps (spX T X.K c cx)) (hr : Room k X.A) (hm : X.mg y = some (.ref f)) (hk : PySem.W.keepIn X.K (.ref f) = true) (hb : Binds X.K fd ps []) (ha : JA X T W (e :: es) wA) (hg : Gl X y := by rfl) (hdb : (y == ("__debug__" : Str)) = false := by decide)
    (he : starEach (e :: es) X.env = (false, eval e X.env) :: starEach es X.env := by rfl) (hpl : (backTo pos (starEach es X.env)).any (·.1) = false := by rfl) : JE X T W (.Call (.Name y p) (e :: es) [] pos) (wFnX c cx wA) :=
  weak (pe_callS (E := WE W) G hr hg hm hk hb (passAt tk) ha hdb he hpl) fun σ H Q ⟨ad, F, sl, cs, R, Rx, h0, hw, q, qx⟩ => ⟨ad, F, sl, cs, _, Rx, h0, hw, fun ss c1 vs H1 ad1 hw1 x1 h1 r1 =>
    callXW_then h1.hc r1 hw1 (fun s c' v H' ad' hR x2 k2 r2 => q s c' v H' ad' hR (x1.trans h1.hc x2) (h1.to x2 k2) r2) (fun x c' cls d H' ad' hR x2 k2 er => qx x c' cls d H' ad' hR (x1.trans h1.hc x2) (h1.to x2 k2) er), qx⟩
/-! ### attributes -/
/-- the instance of class cn, and its attribute -/
def fldW (cn : Nat) (fn : List Str) (m : Str) (s : Sl) (cs : List Cell) (k : D → Prop) : Prop := match s with
  | .dat (.obj n ds) => n = cn ∧ match fIdx fn m with
    | some j => match ds[j]? with
      | some d => k d
      | none => False
    | none => False
  | .cel i => match cs[i]? with
    | some (.ins n fs) => n = cn ∧ match fs.lookup m with
      | some d => k d
      | none => False
    | _ => False
  | _ => False
theorem look_zip {K : PySem.W.Frag} {M : Addr → Prop} {H : Hp} {d : D} : ∀ {fs : List (Str × D)} {vs : List V}, fs.lookup m = some d → Reps T K M H vs (fs.map (·.2)) → ∃ v, ((fs.map (·.1)).zip vs).lookup m = some v ∧ Rep T K M H v d
  | [], _, h, _ => nomatch h
  | (g, d') :: fs, _, h, .cons (v := v) (vs := vs) r rs => by
    rw [List.lookup_cons] at h
    show ∃ w, ((g, v) :: (fs.map (·.1)).zip vs).lookup m = some w ∧ _
    rw [List.lookup_cons]
    cases q : m == g with
    | true =>
      rw [q] at h
      cases h
      exact ⟨v, rfl, r⟩
    | false =>
      rw [q] at h
      exact look_zip h rs
def wFld (cn : Nat) (fn : List Str) (m : Str) (w : WpE) : WpE := fun sl cs R Rx => w sl cs (fun s c => fldW cn fn m s c fun d => R (.dat d) c) Rx
theorem je_fld (hT : T cn = some (C, fn)) (hc : Cls X.K C) (hn : NoAttr X.K C m) (he : JE X T W e w) (hb : attributeBase e m X.env (eval e X.env) = eval e X.env := by rfl) : JE X T W (.Attribute e m pos) (wFld cn fn m w) :=
  weak (pe_fld he hb) fun σ H Q ⟨ad, F, sl, cs, R, Rx, h0, hw, q, qx⟩ => ⟨ad, F, sl, cs, _, Rx, h0, hw, fun s c1 v H1 ad1 hw1 x1 h1 r1 => by
    unfold fldW at hw1
    split at hw1
    · obtain ⟨rfl, hw1⟩ := hw1
      split at hw1
      · rename_i j hf
        split at hw1
        · rename_i d hd
          cases r1 with
          | @obj a C' dx _ fn' vs _ ht na e1 hl r =>
            rw [hT] at ht
            cases ht
            obtain ⟨w, g1, g2⟩ := fIdx_look hf hl
            obtain ⟨d', g3, g4⟩ := r.getV g1
            rw [hd] at g3
            cases g3
            exact ⟨a, C, dx, _, w, rfl, e1, hc, hn, g2, q _ c1 w H1 ad1 hw1 x1 h1 g4⟩
        · exact hw1.elim
      · exact hw1.elim
    · split at hw1
      · rename_i i _ n fs e0
        obtain ⟨rfl, hw1⟩ := hw1
        split at hw1
        · rename_i d hd
          obtain ⟨a, ha, rfl⟩ := r1
          obtain ⟨C', fn', dx, vs, ht, e1, hl, rr⟩ := h1.hc.ce i a _ ha e0
          rw [hT] at ht
          cases ht
          obtain ⟨v, g1, g2⟩ := look_zip hd rr
          exact ⟨a, C, dx, _, v, rfl, e1, hc, hn, g1, q _ c1 v H1 ad1 hw1 x1 h1 g2⟩
        · exact hw1.elim
      · exact hw1.elim
    · exact hw1.elim, qx⟩
/-! ### methods -/
/-- an instance of class cn that has no attribute m of its own -/
def recvW (cn : Nat) (m : Str) (s : Sl) (cs : List Cell) : Prop := match s with
  | .dat (.obj n _) => n = cn
  | .cel i => match cs[i]? with
    | some (.ins n fs) => n = cn ∧ fIdx (fs.map (·.1)) m = none
    | _ => False
  | _ => False
theorem recvW_of {K : PySem.W.Frag} {ad : List Addr} {F : Addr → Prop} {H : Hp} {cs : List Cell} {v : V} {s : Sl} (hT : T cn = some (C, fn)) (hf : fIdx fn m = none) (h : HoldC T K ad F H cs) (r : SlRep T K ad F H v s) (hw : recvW cn m s cs) : ∃ a dx fs, v = .ref a ∧ H a = some (.ins C dx fs) ∧ fs.lookup m = none := by
  unfold recvW at hw
  split at hw
  · subst hw
    cases r with
    | @obj a C' dx _ fn' vs _ ht na e1 hl r =>
      rw [hT] at ht
      cases ht
      exact ⟨a, dx, _, rfl, e1, fIdx_none hf⟩
  · split at hw
    · rename_i i _ n fs e0
      obtain ⟨rfl, hw⟩ := hw
      obtain ⟨a, ha, rfl⟩ := r
      obtain ⟨C', fn', dx, vs, ht, e1, hl, rr⟩ := h.ce i a _ ha e0
      rw [hT] at ht
      cases ht
      exact ⟨a, dx, _, rfl, e1, fIdx_none hw⟩
    · exact hw.elim
  · exact hw.elim
def wMeth (cn : Nat) (m : Str) (c : Ct) (wo : WpE) (wA : WpA) : WpE := fun sl cs R Rx => wo sl cs (fun s c1 => recvW cn m s c1 ∧ wA sl c1 (fun ss c2 => callW c (s :: ss) c2 R) Rx) Rx
theorem je_meth {pl : Sem Bool} (hT : T cn = some (C, fn)) (hc : Cls X.K C) (hm : Meth X.K C m g) (hf : fIdx fn m = none) (G : FnOk X.prog X.w X.K X.mg X.base CX0 k g fd ps (spC T X.K c)) (hr : Room k X.A) (hb : Binds X.K fd ps [])
    (he : JE X T W o wo) (ha : JA X T W (e :: es) wA)
    (hst : starEach (e :: es) X.env = (false, eval e X.env) :: starEach es X.env := by rfl) (hpl : (backTo pos (starEach es X.env)).any (·.1) = false := by rfl)
    (ht : eval (.Call (.Attribute o m apos) (e :: es) [] pos) X.env = (do
      let ov ← eval o X.env
      standAt apos.atName
      let (f, first) ← holding [ov] (getMethod ov m pl)
      callWith pos f first (backTo pos (starEach (e :: es) X.env)) (backToKw pos (keywordEach [] X.env))) := by rfl) : JE X T W (.Call (.Attribute o m apos) (e :: es) [] pos) (wMeth cn m c wo wA) :=
  weak (pe_meth (pl := pl) he hc hm G hr hb .nil pass0 ha hst hpl ht) fun σ H Q ⟨ad, F, sl, cs, R, Rx, h0, hw, q, qx⟩ => ⟨ad, F, sl, cs, _, Rx, h0, hw, fun s c1 v H1 ad1 hw1 x1 h1 r1 => by
    obtain ⟨a, dx, fs, rfl, e1, e2⟩ := recvW_of hT hf h1.hc r1 hw1.1
    refine ⟨a, dx, fs, rfl, e1, e2, ad1, F, sl, c1, _, Rx, h1, hw1.2, fun ss c2 vs H2 ad2 hw2 x2 h2 r2 => ?_, qx.on x1 h1⟩
    show spC T X.K c (V.ref a :: (vs ++ [])) H2 Q E0
    rw [List.append_nil]
    exact callW_then (ss := s :: ss) h2.hc ⟨r1.ext x2, r2⟩ hw2 fun s' c' v H' ad' hR x3 k3 r3 => q s' c' v H' ad' hR (x1.trans h1.hc (x2.trans h2.hc x3)) (h2.to x3 k3) r3, qx⟩
def wMeth0 (cn : Nat) (m : Str) (c : Ct) (wo : WpE) : WpE := fun sl cs R Rx => wo sl cs (fun s c1 => recvW cn m s c1 ∧ callW c [s] c1 R) Rx
theorem je_meth0 {pl : Sem Bool} (hT : T cn = some (C, fn)) (hc : Cls X.K C) (hm : Meth X.K C m g) (hf : fIdx fn m = none) (G : FnOk X.prog X.w X.K X.mg X.base CX0 k g fd ps (spC T X.K c)) (hr : Room k X.A) (hb : Binds X.K fd ps [])
    (he : JE X T W o wo)
    (ht : eval (.Call (.Attribute o m apos) [] [] pos) X.env = (do
      let ov ← eval o X.env
      standAt apos.atName
      let (f, first) ← holding [ov] (getMethod ov m pl)
      callWith pos f first (backTo pos (starEach [] X.env)) (backToKw pos (keywordEach [] X.env))) := by rfl) : JE X T W (.Call (.Attribute o m apos) [] [] pos) (wMeth0 cn m c wo) :=
  weak (pe_meth0 (pl := pl) he hc hm G hr hb .nil pass0 ht) fun σ H Q ⟨ad, F, sl, cs, R, Rx, h0, hw, q, qx⟩ => ⟨ad, F, sl, cs, _, Rx, h0, hw, fun s c1 v H1 ad1 hw1 x1 h1 r1 => by
    obtain ⟨a, dx, fs, rfl, e1, e2⟩ := recvW_of hT hf h1.hc r1 hw1.1
    refine ⟨a, dx, fs, rfl, e1, e2, ?_⟩
    exact callW_then (E := E0) (ss := [s]) h1.hc ⟨r1, trivial⟩ hw1.2 fun s' c' v H' ad' hR x3 k3 r3 => q s' c' v H' ad' hR (x1.trans h1.hc x3) (h1.to x3 k3) r3, qx⟩
/-- a method that may raise -/
def wMethX (cn : Nat) (m : Str) (c : Ct) (cx : CtX) (wo : WpE) (wA : WpA) : WpE := fun sl cs R Rx => wo sl cs (fun s c1 => recvW cn m s c1 ∧ wA sl c1 (fun ss c2 => callXW c cx (s :: ss) c2 R Rx) Rx) Rx
theorem je_methX (tk : Takes X W) {pl : Sem Bool} (hT : T cn = some (C, fn)) (hc : Cls X.K C) (hm : Meth X.K C m g) (hf : fIdx fn m = none) (G : FnOk X.prog X.w X.K X.mg X.base (L2.CX X.prog X.w) k g fd ps (spX T X.K c cx)) (hr : Room k X.A) (hb : Binds X.K fd ps [])
    (he : JE X T W o wo) (ha : JA X T W (e :: es) wA)
    (hst : starEach (e :: es) X.env = (false, eval e X.env) :: starEach es X.env := by rfl) (hpl : (backTo pos (starEach es X.env)).any (·.1) = false := by rfl)
    (ht : eval (.Call (.Attribute o m apos) (e :: es) [] pos) X.env = (eval o X.env >>= fun ov => standAt apos.atName >>= fun _ => holding [ov] (getMethod ov m pl) >>= fun fb => callWith pos fb.1 fb.2 (backTo pos (starEach (e :: es) X.env)) (backToKw pos (keywordEach [] X.env))) := by rfl) : JE X T W (.Call (.Attribute o m apos) (e :: es) [] pos) (wMethX cn m c cx wo wA) :=
  weak (pe_methS (pl := pl) (E := WE W) he hc hm G hr hb (passAt tk) ha hst hpl ht) fun σ H Q ⟨ad, F, sl, cs, R, Rx, h0, hw, q, qx⟩ => ⟨ad, F, sl, cs, _, Rx, h0, hw, fun s c1 v H1 ad1 hw1 x1 h1 r1 => by
    obtain ⟨a, dx, fs, rfl, e1, e2⟩ := recvW_of hT hf h1.hc r1 hw1.1
    refine ⟨a, dx, fs, rfl, e1, e2, ad1, F, sl, c1, _, Rx, h1, hw1.2, fun ss c2 vs H2 ad2 hw2 x2 h2 r2 => ?_, qx.on x1 h1⟩
    exact callXW_then (ss := s :: ss) h2.hc ⟨r1.ext x2, r2⟩ hw2 (fun s' c' v H' ad' hR x3 k3 r3 => q s' c' v H' ad' hR (x1.trans h1.hc (x2.trans h2.hc x3)) (h2.to x3 k3) r3) (fun x c' cls d H' ad' hR x3 k3 er => qx x c' cls d H' ad' hR (x1.trans h1.hc (x2.trans h2.hc x3)) (h2.to x3 k3) er), qx⟩
/-- a property -/
def instW (cn : Nat) (s : Sl) (cs : List Cell) : Prop := match s with
  | .dat (.obj n _) => n = cn
  | .cel i => match cs[i]? with
    | some (.ins n fs) => n = cn
    | _ => False
  | _ => False
theorem instW_of {K : PySem.W.Frag} {ad : List Addr} {F : Addr → Prop} {H : Hp} {cs : List Cell} {v : V} {s : Sl} (hT : T cn = some (C, fn)) (h : HoldC T K ad F H cs) (r : SlRep T K ad F H v s) (hw : instW cn s cs) : ∃ a dx fs, v = .ref a ∧ H a = some (.ins C dx fs) := by
  unfold instW at hw
  split at hw
  · subst hw
    cases r with
    | @obj a C' dx _ fn' vs _ ht na e1 hl r =>
      rw [hT] at ht
      cases ht
      exact ⟨a, dx, _, rfl, e1⟩
  · split at hw
    · rename_i i _ n fs e0
      subst hw
      obtain ⟨a, ha, rfl⟩ := r
      obtain ⟨C', fn', dx, vs, ht, e1, hl, rr⟩ := h.ce i a _ ha e0
      rw [hT] at ht
      cases ht
      exact ⟨a, dx, _, rfl, e1⟩
    · exact hw.elim
  · exact hw.elim
def wPro (cn : Nat) (c : Ct) (w : WpE) : WpE := fun sl cs R Rx => w sl cs (fun s c1 => instW cn s c1 ∧ callW c [s] c1 R) Rx
theorem je_prop {pp : Addr} (hT : T cn = some (C, fn)) (hc : Cls X.K C) (hp : PropOf X.K C m pp g) (G : FnOk X.prog X.w X.K X.mg X.base CX0 k g fd ps (spC T X.K c)) (hr : Room (k + 1) X.A) (hb : Binds X.K fd ps []) (he : JE X T W e w) (hab : attributeBase e m X.env (eval e X.env) = eval e X.env := by rfl) :
    JE X T W (.Attribute e m pos) (wPro cn c w) :=
  weak (pe_prop he hc hp G hr hb .nil pass0 hab) fun σ H Q ⟨ad, F, sl, cs, R, Rx, h0, hw, q, qx⟩ => ⟨ad, F, sl, cs, _, Rx, h0, hw, fun s c1 v H1 ad1 hw1 x1 h1 r1 => by
    obtain ⟨a, dx, fs, rfl, e1⟩ := instW_of hT h1.hc r1 hw1.1
    refine ⟨a, dx, fs, rfl, e1, ?_⟩
    exact callW_then (E := E0) (ss := [s]) h1.hc ⟨r1, trivial⟩ hw1.2 fun s' c' v H' ad' hR x3 k3 r3 => q s' c' v H' ad' hR (x1.trans h1.hc x3) (h1.to x3 k3) r3, qx⟩
/-! ### new instances that stay as they are made -/
def makeW (cn : Nat) (fn : List Str) (c : Ct) (args : List D) (cs : List Cell) (R : RV) : Prop := ∃ ds : List D, c (.cel 0 :: args.map Sl.dat) [.ins cn []] (.dat .non) [.ins cn (fn.zip ds)] ∧ ds.length = fn.length ∧ R (.dat (.obj cn ds)) cs
def wMake (cn : Nat) (fn : List Str) (c : Ct) (wA : WpA) : WpE := fun sl cs R Rx => wA sl cs (fun ss c1 => wDats ss fun vs => makeW cn fn c vs c1 R) Rx
theorem je_make (hT : T cn = some (C, fn)) (M : Mk X.K C g) (G : FnOk X.prog X.w X.K X.mg X.base CX0 k g fd ps (spC T X.K c)) (hr : Room (k + 1) X.A) (hm : X.mg y = some (.ref C)) (hb : Binds X.K fd ps []) (ha : JA X T W (e :: es) wA) (hg : Gl X y := by rfl) (hdb : (y == ("__debug__" : Str)) = false := by decide)
    (he : starEach (e :: es) X.env = (false, eval e X.env) :: starEach es X.env := by rfl) (hpl : (backTo pos (starEach es X.env)).any (·.1) = false := by rfl) : JE X T W (.Call (.Name y p) (e :: es) [] pos) (wMake cn fn c wA) :=
  weak (pe_make M G hr hg hm hb .nil pass0 ha hdb he hpl) fun σ H Q ⟨ad, F, sl, cs, R, Rx, h0, hw, q, qx⟩ => ⟨ad, F, sl, cs, _, Rx, h0, hw, fun ss c1 ws H1 ad1 hw1 x1 h1 r1 => by
    obtain ⟨args, rfl, ds, hq, hl, hR⟩ := wDats_of hw1
    intro x dx hx hdx ne
    show spC T X.K c (V.ref x :: (ws ++ [])) _ _ E0
    rw [List.append_nil]
    exact mk_then hT h1.hc r1.dats hx hdx ne hq hl fun H' x3 c3 r3 => q _ c1 (.ref x) H' ad1 hR (x1.trans h1.hc x3) (h1.to x3 c3) r3, qx⟩
/-! ### keywords -/
def JK (X : Cx) (T : Tab) (W : WX) (kws : List Keyword) (w : WpA) : Prop := PK X kws (tJA T X.K W w)
theorem jk_nil : JK X T W [] wNil := weakK pk_nil fun σ H Q ⟨ad, F, sl, cs, R, Rx, h0, hw, q, qx⟩ => q [] cs [] H ad hw .refl h0 trivial
theorem jk_cons {nm : Option Str} {kpos : Pos} (ha : JE X T W e w) (hr : JK X T W kws wA) : JK X T W (⟨nm, e, kpos⟩ :: kws) (wCons w wA) :=
  weakK (pk_cons ha hr) fun σ H Q ⟨ad, F, sl, cs, R, Rx, h0, hw, q, qx⟩ => ⟨ad, F, sl, cs, _, Rx, h0, hw, fun s1 c1 v H1 ad1 hw1 x1 h1 r1 => ⟨ad1, F, sl, c1, _, Rx, h1, hw1, fun ss c2 vs H2 ad2 hw2 x2 h2 r2 => q _ c2 _ H2 ad2 hw2 (x1.trans h1.hc x2) h2 ⟨r1.ext x2, r2⟩, qx.on x1 h1⟩, qx⟩
def wMakeK (cn : Nat) (fn : List Str) (c : Ct) (pn kn : Nat) (fu : List D → List D → List D) (wA wK : WpA) : WpE := fun sl cs R Rx => wA sl cs (fun ss c1 => wDats ss fun vs => wK sl c1 (fun zz c2 => wDats zz fun zs => vs.length = pn ∧ zs.length = kn ∧ makeW cn fn c (fu vs zs) c2 R) Rx) Rx
theorem je_makeK {pn : Nat} {gV : List V → List V → List V} {fu : List D → List D → List D} {wK : WpA} (hT : T cn = some (C, fn)) (M : Mk X.K C g) (G : FnOk X.prog X.w X.K X.mg X.base CX0 k g fd ps (spC T X.K c)) (hr : Room (k + 1) X.A) (hm : X.mg y = some (.ref C)) (hb : ∃ gg, KBn X.K fd ps (pn + 1) ks gg gV)
    (hp : ∀ vs zs : List D, vs.length = pn → zs.length = ks.length → Put X.K gV vs zs (fu vs zs))
    (ha : JA X T W (e :: es) wA) (hkw : JK X T W kws wK) (hg : Gl X y := by rfl)
    (hall : (backToKw pos (keywordEach kws X.env)).all (·.1.isSome) = true := by rfl) (hks : (backToKw pos (keywordEach kws X.env)).filterMap (·.1) = ks := by rfl) (hdb : (y == ("__debug__" : Str)) = false := by decide)
    (he : starEach (e :: es) X.env = (false, eval e X.env) :: starEach es X.env := by rfl) (hpl : ((backTo pos (starEach (e :: es) X.env)).any (·.1) || (backToKw pos (keywordEach kws X.env)).any (·.1.isNone)) = false := by rfl) :
    JE X T W (.Call (.Name y p) (e :: es) kws pos) (wMakeK cn fn c pn ks.length fu wA wK) := by
  obtain ⟨gg, hb⟩ := hb
  exact weak (pe_makeK M G hr hg hm hb pass0 ha hkw hall hks hdb he hpl) fun σ H Q ⟨ad, F, sl, cs, R, Rx, h0, hw, q, qx⟩ => ⟨ad, F, sl, cs, _, Rx, h0, hw, fun ss c1 ws H1 ad1 hw1 x1 h1 r1 => by
    have hw1' := wDats_of hw1
    clear hw1
    obtain ⟨args, e0, hw1⟩ := hw1'
    subst e0
    refine ⟨ad1, F, sl, c1, _, Rx, h1, hw1, fun zz c2 zs H2 ad2 hw2 x2 h2 r2 => ?_, qx.on x1 h1⟩
    obtain ⟨kargs, rfl, l1, l2, ds, hq, hl, hR⟩ := wDats_of hw2
    have w1 := r1.dats
    have w2 := r2.dats
    refine ⟨by rw [w1.length]; exact l1, by rw [w2.length]; exact l2, fun x dx hx hdx ne => ?_⟩
    obtain ⟨us, e1, e2⟩ := hp args kargs l1 l2 (.ref x) ws zs w1.length w2.length
    rw [e1]
    exact mk_then hT h2.hc (e2 _ _ _ (w1.kp x2.kp) w2) hx hdx ne hq hl fun H' x3 c3 r3 => q _ c2 (.ref x) H' ad2 hR (x1.trans h1.hc (x2.trans h2.hc x3)) (h2.to x3 c3) r3, qx⟩
/-! ### operators of an own class -/
def isO (cn : Nat) : Sl → Bool
  | .dat (.obj n _) => n == cn
  | _ => false
def isI : Sl → Bool
  | .dat (.int _) => true
  | _ => false
/-- the one table where P holds, the other elsewhere -/
def selW (P : Sl → Sl → Bool) (v w : W2) : W2 := fun s1 s2 cs R => match P s1 s2 with
  | true => v s1 s2 cs R
  | false => w s1 s2 cs R
theorem jb_sel {op : Operator} {P : Sl → Sl → Bool} {v w : W2} (h1 : ∀ s1 s2 cs R, P s1 s2 = true → v s1 s2 cs R → ∃ s cs', BinD X T op s1 s2 cs s cs' ∧ R s cs') (h2 : JBin X T op w) : JBin X T op (selW P v w) := fun s1 s2 cs R h => by
  unfold selW at h
  split at h
  · exact h1 s1 s2 cs R ‹_› h
  · exact h2 s1 s2 cs R h
theorem ji_sel {op : Operator} {P : Sl → Sl → Bool} {v w : W2} (h1 : ∀ s1 s2 cs R, P s1 s2 = true → v s1 s2 cs R → ∃ s cs', IopD X T op s1 s2 cs s cs' ∧ R s cs') (h2 : JIop X T op w) : JIop X T op (selW P v w) := fun s1 s2 cs R h => by
  unfold selW at h
  split at h
  · exact h1 s1 s2 cs R ‹_› h
  · exact h2 s1 s2 cs R h
theorem jc_sel {op : CmpOp} {P : Sl → Sl → Bool} {v w : W2} (h1 : ∀ s1 s2 cs R, P s1 s2 = true → v s1 s2 cs R → ∃ s cs', CmpD X T op s1 s2 cs s cs' ∧ R s cs') (h2 : JCmp X T op w) : JCmp X T op (selW P v w) := fun s1 s2 cs R h => by
  unfold selW at h
  split at h
  · exact h1 s1 s2 cs R ‹_› h
  · exact h2 s1 s2 cs R h
def ownW (c : Ct) : W2 := fun s1 s2 cs R => ∃ d, c [s1, s2] [] (.dat d) [] ∧ R (.dat d) cs
def ownWR (c : Ct) : W2 := fun s1 s2 cs R => ∃ d, c [s2, s1] [] (.dat d) [] ∧ R (.dat d) cs
theorem isO_of {s : Sl} (h : isO cn s = true) : ∃ ds, s = .dat (.obj cn ds) := by
  unfold isO at h
  split at h
  · exact ⟨_, by rw [beq_iff_eq.mp h]⟩
  · cases h
theorem isI_of {s : Sl} (h : isI s = true) : ∃ i, s = .dat (.int i) := by
  unfold isI at h
  split at h
  · exact ⟨_, rfl⟩
  · cases h
def P2 (cn : Nat) (s1 s2 : Sl) : Bool := isO cn s1 && isO cn s2
def PI' (cn : Nat) (s1 s2 : Sl) : Bool := isO cn s1 && isI s2
def PR' (cn : Nat) (s1 s2 : Sl) : Bool := isI s1 && isO cn s2
variable {op : Operator} {w2 : W2}
theorem jb_o2 (hT : T cn = some (C, fn)) (O : OpC X.K C op g) (G : FnOk X.prog X.w X.K X.mg X.base CX0 k g fd ps (spC T X.K c)) (hr : Room k X.A) (hb : Binds X.K fd ps []) (h : JBin X T op w2) : JBin X T op (selW (P2 cn) (ownW c) w2) := jb_sel (fun s1 s2 cs R hP ⟨d, hq, hR⟩ => by
  obtain ⟨h1, h2⟩ := Bool.and_eq_true_iff.mp hP
  obtain ⟨ds, rfl⟩ := isO_of h1
  obtain ⟨es, rfl⟩ := isO_of h2
  exact ⟨_, _, bin_o2 hT O G hr hb hq, hR⟩) h
theorem jb_oI (hT : T cn = some (C, fn)) (O : OpC X.K C op g) (G : FnOk X.prog X.w X.K X.mg X.base CX0 k g fd ps (spC T X.K c)) (hr : Room k X.A) (hb : Binds X.K fd ps []) (h : JBin X T op w2) : JBin X T op (selW (PI' cn) (ownW c) w2) := jb_sel (fun s1 s2 cs R hP ⟨d, hq, hR⟩ => by
  obtain ⟨h1, h2⟩ := Bool.and_eq_true_iff.mp hP
  obtain ⟨ds, rfl⟩ := isO_of h1
  obtain ⟨i, rfl⟩ := isI_of h2
  exact ⟨_, _, bin_oI hT O G hr hb hq, hR⟩) h
theorem jb_oR (hT : T cn = some (C, fn)) (hn : IntNi op) (O : OpR' X.K C op g) (G : FnOk X.prog X.w X.K X.mg X.base CX0 k g fd ps (spC T X.K c)) (hr : Room k X.A) (hb : Binds X.K fd ps []) (h : JBin X T op w2) : JBin X T op (selW (PR' cn) (ownWR c) w2) := jb_sel (fun s1 s2 cs R hP ⟨d, hq, hR⟩ => by
  obtain ⟨h1, h2⟩ := Bool.and_eq_true_iff.mp hP
  obtain ⟨i, rfl⟩ := isI_of h1
  obtain ⟨ds, rfl⟩ := isO_of h2
  exact ⟨_, _, bin_ownR hT hn O G hr hb hq, hR⟩) h
theorem ji_o2 (hT : T cn = some (C, fn)) (N : NoIn X.K C op) (O : OpC X.K C op g) (G : FnOk X.prog X.w X.K X.mg X.base CX0 k g fd ps (spC T X.K c)) (hr : Room k X.A) (hb : Binds X.K fd ps []) (h : JIop X T op w2) : JIop X T op (selW (P2 cn) (ownW c) w2) := ji_sel (fun s1 s2 cs R hP ⟨d, hq, hR⟩ => by
  obtain ⟨h1, h2⟩ := Bool.and_eq_true_iff.mp hP
  obtain ⟨ds, rfl⟩ := isO_of h1
  obtain ⟨es, rfl⟩ := isO_of h2
  exact ⟨_, _, iop_o2 hT N O G hr hb hq, hR⟩) h
theorem ji_oI (hT : T cn = some (C, fn)) (N : NoIn X.K C op) (O : OpC X.K C op g) (G : FnOk X.prog X.w X.K X.mg X.base CX0 k g fd ps (spC T X.K c)) (hr : Room k X.A) (hb : Binds X.K fd ps []) (h : JIop X T op w2) : JIop X T op (selW (PI' cn) (ownW c) w2) := ji_sel (fun s1 s2 cs R hP ⟨d, hq, hR⟩ => by
  obtain ⟨h1, h2⟩ := Bool.and_eq_true_iff.mp hP
  obtain ⟨ds, rfl⟩ := isO_of h1
  obtain ⟨i, rfl⟩ := isI_of h2
  exact ⟨_, _, iop_oI hT N O G hr hb hq, hR⟩) h
theorem ji_add : JIop X T .Add (intW0 fun i j => .int (i + j)) := fun s1 s2 cs R h => by
  unfold intW0 at h
  split at h
  · exact ⟨_, _, iop_add, h⟩
  · exact h.elim
theorem ji_sub : JIop X T .Sub (intW0 fun i j => .int (i - j)) := fun s1 s2 cs R h => by
  unfold intW0 at h
  split at h
  · exact ⟨_, _, iop_sub, h⟩
  · exact h.elim
theorem ji_no {op : Operator} : JIop X T op (fun _ _ _ _ => False) := fun s1 s2 cs R h => h.elim
theorem jb_no {op : Operator} : JBin X T op (fun _ _ _ _ => False) := fun s1 s2 cs R h => h.elim
theorem jc_no {op : CmpOp} : JCmp X T op (fun _ _ _ _ => False) := fun s1 s2 cs R h => h.elim
theorem jc_o2 {op : CmpOp} (hT : T cn = some (C, fn)) (G : FnOk X.prog X.w X.K X.mg X.base CX0 k g fd ps (spC T X.K c)) (hr : Room k X.A) (hb : Binds X.K fd ps []) (hs : PySem.W.findIn X.K (.ref C) (cmpInfo op).2.1 = some (some (.ref g))) (hf : PySem.W.isFn X.K (.ref g) = true) (h : JCmp X T op w2) (ho : compareOp op = richCompare op := by rfl) : JCmp X T op (selW (P2 cn) (ownW c) w2) := jc_sel (fun s1 s2 cs R hP ⟨d, hq, hR⟩ => by
  obtain ⟨h1, h2⟩ := Bool.and_eq_true_iff.mp hP
  obtain ⟨ds, rfl⟩ := isO_of h1
  obtain ⟨es, rfl⟩ := isO_of h2
  exact ⟨_, _, cmp_own2 hT G hr hb hs hf hq ho, hR⟩) h
def selW1 (P : Sl → Bool) (v w : W1) : W1 := fun s1 cs R => match P s1 with
  | true => v s1 cs R
  | false => w s1 cs R
def ownW1 (c : Ct) : W1 := fun s1 cs R => ∃ d, c [s1] [] (.dat d) [] ∧ R (.dat d) cs
theorem ju_oN {w1 : W1} (hT : T cn = some (C, fn)) (G : FnOk X.prog X.w X.K X.mg X.base CX0 k g fd ps (spC T X.K c)) (hr : Room k X.A) (hb : Binds X.K fd ps []) (hs : PySem.W.findIn X.K (.ref C) "__neg__" = some (some (.ref g))) (hf : PySem.W.isFn X.K (.ref g) = true) (h : JUn X T .USub w1) : JUn X T .USub (selW1 (isO cn) (ownW1 c) w1) := fun s1 cs R hw => by
  unfold selW1 at hw
  split at hw
  · obtain ⟨ds, rfl⟩ := isO_of ‹_›
    obtain ⟨d, hq, hR⟩ := hw
    exact ⟨_, _, un_ownN hT G hr hb hs hf hq, hR⟩
  · exact h _ _ _ hw
theorem jc_absO {w1 : WC} (hT : T cn = some (C, fn)) (G : FnOk X.prog X.w X.K X.mg X.base CX0 k g fd ps (spC T X.K c)) (hr : Room (k + 1) X.A) (hb : Binds X.K fd ps []) (hs : PySem.W.findIn X.K (.ref C) "__abs__" = some (some (.ref g))) (hf : PySem.W.isFn X.K (.ref g) = true) : JCall X T "abs" (fun ss cs R => match ss with
    | [s] => match isO cn s with
      | true => ∃ d, c [s] [] (.dat d) [] ∧ R (.dat d) cs
      | false => absW ss cs R
    | _ => False) := ⟨jc_abs.bo (X := X) (T := T), fun ss cs R h => by
  split at h
  · split at h
    · obtain ⟨ds, rfl⟩ := isO_of ‹_›
      obtain ⟨d, hq, hR⟩ := h
      exact ⟨_, _, cb_absO hT G hr hb hs hf hq, hR⟩
    · exact jc_abs.run _ _ _ h
  · exact h.elim⟩
end
end Dl

namespace Dl
open PySem L2
/-! ### what a loop walks -/
abbrev WpI := Sls → List Cell → (List D → List Cell → Prop) → RX → Prop
def tJI (T : Tab) (K : PySem.W.Frag) (W : WX) (w : WpI) : TI := fun σ H Q => ∃ ad F sl cs R Rx, Hold T K ⟨sl, cs⟩ ad F σ H ∧ w sl cs R Rx ∧
  (∀ items c J H' ad', R items c → Ext ad F H ad' H' → Hold T K ⟨sl, c⟩ ad' F σ H' → ItOk T K F J items ad' H' → Q J H') ∧ Raz T K W σ ad F H sl Rx
def JI (X : Cx) (T : Tab) (W : WX) (tg it : Expr) (w : WpI) : Prop := PI X tg it (tJI T X.K W w)
section
variable {X : Cx} {tg : Expr}
def iVal (K : PySem.W.Frag) (tl : TE) : TI := fun σ H R => tl σ H fun x H1 => (∃ a xs, x = .ref a ∧ SqL K H1 a xs ∧ R (Itl K a) H1) ∨ (∃ a xs, x = .ref a ∧ SqT K H1 a xs ∧ R (Itt K a) H1)
open PySem.Spec PyProof.Rows in
theorem pi_val {l : Expr} {tl : TE} (hl : PE X l tl) : PI X tg l (iVal X.K tl) := by
  refine ⟨fun pins s σ H R I h => ?_⟩
  refine thn (hl.run pins s σ H _ I h) fun v s1 ⟨x, H1, I1, r1, q1⟩ => ?_
  rcases q1 with ⟨a, xs, e, hq, q⟩ | ⟨a, xs, e, hq, q⟩
  · subst e
    cases r1
    obtain ⟨its, rv, p, hz⟩ := I1.list hq
    refine wpAny_pyIter_list p.isList ?_
    refine ⟨s1.heap.objs.size, [s1.heap.objs.size], _, _, H1, rfl, I1.kept (t' := s1.toks) fun b o e => Heap.get?_push_of_some _ e, turn_list a _, ⟨_, Heap.get?_push_size _ rfl, rfl, rfl⟩, fun b hb => ?_, q⟩
    have e : b = s1.heap.objs.size := by simpa using hb
    subst e
    exact I1.fpOk (Nat.le_refl _) (I1.hok.fresh (Nat.le_refl _))
  · subst e
    cases r1
    obtain ⟨its, rv, p, hz⟩ := I1.tuple hq
    refine wpAny_pyIter_tuple (show s1.heap.IsTuple a its.toArray from p) ?_
    refine ⟨s1.heap.objs.size, [s1.heap.objs.size], _, _, H1, rfl, I1.kept (t' := s1.toks) fun b o e => Heap.get?_push_of_some _ e, turn_tuple a _, ⟨_, Heap.get?_push_size _ rfl, rfl, rfl⟩, fun b hb => ?_, q⟩
    have e : b = s1.heap.objs.size := by simpa using hb
    subst e
    exact I1.fpOk (Nat.le_refl _) (I1.hok.fresh (Nat.le_refl _))
end
section
variable {T : Tab} {K : PySem.W.Frag} {F : Addr → Prop} {ad : List Addr} {H : Hp} {a : Addr} {vs : List V} {ds : List D}
theorem itl_ok (n : ¬ Mm ad F a) (e1 : H a = some (.lst vs)) (r : Reps T K (Mm ad F) H vs ds) : ItOk T K F (Itl K a) ds ad H := fun F2 ad2 H2 cs2 c2 kp i => ⟨fun d hd => by
    obtain ⟨e2, n2⟩ := kp a _ e1 n
    obtain ⟨v, hv, rv⟩ := (r.kp kp).get hd
    refine ⟨⟨vs, v, SqL.of e2, hv⟩, fun w H3 y => ?_⟩
    obtain ⟨rfl, y⟩ := y
    have := y vs (SqL.of e2)
    rw [hv] at this
    cases this
    exact ⟨fun _ _ z => z, rv⟩, fun hi => ⟨vs, SqL.of (kp a _ e1 n).1, by rw [r.length]; omega⟩⟩
theorem itr_ok' (e1 : LAt K (Mm ad F) H a vs) (r : Reps T K (Mm ad F) H vs ds) : ItOk T K F (Itl K a) ds ad H := fun F2 ad2 H2 cs2 c2 kp i => ⟨fun d hd => by
    have e2 := (e1.kp kp).sq
    obtain ⟨v, hv, rv⟩ := (r.kp kp).get hd
    refine ⟨⟨vs, v, e2, hv⟩, fun w H3 y => ?_⟩
    obtain ⟨rfl, y⟩ := y
    have := y vs e2
    rw [hv] at this
    cases this
    exact ⟨fun _ _ z => z, rv⟩, fun hi => ⟨vs, (e1.kp kp).sq, by rw [r.length]; omega⟩⟩
theorem itt_ok (e1 : TAt K (Mm ad F) H a vs) (r : Reps T K (Mm ad F) H vs ds) : ItOk T K F (Itt K a) ds ad H := fun F2 ad2 H2 cs2 c2 kp i => ⟨fun d hd => by
    have e2 := (e1.kp kp).sq
    obtain ⟨v, hv, rv⟩ := (r.kp kp).get hd
    refine ⟨⟨vs, v, e2, hv⟩, fun w H3 y => ?_⟩
    obtain ⟨rfl, y⟩ := y
    have := y vs e2
    rw [hv] at this
    cases this
    exact ⟨fun _ _ z => z, rv⟩, fun hi => ⟨vs, (e1.kp kp).sq, by rw [r.length]; omega⟩⟩
end
def itemsW (s : Sl) (k : List D → Prop) : Prop := match s with
  | .dat (.lst ds) => k ds
  | .dat (.tup ds) => k ds
  | .dat (.scr ds) => k ds
  | _ => False
section
variable {X : Cx} {T : Tab} {W : WX} {tg e e2 e3 : Expr} {w : WpE} {wA : WpA} {p pos tpos : Pos} {elts : List Expr} {kk : Nat}
def wItems (w : WpE) : WpI := fun sl cs R Rx => w sl cs (fun s c => itemsW s fun ds => R ds c) Rx
theorem ji_val (he : JE X T W e w) : JI X T W tg e (wItems w) := weakI (pi_val he) fun σ H Q ⟨ad, F, sl, cs, R, Rx, h0, hw, q, qx⟩ => ⟨ad, F, sl, cs, _, Rx, h0, hw, fun s c1 v H1 ad1 hw1 x1 h1 r1 => by
  unfold itemsW at hw1
  split at hw1
  · cases r1 with
    | @lst a vs _ n e1 r => exact .inl ⟨a, vs, rfl, SqL.of e1, q _ c1 _ H1 ad1 hw1 x1 h1 (itl_ok n e1 r)⟩
  · cases r1 with
    | @tup a vs _ e1 r => exact .inr ⟨a, vs, rfl, e1.sq, q _ c1 _ H1 ad1 hw1 x1 h1 (itt_ok e1 r)⟩
  · cases r1 with
    | @scr a vs _ e1 r => exact .inl ⟨a, vs, rfl, e1.sq, q _ c1 _ H1 ad1 hw1 x1 h1 (itr_ok' e1 r)⟩
  · exact hw1.elim, qx⟩
def SmI (i : Int) : Prop := -(2 ^ 62) ≤ i ∧ i < 2 ^ 62
def rng1W (ss : List Sl) (k : List D → Prop) : Prop := match ss with
  | [.dat (.int j)] => SmI j ∧ k (rangeD 0 j.toNat)
  | _ => False
def wRng1 (wA : WpA) : WpI := fun sl cs R Rx => wA sl cs (fun ss c => rng1W ss fun ds => R ds c) Rx
theorem ji_range1 (hm : X.mg "range" = none) (ha : JA X T W [e] wA) (hg : Gl X "range" := by rfl) (hs : starEach [e] X.env = [(false, eval e X.env)] := by rfl) : JI X T W tg (.Call (.Name "range" p) [e] [] pos) (wRng1 wA) :=
  weakI (pi_range1 hg hm ha hs) fun σ H Q ⟨ad, F, sl, cs, R, Rx, h0, hw, q, qx⟩ => ⟨ad, F, sl, cs, _, Rx, h0, hw, fun ss c1 vs H1 ad1 hw1 x1 h1 r1 => by
    unfold rng1W at hw1
    split at hw1
    · match vs, r1 with
      | [v], r1 =>
        have r1 := r1.1
        cases r1
        exact ⟨_, rfl, hw1.1.1, hw1.1.2, q _ c1 _ H1 ad1 hw1.2 x1 h1 itr_ok⟩
    · exact hw1.elim, qx⟩
def rng2W (ss : List Sl) (k : List D → Prop) : Prop := match ss with
  | [.dat (.int i), .dat (.int j)] => (SmI i ∧ SmI j) ∧ k (rangeD i (j - i).toNat)
  | _ => False
def wRng2 (wA : WpA) : WpI := fun sl cs R Rx => wA sl cs (fun ss c => rng2W ss fun ds => R ds c) Rx
theorem ji_range2 (hm : X.mg "range" = none) (ha : JA X T W [e, e2] wA) (hg : Gl X "range" := by rfl) (hs : starEach [e, e2] X.env = [(false, eval e X.env), (false, eval e2 X.env)] := by rfl) (hs2 : starEach [e2] X.env = [(false, eval e2 X.env)] := by rfl) : JI X T W tg (.Call (.Name "range" p) [e, e2] [] pos) (wRng2 wA) :=
  weakI (pi_range2 hg hm ha hs hs2) fun σ H Q ⟨ad, F, sl, cs, R, Rx, h0, hw, q, qx⟩ => ⟨ad, F, sl, cs, _, Rx, h0, hw, fun ss c1 vs H1 ad1 hw1 x1 h1 r1 => by
    unfold rng2W at hw1
    split at hw1
    · match vs, r1 with
      | [v, w], r1 =>
        have r2 := r1.2.1
        have r1 := r1.1
        cases r1
        cases r2
        exact ⟨_, _, rfl, ⟨hw1.1.1.1, hw1.1.1.2, hw1.1.2.1, hw1.1.2.2⟩, q _ c1 _ H1 ad1 hw1.2 x1 h1 itr_ok⟩
    · exact hw1.elim, qx⟩
/-! zip -/
def zip2W (ss : List Sl) (k : List D → Prop) : Prop := match ss with
  | [.dat (.lst ds), .dat (.lst es)] => k (zipD ds es)
  | [.dat (.tup ds), .dat (.tup es)] => k (zipD ds es)
  | _ => False
def wZip2 (wA : WpA) : WpI := fun sl cs R Rx => wA sl cs (fun ss c => zip2W ss fun ds => R ds c) Rx
theorem itz_ok {K : PySem.W.Frag} {F : Addr → Prop} {ad : List Addr} {H : Hp} {a b : Addr} {xs ys : List V} {ds es : List D} (n1 : ¬ Mm ad F a) (e1 : H a = some (.lst xs)) (q1 : Reps T K (Mm ad F) H xs ds) (n2 : ¬ Mm ad F b) (e2 : H b = some (.lst ys)) (q2 : Reps T K (Mm ad F) H ys es) : ItOk T K F (Itz K a b) (zipD ds es) ad H := fun F2 ad2 H2 cs2 c2 kp i => ⟨fun d hd => by
    obtain ⟨x, y, hx, hy, rfl⟩ := zipD_get hd
    obtain ⟨vx, gx, rx⟩ := (q1.kp kp).get hx
    obtain ⟨vy, gy, ry⟩ := (q2.kp kp).get hy
    have a1 := SqL.of (K := K) (kp a _ e1 n1).1
    have a2 := SqL.of (K := K) (kp b _ e2 n2).1
    refine ⟨⟨xs, ys, vx, vy, a1, a2, gx, gy⟩, fun v H3 yy => ?_⟩
    obtain ⟨Tt, x', y', rfl, hT, rfl, g1, g2⟩ := yy
    have g1 := g1 xs a1
    have g2 := g2 ys a2
    rw [gx] at g1
    rw [gy] at g2
    cases g1
    cases g2
    obtain ⟨c3, x3⟩ := c2.newo (o := .tup [vx, vy]) hT
    refine ⟨fun b o e => by rw [upd_ne (ne_of_none e hT)]; exact e, .tup (vs := [vx, vy]) (.inl ⟨c2.new hT, .inl upd_same⟩) (.cons (rx.kp x3.kp) (.cons (ry.kp x3.kp) .nil))⟩, fun hi => by
    rw [zipD_len] at hi
    refine ⟨xs, ys, SqL.of (kp a _ e1 n1).1, SqL.of (kp b _ e2 n2).1, ?_⟩
    rw [q1.length, q2.length]
    omega⟩
theorem itzT_ok {K : PySem.W.Frag} {F : Addr → Prop} {ad : List Addr} {H : Hp} {a b : Addr} {xs ys : List V} {ds es : List D} (e1 : TAt K (Mm ad F) H a xs) (q1 : Reps T K (Mm ad F) H xs ds) (e2 : TAt K (Mm ad F) H b ys) (q2 : Reps T K (Mm ad F) H ys es) : ItOk T K F (RZ.ItzT K a b) (zipD ds es) ad H := fun F2 ad2 H2 cs2 c2 kp i => ⟨fun d hd => by
    obtain ⟨x, y, hx, hy, rfl⟩ := zipD_get hd
    obtain ⟨vx, gx, rx⟩ := (q1.kp kp).get hx
    obtain ⟨vy, gy, ry⟩ := (q2.kp kp).get hy
    have a1 := (e1.kp kp).sq
    have a2 := (e2.kp kp).sq
    refine ⟨⟨xs, ys, vx, vy, a1, a2, gx, gy⟩, fun v H3 yy => ?_⟩
    obtain ⟨Tt, x', y', rfl, hT, rfl, g1, g2⟩ := yy
    have g1 := g1 xs a1
    have g2 := g2 ys a2
    rw [gx] at g1
    rw [gy] at g2
    cases g1
    cases g2
    obtain ⟨c3, x3⟩ := c2.newo (o := .tup [vx, vy]) hT
    refine ⟨fun b o e => by rw [upd_ne (ne_of_none e hT)]; exact e, .tup (vs := [vx, vy]) (.inl ⟨c2.new hT, .inl upd_same⟩) (.cons (rx.kp x3.kp) (.cons (ry.kp x3.kp) .nil))⟩, fun hi => by
    rw [zipD_len] at hi
    refine ⟨xs, ys, (e1.kp kp).sq, (e2.kp kp).sq, ?_⟩
    rw [q1.length, q2.length]
    omega⟩
theorem ji_zip (hm : X.mg "zip" = none) (ha : JA X T W [e, e2] wA) (hg : Gl X "zip" := by rfl) (hs : starEach [e, e2] X.env = (false, eval e X.env) :: starEach [e2] X.env := by rfl) (hpl : (backTo pos (starEach [e2] X.env)).any (·.1) = false := by rfl) :
    JI X T W (.Tuple elts kk tpos) (.Call (.Name "zip" p) [e, e2] [] pos) (wZip2 wA) :=
  weakI (RZ.pi_zipA hg hm ha hs hpl) fun σ H Q ⟨ad, F, sl, cs, R, Rx, h0, hw, q, qx⟩ => ⟨ad, F, sl, cs, _, Rx, h0, hw, fun ss c1 vs H1 ad1 hw1 x1 h1 r1 => by
    unfold zip2W at hw1
    split at hw1
    · match vs, r1 with
      | [v, w], r1 =>
        have r2 := r1.2.1
        have r1 := r1.1
        cases r1 with
        | @lst a xs _ n1 e1 q1 =>
          cases r2 with
          | @lst b ys _ n2 e2 q2 => exact ⟨a, b, xs, ys, rfl, .inl ⟨SqL.of e1, SqL.of e2, q _ c1 _ H1 ad1 hw1 x1 h1 (itz_ok n1 e1 q1 n2 e2 q2)⟩⟩
    · match vs, r1 with
      | [v, w], r1 =>
        have r2 := r1.2.1
        have r1 := r1.1
        cases r1 with
        | @tup a xs _ e1 q1 =>
          cases r2 with
          | @tup b ys _ e2 q2 => exact ⟨a, b, xs, ys, rfl, .inr ⟨e1.sq, e2.sq, q _ c1 _ H1 ad1 hw1 x1 h1 (itzT_ok e1 q1 e2 q2)⟩⟩
    · exact hw1.elim, qx⟩
end
/-! ### comprehensions -/
def asgW (p : Pat) (d : D) (sl : Sls) (k : Sls → Prop) : Prop := match asgP p d sl with
  | some sl' => k sl'
  | none => False
theorem asgW_of {p : Pat} {d : D} {sl : Sls} {k : Sls → Prop} (h : asgW p d sl k) : ∃ sl', asgP p d sl = some sl' ∧ k sl' := by
  unfold asgW at h
  split at h
  · exact ⟨_, ‹_›, h⟩
  · exact h.elim
def isDat (s : Sl) (k : D → Prop) : Prop := match s with
  | .dat d => k d
  | .cel _ => False
theorem isDat_of {s : Sl} {k : D → Prop} (h : isDat s k) : ∃ d, s = .dat d ∧ k d := by
  unfold isDat at h
  split at h
  · exact ⟨_, rfl, h⟩
  · exact h.elim
def lcW (p : Pat) (wt : WpT) (we : WpE) (sl : Sls) : List D → List Cell → (List D → List Cell → Prop) → Prop
  | [], cs, R => R [] cs
  | d :: ds, cs, R => asgW p d sl fun sl' => wt sl' cs (fun b c1 => Br b (we sl' c1 (fun s c2 => isDat s fun e => lcW p wt we sl ds c2 fun acc c3 => R (e :: acc) c3) noX) (lcW p wt we sl ds c1 R)) noX
def JTs (X : Cx) (T : Tab) (W : WX) (ifs : List Expr) (w : WpT) : Prop := PTs X ifs (tJT T X.K W w)
def wYes : WpT := fun _ cs R _ => R true cs
theorem jts_nil {X : Cx} {T : Tab} {W : WX} : JTs X T W [] wYes := weakTs pts_nil fun σ H Q ⟨ad, F, sl, cs, R, Rx, h0, hw, q, qx⟩ => q true cs H ad hw .refl h0
theorem jts_one {X : Cx} {T : Tab} {W : WX} {c : Expr} {w : WpT} (h : JT X T W c w) : JTs X T W [c] w := weakTs (pts_one h) fun σ H Q z => z
/-- in the block's contexts -/
def wLc (wi : WpI) (p : Pat) (wt : WpT) (we : WpE) (own : List Nat) : WpE := fun sl cs R Rx => wi sl cs (fun items c => items.length < sizeLine ∧ lcW p wt we (wipeS sl own) items c fun acc c' => R (.dat (.lst acc)) c') Rx
def wLcC (wi : WpI) (p : Pat) (wt : WpT) (we : WpE) (own : List Nat) : WpE := fun sl cs R Rx => wi sl cs (fun items c => items.length < sizeLine ∧ lcW p wt we (wipeS sl own) items c fun acc c' => R (.cel c'.length) (c' ++ [.lst acc])) Rx
section
variable {T : Tab} {K : PySem.W.Frag} {W : WX} {p : Pat} {wi : WpI} {wt : WpT} {we : WpE} {own : List Nat}
theorem lc_core {sl : Sls} {items : List D} {cs : List Cell} {Rf : List D → List Cell → Prop} {σ : St} {H1 : Hp} {ad1 : List Addr} {F : Addr → Prop} {Q : VK} {J : It} (hp : ∀ i ∈ slotsP p, i ∈ own) (h1 : Hold T K ⟨sl, cs⟩ ad1 F σ H1) (okI : ItOk T K F J items ad1 H1) (hl : items.length < sizeLine)
    (h : lcW p wt we (wipeS sl own) items cs Rf) {Dl : Addr} (hD : H1 Dl = none)
    (q : ∀ accV accD ci ad' H', Ext ad1 F H1 ad' H' → HoldC T K ad' (fun a => F a ∨ a = Dl) H' ci → H' Dl = some (.lst accV) → Reps T K (Mm ad' fun a => F a ∨ a = Dl) H' accV accD → Rf accD ci → Q (.ref Dl) H') :
    ∃ (Inv' : Nat → Nat → Hp → Prop), (∃ m0, Inv' 0 m0 (upd H1 Dl (.lst []))) ∧ ∀ i m H', Inv' i m H' → (J.stop i H' ∧ Q (.ref Dl) H') ∨ (J.go i H' ∧ ∃ I2 : Hp → Prop, (∀ H2, I2 H2 → ∃ m', m' < m ∧ Inv' (i + 1) m' H2) ∧ ∀ v H3, J.yld i H' v H3 →
      tDG T K p v (wipe σ own) H3 fun σ' H4 => wipe σ' own = wipe σ own ∧ tJT T K W0 wt σ' H4 fun b H5 => if b = true then tJ T K W0 we σ' H5 fun w H6 => ∃ acc, H6 Dl = some (.lst acc) ∧ acc.length < sizeLine ∧ I2 (upd H6 Dl (.lst (acc ++ [w]))) else I2 H5) := by
  let vs := own
  have nD := h1.hc.new hD
  let F' : Addr → Prop := fun a => F a ∨ a = Dl
  have neD : ∀ a o, H1 a = some o → a ≠ Dl := fun a o e => ne_of_none e hD
  have slots : ∀ {ad' : List Addr} {H' : Hp} {cs : List Cell}, Ext ad1 F H1 ad' H' → HoldC T K ad' F' H' cs → Hold T K ⟨wipeS sl vs, cs⟩ ad' F' (wipe σ vs) H' := fun {ad' H' cs} x c => by
    refine ⟨c, by rw [wipe_length, wipeS_len]; exact h1.sz, fun i s e => ?_⟩
    obtain ⟨e1, e2⟩ := wipeS_some e
    obtain ⟨v, hv, r⟩ := h1.sl i s e1
    refine ⟨v, by rw [wipe_out e2]; exact hv, ?_⟩
    cases s with
    | dat d => exact Rep.kp (fun a o e n => ⟨x.keep a o e n, fun z => (x.kp a o e n).2 (z.imp id fun z => z.resolve_right (neD a o e))⟩) r
    | cel k =>
      have r' := SlRep.ext x r
      exact r'
  have h1' : HoldC T K ad1 F' (upd H1 Dl (.lst [])) cs := by
    obtain ⟨c2, x2⟩ := h1.hc.newo (o := .lst []) hD
    have kp : Kp (Mm ad1 F) H1 (Mm ad1 F') (upd H1 Dl (.lst [])) := fun a o e n => ⟨by rw [upd_ne (neD a o e)]; exact e, fun z => n (z.imp id fun z => z.resolve_right (neD a o e))⟩
    refine ⟨h1.hc.nd, fun a ha z => z.elim (h1.hc.fr a ha) fun z => nD (.inl (z ▸ ha)), fun a z => ?_, h1.hc.tb.newF hD (fun _ z => nomatch z), h1.hc.ln, fun k a c e1 e2 => ?_⟩
    · rcases z with z | z
      · exact c2.al a z
      · rw [z]; exact ⟨_, upd_same⟩
    · have qc := h1.hc.ce k a c e1 e2
      obtain ⟨o, e⟩ := qc.some
      exact qc.kp kp (upd_ne (neD a o e))
  have x1' : Ext ad1 F H1 ad1 (upd H1 Dl (.lst [])) := (h1.hc.newo hD).2
  refine ⟨fun i m H' => ∃ ad' accV accD ci, i ≤ items.length ∧ m = items.length - i ∧ Ext ad1 F H1 ad' H' ∧ HoldC T K ad' F' H' ci ∧ H' Dl = some (.lst accV) ∧ Reps T K (Mm ad' F') H' accV accD ∧ accD.length ≤ i ∧
    lcW p wt we (wipeS sl vs) (items.drop i) ci (fun acc c => Rf (accD ++ acc) c), ⟨items.length, ad1, [], [], cs, Nat.zero_le _, rfl, x1', h1', upd_same, .nil, Nat.le_refl _, h⟩, ?_⟩
  rintro i m H' ⟨ad', accV, accD, ci, hi', rfl, x', c', eD, rA, lA, hL⟩
  have kpI : Kp (Mm ad1 F) H1 (Mm ad' F') H' := fun a o e n => ⟨x'.keep a o e n, fun z => (x'.kp a o e n).2 (z.imp id fun z => z.resolve_right (neD a o e))⟩
  obtain ⟨ok1, ok2⟩ := okI F' ad' H' ci c' kpI i
  by_cases hlt : i < items.length
  · have hd : items[i]? = some items[i] := List.getElem?_eq_getElem hlt
    obtain ⟨g1, g2⟩ := ok1 _ hd
    rw [List.drop_eq_getElem_cons hlt] at hL
    obtain ⟨sl', eas, hL⟩ := asgW_of hL
    refine .inr ⟨g1, fun H2 => ∃ m', m' < items.length - i ∧ ∃ ad' accV accD ci, i + 1 ≤ items.length ∧ m' = items.length - (i + 1) ∧ Ext ad1 F H1 ad' H2 ∧ HoldC T K ad' F' H2 ci ∧ H2 Dl = some (.lst accV) ∧ Reps T K (Mm ad' F') H2 accV accD ∧ accD.length ≤ i + 1 ∧
      lcW p wt we (wipeS sl vs) (items.drop (i + 1)) ci (fun acc c => Rf (accD ++ acc) c), fun H2 ⟨m', hm, z⟩ => ⟨m', hm, z⟩, fun v H3 y => ?_⟩
    obtain ⟨gr, rv⟩ := g2 v H3 y
    obtain ⟨c3, x3⟩ := grow c' gr
    have x13 : Ext ad1 F H1 ad' H3 := ⟨x'.pre, fun a o e n => gr a o (x'.keep a o e n), fun a fa => (x'.frm a fa).trans (.inl (by
      obtain ⟨o, e⟩ := (x'.frm a fa).ex (h1.hc.al a fa)
      rw [gr a o e, e]))⟩
    have cvt : ∀ {ad6 : List Addr} {H6 : Hp}, Ext ad' F' H3 ad6 H6 → Ext ad1 F H1 ad6 H6 := fun {ad6 H6} x6 => by
      obtain ⟨t, e, ht⟩ := x13.pre
      obtain ⟨t2, e2, ht2⟩ := x6.pre
      refine ⟨⟨t ++ t2, by rw [e2, e, List.append_assoc], fun a ha => ?_⟩, fun a o e n => ?_, fun a fa => ?_⟩
      · rcases List.mem_append.mp ha with z | z
        · exact ht a z
        · cases q1 : H1 a with
          | none => rfl
          | some o =>
            exfalso
            have hz := ht2 a z
            by_cases n : Mm ad1 F a
            · rcases n with n | n
              · obtain ⟨o', e'⟩ := c3.mem (a := a) (by rw [e]; exact List.mem_append_left _ n)
                rw [e'] at hz; cases hz
              · obtain ⟨o', e'⟩ := (x13.frm a n).ex ⟨_, q1⟩
                rw [e'] at hz; cases hz
            · rw [x13.keep a o q1 n] at hz; cases hz
      · have n3 : ¬ Mm ad' F' a := fun z => (x13.kp a o e n).2 (z.imp id fun z => z.resolve_right (neD a o e))
        exact x6.keep a o (x13.keep a o e n) n3
      · exact (x13.frm a fa).trans (x6.frm a (.inl fa))
    have eD3 : H3 Dl = some (.lst accV) := gr _ _ eD
    have rA3 : Reps T K (Mm ad' F') H3 accV accD := rA.kp x3.kp
    refine ⟨ad', F', ⟨wipeS sl vs, ci⟩, items[i], sl', slots x13 c3, rv, eas, fun σ4 a4 h4 => ⟨wipe_asis a4 hp, ad', F', sl', ci, _, noX, h4, hL, fun b c1 H5 ad5 hb x5 h5 => ?_, Raz.no⟩⟩
    cases b with
    | true =>
      refine iteT ⟨ad5, F', sl', c1, _, noX, h5, hb.t rfl, fun s c2 w H6 ad6 hs x6 h6 r6 => ?_, Raz.no⟩
      obtain ⟨d', rfl, hL2⟩ := isDat_of hs
      refine ⟨accV, ?_, ?_, ?_⟩
      · exact (x6.frm Dl (.inr rfl)).eq ((x5.frm Dl (.inr rfl)).eq eD3 (fun _ z => nomatch z)) (fun _ z => nomatch z)
      · have := rA3.length
        omega
      · have x36 : Ext ad' F' H3 ad6 H6 := x5.trans h5.hc x6
        have x16 := cvt x36
        have hDa : Dl ∉ ad6 := fun z => h6.hc.fr Dl z (.inr rfl)
        have kpU : Kp (Mm ad6 F') H6 (Mm ad6 F') (upd H6 Dl (.lst (accV ++ [w]))) := fun a o e n => ⟨by rw [upd_ne (fun z => n (.inr (.inr z)))]; exact e, n⟩
        refine ⟨_, by omega, ad6, accV ++ [w], accD ++ [d'], c2, hlt, rfl, ?_, ?_, upd_same, ((rA3.kp x36.kp).append (.cons r6 .nil)).kp kpU, by rw [List.length_append]; simp; omega, ?_⟩
        · exact ⟨x16.pre, fun a o e n => by rw [upd_ne (neD a o e)]; exact x16.keep a o e n, fun a fa => by
            obtain ⟨o, e⟩ := h1.hc.al a fa
            exact (x16.frm a fa).trans (.inl (by
              obtain ⟨o6, e6⟩ := (x16.frm a fa).ex ⟨o, e⟩
              rw [upd_ne (neD a o e)]))⟩
        · refine ⟨h6.hc.nd, h6.hc.fr, fun a z => ?_, h6.hc.tb.upd ((x6.frm Dl (.inr rfl)).eq ((x5.frm Dl (.inr rfl)).eq eD3 (fun _ z => nomatch z)) (fun _ z => nomatch z)) (fun _ z => nomatch z) (fun _ z => nomatch z) (fun _ z => nomatch z), h6.hc.ln, fun k a c e1 e2 => ?_⟩
          · by_cases e : a = Dl
            · rw [e]; exact ⟨_, upd_same⟩
            · rw [upd_ne e]; exact h6.hc.al a z
          · exact (h6.hc.ce k a c e1 e2).kp kpU (upd_ne fun z => hDa (z ▸ List.mem_of_getElem? e1))
        · have e : (fun acc c => Rf (accD ++ [d'] ++ acc) c) = fun acc c => Rf (accD ++ (d' :: acc)) c := by
            funext acc c
            rw [List.append_assoc]
            rfl
          rw [e]
          exact hL2
    | false => exact iteF ⟨_, by omega, ad5, accV, accD, c1, hlt, rfl, cvt x5, h5.hc, (x5.frm Dl (.inr rfl)).eq eD3 (fun _ z => nomatch z), rA3.kp x5.kp, by omega, hb.f rfl⟩
  · have e : i = items.length := by omega
    subst e
    rw [List.drop_length] at hL
    have hL : Rf (accD ++ []) ci := hL
    rw [List.append_nil] at hL
    exact .inl ⟨ok2 rfl, q accV accD ci ad' H' x' c' eD rA hL⟩
theorem lc_then {σ : St} {H : Hp} {Q : VK} (hp : ∀ i ∈ slotsP p, i ∈ own) (h : tJ T K W (wLc wi p wt we own) σ H Q) : tLc (tJI T K W wi) (tDG T K p) (tJT T K W0 wt) (tJ T K W0 we) own σ H Q := by
  obtain ⟨ad, F, sl, cs, R, Rx, h0, hw, q, qx⟩ := h
  refine ⟨ad, F, sl, cs, _, Rx, h0, hw, fun items c J H1 ad1 hw1 x1 h1 ok Dl hD => ?_, qx⟩
  refine lc_core hp h1 ok hw1.1 hw1.2 hD fun accV accD ci ad' H' x' c' eD rA hR => ?_
  have nD := h1.hc.new hD
  have kpF : Kp (Mm ad' fun a => F a ∨ a = Dl) H' (Mm ad' F) H' := fun a o e n => ⟨e, fun z => n (z.imp id .inl)⟩
  have cF : HoldC T K ad' F H' ci := ⟨c'.nd, fun a ha z => c'.fr a ha (.inl z), fun a z => c'.al a (.inl z), h1.hc.tb.back (fun _ z => .inl z) c'.tb, c'.ln, fun k a c e1 e2 => (c'.ce k a c e1 e2).kp kpF rfl⟩
  have nD' : ¬ Mm ad' F Dl := fun z => z.elim (fun z => c'.fr Dl z (.inr rfl)) fun z => nD (.inr z)
  exact q _ ci (.ref Dl) H' ad' hR (x1.trans h1.hc x') (h1.to x' cF) (Rep.lst nD' eD (rA.kp kpF))
theorem lcC_then {σ : St} {H : Hp} {Q : VK} (hp : ∀ i ∈ slotsP p, i ∈ own) (h : tJ T K W (wLcC wi p wt we own) σ H Q) : tLc (tJI T K W wi) (tDG T K p) (tJT T K W0 wt) (tJ T K W0 we) own σ H Q := by
  obtain ⟨ad, F, sl, cs, R, Rx, h0, hw, q, qx⟩ := h
  refine ⟨ad, F, sl, cs, _, Rx, h0, hw, fun items c J H1 ad1 hw1 x1 h1 ok Dl hD => ?_, qx⟩
  refine lc_core hp h1 ok hw1.1 hw1.2 hD fun accV accD ci ad' H' x' c' eD rA hR => ?_
  have nD := h1.hc.new hD
  have mm : ∀ a, Mm (ad' ++ [Dl]) F a → Mm ad' (fun a => F a ∨ a = Dl) a := fun a z => z.elim (fun z => (List.mem_append.mp z).elim .inl fun z => .inr (.inr (by simpa using z))) fun z => .inr (.inl z)
  have nDa : Dl ∉ ad' := fun z => c'.fr Dl z (.inr rfl)
  have kpF : Kp (Mm ad' fun a => F a ∨ a = Dl) H' (Mm (ad' ++ [Dl]) F) H' := fun a o e n => ⟨e, fun z => n (mm a z)⟩
  have cF : HoldC T K (ad' ++ [Dl]) F H' (ci ++ [.lst accD]) := by
    refine ⟨?_, fun a ha z => ?_, fun a z => c'.al a (.inl z), h1.hc.tb.back (fun _ z => .inl z) c'.tb, by rw [List.length_append, List.length_append, c'.ln]; rfl, fun k a c e1 e2 => ?_⟩
    · refine List.nodup_append.mpr ⟨c'.nd, by simp, fun a ha b hb => ?_⟩
      have hb : b = Dl := by simpa using hb
      subst hb
      exact fun z => nDa (z ▸ ha)
    · rcases List.mem_append.mp ha with ha | ha
      · exact c'.fr a ha (.inl z)
      · have ha : a = Dl := by simpa using ha
        subst ha
        exact nD (.inr z)
    · by_cases hk : k < ad'.length
      · rw [List.getElem?_append_left hk] at e1
        rw [List.getElem?_append_left (by rw [← c'.ln]; exact hk)] at e2
        exact (c'.ce k a c e1 e2).kp kpF rfl
      · have hk2 : k < (ad' ++ [Dl]).length := by
          rcases Nat.lt_or_ge k (ad' ++ [Dl]).length with h | h
          · exact h
          · rw [List.getElem?_eq_none h] at e1
            cases e1
        have ek : k = ad'.length := by rw [List.length_append] at hk2; simp at hk2; omega
        subst ek
        rw [List.getElem?_append_right (Nat.le_refl _), Nat.sub_self] at e1
        rw [c'.ln, List.getElem?_append_right (Nat.le_refl _), Nat.sub_self] at e2
        cases e1
        cases e2
        exact ⟨accV, eD, rA.kp kpF⟩
  have x2 : Ext ad1 F H1 (ad' ++ [Dl]) H' := by
    obtain ⟨t, e, ht⟩ := x'.pre
    refine ⟨⟨t ++ [Dl], by rw [e, List.append_assoc], fun a ha => ?_⟩, x'.keep, x'.frm⟩
    rcases List.mem_append.mp ha with ha | ha
    · exact ht a ha
    · have ha : a = Dl := by simpa using ha
      subst ha
      exact hD
  exact q _ _ (.ref Dl) H' (ad' ++ [Dl]) hR (x1.trans h1.hc x2) (h1.to x2 cF) ⟨Dl, by rw [← c'.ln, List.getElem?_append_right (Nat.le_refl _), Nat.sub_self]; rfl, rfl⟩
end
section
variable {X : Cx} {T : Tab} {W : WX} {elt tg iter : Expr} {ifs : List Expr} {scope : Scope} {own : List (Str × Nat)} {p : Pat} {wi : WpI} {wt : WpT} {we : WpE} {pos : Pos}
structure JLC (X : Cx) (T : Tab) (W : WX) (elt tg iter : Expr) (ifs : List Expr) (scope : Scope) (own : List (Str × Nat)) (wi : WpI) (p : Pat) (wt : WpT) (we : WpE) : Prop where
  hi : JI X T W tg iter wi
  ok : BlkOk X.N X.env.scope scope own
  hg : InB X scope fun X' => DG X' T tg p
  ht : InB X scope fun X' => JTs X' T W0 ifs wt
  he : InB X scope fun X' => JE X' T W0 elt we
  hp : ∀ i ∈ slotsP p, i ∈ own.map (·.2)
theorem je_lc {vs : List Nat} (hN : X.N.Nodup) (h : JLC X T W elt tg iter ifs scope own wi p wt we) (hv : own.map (·.2) = vs := by rfl) (hc : X.calm = true := by rfl) (hs : ∀ x, foldedSetIterable iter X.env x = pure x := by intro _; rfl) : JE X T W (.ListComp elt [⟨tg, iter, ifs, 0⟩] scope pos) (wLc wi p wt we vs) := by
  subst hv
  exact weak (pe_lc (g := tDG T X.K p) (tt := tJT T X.K W0 wt) (te := tJ T X.K W0 we) hc hN h.hi h.ok h.hg h.ht h.he hs) fun σ H Q z => lc_then h.hp z
theorem je_lcC {vs : List Nat} (hN : X.N.Nodup) (h : JLC X T W elt tg iter ifs scope own wi p wt we) (hv : own.map (·.2) = vs := by rfl) (hc : X.calm = true := by rfl) (hs : ∀ x, foldedSetIterable iter X.env x = pure x := by intro _; rfl) : JE X T W (.ListComp elt [⟨tg, iter, ifs, 0⟩] scope pos) (wLcC wi p wt we vs) := by
  subst hv
  exact weak (pe_lc (g := tDG T X.K p) (tt := tJT T X.K W0 wt) (te := tJ T X.K W0 we) hc hN h.hi h.ok h.hg h.ht h.he hs) fun σ H Q z => lcC_then h.hp z
end
end Dl

namespace Dl
open PySem L2
/-! ### statements -/
structure PJ where
  nx : Sta → Prop
  rt : Sl → List Cell → Prop
  bk : Sta → Prop := fun _ => False
  ct : Sta → Prop := fun _ => False
  ex : Exc → Sta → Prop := fun _ _ => False
abbrev PJ.to (P : PJ) (W : WX) : Post := { nx := P.nx, rt := P.rt, bk := P.bk, ct := P.ct, ex := P.ex, W := W }
abbrev WS := Sta → PJ → Prop
def JS (X : Cx) (T : Tab) (W : WX) (n : Nat) (st : Stmt) (w : WS) : Prop := ∀ (S : Sta) (P : PJ), w S P → DS X T n S st (P.to W)
def JSs (X : Cx) (T : Tab) (W : WX) (n : Nat) (sts : List Stmt) (w : WS) : Prop := ∀ (S : Sta) (P : PJ), w S P → DSs X T n S sts (P.to W)
theorem noS {X : Cx} {st : Stmt} : PS X st (fun _ _ _ => False) := ⟨fun _ _ _ _ _ _ h => h.elim⟩
section
variable {X : Cx} {T : Tab} {W : WX} {n : Nat} {a b c e o ix it tg : Expr} {es : List Expr} {pos p p' px py pz pt pt2 : Pos} {wa wb we wo wx w : WpE} {wt : WpT} {wA : WpA} {wi : WpI} {st : Stmt} {rest body els : List Stmt} {w1 w2 : WS} {x y z : Str} {i j l kt k2 : Nat} {pa : Pat}
theorem ds_len {S : Sta} {P : Post} (h : n ≤ S.cs.length → DS X T n S st P) : DS X T n S st P := by
  by_cases hn : n ≤ S.cs.length
  · exact h hn
  · exact weakS noS fun D σ H ⟨ad, F, hl, hh, _⟩ => hn (hh.hc.ln ▸ hl)
/-- the post for what is raised -/
theorem raz_of {K : PySem.W.Frag} {S : Sta} {P : PJ} {ad : List Addr} {F : Addr → Prop} {σ : St} {H : Hp} (hn : n ≤ ad.length) (q5 : ∀ x S' cls d σ' H' ad', ExtS n ad F H ad' H' → n ≤ ad'.length → Hold T K S' ad' F σ' H' → ExRep T K (Mm ad' F) H' cls d x → P.ex x S' → W cls d σ' H') :
    Raz T K W σ ad F H S.sl (fun x c => P.ex x ⟨S.sl, c⟩) := fun x c cls d H' ad' hx x1 h1 er => q5 x ⟨S.sl, c⟩ cls d σ H' ad' (x1.s hn) (x1.le hn) h1 er hx
def wNilS : WS := fun S P => P.nx S
def wConsS (w1 w2 : WS) : WS := fun S P => w1 S { P with nx := fun S' => w2 S' P }
theorem jss_nil : JSs X T W n [] wNilS := fun S P h => dss_nil h
theorem jss_cons (h1 : JS X T W n st w1) (h2 : JSs X T W n rest w2) : JSs X T W n (st :: rest) (wConsS w1 w2) := fun S P h =>
  dss_cons (ds_mono (h1 S { P with nx := fun S' => w2 S' P } h) (fun S' q => h2 S' P q) (fun _ _ q => q) (fun _ q => q) (fun _ q => q) (fun _ _ q => q) rfl)
def wPass : WS := fun S P => P.nx S
theorem js_pass : JS X T W n (.Pass pos) wPass := fun S P h => ds_pass h
def wBrk : WS := fun S P => P.bk S
theorem js_break : JS X T W n (.Break pos) wBrk := fun S P h => ds_break h
def wCnt : WS := fun S P => P.ct S
theorem js_continue : JS X T W n (.Continue pos) wCnt := fun S P h => ds_continue h
def wAsg (i : Nat) (w : WpE) : WS := fun S P => w S.sl S.cs (fun s c => P.nx ⟨S.sl.set i (some s), c⟩) (fun x c => P.ex x ⟨S.sl, c⟩)
theorem js_asg (i : Nat) (hN : X.N.Nodup) (he : JE X T W e w) (hi : X.N[i]? = some x := by rfl) (hx : Loc X.env.scope x := by first | exact Or.inl rfl | exact Or.inr rfl)
    (hs : swapsWith e (some (.Name x p')) pos.line X.env = pure false := by rfl) (hf : X.fn x = true ∨ X.env.scope.names.lookup x = some .local := by first | exact .inl rfl | exact .inr rfl) : JS X T W n (.Assign [.Name x p'] e pos) (wAsg i w) := fun S P h =>
  weakS (ps_set hN hi hx he hs hf) fun D σ H ⟨ad, F, hn, h0, q1, q2, q3, q4, q5⟩ => ⟨ad, F, S.sl, S.cs, _, _, h0, h, fun s c v H1 ad1 hR x1 h1 r1 => q1 _ _ H1 ad1 (x1.s hn) (x1.le hn) (h1.set r1 i) hR, raz_of hn q5⟩
/-- y = [..] -/
theorem js_lc (i : Nat) {vs : List Nat} {elt tg iter : Expr} {ifs : List Expr} {scope : Scope} {own : List (Str × Nat)} {p : Pat} {wi : WpI} {wt : WpT} {we : WpE} {py spos : Pos} (hN : X.N.Nodup) (h : JLC X T W elt tg iter ifs scope own wi p wt we) (hv : own.map (·.2) = vs := by rfl) (hy : X.N[i]? = some y := by rfl) (hyl : X.env.scope.names.lookup y = some .local := by rfl)
    (hsw : swapsWith (.ListComp elt [⟨tg, iter, ifs, 0⟩] scope pos) (some (.Name y py)) spos.line X.env = pure true := by exact sw_true rfl rfl rfl (by decide +kernel)) (hc : X.calm = true := by rfl) (hs : ∀ x, foldedSetIterable iter X.env x = pure x := by intro _; rfl) :
    JS X T W n (.Assign [.Name y py] (.ListComp elt [⟨tg, iter, ifs, 0⟩] scope pos) spos) (wAsg i (wLc wi p wt we vs)) := fun S P hw => by
  subst hv
  exact weakS (ps_setLc (g := tDG T X.K p) (tt := tJT T X.K W0 wt) (te := tJ T X.K W0 we) hc hN hy hyl hsw h.hi h.ok h.hg h.ht h.he hs) fun D σ H ⟨ad, F, hn, h0, q1, q2, q3, q4, q5⟩ =>
    lc_then (W := W) h.hp ⟨ad, F, S.sl, S.cs, _, _, h0, hw, fun s c v H1 ad1 hR x1 h1 r1 => q1 _ _ H1 ad1 (x1.s hn) (x1.le hn) (h1.set r1 i) hR, raz_of hn q5⟩
theorem js_lcC (i : Nat) {vs : List Nat} {elt tg iter : Expr} {ifs : List Expr} {scope : Scope} {own : List (Str × Nat)} {p : Pat} {wi : WpI} {wt : WpT} {we : WpE} {py spos : Pos} (hN : X.N.Nodup) (h : JLC X T W elt tg iter ifs scope own wi p wt we) (hv : own.map (·.2) = vs := by rfl) (hy : X.N[i]? = some y := by rfl) (hyl : X.env.scope.names.lookup y = some .local := by rfl)
    (hsw : swapsWith (.ListComp elt [⟨tg, iter, ifs, 0⟩] scope pos) (some (.Name y py)) spos.line X.env = pure true := by exact sw_true rfl rfl rfl (by decide +kernel)) (hc : X.calm = true := by rfl) (hs : ∀ x, foldedSetIterable iter X.env x = pure x := by intro _; rfl) :
    JS X T W n (.Assign [.Name y py] (.ListComp elt [⟨tg, iter, ifs, 0⟩] scope pos) spos) (wAsg i (wLcC wi p wt we vs)) := fun S P hw => by
  subst hv
  exact weakS (ps_setLc (g := tDG T X.K p) (tt := tJT T X.K W0 wt) (te := tJ T X.K W0 we) hc hN hy hyl hsw h.hi h.ok h.hg h.ht h.he hs) fun D σ H ⟨ad, F, hn, h0, q1, q2, q3, q4, q5⟩ =>
    lcC_then (W := W) h.hp ⟨ad, F, S.sl, S.cs, _, _, h0, hw, fun s c v H1 ad1 hR x1 h1 r1 => q1 _ _ H1 ad1 (x1.s hn) (x1.le hn) (h1.set r1 i) hR, raz_of hn q5⟩
def wExpr (w : WpE) : WS := fun S P => w S.sl S.cs (fun _ c => P.nx ⟨S.sl, c⟩) (fun x c => P.ex x ⟨S.sl, c⟩)
theorem js_expr (he : JE X T W e w) (hs : swapsWith e none pos.line X.env = pure false := by rfl) : JS X T W n (.Expr e pos) (wExpr w) := fun S P h =>
  weakS (ps_expr he hs) fun D σ H ⟨ad, F, hn, h0, q1, q2, q3, q4, q5⟩ => ⟨ad, F, S.sl, S.cs, _, _, h0, h, fun s c v H1 ad1 hR x1 h1 r1 => q1 _ _ H1 ad1 (x1.s hn) (x1.le hn) h1 hR, raz_of hn q5⟩
/-- what is returned: data, a cell of the def's own as data -/
def retW (n : Nat) (P : PJ) (s : Sl) (c : List Cell) : Prop := match s with
  | .dat d => P.rt (.dat d) (c.take n)
  | .cel k => n ≤ k ∧ match c[k]? with
    | some (.lst ds) => P.rt (.dat (.lst ds)) (c.take n)
    | _ => False
def wRet (n : Nat) (w : WpE) : WS := fun S P => w S.sl S.cs (fun s c => retW n P s c) (fun x c => P.ex x ⟨S.sl, c⟩)
/-- fewer cells, by extension -/
theorem ext_take {ad ad1 : List Addr} {F : Addr → Prop} {H H1 : Hp} (xs : ExtS n ad F H ad1 H1) : ExtS n ad F H (ad1.take n) H1 := ⟨by rw [List.take_take, Nat.min_self]; exact xs.pre, fun a ha => xs.sub a (List.mem_of_mem_take ha), xs.keep, xs.frm⟩
theorem js_ret (he : JE X T W e w) : JS X T W n (.Return (some e) pos) (wRet n w) := fun S P h =>
  weakS (ps_ret he) fun D σ H ⟨ad, F, hn, h0, q1, q2, q3, q4, q5⟩ => ⟨ad, F, S.sl, S.cs, _, _, h0, h, fun s c v H1 ad1 hR x1 h1 r1 => by
    have xs := x1.s hn
    have hn1 := x1.le hn
    have kp : Kp (Mm ad1 F) H1 (Mm (ad1.take n) F) H1 := fun a o e m => ⟨e, fun z => m (z.imp List.mem_of_mem_take id)⟩
    have hl : n ≤ (ad1.take n).length := by rw [List.length_take]; omega
    unfold retW at hR
    split at hR
    · exact q2 (.dat _) _ v H1 (ad1.take n) (ext_take xs) hl (h1.hc.take n) (Rep.kp kp r1) hR
    · obtain ⟨hk, hR⟩ := hR
      split at hR
      · rename_i k _ ds hc
        obtain ⟨a, ha, rfl⟩ := r1
        obtain ⟨vs, e1, rv⟩ := h1.hc.ce k a _ ha hc
        have na : ¬ Mm (ad1.take n) F a := fun z => z.elim (fun z => by
          obtain ⟨j, hj, ej⟩ := List.getElem_of_mem z
          have hj' : (ad1.take n)[j]? = some a := by rw [List.getElem?_eq_getElem hj, ej]
          have hjn : j < n := by rw [List.length_take] at hj; omega
          rw [List.getElem?_take, if_pos hjn] at hj'
          have := ix_inj h1.hc.nd ha hj'
          omega) fun z => h1.hc.fr a (List.mem_of_getElem? ha) z
        exact q2 (.dat _) _ (.ref a) H1 (ad1.take n) (ext_take xs) hl (h1.hc.take n) (Rep.lst na e1 (rv.kp kp)) hR
      · exact hR.elim, raz_of hn q5⟩
/-- a new cell is returned -/
def wRetC (n : Nat) (w : WpE) : WS := fun S P => w S.sl S.cs (fun s c => match s with
  | .cel k => k = n ∧ P.rt (.cel n) (c.take (n + 1))
  | _ => False) (fun x c => P.ex x ⟨S.sl, c⟩)
theorem js_retC (he : JE X T W e w) : JS X T W n (.Return (some e) pos) (wRetC n w) := fun S P h =>
  weakS (ps_ret he) fun D σ H ⟨ad, F, hn, h0, q1, q2, q3, q4, q5⟩ => ⟨ad, F, S.sl, S.cs, _, _, h0, h, fun s c v H1 ad1 hR x1 h1 r1 => by
    have xs := x1.s hn
    have hn1 := x1.le hn
    split at hR
    · obtain ⟨rfl, hR⟩ := hR
      obtain ⟨a, ha, rfl⟩ := r1
      rename_i k _
      have hl : k < ad1.length := by
        rcases Nat.lt_or_ge k ad1.length with z | z
        · exact z
        · rw [List.getElem?_eq_none z] at ha; cases ha
      refine q2 (.cel k) _ (.ref a) H1 (ad1.take (k + 1)) ⟨?_, fun b hb => xs.sub b (List.mem_of_mem_take hb), xs.keep, xs.frm⟩ ?_ (h1.hc.take _) ⟨a, ?_, rfl⟩ hR
      · rw [List.take_take, Nat.min_eq_left (Nat.le_succ k)]; exact xs.pre
      · rw [List.length_take]; omega
      · rw [List.getElem?_take, if_pos (Nat.lt_succ_self k)]; exact ha
    · exact hR.elim, raz_of hn q5⟩
def wRetN (n : Nat) : WS := fun S P => P.rt (.dat .non) (S.cs.take n)
theorem js_retN : JS X T W n (.Return none pos) (wRetN n) := fun S P h => ds_retN h
def wIfS (wt : WpT) (w1 w2 : WS) : WS := fun S P => wt S.sl S.cs (fun b c => Br b (w1 ⟨S.sl, c⟩ P) (w2 ⟨S.sl, c⟩ P)) (fun x c => P.ex x ⟨S.sl, c⟩)
theorem js_if (hc : JT X T W c wt) (h1 : JSs X T W n body w1) (h2 : JSs X T W n els w2) : JS X T W n (.If c body els pos) (wIfS wt w1 w2) := fun S P h => by
  have b1 : PSs X body (fun D σ H => ∃ S P, DSs X T n S body P ∧ tDS T X.K n S P D σ H) := ⟨fun pins s σ H D I ⟨S', P', hS, z⟩ => hS.run pins s σ H D I z⟩
  have b2 : PSs X els (fun D σ H => ∃ S P, DSs X T n S els P ∧ tDS T X.K n S P D σ H) := ⟨fun pins s σ H D I ⟨S', P', hS, z⟩ => hS.run pins s σ H D I z⟩
  exact weakS (ps_if hc b1 b2) fun D σ H ⟨ad, F, hn, h0, q1, q2, q3, q4, q5⟩ => ⟨ad, F, S.sl, S.cs, _, _, h0, h, fun k c H1 ad1 hR x1 h1' => by
    cases k with
    | true => exact iteT ⟨⟨S.sl, c⟩, P.to W, h1 _ P (hR.t rfl), tDS.go (σ := σ) (x1.s hn) (x1.le hn) h1' q1 q2 q3 q4 q5⟩
    | false => exact iteF ⟨⟨S.sl, c⟩, P.to W, h2 _ P (hR.f rfl), tDS.go (σ := σ) (x1.s hn) (x1.le hn) h1' q1 q2 q3 q4 q5⟩, raz_of hn q5⟩
/-! ### for -/
def forW (p : Pat) (wb : WS) : List D → Sta → PJ → Prop
  | [], S, P => P.nx S
  | d :: ds, S, P => asgW p d S.sl fun sl' => wb ⟨sl', S.cs⟩ { P with nx := fun S' => forW p wb ds S' P, ct := fun S' => forW p wb ds S' P, bk := P.nx }
theorem for_of {wb : WS} (hb : JSs X T W n body wb) : ∀ {items : List D} {S : Sta} {P : PJ}, forW pa wb items S P → DFor X T n pa body items S (P.to W)
  | [], S, P, h => h
  | d :: ds, S, P, h => by
    obtain ⟨sl', e, h⟩ := asgW_of h
    exact ⟨sl', e, dss_mono (hb _ _ h) (fun S' q => for_of hb q) (fun _ _ q => q) (fun _ q => q) (fun S' q => for_of hb q) (fun _ _ q => q) rfl⟩
theorem for_core {items : List D} {S S1 : Sta} {P : Post} {D : Ends} {σ : St} {H H1 : Hp} {ad ad1 : List Addr} {F : Addr → Prop} {J : It} (x1 : Ext ad F H ad1 H1) (hn : n ≤ ad.length) (h1 : Hold T X.K S1 ad1 F σ H1) (ok : ItOk T X.K F J items ad1 H1) (h : DFor X T n pa body items S1 P)
    (q1 : ∀ S' σ' H' ad', ExtS n ad F H ad' H' → n ≤ ad'.length → Hold T X.K S' ad' F σ' H' → P.nx S' → D.nx σ' H')
    (q2 : ∀ s cs' v H' ad', ExtS n ad F H ad' H' → n ≤ ad'.length → HoldC T X.K ad' F H' cs' → SlRep T X.K ad' F H' v s → P.rt s cs' → D.rt v H')
    (q5 : ∀ x S' cls d σ' H' ad', ExtS n ad F H ad' H' → n ≤ ad'.length → Hold T X.K S' ad' F σ' H' → ExRep T X.K (Mm ad' F) H' cls d x → P.ex x S' → P.W cls d σ' H') :
    ∃ Wl : Nat → Nat → St → Hp → Prop, (∃ m, Wl 0 m σ H1) ∧ ∀ i m σ H, Wl i m σ H →
      (J.stop i H ∧ D.nx σ H) ∨ (J.go i H ∧ ∃ N : St → Hp → Prop, (∀ σ' H', N σ' H' → ∃ m', m' < m ∧ Wl (i + 1) m' σ' H') ∧ ∀ x H', J.yld i H x H' → tDG T X.K pa x σ H' fun σ2 H2 => (fun D σ H => ∃ S P, DSs X T n S body P ∧ tDS T X.K n S P D σ H) { D with nx := N, ct := N, bk := D.nx } σ2 H2) := by
  have xs1 := x1.s hn
  have hn1 := x1.le hn
  refine ⟨fun i m σ' H' => ∃ ad' S', n ≤ ad'.length ∧ Hold T X.K S' ad' F σ' H' ∧ ExtS n ad1 F H1 ad' H' ∧ i ≤ items.length ∧ m = items.length - i ∧ DFor X T n pa body (items.drop i) S' P, ⟨items.length, ad1, S1, hn1, h1, .refl, Nat.zero_le _, rfl, h⟩, ?_⟩
  rintro i m σ' H' ⟨ad', S', hn', h', x', hi', rfl, hf⟩
  obtain ⟨ok1, ok2⟩ := ok F ad' H' S'.cs h'.hc x'.kp i
  by_cases hlt : i < items.length
  · have hd : items[i]? = some items[i] := List.getElem?_eq_getElem hlt
    obtain ⟨g1, g2⟩ := ok1 _ hd
    rw [List.drop_eq_getElem_cons hlt] at hf
    obtain ⟨sl', e, hf⟩ := hf
    refine .inr ⟨g1, fun σ2 H2 => ∃ ad2 S2, n ≤ ad2.length ∧ Hold T X.K S2 ad2 F σ2 H2 ∧ ExtS n ad1 F H1 ad2 H2 ∧ DFor X T n pa body (items.drop (i + 1)) S2 P, fun σ2 H2 ⟨ad2, S2, hn2, h2, x2, hf2⟩ => ⟨items.length - (i + 1), by omega, ad2, S2, hn2, h2, x2, hlt, rfl, hf2⟩, fun v H3 y => ?_⟩
    obtain ⟨gr, rv⟩ := g2 v H3 y
    obtain ⟨c3, x3⟩ := grow h'.hc gr
    refine ⟨ad', F, S', items[i], sl', h'.to x3 c3, rv, e, fun σ4 _ h4 => ⟨_, _, hf, ad', F, hn', h4, ?_, ?_, ?_, ?_, ?_⟩⟩
    · exact fun S5 σ5 H5 ad5 x5 hn5 h5 p5 => ⟨ad5, S5, hn5, h5, x'.trans ((x3.s hn').trans x5), p5⟩
    · exact fun s cs5 v5 H5 ad5 x5 hn5 c5 r5 p5 => q2 s cs5 v5 H5 ad5 (xs1.trans (x'.trans ((x3.s hn').trans x5))) hn5 c5 r5 p5
    · exact fun S5 σ5 H5 ad5 x5 hn5 h5 p5 => q1 S5 σ5 H5 ad5 (xs1.trans (x'.trans ((x3.s hn').trans x5))) hn5 h5 p5
    · exact fun S5 σ5 H5 ad5 x5 hn5 h5 p5 => ⟨ad5, S5, hn5, h5, x'.trans ((x3.s hn').trans x5), p5⟩
    · exact fun z S5 cls d σ5 H5 ad5 x5 hn5 h5 r5 p5 => q5 z S5 cls d σ5 H5 ad5 (xs1.trans (x'.trans ((x3.s hn').trans x5))) hn5 h5 r5 p5
  · have e : i = items.length := by omega
    subst e
    rw [List.drop_length] at hf
    exact .inl ⟨ok2 rfl, q1 S' σ' H' ad' (xs1.trans x') hn' h' hf⟩
def wFor (wi : WpI) (p : Pat) (wb : WS) : WS := fun S P => wi S.sl S.cs (fun items c => forW p wb items ⟨S.sl, c⟩ P) (fun x c => P.ex x ⟨S.sl, c⟩)
theorem js_for {wb : WS} (hp : PassesOwn (model X.prog X.w) X.A X.env X.xe) (hi : JI X T W tg it wi) (hg : DG X T tg pa) (hb : JSs X T W n body wb) (hc : X.calm = true := by rfl) (hs : ∀ x, foldedSetIterable it X.env x = pure x := by intro _; rfl) : JS X T W n (.For tg it body [] pos) (wFor wi pa wb) := fun S P h => by
  have b1 : PSs X body (fun D σ H => ∃ S P, DSs X T n S body P ∧ tDS T X.K n S P D σ H) := ⟨fun pins s σ H D I ⟨S', P', hS, z⟩ => hS.run pins s σ H D I z⟩
  exact weakS (ps_for hp hc hi hg b1 hs) fun D σ H ⟨ad, F, hn, h0, q1, q2, q3, q4, q5⟩ => ⟨ad, F, S.sl, S.cs, _, _, h0, h, fun items c J H1 ad1 hR x1 h1 ok => for_core (S := S) (P := P.to W) x1 hn h1 ok (for_of hb hR) q1 q2 q5, raz_of hn q5⟩
/-! ### while -/
def wWhile (wt : WpT) (wb : WS) : WS := fun S P => ∃ (I : Nat → Sta → Prop) (m0 : Nat), I m0 S ∧ ∀ m S, I m S → wt S.sl S.cs (fun b c => Br b (wb ⟨S.sl, c⟩ { P with nx := fun S' => ∃ m', m' < m ∧ I m' S', ct := fun S' => ∃ m', m' < m ∧ I m' S', bk := P.nx }) (P.nx ⟨S.sl, c⟩)) (fun x c => P.ex x ⟨S.sl, c⟩)
theorem js_while {wb : WS} (hp : PassesOwn (model X.prog X.w) X.A X.env X.xe) (hc : JT X T W c wt) (hb : JSs X T W n body wb) : JS X T W n (.While c body [] pos) (wWhile wt wb) := fun S P ⟨I, m0, hI, hs⟩ => by
  have b1 : PSs X body (fun D σ H => ∃ S P, DSs X T n S body P ∧ tDS T X.K n S P D σ H) := ⟨fun pins s σ H D I ⟨S', P', hS, z⟩ => hS.run pins s σ H D I z⟩
  refine weakS (ps_while hp hc b1) fun D σ H ⟨ad, F, hn, h1, q1, q2, q3, q4, q5⟩ => ?_
  refine ⟨fun m σ' H' => ∃ ad' S', n ≤ ad'.length ∧ Hold T X.K S' ad' F σ' H' ∧ ExtS n ad F H ad' H' ∧ I m S', ⟨m0, ad, S, hn, h1, .refl, hI⟩, ?_⟩
  rintro m σ' H' ⟨ad', S', hn', h', x', hI'⟩
  refine ⟨ad', F, S'.sl, S'.cs, _, _, h', hs m S' hI', fun b c H2 ad2 hR x2 h2 => ?_, fun x c cls d H2 ad2 hx x2 h2 er => q5 x _ cls d σ' H2 ad2 (x'.trans (x2.s hn')) (x2.le hn') h2 er hx⟩
  have x12 := x'.trans (x2.s hn')
  have hn2 := x2.le hn'
  cases b with
  | true =>
    refine iteT ⟨fun σ3 H3 => ∃ m', m' < m ∧ ∃ ad3 S3, n ≤ ad3.length ∧ Hold T X.K S3 ad3 F σ3 H3 ∧ ExtS n ad F H ad3 H3 ∧ I m' S3, fun σ3 H3 ⟨m', hm, z⟩ => ⟨m', hm, z⟩, _, _, hb _ _ (hR.t rfl), ad2, F, hn2, h2, ?_, ?_, ?_, ?_, ?_⟩
    · exact fun S5 σ5 H5 ad5 x5 hn5 h5 ⟨m', hm, p5⟩ => ⟨m', hm, ad5, S5, hn5, h5, x12.trans x5, p5⟩
    · exact fun s cs5 v5 H5 ad5 x5 hn5 c5 r5 p5 => q2 s cs5 v5 H5 ad5 (x12.trans x5) hn5 c5 r5 p5
    · exact fun S5 σ5 H5 ad5 x5 hn5 h5 p5 => q1 S5 σ5 H5 ad5 (x12.trans x5) hn5 h5 p5
    · exact fun S5 σ5 H5 ad5 x5 hn5 h5 ⟨m', hm, p5⟩ => ⟨m', hm, ad5, S5, hn5, h5, x12.trans x5, p5⟩
    · exact fun z S5 cls d σ5 H5 ad5 x5 hn5 h5 r5 p5 => q5 z S5 cls d σ5 H5 ad5 (x12.trans x5) hn5 h5 r5 p5
  | false => exact iteF (q1 _ _ H2 ad2 x12 hn2 h2 (hR.f rfl))
/-! ### a, b = .. -/
def par2 (i j : Nat) (ss : List Sl) (sl : Sls) (k : Sls → Prop) : Prop := match ss with
  | [s1, s2] => k ((sl.set i (some s1)).set j (some s2))
  | _ => False
def wPar2 (i j : Nat) (wA : WpA) : WS := fun S P => wA S.sl S.cs (fun ss c => par2 i j ss S.sl fun sl' => P.nx ⟨sl', c⟩) (fun x c => P.ex x ⟨S.sl, c⟩)
theorem js_par2 (i j : Nat) (hN : X.N.Nodup) (ha : JA X T W [a, b] wA) (hi : X.N[i]? = some x := by rfl) (hj : X.N[j]? = some y := by rfl) (hij : i ≠ j := by decide)
    (hx : X.env.scope.names.lookup x = some .local := by rfl) (hy : X.env.scope.names.lookup y = some .local := by rfl) (hc : X.calm = true := by rfl)
    (hw : swappedStores [.Tuple [.Name x px, .Name y py] kt pt] (.Tuple [a, b] k2 pt2) X.env = pure (some [x, y]) := by rfl)
    (hs : swapsWithSole [.Tuple [.Name x px, .Name y py] kt pt] (.Tuple [a, b] k2 pt2) pos.line X.env = pure false := by rfl) : JS X T W n (.Assign [.Tuple [.Name x px, .Name y py] kt pt] (.Tuple [a, b] k2 pt2) pos) (wPar2 i j wA) := fun S P h =>
  weakS (ps_par hc hN hi hj hij hx hy ha hw hs) fun D σ H ⟨ad, F, hn, h0, q1, q2, q3, q4, q5⟩ => ⟨ad, F, S.sl, S.cs, _, _, h0, h, fun ss c vs H1 ad1 hR x1 h1 r1 => by
    unfold par2 at hR
    split at hR
    · match vs, r1 with
      | [v, w], r1 => exact ⟨v, w, rfl, q1 _ _ H1 ad1 (x1.s hn) (x1.le hn) ((h1.set r1.1 i).set r1.2.1 j) hR⟩
    · exact hR.elim, raz_of hn q5⟩
def par3 (i j l : Nat) (ss : List Sl) (sl : Sls) (k : Sls → Prop) : Prop := match ss with
  | [s1, s2, s3] => k (((sl.set i (some s1)).set j (some s2)).set l (some s3))
  | _ => False
def wPar3 (i j l : Nat) (wA : WpA) : WS := fun S P => wA S.sl S.cs (fun ss c => par3 i j l ss S.sl fun sl' => P.nx ⟨sl', c⟩) (fun x c => P.ex x ⟨S.sl, c⟩)
theorem js_par3 (i j l : Nat) (hN : X.N.Nodup) (ha : JA X T W [a, b, c] wA) (hi : X.N[i]? = some x := by rfl) (hj : X.N[j]? = some y := by rfl) (hl : X.N[l]? = some z := by rfl) (hij : i ≠ j := by decide) (hil : i ≠ l := by decide) (hjl : j ≠ l := by decide)
    (hx : X.env.scope.names.lookup x = some .local := by rfl) (hy : X.env.scope.names.lookup y = some .local := by rfl) (hz : X.env.scope.names.lookup z = some .local := by rfl) (hc : X.calm = true := by rfl)
    (hw : swappedStores [.Tuple [.Name x px, .Name y py, .Name z pz] kt pt] (.Tuple [a, b, c] k2 pt2) X.env = pure (some [x, y, z]) := by rfl)
    (hs : swapsWithSole [.Tuple [.Name x px, .Name y py, .Name z pz] kt pt] (.Tuple [a, b, c] k2 pt2) pos.line X.env = pure false := by rfl) : JS X T W n (.Assign [.Tuple [.Name x px, .Name y py, .Name z pz] kt pt] (.Tuple [a, b, c] k2 pt2) pos) (wPar3 i j l wA) := fun S P h =>
  weakS (L2.ps_par3 hc hN hi hj hl hij hil hjl hx hy hz ha hw hs) fun D σ H ⟨ad, F, hn, h0, q1, q2, q3, q4, q5⟩ => ⟨ad, F, S.sl, S.cs, _, _, h0, h, fun ss c vs H1 ad1 hR x1 h1 r1 => by
    unfold par3 at hR
    split at hR
    · match vs, r1 with
      | [u, v, w], r1 => exact ⟨u, v, w, rfl, q1 _ _ H1 ad1 (x1.s hn) (x1.le hn) (((h1.set r1.1 i).set r1.2.1 j).set r1.2.2.1 l) hR⟩
    · exact hR.elim, raz_of hn q5⟩
/-- targets = a tuple or a list -/
def unpW (ps : List Pat) (s : Sl) (cs : List Cell) (sl : Sls) (k : Sls → Prop) : Prop := match s with
  | .dat (.tup ds) => asgW (.tp ps) (.tup ds) sl k
  | s => wL cs s fun ds => asgW (.tp ps) (.tup ds) sl k
theorem pg_or {t1 t2 : TG} (h1 : PG X tg t1) (h2 : PG X tg t2) : PG X tg (fun v σ H Q => t1 v σ H Q ∨ t2 v σ H Q) := ⟨fun pins s σ H v u Q I r h => h.elim (h1.run pins s σ H v u Q I r) (h2.run pins s σ H v u Q I r)⟩
def wTupS (ps : List Pat) (w : WpE) : WS := fun S P => w S.sl S.cs (fun s c => unpW ps s c S.sl fun sl' => P.nx ⟨sl', c⟩) (fun x c => P.ex x ⟨S.sl, c⟩)
theorem js_tup {ps : List Pat} {k m : Nat} {tpos : Pos} (he : JE X T W e w) (hg : DGs X T es ps) (hn : (assignEach es X.env).length = m := by rfl) (hp : ps.length = m := by rfl) (hst : (assignEach es X.env).findIdx? (·.1) = none := by rfl) (hc : X.calm = true := by rfl)
    (hs : swapsWithSole [.Tuple es k tpos] e pos.line X.env = pure false := by rfl) (hw : swappedStores [.Tuple es k tpos] e X.env = pure none := by rfl)
    (h1 : (assignEach [.Tuple es k tpos] X.env).map (·.2) = [assign (.Tuple es k tpos) X.env] := by rfl) : JS X T W n (.Assign [.Tuple es k tpos] e pos) (wTupS ps w) := fun S P h =>
  weakS (ps_asg he (pg_or (dg_tup hc hg hn hp hst) (pg_unl (n := m) hc hg hn hst)) hs hw h1) fun D σ H ⟨ad, F, hn', h0, q1, q2, q3, q4, q5⟩ => ⟨ad, F, S.sl, S.cs, _, _, h0, h, fun s c v H1 ad1 hR x1 h1 r1 => by
    unfold unpW at hR
    split at hR
    · obtain ⟨sl', ha, hR⟩ := asgW_of hR
      exact .inl ⟨ad1, F, ⟨S.sl, c⟩, _, sl', h1, r1, ha, fun σ' _ h2 => q1 _ _ H1 ad1 (x1.s hn') (x1.le hn') h2 hR⟩
    · obtain ⟨ds, hL, hR⟩ := wL_of hR
      obtain ⟨sl', ha, hR⟩ := asgW_of hR
      have ha : asgPs ps ds S.sl = some sl' := ha
      obtain ⟨a, ws, rfl, e1, q0⟩ := rd_lst hL h1.hc r1
      exact .inr ⟨a, ws, rfl, SqL.of e1, by rw [q0.length, ← hp]; exact asgPs_len ha, ad1, F, ⟨S.sl, c⟩, ds, sl', h1, q0, ha, fun σ' _ h2 => q1 _ _ H1 ad1 (x1.s hn') (x1.le hn') h2 hR⟩, raz_of hn' q5⟩
/-! ### x op= e -/
def wAug (v : Nat) (w : WpE) (ow : W2) : WS := fun S P => match S.sl[v]? with
  | some (some s1) => w S.sl S.cs (fun s2 c => ow s1 s2 c fun s c' => P.nx ⟨S.sl.set v (some s), c'⟩) (fun x c => P.ex x ⟨S.sl, c⟩)
  | _ => False
theorem js_aug (v : Nat) {op : Operator} {ow : W2} (hN : X.N.Nodup) (ho : JIop X T op ow) (he : JE X T W e w) (hi : X.N[v]? = some x := by rfl) (hx : Loc X.env.scope x := by first | exact Or.inl rfl | exact Or.inr rfl) (hf : X.fn x = true ∨ X.env.scope.names.lookup x = some .local := by first | exact .inl rfl | exact .inr rfl) : JS X T W n (.AugAssign (.Name x p') op e pos) (wAug v w ow) := fun S P h => by
  unfold wAug at h
  split at h
  · rename_i s1 hs
    refine weakS (ps_aug hN hi hx he opAll hf) fun D σ H ⟨ad, F, hn, h0, q1, q2, q3, q4, q5⟩ => ?_
    obtain ⟨u, hu, ru⟩ := h0.sl v s1 hs
    refine ⟨u, hu, ad, F, S.sl, S.cs, _, _, h0, h, fun s2 c v2 H1 ad1 hR x1 h1 r1 => ?_, raz_of hn q5⟩
    obtain ⟨s, c', ⟨r, o1, o2⟩, hR⟩ := ho _ _ _ _ hR
    refine ⟨r, o1, o2 ad1 F H1 u v2 _ h1.hc (ru.ext x1) r1 fun z H' ad' x2 k2 r2 => ?_⟩
    have x12 := x1.trans h1.hc x2
    exact q1 _ _ H' ad' (x12.s hn) (x12.le hn) ((h1.to x2 k2).set r2 v) hR
  · exact h.elim
/-! ### o[i] = e -/
def setLW (s : Sl) (i : Sl) (d : Sl) (cs : List Cell) (k : List Cell → Prop) : Prop := match s, i, d with
  | .cel j, .dat (.int i), .dat d => match cs[j]? with
    | some (.lst ds) => match ixN ds.length i with
      | some m => k (cs.set j (.lst (ds.set m d)))
      | none => False
    | _ => False
  | _, _, _ => False
def wSetL (we wo wx : WpE) : WS := fun S P => we S.sl S.cs (fun d c1 => wo S.sl c1 (fun s c2 => wx S.sl c2 (fun i c3 => setLW s i d c3 fun c4 => P.nx ⟨S.sl, c4⟩) (fun x c => P.ex x ⟨S.sl, c⟩)) (fun x c => P.ex x ⟨S.sl, c⟩)) (fun x c => P.ex x ⟨S.sl, c⟩)
theorem js_setL (he : JE X T W e we) (ho : JE X T W o wo) (hx : JE X T W ix wx)
    (ha : ∀ v, assign (.Subscript o ix p') X.env v = (do
      let ov ← holding [v] (eval o X.env)
      let iv ← holding [v, ov] (eval ix X.env)
      standAt p'
      holding [v, ov, iv] (setItem ov iv v)
      release [v, ov, iv] []) := by intro _; rfl)
    (hs : swapsWithSole [.Subscript o ix p'] e pos.line X.env = pure false := by rfl) (hw : swappedStores [.Subscript o ix p'] e X.env = pure none := by rfl)
    (h1 : (assignEach [.Subscript o ix p'] X.env).map (·.2) = [assign (.Subscript o ix p') X.env] := by rfl) : JS X T W n (.Assign [.Subscript o ix p'] e pos) (wSetL we wo wx) := fun S P h =>
  weakS (ps_asg he (pg_sub ho hx set_list ha) hs hw h1) fun D σ H ⟨ad, F, hn, h0, q1, q2, q3, q4, q5⟩ => ⟨ad, F, S.sl, S.cs, _, _, h0, h, fun d c1 v H1 ad1 hR1 x1 h1 r1 => ⟨ad1, F, S.sl, c1, _, _, h1, hR1, fun s c2 w H2 ad2 hR2 x2 h2 r2 => ⟨ad2, F, S.sl, c2, _, _, h2, hR2, fun i c3 z H3 ad3 hR3 x3 h3 r3 => by
    unfold setLW at hR3
    split at hR3
    · rename_i j ii dd
      split at hR3
      · rename_i ds hk
        split at hR3
        · rename_i m hm
          cases r3
          have r2' := SlRep.ext x3 r2
          obtain ⟨a, ea, rfl⟩ := r2'
          obtain ⟨vs, e1, q0⟩ := h3.hc.ce j a _ ea hk
          have rd : Rep T X.K (Mm ad3 F) H3 v dd := SlRep.ext (s := .dat dd) x3 (SlRep.ext (s := .dat dd) x2 r1)
          refine ⟨a, vs, ii, m, rfl, rfl, e1, by rw [q0.length]; exact hm, ?_⟩
          have kp : Kp (Mm ad3 F) H3 (Mm ad3 F) (upd H3 a (.lst (vs.set m v))) := fun b o e nn => ⟨by rw [upd_ne (fun z => nn (.inl (by rw [z]; exact List.mem_of_getElem? ea)))]; exact e, nn⟩
          obtain ⟨k4, x4⟩ := h3.hc.setc (o := .lst (vs.set m v)) (c := .lst (ds.set m dd)) ea ⟨_, upd_same, (q0.set rd m).kp kp⟩
          have x := x1.trans h1.hc (x2.trans h2.hc (x3.trans h3.hc x4))
          exact q1 _ _ _ ad3 (x.s hn) (x.le hn) (h3.to x4 k4) hR3
        · exact hR3.elim
      · exact hR3.elim
    · exact hR3.elim, ((raz_of hn q5).on x1 h1).on x2 h2⟩, (raz_of hn q5).on x1 h1⟩, raz_of hn q5⟩
/-! ### o.f = e -/
def setFW (cn : Nat) (f : Str) (s d : Sl) (cs : List Cell) (k : List Cell → Prop) : Prop := match s, d with
  | .cel j, .dat d => match cs[j]? with
    | some (.ins m fs) => m = cn ∧ fIdx (fs.map (·.1)) f = none ∧ fs.length < 1000 ∧ k (cs.set j (.ins cn (fs ++ [(f, d)])))
    | _ => False
  | _, _ => False
def wSetF (cn : Nat) (f : Str) (we wo : WpE) : WS := fun S P => we S.sl S.cs (fun d c1 => wo S.sl c1 (fun s c2 => setFW cn f s d c2 fun c3 => P.nx ⟨S.sl, c3⟩) (fun x c => P.ex x ⟨S.sl, c⟩)) (fun x c => P.ex x ⟨S.sl, c⟩)
theorem js_fld {cn : Nat} {C : Addr} {fn : List Str} {f : Str} (hT : T cn = some (C, fn)) (hc : Cls X.K C) (hn : NoAttr X.K C f) (he : JE X T W e we) (ho : JE X T W o wo) (hs : swapsWith e (some (.Attribute o f p')) pos.line X.env = pure false := by rfl) : JS X T W n (.Assign [.Attribute o f p'] e pos) (wSetF cn f we wo) := fun S P h =>
  weakS (ps_fld ho he hs) fun D σ H ⟨ad, F, hn', h0, q1, q2, q3, q4, q5⟩ => ⟨ad, F, S.sl, S.cs, _, _, h0, h, fun d c1 v H1 ad1 hR1 x1 h1 r1 => ⟨ad1, F, S.sl, c1, _, _, h1, hR1, fun s c2 w H2 ad2 hR2 x2 h2 r2 => by
    unfold setFW at hR2
    split at hR2
    · rename_i j dd
      split at hR2
      · rename_i m fs hk
        obtain ⟨rfl, hf, hl, hR2⟩ := hR2
        obtain ⟨a, ea, rfl⟩ := r2
        obtain ⟨C', fn', dx, vs, ht, e1, lv, rv⟩ := h2.hc.ce j a _ ea hk
        rw [hT] at ht
        cases ht
        have rd : Rep T X.K (Mm ad2 F) H2 v dd := SlRep.ext (s := .dat dd) x2 r1
        have lz : ((fs.map (·.1)).zip vs).length < 1000 := by rw [List.length_zip, List.length_map]; omega
        refine ⟨a, C, dx, _, rfl, e1, hc, hn, lz, ?_⟩
        rw [putF_new hf (by rw [lv, List.length_map])]
        have kp : Kp (Mm ad2 F) H2 (Mm ad2 F) (upd H2 a (.ins C dx ((fs.map (·.1) ++ [f]).zip (vs ++ [v])))) := fun b o e n => ⟨by rw [upd_ne (fun z => n (.inl (by rw [z]; exact List.mem_of_getElem? ea)))]; exact e, n⟩
        obtain ⟨c3, x3⟩ := h2.hc.setc (o := .ins C dx ((fs.map (·.1) ++ [f]).zip (vs ++ [v]))) (c := .ins m (fs ++ [(f, dd)])) ea
          ⟨C, fn, dx, vs ++ [v], hT, by rw [upd_same, List.map_append]; rfl, by simp [lv], by rw [List.map_append]; exact (rv.append (.cons rd .nil)).kp kp⟩
        have x : Ext ad F H ad2 _ := x1.trans h1.hc (x2.trans h2.hc x3)
        exact q1 _ _ _ ad2 (x.s hn') (x.le hn') (h2.to x3 c3) hR2
      · exact hR2.elim
    · exact hR2.elim, (raz_of hn' q5).on x1 h1⟩, raz_of hn' q5⟩
/-! ### xs.append(e) -/
def appW (s d : Sl) (cs : List Cell) (R : RV) : Prop := match s, d with
  | .cel j, .dat d => match cs[j]? with
    | some (.lst ds) => ds.length < sizeLine ∧ R (.dat .non) (cs.set j (.lst (ds ++ [d])))
    | _ => False
  | _, _ => False
def wApp (wo we : WpE) : WpE := fun sl cs R Rx => wo sl cs (fun s c1 => (match s with
  | .cel j => match c1[j]? with
    | some (.lst _) => True
    | _ => False
  | _ => False) ∧ we sl c1 (fun d c2 => appW s d c2 R) Rx) Rx
/-! ### the last cell becomes data -/
def frzW (i n : Nat) (S : Sta) (k : Sta → Prop) : Prop := match S.sl[i]? with
  | some (some (.cel m)) => n ≤ m ∧ match S.cs[m]? with
    | some (.lst ds) => k ⟨S.sl.map (frzS m ds), S.cs.take m⟩
    | _ => False
  | _ => False
theorem jss_frz (i : Nat) {sts : List Stmt} {w : WS} (h : JSs X T W n sts w) : JSs X T W n sts (fun S P => frzW i n S fun S' => w S' P) := fun S P hw => by
  have hw : frzW i n S fun S' => w S' P := hw
  unfold frzW at hw
  split at hw
  · obtain ⟨hm, hw⟩ := hw
    split at hw
    · rename_i ds hc
      exact dss_freeze _ hm hc (h _ P hw)
    · exact hw.elim
  · exact hw.elim
end
/-! ### defs -/
def endJ (n : Nat) (s : Sl) (cs' : List Cell) : PJ := { nx := fun S => s = .dat .non ∧ S.cs.take n = cs', rt := fun r c => r = s ∧ c = cs' }
def endJX (n : Nat) (x : Exc) (cs' : List Cell) : PJ := { nx := fun _ => False, rt := fun _ _ => False, ex := fun y S => y = x ∧ S.cs.take n = cs' }
/-- the contract that a def's reading is -/
def ctOf (N ps : List Str) (w : Nat → WS) : Ct := fun args cs s cs' => args.length = ps.length ∧ w cs.length (st0 N args cs) (endJ cs.length s cs')
def ctXOf (N ps : List Str) (w : Nat → WS) : CtX := fun args cs x cs' => args.length = ps.length ∧ w cs.length (st0 N args cs) (endJX cs.length x cs')
section
variable {T : Tab} {P : Program} {w : World} {K : PySem.W.Frag} {mg : Str → Option Value} {base : Heap} {x qual : Str} {st : Stmt} {f : Addr} {fd : FuncData} {N ps : List Str} {k : Nat} {ws : Nat → WS}
theorem fn_J (F : Fun K x qual st f fd) (Sc : FnScope N ps (defScope st))
    (body : ∀ cdv A outer sh H E, Room k (cx0 P w K mg base N qual st f cdv A outer sh H E).A → ∀ n, JSs (cx0 P w K mg base N qual st f cdv A outer sh H E) T W0 n (defBody st) (ws n)) : FnOk P w K mg base CX0 (k + 1) f fd ps (spC T K (ctOf N ps ws)) :=
  fn_ok F Sc (fun _ _ _ _ h => h.1) fun cdv A outer sh H E hr args cs s cs' h => body cdv A outer sh H E hr _ _ _ h.2
theorem fn_JD {dvs : List V} {kws : List (Str × V)} (F : FunD K x qual (defArgs st) (defBody st) (defScope st) dvs kws f fd) (Sc : FnScope N ps (defScope st))
    (body : ∀ cdv A outer sh H E, Room k (cx0 P w K mg base N qual st f cdv A outer sh H E).A → ∀ n, JSs (cx0 P w K mg base N qual st f cdv A outer sh H E) T W0 n (defBody st) (ws n)) : FnOk P w K mg base CX0 (k + 1) f fd ps (spC T K (ctOf N ps ws)) :=
  fn_okD F Sc (fun _ _ _ _ h => h.1) fun cdv A outer sh H E hr args cs s cs' h => body cdv A outer sh H E hr _ _ _ h.2
theorem fn_JX (F : Fun K x qual st f fd) (Sc : FnScope N ps (defScope st))
    (body : ∀ cdv A outer sh H E, Room k (cxX P w K mg base N qual st f cdv A outer sh H E).nox.A → ∀ n, JSs (cxX P w K mg base N qual st f cdv A outer sh H E).nox T W0 n (defBody st) (ws n))
    (bodyX : ∀ cdv A outer sh H E, Room k (cxX P w K mg base N qual st f cdv A outer sh H E).A → Takes (cxX P w K mg base N qual st f cdv A outer sh H E) (fun cls d _ H => E cls d H) → ∀ n, JSs (cxX P w K mg base N qual st f cdv A outer sh H E) T (fun cls d _ H => E cls d H) n (defBody st) (ws n)) :
    FnOk P w K mg base (L2.CX P w) (k + 1) f fd ps (spX T K (ctOf N ps ws) (ctXOf N ps ws)) :=
  fn_okX F Sc (fun _ _ _ _ h => h.1) (fun _ _ _ _ h => h.1) (fun cdv A outer sh H E hr args cs s cs' h => body cdv A outer sh H E hr _ _ _ h.2) fun cdv A outer sh H E hr tk args cs x cs' h => bodyX cdv A outer sh H E hr tk _ _ _ h.2
end
end Dl

namespace Dl
open PySem L2
def optW (o : Option Bool) (k : Bool → Prop) : Prop := match o with
  | some b => k b
  | none => False
theorem optW_of {o : Option Bool} {k : Bool → Prop} (h : optW o k) : ∃ b, o = some b ∧ k b := by
  unfold optW at h
  split at h
  · exact ⟨_, rfl, h⟩
  · exact h.elim
section
variable {X : Cx} {T : Tab} {W : WX} {n : Nat} {a b c e e2 o ix it tg : Expr} {es : List Expr} {pos apos p p2 p' : Pos} {wa wb we wo wx w : WpE} {wt : WpT} {wA : WpA} {x y z : Str} {u : String} {C2 : Addr}
/-! ### xs.append(e) -/
theorem je_app (ho : JE X T W o wo) (he : JE X T W e we) (hb : attributeBase o "append" X.env (eval o X.env) = eval o X.env := by rfl) (hfew : ((backTo pos (starEach [e] X.env)).all (fun x => !x.1) && (backToKw pos (keywordEach [] X.env)).all (fun x => x.1.isSome) && decide (([e] : List Expr).length + ([] : List Keyword).length + (if ([] : List Keyword).isEmpty then 0 else 1) < 30)) = true := by rfl)
    (hl : (apos.endLine == pos.line) = true := by rfl) (hs : starEach [e] X.env = (false, eval e X.env) :: starEach [] X.env := by rfl) (hpl : (backTo pos (starEach [] X.env)).any (·.1) = false := by rfl) : JE X T W (.Call (.Attribute o "append" apos) [e] [] pos) (wApp wo we) :=
  weak (pe_bm PySem.F.plainAttrs_list PySem.F.slot_list_append PySem.F.type_list_append mt_append ho (ja_cons he ja_nil hs) hb hfew hl hs hpl) fun σ H Q ⟨ad, F, sl, cs, R, Rx, h0, hw, q, qx⟩ => ⟨ad, F, sl, cs, _, Rx, h0, hw, fun s c1 v H1 ad1 hw1 x1 h1 r1 => by
    obtain ⟨hs1, hw1⟩ := hw1
    split at hs1
    · rename_i j
      split at hs1
      · rename_i ds0 hk0
        have r1' := r1
        obtain ⟨l, el, rfl⟩ := r1
        obtain ⟨vs0, e0, q0⟩ := h1.hc.ce j l _ el hk0
        refine ⟨.inl ⟨rfl, vs0, SqL.of e0⟩, ad1, F, sl, c1, (fun ss c2 => match ss with
          | [d] => appW (.cel j) d c2 R
          | _ => False), Rx, h1, hw1, fun ss c2 ws H2 ad2 hw2 x2 h2 r2 => ?_, qx.on x1 h1⟩
        match ss, ws, r2 with
        | [s2], [y], r2 =>
          have hw2 : appW (.cel j) s2 c2 R := hw2
          match s2, r2, hw2 with
          | .dat d, r2, hw2 =>
            have hw2 : (match c2[j]? with
              | some (.lst ds) => ds.length < sizeLine ∧ R (.dat .non) (c2.set j (.lst (ds ++ [d])))
              | _ => False) := hw2
            split at hw2
            · rename_i ds hk
              have el2 : ad2[j]? = some l := by
                obtain ⟨l', el', e⟩ := SlRep.ext (s := .cel j) x2 r1'
                cases e
                exact el'
              obtain ⟨vs, e1, q1⟩ := h2.hc.ce j l _ el2 hk
              refine ⟨l, vs, y, rfl, rfl, e1, by rw [q1.length]; exact hw2.1, ?_⟩
              have kp : Kp (Mm ad2 F) H2 (Mm ad2 F) (upd H2 l (.lst (vs ++ [y]))) := fun b o e nn => ⟨by rw [upd_ne (fun z => nn (.inl (by rw [z]; exact List.mem_of_getElem? el2)))]; exact e, nn⟩
              obtain ⟨k4, x4⟩ := h2.hc.setc (o := .lst (vs ++ [y])) (c := .lst (ds ++ [d])) el2 ⟨_, upd_same, (q1.append (.cons r2.1 .nil)).kp kp⟩
              exact q _ _ .non _ ad2 hw2.2 (x1.trans h1.hc (x2.trans h2.hc x4)) (h2.to x4 k4) Rep.non
            · exact hw2.elim
          | .cel _, _, hw2 => exact hw2.elim
      · exact hs1.elim
    · exact hs1.elim, qx⟩
/-! ### isinstance(e, C) -/
def isiW (tb : String → Option Bool) (ob : Nat → Option Bool) (s : Sl) (k : Bool → Prop) : Prop := match s with
  | .dat (.obj n _) => optW (ob n) k
  | .dat d => match tyD d with
    | some t => optW (tb t) k
    | none => False
  | _ => False
def wIsi (tb : String → Option Bool) (ob : Nat → Option Bool) (w : WpE) : WpE := fun sl cs R Rx => w sl cs (fun s c => isiW tb ob s fun b => R (.dat (.bl b)) c) Rx
/-- what is known of the objects' classes against the value c -/
def ObIs (K : PySem.W.Frag) (T : Tab) (c : Value) (ob : Nat → Option Bool) : Prop := ∀ n b, ob n = some b → ∃ C fn, T n = some (C, fn) ∧ IsiC K C ∧ PySem.W.kitOne K (.ref C) c = some b
theorem je_isiB {ob : Nat → Option Bool} (hi : X.mg "isinstance" = none) (hm : X.mg x = none) (hv : bootBuiltins x = some (.type u)) (hob : ObIs X.K T (.type u) ob) (he : JE X T W e w) (hg : Gl X "isinstance" := by rfl) (hg2 : Gl X x := by rfl) (hn : x ≠ "__name__" := by decide) (hdb : (x == ("__debug__" : Str)) = false := by decide)
    (hs1 : starEach [e, .Name x p2] X.env = (false, eval e X.env) :: starEach [.Name x p2] X.env := by rfl) (hs2 : starEach [.Name x p2] X.env = (false, eval (.Name x p2) X.env) :: starEach [] X.env := by rfl) (hpl : (backTo pos (starEach [.Name x p2] X.env)).any (·.1) = false := by rfl) :
    JE X T W (.Call (.Name "isinstance" p) [e, .Name x p2] [] pos) (wIsi (fun t => kitB t u) ob w) :=
  weak (pe_callB call_isi hg hi (by decide +kernel) (pa_cons he (pa_cons (pe_bltn (v := .ty u) hg2 hm hv rfl hn hdb) pa_nil hs2) hs1) (by decide) (by decide) hs1 hpl) fun σ H Q ⟨ad, F, sl, cs, R, Rx, h0, hw, q, qx⟩ => ⟨ad, F, sl, cs, _, Rx, h0, hw, fun s c1 v H1 ad1 hw1 x1 h1 r1 => by
    unfold isiW at hw1
    split at hw1
    · obtain ⟨k, hk, hR⟩ := optW_of hw1
      obtain ⟨C, fn, hT, hI, hk⟩ := hob _ _ hk
      cases r1 with
      | @obj a C' dx _ fn' vs' _ ht na e1 hl r =>
        rw [hT] at ht
        cases ht
        exact ⟨_, .ty u, .ref C, .type u, k, rfl, .ty u, .base (.ins e1 hI.cl hI.ca hI.cn hI.ct hI.cm), hk, q _ c1 _ H1 ad1 hR x1 h1 Rep.bl⟩
    · split at hw1
      · rename_i ht
        obtain ⟨k, hk, hR⟩ := optW_of hw1
        exact ⟨v, .ty u, .type _, .type u, k, rfl, .ty u, tyx_of r1 ht, kit_ty hk, q _ c1 _ H1 ad1 hR x1 h1 Rep.bl⟩
      · exact hw1.elim
    · exact hw1.elim, qx⟩
theorem je_isiC {tb : String → Option Bool} {ob : Nat → Option Bool} (hi : X.mg "isinstance" = none) (hm : X.mg x = some (.ref C2)) (htb : ∀ t b, tb t = some b → PySem.W.kitOne X.K (.type t) (.ref C2) = some b) (hob : ObIs X.K T (.ref C2) ob) (he : JE X T W e w) (hg : Gl X "isinstance" := by rfl) (hg2 : Gl X x := by rfl) (hdb : (x == ("__debug__" : Str)) = false := by decide)
    (hs1 : starEach [e, .Name x p2] X.env = (false, eval e X.env) :: starEach [.Name x p2] X.env := by rfl) (hs2 : starEach [.Name x p2] X.env = (false, eval (.Name x p2) X.env) :: starEach [] X.env := by rfl) (hpl : (backTo pos (starEach [.Name x p2] X.env)).any (·.1) = false := by rfl) :
    JE X T W (.Call (.Name "isinstance" p) [e, .Name x p2] [] pos) (wIsi tb ob w) :=
  weak (pe_callB call_isi hg hi (by decide +kernel) (pa_cons he (pa_cons (pe_glob (v := .ref C2) hg2 hm rfl hdb) pa_nil hs2) hs1) (by decide) (by decide) hs1 hpl) fun σ H Q ⟨ad, F, sl, cs, R, Rx, h0, hw, q, qx⟩ => ⟨ad, F, sl, cs, _, Rx, h0, hw, fun s c1 v H1 ad1 hw1 x1 h1 r1 => by
    unfold isiW at hw1
    split at hw1
    · obtain ⟨k, hk, hR⟩ := optW_of hw1
      obtain ⟨C, fn, hT, hI, hk⟩ := hob _ _ hk
      cases r1 with
      | @obj a C' dx _ fn' vs' _ ht na e1 hl r =>
        rw [hT] at ht
        cases ht
        exact ⟨_, .ref C2, .ref C, .ref C2, k, rfl, .own C2, .base (.ins e1 hI.cl hI.ca hI.cn hI.ct hI.cm), hk, q _ c1 _ H1 ad1 hR x1 h1 Rep.bl⟩
    · split at hw1
      · rename_i ht
        obtain ⟨k, hk, hR⟩ := optW_of hw1
        exact ⟨v, .ref C2, .type _, .ref C2, k, rfl, .own C2, tyx_of r1 ht, htb _ _ hk, q _ c1 _ H1 ad1 hR x1 h1 Rep.bl⟩
      · exact hw1.elim
    · exact hw1.elim, qx⟩
/-! ### raise C(e) -/
def wRaise1 (m : Nat) (w : WpE) : WS := fun S P => w S.sl S.cs (fun s c => isDat s fun d => P.ex ⟨m, [d]⟩ ⟨S.sl, c⟩) (fun x c => P.ex x ⟨S.sl, c⟩)
theorem js_raise1 {m k : Nat} {f g : Str} {C fI : Addr} {fd : FuncData} {pos2 : Pos} (tk : Takes X W) (oc : OexC X.K C) (iC : PySem.W.findIn X.K (.ref C) "__init__" = some (some (.ref fI))) (tI : PySem.W.typeIn X.K (.ref fI) = some (.type "function"))
    (F1 : FnOk X.prog X.w X.K X.mg X.base CX0 k fI fd ["self", g] (spE1 C f)) (hr : Room (k + 1) X.A) (hb : Binds X.K fd ["self", g] []) (hm : X.mg x = some (.ref C)) (hT : T m = some (C, [f])) (ha : JE X T W e w) (hc : X.calm = true := by rfl) (hg : Gl X x := by rfl)
    (hdb : (x == ("__debug__" : Str)) = false := by decide) (he : starEach [e] X.env = (false, eval e X.env) :: starEach [] X.env := by rfl) : JS X T W n (.Raise (some (.Call (.Name x p) [e] [] pos)) none pos2) (wRaise1 m w) := fun S P h =>
  weakS (ps_raise hc tk (pmk_oex oc iC tI F1 hr hb .nil pass0 hg hm (ja_cons ha ja_nil he) hdb he rfl)) fun D σ H ⟨ad, F, hn, h0, q1, q2, q3, q4, q5⟩ => ⟨ad, F, S.sl, S.cs, (fun ss c => match ss with
      | [s] => isDat s fun d => P.ex ⟨m, [d]⟩ ⟨S.sl, c⟩
      | _ => False), (fun x c => P.ex x ⟨S.sl, c⟩), h0, h, fun ss c1 vs H1 ad1 hR x1 h1 r1 => by
    match ss, vs, r1 with
    | [s], [v], r1 =>
      have hR' := isDat_of (s := s) hR
      clear hR
      obtain ⟨d, e0, hR⟩ := hR'
      subst e0
      refine ⟨by show 1 ≤ 1000; decide, fun a na => ⟨a, v, rfl, upd_same, fun dx ndx ne => ⟨rfl, dx, [(f, v)], upd_same, ?_, ?_, ?_⟩⟩⟩
      · rw [upd_ne ne, upd_same]
      · rw [upd_ne ne] at ndx; exact ndx
      · have n1 : H1 dx = none := by rw [upd_ne ne] at ndx; exact ndx
        have eH : upd (del (upd (upd (upd H1 a (exo a C none)) dx (exd dx [(f, v)])) a (exo a C (some dx))) a) dx (.xd [(f, v)]) = upd H1 dx (.xd [(f, v)]) := by
          funext b
          by_cases hb : b = dx
          · rw [hb, upd_same, upd_same]
          · rw [upd_ne hb, upd_ne hb]
            by_cases hba : b = a
            · rw [hba, del_same, na]
            · rw [del_ne hba, upd_ne hba, upd_ne hb, upd_ne hba]
        rw [eH]
        obtain ⟨c3, x3⟩ := h1.hc.newo (o := .xd [(f, v)]) n1
        have hn1 := x1.le hn
        exact q5 ⟨m, [d]⟩ ⟨S.sl, c1⟩ (.ref C) (some dx) σ _ ad1 ((x1.trans h1.hc x3).s hn) hn1 (h1.to x3 c3) ⟨C, [f], hT, rfl, .inr ⟨dx, [v], rfl, h1.hc.new n1, upd_same, rfl, .cons (Rep.kp x3.kp r1.1) .nil⟩⟩ hR, raz_of hn q5⟩
/-! ### try -/
def errS (m : Nat) (a : Addr) (d : Option Addr) (fs : List D) : Sl := .dat (.err m a d fs)
/-- the post of the clause's suite: its name is gone behind it -/
def sufJ (i : Nat) (P : PJ) : PJ := { nx := fun S' => P.nx ⟨S'.sl.set i none, S'.cs⟩, rt := P.rt, bk := fun S' => P.bk ⟨S'.sl.set i none, S'.cs⟩, ct := fun S' => P.ct ⟨S'.sl.set i none, S'.cs⟩ }
def wTry (mt : Nat → Option Bool) (i : Nat) (wb : WS) (ws : Nat → Addr → Option Addr → WS) : WS := fun S P => wb S { P with ex := fun x S' => match mt x.n with
  | some true => ∀ a d, ws x.n a d ⟨S'.sl.set i (some (.dat (.err x.n a d x.fs))), S'.cs⟩ (sufJ i P)
  | some false => P.ex x S'
  | none => False }
theorem js_try {body suite : List Stmt} {b0 : Stmt} {pos' np : Pos} {i : Nat} {cv : Value} {mt : Nat → Option Bool} {wb : WS} {ws : Nat → Addr → Option Addr → WS} (tk : Takes X W) (hN : X.N.Nodup) (hc : Names X x cv)
    (hmt : ∀ m b, mt m = some b → ∀ C fn, T m = some (C, fn) → PySem.W.exmOne X.K (.ref C) cv = some b)
    (hb : ∀ (V : WX) (pn : List (Addr × Obj)) (xe : Value → Shared → Prop), Takes (X.tr pn xe) V → PassesOwn (model X.prog X.w) X.A X.env xe → JSs (X.tr pn xe) T V n body wb)
    (hsu : ∀ (m : Nat) (a : Addr) (oe : Obj) (d : Option Addr) (C : Addr) (fn : List Str) (pn : List (Addr × Obj)), mt m = some true → T m = some (C, fn) → Zc (.ref C) d oe → (∃ vs, oe.data = .fields vs) → JSs (X.suite a ((a, oe) :: pn)) T W0 n (b0 :: suite) (ws m a d))
    (hs : X.stack = X.env :: X.outer := by rfl) (hf : X.env.frame = some X.env.locals := by rfl) (hi : X.N[i]? = some y := by rfl) (hln : X.env.kindOf y = some .local := by rfl) :
    JS X T W n (.Try body [.ExceptHandler (some (.Name x np)) (some y) (b0 :: suite) pos'] [] [] pos) (wTry mt i wb ws) := fun S P h => by
  let ts : Addr → Value → Option Addr → TS := fun a cls d D σ H => ∃ m C fn S1 P1, cls = .ref C ∧ mt m = some true ∧ T m = some (C, fn) ∧ ws m a d S1 P1 ∧ tDS T X.K n S1 (P1.to W0) D σ H
  have hsu' : ∀ (a : Addr) (oe : Obj) (cls : Value) (d : Option Addr) (pn : List (Addr × Obj)), Zc cls d oe → (∃ vs, oe.data = .fields vs) → PSs (X.suite a ((a, oe) :: pn)) (b0 :: suite) (ts a cls d) := fun a oe cls d pn hz hv => ⟨fun pins s σ H D I z => by
    obtain ⟨m, C, fn, S1, P1, rfl, h1, h2, h3, z⟩ := z
    exact (hsu m a oe d C fn pn h1 h2 hz hv S1 P1 h3).run pins s σ H D I z⟩
  let tb : WX → TS := fun V D σ H => ∃ S1 P1, wb S1 P1 ∧ tDS T X.K n S1 (P1.to V) D σ H
  have hb' : ∀ (V : WX) (pn : List (Addr × Obj)) (xe : Value → Shared → Prop), Takes (X.tr pn xe) V → PassesOwn (model X.prog X.w) X.A X.env xe → PSs (X.tr pn xe) body (tb V) := fun V pn xe t po => ⟨fun pins s σ H D I z => by
    obtain ⟨S1, P1, h1, z⟩ := z
    exact (hb V pn xe t po S1 P1 h1).run pins s σ H D I z⟩
  refine weakS (ps_try_as (ts := ts) (tb := tb) hs hf hN hi hln hc tk hb' hsu') fun D σ H ⟨ad, F, hn, h0, q1, q2, q3, q4, q5⟩ => ?_
  refine ⟨S, _, h, ad, F, hn, h0, q1, q2, q3, q4, ?_⟩
  intro x0 S2 cls d σ' H' ad' x' hn' h' er hx
  obtain ⟨C, fn, e1, e2, er'⟩ := id er
  have hx : match mt x0.n with
    | some true => ∀ a d, ws x0.n a d ⟨S2.sl.set i (some (.dat (.err x0.n a d x0.fs))), S2.cs⟩ (sufJ i P)
    | some false => P.ex x0 S2
    | none => False := hx
  split at hx
  · rename_i hm
    refine ⟨true, by rw [e2]; exact hmt _ _ hm C fn e1, fun _ a na => ⟨x0.n, C, fn, _, sufJ i P, e2, hm, e1, hx a d, ?_⟩, fun z => nomatch z⟩
    have rp : Rep T X.K (Mm ad' F) H' (.ref a) (.err x0.n a d x0.fs) := by
      rcases er' with ⟨f1, f2, f3⟩ | ⟨dd, vs, a1, a2, a3, a4, a5⟩
      · rw [f2, f3]
        subst f1
        exact .err (vs := []) e1 (.inl ⟨rfl, rfl, rfl⟩) .nil
      · exact .err e1 (.inr ⟨dd, a1, a2, a3, a4⟩) a5
    have hh := h'.set (s := .dat (.err x0.n a d x0.fs)) rp i
    refine ⟨ad', F, hn', hh, ?_, ?_, ?_, ?_, fun _ _ _ _ _ _ _ _ _ _ _ z => z.elim⟩
    · exact fun S3 σ3 H3 ad3 x3 hn3 h3 p => q1 _ _ H3 ad3 (x'.trans x3) hn3 (h3.unset i) p
    · exact fun s cs3 v H3 ad3 x3 hn3 c3 r3 p => q2 s cs3 v H3 ad3 (x'.trans x3) hn3 c3 r3 p
    · exact fun S3 σ3 H3 ad3 x3 hn3 h3 p => q3 _ _ H3 ad3 (x'.trans x3) hn3 (h3.unset i) p
    · exact fun S3 σ3 H3 ad3 x3 hn3 h3 p => q4 _ _ H3 ad3 (x'.trans x3) hn3 (h3.unset i) p
  · rename_i hm
    exact ⟨false, by rw [e2]; exact hmt _ _ hm C fn e1, (fun z => nomatch z), fun _ => q5 x0 S2 cls d σ' H' ad' x' hn' h' er hx⟩
  · exact hx.elim
end
/-! ### in the suite -/
section
variable {X : Cx} {T : Tab} {a C Ce : Addr} {oe : Obj} {d : Option Addr} {pn : List (Addr × Obj)} {e e2 : Expr} {pos p : Pos} {m : Nat} {fn : List Str} {w w2 : WpE} {f : Str}
/-- the caught error -/
def errW (m : Nat) (a : Addr) (d : Option Addr) (s : Sl) (k : List D → Prop) : Prop := match s with
  | .dat (.err m' a' d' fs) => (m' = m ∧ a' = a ∧ d' = d) ∧ k fs
  | _ => False
theorem errW_of {s : Sl} {k : List D → Prop} (h : errW m a d s k) : ∃ fs, s = .dat (.err m a d fs) ∧ k fs := by
  unfold errW at h
  split at h
  · obtain ⟨⟨rfl, rfl, rfl⟩, h⟩ := h
    exact ⟨_, rfl, h⟩
  · exact h.elim
/-- isinstance(e, C) and isinstance(e, (C, ..)) of the caught error -/
def isiEW (m : Nat) (a : Addr) (d : Option Addr) (b : Option Bool) (ss : List Sl) (k : Bool → Prop) : Prop := match ss with
  | [s, .dat (.cls _)] => errW m a d s fun _ => optW b k
  | [s, .dat (.tup _)] => errW m a d s fun _ => optW b k
  | _ => False
def wIsiE (m : Nat) (a : Addr) (d : Option Addr) (b : Option Bool) (w : WpE) : WpE := fun sl cs R Rx => w sl cs (fun s c => errW m a d s fun _ => optW b fun k => R (.dat (.bl k)) c) Rx
theorem je_isiE {kb : Option Bool} {x : Str} {p2 : Pos} (E : Err X T m a d Ce oe) (hi : X.mg "isinstance" = none) (hm : X.mg x = some (.ref C)) (hk : ∀ b, kb = some b → PySem.W.kitOne X.K (.ref Ce) (.ref C) = some b) (he : JE (X.suite a ((a, oe) :: pn)) T W0 e w) (hg : Gl X "isinstance" := by rfl) (hg2 : Gl X x := by rfl) (hdb : (x == ("__debug__" : Str)) = false := by decide)
    (h1 : starEach [e, .Name x p2] X.env = (false, eval e X.env) :: starEach [.Name x p2] X.env := by rfl) (h2 : starEach [.Name x p2] X.env = (false, eval (.Name x p2) X.env) :: starEach [] X.env := by rfl) (hpl : (backTo pos (starEach [.Name x p2] X.env)).any (·.1) = false := by rfl) :
    JE (X.suite a ((a, oe) :: pn)) T W0 (.Call (.Name "isinstance" p) [e, .Name x p2] [] pos) (wIsiE m a d kb w) :=
  weak (pe_callB (X := X.suite a ((a, oe) :: pn)) (call_isX E.ec E.hz E.hf) hg hi (by decide +kernel) (pa_cons he (pa_cons (pe_glob (X := X.suite a ((a, oe) :: pn)) (v := .ref C) hg2 hm rfl hdb) pa_nil h2) h1) (by decide) (by decide) h1 hpl) fun σ H Q ⟨ad, F, sl, cs, R, Rx, h0, hw, q, qx⟩ => ⟨ad, F, sl, cs, _, Rx, h0, hw, fun s c1 v H1 ad1 hw1 x1 h1 r1 => by
    have hw1' := errW_of hw1
    clear hw1
    obtain ⟨fs, e0, hw1⟩ := hw1'
    subst e0
    obtain ⟨k, hkb, hR⟩ := optW_of hw1
    cases r1 with
    | err ht hx _ => exact ⟨xat_or hx, .inl ⟨C, k, rfl, hk _ hkb, q _ c1 _ H1 ad1 hR x1 h1 Rep.bl⟩⟩, qx⟩
def clsS : List Sl → Option (List Addr)
  | [] => some []
  | .dat (.cls c) :: r => (clsS r).map (c :: ·)
  | _ => none
/-- e.f -/
def wXf (m : Nat) (a : Addr) (d : Option Addr) (fn : Nat → List Str) (f : Str) (w : WpE) : WpE := fun sl cs R Rx => w sl cs (fun s c => errW m a d s fun fs => match fIdx (fn m) f with
  | some j => match fs[j]? with
    | some v => R (.dat v) c
    | none => False
  | none => False) Rx
theorem je_xf {fnT : Nat → List Str} (E : Err X T m a d Ce oe) (xc : XfC X.K Ce) (hno : PySem.W.findIn X.K (.ref Ce) f = some none) (hT : T m = some (Ce, fnT m)) (he : JE (X.suite a ((a, oe) :: pn)) T W0 e w) (hb : attributeBase e f X.env (eval e X.env) = eval e X.env := by rfl) :
    JE (X.suite a ((a, oe) :: pn)) T W0 (.Attribute e f pos) (wXf m a d fnT f w) :=
  weak (pe_xf xc hno E.hz E.hf he hb) fun σ H Q ⟨ad, F, sl, cs, R, Rx, h0, hw, q, qx⟩ => ⟨ad, F, sl, cs, _, Rx, h0, hw, fun s c1 v H1 ad1 hw1 x1 h1 r1 => by
    have hw1' := errW_of hw1
    clear hw1
    obtain ⟨fs, e0, hw1⟩ := hw1'
    subst e0
    split at hw1
    · rename_i j hf
      split at hw1
      · rename_i v hv
        cases r1 with
        | @err _ C' _ fn' _ vs _ ht hx r =>
          rw [hT] at ht
          cases ht
          rcases hx with ⟨z, _, _⟩ | ⟨dd, h2, _, h3, hl⟩
          · rw [z] at hf
            cases hf
          · obtain ⟨u, hu, lk⟩ := fIdx_look (vs := vs) hf hl
            obtain ⟨u', hu', ru⟩ := r.get hv
            rw [hu] at hu'
            cases hu'
            exact ⟨rfl, rfl, dd, _, u, h2, h3, lk, q _ c1 u H1 ad1 hw1 x1 h1 ru⟩
      · exact hw1.elim
    · exact hw1.elim, qx⟩
end
end Dl

namespace Dl
open PySem L2
def wNo : WS := fun _ _ => False
theorem js_no {X : Cx} {T : Tab} {W : WX} {n : Nat} {st : Stmt} : JS X T W n st wNo := fun _ _ h => h.elim
def wNoE : WpE := fun _ _ _ _ => False
theorem je_no {X : Cx} {T : Tab} {W : WX} {e : Expr} : JE X T W e wNoE := weak noE fun σ H Q ⟨ad, F, sl, cs, R, Rx, h0, hw, q, qx⟩ => hw
def wFrz (i n : Nat) (w : WS) : WS := fun S P => frzW i n S fun S' => w S' P
def absOW (cn : Nat) (c : Ct) : WC := fun ss cs R => match ss with
  | [s] => match isO cn s with
    | true => ∃ d, c [s] [] (.dat d) [] ∧ R (.dat d) cs
    | false => absW ss cs R
  | _ => False
open PySem.W in
theorem kit_cls {K : Frag} {C : Addr} {t : Value} {b : Bool} (hne : (t == .ref C) = false) (hd : hasDictIn K C = true) (ht : typeIn K (.ref C) = some (.type "type")) (h4 : subIn K t (.ref C) = some b) : kitOne K t (.ref C) = some b := by
  obtain ⟨cd, hc, _⟩ := any_some hd
  have e2 : ((clsIn K C).isSome && typeIn K (.ref C) == some (.type "type")) = true := by rw [hc, ht] <;> rfl
  show (if (t == .ref C) = true then some true else (if ((clsIn K C).isSome && typeIn K (.ref C) == some (.type "type")) = true then subIn K t (.ref C) else none)) = some b
  rw [hne, if_neg (by decide), if_pos e2]
  exact h4
/-! ### isinstance(e, (C, ..)) of the caught error -/
def tCs (Cs : List Addr) : TA := fun _ H Q => Q (Cs.map V.ref) H
section
variable {X : Cx} {T : Tab} {a C Ce : Addr} {oe : Obj} {d : Option Addr} {pn : List (Addr × Obj)} {e : Expr} {es : List Expr} {pos p tp q : Pos} {m : Nat} {w : WpE} {x : Str} {Cs : List Addr}
theorem pa_cs0 : PA X [] (tCs []) := weakA pa_nil fun σ H Q h => h
theorem pa_cs (hm : X.mg x = some (.ref C)) (h : PA X es (tCs Cs)) (hg : Gl X x := by rfl) (hdb : (x == ("__debug__" : Str)) = false := by decide) (hs : starEach (.Name x q :: es) X.env = (false, eval (.Name x q) X.env) :: starEach es X.env := by rfl) : PA X (.Name x q :: es) (tCs (C :: Cs)) :=
  weakA (pa_cons (pe_glob (v := .ref C) hg hm rfl hdb) h hs) fun σ H Q h => h
theorem je_isiET {kb : Option Bool} {kk : Nat} (E : Err X T m a d Ce oe) (hi : X.mg "isinstance" = none) (hcs : PA (X.suite a ((a, oe) :: pn)) es (tCs Cs)) (hk : ∀ b, kb = some b → PySem.W.kitAny X.K (.ref Ce) (Cs.map Value.ref) = some b) (hl : Cs.length ≤ sizeLine) (he : JE (X.suite a ((a, oe) :: pn)) T W0 e w) (hg : Gl X "isinstance" := by rfl)
    (h1 : starEach [e, .Tuple es kk tp] X.env = (false, eval e X.env) :: starEach [.Tuple es kk tp] X.env := by rfl) (h2 : starEach [.Tuple es kk tp] X.env = (false, eval (.Tuple es kk tp) X.env) :: starEach [] X.env := by rfl) (hpl : (backTo pos (starEach [.Tuple es kk tp] X.env)).any (·.1) = false := by rfl) :
    JE (X.suite a ((a, oe) :: pn)) T W0 (.Call (.Name "isinstance" p) [e, .Tuple es kk tp] [] pos) (wIsiE m a d kb w) :=
  weak (pe_callB (X := X.suite a ((a, oe) :: pn)) (call_isX E.ec E.hz E.hf) hg hi (by decide +kernel) (pa_cons he (pa_cons (pe_tup hcs) pa_nil h2) h1) (by decide) (by decide) h1 hpl) fun σ H Q ⟨ad, F, sl, cs, R, Rx, h0, hw, q, qx⟩ => ⟨ad, F, sl, cs, _, Rx, h0, hw, fun s c1 v H1 ad1 hw1 x1 h1 r1 => by
    have hw1' := errW_of hw1
    clear hw1
    obtain ⟨fs, e0, hw1⟩ := hw1'
    subst e0
    obtain ⟨k, hkb, hR⟩ := optW_of hw1
    cases r1 with
    | err ht hx _ =>
      refine ⟨by rw [List.length_map]; exact hl, fun tp' hp => ?_⟩
      obtain ⟨c2, x2⟩ := h1.hc.newo (o := .tup (Cs.map V.ref)) hp
      exact ⟨xat_or (hx.kp x2.kp), .inr ⟨tp', Cs, k, rfl, .inl (.inl upd_same), hk _ hkb, q _ c1 _ _ ad1 hR (x1.trans h1.hc x2) (h1.to x2 c2) Rep.bl⟩⟩, qx⟩
end
end Dl

namespace Dl
open PySem L2
/-! ### helps for the plain part -/
theorem call_ {α β : Type} {c Q : α → β → Prop} {x : α} {y : β} (h : c x y) (q : Q x y) : ∃ x y, c x y ∧ Q x y := ⟨x, y, h, q⟩
theorem call1 {α : Type} {c Q : α → Prop} {x : α} (h : c x) (q : Q x) : ∃ x, c x ∧ Q x := ⟨x, h, q⟩
theorem make_ {cn : Nat} {fn : List Str} {c : Ct} {args : List D} {cs : List Cell} {R : RV} {ds : List D} (h : c (.cel 0 :: args.map Sl.dat) [.ins cn []] (.dat .non) [.ins cn (fn.zip ds)]) (hl : ds.length = fn.length) (q : R (.dat (.obj cn ds)) cs) : makeW cn fn c args cs R := ⟨ds, h, hl, q⟩
theorem Br.tt {b : Bool} {p q : Prop} (h : b = true) (hp : p) : Br b p q := ⟨fun _ => hp, fun z => by rw [h] at z; cases z⟩
theorem Br.ff {b : Bool} {p q : Prop} (h : b = false) (hq : q) : Br b p q := ⟨fun z => (by rw [h] at z; cases z), fun _ => hq⟩
theorem Br.dec {c : Prop} [Decidable c] {p q : Prop} (h1 : c → p) (h2 : ¬ c → q) : Br (decide c) p q := ⟨fun h => h1 (of_decide_eq_true h), fun h => h2 (of_decide_eq_false h)⟩
theorem Br.ndec {c : Prop} [Decidable c] {p q : Prop} (h1 : ¬ c → p) (h2 : c → q) : Br (!decide c) p q := ⟨fun h => h1 (by simpa using h), fun h => h2 (by simpa using h)⟩
theorem Br.xf {c : Prop} [Decidable c] {p q : Prop} (h1 : c → p) (h2 : ¬ c → q) : Br (false.xor (decide c)) p q := ⟨fun h => h1 (by simpa using h), fun h => h2 (by simpa using h)⟩
theorem Br.xt {c : Prop} [Decidable c] {p q : Prop} (h1 : ¬ c → p) (h2 : c → q) : Br (true.xor (decide c)) p q := ⟨fun h => h1 (by simpa using h), fun h => h2 (by simpa using h)⟩
theorem eqD_t {d e : D} (h : d = e) (ok : okD e = true) : eqD d e = true := by subst h; exact eqD_refl ok
theorem Br.ne {d e : D} {p q : Prop} (h : d = e) (ok : okD e = true) (hq : q) : Br (true.xor (eqD d e)) p q := Br.ff (by rw [eqD_t h ok]; rfl) hq
/-! what is not needed any more -/
def fgtS (m : Nat) : Option Sl → Option Sl
  | some (.cel k) => if k < m then some (.cel k) else none
  | x => x
def keepS (ks : List Nat) (m : Nat) : Nat → Sls → Sls
  | _, [] => []
  | i, x :: r => (match ks.contains i with
    | true => fgtS m x
    | false => none) :: keepS ks m (i + 1) r
theorem keepS_len {ks : List Nat} {m : Nat} : ∀ {i : Nat} {sl : Sls}, (keepS ks m i sl).length = sl.length
  | _, [] => rfl
  | _, _ :: r => by rw [keepS, List.length_cons, keepS_len (sl := r), List.length_cons]
theorem keepS_at {ks : List Nat} {m : Nat} {s : Sl} : ∀ {i j : Nat} {sl : Sls}, (keepS ks m i sl)[j]? = some (some s) → sl[j]? = some (some s) ∧ ∀ k, s = .cel k → k < m
  | i, 0, x :: r, h => by
    have h : (match ks.contains i with
      | true => fgtS m x
      | false => none) = some s := by simpa [keepS] using h
    split at h
    · unfold fgtS at h
      split at h
      · split at h
        · cases h
          exact ⟨rfl, fun k e => by cases e; assumption⟩
        · cases h
      · subst h
        rename_i hx
        exact ⟨rfl, fun k e => (hx k (by rw [e])).elim⟩
    · cases h
  | i, j + 1, x :: r, h => by
    have h : (keepS ks m (i + 1) r)[j]? = some (some s) := by simpa [keepS] using h
    simpa using keepS_at h
def wFgt (ks : List Nat) (m n : Nat) (w : WS) : WS := fun S P => n ≤ m ∧ w ⟨keepS ks m 0 S.sl, S.cs.take m⟩ P
theorem jss_fgt (ks : List Nat) (m : Nat) {X : Cx} {T : Tab} {W : WX} {n : Nat} {sts : List Stmt} {w : WS} (h : JSs X T W n sts w) : JSs X T W n sts (wFgt ks m n w) := fun S P hw => dss_forget m (h _ P hw.2) hw.1 keepS_len fun i s e => keepS_at e
theorem pos_ {i j : Int} (h : 0 < j) : ModC i j := h
theorem szk (n : Nat) (h : n ≤ 16777216 := by decide) : n ≤ sizeLine := h
theorem sz {n : Nat} (h : n ≤ 16777216) : n ≤ sizeLine := h
theorem mul_w {i j : Int} (h1 : i.natAbs < 2 ^ 1000) (h2 : j.natAbs < 2 ^ 1000) : IntMulOk i j := by
  refine CMulW.ok ?_
  have l : ∀ n : Nat, n < 2 ^ 1000 → n.log2 < 1000 := fun n h => by
    by_cases z : n = 0
    · rw [z]; decide
    · exact (Nat.log2_lt z).mpr h
  have := l _ h1
  have := l _ h2
  show i.natAbs.log2 + j.natAbs.log2 < 1000000
  omega
/-! loops -/
theorem asgW_i {p : Pat} {d : D} {sl sl' : Sls} {k : Sls → Prop} (e : asgP p d sl = some sl') (h : k sl') : asgW p d sl k := by unfold asgW; rw [e]; exact h
/-- [f(x) for x in ..] -/
theorem lcW_map {p : Pat} {we : WpE} {sl : Sls} {α : Type} (g f : α → D) {cs : List Cell} : ∀ {xs : List α} {R : List D → List Cell → Prop},
    (∀ x ∈ xs, ∃ sl', asgP p (g x) sl = some sl' ∧ ∀ R' : RV, R' (.dat (f x)) cs → we sl' cs R' noX) → R (xs.map f) cs → lcW p wYes we sl (xs.map g) cs R
  | [], R, _, h => h
  | x :: xs, R, hx, h => by
    obtain ⟨sl', e, h1⟩ := hx x List.mem_cons_self
    exact asgW_i e ⟨fun _ => h1 _ (lcW_map (xs := xs) g f (fun y hy => hx y (List.mem_cons_of_mem _ hy)) h), fun z => nomatch z⟩
/-- [f(x) for x in .. if c(x)] -/
theorem lcW_filter {p : Pat} {wt : WpT} {we : WpE} {sl : Sls} {α : Type} (g : α → D) (f : α → D) (c : α → Bool) {cs : List Cell} : ∀ {xs : List α} {R : List D → List Cell → Prop},
    (∀ x ∈ xs, ∃ sl', asgP p (g x) sl = some sl' ∧ (∀ R' : RB, R' (c x) cs → wt sl' cs R' noX) ∧ (c x = true → ∀ R' : RV, R' (.dat (f x)) cs → we sl' cs R' noX)) → R ((xs.filter c).map f) cs → lcW p wt we sl (xs.map g) cs R
  | [], R, _, h => h
  | x :: xs, R, hx, h => by
    obtain ⟨sl', e, h1, h2⟩ := hx x List.mem_cons_self
    refine asgW_i e (h1 _ ⟨fun z => ?_, fun z => ?_⟩)
    · rw [List.filter_cons_of_pos z] at h
      exact h2 z _ (lcW_filter (xs := xs) g f c (fun y hy => hx y (List.mem_cons_of_mem _ hy)) h)
    · rw [List.filter_cons_of_neg (by rw [z]; decide)] at h
      exact lcW_filter (xs := xs) g f c (fun y hy => hx y (List.mem_cons_of_mem _ hy)) h
/-- a for loop by an invariant of the states between its turns -/
theorem forW_ind {p : Pat} {wb : WS} {P : PJ} (I : Sta → Prop) : ∀ (items : List D), (∀ d ∈ items, ∀ S, I S → ∀ nx' : Sta → Prop, (∀ S', I S' → nx' S') → asgW p d S.sl fun sl' => wb ⟨sl', S.cs⟩ { P with nx := nx', ct := nx', bk := P.nx }) → (∀ S, I S → P.nx S) → ∀ S, I S → forW p wb items S P
  | [], _, hd, S, hI => hd S hI
  | d :: ds, hs, hd, S, hI => hs d List.mem_cons_self S hI _ fun S' h' => forW_ind I ds (fun e he => hs e (List.mem_cons_of_mem _ he)) hd S' h'
/-- a for loop by an invariant that knows the items taken and those to come -/
theorem forW_at {p : Pat} {wb : WS} {P : PJ} {α : Type} (g : α → D) (I : List α → List α → Sta → Prop) : ∀ (pre post : List α), (∀ pre x post S, I pre (x :: post) S → ∀ nx' : Sta → Prop, (∀ S', I (pre ++ [x]) post S' → nx' S') → asgW p (g x) S.sl fun sl' => wb ⟨sl', S.cs⟩ { P with nx := nx', ct := nx', bk := P.nx }) → (∀ pre S, I pre [] S → P.nx S) → ∀ S, I pre post S → forW p wb (post.map g) S P
  | pre, [], _, hd, S, hI => hd pre S hI
  | pre, x :: post, hs, hd, S, hI => hs pre x post S hI _ fun S' h' => forW_at g I (pre ++ [x]) post hs hd S' h'
theorem mem_range {lo : Int} {n : Nat} {d : D} (h : d ∈ rangeD lo n) : ∃ i : Nat, i < n ∧ d = .int (lo + i) := by
  unfold rangeD at h
  obtain ⟨i, hi, rfl⟩ := List.mem_map.mp h
  exact ⟨i, List.mem_range.mp hi, rfl⟩
/-! ### the box of drawn numbers -/
abbrev B := Int × Int
abbrev bx (b : B) : Cell := .lst [.int b.1, .int b.2]
def tk (b : B) (m : Int) : Int := if 0 < b.1 then b.1 % m else ((b.2 * 69623 % 2147483647) * 2147483647 + (((b.2 * 69623 % 2147483647) * 48271 + 30103) % 2147483629 + 1)) / 8191 % m
def nx (b : B) (m : Int) : B := if 0 < b.1 then (b.1 / m, b.2) else (b.1, ((b.2 * 69623 % 2147483647) * 48271 + 30103) % 2147483629 + 1)
def Ok (b : B) : Prop := 0 ≤ b.2 ∧ b.2 < 2 ^ 32
theorem tk_p {b : B} {m : Int} (h : 0 < b.1) : tk b m = b.1 % m := if_pos h
theorem tk_n {b : B} {m : Int} (h : ¬ 0 < b.1) : tk b m = ((b.2 * 69623 % 2147483647) * 2147483647 + (((b.2 * 69623 % 2147483647) * 48271 + 30103) % 2147483629 + 1)) / 8191 % m := if_neg h
theorem nx_p {b : B} {m : Int} (h : 0 < b.1) : nx b m = (b.1 / m, b.2) := if_pos h
theorem nx_n {b : B} {m : Int} (h : ¬ 0 < b.1) : nx b m = (b.1, ((b.2 * 69623 % 2147483647) * 48271 + 30103) % 2147483629 + 1) := if_neg h
theorem Ok.nx {b : B} (h : Ok b) (m : Int) : Ok (nx b m) := by
  by_cases hp : 0 < b.1
  · rw [nx_p hp]; exact h
  · rw [nx_n hp]; constructor <;> dsimp only <;> omega
theorem tk_lo {b : B} {m : Int} (h : 0 < m) : 0 ≤ tk b m := by
  by_cases hp : 0 < b.1
  · rw [tk_p hp]; exact Int.emod_nonneg _ (by omega)
  · rw [tk_n hp]; exact Int.emod_nonneg _ (by omega)
theorem tk_hi {b : B} {m : Int} (h : 0 < m) : tk b m < m := by
  by_cases hp : 0 < b.1
  · rw [tk_p hp]; exact Int.emod_lt_of_pos _ h
  · rw [tk_n hp]; exact Int.emod_lt_of_pos _ h
theorem lg {m : Int} (h0 : 0 < m) (h : m < 2 ^ 200) : m.natAbs.log2 < 9000 := by
  rw [Nat.log2_lt (by omega)]
  have : m.natAbs < 2 ^ 200 := by omega
  exact Nat.lt_of_lt_of_le this (Nat.pow_le_pow_right (by decide) (by omega))
/-- a script's cell -/
def feedC (ns : List Int) (k : Nat) : Int := if k < ns.length then ns.getD k 0 else if 0 < ns.length then 7919 * (k : Int) + 11 + ns.getD (k % ns.length) 0 % 2147483629 * 69623 else 7919 * (k : Int) + 11
def feedB (ns : List Int) (k : Nat) : B := (if 10 ^ 18 ≤ feedC ns k then feedC ns k else 0, (feedC ns k % 2147483629 + 104729 * (k : Int) + 1) ^ 5 % 2147483647 % 2147483646 + 1)
theorem feedB_ok (ns : List Int) (k : Nat) : Ok (feedB ns k) := by
  unfold Ok feedB
  constructor <;> dsimp only <;> omega
abbrev scD (ns : List Int) : D := .scr (ns.map D.int)
theorem atI_scr {ns : List Int} {k : Nat} (h : k < ns.length) : atI (ns.map D.int) (k : Int) = some (.int (ns.getD k 0)) := by
  refine atI_nat (j := k) ?_
  rw [List.getElem?_map, List.getElem?_eq_getElem h, List.getD_eq_getElem?_getD, List.getElem?_eq_getElem h]
  rfl
end Dl

namespace Dl
open PySem L2
/-! ### sum, all, any -/
def intsD : List D → Option (List Int)
  | [] => some []
  | .int i :: r => (intsD r).map (i :: ·)
  | _ => none
def boolsD : List D → Option (List Bool)
  | [] => some []
  | .bl i :: r => (boolsD r).map (i :: ·)
  | _ => none
theorem ints_map : ∀ (ns : List Int), intsD (ns.map D.int) = some ns
  | [] => rfl
  | n :: ns => by rw [List.map_cons, intsD, ints_map ns]; rfl
theorem bools_map : ∀ (ns : List Bool), boolsD (ns.map D.bl) = some ns
  | [] => rfl
  | n :: ns => by rw [List.map_cons, boolsD, bools_map ns]; rfl
theorem ints_of : ∀ {ds : List D} {ns : List Int}, intsD ds = some ns → ds = ns.map D.int
  | [], ns, h => by cases h; rfl
  | .int i :: r, ns, h => by
    cases q : intsD r with
    | none => simp [intsD, q] at h
    | some l =>
      simp [intsD, q] at h
      subst h
      rw [ints_of q]
      rfl
  | .non :: _, _, h => nomatch h
  | .bl _ :: _, _, h => nomatch h
  | .str _ :: _, _, h => nomatch h
  | .tup _ :: _, _, h => nomatch h
  | .lst _ :: _, _, h => nomatch h
  | .obj _ _ :: _, _, h => nomatch h
  | .scr _ :: _, _, h => nomatch h
  | .err _ _ _ _ :: _, _, h => nomatch h
  | .cls _ :: _, _, h => nomatch h
  | .dct _ _ :: _, _, h => nomatch h
  | .fn _ :: _, _, h => nomatch h
theorem bools_of : ∀ {ds : List D} {ns : List Bool}, boolsD ds = some ns → ds = ns.map D.bl
  | [], ns, h => by cases h; rfl
  | .bl i :: r, ns, h => by
    cases q : boolsD r with
    | none => simp [boolsD, q] at h
    | some l =>
      simp [boolsD, q] at h
      subst h
      rw [bools_of q]
      rfl
  | .non :: _, _, h => nomatch h
  | .int _ :: _, _, h => nomatch h
  | .str _ :: _, _, h => nomatch h
  | .tup _ :: _, _, h => nomatch h
  | .lst _ :: _, _, h => nomatch h
  | .obj _ _ :: _, _, h => nomatch h
  | .scr _ :: _, _, h => nomatch h
  | .err _ _ _ _ :: _, _, h => nomatch h
  | .cls _ :: _, _, h => nomatch h
  | .dct _ _ :: _, _, h => nomatch h
  | .fn _ :: _, _, h => nomatch h
theorem reps_bls {T : Tab} {K : PySem.W.Frag} {M : Addr → Prop} {H : Hp} : ∀ {ns : List Bool} {vs : List V}, Reps T K M H vs (ns.map D.bl) → vs = ns.map V.bl
  | [], _, .nil => rfl
  | n :: ns, _, .cons r t => by
    cases r
    rw [reps_bls t]
    rfl
section
variable {X : Cx} {T : Tab} {cs : List Cell} {s1 : Sl} {ds : List D}
theorem cb_sum (hc : X.calm = true) {ns : List Int} (h : isLst cs (ns.map D.int) s1) : CalB X T "sum" [s1] cs (.dat (.int ns.sum)) cs := ⟨.builtin "sum", _, by decide +kernel, .inl ⟨_, rfl⟩, cr_sum hc, fun ad F H vs Q c r q => by
  match vs, r with
  | [v], r =>
    obtain ⟨a, ws, rfl, e1, q1⟩ := rd_lst h c r.1
    have := Reps.of_ints q1
    subst this
    exact ⟨a, ns, rfl, SqL.of e1, q _ H ad .refl c Rep.int⟩⟩
theorem cb_all (hc : X.calm = true) {ns : List Bool} (h : isLst cs (ns.map D.bl) s1) : CalB X T "all" [s1] cs (.dat (.bl (ns.all id))) cs := ⟨.builtin "all", _, by decide +kernel, .inl ⟨_, rfl⟩, cr_all hc, fun ad F H vs Q c r q => by
  match vs, r with
  | [v], r =>
    obtain ⟨a, ws, rfl, e1, q1⟩ := rd_lst h c r.1
    have := reps_bls q1
    subst this
    exact ⟨a, ns, rfl, SqL.of e1, q _ H ad .refl c Rep.bl⟩⟩
theorem cb_any (hc : X.calm = true) {ns : List Bool} (h : isLst cs (ns.map D.bl) s1) : CalB X T "any" [s1] cs (.dat (.bl (ns.any id))) cs := ⟨.builtin "any", _, by decide +kernel, .inl ⟨_, rfl⟩, cr_any hc, fun ad F H vs Q c r q => by
  match vs, r with
  | [v], r =>
    obtain ⟨a, ws, rfl, e1, q1⟩ := rd_lst h c r.1
    have := reps_bls q1
    subst this
    exact ⟨a, ns, rfl, SqL.of e1, q _ H ad .refl c Rep.bl⟩⟩
def intsW (ds : List D) (k : List Int → Prop) : Prop := match intsD ds with
  | some ns => k ns
  | none => False
def blsW (ds : List D) (k : List Bool → Prop) : Prop := match boolsD ds with
  | some ns => k ns
  | none => False
theorem intsW_i {ns : List Int} {k : List Int → Prop} (h : k ns) : intsW (ns.map D.int) k := by unfold intsW; rw [ints_map]; exact h
theorem blsW_i {ns : List Bool} {k : List Bool → Prop} (h : k ns) : blsW (ns.map D.bl) k := by unfold blsW; rw [bools_map]; exact h
def sumW : WC := fun ss cs R => match ss with
  | [s] => wL cs s fun ds => intsW ds fun ns => R (.dat (.int ns.sum)) cs
  | _ => False
def allW : WC := fun ss cs R => match ss with
  | [s] => wL cs s fun ds => blsW ds fun ns => R (.dat (.bl (ns.all id))) cs
  | _ => False
def anyW : WC := fun ss cs R => match ss with
  | [s] => wL cs s fun ds => blsW ds fun ns => R (.dat (.bl (ns.any id))) cs
  | _ => False
theorem jc_sum (hc : X.calm = true) : JCall X T "sum" sumW := ⟨⟨.builtin "sum", by decide +kernel, .inl ⟨_, rfl⟩⟩, fun ss cs R h => by
  unfold sumW at h
  split at h
  · obtain ⟨ds, h1, h⟩ := wL_of h
    unfold intsW at h
    split at h
    · rename_i e
      rw [ints_of e] at h1
      exact ⟨_, _, cb_sum hc h1, h⟩
    · exact h.elim
  · exact h.elim⟩
theorem jc_all (hc : X.calm = true) : JCall X T "all" allW := ⟨⟨.builtin "all", by decide +kernel, .inl ⟨_, rfl⟩⟩, fun ss cs R h => by
  unfold allW at h
  split at h
  · obtain ⟨ds, h1, h⟩ := wL_of h
    unfold blsW at h
    split at h
    · rename_i e
      rw [bools_of e] at h1
      exact ⟨_, _, cb_all hc h1, h⟩
    · exact h.elim
  · exact h.elim⟩
theorem jc_any (hc : X.calm = true) : JCall X T "any" anyW := ⟨⟨.builtin "any", by decide +kernel, .inl ⟨_, rfl⟩⟩, fun ss cs R h => by
  unfold anyW at h
  split at h
  · obtain ⟨ds, h1, h⟩ := wL_of h
    unfold blsW at h
    split at h
    · rename_i e
      rw [bools_of e] at h1
      exact ⟨_, _, cb_any hc h1, h⟩
    · exact h.elim
  · exact h.elim⟩
/-! ### // by any divisor -/
def DivG (_ j : Int) : Prop := j ≠ 0 ∧ j.natAbs.log2 < 9000
theorem op_fdivG : OpR X (binaryOp .FloorDiv) (rI DivG fun i j => .int (i.fdiv j)) := fun pins s σ H x y v u Q I rx ry ⟨i, j, ex, ey, hc, q⟩ => by
  subst ex ey
  obtain ⟨t1, rfl⟩ := rx
  obtain ⟨t2, rfl⟩ := ry
  exact PyProof.Rows.floordiv_int hc.1 ⟨.int (i.fdiv j), H, I.tok _, ⟨_, rfl⟩, q⟩ (.inl (PyProof.noPylong_of_log2 hc.2))
theorem bin_fdivG {i j : Int} (h : DivG i j) : BinD X T .FloorDiv (.dat (.int i)) (.dat (.int j)) cs (.dat (.int (i.fdiv j))) cs := ⟨_, op_fdivG, r2_I (g := fun i j => i.fdiv j) h⟩
def fdivGW : W2 := intW DivG fun i j => .int (i.fdiv j)
theorem jb_fdivG : JBin X T .FloorDiv fdivGW := fun s1 s2 cs R h => by
  unfold fdivGW intW at h
  split at h
  · exact ⟨_, _, bin_fdivG h.1, h.2⟩
  · exact h.elim
/-! ### tuple * n -/
theorem bin_repT {j : Int} (h0 : ds ≠ []) (h1 : 2 ≤ j) (h2 : j ≤ 1000) (h3 : ds.length ≤ 1000) : BinD X T .Mult (.dat (.tup ds)) (.dat (.int j)) cs (.dat (.tup (List.replicate j.toNat ds).flatten)) cs := ⟨_, op_repT, fun ad F H v w Q c r1 r2 q => by
  cases r2
  cases r1 with
  | @tup a vs _ e r =>
    refine ⟨a, j, vs, rfl, rfl, e.sq, ?_, h1, h2, by rw [r.length]; exact h3, fun p hp => new_tup c (reps_rep r j.toNat) q hp⟩
    intro z
    subst z
    cases r
    exact h0 rfl⟩
def mulTW : W2 := fun s1 s2 cs R => match s1, s2 with
  | .dat (.tup ds), .dat (.int j) => (ds ≠ [] ∧ 2 ≤ j ∧ j ≤ 1000 ∧ ds.length ≤ 1000) ∧ R (.dat (.tup (List.replicate j.toNat ds).flatten)) cs
  | s1, s2 => mulW s1 s2 cs R
theorem jb_mulT : JBin X T .Mult mulTW := fun s1 s2 cs R h => by
  unfold mulTW at h
  split at h
  · exact ⟨_, _, bin_repT h.1.1 h.1.2.1 h.1.2.2.1 h.1.2.2.2, h.2⟩
  · exact jb_mul _ _ _ _ h
end
/-! ### xs.extend(ys) -/
section
variable {X : Cx} {T : Tab} {W : WX} {o e : Expr} {wo we : WpE} {pos apos : Pos}
def extW (s d : Sl) (cs : List Cell) (R : RV) : Prop := match s, d with
  | .cel j, .dat (.lst es) => match cs[j]? with
    | some (.lst ds) => ds.length + es.length ≤ sizeLine ∧ R (.dat .non) (cs.set j (.lst (ds ++ es)))
    | _ => False
  | _, _ => False
def wExtd (wo we : WpE) : WpE := fun sl cs R Rx => wo sl cs (fun s c1 => (match s with
  | .cel j => match c1[j]? with
    | some (.lst _) => True
    | _ => False
  | _ => False) ∧ we sl c1 (fun d c2 => extW s d c2 R) Rx) Rx
theorem je_ext (ho : JE X T W o wo) (he : JE X T W e we) (hb : attributeBase o "extend" X.env (eval o X.env) = eval o X.env := by rfl) (hfew : ((backTo pos (starEach [e] X.env)).all (fun x => !x.1) && (backToKw pos (keywordEach [] X.env)).all (fun x => x.1.isSome) && decide (([e] : List Expr).length + ([] : List Keyword).length + (if ([] : List Keyword).isEmpty then 0 else 1) < 30)) = true := by rfl)
    (hl : (apos.endLine == pos.line) = true := by rfl) (hs : starEach [e] X.env = (false, eval e X.env) :: starEach [] X.env := by rfl) (hpl : (backTo pos (starEach [] X.env)).any (·.1) = false := by rfl) : JE X T W (.Call (.Attribute o "extend" apos) [e] [] pos) (wExtd wo we) :=
  weak (pe_bm PySem.F.plainAttrs_list PySem.F.slot_list_extend PySem.F.type_list_extend mt_extend ho (ja_cons he ja_nil hs) hb hfew hl hs hpl) fun σ H Q ⟨ad, F, sl, cs, R, Rx, h0, hw, q, qx⟩ => ⟨ad, F, sl, cs, _, Rx, h0, hw, fun s c1 v H1 ad1 hw1 x1 h1 r1 => by
    obtain ⟨hs1, hw1⟩ := hw1
    split at hs1
    · rename_i j
      split at hs1
      · rename_i ds0 hk0
        have r1' := r1
        obtain ⟨l, el, rfl⟩ := r1
        obtain ⟨vs0, e0, q0⟩ := h1.hc.ce j l _ el hk0
        refine ⟨.inl ⟨rfl, vs0, SqL.of e0⟩, ad1, F, sl, c1, (fun ss c2 => match ss with
          | [d] => extW (.cel j) d c2 R
          | _ => False), Rx, h1, hw1, fun ss c2 ws H2 ad2 hw2 x2 h2 r2 => ?_, qx.on x1 h1⟩
        match ss, ws, r2 with
        | [s2], [y], r2 =>
          have hw2 : extW (.cel j) s2 c2 R := hw2
          match s2, r2, hw2 with
          | .dat (.lst es), r2, hw2 =>
            have hw2 : (match c2[j]? with
              | some (.lst ds) => ds.length + es.length ≤ sizeLine ∧ R (.dat .non) (c2.set j (.lst (ds ++ es)))
              | _ => False) := hw2
            split at hw2
            · rename_i ds hk
              have el2 : ad2[j]? = some l := by
                obtain ⟨l', el', e⟩ := SlRep.ext (s := .cel j) x2 r1'
                cases e
                exact el'
              obtain ⟨vs, e1, q1⟩ := h2.hc.ce j l _ el2 hk
              obtain ⟨b, zs, rfl, e2, q2⟩ := rd_lst (ds := es) (s := .dat (.lst es)) rfl h2.hc r2.1
              refine ⟨l, b, vs, zs, rfl, rfl, e1, e2, by rw [q1.length, q2.length]; exact hw2.1, ?_⟩
              have kp : Kp (Mm ad2 F) H2 (Mm ad2 F) (upd H2 l (.lst (vs ++ zs))) := fun b o e nn => ⟨by rw [upd_ne (fun z => nn (.inl (by rw [z]; exact List.mem_of_getElem? el2)))]; exact e, nn⟩
              obtain ⟨k4, x4⟩ := h2.hc.setc (o := .lst (vs ++ zs)) (c := .lst (ds ++ es)) el2 ⟨_, upd_same, (q1.append q2).kp kp⟩
              exact q _ _ .non _ ad2 hw2.2 (x1.trans h1.hc (x2.trans h2.hc x4)) (h2.to x4 k4) Rep.non
            · exact hw2.elim
      · exact hs1.elim
    · exact hs1.elim, qx⟩
end
end Dl

/-! ### enumerate(t), t a tuple -/
namespace PySem
abbrev tupIterO (t : Addr) : Obj := { cls := .type "tuple_iterator", data := .fields #[.ref t, .int 0 0] }
abbrev enumO (it : Addr) : Obj := { cls := .type "enumerate", data := .fields #[.none, .bool false, .ref it, rawInt 0, .none, .none] }
open Sem (wp) in
theorem meets_enumT1 (t : Addr) (items : Array Value) : Meets (Builtin.«enumerate.__new__» ⟨[.type "enumerate", .ref t], []⟩) (fun _ R s => s.heap.IsTuple t items ∧
      R (.ok (.ret (.ref (s.heap.push (tupIterO t)).objs.size))) { s with heap := (s.heap.push (tupIterO t)).push (enumO s.heap.objs.size) }) :=
  .of_wp fun prog w A R s z => by
    obtain ⟨hp, g, d, tk, os⟩ := s
    obtain ⟨ht, z⟩ := z
    have hsub := sub_enumerate
    have it : ∀ {A' : Around} {E : Value → Shared → Prop} {Q : Value → Shared → Prop}, Q (.ref hp.objs.size) ⟨hp.push (tupIterO t), g, d, tk, os⟩ → wpAny (model prog w) A' (pyIter (.ref t)) Q E ⟨hp, g, d, tk, os⟩ := fun q => wpAny_pyIter_tuple ht q
    wp_walk using it
    refine wpAny_stack_any fun st => wpAny_pure ?_
    split
    · rename_i c _ _ _ _ _
      cases (c == Value.type "enumerate")
      · wp_walk using it
        exact ⟨_, rfl, z⟩
      · wp_walk using it
        exact ⟨_, rfl, z⟩
    · wp_walk using it
      exact ⟨_, rfl, z⟩
end PySem
namespace PySem
theorem call_enumT1 {prog : Program} {w : World} {A : Around} {E : Value → Shared → Prop} {s : Shared} {t : Addr} {items : Array Value} {Q : Value → Shared → Prop} (ht : s.heap.IsTuple t items)
    (h : ∀ h', IsEnum h' (s.heap.objs.size + 1) s.heap.objs.size 0 .none → h'.IsTupleIter s.heap.objs.size t 0 → h'.objs.size = s.heap.objs.size + 2 → (∀ b o, s.heap.get? b = some o → h'.get? b = some o) → Q (.ref (s.heap.objs.size + 1)) { s with heap := h' }) :
    wpAny (model prog w) A (call (.type "enumerate") [.ref t]) Q E s := by
  refine callType_new F.called_enumerate (by decide) (F.typeCall_enumerate_1 _) (F.newCall_enumerate_1 _) (fun obj => F.args_object_init_2 obj _) F.entry_enumerate_new (meets_enumT1 t items) ⟨ht, ?_⟩
  have z1 : (s.heap.push (tupIterO t)).objs.size = s.heap.objs.size + 1 := Heap.size_push ..
  show _ ∧ _
  rw [z1]
  have he : IsEnum ((s.heap.push (tupIterO t)).push (enumO s.heap.objs.size)) (s.heap.objs.size + 1) s.heap.objs.size 0 .none := by
    have z2 := Heap.get?_push_size (s.heap.push (tupIterO t)) (o := enumO s.heap.objs.size) rfl
    rw [z1] at z2
    exact z2
  exact ⟨⟨_, he, rfl⟩, h _ he ⟨_, Heap.get?_push_of_some _ (Heap.get?_push_size _ rfl), rfl, rfl⟩ (by rw [Heap.size_push, z1]) fun b o q => Heap.get?_push_of_some _ (Heap.get?_push_of_some _ q)⟩
end PySem
namespace Dl
open PySem L2
/-- the tuple at a, each item in a new pair -/
def IteT (K : PySem.W.Frag) (a : Addr) : It :=
  ⟨fun i H => ∃ (xs : List V) (x : V), SqT K H a xs ∧ xs[i]? = some x, fun i H v H' => ∃ T x, v = .ref T ∧ H T = none ∧ H' = upd H T (.tup [.int (i : Nat), x]) ∧ ∀ xs, SqT K H a xs → xs[i]? = some x,
    fun i H => ∃ xs : List V, SqT K H a xs ∧ xs.length = i⟩
theorem turn_enumT {P : Program} {w : World} {K : PySem.W.Frag} {elts : List Expr} {kk : Nat} {tpos : Pos} {a e it : Addr} (ne : e ≠ it) (na : a ≠ it) (nea : e ≠ a) :
    Turn P w K (.Tuple elts kk tpos) (IteT K a) [e, it] e (fun i h => (∃ old, IsEnum h e it ((i : Nat) : Int) old) ∧ h.IsTupleIter it a i) where
  mem := by simp
  obj := fun i h st b hb => by
    obtain ⟨⟨old, he⟩, o, ho, hc, hd⟩ := st
    have e' : b = e ∨ b = it := by simpa using hb
    rcases e' with z | z
    · rw [z]; exact ⟨_, he, fun v q => nomatch q⟩
    · rw [z]; exact ⟨o, ho, fun v q => by rw [hd] at q; cases q⟩
  keep := fun i h h' st k => ⟨st.1.imp fun old he => k e (by simp) _ he, st.2.at fun o q => k it (by simp) o q⟩
  item := by
    intro X hP hw hK hc i pins s σ H E I hf st hg
    subst hP hw hK
    obtain ⟨⟨old, he⟩, hit⟩ := st
    obtain ⟨xs, x, hq, hx⟩ := hg
    obtain ⟨its, rv, p, _⟩ := I.tuple hq
    obtain ⟨v, hv, ru⟩ := rv.get hx
    have hd : X.A.in1.handled = none := I.ok.hd hc
    have hel : e < s.heap.objs.size := Heap.lt_size he
    have hil : it < s.heap.objs.size := by obtain ⟨_, q, _⟩ := hit; exact Heap.lt_size q
    have lt1 : i < its.toArray.size := by have := List.getElem?_eq_some_iff.mp hv; simpa using this.1
    have nf : e ∉ [it, a] := by simp [ne, nea]
    refine wpAny_pyNext_enum_itemD (Draws.tuple hd it a na its.toArray) he ⟨hit, p⟩ lt1 ne nf fun y h' tk q1 ho hs' hT hsz hk => ?_
    have w1 : y = v := Option.some.inj (q1.symm.trans (by simpa using hv))
    subst w1
    refine ⟨_, rfl, wpAny_letOwnedTupleGo_enum (s := { s with heap := h', toks := tk + 1 }) ho fun h'' he' sb => ?_⟩
    have hT2 : h''.get? s.heap.objs.size = some { cls := .type "tuple", data := .seq #[.int i tk, y] } := (sb.2 _ (Nat.ne_of_gt hel)).trans hT
    have new : ObjOk X.prog X.w (upd H s.heap.objs.size (.tup [.int (i : Nat), x])) h'' s.heap.objs.size (.tup [.int (i : Nat), x]) :=
      ⟨by show 2 ≤ sizeLine; decide, [.int i tk, y], .cons ⟨_, rfl⟩ (.cons ru .nil), ⟨_, hT2, rfl, _, rfl⟩⟩
    have I1 : Inv X pins σ (upd H s.heap.objs.size (.tup [.int (i : Nat), x])) { s with heap := h'', toks := tk + 1 } :=
      I.turnedNew (t' := tk + 1) (ch := [e, it]) (fun b ob hb q => (sb.2 b (fun z => hb (by simp [z]))).trans (hk b ob (fun z => hb (by simp [z])) (fun z => hb (by simp [z])) q)) hf (Nat.le_refl _) new
    refine ⟨.ref s.heap.objs.size, _, I1, rfl, ⟨_, x, rfl, I.hok.fresh (Nat.le_refl _), rfl, fun ys hy => by rw [I.tuple_inj hy hq]; exact hx⟩, ⟨⟨y, ?_⟩, hs'.1.at fun o q => (sb.2 it (Ne.symm ne)).trans q⟩, fun b hb => ?_⟩
    · have e1 : ((i + 1 : Nat) : Int) = (i : Int) + 1 := by omega
      rw [e1]; exact he'
    · have hb' : b < s.heap.objs.size := by
        have e' : b = e ∨ b = it := by simpa using hb
        rcases e' with z | z
        · rw [z]; exact hel
        · rw [z]; exact hil
      rw [upd_ne (Nat.ne_of_lt hb')]
      exact (hf b hb).1
  done := by
    intro X hP hw hK hc i pins s σ H E I hf st hg
    subst hP hw hK
    obtain ⟨⟨old, he⟩, hit⟩ := st
    obtain ⟨xs, hq, hx⟩ := hg
    obtain ⟨its, rv, p, _⟩ := I.tuple hq
    have hd : X.A.in1.handled = none := I.ok.hd hc
    have e1 : i = its.toArray.size := by have := rv.length; simp; omega
    subst e1
    exact wpAny_pyNext_enum_endD (Draws.tuple hd it a na its.toArray) he ⟨hit, p⟩ fun h' hx' => ⟨rfl, I.turnedL (t' := s.toks) (ch := [e, it]) (fun b o hb q => hx' b o (fun z => hb (by simp [z])) q) hf⟩
  self := fun A i s Q E st h => let ⟨⟨_, he⟩, _⟩ := st; wpAny_pyIter_enum he h
def iEnumA (K : PySem.W.Frag) (ta : TA) : TI := fun σ H R => ta σ H fun vs H1 => ∃ a xs, vs = [.ref a] ∧ ((SqL K H1 a xs ∧ R (Ite K a) H1) ∨ (SqT K H1 a xs ∧ R (IteT K a) H1))
open PySem.Spec PyProof.Rows in
theorem pi_enumA {X : Cx} {e : Expr} {ta : TA} {p pos tpos : Pos} {elts : List Expr} {kk : Nat} (hg : Gl X "enumerate") (hm : X.mg "enumerate" = none) (ha : PA X [e] ta) (hs : starEach [e] X.env = [(false, eval e X.env)] := by rfl) :
    PI X (.Tuple elts kk tpos) (.Call (.Name "enumerate" p) [e] [] pos) (iEnumA X.K ta) := by
  constructor
  intro pins s σ H R I h
  refine Call_ (ld_blt I hg hm boot_enumerate (PyProof.Rows.callWith_type1 (thn (ha.run pos pins s σ H _ I h) fun us s1 z => ?_) hs rfl))
  obtain ⟨vs, H1, I1, r1, a, xs, ex, q1⟩ := z
  subst ex
  obtain ⟨u, rfl, ru⟩ : ∃ u, us = [u] ∧ RelV (.ref a) u := by
    cases r1 with
    | cons r rr => cases rr; exact ⟨_, rfl, r⟩
  cases ru
  have fp : ∀ b ∈ [s1.heap.objs.size + 1, s1.heap.objs.size], FpOk X pins H1 b := fun b hb => by
    have e' : b = s1.heap.objs.size + 1 ∨ b = s1.heap.objs.size := by simpa using hb
    have hle : s1.heap.objs.size ≤ b := by
      rcases e' with z | z
      · rw [z]; exact Nat.le_add_right _ _
      · rw [z]; exact Nat.le_refl _
    exact I1.fpOk hle (I1.hok.fresh hle)
  rcases q1 with ⟨hq, q⟩ | ⟨hq, q⟩
  · obtain ⟨its, rv, p', hz⟩ := I1.list hq
    exact call_enumerate_list p'.isList fun h' he hit hsz hk => wpAny_pyIter_enum he ⟨s1.heap.objs.size + 1, _, _, _, H1, rfl, I1.kept (t' := s1.toks) hk, turn_enum a (s1.heap.objs.size + 1) s1.heap.objs.size, ⟨⟨.none, he⟩, hit, Nat.succ_ne_self _⟩, fp, q⟩
  · obtain ⟨its, rv, p', hz⟩ := I1.tuple hq
    obtain ⟨ot, hot, _⟩ := id p'
    have hlt : a < s1.heap.objs.size := Heap.lt_size hot
    exact call_enumT1 (show s1.heap.IsTuple a its.toArray from p') fun h' he hit hsz hk => wpAny_pyIter_enum he ⟨s1.heap.objs.size + 1, _, _, _, H1, rfl, I1.kept (t' := s1.toks) hk, turn_enumT (Nat.succ_ne_self _) (Nat.ne_of_lt hlt) (Nat.ne_of_gt (Nat.lt_succ_of_lt hlt)), ⟨⟨.none, he⟩, hit⟩, fp, q⟩
def enumD : Nat → List D → List D
  | _, [] => []
  | i, d :: ds => .tup [.int i, d] :: enumD (i + 1) ds
theorem enumD_get : ∀ {ds : List D} {k i : Nat} {d : D}, (enumD k ds)[i]? = some d → ∃ x, ds[i]? = some x ∧ d = .tup [.int ((k + i : Nat) : Int), x]
  | x :: ds, k, 0, d, h => by
    have h : some (D.tup [.int k, x]) = some d := by simpa [enumD] using h
    cases h
    exact ⟨x, rfl, rfl⟩
  | x :: ds, k, i + 1, d, h => by
    have h : (enumD (k + 1) ds)[i]? = some d := by simpa [enumD] using h
    obtain ⟨y, h1, h2⟩ := enumD_get h
    refine ⟨y, by simpa using h1, ?_⟩
    rw [h2, show k + 1 + i = k + (i + 1) from by omega]
theorem enumD_len : ∀ {ds : List D} {k : Nat}, (enumD k ds).length = ds.length
  | [], _ => rfl
  | _ :: ds, k => by rw [enumD, List.length_cons, enumD_len (ds := ds), List.length_cons]
section
variable {X : Cx} {T : Tab} {W : WX} {e : Expr} {wA : WpA} {p pos tpos : Pos} {elts : List Expr} {kk : Nat}
def enumW (ss : List Sl) (k : List D → Prop) : Prop := match ss with
  | [.dat (.lst ds)] => k (enumD 0 ds)
  | [.dat (.tup ds)] => k (enumD 0 ds)
  | _ => False
def wEnum (wA : WpA) : WpI := fun sl cs R Rx => wA sl cs (fun ss c => enumW ss fun ds => R ds c) Rx
theorem ite_ok {K : PySem.W.Frag} {F : Addr → Prop} {ad : List Addr} {H : Hp} {a : Addr} {xs : List V} {ds : List D} (n1 : ¬ Mm ad F a) (e1 : H a = some (.lst xs)) (q1 : Reps T K (Mm ad F) H xs ds) : ItOk T K F (Ite K a) (enumD 0 ds) ad H := fun F2 ad2 H2 cs2 c2 kp i => ⟨fun d hd => by
    obtain ⟨x, hx, rfl⟩ := enumD_get hd
    obtain ⟨vx, gx, rx⟩ := (q1.kp kp).get hx
    have a1 := SqL.of (K := K) (kp a _ e1 n1).1
    refine ⟨⟨xs, vx, a1, gx⟩, fun v H3 yy => ?_⟩
    obtain ⟨Tt, x', rfl, hT, rfl, g1⟩ := yy
    have g1 := g1 xs a1
    rw [gx] at g1
    cases g1
    obtain ⟨c3, x3⟩ := c2.newo (o := .tup [.int (i : Nat), vx]) hT
    refine ⟨fun b o e => by rw [upd_ne (ne_of_none e hT)]; exact e, ?_⟩
    rw [Nat.zero_add]
    exact .tup (vs := [.int (i : Nat), vx]) (.inl ⟨c2.new hT, .inl upd_same⟩) (.cons Rep.int (.cons (rx.kp x3.kp) .nil)), fun hi => by
    rw [enumD_len] at hi
    exact ⟨xs, SqL.of (kp a _ e1 n1).1, by rw [q1.length]; omega⟩⟩
theorem iteT_ok {K : PySem.W.Frag} {F : Addr → Prop} {ad : List Addr} {H : Hp} {a : Addr} {xs : List V} {ds : List D} (e1 : TAt K (Mm ad F) H a xs) (q1 : Reps T K (Mm ad F) H xs ds) : ItOk T K F (IteT K a) (enumD 0 ds) ad H := fun F2 ad2 H2 cs2 c2 kp i => ⟨fun d hd => by
    obtain ⟨x, hx, rfl⟩ := enumD_get hd
    obtain ⟨vx, gx, rx⟩ := (q1.kp kp).get hx
    have a1 := (e1.kp kp).sq
    refine ⟨⟨xs, vx, a1, gx⟩, fun v H3 yy => ?_⟩
    obtain ⟨Tt, x', rfl, hT, rfl, g1⟩ := yy
    have g1 := g1 xs a1
    rw [gx] at g1
    cases g1
    obtain ⟨c3, x3⟩ := c2.newo (o := .tup [.int (i : Nat), vx]) hT
    refine ⟨fun b o e => by rw [upd_ne (ne_of_none e hT)]; exact e, ?_⟩
    rw [Nat.zero_add]
    exact .tup (vs := [.int (i : Nat), vx]) (.inl ⟨c2.new hT, .inl upd_same⟩) (.cons Rep.int (.cons (rx.kp x3.kp) .nil)), fun hi => by
    rw [enumD_len] at hi
    exact ⟨xs, (e1.kp kp).sq, by rw [q1.length]; omega⟩⟩
theorem ji_enum (hm : X.mg "enumerate" = none) (ha : JA X T W [e] wA) (hg : Gl X "enumerate" := by rfl) (hs : starEach [e] X.env = [(false, eval e X.env)] := by rfl) : JI X T W (.Tuple elts kk tpos) (.Call (.Name "enumerate" p) [e] [] pos) (wEnum wA) :=
  weakI (pi_enumA hg hm ha hs) fun σ H Q ⟨ad, F, sl, cs, R, Rx, h0, hw, q, qx⟩ => ⟨ad, F, sl, cs, _, Rx, h0, hw, fun ss c1 vs H1 ad1 hw1 x1 h1 r1 => by
    unfold enumW at hw1
    split at hw1
    · match vs, r1 with
      | [v], r1 =>
        have r1 := r1.1
        cases r1 with
        | @lst a xs _ n1 e1 q1 => exact ⟨a, xs, rfl, .inl ⟨SqL.of e1, q _ c1 _ H1 ad1 hw1 x1 h1 (ite_ok n1 e1 q1)⟩⟩
    · match vs, r1 with
      | [v], r1 =>
        have r1 := r1.1
        cases r1 with
        | @tup a xs _ e1 q1 => exact ⟨a, xs, rfl, .inr ⟨e1.sq, q _ c1 _ H1 ad1 hw1 x1 h1 (iteT_ok e1 q1)⟩⟩
    · exact hw1.elim, qx⟩
end
end Dl

namespace Dl
open PySem L2
/-! ### methods by keywords and with defaults -/
section
variable {X : Cx} {T : Tab} {W : WX} {e o : Expr} {es : List Expr} {kws : List Keyword} {pos apos p : Pos} {wo : WpE} {wA wK : WpA} {c : Ct} {cx : CtX} {k cn pn : Nat} {fd : FuncData} {ps ks : List Str} {m y : Str} {C g : Addr} {fn : List Str} {gg : List Value → List Value → List Value} {gV : List V → List V → List V} {fu : List D → List D → List D}
theorem run_kwS {CX : CXT} {sp : Sp} {E : St → XK} {pins : List (Addr × Obj)} {σ : St} {H : Hp} {sh : Shared} {Q : VK} {us ws : List Value} {vs zs : List V} (G : FnOk X.prog X.w X.K X.mg X.base CX k g fd ps sp) (hr : Room k X.A) (hb : KBn X.K fd ps pn ks gg gV) (hx : PassesAt CX X σ (E σ))
    (I : Inv X pins σ H sh) (r : Vals vs us) (rz : Vals zs ws) (l1 : vs.length = pn) (l2 : zs.length = ks.length) (h : sp (gV vs zs) H Q (E σ)) : wpAny (model X.prog X.w) X.A (call (.ref g) us (ks.zip ws)) (EP X pins σ Q) X.xe sh := by
  refine wpAny_call (codeAny_mono (G.run X.A X.stack sh H ⟨us, ks.zip ws⟩ _ (gV vs zs) Q (E σ) hr I.env0 (hb.to sh us ws I.kIn (r.length.symm.trans l1) (rz.length.symm.trans l2)) (hb.rel r rz) h) fun z s' hq => ?_)
  match z, hq with
  | .error e, hq => exact hx pins H sh e s' I hq
  | .ok (.ret u), hq => exact I.after hq
def tMethKS (C : Addr) (m : Str) (n j : Nat) (sp : Sp) (gV : List V → List V → List V) (E : St → XK) (ta : TE) (t tk : TA) : TE := fun σ H Q => ta σ H fun x H1 => ∃ a dx fs, x = .ref a ∧ H1 a = some (.ins C dx fs) ∧ fs.lookup m = none ∧
  t σ H1 fun vs H2 => tk σ H2 fun zs H3 => vs.length = n ∧ zs.length = j ∧ sp (gV (x :: vs) zs) H3 Q (E σ)
theorem pe_methKS {CX : CXT} {sp : Sp} {E : St → XK} {pl : Sem Bool} {ta : TE} {t tk : TA} (he : PE X o ta) (hc : Cls X.K C) (hm : Meth X.K C m g) (G : FnOk X.prog X.w X.K X.mg X.base CX k g fd ps sp) (hr : Room k X.A) (hb : KBn X.K fd ps (pn + 1) ks gg gV) (hx : ∀ σ, PassesAt CX X σ (E σ)) (ha : PA X (e :: es) t) (hkw : PK X kws tk)
    (hall : (backToKw pos (keywordEach kws X.env)).all (·.1.isSome) = true) (hks : (backToKw pos (keywordEach kws X.env)).filterMap (·.1) = ks) (hst : starEach (e :: es) X.env = (false, eval e X.env) :: starEach es X.env)
    (hpl : ((backTo pos (starEach (e :: es) X.env)).any (·.1) || (backToKw pos (keywordEach kws X.env)).any (·.1.isNone)) = false)
    (ht : eval (.Call (.Attribute o m apos) (e :: es) kws pos) X.env = (eval o X.env >>= fun ov => standAt apos.atName >>= fun _ => holding [ov] (getMethod ov m pl) >>= fun fb => callWith pos fb.1 fb.2 (backTo pos (starEach (e :: es) X.env)) (backToKw pos (keywordEach kws X.env)))) :
    PE X (.Call (.Attribute o m apos) (e :: es) kws pos) (tMethKS C m pn ks.length sp gV E ta t tk) := by
  constructor
  intro pins s σ H Q I h
  refine PySem.W.methodCall_KW (pl := pl) (thn (he.run pins s σ H _ I h) fun u s1 z => ?_) ht
  obtain ⟨x, H1, I1, rx, a, dx, fs, ex, ea, l, q⟩ := z
  subst ex
  cases (show u = Value.ref a from rx)
  refine getmeth_ok I1 ea hc hm l (PySem.W.callWith_KW (first := [.ref a]) (h₀ := X.base) I.ok.mod.kin hm.kp hall (thn (ha.run pos pins s1 σ H1 _ I1 q) fun us s2 z => ?_) hpl hst)
  obtain ⟨vs, H2, I2, r, q2⟩ := z
  refine thn (hkw.run pos pins s2 σ H2 _ I2 q2) fun ws s3 z => ?_
  obtain ⟨zs, H3, I3, rz, l1, l2, q3⟩ := z
  refine ⟨I3.kIn, ?_⟩
  rw [hks]
  exact run_kwS (us := .ref a :: us) (vs := .ref a :: vs) G hr hb (hx σ) I3 (.cons rfl r) rz (by rw [List.length_cons, l1]) l2 q3
theorem pe_methKS0 {CX : CXT} {sp : Sp} {E : St → XK} {pl : Sem Bool} {ta : TE} {tk : TA} (he : PE X o ta) (hc : Cls X.K C) (hm : Meth X.K C m g) (G : FnOk X.prog X.w X.K X.mg X.base CX k g fd ps sp) (hr : Room k X.A) (hb : KBn X.K fd ps 1 ks gg gV) (hx : ∀ σ, PassesAt CX X σ (E σ)) (hkw : PK X kws tk)
    (hall : (backToKw pos (keywordEach kws X.env)).all (·.1.isSome) = true) (hks : (backToKw pos (keywordEach kws X.env)).filterMap (·.1) = ks)
    (hpl : ((backTo pos (starEach [] X.env)).any (·.1) || (backToKw pos (keywordEach kws X.env)).any (·.1.isNone)) = false)
    (ht : eval (.Call (.Attribute o m apos) [] kws pos) X.env = (eval o X.env >>= fun ov => standAt apos.atName >>= fun _ => holding [ov] (getMethod ov m pl) >>= fun fb => callWith pos fb.1 fb.2 (backTo pos (starEach [] X.env)) (backToKw pos (keywordEach kws X.env)))) :
    PE X (.Call (.Attribute o m apos) [] kws pos) (tMethKS C m 0 ks.length sp gV E ta tNil tk) := by
  constructor
  intro pins s σ H Q I h
  refine PySem.W.methodCall_KW (pl := pl) (thn (he.run pins s σ H _ I h) fun u s1 z => ?_) ht
  obtain ⟨x, H1, I1, rx, a, dx, fs, ex, ea, l, q⟩ := z
  subst ex
  cases (show u = Value.ref a from rx)
  refine getmeth_ok I1 ea hc hm l (PySem.W.callWith_KW0 (first := [.ref a]) (h₀ := X.base) I.ok.mod.kin hm.kp hall ?_ hpl)
  refine thn (hkw.run pos pins s1 σ H1 _ I1 q) fun ws s3 z => ?_
  obtain ⟨zs, H3, I3, rz, l1, l2, q3⟩ := z
  refine ⟨I3.kIn, ?_⟩
  rw [hks]
  exact run_kwS (us := [.ref a]) (vs := [.ref a]) G hr hb (hx σ) I3 (.cons rfl .nil) rz rfl l2 q3
theorem pass_no {σ : St} : PassesAt CX0 X σ E0 := fun _ _ _ _ _ _ z => z.elim
def wMethK (cn : Nat) (m : Str) (c : Ct) (pn kn : Nat) (fu : List D → List D → List D) (wo : WpE) (wA wK : WpA) : WpE := fun sl cs R Rx => wo sl cs (fun s c1 => recvW cn m s c1 ∧ wA sl c1 (fun ss c2 => wDats ss fun vs => wK sl c2 (fun zz c3 => wDats zz fun zs => vs.length = pn ∧ zs.length = kn ∧ callW c (s :: (fu vs zs).map Sl.dat) c3 R) Rx) Rx) Rx
def wMethKX (cn : Nat) (m : Str) (c : Ct) (cx : CtX) (pn kn : Nat) (fu : List D → List D → List D) (wo : WpE) (wA wK : WpA) : WpE := fun sl cs R Rx => wo sl cs (fun s c1 => recvW cn m s c1 ∧ wA sl c1 (fun ss c2 => wDats ss fun vs => wK sl c2 (fun zz c3 => wDats zz fun zs => vs.length = pn ∧ zs.length = kn ∧ callXW c cx (s :: (fu vs zs).map Sl.dat) c3 R Rx) Rx) Rx) Rx
theorem je_methK {pl : Sem Bool} (hT : T cn = some (C, fn)) (hc : Cls X.K C) (hm : Meth X.K C m g) (hf : fIdx fn m = none) (G : FnOk X.prog X.w X.K X.mg X.base CX0 k g fd ps (spC T X.K c)) (hr : Room k X.A) (hb : ∃ gg, KBn X.K fd ps (pn + 1) ks gg gV)
    (hp : ∀ vs zs : List D, vs.length = pn → zs.length = ks.length → Put X.K gV vs zs (fu vs zs)) (he : JE X T W o wo) (ha : JA X T W (e :: es) wA) (hkw : JK X T W kws wK)
    (hall : (backToKw pos (keywordEach kws X.env)).all (·.1.isSome) = true := by rfl) (hks : (backToKw pos (keywordEach kws X.env)).filterMap (·.1) = ks := by rfl) (hst : starEach (e :: es) X.env = (false, eval e X.env) :: starEach es X.env := by rfl)
    (hpl : ((backTo pos (starEach (e :: es) X.env)).any (·.1) || (backToKw pos (keywordEach kws X.env)).any (·.1.isNone)) = false := by rfl)
    (ht : eval (.Call (.Attribute o m apos) (e :: es) kws pos) X.env = (eval o X.env >>= fun ov => standAt apos.atName >>= fun _ => holding [ov] (getMethod ov m pl) >>= fun fb => callWith pos fb.1 fb.2 (backTo pos (starEach (e :: es) X.env)) (backToKw pos (keywordEach kws X.env))) := by rfl) :
    JE X T W (.Call (.Attribute o m apos) (e :: es) kws pos) (wMethK cn m c pn ks.length fu wo wA wK) := by
  obtain ⟨gg, hb⟩ := hb
  exact weak (pe_methKS (E := fun _ => E0) (pl := pl) he hc hm G hr hb (fun σ => pass_no) ha hkw hall hks hst hpl ht) fun σ H Q ⟨ad, F, sl, cs, R, Rx, h0, hw, q, qx⟩ => ⟨ad, F, sl, cs, _, Rx, h0, hw, fun s c1 v H1 ad1 hw1 x1 h1 r1 => by
    obtain ⟨a, dx, fs, rfl, e1, e2⟩ := recvW_of hT hf h1.hc r1 hw1.1
    refine ⟨a, dx, fs, rfl, e1, e2, ad1, F, sl, c1, _, Rx, h1, hw1.2, fun ss c2 vs H2 ad2 hw2 x2 h2 r2 => ?_, qx.on x1 h1⟩
    have hw2' := wDats_of hw2
    clear hw2
    obtain ⟨args, e0, hw2⟩ := hw2'
    subst e0
    refine ⟨ad2, F, sl, c2, _, Rx, h2, hw2, fun zz c3 zs H3 ad3 hw3 x3 h3 r3 => ?_, (qx.on x1 h1).on x2 h2⟩
    obtain ⟨kargs, rfl, l1, l2, hw3⟩ := wDats_of hw3
    have w1 := r2.dats
    have w2 := r3.dats
    obtain ⟨us, e3, e4⟩ := hp args kargs l1 l2 (.ref a) vs zs w1.length w2.length
    refine ⟨by rw [w1.length]; exact l1, by rw [w2.length]; exact l2, ?_⟩
    rw [e3]
    exact callW_then (ss := s :: (fu args kargs).map Sl.dat) h3.hc ⟨(r1.ext x2).ext x3, SlReps.of (e4 _ _ _ (w1.kp x3.kp) w2)⟩ hw3 fun s' c' v H' ad' hR x4 k4 r4 => q s' c' v H' ad' hR (x1.trans h1.hc (x2.trans h2.hc (x3.trans h3.hc x4))) (h3.to x4 k4) r4, qx⟩
theorem je_methKX (tk : Takes X W) {pl : Sem Bool} (hT : T cn = some (C, fn)) (hc : Cls X.K C) (hm : Meth X.K C m g) (hf : fIdx fn m = none) (G : FnOk X.prog X.w X.K X.mg X.base (L2.CX X.prog X.w) k g fd ps (spX T X.K c cx)) (hr : Room k X.A) (hb : ∃ gg, KBn X.K fd ps (pn + 1) ks gg gV)
    (hp : ∀ vs zs : List D, vs.length = pn → zs.length = ks.length → Put X.K gV vs zs (fu vs zs)) (he : JE X T W o wo) (ha : JA X T W (e :: es) wA) (hkw : JK X T W kws wK)
    (hall : (backToKw pos (keywordEach kws X.env)).all (·.1.isSome) = true := by rfl) (hks : (backToKw pos (keywordEach kws X.env)).filterMap (·.1) = ks := by rfl) (hst : starEach (e :: es) X.env = (false, eval e X.env) :: starEach es X.env := by rfl)
    (hpl : ((backTo pos (starEach (e :: es) X.env)).any (·.1) || (backToKw pos (keywordEach kws X.env)).any (·.1.isNone)) = false := by rfl)
    (ht : eval (.Call (.Attribute o m apos) (e :: es) kws pos) X.env = (eval o X.env >>= fun ov => standAt apos.atName >>= fun _ => holding [ov] (getMethod ov m pl) >>= fun fb => callWith pos fb.1 fb.2 (backTo pos (starEach (e :: es) X.env)) (backToKw pos (keywordEach kws X.env))) := by rfl) :
    JE X T W (.Call (.Attribute o m apos) (e :: es) kws pos) (wMethKX cn m c cx pn ks.length fu wo wA wK) := by
  obtain ⟨gg, hb⟩ := hb
  exact weak (pe_methKS (E := WE W) (pl := pl) he hc hm G hr hb (passAt tk) ha hkw hall hks hst hpl ht) fun σ H Q ⟨ad, F, sl, cs, R, Rx, h0, hw, q, qx⟩ => ⟨ad, F, sl, cs, _, Rx, h0, hw, fun s c1 v H1 ad1 hw1 x1 h1 r1 => by
    obtain ⟨a, dx, fs, rfl, e1, e2⟩ := recvW_of hT hf h1.hc r1 hw1.1
    refine ⟨a, dx, fs, rfl, e1, e2, ad1, F, sl, c1, _, Rx, h1, hw1.2, fun ss c2 vs H2 ad2 hw2 x2 h2 r2 => ?_, qx.on x1 h1⟩
    have hw2' := wDats_of hw2
    clear hw2
    obtain ⟨args, e0, hw2⟩ := hw2'
    subst e0
    refine ⟨ad2, F, sl, c2, _, Rx, h2, hw2, fun zz c3 zs H3 ad3 hw3 x3 h3 r3 => ?_, (qx.on x1 h1).on x2 h2⟩
    obtain ⟨kargs, rfl, l1, l2, hw3⟩ := wDats_of hw3
    have w1 := r2.dats
    have w2 := r3.dats
    obtain ⟨us, e3, e4⟩ := hp args kargs l1 l2 (.ref a) vs zs w1.length w2.length
    refine ⟨by rw [w1.length]; exact l1, by rw [w2.length]; exact l2, ?_⟩
    rw [e3]
    have x13 := x1.trans h1.hc (x2.trans h2.hc x3)
    exact callXW_then (ss := s :: (fu args kargs).map Sl.dat) h3.hc ⟨(r1.ext x2).ext x3, SlReps.of (e4 _ _ _ (w1.kp x3.kp) w2)⟩ hw3 (fun s' c' v H' ad' hR x4 k4 r4 => q s' c' v H' ad' hR (x13.trans h3.hc x4) (h3.to x4 k4) r4) (fun x c' cls d H' ad' hR x4 k4 er => qx x c' cls d H' ad' hR (x13.trans h3.hc x4) (h3.to x4 k4) er), qx⟩
end
/-! ### defs with defaults that may raise -/
section
variable {T : Tab} {P : Program} {w : World} {K : PySem.W.Frag} {mg : Str → Option Value} {base : Heap} {x qual : Str} {st : Stmt} {f : Addr} {fd : FuncData} {N ps : List Str} {k : Nat} {ws : Nat → WS}
theorem fn_okXD {dvs : List V} {kws : List (Str × V)} {c : Ct} {cx : CtX} (F : FunD K x qual (defArgs st) (defBody st) (defScope st) dvs kws f fd) (Sc : FnScope N ps (defScope st)) (len : ∀ args cs s cs', c args cs s cs' → args.length = ps.length) (lenX : ∀ args cs x cs', cx args cs x cs' → args.length = ps.length)
    (body : ∀ cdv A outer sh H E, Room k (cxX P w K mg base N qual st f cdv A outer sh H E).nox.A → ∀ args cs s cs', c args cs s cs' → DSs (cxX P w K mg base N qual st f cdv A outer sh H E).nox T cs.length (st0 N args cs) (defBody st) (endOf cs.length s cs'))
    (bodyX : ∀ cdv A outer sh H E, Room k (cxX P w K mg base N qual st f cdv A outer sh H E).A → Takes (cxX P w K mg base N qual st f cdv A outer sh H E) (fun cls d _ H => E cls d H) → ∀ args cs x cs', cx args cs x cs' → DSs (cxX P w K mg base N qual st f cdv A outer sh H E) T cs.length (st0 N args cs) (defBody st) (endX cs.length E x cs')) :
    FnOk P w K mg base (L2.CX P w) (k + 1) f fd ps (spX T K c cx) := by
  refine F.ok Sc (fun vs H Q E h => ?_) (fun cdv A outer s H vs Q E hr h => ?_)
  · rcases h with ⟨ad, F', args, cs, s, cs', _, r, hc, _⟩ | ⟨ad, F', args, cs, s, cs', _, r, hc, _⟩
    · rw [r.len, len _ _ _ _ hc]
    · rw [r.len, lenX _ _ _ _ hc]
  · rcases h with ⟨ad, F', args, cs, s0, cs', hc, r, h, q⟩ | ⟨ad, F', args, cs, x0, cs', hc, r, h, q⟩
    · refine ⟨_, PSs.nox (body cdv A outer s H E hr args cs s0 cs' h), ad, F', Nat.le_of_eq hc.ln.symm, start_hold hc r, ?_, ?_, fun _ _ _ _ _ _ _ z => z.elim, fun _ _ _ _ _ _ _ z => z.elim, fun _ _ _ _ _ _ _ _ _ _ _ z => z.elim⟩
      · rintro S' σ' H' ad' x hn h' ⟨rfl, e⟩
        subst e
        refine q .non H' (ad'.take cs.length) ⟨by rw [List.take_take, Nat.min_self]; exact x.pre, fun a ha => x.sub a (List.mem_of_mem_take ha), x.keep, x.frm⟩ (by rw [List.length_take]; omega) (h'.hc.take _) Rep.non
      · rintro s2 cs2 v H' ad' x hn c2 r2 ⟨rfl, rfl⟩
        exact q v H' ad' x hn c2 r2
    · have tk : Takes (cxX P w K mg base N qual st f cdv A outer s H E) (fun cls d _ H => E cls d H) := takes_of rfl rfl rfl rfl
      refine ⟨_, bodyX cdv A outer s H E hr tk args cs x0 cs' h, ad, F', Nat.le_of_eq hc.ln.symm, start_hold hc r, fun _ _ _ _ _ _ _ z => z.elim, fun _ _ _ _ _ _ _ _ _ z => z.elim, fun _ _ _ _ _ _ _ z => z.elim, fun _ _ _ _ _ _ _ z => z.elim, ?_⟩
      rintro y S' cls d σ' H' ad' x hn h' er ⟨rfl, e⟩
      subst e
      have kp : Kp (Mm ad' F') H' (Mm (ad'.take cs.length) F') H' := fun a o e m => ⟨e, fun z => m (z.imp List.mem_of_mem_take id)⟩
      refine q cls d H' (ad'.take cs.length) ⟨by rw [List.take_take, Nat.min_self]; exact x.pre, fun a ha => x.sub a (List.mem_of_mem_take ha), x.keep, x.frm⟩ (by rw [List.length_take]; omega) (h'.hc.take _) ?_
      obtain ⟨C, fn, e1, e2, er⟩ := er
      refine ⟨C, fn, e1, e2, er.imp id ?_⟩
      rintro ⟨dd, vs', a1, a2, a3, a4, a5⟩
      exact ⟨dd, vs', a1, fun z => a2 (z.imp List.mem_of_mem_take id), a3, a4, a5.kp kp⟩
theorem fn_JXD {dvs : List V} {kws : List (Str × V)} (F : FunD K x qual (defArgs st) (defBody st) (defScope st) dvs kws f fd) (Sc : FnScope N ps (defScope st))
    (body : ∀ cdv A outer sh H E, Room k (cxX P w K mg base N qual st f cdv A outer sh H E).nox.A → ∀ n, JSs (cxX P w K mg base N qual st f cdv A outer sh H E).nox T W0 n (defBody st) (ws n))
    (bodyX : ∀ cdv A outer sh H E, Room k (cxX P w K mg base N qual st f cdv A outer sh H E).A → Takes (cxX P w K mg base N qual st f cdv A outer sh H E) (fun cls d _ H => E cls d H) → ∀ n, JSs (cxX P w K mg base N qual st f cdv A outer sh H E) T (fun cls d _ H => E cls d H) n (defBody st) (ws n)) :
    FnOk P w K mg base (L2.CX P w) (k + 1) f fd ps (spX T K (ctOf N ps ws) (ctXOf N ps ws)) :=
  fn_okXD F Sc (fun _ _ _ _ h => h.1) (fun _ _ _ _ h => h.1) (fun cdv A outer sh H E hr args cs s cs' h => body cdv A outer sh H E hr _ _ _ h.2) fun cdv A outer sh H E hr tk args cs x cs' h => bodyX cdv A outer sh H E hr tk _ _ _ h.2
end
end Dl

namespace Dl
open PySem L2
section
variable {X : Cx} {T : Tab} {cs : List Cell}
/-! ### x is True -/
theorem cmp_isBl {a b : Bool} : CmpD X T .Is (.dat (.bl a)) (.dat (.bl b)) cs (.dat (.bl (decide (a = b)))) cs := ⟨_, op_is_bl, fun ad F H v w Q c r1 r2 q => by
  cases r1
  cases r2
  exact ⟨_, _, rfl, rfl, q _ H ad .refl c Rep.bl⟩⟩
theorem cmp_isntBl {a b : Bool} : CmpD X T .IsNot (.dat (.bl a)) (.dat (.bl b)) cs (.dat (.bl (!decide (a = b)))) cs := ⟨_, op_isnot_bl, fun ad F H v w Q c r1 r2 q => by
  cases r1
  cases r2
  exact ⟨_, _, rfl, rfl, q _ H ad .refl c Rep.bl⟩⟩
def isBW (neg : Bool) : W2 := fun s1 s2 cs R => match s1, s2 with
  | .dat (.bl a), .dat (.bl b) => R (.dat (.bl (neg.xor (decide (a = b))))) cs
  | _, _ => False
theorem jc_isB : JCmp X T .Is (isBW false) := fun s1 s2 cs R h => by
  unfold isBW at h
  split at h
  · exact ⟨_, _, cmp_isBl, by simpa using h⟩
  · exact h.elim
theorem jc_isntB : JCmp X T .IsNot (isBW true) := fun s1 s2 cs R h => by
  unfold isBW at h
  split at h
  · exact ⟨_, _, cmp_isntBl, by simpa using h⟩
  · exact h.elim
end
end Dl

namespace Dl
open PySem L2
/-! ### x != y by an own == -/
section
open PySem.W
variable {M : Model} {prog : Program} {w : World} {A : Around} {E : Value → Shared → Prop} {s : Shared} {K : PySem.W.Frag} {x C f : Addr} {ox : Obj} {od : Option Obj} {b : Value}
theorem ifBound_objNe {args : List Value} {Q : Option Value → Shared → Prop} (X : K.In s.heap) (I : PySem.W.InstAt s.heap x ox C od) (hs : PySem.W.findIn K (.ref C) "__ne__" = some (some (.builtin "object.__ne__")))
    (h : wpAny M A (call (.builtin "object.__ne__") (.ref x :: args)) (fun v => Q (some v)) E s) : wpAny M A (callSpecialIfBound? (.ref x) "__ne__" args) Q E s := by
  simp only [callSpecialIfBound?, bindSpecialIfBound?]
  refine wpAny_holding (wpAny_bind (wpAny_bind (wpAny_bind (I.type.here ((PySem.W.looks_findIn X hs).here ?_)))))
  refine wpAny_bind (wpAny_askSetting (wpAny_ite ?_))
  have fin : wpAny M A (call (.builtin "object.__ne__") ([.ref x] ++ args) >>= fun v => pure (some v)) Q E s := wpAny_bind (wpAny_mono h (fun v s' h' => wpAny_pure h') fun _ _ h' => h')
  split
  · exact wpAny_bind (wpAny_of_eq (F.cmp_object.ne.bind _) (wpAny_pure (by exact fin)))
  · exact wpAny_tryCatch (wpAny_bind (wpAny_of_eq (F.cmp_object.ne.bind _) (wpAny_pure (by exact fin))))
theorem entry_objNe {Q : Fin → Shared → Prop} (hu : A.units < cLine) (X : K.In s.heap) (I : PySem.W.InstAt s.heap x ox C od) (hs : PySem.W.findIn K (.ref C) "__eq__" = some (some (.ref f))) (hf : PySem.W.isFn K (.ref f) = true)
    (hcall : wpAny M A (call (.ref f) [.ref x, b]) (fun v s' => ∃ k, v = .bool k ∧ Q (.done (.ret (.bool (!k)))) s') E s) : wpAny M A (Builtin.«object.__ne__» ⟨[.ref x, b], []⟩) Q E s := by
  unfold Builtin.«object.__ne__»
  repeat (first
    | with_reducible refine wpAny_cRoomFor hu ?_
    | (refine wpAny_bind (m := callSpecialIfBound? (.ref x) (Str.ofString "__eq__") [b])
        (ifBound_K X I hs hf (wpAny_mono hcall (fun r s' hr => by
          obtain ⟨k, rfl, hq⟩ := hr
          repeat (first | exact hq | exact wpAny_pure hq | exact wpAny_truthy_bool hq | (refine wpAny_bind (m := truthy (.bool _)) (wpAny_truthy_bool ?_)) | wp_step)) fun _ _ e => e)))
    | wp_step)
theorem ne_K {Q : Value → Shared → Prop} (hu : A.units + 1 < cLine) (X : K.In s.heap) (I : InstAt s.heap x ox C od) (hb : Looks (model prog w) s.heap (typeOf b) (.ref C)) (hm : mroIn K C (.type "object") = some true)
    (hn : findIn K (.ref C) "__ne__" = some (some (.builtin "object.__ne__"))) (hs : findIn K (.ref C) "__eq__" = some (some (.ref f))) (hf : isFn K (.ref f) = true)
    (h : wpAny (model prog w) A.in1 (call (.ref f) [.ref x, b]) (fun v s' => ∃ k, v = .bool k ∧ Q (.bool (!k)) s') E s) : wpAny (model prog w) A (richCompare .NotEq (.ref x) b) Q E s := by
  have one : wpAny (model prog w) A (tryCompare (.ref x) "__ne__" b) (fun r s' => ∃ v, r = some v ∧ Q v s') E s := by
    unfold tryCompare
    refine wpAny_bind (ifBound_objNe X I hn (wpAny_call (codeAny_call_builtin F.cmp_object.ne.plain F.cmpEntry_ne (PySem.W.check_slot F.cmpKind_ne F.cmpSplit_ne (I.type.andThen (PySem.W.looks_mroIn X hm)) (F.cmpArgs_ne _ _) (entry_objNe (A := A.in1) hu X I hs hf (wpAny_mono h (fun v s' hv => ?_) fun _ _ e => e))))))
    obtain ⟨k, rfl, hq⟩ := hv
    exact ⟨k, rfl, wpAny_pure ⟨_, rfl, hq⟩⟩
  unfold richCompare
  simp only [oneThing_ref]
  refine wpAny_holding (wpAny_bind (wpAny_cRoomFor (Nat.lt_of_succ_lt hu) ?_))
  rw [cmpInfo_NotEq]
  dsimp only
  refine wpAny_bind (I.type.here (wpAny_bind (hb.here ?_)))
  split
  · rename_i q
    exact absurd q (by simp)
  · refine wpAny_bind (wpAny_pure ?_)
    simp only [Bool.false_eq_true, if_false]
    refine wpAny_bind (wpAny_mono one (fun r s' z => ?_) fun _ _ e => e)
    obtain ⟨v, rfl, hq⟩ := z
    exact wpAny_pure hq
end
end Dl

namespace Dl
open PySem L2
/-- an own class whose != is object's -/
structure NeC (K : PySem.W.Frag) (C : Addr) : Prop where
  mr : PySem.W.mroIn K C (.type "object") = some true
  ne : PySem.W.findIn K (.ref C) "__ne__" = some (some (.builtin "object.__ne__"))
section
variable {X : Cx} {T : Tab} {C g : Addr} {fd : FuncData} {ps : List Str} {k cn : Nat} {c : Ct} {fn : List Str} {ds es : List D} {d : D} {cs : List Cell} {w2 : W2}
theorem cop_ownNe {sp : Sp} (N : NeC X.K C) (G : FnOk X.prog X.w X.K X.mg X.base CX0 k g fd ps sp) (hr : Room (k + 1) X.A) (hb : Binds X.K fd ps []) (hs : PySem.W.findIn X.K (.ref C) "__eq__" = some (some (.ref g))) (hf : PySem.W.isFn X.K (.ref g) = true) :
    OpR X (compareOp .NotEq) (fun x y H Q => ∃ a b dx dy fs gs, x = .ref a ∧ y = .ref b ∧ H a = some (.ins C dx fs) ∧ H b = some (.ins C dy gs) ∧ sp [x, y] H (fun v H' => ∃ b, v = .bl b ∧ Q (.bl (!b)) H') E0) := by
  intro pins s σ H x y v u Q I rx ry h
  obtain ⟨a, b, dx, dy, fs, gs, rfl, rfl, ea, eb, hsp⟩ := h
  cases rx; cases ry
  obtain ⟨mA, J, _⟩ := ins_get I.hok ea
  obtain ⟨mB, J', _⟩ := ins_get I.hok eb
  obtain ⟨od, J, _⟩ := J.look
  obtain ⟨od', J', _⟩ := J'.look
  have hu : X.A.units + 1 < cLine := by
    have := hr.in1.units0
    exact this
  show wpAny _ _ (richCompare .NotEq (.ref a) (.ref b)) _ _ _
  refine ne_K hu I.kIn J J'.type N.mr N.ne hs hf (thn (run_in1 (us := [.ref a, .ref b]) (vs := [.ref a, .ref b]) G hr hb I (.cons rfl (.cons rfl .nil)) hsp) fun u s' z => ?_)
  obtain ⟨v, H', I', r, b', rfl, q⟩ := z
  cases (show u = Value.bool b' from r)
  exact ⟨b', rfl, .bl (!b'), H', I', rfl, q⟩
theorem cmp_ownNe (hT : T cn = some (C, fn)) (N : NeC X.K C) (G : FnOk X.prog X.w X.K X.mg X.base CX0 k g fd ps (spC T X.K c)) (hr : Room (k + 1) X.A) (hb : Binds X.K fd ps []) (hs : PySem.W.findIn X.K (.ref C) "__eq__" = some (some (.ref g))) (hf : PySem.W.isFn X.K (.ref g) = true)
    {b : Bool} (hq : c [.dat (.obj cn ds), .dat (.obj cn es)] [] (.dat (.bl b)) []) : CmpD X T .NotEq (.dat (.obj cn ds)) (.dat (.obj cn es)) cs (.dat (.bl (!b))) cs := ⟨_, cop_ownNe N G hr hb hs hf, fun ad F H v w Q cc r1 r2 q => by
  have s1 := r1
  have s2 := r2
  cases r1 with
  | @obj a C' dx _ fn' vs' _ ht na e1 hl r =>
    rw [hT] at ht
    cases ht
    cases r2 with
    | @obj b' C' dy _ fn' ws' _ ht nb e2 hl2 r' =>
      rw [hT] at ht
      cases ht
      refine ⟨a, b', dx, dy, _, _, rfl, rfl, e1, e2, spC0 (ds := [.obj cn ds, .obj cn es]) hq cc ⟨s1, s2, trivial⟩ fun v H' x2 c2 r2 => ?_⟩
      cases r2
      exact ⟨b, rfl, q _ H' ad x2 c2 Rep.bl⟩⟩
/-- x != y: not (x == y) -/
def ownNeW (c : Ct) : W2 := fun s1 s2 cs R => ∃ b, c [s1, s2] [] (.dat (.bl b)) [] ∧ R (.dat (.bl (!b))) cs
theorem jc_oNe (hT : T cn = some (C, fn)) (N : NeC X.K C) (G : FnOk X.prog X.w X.K X.mg X.base CX0 k g fd ps (spC T X.K c)) (hr : Room (k + 1) X.A) (hb : Binds X.K fd ps []) (hs : PySem.W.findIn X.K (.ref C) "__eq__" = some (some (.ref g))) (hf : PySem.W.isFn X.K (.ref g) = true) (h : JCmp X T .NotEq w2) :
    JCmp X T .NotEq (selW (P2 cn) (ownNeW c) w2) := jc_sel (fun s1 s2 cs R hP ⟨b, hq, hR⟩ => by
  obtain ⟨h1, h2⟩ := Bool.and_eq_true_iff.mp hP
  obtain ⟨ds, rfl⟩ := isO_of h1
  obtain ⟨es, rfl⟩ := isO_of h2
  exact ⟨_, _, cmp_ownNe hT N G hr hb hs hf hq, hR⟩) h
/-! ### x in y, y of an own class -/
theorem cop_ownIn {sp : Sp} (neg : Bool) (G : FnOk X.prog X.w X.K X.mg X.base CX0 k g fd ps sp) (hr : Room k X.A) (hb : Binds X.K fd ps []) (hs : PySem.W.findIn X.K (.ref C) "__contains__" = some (some (.ref g))) (hf : PySem.W.isFn X.K (.ref g) = true) :
    OpR X (compareOp (if neg then .NotIn else .In)) (fun x y H Q => ∃ b dy gs, y = .ref b ∧ H b = some (.ins C dy gs) ∧ sp [y, x] H (fun v H' => ∃ b, v = .bl b ∧ Q (.bl (neg.xor b)) H') E0) := by
  intro pins s σ H x y v u Q I rx ry h
  obtain ⟨b, dy, gs, rfl, eb, hsp⟩ := h
  cases ry
  obtain ⟨mB, J', _⟩ := ins_get I.hok eb
  obtain ⟨od', J', _⟩ := J'.look
  obtain ⟨m, hF⟩ := I.fr
  have run := run_vals (us := [.ref b, v]) (vs := [.ref b, x]) G hr hb I (.cons rfl (.cons rx .nil)) hsp
  cases neg with
  | true =>
    refine PySem.W.notIn_K hF I.ok.mod.kin J' hs hf (thn run fun u s' z => ?_)
    obtain ⟨w, H', I', r, b', rfl, q⟩ := z
    cases (show u = Value.bool b' from r)
    exact wpAny_truthy_bool ⟨.bl _, H', I', rfl, by simpa using q⟩
  | false =>
    refine PySem.W.in_K hF I.ok.mod.kin J' hs hf (thn run fun u s' z => ?_)
    obtain ⟨w, H', I', r, b', rfl, q⟩ := z
    cases (show u = Value.bool b' from r)
    exact wpAny_truthy_bool ⟨.bl _, H', I', rfl, by simpa using q⟩
theorem cmp_ownIn (neg : Bool) (hT : T cn = some (C, fn)) (G : FnOk X.prog X.w X.K X.mg X.base CX0 k g fd ps (spC T X.K c)) (hr : Room k X.A) (hb : Binds X.K fd ps []) (hs : PySem.W.findIn X.K (.ref C) "__contains__" = some (some (.ref g))) (hf : PySem.W.isFn X.K (.ref g) = true)
    {b : Bool} (hq : c [.dat (.obj cn es), .dat d] [] (.dat (.bl b)) []) : CmpD X T (if neg then .NotIn else .In) (.dat d) (.dat (.obj cn es)) cs (.dat (.bl (neg.xor b))) cs := ⟨_, cop_ownIn neg G hr hb hs hf, fun ad F H v w Q cc r1 r2 q => by
  have s2 := r2
  cases r2 with
  | @obj b' C' dy _ fn' ws' _ ht nb e2 hl2 r' =>
    rw [hT] at ht
    cases ht
    refine ⟨b', dy, _, rfl, e2, spC0 (ds := [.obj cn es, d]) hq cc ⟨s2, r1, trivial⟩ fun v H' x2 c2 r2 => ?_⟩
    cases r2
    exact ⟨b, rfl, q _ H' ad x2 c2 Rep.bl⟩⟩
def isDt : Sl → Bool
  | .dat _ => true
  | .cel _ => false
def PIn (cn : Nat) (s1 s2 : Sl) : Bool := isDt s1 && isO cn s2
def ownInW (neg : Bool) (c : Ct) : W2 := fun s1 s2 cs R => ∃ b, c [s2, s1] [] (.dat (.bl b)) [] ∧ R (.dat (.bl (neg.xor b))) cs
theorem jc_oIn (neg : Bool) (hT : T cn = some (C, fn)) (G : FnOk X.prog X.w X.K X.mg X.base CX0 k g fd ps (spC T X.K c)) (hr : Room k X.A) (hb : Binds X.K fd ps []) (hs : PySem.W.findIn X.K (.ref C) "__contains__" = some (some (.ref g))) (hf : PySem.W.isFn X.K (.ref g) = true) (h : JCmp X T (if neg then .NotIn else .In) w2) :
    JCmp X T (if neg then .NotIn else .In) (selW (PIn cn) (ownInW neg c) w2) := jc_sel (fun s1 s2 cs R hP ⟨b, hq, hR⟩ => by
  obtain ⟨h1, h2⟩ := Bool.and_eq_true_iff.mp hP
  obtain ⟨es, rfl⟩ := isO_of h2
  cases s1 with
  | cel _ => cases h1
  | dat d => exact ⟨_, _, cmp_ownIn neg hT G hr hb hs hf hq, hR⟩) h
/-! ### len(x), x of an own class -/
theorem call_lenO {sp : Sp} (G : FnOk X.prog X.w X.K X.mg X.base CX0 k g fd ps sp) (hr : Room (k + 1) X.A) (hb : Binds X.K fd ps []) (hs : PySem.W.findIn X.K (.ref C) "__len__" = some (some (.ref g))) (hf : PySem.W.isFn X.K (.ref g) = true) :
    CallR X (.builtin "len") (fun xs H Q => ∃ a dx fs, xs = [.ref a] ∧ H a = some (.ins C dx fs) ∧ sp [.ref a] H (fun v H' => ∃ n, v = .int n ∧ (0 ≤ n ∧ n < 2 ^ 63) ∧ Q (.int n) H') E0) := by
  intro pins s σ H xs us Q I r h
  obtain ⟨a, dx, fs, rfl, ea, hsp⟩ := h
  obtain ⟨u, rfl, ru⟩ := vals1 r
  cases (show u = Value.ref a from ru)
  obtain ⟨od, J⟩ := inst_get I ea
  obtain ⟨m, hF⟩ := I.fr
  refine PySem.W.len_K hF I.ok.mod.kin J hs hf (thn (run_in1 (us := [.ref a]) (vs := [.ref a]) G hr hb I (.cons rfl .nil) hsp) fun u s' z => ?_)
  obtain ⟨v, H', I', r, n, rfl, hn, q⟩ := z
  obtain ⟨t, e⟩ := (show ∃ t, u = Value.int n t from r)
  subst e
  exact ⟨hn, .int n, H', I'.kept (t' := s'.toks + 1) (fun b ob z => z), ⟨_, rfl⟩, q⟩
theorem cb_lenO (hT : T cn = some (C, fn)) (G : FnOk X.prog X.w X.K X.mg X.base CX0 k g fd ps (spC T X.K c)) (hr : Room (k + 1) X.A) (hb : Binds X.K fd ps []) (hs : PySem.W.findIn X.K (.ref C) "__len__" = some (some (.ref g))) (hf : PySem.W.isFn X.K (.ref g) = true) {n : Int} (hn : 0 ≤ n ∧ n < 2 ^ 63) (hq : c [.dat (.obj cn ds)] [] (.dat (.int n)) []) :
    CalB X T "len" [.dat (.obj cn ds)] cs (.dat (.int n)) cs := ⟨_, _, PySem.boot_len, .inl ⟨_, rfl⟩, call_lenO G hr hb hs hf, fun ad F H vs Q cc r q => by
  match vs, r with
  | [v], r =>
    have r1 := r.1
    cases r1 with
    | @obj a C' dx _ fn' vs' _ ht na e1 hl r2 =>
      rw [hT] at ht
      cases ht
      refine ⟨a, dx, _, rfl, e1, spC0 (ds := [.obj cn ds]) hq cc ⟨r.1, trivial⟩ fun v H' x2 c2 r2 => ?_⟩
      cases r2
      exact ⟨n, rfl, hn, q _ H' ad x2 c2 Rep.int⟩⟩
def lenOW (cn : Nat) (c : Ct) : WC := fun ss cs R => match ss with
  | [s] => match isO cn s with
    | true => ∃ n, c [s] [] (.dat (.int n)) [] ∧ (0 ≤ n ∧ n < 2 ^ 63) ∧ R (.dat (.int n)) cs
    | false => lenW ss cs R
  | _ => False
theorem jc_lenO (hT : T cn = some (C, fn)) (G : FnOk X.prog X.w X.K X.mg X.base CX0 k g fd ps (spC T X.K c)) (hr : Room (k + 1) X.A) (hb : Binds X.K fd ps []) (hs : PySem.W.findIn X.K (.ref C) "__len__" = some (some (.ref g))) (hf : PySem.W.isFn X.K (.ref g) = true) : JCall X T "len" (lenOW cn c) := ⟨jc_len.bo (X := X) (T := T), fun ss cs R h => by
  unfold lenOW at h
  split at h
  · split at h
    · obtain ⟨ds, rfl⟩ := isO_of ‹_›
      obtain ⟨n, hq, hn, hR⟩ := h
      exact ⟨_, _, cb_lenO hT G hr hb hs hf hn hq, hR⟩
    · exact jc_len.run _ _ _ h
  · exact h.elim⟩
end
end Dl

namespace Dl
open PySem L2
/-! ### methods by keywords alone -/
section
variable {X : Cx} {T : Tab} {W : WX} {o : Expr} {kws : List Keyword} {pos apos p : Pos} {wo : WpE} {wK : WpA} {c : Ct} {cx : CtX} {k cn : Nat} {fd : FuncData} {ps ks : List Str} {m y : Str} {C g : Addr} {fn : List Str} {gV : List V → List V → List V} {fu : List D → List D → List D}
theorem je_methK0 {pl : Sem Bool} (hT : T cn = some (C, fn)) (hc : Cls X.K C) (hm : Meth X.K C m g) (hf : fIdx fn m = none) (G : FnOk X.prog X.w X.K X.mg X.base CX0 k g fd ps (spC T X.K c)) (hr : Room k X.A) (hb : ∃ gg, KBn X.K fd ps (0 + 1) ks gg gV)
    (hp : ∀ vs zs : List D, vs.length = 0 → zs.length = ks.length → Put X.K gV vs zs (fu vs zs)) (he : JE X T W o wo) (hkw : JK X T W kws wK)
    (hall : (backToKw pos (keywordEach kws X.env)).all (·.1.isSome) = true := by rfl) (hks : (backToKw pos (keywordEach kws X.env)).filterMap (·.1) = ks := by rfl)
    (hpl : ((backTo pos (starEach [] X.env)).any (·.1) || (backToKw pos (keywordEach kws X.env)).any (·.1.isNone)) = false := by rfl)
    (ht : eval (.Call (.Attribute o m apos) [] kws pos) X.env = (eval o X.env >>= fun ov => standAt apos.atName >>= fun _ => holding [ov] (getMethod ov m pl) >>= fun fb => callWith pos fb.1 fb.2 (backTo pos (starEach [] X.env)) (backToKw pos (keywordEach kws X.env))) := by rfl) :
    JE X T W (.Call (.Attribute o m apos) [] kws pos) (wMethK cn m c 0 ks.length fu wo wNil wK) := by
  obtain ⟨gg, hb⟩ := hb
  exact weak (pe_methKS0 (E := fun _ => E0) (pl := pl) he hc hm G hr hb (fun σ => pass_no) hkw hall hks hpl ht) fun σ H Q ⟨ad, F, sl, cs, R, Rx, h0, hw, q, qx⟩ => ⟨ad, F, sl, cs, _, Rx, h0, hw, fun s c1 v H1 ad1 hw1 x1 h1 r1 => by
    obtain ⟨a, dx, fs, rfl, e1, e2⟩ := recvW_of hT hf h1.hc r1 hw1.1
    refine ⟨a, dx, fs, rfl, e1, e2, ?_⟩
    have hw2 : wK sl c1 (fun zz c3 => wDats zz fun zs => ([] : List D).length = 0 ∧ zs.length = ks.length ∧ callW c (s :: (fu [] zs).map Sl.dat) c3 R) Rx := hw1.2
    refine ⟨ad1, F, sl, c1, _, Rx, h1, hw2, fun zz c3 zs H3 ad3 hw3 x3 h3 r3 => ?_, qx.on x1 h1⟩
    obtain ⟨kargs, rfl, l1, l2, hw3⟩ := wDats_of hw3
    have w2 := r3.dats
    obtain ⟨us, e3, e4⟩ := hp [] kargs l1 l2 (.ref a) [] zs rfl w2.length
    refine ⟨rfl, by rw [w2.length]; exact l2, ?_⟩
    rw [e3]
    exact callW_then (ss := s :: (fu [] kargs).map Sl.dat) h3.hc ⟨r1.ext x3, SlReps.of (e4 _ _ _ .nil w2)⟩ hw3 fun s' c' v H' ad' hR x4 k4 r4 => q s' c' v H' ad' hR (x1.trans h1.hc (x3.trans h3.hc x4)) (h3.to x4 k4) r4, qx⟩
end
/-! ### zip of three tuples -/
section
variable {X : Cx} {T : Tab} {W : WX} {e e2 e3 : Expr} {wA : WpA} {p pos tpos : Pos} {elts : List Expr} {kk : Nat}
def zip3W (ss : List Sl) (k : List D → Prop) : Prop := match ss with
  | [.dat (.tup ds), .dat (.tup es), .dat (.tup fs)] => k (zip3D ds es fs)
  | _ => False
def wZip3 (wA : WpA) : WpI := fun sl cs R Rx => wA sl cs (fun ss c => zip3W ss fun ds => R ds c) Rx
theorem ji_zip3 (hm : X.mg "zip" = none) (ha : JA X T W [e, e2, e3] wA) (hg : Gl X "zip" := by rfl) (hs : starEach [e, e2, e3] X.env = (false, eval e X.env) :: starEach [e2, e3] X.env := by rfl) (hpl : (backTo pos (starEach [e2, e3] X.env)).any (·.1) = false := by rfl) :
    JI X T W (.Tuple elts kk tpos) (.Call (.Name "zip" p) [e, e2, e3] [] pos) (wZip3 wA) :=
  weakI (pi_zip3 hg hm ha hs hpl) fun σ H Q ⟨ad, F, sl, cs, R, Rx, h0, hw, q, qx⟩ => ⟨ad, F, sl, cs, _, Rx, h0, hw, fun ss c1 vs H1 ad1 hw1 x1 h1 r1 => by
    unfold zip3W at hw1
    split at hw1
    · match vs, r1 with
      | [v, w, u], r1 =>
        have r3 := r1.2.2.1
        have r2 := r1.2.1
        have r1 := r1.1
        cases r1 with
        | @tup a xs _ e1 q1 =>
          cases r2 with
          | @tup b ys _ e2 q2 =>
            cases r3 with
            | @tup c zs _ e3 q3 =>
              refine ⟨a, b, c, xs, ys, zs, rfl, ⟨e1.sq, e2.sq, e3.sq⟩, q _ c1 _ H1 ad1 hw1 x1 h1 fun F2 ad2 H2 cs2 c2 kp i => ⟨fun d hd => ?_, fun hi => ?_⟩⟩
              · obtain ⟨x, y, z, hx, hy, hz, rfl⟩ := zip3D_get hd
                obtain ⟨vx, gx, rx⟩ := (q1.kp kp).get hx
                obtain ⟨vy, gy, ry⟩ := (q2.kp kp).get hy
                obtain ⟨vz, gz, rz⟩ := (q3.kp kp).get hz
                refine ⟨⟨xs, ys, zs, vx, vy, vz, ⟨(e1.kp kp).sq, (e2.kp kp).sq, (e3.kp kp).sq⟩, gx, gy, gz⟩, fun u H3 z => ?_⟩
                obtain ⟨t, x', y', z', rfl, nt, rfl, f1, f2, f3⟩ := z
                have ex : x' = vx := Option.some.inj ((f1 _ (e1.kp kp).sq).symm.trans gx)
                have ey : y' = vy := Option.some.inj ((f2 _ (e2.kp kp).sq).symm.trans gy)
                have ez : z' = vz := Option.some.inj ((f3 _ (e3.kp kp).sq).symm.trans gz)
                subst ex ey ez
                obtain ⟨c3, x3⟩ := c2.newo (o := .tup [x', y', z']) nt
                exact ⟨fun a o ea => by rw [upd_ne (ne_of_none ea nt)]; exact ea, .tup (vs := [x', y', z']) (.inl ⟨c2.new nt, .inl upd_same⟩) (.cons (rx.kp x3.kp) (.cons (ry.kp x3.kp) (.cons (rz.kp x3.kp) .nil)))⟩
              · refine ⟨xs, ys, zs, ⟨(e1.kp kp).sq, (e2.kp kp).sq, (e3.kp kp).sq⟩, ?_⟩
                unfold zip3D at hi
                rw [List.length_map, List.length_zip, List.length_zip] at hi
                rw [q1.length, q2.length, q3.length]
                omega
    · exact hw1.elim, qx⟩
end
end Dl

namespace Dl
open PySem L2
/-! ### x, y = a, b by a tuple (names that a block uses) -/
section
variable {X : Cx} {T : Tab} {W : WX} {n : Nat} {a b : Expr} {wA : WpA} {x y : Str} {px py pt pt2 pos : Pos} {kt k2 : Nat}
theorem js_par2T (i j : Nat) (hN : X.N.Nodup) (ha : JA X T W [a, b] wA) (hi : X.N[i]? = some x := by rfl) (hj : X.N[j]? = some y := by rfl)
    (hx : Loc X.env.scope x := by first | exact Or.inl rfl | exact Or.inr rfl) (hfx : X.fn x = true ∨ X.env.scope.names.lookup x = some .local := by first | exact .inl rfl | exact .inr rfl)
    (hy : Loc X.env.scope y := by first | exact Or.inl rfl | exact Or.inr rfl) (hfy : X.fn y = true ∨ X.env.scope.names.lookup y = some .local := by first | exact .inl rfl | exact .inr rfl) (hc : X.calm = true := by rfl)
    (ho1 : (assignEach [.Name x px, .Name y py] X.env).map (·.2) = assign (.Name x px) X.env :: (assignEach [.Name y py] X.env).map (·.2) := by rfl) (ho2 : (assignEach [.Name y py] X.env).map (·.2) = assign (.Name y py) X.env :: (assignEach [] X.env).map (·.2) := by rfl)
    (hn : (assignEach [.Name x px, .Name y py] X.env).length = 2 := by rfl) (hst : (assignEach [.Name x px, .Name y py] X.env).findIdx? (·.1) = none := by rfl)
    (hs : swapsWithSole [.Tuple [.Name x px, .Name y py] kt pt] (.Tuple [a, b] k2 pt2) pos.line X.env = pure false := by rfl) (hw : swappedStores [.Tuple [.Name x px, .Name y py] kt pt] (.Tuple [a, b] k2 pt2) X.env = pure none := by rfl)
    (h1 : (assignEach [.Tuple [.Name x px, .Name y py] kt pt] X.env).map (·.2) = [assign (.Tuple [.Name x px, .Name y py] kt pt) X.env] := by rfl) : JS X T W n (.Assign [.Tuple [.Name x px, .Name y py] kt pt] (.Tuple [a, b] k2 pt2) pos) (wPar2 i j wA) := fun S P h =>
  weakS (ps_asg (pe_tup ha) (pg_tup (n := 2) hc (pgs_cons (pg_name hN hi hx hfx) (pgs_cons (pg_name hN hj hy hfy) pgs_nil ho2) ho1) hn hst) hs hw h1) fun D σ H ⟨ad, F, hn, h0, q1, q2, q3, q4, q5⟩ => ⟨ad, F, S.sl, S.cs, _, _, h0, h, fun ss c vs H1 ad1 hR x1 h1 r1 => by
    unfold par2 at hR
    split at hR
    · match vs, r1 with
      | [v, w], r1 =>
        refine ⟨show (2 : Nat) ≤ sizeLine by decide, fun p hp => ?_⟩
        obtain ⟨c2, x2⟩ := h1.hc.newo (o := .tup [v, w]) hp
        have x12 := x1.trans h1.hc x2
        exact ⟨p, [v, w], rfl, .inl (.inl upd_same), rfl, v, [w], rfl, w, [], rfl, rfl, q1 _ _ _ ad1 (x12.s hn) (x12.le hn) (((h1.to x2 c2).set (r1.1.ext x2) i).set (r1.2.1.ext x2) j) hR⟩
    · exact hR.elim, raz_of hn q5⟩
end
end Dl

namespace Dl
open PySem L2
/-! ### x == y, x != y; x of an own class, y of a built-in one -/
structure OthC (K : PySem.W.Frag) (C : Addr) : Prop where
  a1 : PySem.W.subIn K (.type "NoneType") (.ref C) = some false
  a2 : PySem.W.subIn K (.type "bool") (.ref C) = some false
  a3 : PySem.W.subIn K (.type "int") (.ref C) = some false
  a4 : PySem.W.subIn K (.type "str") (.ref C) = some false
  a5 : PySem.W.subIn K (.type "tuple") (.ref C) = some false
  a6 : PySem.W.subIn K (.type "list") (.ref C) = some false
theorem OthC.of {K : PySem.W.Frag} {C : Addr} (h : OthC K C) {d : D} {t : String} (e : tyD d = some t) : PySem.W.subIn K (.type t) (.ref C) = some false := by
  cases d with
  | non => cases e; exact h.a1
  | bl _ => cases e; exact h.a2
  | int _ => cases e; exact h.a3
  | str _ => cases e; exact h.a4
  | tup _ => cases e; exact h.a5
  | lst _ => cases e; exact h.a6
  | scr _ => cases e; exact h.a6
  | obj _ _ => cases e
  | err _ _ _ _ => cases e
  | cls _ => cases e
  | dct _ _ => cases e
  | fn _ => cases e
section
open PySem.W
variable {prog : Program} {w : World} {A : Around} {E : Value → Shared → Prop} {s : Shared} {K : PySem.W.Frag} {x C f : Addr} {ox : Obj} {od : Option Obj} {b tb : Value}
theorem ne_KT {Q : Value → Shared → Prop} (hu : A.units + 1 < cLine) (X : K.In s.heap) (I : InstAt s.heap x ox C od) (hb : Looks (model prog w) s.heap (typeOf b) tb) (hsub : subIn K tb (.ref C) = some false) (hm : mroIn K C (.type "object") = some true)
    (hn : findIn K (.ref C) "__ne__" = some (some (.builtin "object.__ne__"))) (hs : findIn K (.ref C) "__eq__" = some (some (.ref f))) (hf : isFn K (.ref f) = true)
    (h : wpAny (model prog w) A.in1 (call (.ref f) [.ref x, b]) (fun v s' => ∃ k, v = .bool k ∧ Q (.bool (!k)) s') E s) : wpAny (model prog w) A (richCompare .NotEq (.ref x) b) Q E s := by
  have one : wpAny (model prog w) A (tryCompare (.ref x) "__ne__" b) (fun r s' => ∃ v, r = some v ∧ Q v s') E s := by
    unfold tryCompare
    refine wpAny_bind (ifBound_objNe X I hn (wpAny_call (codeAny_call_builtin F.cmp_object.ne.plain F.cmpEntry_ne (PySem.W.check_slot F.cmpKind_ne F.cmpSplit_ne (I.type.andThen (PySem.W.looks_mroIn X hm)) (F.cmpArgs_ne _ _) (entry_objNe (A := A.in1) hu X I hs hf (wpAny_mono h (fun v s' hv => ?_) fun _ _ e => e))))))
    obtain ⟨k, rfl, hq⟩ := hv
    exact ⟨k, rfl, wpAny_pure ⟨_, rfl, hq⟩⟩
  unfold richCompare
  simp only [oneThing_ref]
  refine wpAny_holding (wpAny_bind (wpAny_cRoomFor (Nat.lt_of_succ_lt hu) ?_))
  rw [cmpInfo_NotEq]
  dsimp only
  refine wpAny_bind (I.type.here (wpAny_bind (hb.here ?_)))
  split
  · refine wpAny_bind ((looks_subIn X hsub).here ?_)
    simp only [Bool.false_eq_true, if_false]
    refine wpAny_bind (wpAny_mono one (fun r s' z => ?_) fun _ _ e => e)
    obtain ⟨v, rfl, hq⟩ := z
    exact wpAny_pure hq
  · refine wpAny_bind (wpAny_pure ?_)
    simp only [Bool.false_eq_true, if_false]
    refine wpAny_bind (wpAny_mono one (fun r s' z => ?_) fun _ _ e => e)
    obtain ⟨v, rfl, hq⟩ := z
    exact wpAny_pure hq
end
section
variable {X : Cx} {T : Tab} {C g : Addr} {fd : FuncData} {ps : List Str} {k cn : Nat} {c : Ct} {fn : List Str} {ds es : List D} {d : D} {cs : List Cell} {w2 : W2} {t : String}
theorem cop_ownEqD {sp : Sp} (O : OthC X.K C) (G : FnOk X.prog X.w X.K X.mg X.base CX0 k g fd ps sp) (hr : Room k X.A) (hb : Binds X.K fd ps []) (hs : PySem.W.findIn X.K (.ref C) "__eq__" = some (some (.ref g))) (hf : PySem.W.isFn X.K (.ref g) = true) :
    OpR X (compareOp .Eq) (fun x y H Q => ∃ a dx fs t, x = .ref a ∧ H a = some (.ins C dx fs) ∧ TyX X.K H y (.type t) ∧ PySem.W.subIn X.K (.type t) (.ref C) = some false ∧ sp [x, y] H Q E0) := by
  intro pins s σ H x y v u Q I rx ry h
  obtain ⟨a, dx, fs, t, rfl, ea, ty, hsub, hsp⟩ := h
  cases rx
  obtain ⟨mA, J, _⟩ := ins_get I.hok ea
  obtain ⟨od, J, _⟩ := J.look
  obtain ⟨Pk, kx, pk, _⟩ := kit_of I ry ty
  obtain ⟨m, hF⟩ := I.fr
  exact PySem.W.cmp_K (op := .Eq) (tb := .type t) hr.units0 hF I.ok.mod.kin J (kx.ty _ _ I.kIn pk) (by simp [PySem.W.notFirst, hsub]) hs hf (thn (run_vals (us := [.ref a, u]) (vs := [.ref a, y]) G hr hb I (.cons rfl (.cons ry .nil)) hsp) fun _ _ z => cmpb z)
theorem cop_ownNeD {sp : Sp} (N : NeC X.K C) (G : FnOk X.prog X.w X.K X.mg X.base CX0 k g fd ps sp) (hr : Room (k + 1) X.A) (hb : Binds X.K fd ps []) (hs : PySem.W.findIn X.K (.ref C) "__eq__" = some (some (.ref g))) (hf : PySem.W.isFn X.K (.ref g) = true) :
    OpR X (compareOp .NotEq) (fun x y H Q => ∃ a dx fs t, x = .ref a ∧ H a = some (.ins C dx fs) ∧ TyX X.K H y (.type t) ∧ PySem.W.subIn X.K (.type t) (.ref C) = some false ∧ sp [x, y] H (fun v H' => ∃ b, v = .bl b ∧ Q (.bl (!b)) H') E0) := by
  intro pins s σ H x y v u Q I rx ry h
  obtain ⟨a, dx, fs, t, rfl, ea, ty, hsub, hsp⟩ := h
  cases rx
  obtain ⟨mA, J, _⟩ := ins_get I.hok ea
  obtain ⟨od, J, _⟩ := J.look
  obtain ⟨Pk, kx, pk, _⟩ := kit_of I ry ty
  have hu : X.A.units + 1 < cLine := hr.in1.units0
  show wpAny _ _ (richCompare .NotEq (.ref a) u) _ _ _
  refine ne_KT hu I.kIn J (kx.ty _ _ I.kIn pk) hsub N.mr N.ne hs hf (thn (run_in1 (us := [.ref a, u]) (vs := [.ref a, y]) G hr hb I (.cons rfl (.cons ry .nil)) hsp) fun u s' z => ?_)
  obtain ⟨v, H', I', r, b', rfl, q⟩ := z
  cases (show u = Value.bool b' from r)
  exact ⟨b', rfl, .bl (!b'), H', I', rfl, q⟩
theorem cmp_ownEqD (hT : T cn = some (C, fn)) (O : OthC X.K C) (G : FnOk X.prog X.w X.K X.mg X.base CX0 k g fd ps (spC T X.K c)) (hr : Room k X.A) (hb : Binds X.K fd ps []) (hs : PySem.W.findIn X.K (.ref C) "__eq__" = some (some (.ref g))) (hf : PySem.W.isFn X.K (.ref g) = true)
    {e : D} (ht : tyD e = some t) (hq : c [.dat (.obj cn ds), .dat e] [] (.dat d) []) : CmpD X T .Eq (.dat (.obj cn ds)) (.dat e) cs (.dat d) cs := ⟨_, cop_ownEqD O G hr hb hs hf, fun ad F H v w Q cc r1 r2 q => by
  have s1 := r1
  have s2 := r2
  cases r1 with
  | @obj a C' dx _ fn' vs' _ ht' na e1 hl r =>
    rw [hT] at ht'
    cases ht'
    exact ⟨a, dx, _, t, rfl, e1, tyx_of r2 ht, O.of ht, spC0 (ds := [.obj cn ds, e]) hq cc ⟨s1, s2, trivial⟩ fun v H' x2 c2 r2 => q v H' ad x2 c2 r2⟩⟩
theorem cmp_ownNeD (hT : T cn = some (C, fn)) (N : NeC X.K C) (O : OthC X.K C) (G : FnOk X.prog X.w X.K X.mg X.base CX0 k g fd ps (spC T X.K c)) (hr : Room (k + 1) X.A) (hb : Binds X.K fd ps []) (hs : PySem.W.findIn X.K (.ref C) "__eq__" = some (some (.ref g))) (hf : PySem.W.isFn X.K (.ref g) = true)
    {e : D} {b : Bool} (ht : tyD e = some t) (hq : c [.dat (.obj cn ds), .dat e] [] (.dat (.bl b)) []) : CmpD X T .NotEq (.dat (.obj cn ds)) (.dat e) cs (.dat (.bl (!b))) cs := ⟨_, cop_ownNeD N G hr hb hs hf, fun ad F H v w Q cc r1 r2 q => by
  have s1 := r1
  have s2 := r2
  cases r1 with
  | @obj a C' dx _ fn' vs' _ ht' na e1 hl r =>
    rw [hT] at ht'
    cases ht'
    refine ⟨a, dx, _, t, rfl, e1, tyx_of r2 ht, O.of ht, spC0 (ds := [.obj cn ds, e]) hq cc ⟨s1, s2, trivial⟩ fun v H' x2 c2 r2 => ?_⟩
    cases r2
    exact ⟨b, rfl, q _ H' ad x2 c2 Rep.bl⟩⟩
def isOth : Sl → Bool
  | .dat d => (tyD d).isSome
  | .cel _ => false
def PD (cn : Nat) (s1 s2 : Sl) : Bool := isO cn s1 && isOth s2
theorem isOth_of {s : Sl} (h : isOth s = true) : ∃ d t, s = .dat d ∧ tyD d = some t := by
  cases s with
  | cel _ => cases h
  | dat d => exact ⟨d, (tyD d).get h, rfl, (Option.some_get h).symm⟩
theorem jc_oEqD (hT : T cn = some (C, fn)) (O : OthC X.K C) (G : FnOk X.prog X.w X.K X.mg X.base CX0 k g fd ps (spC T X.K c)) (hr : Room k X.A) (hb : Binds X.K fd ps []) (hs : PySem.W.findIn X.K (.ref C) "__eq__" = some (some (.ref g))) (hf : PySem.W.isFn X.K (.ref g) = true) (h : JCmp X T .Eq w2) :
    JCmp X T .Eq (selW (PD cn) (ownW c) w2) := jc_sel (fun s1 s2 cs R hP ⟨d, hq, hR⟩ => by
  obtain ⟨h1, h2⟩ := Bool.and_eq_true_iff.mp hP
  obtain ⟨ds, rfl⟩ := isO_of h1
  obtain ⟨e, t, rfl, ht⟩ := isOth_of h2
  exact ⟨_, _, cmp_ownEqD hT O G hr hb hs hf ht hq, hR⟩) h
theorem jc_oNeD (hT : T cn = some (C, fn)) (N : NeC X.K C) (O : OthC X.K C) (G : FnOk X.prog X.w X.K X.mg X.base CX0 k g fd ps (spC T X.K c)) (hr : Room (k + 1) X.A) (hb : Binds X.K fd ps []) (hs : PySem.W.findIn X.K (.ref C) "__eq__" = some (some (.ref g))) (hf : PySem.W.isFn X.K (.ref g) = true) (h : JCmp X T .NotEq w2) :
    JCmp X T .NotEq (selW (PD cn) (ownNeW c) w2) := jc_sel (fun s1 s2 cs R hP ⟨b, hq, hR⟩ => by
  obtain ⟨h1, h2⟩ := Bool.and_eq_true_iff.mp hP
  obtain ⟨ds, rfl⟩ := isO_of h1
  obtain ⟨e, t, rfl, ht⟩ := isOth_of h2
  exact ⟨_, _, cmp_ownNeD hT N O G hr hb hs hf ht hq, hR⟩) h
end
/-! ### xs[::-1] of a list -/
section
variable {X : Cx} {T : Tab} {W : WX} {e : Expr} {wa : WpE} {pos p1 p2 p3 : Pos} {k : Nat}
def wRev (wa : WpE) : WpE := fun sl cs R Rx => wa sl cs (fun s c1 => wL c1 s fun ds => R (.dat (.lst ds.reverse)) c1) Rx
theorem je_rev (ha : JE X T W e wa) : JE X T W (.Subscript e (.Slice none none (some (.UnaryOp .USub (.Constant (.int 1) k p1) p2)) p3) pos) (wRev wa) :=
  weak (pe_revL ha) fun σ H Q ⟨ad, F, sl, cs, R, Rx, h0, hw, q, qx⟩ => ⟨ad, F, sl, cs, _, Rx, h0, hw, fun s1 c1 v H1 ad1 hw1 x1 h1 r1 => by
    obtain ⟨ds, hL, hR⟩ := wL_of hw1
    obtain ⟨a, ws, rfl, e1, q0⟩ := rd_lst hL h1.hc r1
    exact ⟨a, ws, rfl, SqL.of e1, fun p hp => new_lst h1.hc q0.rev (fun z H' ad' x2 k2 r2 => q _ c1 z H' ad' hR (x1.trans h1.hc x2) (h1.to x2 k2) r2) hp⟩, qx⟩
end
end Dl

namespace Dl
open PySem L2
/-! ### data without lists -/
mutual
def noL : D → Bool
  | .lst _ => false
  | .tup xs => noLs xs
  | .scr xs => noLs xs
  | .obj _ xs => noLs xs
  | .err _ _ _ xs => noLs xs
  | .dct _ xs => noLs xs
  | _ => true
def noLs : List D → Bool
  | [] => true
  | x :: xs => noL x && noLs xs
end
theorem noLs_all : ∀ {xs : List D}, (∀ d ∈ xs, noL d = true) → noLs xs = true
  | [], _ => rfl
  | x :: xs, h => Bool.and_eq_true_iff.mpr ⟨h x List.mem_cons_self, noLs_all fun d hd => h d (List.mem_cons_of_mem _ hd)⟩
section
variable {T : Tab} {K : PySem.W.Frag} {M M' : Addr → Prop} {H : Hp} {a : Addr} {xs : List V}
mutual
theorem Rep.lift (hM : ∀ b, M' b → M b ∨ b = a) (ha : H a = some (.lst xs)) {v : V} {d : D} (h : Rep T K M H v d) (hd : noL d = true) : Rep T K M' H v d :=
  match h with
  | .non => .non
  | .bl => .bl
  | .int => .int
  | .str => .str
  | .tup h1 h2 => .tup (by
      rcases h1 with ⟨n, h1⟩ | h1
      · refine .inl ⟨fun z => (hM _ z).elim n fun e => ?_, h1⟩
        subst e
        rcases h1 with h1 | ⟨o, h1⟩ <;> rw [ha] at h1 <;> cases h1
      · exact .inr h1) (Reps.lift hM ha h2 hd)
  | .lst _ _ _ => nomatch hd
  | .scr h1 h2 => .scr (by
      rcases h1 with ⟨n, o, h1⟩ | h1
      · refine .inl ⟨fun z => (hM _ z).elim n fun e => ?_, o, h1⟩
        subst e
        rw [ha] at h1
        cases h1
      · exact .inr h1) (Reps.lift hM ha h2 hd)
  | .obj ht hm h1 hl h2 => .obj ht (fun z => (hM _ z).elim hm fun e => by subst e; rw [ha] at h1; cases h1) h1 hl (Reps.lift hM ha h2 hd)
  | .err ht h1 h2 => .err ht (by
      rcases h1 with h1 | ⟨d, e, n, h1, h2⟩
      · exact .inl h1
      · refine .inr ⟨d, e, fun z => (hM _ z).elim n fun e' => ?_, h1, h2⟩
        subst e'
        rw [ha] at h1
        cases h1) (Reps.lift hM ha h2 hd)
  | .cls => .cls
  | .dct n h1 hl h2 => .dct (fun z => (hM _ z).elim n fun e => by subst e; rw [ha] at h1; cases h1) h1 hl (Reps.lift hM ha h2 hd)
  | .fn n m h1 h2 => .fn (fun z => (hM _ z).elim n fun e => by subst e; rw [ha] at h1; cases h1) (fun z => (hM _ z).elim m fun e => by subst e; rw [ha] at h2; cases h2) h1 h2
theorem Reps.lift (hM : ∀ b, M' b → M b ∨ b = a) (ha : H a = some (.lst xs)) {vs : List V} {ds : List D} (h : Reps T K M H vs ds) (hd : noLs ds = true) : Reps T K M' H vs ds :=
  match h with
  | .nil => .nil
  | .cons h1 h2 => .cons (Rep.lift hM ha h1 (Bool.and_eq_true_iff.mp hd).1) (Reps.lift hM ha h2 (Bool.and_eq_true_iff.mp hd).2)
end
end
/-! ### C(xs), xs a list that will be changed: read there, not kept -/
section
variable {X : Cx} {T : Tab} {W : WX} {e : Expr} {we : WpE} {pos p : Pos} {c : Ct} {k : Nat} {fd : FuncData} {ps : List Str} {y : Str} {C g : Addr} {fn : List Str} {cn : Nat}
theorem mk_thenF {K : PySem.W.Frag} {ad : List Addr} {F : Addr → Prop} {H : Hp} {cs : List Cell} {Q : VK} {E : XK} {x dx a : Addr} {j : Nat} {es ds : List D} (hT : T cn = some (C, fn)) (h : HoldC T K ad F H cs) (ha : ad[j]? = some a) (hj : cs[j]? = some (.lst es)) (hx : H x = none) (hdx : H dx = none) (ne : dx ≠ x)
    (hq : c (.cel 0 :: [Sl.dat (.lst es)]) [.ins cn []] (.dat .non) [.ins cn (fn.zip ds)]) (hl : ds.length = fn.length) (hn : noLs ds = true) (q : ∀ H', Ext ad F H ad H' → HoldC T K ad F H' cs → Rep T K (Mm ad F) H' (.ref x) (.obj cn ds) → Q (.ref x) H') :
    spC T K c [.ref x, .ref a] (upd (upd H dx (.own x)) x (.ins C dx [])) (fun v H2 => v = .non ∧ Q (.ref x) H2) E := by
  obtain ⟨vs, e1, rv⟩ := h.ce j a _ ha hj
  have ma : a ∈ ad := List.mem_of_getElem? ha
  have na : ¬ Mm [] (Fk ad F a) a := fun z => by
    rcases z with z | z | z
    · cases z
    · exact h.fr a ma z
    · exact z.2 rfl
  have sub : ∀ b, Mm [] (Fk ad F a) b → Mm ad F b := fun b z => by
    rcases z with z | z | z
    · cases z
    · exact .inr z
    · exact .inl z.1
  have kp0 : Kp (Mm ad F) H (Mm [] (Fk ad F a)) H := fun b o e n => ⟨e, fun z => n (sub b z)⟩
  have h0 : HoldC T K [] (Fk ad F a) H [] := ⟨List.nodup_nil, (fun _ z => nomatch z), fun b z => by
    rcases z with z | z
    · exact h.al b z
    · exact h.mem z.1, h.tb.to (fun _ z => .inl z) fun b z => z.imp id fun y => h.isx y.1, rfl, (fun _ _ _ e => nomatch e)⟩
  have r0 : Reps T K (Mm [] (Fk ad F a)) H [.ref a] [.lst es] := .cons (.lst na e1 (rv.kp kp0)) .nil
  refine mk_then (args := [.lst es]) hT h0 r0 hx hdx ne hq hl fun H' x1 c1 r1 => ?_
  have ea : H' a = some (.lst vs) := x1.keep a _ e1 na
  have kp1 : Kp (Mm ad F) H (Mm ad F) H' := fun b o e n => ⟨x1.keep b o e fun z => n (sub b z), n⟩
  have same : ∀ b ∈ ad, H' b = H b := fun b hb => by
    by_cases z : b = a
    · subst z
      rw [ea, e1]
    · obtain ⟨o, eo, n1, _⟩ := h.is hb
      rw [(x1.frm b (.inr ⟨hb, z⟩)).eq eo n1, eo]
  have x2 : Ext ad F H ad H' := ⟨⟨[], by simp, (fun _ z => nomatch z)⟩, fun b o e n => (kp1 b o e n).1, fun b fb => x1.frm b (.inl fb)⟩
  have c2 : HoldC T K ad F H' cs := ⟨h.nd, h.fr, fun b fb => by
    obtain ⟨o, e⟩ := h.al b fb
    exact (x1.frm b (.inl fb)).ex ⟨o, e⟩, h.tb.back (fun _ z => .inl z) c1.tb, h.ln, fun i b cc i1 i2 => (h.ce i b cc i1 i2).kp kp1 (same b (List.mem_of_getElem? i1))⟩
  refine q H' x2 c2 (Rep.lift (a := a) (xs := vs) (fun b z => ?_) ea r1 hn)
  rcases z with z | z
  · by_cases e : b = a
    · exact .inr e
    · exact .inl (.inr (.inr ⟨z, e⟩))
  · exact .inl (.inr (.inl z))
def makeFW (cn : Nat) (fn : List Str) (c : Ct) (s : Sl) (cs : List Cell) (R : RV) : Prop := match s with
  | .dat d => makeW cn fn c [d] cs R
  | .cel j => match cs[j]? with
    | some (.lst es) => ∃ ds : List D, c (.cel 0 :: [Sl.dat (.lst es)]) [.ins cn []] (.dat .non) [.ins cn (fn.zip ds)] ∧ ds.length = fn.length ∧ noLs ds = true ∧ R (.dat (.obj cn ds)) cs
    | _ => False
def wMakeF (cn : Nat) (fn : List Str) (c : Ct) (we : WpE) : WpE := fun sl cs R Rx => we sl cs (fun s c1 => makeFW cn fn c s c1 R) Rx
theorem je_makeF (hT : T cn = some (C, fn)) (M : Mk X.K C g) (G : FnOk X.prog X.w X.K X.mg X.base CX0 k g fd ps (spC T X.K c)) (hr : Room (k + 1) X.A) (hm : X.mg y = some (.ref C)) (hb : Binds X.K fd ps []) (he : JE X T W e we) (hg : Gl X y := by rfl) (hdb : (y == ("__debug__" : Str)) = false := by decide)
    (hs : starEach [e] X.env = (false, eval e X.env) :: starEach [] X.env := by rfl) (hpl : (backTo pos (starEach [] X.env)).any (·.1) = false := by rfl) : JE X T W (.Call (.Name y p) [e] [] pos) (wMakeF cn fn c we) :=
  weak (pe_make M G hr hg hm hb .nil pass0 (ja_cons he ja_nil hs) hdb hs hpl) fun σ H Q ⟨ad, F, sl, cs, R, Rx, h0, hw, q, qx⟩ => ⟨ad, F, sl, cs, (fun ss c1 => match ss with
      | [s] => makeFW cn fn c s c1 R
      | _ => False), Rx, h0, hw, fun ss c1 ws H1 ad1 hw1 x1 h1 r1 => by
    match ss, ws, r1, hw1 with
    | [s], [v], r1, hw1 =>
      have hw1 : makeFW cn fn c s c1 R := hw1
      intro x dx hx hdx ne
      show spC T X.K c (V.ref x :: ([v] ++ [])) _ _ E0
      rw [List.append_nil]
      match s, r1, hw1 with
      | .dat d, r1, hw1 =>
        obtain ⟨ds, hq, hl, hR⟩ := hw1
        exact mk_then (args := [d]) hT h1.hc (.cons r1.1 .nil) hx hdx ne hq hl fun H' x3 c3 r3 => q _ c1 (.ref x) H' ad1 hR (x1.trans h1.hc x3) (h1.to x3 c3) r3
      | .cel j, r1, hw1 =>
        have hw1 : (match c1[j]? with
          | some (.lst es) => ∃ ds : List D, c (.cel 0 :: [Sl.dat (.lst es)]) [.ins cn []] (.dat .non) [.ins cn (fn.zip ds)] ∧ ds.length = fn.length ∧ noLs ds = true ∧ R (.dat (.obj cn ds)) c1
          | _ => False) := hw1
        split at hw1
        · rename_i es hj
          obtain ⟨ds, hq, hl, hn, hR⟩ := hw1
          obtain ⟨a, ha, rfl⟩ := r1.1
          exact mk_thenF hT h1.hc ha hj hx hdx ne hq hl hn fun H' x3 c3 r3 => q _ c1 (.ref x) H' ad1 hR (x1.trans h1.hc x3) (h1.to x3 c3) r3
        · exact hw1.elim, qx⟩
end
/-! ### xs.clear() -/
section
variable {X : Cx} {T : Tab} {W : WX} {o : Expr} {wo : WpE} {pos apos : Pos}
def clrW (s : Sl) (cs : List Cell) (R : RV) : Prop := match s with
  | .cel j => match cs[j]? with
    | some (.lst _) => R (.dat .non) (cs.set j (.lst []))
    | _ => False
  | _ => False
def wClr (wo : WpE) : WpE := fun sl cs R Rx => wo sl cs (fun s c1 => clrW s c1 R) Rx
theorem je_clear (ho : JE X T W o wo) (hb : attributeBase o "clear" X.env (eval o X.env) = eval o X.env := by rfl) (hl : (apos.endLine == pos.line) = true := by rfl) : JE X T W (.Call (.Attribute o "clear" apos) [] [] pos) (wClr wo) :=
  weak (pe_bm0 PySem.F.plainAttrs_list PySem.F.slot_list_clear PySem.F.type_list_clear mt_clear ho hb hl) fun σ H Q ⟨ad, F, sl, cs, R, Rx, h0, hw, q, qx⟩ => ⟨ad, F, sl, cs, _, Rx, h0, hw, fun s c1 v H1 ad1 hw1 x1 h1 r1 => by
    unfold clrW at hw1
    split at hw1
    · rename_i j
      split at hw1
      · rename_i ds hk
        obtain ⟨l, el, rfl⟩ := r1
        obtain ⟨vs0, e0, q0⟩ := h1.hc.ce j l _ el hk
        refine ⟨.inl ⟨rfl, vs0, SqL.of e0⟩, l, vs0, rfl, rfl, e0, ?_⟩
        obtain ⟨k4, x4⟩ := h1.hc.setc (o := .lst []) (c := .lst []) el ⟨[], upd_same, .nil⟩
        exact q _ _ .non _ ad1 hw1 (x1.trans h1.hc x4) (h1.to x4 k4) Rep.non
      · exact hw1.elim
    · exact hw1.elim, qx⟩
end
end Dl

namespace Dl
open PySem L2
/-! ### a test in which the last cell, a list, is only read -/
def noLc : Cell → Bool
  | .lst ds => noLs ds
  | _ => false
section
variable {X : Cx} {T : Tab} {W : WX} {e : Expr} {wt : WpT}
theorem hold_frz {K : PySem.W.Frag} {S : Sta} {ad : List Addr} {F : Addr → Prop} {σ : St} {H : Hp} {m : Nat} {ds : List D} (h0 : Hold T K S ad F σ H) (hc : S.cs[m]? = some (.lst ds)) : Hold T K ⟨S.sl.map (frzS m ds), S.cs.take m⟩ (ad.take m) F σ H := by
  have kp : Kp (Mm ad F) H (Mm (ad.take m) F) H := fun a o e z => ⟨e, fun y => z (y.imp List.mem_of_mem_take id)⟩
  have ml : m < ad.length := by rw [h0.hc.ln]; exact (List.getElem?_eq_some_iff.mp hc).1
  refine ⟨h0.hc.take m, by rw [h0.sz]; simp, fun i s e => ?_⟩
  have e : (S.sl.map (frzS m ds))[i]? = some (some s) := e
  rw [List.getElem?_map] at e
  cases e1 : S.sl[i]? with
  | none => rw [e1] at e; cases e
  | some o =>
    rw [e1] at e
    have e : frzS m ds o = some s := by simpa using e
    cases o with
    | none => cases e
    | some s0 =>
      obtain ⟨v, hv, r⟩ := h0.sl i s0 e1
      cases s0 with
      | dat d =>
        cases e
        exact ⟨v, hv, Rep.kp kp r⟩
      | cel k =>
        obtain ⟨a, ha, rfl⟩ := r
        have e : (if k = m then some (Sl.dat (.lst ds)) else if k < m then some (.cel k) else none) = some s := e
        by_cases z : k = m
        · rw [if_pos z] at e
          cases e
          subst z
          obtain ⟨vs, e2, rv⟩ := h0.hc.ce k a _ ha hc
          refine ⟨_, hv, Rep.lst (fun y => ?_) e2 (rv.kp kp)⟩
          rcases y with y | y
          · obtain ⟨j, hj, ej⟩ := List.getElem_of_mem y
            have hj' : (ad.take k)[j]? = some a := by rw [List.getElem?_eq_getElem hj, ej]
            have hjn : j < k := by rw [List.length_take] at hj; omega
            rw [List.getElem?_take, if_pos hjn] at hj'
            have := ix_inj h0.hc.nd ha hj'
            omega
          · exact h0.hc.fr a (List.mem_of_getElem? ha) y
        · rw [if_neg z] at e
          by_cases y : k < m
          · rw [if_pos y] at e
            cases e
            exact ⟨_, hv, a, by rw [List.getElem?_take, if_pos y]; exact ha, rfl⟩
          · rw [if_neg y] at e
            cases e
def borW (i : Nat) (sl : Sls) (cs : List Cell) (k : Nat → List D → Prop) : Prop := match sl[i]? with
  | some (some (.cel m)) => m + 1 = cs.length ∧ match cs[m]? with
    | some (.lst ds) => k m ds
    | _ => False
  | _ => False
def wBorT (i : Nat) (wt : WpT) : WpT := fun sl cs R _ => borW i sl cs fun m ds => wt (sl.map (frzS m ds)) (cs.take m) (fun b c => c.length = m ∧ c.all noLc = true ∧ R b (c ++ [.lst ds])) noX
theorem jt_bor (i : Nat) (h : JT X T W e wt) : JT X T W e (wBorT i wt) :=
  weakT h fun σ H Q ⟨ad, F, sl, cs, R, Rx, h0, hw, q, qx⟩ => by
    have hw : borW i sl cs fun m ds => wt (sl.map (frzS m ds)) (cs.take m) (fun b c => c.length = m ∧ c.all noLc = true ∧ R b (c ++ [.lst ds])) noX := hw
    unfold borW at hw
    split at hw
    · rename_i m hm
      obtain ⟨hlen, hw⟩ := hw
      split at hw
      · rename_i ds hc
        have h1 := hold_frz (m := m) (ds := ds) h0 hc
        have ml : m < ad.length := by rw [h0.hc.ln]; exact (List.getElem?_eq_some_iff.mp hc).1
        have ha : ad[m]? = some ad[m] := List.getElem?_eq_getElem ml
        obtain ⟨vs, e1, rv⟩ := h0.hc.ce m ad[m] _ ha hc
        have adl : ad.length = m + 1 := by rw [h0.hc.ln]; exact hlen.symm
        have ads : ad = ad.take m ++ [ad[m]] := by
          conv => lhs; rw [← List.take_append_drop m ad]
          rw [List.drop_eq_getElem_cons ml, List.drop_of_length_le (by omega)]
        have nin : ¬ Mm (ad.take m) F ad[m] := fun y => by
          rcases y with y | y
          · obtain ⟨j, hj, ej⟩ := List.getElem_of_mem y
            have hj' : (ad.take m)[j]? = some ad[m] := by rw [List.getElem?_eq_getElem hj, ej]
            have hjn : j < m := by rw [List.length_take] at hj; omega
            rw [List.getElem?_take, if_pos hjn] at hj'
            have := ix_inj h0.hc.nd ha hj'
            omega
          · exact h0.hc.fr _ (List.mem_of_getElem? ha) y
        refine ⟨ad.take m, F, _, _, _, noX, h1, hw, fun b c1 H1 ad1 hR x1 h2 => ?_, Raz.no⟩
        obtain ⟨l1, l2, hR⟩ := hR
        obtain ⟨t, et, _⟩ := x1.pre
        have ad1e : ad1 = ad.take m := by
          have n1 : ad1.length = m := by rw [h2.hc.ln]; exact l1
          have n2 := congrArg List.length et
          rw [List.length_append, List.length_take, n1] at n2
          have : t = [] := List.eq_nil_of_length_eq_zero (by omega)
          rw [et, this, List.append_nil]
        subst ad1e
        have sub : ∀ b, Mm (ad.take m) F b → Mm ad F b := fun b z => z.imp List.mem_of_mem_take id
        have ea : H1 ad[m] = some (.lst vs) := x1.keep _ _ e1 nin
        have kp1 : Kp (Mm ad F) H (Mm ad F) H1 := fun b o e n => ⟨x1.keep b o e fun z => n (sub b z), n⟩
        have lft : ∀ b, Mm ad F b → Mm (ad.take m) F b ∨ b = ad[m] := fun b z => by
          rcases z with z | z
          · rw [ads] at z
            rcases List.mem_append.mp z with z | z
            · exact .inl (.inl z)
            · exact .inr (by simpa using z)
          · exact .inl (.inr z)
        have x2 : Ext ad F H ad H1 := ⟨⟨[], by simp, (fun _ z => nomatch z)⟩, fun b o e n => (kp1 b o e n).1, x1.frm⟩
        have c2 : HoldC T X.K ad F H1 (c1 ++ [.lst ds]) := by
          refine ⟨h0.hc.nd, h0.hc.fr, fun b fb => ?_, h2.hc.tb, by rw [adl, List.length_append, l1]; rfl, fun j b cc i1 i2 => ?_⟩
          · obtain ⟨o, eo⟩ := h0.hc.al b fb
            exact (x1.frm b fb).ex ⟨o, eo⟩
          · by_cases jm : j < m
            · rw [List.getElem?_append_left (by rw [l1]; exact jm)] at i2
              have i1' : (ad.take m)[j]? = some b := by rw [List.getElem?_take, if_pos jm]; exact i1
              have ce := h2.hc.ce j b cc i1' i2
              have nc : noLc cc = true := List.all_eq_true.mp l2 cc (List.mem_of_getElem? i2)
              cases cc with
              | lst es =>
                obtain ⟨ws, f1, f2⟩ := ce
                exact ⟨ws, f1, Reps.lift lft ea f2 nc⟩
              | dct _ => cases nc
              | ins _ _ => cases nc
            · have jl : j < m + 1 := by rw [← adl]; exact (List.getElem?_eq_some_iff.mp i1).1
              have jm : j = m := by omega
              subst jm
              rw [List.getElem?_append_right (by rw [l1]; exact Nat.le_refl _), l1, Nat.sub_self] at i2
              cases i2
              rw [ha] at i1
              cases i1
              exact ⟨vs, ea, rv.kp kp1⟩
        exact q b _ H1 ad hR x2 (h0.to x2 c2)
      · exact hw.elim
    · exact hw.elim
end
end Dl

namespace Dl
open PySem L2
/-! ### x(e, ..), x an instance of an own class -/
section
open PySem.W PySem.Calls
variable {M : Model} {A : Around} {E : Value → Shared → Prop} {s : Shared} {pos : Pos} {x C : Addr} {ox : Obj} {Q : Value → Shared → Prop} {env : Env} {e : Expr} {rest : List Expr}
theorem callWith_obj0 {args : List (Bool × Sem Value)} (hp : args.any (·.1) = false) (hd : ox.data = .plain)
    (h : wpAny M A (evalArgs (.ref x) true args []) (fun b s1 => (∃ od, InstAt s1.heap x ox C od) ∧ wpAny M A (call (.ref x) b.pos b.kw) Q E s1) E s) : wpAny M A (callWith pos (.ref x) [] args []) Q E s := by
  unfold callWith
  have pl : (args.any (·.1) || ([] : List (Option Str × Sem Value)).any (·.1.isNone)) = false := by rw [hp]; rfl
  refine wpAny_bind (wpAny_holding (wpAny_mono h (fun b s1 hb => ?_) (fun _ _ z => z)))
  obtain ⟨⟨od, J⟩, hc⟩ := hb
  refine wpAny_bind (wpAny_standAt ?_)
  simp only [pl]
  refine wpAny_bind ((kco_keeper (M := M) J hd).here (wpAny_bind (wpAny_mono (wpAny_operateT (by simpa using hc)) (fun r s2 hr => ?_) (fun _ _ z => z))))
  exact wpAny_bind (wpAny_holding (wpAny_point (wpAny_pure hr)))
end
section
variable {X : Cx} {x : Str} {p pos : Pos} {e : Expr} {es : List Expr}
def tCallO (C : Addr) (sp : Sp) (E : St → XK) (to : TE) (t : TA) : TE := fun σ H Q => to σ H fun v H1 => ∃ a dx fs, v = .ref a ∧ H1 a = some (.ins C dx fs) ∧ t σ H1 fun vs H2 => (∃ fs', H2 a = some (.ins C dx fs')) ∧ sp (.ref a :: vs) H2 Q (E σ)
theorem pe_callO {CX : CXT} {C g : Addr} {k : Nat} {fd : FuncData} {ps : List Str} {sp : Sp} {E : St → XK} {to : TE} {t : TA} (ho : PE X (.Name x p) to) (hs : PySem.W.findIn X.K (.ref C) "__call__" = some (some (.ref g))) (hf : PySem.W.isFn X.K (.ref g) = true) (hfn : PySem.W.fnIn X.K g = true)
    (G : FnOk X.prog X.w X.K X.mg X.base CX k g fd ps sp) (hr : Room k X.A) (hb : Binds X.K fd ps []) (hx : ∀ σ, PassesAt CX X σ (E σ)) (ha : PA X (e :: es) t) (h1 : starEach (e :: es) X.env = (false, eval e X.env) :: starEach es X.env) (h2 : (backTo pos (starEach es X.env)).any (·.1) = false) :
    PE X (.Call (.Name x p) (e :: es) [] pos) (tCallO C sp E to t) := ⟨fun pins s σ H Q I h => by
  refine wpAny_Call_Name_kw (thn (ho.run pins s σ H _ I h) fun u s1 z => ?_)
  obtain ⟨v, H1, I1, rv, a, dx, fs, ev, ea, q⟩ := z
  subst ev
  cases (show u = Value.ref a from rv)
  have e1 : backTo pos (starEach (e :: es) X.env) = (false, eval e X.env) :: backTo pos (starEach es X.env) := by rw [h1]; rfl
  show wpAny _ _ (callWith pos (.ref a) [] (backTo pos (starEach (e :: es) X.env)) []) _ _ _
  have ev := thn (ha.run pos pins s1 σ H1 _ I1 q) fun us s2 z => (show (∃ od, PySem.W.InstAt s2.heap a (PySem.W.instObj C dx) C od) ∧ wpAny (model X.prog X.w) X.A (call (.ref a) us) (EP X pins σ Q) X.xe s2 from by
    obtain ⟨vs, H2, I2, r, ⟨fs', e2⟩, q2⟩ := z
    obtain ⟨mA, O, _⟩ := ins_get I2.hok e2
    obtain ⟨od, J, _⟩ := O.look
    refine ⟨⟨_, J⟩, ?_⟩
    have r2 : Vals (.ref a :: vs) (.ref a :: us) := .cons rfl r
    have hl : (Value.ref a :: us).length = ps.length := by rw [← r2.length]; exact G.len _ _ _ _ q2
    have bt := hb s2 (.ref a :: us) I2.kIn (by rw [List.append_nil]; exact hl)
    rw [List.append_nil] at bt
    refine wpAny_call (PySem.W.kco_code I2.kIn J rfl hs hf hfn (codeAny_mono (G.run X.A X.stack s2 H2 ⟨.ref a :: us, []⟩ (.ref a :: us) (.ref a :: vs) Q (E σ) hr I2.env0 bt r2 q2) fun rr s3 hq => ?_))
    match rr, hq with
    | .error er, hq => exact hx σ pins H2 s2 er s3 I2 hq
    | .ok (.ret u), hq => exact I2.after hq
    | .ok .next, hq => exact hq.elim
    | .ok .brk, hq => exact hq.elim
    | .ok .cont, hq => exact hq.elim)
  rw [e1] at ev ⊢
  exact callWith_obj0 (C := C) (by show (false || _) = false; rw [h2]; rfl) rfl (PySem.Calls.evalArgs_plain ev)⟩
end
section
variable {X : Cx} {T : Tab} {W : WX} {x : Str} {p pos : Pos} {e : Expr} {es : List Expr} {wo : WpE} {wA : WpA} {C g : Addr} {k cn : Nat} {fd : FuncData} {ps : List Str} {c : Ct} {cx : CtX} {fn : List Str}
/-- x(..): x data -/
def objW (cn : Nat) (s : Sl) (k : Prop) : Prop := match s with
  | .dat (.obj n _) => n = cn ∧ k
  | _ => False
def wCallO (cn : Nat) (c : Ct) (wo : WpE) (wA : WpA) : WpE := fun sl cs R Rx => wo sl cs (fun s c1 => objW cn s (wA sl c1 (fun ss c2 => callW c (s :: ss) c2 R) Rx)) Rx
def wCallOX (cn : Nat) (c : Ct) (cx : CtX) (wo : WpE) (wA : WpA) : WpE := fun sl cs R Rx => wo sl cs (fun s c1 => objW cn s (wA sl c1 (fun ss c2 => callXW c cx (s :: ss) c2 R Rx) Rx)) Rx
theorem objW_of {s : Sl} {k : Prop} (h : objW cn s k) : ∃ ds, s = .dat (.obj cn ds) ∧ k := by
  unfold objW at h
  split at h
  · obtain ⟨rfl, h⟩ := h
    exact ⟨_, rfl, h⟩
  · exact h.elim
theorem je_callO (hT : T cn = some (C, fn)) (hs : PySem.W.findIn X.K (.ref C) "__call__" = some (some (.ref g))) (hf : PySem.W.isFn X.K (.ref g) = true) (hfn : PySem.W.fnIn X.K g = true) (G : FnOk X.prog X.w X.K X.mg X.base CX0 k g fd ps (spC T X.K c)) (hr : Room k X.A) (hb : Binds X.K fd ps []) (he : JE X T W (.Name x p) wo) (ha : JA X T W (e :: es) wA)
    (h1 : starEach (e :: es) X.env = (false, eval e X.env) :: starEach es X.env := by rfl) (h2 : (backTo pos (starEach es X.env)).any (·.1) = false := by rfl) : JE X T W (.Call (.Name x p) (e :: es) [] pos) (wCallO cn c wo wA) :=
  weak (pe_callO (E := fun _ => E0) he hs hf hfn G hr hb (fun σ => pass_no) ha h1 h2) fun σ H Q ⟨ad, F, sl, cs, R, Rx, h0, hw, q, qx⟩ => ⟨ad, F, sl, cs, _, Rx, h0, hw, fun s c1 v H1 ad1 hw1 x1 h1 r1 => by
    obtain ⟨ds, rfl, hw1⟩ := objW_of hw1
    have r0 := r1
    cases r1 with
    | @obj a C' dx _ fn' vs' _ ht na e1 hl r =>
      rw [hT] at ht
      cases ht
      refine ⟨a, dx, _, rfl, e1, ad1, F, sl, c1, _, Rx, h1, hw1, fun ss c2 vs H2 ad2 hw2 x2 h2 r2 => ⟨⟨_, (x2.kp a _ e1 na).1⟩, ?_⟩, qx.on x1 h1⟩
      exact callW_then (ss := .dat (.obj cn ds) :: ss) h2.hc ⟨SlRep.ext (s := .dat (.obj cn ds)) x2 r0, r2⟩ hw2 fun s' c' v H' ad' hR x3 k3 r3 => q s' c' v H' ad' hR (x1.trans h1.hc (x2.trans h2.hc x3)) (h2.to x3 k3) r3, qx⟩
theorem je_callOX (tk : Takes X W) (hT : T cn = some (C, fn)) (hs : PySem.W.findIn X.K (.ref C) "__call__" = some (some (.ref g))) (hf : PySem.W.isFn X.K (.ref g) = true) (hfn : PySem.W.fnIn X.K g = true) (G : FnOk X.prog X.w X.K X.mg X.base (L2.CX X.prog X.w) k g fd ps (spX T X.K c cx)) (hr : Room k X.A) (hb : Binds X.K fd ps []) (he : JE X T W (.Name x p) wo) (ha : JA X T W (e :: es) wA)
    (h1 : starEach (e :: es) X.env = (false, eval e X.env) :: starEach es X.env := by rfl) (h2 : (backTo pos (starEach es X.env)).any (·.1) = false := by rfl) : JE X T W (.Call (.Name x p) (e :: es) [] pos) (wCallOX cn c cx wo wA) :=
  weak (pe_callO (E := WE W) he hs hf hfn G hr hb (passAt tk) ha h1 h2) fun σ H Q ⟨ad, F, sl, cs, R, Rx, h0, hw, q, qx⟩ => ⟨ad, F, sl, cs, _, Rx, h0, hw, fun s c1 v H1 ad1 hw1 x1 h1 r1 => by
    obtain ⟨ds, rfl, hw1⟩ := objW_of hw1
    have r0 := r1
    cases r1 with
    | @obj a C' dx _ fn' vs' _ ht na e1 hl r =>
      rw [hT] at ht
      cases ht
      refine ⟨a, dx, _, rfl, e1, ad1, F, sl, c1, _, Rx, h1, hw1, fun ss c2 vs H2 ad2 hw2 x2 h2 r2 => ⟨⟨_, (x2.kp a _ e1 na).1⟩, ?_⟩, qx.on x1 h1⟩
      exact callXW_then (ss := .dat (.obj cn ds) :: ss) h2.hc ⟨SlRep.ext (s := .dat (.obj cn ds)) x2 r0, r2⟩ hw2 (fun s' c' v H' ad' hR x3 k3 r3 => q s' c' v H' ad' hR (x1.trans h1.hc (x2.trans h2.hc x3)) (h2.to x3 k3) r3) (fun x c' cls d H' ad' hR x3 k3 er => qx x c' cls d H' ad' hR (x1.trans h1.hc (x2.trans h2.hc x3)) (h2.to x3 k3) er), qx⟩
end
end Dl

namespace Dl
open PySem L2
/-! ### repr of an int -/
section
variable {X : Cx} {T : Tab}
theorem cb_reprI {i : Int} {cs : List Cell} (h : i.natAbs.log2 < 1920) : CalB X T "repr" [.dat (.int i)] cs (.dat (.str (toString i))) cs := ⟨_, _, by decide +kernel, .inl ⟨_, rfl⟩, SkE.call_repr_int, fun ad F H vs Q c r q => by
  match vs, r with
  | [v], r =>
    have r1 := r.1
    cases r1
    exact ⟨i, rfl, h, q _ H ad .refl c Rep.str⟩⟩
def reprIW : WC := fun ss cs R => match ss with
  | [.dat (.int i)] => i.natAbs.log2 < 1920 ∧ R (.dat (.str (toString i))) cs
  | _ => False
theorem jc_reprI : JCall X T "repr" reprIW := ⟨⟨.builtin "repr", by decide +kernel, .inl ⟨_, rfl⟩⟩, fun ss cs R h => by
  unfold reprIW at h
  split at h
  · exact ⟨_, _, cb_reprI h.1, h.2⟩
  · exact h.elim⟩
end
/-! ### list(range(a, b)) -/
section
variable {X : Cx} {T : Tab} {W : WX} {a b : Expr} {wA : WpA} {p p2 pos pos2 : Pos}
def rgD (i j : Int) : List D := (List.range (j - i).toNat).map fun n => D.int (i + (n : Nat))
theorem reps_rg {K : PySem.W.Frag} {M : Addr → Prop} {H : Hp} (i j : Int) : Reps T K M H (rgV i j) (rgD i j) := by
  unfold rgV rgD
  induction List.range (j - i).toNat with
  | nil => exact .nil
  | cons n l ih => exact .cons .int ih
def lrgW (cell : Bool) (ss : List Sl) (cs : List Cell) (R : RV) : Prop := match ss with
  | [.dat (.int i), .dat (.int j)] => RgOk i j ∧ (match cell with
    | true => R (.cel cs.length) (cs ++ [.lst (rgD i j)])
    | false => R (.dat (.lst (rgD i j))) cs)
  | _ => False
def wLrg (cell : Bool) (wA : WpA) : WpE := fun sl cs R Rx => wA sl cs (fun ss c1 => lrgW cell ss c1 R) Rx
theorem je_lrg (cell : Bool) {wa wb : WpE} (hm : X.mg "list" = none) (hm2 : X.mg "range" = none) (ha : JE X T W a wa) (hb : JE X T W b wb) (hc : X.calm = true := by rfl) (hg : Gl X "list" := by rfl) (hg2 : Gl X "range" := by rfl)
    (hs : starEach [.Call (.Name "range" p2) [a, b] [] pos2] X.env = (false, eval (.Call (.Name "range" p2) [a, b] [] pos2) X.env) :: starEach [] X.env := by rfl)
    (hs1 : starEach [a, b] X.env = (false, eval a X.env) :: starEach [b] X.env := by rfl) (hs2 : starEach [b] X.env = (false, eval b X.env) :: starEach [] X.env := by rfl) (hs3 : (backTo pos2 (starEach [b] X.env)).any (·.1) = false := by rfl) :
    JE X T W (.Call (.Name "list" p) [.Call (.Name "range" p2) [a, b] [] pos2] [] pos) (wLrg cell (wCons wa (wCons wb wNil))) :=
  weak (pe_listRg hc hg hm (prg_2 hg2 hm2 ha hb hs1 hs2 hs3) hs) fun σ H Q ⟨ad, F, sl, cs, R, Rx, h0, hw, q, qx⟩ => ⟨ad, F, sl, cs, _, Rx, h0, hw, fun s1 c1 v1 H1 ad1 hw1 x1 h1 r1 => ⟨ad1, F, sl, c1, _, Rx, h1, hw1, fun s2 c2 v2 H2 ad2 hw2 x2 h2 r2 => by
    have hw2 : lrgW cell [s1, s2] c2 R := hw2
    unfold lrgW at hw2
    split at hw2
    · rename_i ii jj heq
      cases heq
      obtain ⟨ok, hR⟩ := hw2
      have r1' : v1 = .int ii := by cases r1; rfl
      have r2' : v2 = .int jj := by cases r2; rfl
      subst r1' r2'
      refine ⟨ii, jj, rfl, rfl, ok, fun p hp => ?_⟩
      have x12 := x1.trans h1.hc x2
      cases cell with
      | true => exact new_lstC h2.hc (reps_rg _ _) (fun z H' ad' x3 k3 r3 => q _ _ z H' ad' hR (x12.trans h2.hc x3) (h2.to x3 k3) r3) hp
      | false => exact new_lst h2.hc (reps_rg _ _) (fun z H' ad' x3 k3 r3 => q _ _ z H' ad' hR (x12.trans h2.hc x3) (h2.to x3 k3) r3) hp
    · exact hw2.elim, qx.on x1 h1⟩, qx⟩
end
end Dl

/-! ### t[::-1] of a tuple -/
namespace HT
open PySem PySem.Spec PyProof.Rows
section
variable {prog : Program} {w : World} {A : Around} {E : Value → Shared → Prop} {s : Shared}
theorem adjustR (n : Nat) : Builtin.Slice.sliceAdjust none none (-1) (n : Int) = ((n : Int) - 1, -1) := by
  have h1 : ((-1 : Int) < 0) := by omega
  unfold Builtin.Slice.sliceAdjust
  simp only [h1, if_true]
theorem placesR (n : Nat) : Builtin.Slice.slicePlaces ((n : Int) - 1) (-1) (-1) = n := by
  unfold Builtin.Slice.slicePlaces
  simp
  try omega
theorem appliedR {sl : Addr} {vl vu vs : Value} {n : Nat} {Q : Int × Int × Nat → Shared → Prop} (hs : s.heap.IsSliceOf sl vl vu vs) (q1 : IsPart vl none) (q2 : IsPart vu none) (q3 : IsPart vs (some (-1))) (h : Q ((n : Int) - 1, -1, n) s) :
    wpAny (model prog w) A (Builtin.Slice.sliceApplied (.ref sl) (pure (n : Int))) Q E s := by
  obtain ⟨os, o1, o2, o3⟩ := id hs
  unfold Builtin.Slice.sliceApplied; unfold Builtin.Slice.sliceFields
  refine wpAny_bind (wpAny_bind (wpAny_field o1 o3 (x := vl) rfl (wpAny_bind (wpAny_field o1 o3 (x := vu) rfl (wpAny_bind (wpAny_field o1 o3 (x := vs) rfl (wpAny_pure ?_)))))))
  refine wpAny_bind (slicePart_ q3 ?_)
  show wpAny _ _ (if (((-1 : Int)) == 0) = true then _ else _) _ _ s
  rw [if_neg (by decide)]
  refine wpAny_bind (slicePart_ q1 (wpAny_bind (slicePart_ q2 (wpAny_bind (wpAny_pure ?_)))))
  show wpAny _ _ (match Builtin.Slice.sliceAdjust none none (-1) (n : Int) with | (l1, h1) => pure (l1, (-1 : Int), Builtin.Slice.slicePlaces l1 h1 (-1))) _ _ s
  rw [adjustR n]
  show wpAny _ _ (pure ((n : Int) - 1, (-1 : Int), Builtin.Slice.slicePlaces ((n : Int) - 1) (-1) (-1))) _ _ s
  rw [placesR]
  exact wpAny_pure h
theorem pickR (xs : Array Value) : ((List.range xs.size).filterMap fun (m : Nat) => xs[(((xs.size : Int) - 1) + (m : Int) * (-1)).toNat]?).toArray = xs.toList.reverse.toArray := by
  congr 1
  have e : ∀ m, m ∈ List.range xs.size → xs[(((xs.size : Int) - 1) + (m : Int) * (-1)).toNat]? = some (xs.toList.reverse[m]?.getD .none) := fun m hm => by
    have hm := List.mem_range.mp hm
    have i : (((xs.size : Int) - 1) + (m : Int) * (-1)).toNat = xs.size - 1 - m := by omega
    rw [i, List.getElem?_reverse (by rw [Array.length_toList]; exact hm), Array.length_toList]
    have k : xs.size - 1 - m < xs.size := by omega
    rw [Array.getElem?_eq_getElem k, List.getElem?_eq_getElem (by rw [Array.length_toList]; exact k)]
    rfl
  have f : ∀ (l : List Nat) (g : Nat → Option Value) (h : Nat → Value), (∀ m ∈ l, g m = some (h m)) → l.filterMap g = l.map h := fun l g h => by
    induction l with
    | nil => intro _; rfl
    | cons x l ih =>
      intro hx
      rw [List.filterMap_cons, hx x List.mem_cons_self, List.map_cons, ih fun m hm => hx m (List.mem_cons_of_mem _ hm)]
  rw [f _ _ _ e]
  apply List.ext_getElem?
  intro m
  rw [List.getElem?_map]
  by_cases hm : m < xs.size
  · rw [List.getElem?_range hm]
    have : m < xs.toList.reverse.length := by rw [List.length_reverse, Array.length_toList]; exact hm
    show some (xs.toList.reverse[m]?.getD .none) = _
    rw [List.getElem?_eq_getElem this]
    rfl
  · rw [List.getElem?_eq_none (by rw [List.length_range]; omega), List.getElem?_eq_none (by rw [List.length_reverse, Array.length_toList]; omega)]
    rfl
theorem getItem_tuple_rev {tt sl : Addr} {items : Array Value} {vl vu vs : Value} {Q : Value → Shared → Prop} (ht : IsTup s.heap tt items) (hs : s.heap.IsSliceOf sl vl vu vs) (q1 : IsPart vl none) (q2 : IsPart vu none) (q3 : IsPart vs (some (-1)))
    (h : Q (.ref s.heap.objs.size) { s with heap := s.heap.push { cls := .type "tuple", data := .seq items.toList.reverse.toArray } }) (hsz : items.size ≤ sizeLine) : wpAny (model prog w) A (getItem (.ref tt) (.ref sl)) Q E s := by
  have ok : sizeOk (.seq items.toList.reverse.toArray) := by
    show items.toList.reverse.toArray.size ≤ sizeLine
    rw [List.size_toArray, List.length_reverse, Array.length_toList]
    exact hsz
  obtain ⟨os, o1, o2, o3⟩ := id hs
  have tS : s.TypeIs (.ref sl) "slice" := ⟨os, o1, o2⟩
  unfold getItem
  (try with_reducible refine wpAny_holding ?_); (try refine wpAny_bind (wpAny_pure ?_))
  refine wpAny_bind (wpAny_sequenceKey ht.typeIs (by decide) (wpAny_bind (wpAny_callSpecial?_slot (name := Str.ofString "__getitem__") ht.typeIs PyProof.Rows.slot_tuple_getitem (wpAny_call_entry PyProof.Rows.slot_tuple_getitem ht.typeIs entry_tuple_getitem ?_ (args_tuple_getitem _ _)))))
  show wpAny _ _ (Builtin.Tuple.tupleItemsOf (.ref tt) >>= _) _ _ s
  refine wpAny_bind (tupleItemsOf_ ht (wpAny_bind (wpAny_typeOf tS ?_)))
  rw [if_pos (by decide)]
  refine wpAny_bind (appliedR (n := items.size) hs q1 q2 q3 ?_)
  show wpAny _ _ (if ((((items.size : Int) - 1) == 0 && (-1 : Int) == 1 && items.size == items.size) = true) then _ else _) _ _ s
  rw [if_neg (by simp), pickR]
  first
    | exact wpAny_bind (m := Builtin.Tuple.tupleExact _) (wpAny_newObj_type (wpAny_pure ⟨_, rfl, wpAny_pure h⟩) ok)
    | exact wpAny_bind (wpAny_bind (m := Builtin.Tuple.tupleExact _) (wpAny_newObj_type (wpAny_pure (wpAny_pure ⟨_, rfl, wpAny_pure h⟩)) ok))
    | exact wpAny_bind (wpAny_bind (m := Builtin.Tuple.tupleExact _) (wpAny_newObj_type (wpAny_pure ⟨_, rfl, wpAny_pure h⟩) ok))
end
end HT
namespace Dl
open PySem L2 PySem.Spec PyProof.Rows
section
variable {X : Cx} {T : Tab} {W : WX} {e : Expr} {wa : WpE} {pos p1 p2 p3 : Pos} {k : Nat}
def tRevT (K : PySem.W.Frag) (te : TE) : TE := fun σ H Q => te σ H fun x H1 => ∃ a xs, x = .ref a ∧ SqT K H1 a xs ∧ ∀ p, H1 p = none → Q (.ref p) (L2.upd H1 p (.tup xs.reverse))
theorem pe_revT {te : TE} (he : PE X e te) : PE X (.Subscript e (.Slice none none (some (.UnaryOp .USub (.Constant (.int 1) k p1) p2)) p3) pos) (tRevT X.K te) := ⟨fun pins s σ H Q I h => by
  refine Subscript_ (thn (he.run pins s σ H _ I h) fun v s1 z => ?_)
  obtain ⟨x, H1, I1, r1, a, xs, ex, hx, q⟩ := z
  subst ex
  cases r1
  have st : PO X (some (.UnaryOp .USub (.Constant (.int 1) k p1) p2)) (tPart (tUn (rU fun i => .int (-i)) (tC (.int 1)))) := po_some (pe_un un_neg pe_int)
  refine wpAny_Slice (thn (po_none.run pins s1 σ H1 (fun o H2 => o = none ∧ H2 = H1) I1 ⟨rfl, rfl⟩) fun v1 s2 z => ?_)
  obtain ⟨l, H2, I2, q1, e1, e2⟩ := z
  subst e1 e2
  refine thn (po_none.run pins s2 σ H2 (fun o H3 => o = none ∧ H3 = H2) I2 ⟨rfl, rfl⟩) fun v2 s3 z => ?_
  obtain ⟨u, H3, I3, q2, e1, e3⟩ := z
  subst e1 e3
  refine thn (st.run pins s3 σ H3 (fun o H4 => o = some (-1) ∧ H4 = H3) I3 ⟨1, rfl, -1, rfl, rfl, rfl⟩) fun v3 s4 z => ?_
  obtain ⟨o, H4, I4, q3, e1, e4⟩ := z
  subst e1 e4
  have I5 : Inv X pins σ H4 { s4 with heap := s4.heap.push { cls := .type "slice", data := .fields #[v1, v2, v3] } } := I4.kept (t' := s4.toks) fun b ob z => Heap.get?_push_of_some _ z
  obtain ⟨its, r, ht, hz⟩ := I5.tuple hx
  have hlen := r.length
  show wpAny (model X.prog X.w) X.A (subscriptTail e (.Slice none none (some (.UnaryOp .USub (.Constant (.int 1) k p1) p2)) p3) (.ref a) (.ref s4.heap.objs.size)) (EP X pins σ Q) X.xe _
  refine tail_any (ops := [.ref a, .ref s4.heap.objs.size]) ht.typeIs (PyProof.Rows.slot_tuple_getitem.lookup) ?_ (by with_unfolding_all rfl)
  refine HT.getItem_tuple_rev ht (Heap.IsSliceOf.new _ v1 v2 v3) q1 q2 q3 ?_ (by rw [List.size_toArray]; omega)
  refine ⟨.ref _, _, I5.laid (t' := s4.toks) (o := .tup xs.reverse) (fun b ob z => Heap.get?_push_of_some _ z) (Nat.le_refl _) ?_, rfl, q _ (I5.hok.fresh (Nat.le_refl _))⟩
  exact ⟨by rw [List.length_reverse]; exact hz, _, r.reverse, IsTup.new _ _⟩⟩
def wRevT (wa : WpE) : WpE := fun sl cs R Rx => wa sl cs (fun s c1 => match s with
  | .dat (.tup ds) => R (.dat (.tup ds.reverse)) c1
  | _ => False) Rx
theorem je_revT (ha : JE X T W e wa) : JE X T W (.Subscript e (.Slice none none (some (.UnaryOp .USub (.Constant (.int 1) k p1) p2)) p3) pos) (wRevT wa) :=
  weak (pe_revT ha) fun σ H Q ⟨ad, F, sl, cs, R, Rx, h0, hw, q, qx⟩ => ⟨ad, F, sl, cs, _, Rx, h0, hw, fun s1 c1 v H1 ad1 hw1 x1 h1 r1 => by
    split at hw1
    · cases r1 with
      | @tup a vs _ e1 r => exact ⟨a, vs, rfl, e1.sq, fun p hp => new_tup h1.hc r.rev (fun z H' ad' x2 k2 r2 => q _ c1 z H' ad' hw1 (x1.trans h1.hc x2) (h1.to x2 k2) r2) hp⟩
    · exact hw1.elim, qx⟩
end
end Dl

namespace Dl
open PySem L2
/-! ### an int of the module, by its name -/
section
variable {X : Cx} {T : Tab} {W : WX} {x : Str} {pos : Pos} {i : Int}
theorem je_gint (hm : ∃ t, X.mg x = some (.int i t)) (hg : Gl X x := by rfl) (hd : (x == ("__debug__" : Str)) = false := by decide) : JE X T W (.Name x pos) (wCon (.int i)) := by
  obtain ⟨t, hm⟩ := hm
  exact weak (pe_glob (v := .int i) hg hm ⟨t, rfl⟩ hd) fun σ H Q ⟨ad, F, sl, cs, R, Rx, h0, hw, q, qx⟩ => q _ cs _ H ad hw .refl h0 Rep.int
end
end Dl

namespace Dl
open PySem L2
/-! ### constructors that may raise -/
section
variable {X : Cx} {T : Tab} {W : WX} {e : Expr} {es : List Expr} {kws : List Keyword} {pos p : Pos} {wA wK : WpA} {c : Ct} {cx : CtX} {k pn : Nat} {fd : FuncData} {ps ks : List Str} {y : Str} {C g : Addr} {fn : List Str} {cn : Nat} {gg : List Value → List Value → List Value} {gV : List V → List V → List V} {fu : List D → List D → List D}
/-- __init__ with the slots at hand: what it raises may be told by them -/
theorem run_mkS {CX : CXT} {sp : Sp} {E : XK} {pins : List (Addr × Obj)} {σ : St} {H : Hp} {sh : Shared} {Q : VK} {us ws : List Value} {vs zs : List V} (M : Mk X.K C g) (G : FnOk X.prog X.w X.K X.mg X.base CX k g fd ps sp) (hr : Room (k + 1) X.A) (hb : KBn X.K fd ps (pn + 1) ks gg gV) (hx : PassesAt CX X σ E)
    (I : Inv X pins σ H sh) (r : Vals vs us) (rz : Vals zs ws) (l1 : vs.length = pn) (l2 : zs.length = ks.length)
    (h : ∀ a b, H a = none → H b = none → b ≠ a → sp (gV (.ref a :: vs) zs) (upd (upd H b (.own a)) a (.ins C b [])) (fun v H2 => v = .non ∧ Q (.ref a) H2) E) :
    wpAny (model X.prog X.w) X.A (call (.ref C) us (ks.zip ws)) (EP X pins σ Q) X.xe sh := by
  let n := sh.heap.objs.size
  have J := Inv.made (C := C) I
  have hs := h (n + 1) n (I.hok.fresh (Nat.le_succ n)) (I.hok.fresh (Nat.le_refl n)) (Nat.ne_of_lt (Nat.lt_succ_self n))
  have rs := hb.rel (show Vals (V.ref (n + 1) :: vs) (Value.ref (n + 1) :: us) from .cons rfl r) rz
  have bt := hb.to _ (Value.ref (n + 1) :: us) ws J.kIn (by rw [List.length_cons, ← r.length, l1]) (by rw [← rz.length]; exact l2)
  have run := G.run _ X.stack _ _ ⟨Value.ref (n + 1) :: us, ks.zip ws⟩ _ _ _ E (hr.make C us (ks.zip ws)) (J.env0.make C us (ks.zip ws)) bt rs hs
  refine wpAny_call (make_map (f := g) I.kIn M.makes M.init (beq_iff_eq.mp M.fn) (codeAny_mono run fun o s' z => ?_))
  match o, z with
  | .error v, z => exact hx pins _ _ v s' J z
  | .ok (.ret u), z =>
    obtain ⟨v, H', J', rv, rfl, q⟩ := J.after z
    exact ⟨rv, V.ref (n + 1), H', J', rfl, q⟩
  | .ok .next, z => exact z.elim
  | .ok .brk, z => exact z.elim
  | .ok .cont, z => exact z.elim
def tMkS (C : Addr) (n m : Nat) (sp : Sp) (gV : List V → List V → List V) (E : St → XK) (t tk : TA) : TE := fun σ H Q => t σ H fun vs H1 => tk σ H1 fun zs H2 => vs.length = n ∧ zs.length = m ∧ ∀ a b, H2 a = none → H2 b = none → b ≠ a →
  sp (gV (.ref a :: vs) zs) (upd (upd H2 b (.own a)) a (.ins C b [])) (fun v H3 => v = .non ∧ Q (.ref a) H3) (E σ)
theorem pe_mkS {CX : CXT} {sp : Sp} {E : St → XK} {t tk : TA} (M : Mk X.K C g) (G : FnOk X.prog X.w X.K X.mg X.base CX k g fd ps sp) (hr : Room (k + 1) X.A) (hg : Gl X y) (hm : X.mg y = some (.ref C)) (hb : KBn X.K fd ps (pn + 1) ks gg gV) (hx : ∀ σ, PassesAt CX X σ (E σ)) (ha : PA X (e :: es) t) (hkw : PK X kws tk)
    (hall : (backToKw pos (keywordEach kws X.env)).all (·.1.isSome) = true) (hks : (backToKw pos (keywordEach kws X.env)).filterMap (·.1) = ks) (hdb : (y == ("__debug__" : Str)) = false)
    (he : starEach (e :: es) X.env = (false, eval e X.env) :: starEach es X.env) (hpl : ((backTo pos (starEach (e :: es) X.env)).any (·.1) || (backToKw pos (keywordEach kws X.env)).any (·.1.isNone)) = false) :
    PE X (.Call (.Name y p) (e :: es) kws pos) (tMkS C pn ks.length sp gV E t tk) := by
  constructor
  intro pins sh σ H Q I h
  refine wpAny_Call_Name_kw (ld_glob I hg hm (PySem.W.callWith_KW (h₀ := X.base) I.ok.mod.kin M.kp hall (thn (ha.run pos pins sh σ H _ I h) fun us s1 z1 => ?_) hpl he) hdb)
  obtain ⟨vs, H1, I1, r1, q1⟩ := z1
  refine thn (hkw.run pos pins s1 σ H1 _ I1 q1) fun ws s2 z2 => ?_
  obtain ⟨zs, H2, I2, r2, l1, l2, q2⟩ := z2
  exact ⟨I2.kIn, by rw [hks]; exact run_mkS M G hr hb (hx σ) I2 r1 r2 l1 l2 q2⟩
/-- the call of __init__ raises: the instance is lost -/
theorem mkX_then {K : PySem.W.Frag} {ad : List Addr} {F : Addr → Prop} {H : Hp} {cs : List Cell} {ws : List V} {args : List D} {Q : VK} {E : XK} {x : Exc} {a b : Addr} {c1 : Cell} (hT : T cn = some (C, fn)) (h : HoldC T K ad F H cs) (r : Reps T K (Mm ad F) H ws args) (ha : H a = none) (hb : H b = none) (ne : b ≠ a)
    (hq : cx (.cel 0 :: args.map Sl.dat) [.ins cn []] x [c1]) (q : ∀ cls d H', Ext ad F H ad H' → HoldC T K ad F H' cs → ExRep T K (Mm ad F) H' cls d x → E cls d H') :
    spX T K c cx (.ref a :: ws) (upd (upd H b (.own a)) a (.ins C b [])) Q E := by
  obtain ⟨h1, x1⟩ := h.newo (o := .own a) hb
  have ha1 : upd H b (.own a) a = none := by rw [upd_ne ne.symm]; exact ha
  obtain ⟨h2, x2⟩ := h1.cell (c := .ins cn []) (o := .ins C b []) ha1 ⟨C, fn, b, [], hT, upd_same, rfl, .nil⟩
  have x12 := x1.trans h1 x2
  have hlen : cs.length = ad.length := h.ln.symm
  have ia : (ad ++ [a])[ad.length]? = some a := by rw [List.getElem?_append_right (Nat.le_refl _)]; simp
  have ic : (cs ++ [Cell.ins cn []])[ad.length]? = some (.ins cn []) := by rw [← hlen, List.getElem?_append_right (Nat.le_refl _)]; simp
  have rr : SlReps T K (ad ++ [a]) F (upd (upd H b (.own a)) a (.ins C b [])) (.ref a :: ws) (.cel ad.length :: args.map Sl.dat) := ⟨⟨a, ia, rfl⟩, SlReps.of (r.kp x12.kp)⟩
  have ho : (Sl.cel ad.length :: args.map Sl.dat).all (onlyCell ad.length) = true := by
    rw [List.all_cons, List.all_map]
    simp [onlyCell]
  have hm : (Sl.cel ad.length :: args.map Sl.dat).map low = .cel 0 :: args.map Sl.dat := by
    rw [List.map_cons, List.map_map]
    rfl
  have lr := low_reps ia ho rr
  rw [hm] at lr
  refine .inr ⟨[a], Fk (ad ++ [a]) F a, _, [.ins cn []], x, [c1], frame1 h2 ia ic, lr, hq, fun cls d H' ad' xe hn c3 er => ?_⟩
  have e : ad' = [a] := by
    have z1 : ad'.length = 1 := c3.ln
    have z2 : ad'.take 1 = [a] := xe.pre
    rw [List.take_of_length_le (by omega)] at z2
    exact z2
  subst e
  obtain ⟨c4, x4⟩ := back1 h2 ia xe c3
  have c5 := c4.take ad.length
  have e1 : (ad ++ [a]).take ad.length = ad := by rw [List.take_append_of_le_length (Nat.le_refl _), List.take_length]
  have e2 : ((cs ++ [Cell.ins cn []]).set ad.length c1).take ad.length = cs := by
    rw [List.take_set_of_le (Nat.le_refl _), ← hlen, List.take_append_of_le_length (Nat.le_refl _), List.take_length]
  rw [e1, e2] at c5
  have x14 := x12.trans h2 x4
  refine q cls d H' ⟨⟨[], by simp, fun _ z => nomatch z⟩, x14.keep, x14.frm⟩ c5 ?_
  have out : ∀ z, ¬ Mm [a] (Fk (ad ++ [a]) F a) z → ¬ Mm ad F z := fun z n m => n ((mm_k (List.mem_of_getElem? ia) z).mpr (m.imp (List.mem_append_left _) id))
  obtain ⟨C', fn', t1, t2, er⟩ := er
  refine ⟨C', fn', t1, t2, er.imp id ?_⟩
  rintro ⟨dd, vs', a1, a2, a3, a4, a5⟩
  exact ⟨dd, vs', a1, out dd a2, a3, a4, a5.kp fun z o e n => ⟨e, out z n⟩⟩
def makeXW (cn : Nat) (fn : List Str) (c : Ct) (cx : CtX) (args : List D) (cs : List Cell) (R : RV) (Rx : RX) : Prop := makeW cn fn c args cs R ∨ ∃ x c1, cx (.cel 0 :: args.map Sl.dat) [.ins cn []] x [c1] ∧ Rx x cs
def wMakeKX (cn : Nat) (fn : List Str) (c : Ct) (cx : CtX) (pn kn : Nat) (fu : List D → List D → List D) (wA wK : WpA) : WpE := fun sl cs R Rx => wA sl cs (fun ss c1 => wDats ss fun vs => wK sl c1 (fun zz c2 => wDats zz fun zs => vs.length = pn ∧ zs.length = kn ∧ makeXW cn fn c cx (fu vs zs) c2 R Rx) Rx) Rx
theorem je_makeKX (tk : Takes X W) (hT : T cn = some (C, fn)) (M : Mk X.K C g) (G : FnOk X.prog X.w X.K X.mg X.base (L2.CX X.prog X.w) k g fd ps (spX T X.K c cx)) (hr : Room (k + 1) X.A) (hm : X.mg y = some (.ref C)) (hb : ∃ gg, KBn X.K fd ps (pn + 1) ks gg gV)
    (hp : ∀ vs zs : List D, vs.length = pn → zs.length = ks.length → Put X.K gV vs zs (fu vs zs))
    (ha : JA X T W (e :: es) wA) (hkw : JK X T W kws wK) (hg : Gl X y := by rfl)
    (hall : (backToKw pos (keywordEach kws X.env)).all (·.1.isSome) = true := by rfl) (hks : (backToKw pos (keywordEach kws X.env)).filterMap (·.1) = ks := by rfl) (hdb : (y == ("__debug__" : Str)) = false := by decide)
    (he : starEach (e :: es) X.env = (false, eval e X.env) :: starEach es X.env := by rfl) (hpl : ((backTo pos (starEach (e :: es) X.env)).any (·.1) || (backToKw pos (keywordEach kws X.env)).any (·.1.isNone)) = false := by rfl) :
    JE X T W (.Call (.Name y p) (e :: es) kws pos) (wMakeKX cn fn c cx pn ks.length fu wA wK) := by
  obtain ⟨gg, hb⟩ := hb
  exact weak (pe_mkS (E := WE W) M G hr hg hm hb (passAt tk) ha hkw hall hks hdb he hpl) fun σ H Q ⟨ad, F, sl, cs, R, Rx, h0, hw, q, qx⟩ => ⟨ad, F, sl, cs, _, Rx, h0, hw, fun ss c1 ws H1 ad1 hw1 x1 h1 r1 => by
    have hw1' := wDats_of hw1
    clear hw1
    obtain ⟨args, e0, hw1⟩ := hw1'
    subst e0
    refine ⟨ad1, F, sl, c1, _, Rx, h1, hw1, fun zz c2 zs H2 ad2 hw2 x2 h2 r2 => ?_, qx.on x1 h1⟩
    obtain ⟨kargs, rfl, l1, l2, hw2⟩ := wDats_of hw2
    have w1 := r1.dats
    have w2 := r2.dats
    refine ⟨by rw [w1.length]; exact l1, by rw [w2.length]; exact l2, fun a b ha hb ne => ?_⟩
    obtain ⟨us, e1, e2⟩ := hp args kargs l1 l2 (.ref a) ws zs w1.length w2.length
    rw [e1]
    have rr := e2 _ _ _ (w1.kp x2.kp) w2
    rcases hw2 with ⟨ds, hq, hl, hR⟩ | ⟨x, c3, hq, hR⟩
    · exact .inl (mk_then hT h2.hc rr ha hb ne hq hl fun H' x3 c3 r3 => q _ c2 (.ref a) H' ad2 hR (x1.trans h1.hc (x2.trans h2.hc x3)) (h2.to x3 c3) r3)
    · exact mkX_then hT h2.hc rr ha hb ne hq fun cls d H' x3 c4 er => qx x c2 cls d H' ad2 hR (x1.trans h1.hc (x2.trans h2.hc x3)) (h2.to x3 c4) er, qx⟩
end
end Dl

namespace Dl
open PySem L2 PySem.Spec PyProof.Rows
/-! ### defs that are called while no repr is under way -/
/-- a def's promise where no container's repr is under way -/
structure FnG (P : Program) (w : World) (K : PySem.W.Frag) (mg : Str → Option Value) (base : Heap) (C : CXT) (k : Nat) (f : Addr) (fd : FuncData) (ps : List Str) (sp : Sp) : Prop where
  ln : ∀ {vs : List V} {H : Hp} {Q : VK} {E : XK}, sp vs H Q E → vs.length = ps.length
  go : ∀ {A : Around} {fs : List Env} {s : Shared} {H : Hp} {as : Args} {us : List Value} {vs : List V} {Q : VK} {E : XK}, A.guards = some [] → Room k A → Env0 P w K mg base A fs s H → BindsTo s fd as (ps.zip us) → Vals vs us → sp vs H Q E →
    codeAny (model P w) A (.call (.ref f) as) (CR C fs P w H s Q E) s
section
variable {P : Program} {w : World} {K : PySem.W.Frag} {mg : Str → Option Value} {base : Heap} {C : CXT} {k : Nat} {f : Addr} {fd : FuncData} {ps N : List Str} {sp sp' : Sp}
theorem FnG.of (F : FnOk P w K mg base C k f fd ps sp) : FnG P w K mg base C k f fd ps sp := ⟨fun h => F.len _ _ _ _ h, fun _ hr e b v h => F.run _ _ _ _ _ _ _ _ _ hr e b v h⟩
theorem FnG.to (F : FnG P w K mg base C k f fd ps sp) (h : ∀ vs H Q E, sp' vs H Q E → sp vs H Q E) : FnG P w K mg base C k f fd ps sp' := ⟨fun q => F.ln (h _ _ _ _ q), fun g hr e b v q => F.go g hr e b v (h _ _ _ _ q)⟩
theorem fn_g {nm qual : Str} {pa : Arguments} {body : List Stmt} {scope : Scope} {dV kV doc pm cdv ct oc : Value} {an od : Option Addr} {osl : Array (Option Value)} (l1 : K.lookup f = some ⟨oc, od, .func (PySem.W.fnOf nm qual pa body scope dV kV doc pm an cdv ct), osl⟩) (l2 : PySem.W.codeIn K cdv qual = true) (Sc : FnScope N ps scope)
    (ln : ∀ {vs : List V} {H : Hp} {Q : VK} {E : XK}, sp vs H Q E → vs.length = ps.length)
    (hb : ∀ (A : Around) (fs : List Env) (s : Shared) (H : Hp) (vs : List V) (Q : VK) (E : XK), A.guards = some [] → Room k (A.deeper (envOfC qual scope s.heap.objs.size f cdv)) → sp vs H Q E → ∃ t, PSs (cxOf C P w K mg base N qual scope f cdv A fs s H E) body t ∧ t { nx := fun _ H' => Q .non H', rt := Q } (L2.start N vs) H) :
    FnG P w K mg base C (k + 1) f (PySem.W.fnOf nm qual pa body scope dV kV doc pm an cdv ct) ps sp := ⟨ln, fun {A fs s H as us vs Q E} g hr e b v h => by
  have ok := e.mod.kin.keeps fun a o z => (e.bs a o z).1
  refine codeAny_call_function hr.depth (ok _ _ l1) rfl Sc.co Sc.gen rfl (PySem.W.codeRec_of ok l2) (b _ _ _ _ ?_)
  refine wpAny_newFunctionEnv_cells Sc.kind (fun y hy => (Sc.par y.1 (List.of_mem_zip (a := y.1) (b := y.2) hy).1).imp id fun q => ⟨q, PySem.W.cellsFrom_some _ _ _ (.inl q)⟩) fun env he s1 x => ?_
  cases he
  refine ⟨(e.mod.nolimit.keeps fun a o z => (e.bs a o z).1).keeps x.toInCall.keep, codeAny_func ?_⟩
  obtain ⟨t, ht, hq⟩ := hb A fs s H vs Q E g (hr.deeper _) h
  refine wpAny_mono (ht.run [] s1 (L2.start N vs) H _ (inv_start Sc hr.hd e (ln h) v x) hq) (fun fl s' z => ?_) fun _ _ z => z
  match fl, z with
  | .ret u, ⟨v, _, H', J, rv, q⟩ => exact ⟨v, H', J.os, J.bare, J.base, J.hok, rv, q⟩
  | .next, ⟨_, H', J, q⟩ => exact ⟨.non, H', J.os, J.bare, J.base, J.hok, rfl, q⟩
  | .brk, ⟨_, _, _, q⟩ => exact q.elim
  | .cont, ⟨_, _, _, q⟩ => exact q.elim⟩
end
section
variable {T : Tab} {P : Program} {w : World} {K : PySem.W.Frag} {mg : Str → Option Value} {base : Heap} {x qual : Str} {st : Stmt} {f : Addr} {fd : FuncData} {N ps : List Str} {k : Nat} {ws : Nat → WS}
theorem fn_JG (F : Fun K x qual st f fd) (Sc : FnScope N ps (defScope st))
    (body : ∀ cdv A outer sh H E, A.guards = some [] → Room k (cx0 P w K mg base N qual st f cdv A outer sh H E).A → ∀ n, JSs (cx0 P w K mg base N qual st f cdv A outer sh H E) T W0 n (defBody st) (ws n)) : FnG P w K mg base CX0 (k + 1) f fd ps (spC T K (ctOf N ps ws)) := by
  obtain ⟨oc, od, kV, doc, pm, an, cdv, ct, osl, rfl, l1, l2⟩ := F.ex
  refine fn_g l1 l2 Sc (fun h => ?_) fun A fs s H vs Q E g hr h => ?_
  · obtain ⟨ad, F', args, cs, s, cs', _, r, hc, _⟩ := h
    rw [r.len, hc.1]
  · obtain ⟨ad, F', args, cs, s0, cs', hc, r, h, q⟩ := h
    have bd : DSs (cx0 P w K mg base N qual st f cdv A fs s H E) T cs.length (st0 N args cs) (defBody st) ((endJ cs.length s0 cs').to W0) := body cdv A fs s H E g hr _ _ _ h.2
    refine ⟨_, PSs.nox bd, ad, F', Nat.le_of_eq hc.ln.symm, start_hold hc r, ?_, ?_, fun _ _ _ _ _ _ _ z => z.elim, fun _ _ _ _ _ _ _ z => z.elim, fun _ _ _ _ _ _ _ _ _ _ _ z => z.elim⟩
    · rintro S' σ' H' ad' x hn h' ⟨rfl, e⟩
      subst e
      exact q .non H' (ad'.take cs.length) (ext_take x) (by rw [List.length_take]; omega) (h'.hc.take _) Rep.non
    · rintro s2 cs2 v H' ad' x hn c2 r2 ⟨rfl, rfl⟩
      exact q v H' ad' x hn c2 r2
end
/-! ### calls of such defs -/
section
variable {X : Cx} {T : Tab} {W : WX} {e : Expr} {es : List Expr} {pos p : Pos} {wA : WpA} {c : Ct} {k : Nat} {f : Addr} {fd : FuncData} {ps : List Str} {y : Str} {sp : Sp} {E : XK}
theorem run_g {C : CXT} {pins : List (Addr × Obj)} {σ : L2.St} {H : Hp} {s : Shared} {Q : VK} {us : List Value} {vs : List V} (F : FnG X.prog X.w X.K X.mg X.base C k f fd ps sp) (hG : X.A.guards = some []) (hr : Room k X.A) (hb : Binds X.K fd ps []) (hx : Passes C X E)
    (I : Inv X pins σ H s) (r : Vals vs us) (h : sp vs H Q E) : wpAny (model X.prog X.w) X.A (call (.ref f) us) (EP X pins σ Q) X.xe s := by
  have b := hb s us I.kIn (by rw [List.append_nil, ← r.length]; exact F.ln h)
  rw [List.append_nil] at b
  refine wpAny_call (codeAny_mono (F.go hG hr I.env0 b r h) fun z s' q => ?_)
  match z, q with
  | .error e, q => exact hx pins σ H s e s' I q
  | .ok (.ret u), q => exact I.after q
  | .ok .next, q => exact q.elim
  | .ok .brk, q => exact q.elim
  | .ok .cont, q => exact q.elim
theorem pe_callG {C : CXT} {t : TA} (F : FnG X.prog X.w X.K X.mg X.base C k f fd ps sp) (hG : X.A.guards = some []) (hr : Room k X.A) (hg : Gl X y) (hm : X.mg y = some (.ref f)) (hk : PySem.W.keepIn X.K (.ref f) = true) (hb : Binds X.K fd ps []) (hx : Passes C X E) (ha : PA X (e :: es) t)
    (hd : (y == ("__debug__" : Str)) = false) (he : starEach (e :: es) X.env = (false, eval e X.env) :: starEach es X.env) (hp : (backTo pos (starEach es X.env)).any (·.1) = false) : PE X (.Call (.Name y p) (e :: es) [] pos) (fun σ H Q => t σ H fun vs H1 => sp vs H1 Q E) := ⟨fun pins s σ H Q I h =>
  wpAny_Call_Name_kw (ld_glob I hg hm (PySem.W.callWith_K (h₀ := X.base) I.ok.mod.kin hk (thn (ha.run pos pins s σ H _ I h) fun us s1 ⟨vs, H1, I1, r, q⟩ => ⟨I1.kIn, run_g F hG hr hb hx I1 r q⟩) he hp) hd)⟩
theorem je_callG (G : FnG X.prog X.w X.K X.mg X.base CX0 k f fd ps (spC T X.K c)) (hG : X.A.guards = some []) (hr : Room k X.A) (hm : X.mg y = some (.ref f)) (hk : PySem.W.keepIn X.K (.ref f) = true) (hb : Binds X.K fd ps []) (ha : JA X T W (e :: es) wA) (hg : Gl X y := by rfl) (hdb : (y == ("__debug__" : Str)) = false := by decide)
    (he : starEach (e :: es) X.env = (false, eval e X.env) :: starEach es X.env := by rfl) (hpl : (backTo pos (starEach es X.env)).any (·.1) = false := by rfl) : JE X T W (.Call (.Name y p) (e :: es) [] pos) (wFn c wA) :=
  weak (pe_callG (E := E0) G hG hr hg hm hk hb pass0 ha hdb he hpl) fun σ H Q ⟨ad, F, sl, cs, R, Rx, h0, hw, q, qx⟩ => ⟨ad, F, sl, cs, _, Rx, h0, hw, fun ss c1 vs H1 ad1 hw1 x1 h1 r1 =>
    callW_then h1.hc r1 hw1 fun s c2 v H2 ad2 hR x2 h2 r2 => q s c2 v H2 ad2 hR (x1.trans h1.hc x2) (h1.to x2 h2) r2, qx⟩
end
/-! ### repr of data -/
section
variable {X : Cx} {T : Tab}
theorem call_reprD (hG : X.A.guards = some []) (hu : X.A.units + 64 < cLine) : CallR X (.builtin "repr") (fun xs H Q => ∃ v d, xs = [v] ∧ Dp X.K H v d ∧ PyProof.Rows.isDisplay d = true ∧ d.showable = true ∧ d.hasDict = false ∧ d.depth ≤ 60 ∧ d.shown.length ≤ sizeLine ∧ Q (.str d.shown) H) := by
  intro pins s σ H xs us Q I r h
  obtain ⟨v, d, rfl, hd, h1, h2, h3, h4, h5, q⟩ := h
  obtain ⟨u, rfl, ru⟩ := vals1 r
  obtain ⟨as, rd⟩ := Dp.reads I d v u hd ru
  obtain ⟨a, rfl⟩ := PyProof.Rows.isRef_of_reads rd h1
  exact repr_of_reads' rd h2 (PyData.noDict_hsm h3) hG (by omega) (fun _ _ z => z) (fun h' t tk hk => ⟨.str d.shown, H, I.kept hk, ⟨t, rfl⟩, q⟩) h5
def okR (d : D) : Bool := d.plain && d.py.showable && !d.py.hasDict && decide (d.py.depth ≤ 60)
def rprD (d : D) : Str := d.py.shown
theorem cb_reprD {d : D} {cs : List Cell} (hG : X.A.guards = some []) (hu : X.A.units + 64 < cLine) (hd : PyProof.Rows.isDisplay d.py = true) (ho : okR d = true) (hl : (rprD d).length ≤ sizeLine) : CalB X T "repr" [.dat d] cs (.dat (.str (rprD d))) cs := ⟨_, _, by decide +kernel, .inl ⟨_, rfl⟩, call_reprD hG hu, fun ad F H vs Q c r q => by
  match vs, r with
  | [v], r =>
    unfold okR at ho
    simp only [Bool.and_eq_true, Bool.not_eq_true', decide_eq_true_eq] at ho
    exact ⟨v, d.py, rfl, Rep.dp r.1 ho.1.1.1, hd, ho.1.1.2, ho.1.2, ho.2, hl, q _ H ad .refl c Rep.str⟩⟩
/-- repr of an int, a tuple, a list -/
def reprW : WC := fun ss cs R => match ss with
  | [.dat (.int i)] => i.natAbs.log2 < 1920 ∧ R (.dat (.str (toString i))) cs
  | [.dat (.tup ds)] => okR (.tup ds) = true ∧ (rprD (.tup ds)).length ≤ sizeLine ∧ R (.dat (.str (rprD (.tup ds)))) cs
  | [.dat (.lst ds)] => okR (.lst ds) = true ∧ (rprD (.lst ds)).length ≤ sizeLine ∧ R (.dat (.str (rprD (.lst ds)))) cs
  | _ => False
theorem jc_repr (hG : X.A.guards = some []) (hu : X.A.units + 64 < cLine) : JCall X T "repr" reprW := ⟨⟨.builtin "repr", by decide +kernel, .inl ⟨_, rfl⟩⟩, fun ss cs R h => by
  unfold reprW at h
  split at h
  · exact ⟨_, _, cb_reprI h.1, h.2⟩
  · exact ⟨_, _, cb_reprD hG hu rfl h.1 h.2.1, h.2.2⟩
  · exact ⟨_, _, cb_reprD hG hu rfl h.1 h.2.1, h.2.2⟩
  · exact h.elim⟩
end
end Dl

namespace Dl
open PySem L2 PySem.Spec PyProof.Rows
/-! ### the law's own call, where the law's def is one of those of J25 -/
section
variable {P : Program} {w : World} {K : PySem.W.Frag} {mg mb : Str → Option Value} {a : Addr} {s : Shared} {vs : List Value} {H : Hp}
/-- the abstract heap holds the script at most: the rest of the heap serves as the base -/
theorem top_env (KX : K.In s.heap) (n1 : s.heap.Ns mainGlobals mg) (n2 : s.heap.Ns builtinsNs mb) (n3 : ∀ x : Str, x ≠ "__name__" → mb x = bootBuiltins x) (n4 : s.heap.NoLimit) (n5 : s.gens = #[])
    (ha : s.heap.get? a = some { cls := .type "list", data := .seq vs.toArray }) (hok : HOk P w H s.heap) (one : ∀ b, b = a ∨ H b = none) (out : H a = none ∨ K.lookup a = none) :
    ∃ base : Heap, K.In base ∧ base.Ns mainGlobals mg ∧ Env0 P w K mg base callerA [] s H := by
  have ns : ∀ {b : Addr} {m : Str → Option Value}, s.heap.Ns b m → (hidT s.heap H).Ns b m := by
    rintro b m ⟨o, es, ep, e, d, r⟩
    refine ⟨o, es, ep, hidT_get e ((one b).resolve_left fun z => ?_), d, r⟩
    rw [z, ha] at e
    cases e
    exact nomatch (show Data.seq vs.toArray _ = Data.dict es ep from d)
  have kin : K.In (hidT s.heap H) := by
    intro b o e
    refine hidT_get (KX b o e) ?_
    rcases one b with z | z
    · rw [z] at e ⊢
      exact out.resolve_right fun y => by rw [y] at e; cases e
    · exact z
  obtain ⟨mc, l1, l2⟩ := n4
  exact ⟨_, kin, ns n1, rfl, ⟨kin, ns n1, ⟨mb, ns n2, n3⟩, ⟨mc, ns l1, l2⟩⟩, fun _ _ e => of_hidT e, Nat.le_of_eq (hidT_size _ _), trivial, (fun _ z => nomatch z), hok, .of_eq n5⟩
/-- what the law's end says of the heap -/
theorem top_end {s' : Shared} {r : Result} {E : XK} (only : Only H) (hok : HOk P w H s.heap) (h : CR CX0 [] P w H s (fun v _ => v = .bl true) E r s') : r = .ok (.ret (.bool true)) ∧ OldK s.heap s'.heap ∧ s'.os = s.os ∧ AllBare s'.gens := by
  match r, h with
  | .error _, z => exact False.elim z
  | .ok .next, z => exact z.elim
  | .ok .brk, z => exact z.elim
  | .ok .cont, z => exact z.elim
  | .ok (.ret u), ⟨v, H', h1, h2, un, hok', rv, q⟩ =>
    cases (show v = .bl true from q)
    cases (show u = Value.bool true from rv)
    refine ⟨rfl, OldK.of_keep fun b o e => ?_, h1, h2⟩
    rcases only b with z | ⟨ob, xs, z⟩
    · exact un.keep b o e z (fun y => nomatch y) (fun y => nomatch y)
    · have e1 := (hok b _ z).1
      rw [e] at e1
      rw [(hok' b _ (un.frzs b ob _ z)).1, e1]
theorem law_g {k : Nat} {fa : Addr} {fd : FuncData} {x : Str} {sp : Sp} {is : List Int} (KX : K.In s.heap) (n1 : s.heap.Ns mainGlobals mg) (n2 : s.heap.Ns builtinsNs mb) (n3 : ∀ x : Str, x ≠ "__name__" → mb x = bootBuiltins x) (n4 : s.heap.NoLimit) (n5 : s.gens = #[])
    (ha : s.heap.get? a = some { cls := .type "list", data := .seq vs.toArray }) (hi : IntsAre vs is) (hl : is.length ≤ sizeLine) (hr : Room k callerA) (F : ∀ base : Heap, K.In base → base.Ns mainGlobals mg → FnG P w K mg base CX0 k fa fd [x] sp)
    (hb : ∀ (s : Shared) (u : Value), BindsTo s fd ⟨[u], []⟩ [(x, u)]) (hs : ∀ H : Hp, Only H → SqL K H a (is.map V.int) → sp [.ref a] H (fun v _ => v = .bl true) fun _ _ _ => False) :
    codeAny (model P w) callerA (.call (.ref fa) ⟨[.ref a], []⟩) (fun r s' => r = .ok (.ret (.bool true)) ∧ OldK s.heap s'.heap ∧ s'.os = s.os ∧ AllBare s'.gens) s := by
  have fin : ∀ H : Hp, Only H → SqL K H a (is.map V.int) → HOk P w H s.heap → (∀ b, b = a ∨ H b = none) → (H a = none ∨ K.lookup a = none) → codeAny (model P w) callerA (.call (.ref fa) ⟨[.ref a], []⟩) (fun r s' => r = .ok (.ret (.bool true)) ∧ OldK s.heap s'.heap ∧ s'.os = s.os ∧ AllBare s'.gens) s := fun H o1 o2 o3 o4 o5 => by
    obtain ⟨base, b1, b2, b3⟩ := top_env KX n1 n2 n3 n4 n5 ha o3 o4 o5
    exact codeAny_mono ((F base b1 b2).go (us := [.ref a]) (vs := [.ref a]) rfl hr b3 (hb s (.ref a)) (.cons rfl .nil) (hs H o1 o2)) fun r s' z => top_end o1 o3 z
  have rv := vals_ints hi
  cases hk : K.lookup a with
  | some o =>
    have e := KX a o hk
    rw [ha] at e
    cases e
    exact fin (fun _ => none) (fun _ => .inl rfl) (.inr ⟨_, vs.toArray, _, hk, rfl, rfl, rfl, by rw [List.size_toArray, hi.length]; exact hl, by simpa using rv⟩) (fun _ _ z => nomatch (show (none : Option HO) = some _ from z)) (fun _ => .inr rfl) (.inl rfl)
  | none =>
    let H1 : Hp := upd (fun _ => none) a (.frz { cls := .type "list", data := .seq vs.toArray } (.lst (is.map V.int)))
    have no : ∀ b, b ≠ a → H1 b = none := fun b hb => upd_ne hb
    refine fin H1 (fun b => ?_) (.inl (.inr ⟨_, upd_same⟩)) (fun b u z => ?_) (fun b => ?_) (.inr hk)
    · rcases Classical.em (b = a) with h | h
      · exact .inr ⟨_, _, by rw [h]; exact upd_same⟩
      · exact .inl (no b h)
    · rcases Classical.em (b = a) with h | h
      · subst h
        have z' : some _ = some u := upd_same.symm.trans z
        cases z'
        exact ⟨ha, by rw [List.length_map]; exact hl, vs, _, rv, ha⟩
      · rw [no b h] at z
        cases z
    · rcases Classical.em (b = a) with h | h
      · exact .inl h
      · exact .inr (no b h)
end
theorem walk_g {l : PySem.W.OpenLaw} {n k : Nat} {q : Program} {loose : List Str} {XP : (Str → Option Value) → Heap → Prop} {YP : World → Heap → Prop} {d : DefRec} {K : Params → PySem.W.Frag} {sp : World → Sp} {x : Str} (hn : l.most = some n) (hn2 : n ≤ sizeLine) (hdf : d.params.defaults = [])
    (hr : Room k callerA) (hY : ∀ (w : World) (h : Heap), YP w h → (K w.params).In h)
    (F : ∀ (w : World) (mg : Str → Option Value) (fa : Addr) (h : Heap), (K w.params).In h → h.Ns mainGlobals mg → mg d.name = some (.ref fa) → ∃ fd : FuncData, (∀ (s : Shared) (u : Value), BindsTo s fd ⟨[u], []⟩ [(x, u)]) ∧ ∀ base : Heap, (K w.params).In base → base.Ns mainGlobals mg → FnG l.prog w (K w.params) mg base CX0 k fa fd [x] (sp w))
    (hs : ∀ (w : World) (H : Hp) (a : Addr) (ns : List Int), ns.length ≤ n → (∀ z ∈ ns, Builtin.Int.intBits z ≤ 1048576) → Only H → SqL (K w.params) H a (ns.map V.int) → sp w [.ref a] H (fun v _ => v = .bl true) fun _ _ _ => False) :
    PySem.W.WalkO q loose XP YP l.row.toRowW d [] (fun f vs => PySem.call f vs) :=
  Att.attach_callB hn hdf fun w s₀ s₁ mg mb fa o pm cd doc a vs ns G Y ho hd hcd hmg h1 h2 h3 h4 h5 => by
    obtain ⟨fd, hb, hF⟩ := F w mg fa _ (hY w _ Y) G.T.g hmg
    exact law_g (hY w _ Y) G.T.g G.T.b G.T.builtins G.T.nolimit h5 h1 h2 (Nat.le_trans h3 hn2) hr hF hb fun H hO hS => hs w H a ns h3 h4 hO hS
end Dl

namespace Dl
open PySem L2
/-! ### bool(x) -/
section
variable {prog : Program} {w : World} {A : Around} {E : Value → Shared → Prop} {s : Shared}
theorem call_boolT {x : Value} {Q : Value → Shared → Prop} (h : wpAny (model prog w) A.in1.in1 (truthy x) (fun b s' => Q (.bool b) s') E s) : wpAny (model prog w) A (call (.type "bool") [x]) Q E s :=
  PySem.callType_newIn F.called_bool F.newNe_bool (F.typeCall_bool_1 x) (F.newCall_bool_1 x) (fun obj => F.args_object_init_2 obj x) F.entry_bool_new
    (S := fun A R s => wpAny (model prog w) A.in1 (truthy x) (fun b s' => R (.ok (.ret (.bool b))) s') (fun e s' => R (.error e) s') s)
    (MeetsIn.of_wp fun A R s hs => by
      have f1 := F.conv_sub_bool
      repeat (any_goals (first | assumption | (with_reducible refine wpAny_mono hs (fun b s' hb => ?_) fun e s' he => ?_) | wp_step))
      all_goals first | exact ⟨_, rfl, hb⟩ | exact hb | exact he | skip)
    (wpAny_mono h (fun b s' hq => ⟨rfl, hq⟩) fun _ _ z => z)
end
section
variable {X : Cx} {T : Tab} {C g : Addr} {fd : FuncData} {ps : List Str} {k cn : Nat} {c : Ct} {fn : List Str} {ds : List D} {d : D} {cs : List Cell}
theorem run_in2 {pins : List (Addr × Obj)} {σ : St} {H : Hp} {s : Shared} {Q : VK} {us : List Value} {vs : List V} {sp : Sp} (F : FnOk X.prog X.w X.K X.mg X.base CX0 k g fd ps sp) (hr : Room (k + 2) X.A) (hb : Binds X.K fd ps [])
    (I : Inv X pins σ H s) (r : Vals vs us) (h : sp vs H Q E0) : wpAny (model X.prog X.w) X.A.in1.in1 (call (.ref g) us) (EP X pins σ Q) X.xe s := by
  have b := hb s us I.kIn (by rw [List.append_nil, ← r.length]; exact F.len _ _ _ _ h)
  rw [List.append_nil] at b
  have e := I.env0
  refine wpAny_call (codeAny_mono (F.run X.A.in1.in1 X.stack s H ⟨us, []⟩ us vs Q E0 hr.in1.in1 ⟨e.frames, e.mod, e.bs, e.bsz, e.funs, e.frf, e.hok, e.bare⟩ b r h) fun r s' hq => ?_)
  match r, hq with
  | .error _, q => exact False.elim q
  | .ok (.ret u), q => exact I.after q
  | .ok .next, q => exact q.elim
  | .ok .brk, q => exact q.elim
  | .ok .cont, q => exact q.elim
/-- x.__bool__() within a test, two units deeper or none -/
theorem tru_in2 {sp : Sp} (G : FnOk X.prog X.w X.K X.mg X.base CX0 k g fd ps sp) (hr : Room (k + 2) X.A) (hb : Binds X.K fd ps []) (hs : PySem.W.findIn X.K (.ref C) "__bool__" = some (some (.ref g))) (hf : PySem.W.isFn X.K (.ref g) = true) :
    CallR X (.type "bool") (fun xs H Q => ∃ a dx fs, xs = [.ref a] ∧ H a = some (.ins C dx fs) ∧ sp [.ref a] H (fun v H' => ∃ b, v = .bl b ∧ Q (.bl b) H') E0) := by
  intro pins s σ H xs us Q I r h
  obtain ⟨a, dx, fs, rfl, ea, hsp⟩ := h
  obtain ⟨u, rfl, ru⟩ := vals1 r
  cases (show u = Value.ref a from ru)
  obtain ⟨od, J⟩ := inst_get I ea
  obtain ⟨m, hF⟩ := I.fr
  refine call_boolT (PySem.W.truthy_K hF I.ok.mod.kin J hs hf (thn (run_in2 (us := [.ref a]) (vs := [.ref a]) G hr hb I (.cons rfl .nil) hsp) fun u s' z => ?_))
  obtain ⟨v, H', I', r, b, rfl, q⟩ := z
  cases (show u = Value.bool b from r)
  exact ⟨.bl b, H', I', rfl, q⟩
theorem call_boolTup : CallR X (.type "bool") (fun xs H Q => ∃ a zs, xs = [.ref a] ∧ SqT X.K H a zs ∧ Q (.bl (!zs.isEmpty)) H) := by
  intro pins s σ H xs us Q I r h
  obtain ⟨a, zs, rfl, hx, q⟩ := h
  obtain ⟨u, rfl, ru⟩ := vals1 r
  cases (show u = Value.ref a from ru)
  obtain ⟨its, r, pl, hz⟩ := I.tuple hx
  have hl := line63
  have hn := r.length
  exact call_boolT (PyProof.Rows.truthy_tuple pl (by simp only [List.size_toArray]; omega) ⟨.bl _, H, I.tok _, rfl, by rw [isEmpty_of r]; exact q⟩)
theorem cb_boolTup : CalB X T "bool" [.dat (.tup ds)] cs (.dat (.bl (!ds.isEmpty))) cs := ⟨_, _, by decide +kernel, .inr ⟨_, rfl⟩, call_boolTup, fun ad F H vs Q cc r q => by
  match vs, r with
  | [v], r =>
    have r1 := r.1
    cases r1 with
    | @tup a vs _ e1 q1 =>
      have e : vs.isEmpty = ds.isEmpty := by cases q1 <;> rfl
      exact ⟨a, vs, rfl, e1.sq, by rw [e]; exact q _ H ad .refl cc Rep.bl⟩⟩
theorem cb_boolO (hT : T cn = some (C, fn)) (G : FnOk X.prog X.w X.K X.mg X.base CX0 k g fd ps (spC T X.K c)) (hr : Room (k + 2) X.A) (hb : Binds X.K fd ps []) (hs : PySem.W.findIn X.K (.ref C) "__bool__" = some (some (.ref g))) (hf : PySem.W.isFn X.K (.ref g) = true) {b : Bool} (hq : c [.dat (.obj cn ds)] [] (.dat (.bl b)) []) :
    CalB X T "bool" [.dat (.obj cn ds)] cs (.dat (.bl b)) cs := ⟨_, _, by decide +kernel, .inr ⟨_, rfl⟩, tru_in2 G hr hb hs hf, fun ad F H vs Q cc r q => by
  match vs, r with
  | [v], r =>
    have r1 := r.1
    cases r1 with
    | @obj a C' dx _ fn' vs' _ ht na e1 hl r2 =>
      rw [hT] at ht
      cases ht
      refine ⟨a, dx, _, rfl, e1, spC0 (ds := [.obj cn ds]) hq cc ⟨r.1, trivial⟩ fun v H' x2 c2 r2 => ?_⟩
      cases r2
      exact ⟨b, rfl, q _ H' ad x2 c2 Rep.bl⟩⟩
def boolW2 : WC := fun ss cs R => match ss with
  | [.dat (.bl k)] => R (.dat (.bl k)) cs
  | [.dat (.tup ds)] => R (.dat (.bl (!ds.isEmpty))) cs
  | _ => False
theorem jc_bool2 : JCall X T "bool" boolW2 := ⟨⟨.type "bool", by decide +kernel, .inr ⟨_, rfl⟩⟩, fun ss cs R h => by
  unfold boolW2 at h
  split at h
  · exact ⟨_, _, cb_boolB, h⟩
  · exact ⟨_, _, cb_boolTup, h⟩
  · exact h.elim⟩
def boolOW (cn : Nat) (c : Ct) : WC := fun ss cs R => match ss with
  | [s] => match isO cn s with
    | true => ∃ b, c [s] [] (.dat (.bl b)) [] ∧ R (.dat (.bl b)) cs
    | false => boolW2 ss cs R
  | _ => False
theorem jc_boolO (hT : T cn = some (C, fn)) (G : FnOk X.prog X.w X.K X.mg X.base CX0 k g fd ps (spC T X.K c)) (hr : Room (k + 2) X.A) (hb : Binds X.K fd ps []) (hs : PySem.W.findIn X.K (.ref C) "__bool__" = some (some (.ref g))) (hf : PySem.W.isFn X.K (.ref g) = true) : JCall X T "bool" (boolOW cn c) := ⟨⟨.type "bool", by decide +kernel, .inr ⟨_, rfl⟩⟩, fun ss cs R h => by
  unfold boolOW at h
  split at h
  · split at h
    · obtain ⟨ds, rfl⟩ := isO_of ‹_›
      obtain ⟨b, hq, hR⟩ := h
      exact ⟨_, _, cb_boolO hT G hr hb hs hf hq, hR⟩
    · exact jc_bool2.run _ _ _ h
  · exact h.elim⟩
end
end Dl

namespace Dl
open PySem L2
/-! ### C(k = v, ..): no argument by its place -/
section
variable {X : Cx} {T : Tab} {W : WX} {kws : List Keyword} {pos p : Pos} {wK : WpA} {c : Ct} {k : Nat} {fd : FuncData} {ps ks : List Str} {y : Str} {C g : Addr} {fn : List Str} {cn : Nat} {gV : List V → List V → List V} {fu : List D → List D → List D}
theorem je_makeK0 (hT : T cn = some (C, fn)) (M : Mk X.K C g) (G : FnOk X.prog X.w X.K X.mg X.base CX0 k g fd ps (spC T X.K c)) (hr : Room (k + 1) X.A) (hm : X.mg y = some (.ref C)) (hb : ∃ gg, KBn X.K fd ps 1 ks gg gV)
    (hp : ∀ vs zs : List D, vs.length = 0 → zs.length = ks.length → Put X.K gV vs zs (fu vs zs)) (hkw : JK X T W kws wK) (hg : Gl X y := by rfl)
    (hall : (backToKw pos (keywordEach kws X.env)).all (·.1.isSome) = true := by rfl) (hks : (backToKw pos (keywordEach kws X.env)).filterMap (·.1) = ks := by rfl) (hdb : (y == ("__debug__" : Str)) = false := by decide)
    (hpl : ((backTo pos (starEach [] X.env)).any (·.1) || (backToKw pos (keywordEach kws X.env)).any (·.1.isNone)) = false := by rfl) : JE X T W (.Call (.Name y p) [] kws pos) (wMakeK cn fn c 0 ks.length fu wNil wK) := by
  obtain ⟨gg, hb⟩ := hb
  exact weak (pe_makeK0 M G hr hg hm hb pass0 hkw hall hks hdb hpl) fun σ H Q ⟨ad, F, sl, cs, R, Rx, h0, hw, q, qx⟩ => ⟨ad, F, sl, cs, _, Rx, h0, hw, fun zz c2 zs H2 ad2 hw2 x2 h2 r2 => by
    obtain ⟨kargs, rfl, l1, l2, ds, hq, hl, hR⟩ := wDats_of hw2
    have w2 := r2.dats
    refine ⟨rfl, by rw [w2.length]; exact l2, fun x dx hx hdx ne => ?_⟩
    obtain ⟨us, e1, e2⟩ := hp [] kargs rfl l2 (.ref x) [] zs rfl w2.length
    rw [e1]
    exact mk_then hT h2.hc (e2 _ _ _ .nil w2) hx hdx ne hq hl fun H' x3 c3 r3 => q _ c2 (.ref x) H' ad2 hR (x2.trans h2.hc x3) (h2.to x3 c3) r3, qx⟩
end
end Dl

namespace Dl
open PySem L2
/-! ### how long a repr is -/
mutual
def wtD : D → Nat
  | .int i => i.natAbs.log2 + 3
  | .tup xs => wtDs xs + 3
  | .lst xs => wtDs xs + 3
  | .scr xs => wtDs xs + 3
  | .str x => (PySem.reprText x).length
  | _ => 5
def wtDs : List D → Nat
  | [] => 0
  | x :: xs => wtD x + 2 + wtDs xs
end
theorem lenText (i : Int) : (Str.ofString (toString i)).length ≤ i.natAbs.log2 + 3 := by
  have pos : ∀ v : Int, 0 ≤ v → (Str.ofString (toString v)).length ≤ v.natAbs.log2 + 1 := fun v hv => by
    refine PyProof.Rows.toString_length_le hv (Nat.succ_pos _) ?_
    have h1 : v.natAbs < 2 ^ (v.natAbs.log2 + 1) := Nat.lt_log2_self
    have h2 : 2 ^ (v.natAbs.log2 + 1) ≤ 10 ^ (v.natAbs.log2 + 1) := Nat.pow_le_pow_left (by decide) _
    have h3 : v.natAbs < 10 ^ (v.natAbs.log2 + 1) := Nat.lt_of_lt_of_le h1 h2
    have h4 : ((v.natAbs : Nat) : Int) < ((10 ^ (v.natAbs.log2 + 1) : Nat) : Int) := Int.ofNat_lt.mpr h3
    rw [Int.natCast_pow] at h4
    have h5 : ((v.natAbs : Nat) : Int) = v := by omega
    rw [h5] at h4
    exact h4
  rcases Int.lt_or_le i 0 with h | h
  · have := pos (0 - i) (by omega)
    rw [PyProof.Rows.len_text_neg h]
    have e : (0 - i).natAbs = i.natAbs := by omega
    rw [e] at this
    omega
  · have := pos i h
    omega
theorem piled_cons (t : Str) (ts : List Str) : PySem.piled (t :: ts) = t.length + 2 + PySem.piled ts := by simp [PySem.piled]
theorem textFrom_le : ∀ (ts : List Str) (k : Nat) (acc : Str), (PySem.textFrom k acc ts).length ≤ acc.length + PySem.piled ts
  | [], k, acc => by simp [PySem.textFrom]
  | t :: ts, k, acc => by
    have h := textFrom_le ts (k + 1) (acc ++ (if k > 0 then ", " else "" : String) ++ t)
    have e1 : (Str.ofString ", ").length = 2 := by decide
    have e2 : (Str.ofString "").length = 0 := by decide
    rw [piled_cons]
    refine Nat.le_trans h ?_
    have e3 : (acc ++ Str.ofString (if k > 0 then ", " else "" : String) ++ t).length ≤ acc.length + 2 + t.length := by
      rw [Str.length_append, Str.length_append]
      split <;> omega
    have e3' : (acc ++ (if k > 0 then ", " else "" : String) ++ t).length ≤ acc.length + 2 + t.length := e3
    omega
mutual
theorem shown_wt : ∀ d : D, d.py.shown.length ≤ wtD d
  | .non => by decide
  | .bl true => by decide
  | .bl false => by decide
  | .int i => lenText i
  | .str x => Nat.le_refl _
  | .tup xs => by
    have h := showns_wt xs
    have e1 : (Str.ofString "(").length = 1 := by decide
    have e2 : (Str.ofString ",)").length = 2 := by decide
    have e3 : (Str.ofString ")").length = 1 := by decide
    show (PySem.tupleText (PyData.shownAll (D.pys xs))).length ≤ wtDs xs + 3
    cases hx : PyData.shownAll (D.pys xs) with
    | nil => show (PySem.tupleText []).length ≤ _; exact Nat.le_trans (by decide : (PySem.tupleText []).length ≤ 3) (by omega)
    | cons t ts =>
      have hj := PySem.join_length_add (t :: ts) (by simp)
      rw [hx] at h
      unfold PySem.tupleText
      have e4 : (Str.ofString (if (t :: ts).length == 1 then ",)" else ")" : String)).length ≤ 2 := by split <;> omega
      have e5 : (Str.ofString "(" ++ Str.join (Str.ofString ", ") (t :: ts) ++ Str.ofString (if (t :: ts).length == 1 then ",)" else ")" : String)).length ≤ wtDs xs + 3 := by
        rw [Str.length_append, Str.length_append]
        have hj' : (Str.join (Str.ofString ", ") (t :: ts)).length + 2 = PySem.piled (t :: ts) := hj
        omega
      exact e5
  | .lst xs => by
    have h := showns_wt xs
    have h2 := textFrom_le (PyData.shownAll (D.pys xs)) 0 (Str.ofString "[")
    have e1 : (Str.ofString "[").length = 1 := by decide
    have e2 : (Str.ofString "]").length = 1 := by decide
    have e3 : (PySem.textFrom 0 (Str.ofString "[") (PyData.shownAll (D.pys xs)) ++ Str.ofString "]").length ≤ wtDs xs + 3 := by
      rw [Str.length_append]
      omega
    exact e3
  | .scr xs => by
    have h := showns_wt xs
    have h2 := textFrom_le (PyData.shownAll (D.pys xs)) 0 (Str.ofString "[")
    have e1 : (Str.ofString "[").length = 1 := by decide
    have e2 : (Str.ofString "]").length = 1 := by decide
    have e3 : (PySem.textFrom 0 (Str.ofString "[") (PyData.shownAll (D.pys xs)) ++ Str.ofString "]").length ≤ wtDs xs + 3 := by
      rw [Str.length_append]
      omega
    exact e3
  | .obj _ _ => by show (PyData.shown .none).length ≤ 5; decide
  | .err _ _ _ _ => by show (PyData.shown .none).length ≤ 5; decide
  | .cls _ => by show (PyData.shown .none).length ≤ 5; decide
  | .dct _ _ => by show (PyData.shown .none).length ≤ 5; decide
  | .fn _ => by show (PyData.shown .none).length ≤ 5; decide
theorem showns_wt : ∀ ds : List D, PySem.piled (PyData.shownAll (D.pys ds)) ≤ wtDs ds
  | [] => Nat.le_refl _
  | d :: ds => by
    have h1 := shown_wt d
    have h2 := showns_wt ds
    show PySem.piled (d.py.shown :: PyData.shownAll (D.pys ds)) ≤ wtD d + 2 + wtDs ds
    rw [piled_cons]
    omega
end
/-- data whose repr is told: depth at most k, length at most w -/
structure RN (k w : Nat) (d : D) : Prop where
  pl : d.plain = true
  sh : d.py.showable = true
  nd : d.py.hasDict = false
  dp : d.py.depth ≤ k
  wt : wtD d ≤ w
theorem RN.mono {k k' w w' : Nat} {d : D} (h : RN k w d) (hk : k ≤ k') (hw : w ≤ w') : RN k' w' d := ⟨h.pl, h.sh, h.nd, Nat.le_trans h.dp hk, Nat.le_trans h.wt hw⟩
theorem RN.int {i : Int} {n : Nat} (h : i.natAbs < 2 ^ n) (hn : n ≤ 1920) : RN 0 (n + 3) (.int i) := by
  have hl : i.natAbs.log2 < n ∨ i.natAbs = 0 := by
    rcases Nat.eq_zero_or_pos i.natAbs with z | z
    · exact .inr z
    · exact .inl ((Nat.log2_lt (by omega)).mpr h)
  have hl' : i.natAbs.log2 ≤ n ∧ i.natAbs.log2 < 1920 := by
    rcases hl with z | z
    · omega
    · rw [z]; exact ⟨Nat.zero_le _, by decide⟩
  exact ⟨rfl, decide_eq_true hl'.2, rfl, Nat.le_refl _, Nat.add_le_add_right hl'.1 3⟩
theorem rns {k w : Nat} : ∀ {xs : List D}, (∀ d ∈ xs, RN k w d) → D.plains xs = true ∧ PyData.showableAll (D.pys xs) = true ∧ PyData.hasDictAll (D.pys xs) = false ∧ PyData.depthAll (D.pys xs) ≤ k ∧ wtDs xs ≤ xs.length * (w + 2)
  | [], _ => ⟨rfl, rfl, rfl, Nat.zero_le _, Nat.zero_le _⟩
  | x :: xs, h => by
    obtain ⟨h1, h2, h3, h4, h5⟩ := rns (xs := xs) fun d hd => h d (List.mem_cons_of_mem _ hd)
    have hx := h x List.mem_cons_self
    refine ⟨?_, ?_, ?_, ?_, ?_⟩
    · show (x.plain && D.plains xs) = true
      rw [hx.pl, h1]; rfl
    · show (x.py.showable && PyData.showableAll (D.pys xs)) = true
      rw [hx.sh, h2]; rfl
    · show (x.py.hasDict || PyData.hasDictAll (D.pys xs)) = false
      rw [hx.nd, h3]; rfl
    · show max x.py.depth (PyData.depthAll (D.pys xs)) ≤ k
      exact Nat.max_le.mpr ⟨hx.dp, h4⟩
    · show wtD x + 2 + wtDs xs ≤ (xs.length + 1) * (w + 2)
      have := hx.wt
      rw [Nat.add_mul]
      omega
theorem RN.tup {k w m : Nat} {xs : List D} (h : ∀ d ∈ xs, RN k w d) (hm : xs.length ≤ m) : RN (k + 1) (m * (w + 2) + 3) (.tup xs) := by
  obtain ⟨h1, h2, h3, h4, h5⟩ := rns h
  exact ⟨h1, h2, h3, Nat.add_le_add_right h4 1, Nat.add_le_add_right (Nat.le_trans h5 (Nat.mul_le_mul_right _ hm)) 3⟩
theorem RN.lst {k w m : Nat} {xs : List D} (h : ∀ d ∈ xs, RN k w d) (hm : xs.length ≤ m) : RN (k + 1) (m * (w + 2) + 3) (.lst xs) := by
  obtain ⟨h1, h2, h3, h4, h5⟩ := rns h
  exact ⟨h1, h2, h3, Nat.add_le_add_right h4 1, Nat.add_le_add_right (Nat.le_trans h5 (Nat.mul_le_mul_right _ hm)) 3⟩
theorem RN.ok {k w : Nat} {d : D} (h : RN k w d) (hk : k ≤ 60) : okR d = true := by
  have := h.dp
  unfold okR
  rw [h.pl, h.sh, h.nd, decide_eq_true (show d.py.depth ≤ 60 by omega)]
  rfl
theorem RN.len {k w : Nat} {d : D} (h : RN k w d) (hw : w ≤ 16777216) : (rprD d).length ≤ sizeLine := Nat.le_trans (shown_wt d) (Nat.le_trans h.wt hw)
end Dl

namespace Dl
open PySem L2
/-! ### a thing is locked for good -/
section
variable {X : Cx}
theorem pe_lockV {e : Expr} {t : TE} (h : PE X e t) : PE X e (fun σ H Q => t σ H fun x H1 => ∃ d u, x = .ref d ∧ H1 d = some u ∧ Mut (some u) ∧ ∀ od, Q x (upd H1 d (.frz od u))) := ⟨fun pins s σ H Q I hw => thn (h.run pins s σ H _ I hw) fun v s1 ⟨x, H1, I1, r, d, u, ex, hd, mu, q⟩ => by
  obtain ⟨od, I2⟩ := I1.lock hd mu
  exact ⟨x, _, I2, r, q od⟩⟩
theorem pss_lockV {sts : List Stmt} {t : TS} (h : PSs X sts t) : PSs X sts (fun D σ H => ∃ d u, H d = some u ∧ Mut (some u) ∧ ∀ od, t D σ (upd H d (.frz od u))) := ⟨fun pins s σ H D I ⟨d, u, hd, mu, hw⟩ => by
  obtain ⟨od, I2⟩ := I.lock hd mu
  exact h.run pins s σ _ D I2 (hw od)⟩
end
/-! ### tables as data -/
section
variable {T : Tab} {K : PySem.W.Frag} {M M' : Addr → Prop} {H H' : Hp} {kvs kvs2 : List (Key × V)} {kds kds2 : List (Key × D)} {k : Key} {v : V} {d : D}
def KR (T : Tab) (K : PySem.W.Frag) (M : Addr → Prop) (H : Hp) (kvs : List (Key × V)) (kds : List (Key × D)) : Prop := kvs.map (·.1) = kds.map (·.1) ∧ Reps T K M H (kvs.map (·.2)) (kds.map (·.2))
theorem KR.kp (x : Kp M H M' H') (h : KR T K M H kvs kds) : KR T K M' H' kvs kds := ⟨h.1, h.2.kp x⟩
def hasK (kds : List (Key × D)) (k : Key) : Bool := kds.any fun p => decide (p.1 = k)
def getK (kds : List (Key × D)) (k : Key) : Option D := (kds.find? fun p => decide (p.1 = k)).map (·.2)
def putD (kds : List (Key × D)) (k : Key) (d : D) : List (Key × D) := if hasK kds k = true then kds.map (fun p => if p.1 = k then (p.1, d) else p) else kds ++ [(k, d)]
theorem KR.nil : KR T K M H [] [] := ⟨rfl, .nil⟩
theorem KR.inv {p : Key × V} (h : KR T K M H (p :: kvs) kds) : ∃ d r, kds = (p.1, d) :: r ∧ Rep T K M H p.2 d ∧ KR T K M H kvs r := by
  obtain ⟨h1, h2⟩ := h
  match kds, h1, h2 with
  | (j, d) :: r, h1, .cons a b =>
    have e : p.1 = j ∧ kvs.map (·.1) = r.map (·.1) := by simpa using h1
    exact ⟨d, r, by rw [e.1], a, e.2, b⟩
theorem KR.inv0 (h : KR T K M H [] kds) : kds = [] := by
  obtain ⟨h1, _⟩ := h
  cases kds with
  | nil => rfl
  | cons p r => cases h1
theorem KR.cons (r : Rep T K M H v d) (h : KR T K M H kvs kds) : KR T K M H ((k, v) :: kvs) ((k, d) :: kds) := ⟨by rw [List.map_cons, List.map_cons, h.1], .cons r h.2⟩
theorem KR.app (h : KR T K M H kvs kds) (h2 : KR T K M H kvs2 kds2) : KR T K M H (kvs ++ kvs2) (kds ++ kds2) := ⟨by rw [List.map_append, List.map_append, h.1, h2.1], by rw [List.map_append, List.map_append]; exact h.2.append h2.2⟩
theorem KR.len (h : KR T K M H kvs kds) : kvs.length = kds.length := by have := h.2.length; rw [List.length_map, List.length_map] at this; exact this
theorem KR.any (h : KR T K M H kvs kds) : (kvs.any fun p => decide (p.1 = k)) = hasK kds k := by
  have e1 : (kvs.any fun p => decide (p.1 = k)) = (kvs.map (·.1)).any fun j => decide (j = k) := by rw [List.any_map]; rfl
  have e2 : hasK kds k = (kds.map (·.1)).any fun j => decide (j = k) := by unfold hasK; rw [List.any_map]; rfl
  rw [e1, e2, h.1]
theorem KR.rep (r : Rep T K M H v d) : ∀ {kvs : List (Key × V)} {kds : List (Key × D)}, KR T K M H kvs kds → KR T K M H (kvs.map fun p => if p.1 = k then (p.1, v) else p) (kds.map fun p => if p.1 = k then (p.1, d) else p)
  | [], kds, h => by cases h.inv0; exact .nil
  | p :: kvs, kds, h => by
    obtain ⟨d', r', rfl, a, b⟩ := h.inv
    rw [List.map_cons, List.map_cons]
    by_cases e : p.1 = k
    · rw [if_pos e, if_pos (show ((p.1, d') : Key × D).1 = k from e)]
      exact .cons r (KR.rep r b)
    · rw [if_neg e, if_neg (show ¬ ((p.1, d') : Key × D).1 = k from e)]
      exact .cons (k := p.1) (v := p.2) a (KR.rep r b)
theorem KR.put (r : Rep T K M H v d) (h : KR T K M H kvs kds) : KR T K M H (putK kvs k v) (putD kds k d) := by
  unfold putK putD
  rw [h.any]
  split
  · exact h.rep r
  · exact h.app (.cons r .nil)
theorem KR.val : ∀ {kvs : List (Key × V)} {kds : List (Key × D)}, KR T K M H kvs kds → (getK kds k = none → valV kvs k = none) ∧ ∀ d, getK kds k = some d → ∃ v, valV kvs k = some v ∧ Rep T K M H v d
  | [], kds, h => by cases h.inv0; exact ⟨fun _ => rfl, fun d z => nomatch z⟩
  | p :: kvs, kds, h => by
    obtain ⟨d', r', rfl, a, b⟩ := h.inv
    obtain ⟨i1, i2⟩ := KR.val b
    by_cases e : p.1 = k
    · have g : getK ((p.1, d') :: r') k = some d' := by simp [getK, List.find?_cons, e]
      rw [g]
      exact ⟨(fun z => nomatch z), fun d z => by cases z; exact ⟨p.2, valV_pos e, a⟩⟩
    · have g : getK ((p.1, d') :: r') k = getK r' k := by simp [getK, List.find?_cons, e]
      rw [g, valV_neg e]
      exact ⟨i1, i2⟩
theorem getK_has (kds : List (Key × D)) (k : Key) : (getK kds k).isSome = hasK kds k := by
  induction kds with
  | nil => rfl
  | cons p r ih =>
    by_cases e : p.1 = k
    · simp [getK, hasK, e]
    · simp only [getK, hasK, List.find?_cons, List.any_cons, decide_eq_false e, Bool.false_or]
      exact ih
theorem KR.some (h : KR T K M H kvs kds) : (valV kvs k).isSome = hasK kds k := by rw [← valV_any, h.any]
def keyD : D → Option Key
  | .int i => some (.inl i)
  | .str x => some (.inr x)
  | _ => none
theorem key_rep (r : Rep T K M H v d) (h : keyD d = some k) : v = kV k := by
  cases r <;> first | (cases h; rfl) | exact nomatch h
abbrev dctD (kds : List (Key × D)) : D := .dct (kds.map (·.1)) (kds.map (·.2))
/-- a dict that is only read, or a cell -/
def kdOf (cs : List Cell) : Sl → Option (List (Key × D))
  | .dat (.dct ks xs) => some (ks.zip xs)
  | .cel j => match cs[j]? with
    | some (.dct kds) => some kds
    | _ => none
  | _ => none
theorem KR.zip {ks : List Key} {xs : List D} (h1 : kvs.map (·.1) = ks) (h2 : Reps T K M H (kvs.map (·.2)) xs) : KR T K M H kvs (ks.zip xs) := by
  have hl : ks.length = xs.length := by rw [← h2.length, ← h1, List.length_map, List.length_map]
  exact ⟨by rw [List.map_fst_zip (by omega)]; exact h1, by rw [List.map_snd_zip (by omega)]; exact h2⟩
theorem rd_dct {ad : List Addr} {F : Addr → Prop} {cs : List Cell} {s : Sl} (h : kdOf cs s = some kds) (c : HoldC T K ad F H cs) (r : SlRep T K ad F H v s) : ∃ a kvs, v = .ref a ∧ Rd H a (.dK kvs) ∧ KR T K (Mm ad F) H kvs kds := by
  unfold kdOf at h
  split at h
  · cases h
    cases r with
    | @dct a o kvs ks ds n e1 e2 q => exact ⟨a, kvs, rfl, .inr ⟨o, e1⟩, KR.zip e2 q⟩
  · split at h
    · rename_i kds' hj
      cases h
      obtain ⟨a, ha, rfl⟩ := r
      obtain ⟨kvs, e1, e2, q⟩ := c.ce _ a _ ha hj
      exact ⟨a, kvs, rfl, .inl e1, e2, q⟩
    · cases h
  · cases h
def wD (cs : List Cell) (s : Sl) (k : List (Key × D) → Prop) : Prop := match kdOf cs s with
  | some kds => k kds
  | none => False
theorem wD_of {cs : List Cell} {s : Sl} {k : List (Key × D) → Prop} (h : wD cs s k) : ∃ kds, kdOf cs s = some kds ∧ k kds := by
  unfold wD at h
  split at h
  · exact ⟨_, ‹_›, h⟩
  · exact h.elim
def isKey (s : Sl) (k : Key → Prop) : Prop := match s with
  | .dat d => match keyD d with
    | some x => k x
    | none => False
  | .cel _ => False
theorem isKey_of {s : Sl} {k : Key → Prop} (h : isKey s k) : ∃ d x, s = .dat d ∧ keyD d = some x ∧ k x := by
  unfold isKey at h
  split at h
  · split at h
    · exact ⟨_, _, rfl, ‹_›, h⟩
    · exact h.elim
  · exact h.elim
end
/-! ### k in d -/
section
variable {X : Cx} {T : Tab} {cs : List Cell}
theorem op_dinV (neg : Bool) (hu : X.A.units + 1 < cLine) : OpR X (compareOp (if neg then .NotIn else .In)) (fun x y H Q => ∃ a o, y = .ref a ∧ DGet H a x o ∧ Q (.bl (neg.xor o.isSome)) H) := by
  intro pins s σ H x y v u Q I rx ry h
  obtain ⟨a, o, rfl, g, q⟩ := h
  cases (show u = Value.ref a from ry)
  cases neg with
  | true => exact d_notIn hu I g rx fun s3 I3 => ⟨.bl (!o.isSome), H, I3, rfl, by simpa using q⟩
  | false => exact d_in hu I g rx fun s3 I3 => ⟨.bl o.isSome, H, I3, rfl, by simpa using q⟩
def inDW (neg : Bool) : W2 := fun s1 s2 cs R => isKey s1 fun k => wD cs s2 fun kds => R (.dat (.bl (neg.xor (hasK kds k)))) cs
def PDc (_ s2 : Sl) : Bool := match s2 with
  | .dat (.dct _ _) => true
  | .cel _ => true
  | _ => false
theorem jc_inD (neg : Bool) {w : W2} (hu : X.A.units + 64 < cLine) (h : JCmp X T (if neg then .NotIn else .In) w) : JCmp X T (if neg then .NotIn else .In) (selW PDc (inDW neg) w) := jc_sel (fun s1 s2 cs R _ hw => by
  obtain ⟨d, k, rfl, hk, hw⟩ := isKey_of hw
  obtain ⟨kds, hd, hR⟩ := wD_of hw
  refine ⟨_, _, ⟨_, op_dinV neg (by omega), fun ad F H v w Q c r1 r2 q => ?_⟩, hR⟩
  obtain ⟨a, kvs, rfl, e1, e2⟩ := rd_dct hd c r2
  cases key_rep r1 hk
  exact ⟨a, valV kvs k, rfl, .inl ⟨kvs, k, e1, rfl, rfl⟩, by rw [e2.some]; exact q _ H ad .refl c Rep.bl⟩) h
end
/-! ### d[k], d.get(k, x), d[k] = v, {} -/
section
variable {X : Cx} {T : Tab} {W : WX} {n : Nat} {e o i f ix : Expr} {pos p' apos cpos : Pos} {we wo wi wx wf : WpE}
def dgetW (s i : Sl) (cs : List Cell) (R : RV) : Prop := isKey i fun k => wD cs s fun kds => match getK kds k with
  | some d => R (.dat d) cs
  | none => False
def wDget (wo wi : WpE) : WpE := fun sl cs R Rx => wo sl cs (fun s c1 => wi sl c1 (fun i c2 => dgetW s i c2 R) Rx) Rx
theorem je_dget (hu : X.A.units + 64 < cLine) (ho : JE X T W o wo) (hi : JE X T W i wi) (hs : NoSl i := by first | exact fun _ _ _ _ h => nomatch h | (intro; nofun) | rfl) : JE X T W (.Subscript o i pos) (wDget wo wi) :=
  weak (pe_dget (by omega) ho hi hs) fun σ H Q ⟨ad, F, sl, cs, R, Rx, h0, hw, q, qx⟩ => ⟨ad, F, sl, cs, _, Rx, h0, hw, fun s c1 v H1 ad1 hw1 x1 h1 r1 => ⟨ad1, F, sl, c1, _, Rx, h1, hw1, fun t c2 v2 H2 ad2 hw2 x2 h2 r2 => by
    obtain ⟨d, k, rfl, hk, hw2⟩ := isKey_of hw2
    obtain ⟨kds, hd, hw2⟩ := wD_of hw2
    split at hw2
    · rename_i z hz
      obtain ⟨a, kvs, rfl, e1, e2⟩ := rd_dct hd h2.hc (r1.ext x2)
      cases key_rep r2 hk
      obtain ⟨w, hv, rw'⟩ := e2.val.2 z hz
      exact ⟨a, w, rfl, .inl ⟨kvs, k, e1, rfl, hv.symm⟩, q _ c2 w H2 ad2 hw2 (x1.trans h1.hc x2) h2 rw'⟩
    · exact hw2.elim, qx.on x1 h1⟩, qx⟩
def wDget2 (wo wi wf : WpE) : WpE := fun sl cs R Rx => wo sl cs (fun s c1 => (kdOf c1 s).isSome = true ∧ wi sl c1 (fun i c2 => wf sl c2 (fun z c3 => isKey i fun k => isDat z fun d => wD c3 s fun kds => R (.dat ((getK kds k).getD d)) c3) Rx) Rx) Rx
theorem je_dget2 (hu : X.A.units + 64 < cLine) (ho : JE X T W o wo) (hi : JE X T W e wi) (hf : JE X T W f wf) (hb : attributeBase o "get" X.env (eval o X.env) = eval o X.env := by rfl)
    (hfw : ((backTo cpos (starEach [e, f] X.env)).all (fun x => !x.1) && (backToKw cpos (keywordEach [] X.env)).all (fun x => x.1.isSome) && decide (([e, f] : List Expr).length + ([] : List Keyword).length + (if ([] : List Keyword).isEmpty then 0 else 1) < 30)) = true := by rfl)
    (hln : (apos.endLine == cpos.line) = true := by rfl) (htr : backTo cpos (starEach [e, f] X.env) = [(false, eval e X.env), (false, eval f X.env)] := by rfl) : JE X T W (.Call (.Attribute o "get" apos) [e, f] [] cpos) (wDget2 wo wi wf) :=
  weak (pe_dget2 (by omega) ho hi hf ⟨hb, hfw, hln, htr⟩) fun σ H Q ⟨ad, F, sl, cs, R, Rx, h0, hw, q, qx⟩ => ⟨ad, F, sl, cs, _, Rx, h0, hw, fun s c1 v H1 ad1 hw1 x1 h1 r1 => by
    obtain ⟨hs, hw1⟩ := hw1
    obtain ⟨kds0, hk0⟩ := Option.isSome_iff_exists.mp hs
    obtain ⟨a, kvs0, rfl, e0, _⟩ := rd_dct hk0 h1.hc r1
    refine ⟨a, rfl, .inl ⟨kvs0, e0⟩, ad1, F, sl, c1, _, Rx, h1, hw1, fun t c2 v2 H2 ad2 hw2 x2 h2 r2 => ⟨ad2, F, sl, c2, _, Rx, h2, hw2, fun z c3 v3 H3 ad3 hw3 x3 h3 r3 => ?_, (qx.on x1 h1).on x2 h2⟩, qx.on x1 h1⟩
    obtain ⟨d, k, rfl, hk, hw3⟩ := isKey_of hw3
    obtain ⟨dz, rfl, hw3⟩ := isDat_of hw3
    obtain ⟨kds, hd, hw3⟩ := wD_of hw3
    obtain ⟨a', kvs, ea, e1, e2⟩ := rd_dct hd h3.hc ((r1.ext x2).ext x3)
    cases ea
    cases key_rep (SlRep.ext (s := .dat d) x3 r2) hk
    refine ⟨valV kvs k, .inl ⟨kvs, k, e1, rfl, rfl⟩, ?_⟩
    have x := x1.trans h1.hc (x2.trans h2.hc x3)
    cases hg : getK kds k with
    | none =>
      rw [e2.val.1 hg]
      rw [hg] at hw3
      exact q _ c3 v3 H3 ad3 hw3 x h3 r3
    | some w =>
      obtain ⟨vw, hv, rw'⟩ := e2.val.2 w hg
      rw [hv]
      rw [hg] at hw3
      exact q _ c3 vw H3 ad3 hw3 x h3 rw', qx⟩
def setDW (s i d : Sl) (cs : List Cell) (k : List Cell → Prop) : Prop := match s with
  | .cel j => match cs[j]? with
    | some (.dct kds) => kds.length < sizeLine ∧ isKey i fun x => isDat d fun d => k (cs.set j (.dct (putD kds x d)))
    | _ => False
  | _ => False
def wSetD (we wo wx : WpE) : WS := fun S P => we S.sl S.cs (fun d c1 => wo S.sl c1 (fun s c2 => wx S.sl c2 (fun i c3 => setDW s i d c3 fun c4 => P.nx ⟨S.sl, c4⟩) (fun x c => P.ex x ⟨S.sl, c⟩)) (fun x c => P.ex x ⟨S.sl, c⟩)) (fun x c => P.ex x ⟨S.sl, c⟩)
theorem js_setD (hu : X.A.units + 64 < cLine) (he : JE X T W e we) (ho : JE X T W o wo) (hx : JE X T W ix wx)
    (ha : ∀ v, assign (.Subscript o ix p') X.env v = (do
      let ov ← holding [v] (eval o X.env)
      let iv ← holding [v, ov] (eval ix X.env)
      standAt p'
      holding [v, ov, iv] (setItem ov iv v)
      release [v, ov, iv] []) := by intro _; rfl)
    (hs : swapsWithSole [.Subscript o ix p'] e pos.line X.env = pure false := by rfl) (hw : swappedStores [.Subscript o ix p'] e X.env = pure none := by rfl)
    (h1 : (assignEach [.Subscript o ix p'] X.env).map (·.2) = [assign (.Subscript o ix p') X.env] := by rfl) : JS X T W n (.Assign [.Subscript o ix p'] e pos) (wSetD we wo wx) := fun S P h =>
  weakS (ps_asg he (pg_sub ho hx (set_dict (by omega)) ha) hs hw h1) fun D σ H ⟨ad, F, hn, h0, q1, q2, q3, q4, q5⟩ => ⟨ad, F, S.sl, S.cs, _, _, h0, h, fun d c1 v H1 ad1 hR1 x1 h1 r1 => ⟨ad1, F, S.sl, c1, _, _, h1, hR1, fun s c2 w H2 ad2 hR2 x2 h2 r2 => ⟨ad2, F, S.sl, c2, _, _, h2, hR2, fun i c3 z H3 ad3 hR3 x3 h3 r3 => by
    unfold setDW at hR3
    split at hR3
    · rename_i j
      split at hR3
      · rename_i kds hj
        obtain ⟨hl, hR3⟩ := hR3
        obtain ⟨di, k, rfl, hk, hR3⟩ := isKey_of hR3
        obtain ⟨dd, rfl, hR3⟩ := isDat_of hR3
        have r2' := SlRep.ext x3 r2
        obtain ⟨a, ea, rfl⟩ := r2'
        obtain ⟨kvs, e1, e2⟩ := h3.hc.ce j a _ ea hj
        cases key_rep r3 hk
        have e2 : KR T X.K (Mm ad3 F) H3 kvs kds := e2
        have rd : Rep T X.K (Mm ad3 F) H3 v dd := SlRep.ext (s := .dat dd) x3 (SlRep.ext (s := .dat dd) x2 r1)
        refine ⟨a, upd H3 a (.dK (putK kvs k v)), rfl, .inl ⟨kvs, k, e1, rfl, by rw [e2.len]; exact hl, rfl⟩, ?_⟩
        have kp : Kp (Mm ad3 F) H3 (Mm ad3 F) (upd H3 a (.dK (putK kvs k v))) := fun b o e nn => ⟨by rw [upd_ne (fun z => nn (.inl (by rw [z]; exact List.mem_of_getElem? ea)))]; exact e, nn⟩
        obtain ⟨k4, x4⟩ := h3.hc.setc (o := .dK (putK kvs k v)) (c := .dct (putD kds k dd)) ea ⟨_, upd_same, (e2.put rd).kp kp⟩
        have x := x1.trans h1.hc (x2.trans h2.hc (x3.trans h3.hc x4))
        exact q1 _ _ _ ad3 (x.s hn) (x.le hn) (h3.to x4 k4) hR3
      · exact hR3.elim
    · exact hR3.elim, ((raz_of hn q5).on x1 h1).on x2 h2⟩, (raz_of hn q5).on x1 h1⟩, raz_of hn q5⟩
def wDnew : WpE := fun _ cs R _ => R (.cel cs.length) (cs ++ [.dct []])
theorem je_dnew : JE X T W (.Dict [] [] pos) wDnew := weak pe_dnewK fun σ H Q ⟨ad, F, sl, cs, R, Rx, h0, hw, q, qx⟩ p hp => by
  obtain ⟨c2, x2⟩ := h0.hc.cell (c := .dct []) (o := .dK []) hp ⟨[], upd_same, rfl, .nil⟩
  exact q _ _ (.ref p) _ (ad ++ [p]) hw x2 (h0.to x2 c2) ⟨p, by rw [← h0.hc.ln, List.getElem?_append_right (Nat.le_refl _), Nat.sub_self]; rfl, rfl⟩
end
/-! ### the last cell, a dict, becomes data -/
section
variable {X : Cx} {T : Tab} {W : WX} {n : Nat}
def frzV (m : Nat) (d : D) : Option Sl → Option Sl
  | some (.cel k) => if k = m then some (.dat d) else if k < m then some (.cel k) else none
  | x => x
theorem dss_freezeD {S : Sta} {P : Post} {sts : List Stmt} {kds : List (Key × D)} (m : Nat) (hm : n ≤ m) (hc : S.cs[m]? = some (.dct kds)) (h : DSs X T n ⟨S.sl.map (frzV m (dctD kds)), S.cs.take m⟩ sts P) : DSs X T n S sts P :=
  weakSs (pss_lockV h) fun D σ H ⟨ad, F, hn, h0, q1, q2, q3, q4, q5⟩ => by
    have ml : m < ad.length := by rw [h0.hc.ln]; exact (List.getElem?_eq_some_iff.mp hc).1
    obtain ⟨a, ha⟩ : ∃ a, ad[m]? = some a := ⟨ad[m], List.getElem?_eq_getElem ml⟩
    obtain ⟨kvs, e1, e2⟩ := h0.hc.ce m a _ ha hc
    have e2 : KR T X.K (Mm ad F) H kvs kds := e2
    have ma : a ∈ ad := List.mem_of_getElem? ha
    refine ⟨a, _, e1, trivial, fun od => ?_⟩
    have nt : a ∉ ad.take m := fun z => by
      obtain ⟨j, hj, ej⟩ := List.getElem_of_mem z
      have hj' : (ad.take m)[j]? = some a := by rw [List.getElem?_eq_getElem hj, ej]
      have hjm : j < m := by rw [List.length_take] at hj; omega
      rw [List.getElem?_take, if_pos hjm] at hj'
      have := ix_inj h0.hc.nd ha hj'
      omega
    have ne : ∀ b, ¬ Mm ad F b → b ≠ a := fun b z y => z (.inl (by rw [y]; exact ma))
    have kp : Kp (Mm ad F) H (Mm (ad.take m) F) (upd H a (.frz od (.dK kvs))) := fun b o e z => ⟨by rw [upd_ne (ne b z)]; exact e, fun y => z (y.imp List.mem_of_mem_take id)⟩
    have nF : ∀ b, F b → b ≠ a := fun b z y => h0.hc.fr a ma (by rw [← y]; exact z)
    have x : ExtS n ad F H (ad.take m) (upd H a (.frz od (.dK kvs))) := ⟨by rw [List.take_take, Nat.min_eq_left hm], fun b hb => .inl (List.mem_of_mem_take hb), fun b o e z => (kp b o e z).1, fun b z => .inl (upd_ne (nF b z))⟩
    have hcT : HoldC T X.K (ad.take m) F (upd H a (.frz od (.dK kvs))) (S.cs.take m) := by
      have t := h0.hc.take m
      refine ⟨t.nd, t.fr, fun b z => ?_, h0.hc.tb.upd e1 (fun _ z => nomatch z) (fun _ z => nomatch z) (fun _ z => nomatch z), t.ln, fun j b c e3 e4 => ?_⟩
      · rw [upd_ne (nF b z)]; exact h0.hc.al b z
      · have jm : j < m := by
          rcases Nat.lt_or_ge j m with z | z
          · exact z
          · rw [List.getElem?_take, if_neg (by omega)] at e3; cases e3
        rw [List.getElem?_take, if_pos jm] at e3 e4
        refine (h0.hc.ce j b c e3 e4).kp kp (upd_ne fun y => ?_)
        subst y
        have := ix_inj h0.hc.nd ha e3
        omega
    refine tDS.go (σ := σ) x (by rw [List.length_take]; omega) ⟨hcT, by rw [h0.sz]; simp, fun i s e => ?_⟩ q1 q2 q3 q4 q5
    have e : (S.sl.map (frzV m (dctD kds)))[i]? = some (some s) := e
    rw [List.getElem?_map] at e
    cases e0 : S.sl[i]? with
    | none => rw [e0] at e; cases e
    | some o =>
      rw [e0] at e
      have e : frzV m (dctD kds) o = some s := Option.some.inj e
      cases o with
      | none => cases e
      | some s0 =>
        obtain ⟨v, hv, r⟩ := h0.sl i s0 e0
        refine ⟨v, hv, ?_⟩
        cases s0 with
        | dat d => cases e; exact Rep.kp kp r
        | cel k =>
          obtain ⟨b, hb, ev⟩ := r
          by_cases k1 : k = m
          · subst k1
            have e : some (Sl.dat (dctD kds)) = some s := by simpa [frzV] using e
            cases e
            rw [ha] at hb
            cases hb
            rw [ev]
            exact Rep.dct (fun y => y.elim nt fun y => h0.hc.fr a ma y) upd_same e2.1 (e2.2.kp kp)
          · by_cases k2 : k < m
            · have e : some (Sl.cel k) = some s := by simpa [frzV, k1, k2] using e
              cases e
              exact ⟨b, by rw [List.getElem?_take_of_lt k2]; exact hb, ev⟩
            · have e : (none : Option Sl) = some s := by simpa [frzV, k1, k2] using e
              cases e
def frzDW (i n : Nat) (S : Sta) (k : Sta → Prop) : Prop := match S.sl[i]? with
  | some (some (.cel m)) => n ≤ m ∧ match S.cs[m]? with
    | some (.dct kds) => k ⟨S.sl.map (frzV m (dctD kds)), S.cs.take m⟩
    | _ => False
  | _ => False
def wFrzD (i n : Nat) (w : WS) : WS := fun S P => frzDW i n S fun S' => w S' P
theorem jss_frzD (i : Nat) {sts : List Stmt} {w : WS} (h : JSs X T W n sts w) : JSs X T W n sts (wFrzD i n w) := fun S P hw => by
  have hw : frzDW i n S fun S' => w S' P := hw
  unfold frzDW at hw
  split at hw
  · obtain ⟨hm, hw⟩ := hw
    split at hw
    · rename_i kds hc
      exact dss_freezeD _ hm hc (h _ P hw)
    · exact hw.elim
  · exact hw.elim
end
end Dl

namespace Dl
open PySem L2
/-! ### walks over a dict that is only read -/
def keyOf : Key → D
  | .inl i => .int i
  | .inr x => .str x
section
variable {T : Tab} {K : PySem.W.Frag} {F : Addr → Prop} {ad : List Addr} {H : Hp} {a : Addr} {o : Obj} {kvs : List (Key × V)}
theorem itk_ok (n : ¬ Mm ad F a) (e1 : H a = some (.frz o (.dK kvs))) : ItOk T K F (Itk a o kvs) ((kvs.map (·.1)).map keyOf) ad H := fun F2 ad2 H2 cs2 c2 kp i => ⟨fun d hd => by
    obtain ⟨e2, n2⟩ := kp a _ e1 n
    rw [List.map_map, List.getElem?_map] at hd
    cases hk : kvs[i]? with
    | none => rw [hk] at hd; cases hd
    | some p =>
      rw [hk] at hd
      have hd : keyOf p.1 = d := Option.some.inj hd
      subst hd
      refine ⟨⟨e2, (List.getElem?_eq_some_iff.mp hk).1⟩, fun w H3 y => ?_⟩
      obtain ⟨rfl, k, v, hv, rfl⟩ := y
      rw [hk] at hv
      cases hv
      refine ⟨fun _ _ z => z, ?_⟩
      cases k with
      | inl i => exact Rep.int
      | inr x => exact Rep.str, fun hi => ⟨(kp a _ e1 n).1, by rw [hi, List.length_map, List.length_map]; exact Nat.le_refl _⟩⟩
end
section
variable {X : Cx} {tg : Expr}
def iValD (K : PySem.W.Frag) (tl : TE) : TI := fun σ H R => tl σ H fun x H1 => (∃ a xs, x = .ref a ∧ SqL K H1 a xs ∧ R (Itl K a) H1) ∨ (∃ a xs, x = .ref a ∧ SqT K H1 a xs ∧ R (Itt K a) H1) ∨ ∃ a o kvs, x = .ref a ∧ H1 a = some (.frz o (.dK kvs)) ∧ R (Itk a o kvs) H1
open PySem.Spec PyProof.Rows in
theorem pi_valD {l : Expr} {tl : TE} (hl : PE X l tl) : PI X tg l (iValD X.K tl) := by
  refine ⟨fun pins s σ H R I h => ?_⟩
  refine thn (hl.run pins s σ H _ I h) fun v s1 ⟨x, H1, I1, r1, q1⟩ => ?_
  rcases q1 with ⟨a, xs, e, hq, q⟩ | ⟨a, xs, e, hq, q⟩ | ⟨a, o, kvs, e, hq, q⟩
  · subst e
    cases r1
    obtain ⟨its, rv, p, hz⟩ := I1.list hq
    refine wpAny_pyIter_list p.isList ?_
    refine ⟨s1.heap.objs.size, [s1.heap.objs.size], _, _, H1, rfl, I1.kept (t' := s1.toks) fun b o e => Heap.get?_push_of_some _ e, turn_list a _, ⟨_, Heap.get?_push_size _ rfl, rfl, rfl⟩, fun b hb => ?_, q⟩
    have e : b = s1.heap.objs.size := by simpa using hb
    subst e
    exact I1.fpOk (Nat.le_refl _) (I1.hok.fresh (Nat.le_refl _))
  · subst e
    cases r1
    obtain ⟨its, rv, p, hz⟩ := I1.tuple hq
    refine wpAny_pyIter_tuple (show s1.heap.IsTuple a its.toArray from p) ?_
    refine ⟨s1.heap.objs.size, [s1.heap.objs.size], _, _, H1, rfl, I1.kept (t' := s1.toks) fun b o e => Heap.get?_push_of_some _ e, turn_tuple a _, ⟨_, Heap.get?_push_size _ rfl, rfl, rfl⟩, fun b hb => ?_, q⟩
    have e : b = s1.heap.objs.size := by simpa using hb
    subst e
    exact I1.fpOk (Nat.le_refl _) (I1.hok.fresh (Nat.le_refl _))
  · subst e
    cases r1
    obtain ⟨z1, z2, z3, es, ep, vs, z4, z5, z6, z7⟩ := I1.frzK hq
    refine iter_keys z1 z2 z3 z4 (pi_one (tk := s1.toks) I1 _ (turn_keys _ z4) ⟨_, Heap.get?_push_size _ rfl, rfl, ?_⟩ q)
    first
      | (rw [z5]; done)
      | (rw [z5]; rfl)
end
def itemsDW (s : Sl) (k : List D → Prop) : Prop := match s with
  | .dat (.lst ds) => k ds
  | .dat (.tup ds) => k ds
  | .dat (.scr ds) => k ds
  | .dat (.dct ks _) => k (ks.map keyOf)
  | _ => False
section
variable {X : Cx} {T : Tab} {W : WX} {tg e : Expr} {w : WpE}
def wItemsD (w : WpE) : WpI := fun sl cs R Rx => w sl cs (fun s c => itemsDW s fun ds => R ds c) Rx
theorem ji_valD (he : JE X T W e w) : JI X T W tg e (wItemsD w) := weakI (pi_valD he) fun σ H Q ⟨ad, F, sl, cs, R, Rx, h0, hw, q, qx⟩ => ⟨ad, F, sl, cs, _, Rx, h0, hw, fun s c1 v H1 ad1 hw1 x1 h1 r1 => by
  unfold itemsDW at hw1
  split at hw1
  · cases r1 with
    | @lst a vs _ n e1 r => exact .inl ⟨a, vs, rfl, SqL.of e1, q _ c1 _ H1 ad1 hw1 x1 h1 (itl_ok n e1 r)⟩
  · cases r1 with
    | @tup a vs _ e1 r => exact .inr (.inl ⟨a, vs, rfl, e1.sq, q _ c1 _ H1 ad1 hw1 x1 h1 (itt_ok e1 r)⟩)
  · cases r1 with
    | @scr a vs _ e1 r => exact .inl ⟨a, vs, rfl, e1.sq, q _ c1 _ H1 ad1 hw1 x1 h1 (itr_ok' e1 r)⟩
  · cases r1 with
    | @dct a o kvs ks ds n e1 e2 r => exact .inr (.inr ⟨a, o, kvs, rfl, e1, q _ c1 _ H1 ad1 hw1 x1 h1 (by rw [← e2]; exact itk_ok n e1)⟩)
  · exact hw1.elim, qx⟩
end
/-! ### {k: v for .. in .. if ..} -/
def dcW (p : Pat) (wt : WpT) (wk wv : WpE) (sl : Sls) : List D → List (Key × D) → List Cell → (List (Key × D) → List Cell → Prop) → Prop
  | [], acc, cs, R => R acc cs
  | d :: ds, acc, cs, R => asgW p d sl fun sl' => wt sl' cs (fun b c1 => Br b (wk sl' c1 (fun s1 c2 => wv sl' c2 (fun s2 c3 => isKey s1 fun k => isDat s2 fun e => dcW p wt wk wv sl ds (putD acc k e) c3 R) noX) noX) (dcW p wt wk wv sl ds acc c1 R)) noX
def wDc (wi : WpI) (p : Pat) (wt : WpT) (wk wv : WpE) (own : List Nat) : WpE := fun sl cs R Rx => wi sl cs (fun items c => items.length < sizeLine ∧ dcW p wt wk wv (wipeS sl own) items [] c fun acc c' => R (.dat (dctD acc)) c') Rx
theorem putD_len (kds : List (Key × D)) (k : Key) (d : D) : (putD kds k d).length ≤ kds.length + 1 := by
  unfold putD
  split
  · rw [List.length_map]; omega
  · rw [List.length_append]; exact Nat.le_refl _
section
variable {T : Tab} {K : PySem.W.Frag} {W : WX} {p : Pat} {wi : WpI} {wt : WpT} {wk wv : WpE} {own : List Nat}
theorem dc_coreD {sl : Sls} {items : List D} {cs : List Cell} {Rf : List (Key × D) → List Cell → Prop} {σ : St} {H1 : Hp} {ad1 : List Addr} {F : Addr → Prop} {Q : VK} {J : It} (hp : ∀ i ∈ slotsP p, i ∈ own) (h1 : Hold T K ⟨sl, cs⟩ ad1 F σ H1) (okI : ItOk T K F J items ad1 H1) (hl : items.length < sizeLine)
    (h : dcW p wt wk wv (wipeS sl own) items [] cs Rf) {Dl : Addr} (hD : H1 Dl = none)
    (q : ∀ accV accD ci ad' H', Ext ad1 F H1 ad' H' → HoldC T K ad' (fun a => F a ∨ a = Dl) H' ci → H' Dl = some (.dK accV) → KR T K (Mm ad' fun a => F a ∨ a = Dl) H' accV accD → Rf accD ci → Q (.ref Dl) H') :
    ∃ (Inv' : Nat → Nat → Hp → Prop), (∃ m0, Inv' 0 m0 (upd H1 Dl (.dK []))) ∧ ∀ i m H', Inv' i m H' → (J.stop i H' ∧ Q (.ref Dl) H') ∨ (J.go i H' ∧ ∃ I2 : Hp → Prop, (∀ H2, I2 H2 → ∃ m', m' < m ∧ Inv' (i + 1) m' H2) ∧ ∀ v H3, J.yld i H' v H3 →
      tDG T K p v (wipe σ own) H3 fun σ' H4 => wipe σ' own = wipe σ own ∧ tJT T K W0 wt σ' H4 fun b H5 => if b = true then tJ T K W0 wk σ' H5 fun y H6 => tJ T K W0 wv σ' H6 fun z H7 => ∃ kvs k, y = kV k ∧ H7 Dl = some (.dK kvs) ∧ kvs.length < sizeLine ∧ I2 (upd H7 Dl (.dK (putK kvs k z))) else I2 H5) := by
  let vs := own
  have nD := h1.hc.new hD
  let F' : Addr → Prop := fun a => F a ∨ a = Dl
  have neD : ∀ a o, H1 a = some o → a ≠ Dl := fun a o e => ne_of_none e hD
  have slots : ∀ {ad' : List Addr} {H' : Hp} {cs : List Cell}, Ext ad1 F H1 ad' H' → HoldC T K ad' F' H' cs → Hold T K ⟨wipeS sl vs, cs⟩ ad' F' (wipe σ vs) H' := fun {ad' H' cs} x c => by
    refine ⟨c, by rw [wipe_length, wipeS_len]; exact h1.sz, fun i s e => ?_⟩
    obtain ⟨e1, e2⟩ := wipeS_some e
    obtain ⟨v, hv, r⟩ := h1.sl i s e1
    refine ⟨v, by rw [wipe_out e2]; exact hv, ?_⟩
    cases s with
    | dat d => exact Rep.kp (fun a o e n => ⟨x.keep a o e n, fun z => (x.kp a o e n).2 (z.imp id fun z => z.resolve_right (neD a o e))⟩) r
    | cel k =>
      have r' := SlRep.ext x r
      exact r'
  have h1' : HoldC T K ad1 F' (upd H1 Dl (.dK [])) cs := by
    obtain ⟨c2, x2⟩ := h1.hc.newo (o := .dK []) hD
    have kp : Kp (Mm ad1 F) H1 (Mm ad1 F') (upd H1 Dl (.dK [])) := fun a o e n => ⟨by rw [upd_ne (neD a o e)]; exact e, fun z => n (z.imp id fun z => z.resolve_right (neD a o e))⟩
    refine ⟨h1.hc.nd, fun a ha z => z.elim (h1.hc.fr a ha) fun z => nD (.inl (z ▸ ha)), fun a z => ?_, h1.hc.tb.newF hD (fun _ z => nomatch z), h1.hc.ln, fun k a c e1 e2 => ?_⟩
    · rcases z with z | z
      · exact c2.al a z
      · rw [z]; exact ⟨_, upd_same⟩
    · have qc := h1.hc.ce k a c e1 e2
      obtain ⟨o, e⟩ := qc.some
      exact qc.kp kp (upd_ne (neD a o e))
  have x1' : Ext ad1 F H1 ad1 (upd H1 Dl (.dK [])) := (h1.hc.newo hD).2
  refine ⟨fun i m H' => ∃ ad' accV accD ci, i ≤ items.length ∧ m = items.length - i ∧ Ext ad1 F H1 ad' H' ∧ HoldC T K ad' F' H' ci ∧ H' Dl = some (.dK accV) ∧ KR T K (Mm ad' F') H' accV accD ∧ accD.length ≤ i ∧
    dcW p wt wk wv (wipeS sl vs) (items.drop i) accD ci Rf, ⟨items.length, ad1, [], [], cs, Nat.zero_le _, rfl, x1', h1', upd_same, .nil, Nat.le_refl _, h⟩, ?_⟩
  rintro i m H' ⟨ad', accV, accD, ci, hi', rfl, x', c', eD, rA, lA, hL⟩
  have kpI : Kp (Mm ad1 F) H1 (Mm ad' F') H' := fun a o e n => ⟨x'.keep a o e n, fun z => (x'.kp a o e n).2 (z.imp id fun z => z.resolve_right (neD a o e))⟩
  obtain ⟨ok1, ok2⟩ := okI F' ad' H' ci c' kpI i
  by_cases hlt : i < items.length
  · have hd : items[i]? = some items[i] := List.getElem?_eq_getElem hlt
    obtain ⟨g1, g2⟩ := ok1 _ hd
    rw [List.drop_eq_getElem_cons hlt] at hL
    obtain ⟨sl', eas, hL⟩ := asgW_of hL
    refine .inr ⟨g1, fun H2 => ∃ m', m' < items.length - i ∧ ∃ ad' accV accD ci, i + 1 ≤ items.length ∧ m' = items.length - (i + 1) ∧ Ext ad1 F H1 ad' H2 ∧ HoldC T K ad' F' H2 ci ∧ H2 Dl = some (.dK accV) ∧ KR T K (Mm ad' F') H2 accV accD ∧ accD.length ≤ i + 1 ∧
      dcW p wt wk wv (wipeS sl vs) (items.drop (i + 1)) accD ci Rf, fun H2 ⟨m', hm, z⟩ => ⟨m', hm, z⟩, fun v H3 y => ?_⟩
    obtain ⟨gr, rv⟩ := g2 v H3 y
    obtain ⟨c3, x3⟩ := grow c' gr
    have x13 : Ext ad1 F H1 ad' H3 := ⟨x'.pre, fun a o e n => gr a o (x'.keep a o e n), fun a fa => (x'.frm a fa).trans (.inl (by
      obtain ⟨o, e⟩ := (x'.frm a fa).ex (h1.hc.al a fa)
      rw [gr a o e, e]))⟩
    have cvt : ∀ {ad6 : List Addr} {H6 : Hp}, Ext ad' F' H3 ad6 H6 → Ext ad1 F H1 ad6 H6 := fun {ad6 H6} x6 => by
      obtain ⟨t, e, ht⟩ := x13.pre
      obtain ⟨t2, e2, ht2⟩ := x6.pre
      refine ⟨⟨t ++ t2, by rw [e2, e, List.append_assoc], fun a ha => ?_⟩, fun a o e n => ?_, fun a fa => ?_⟩
      · rcases List.mem_append.mp ha with z | z
        · exact ht a z
        · cases q1 : H1 a with
          | none => rfl
          | some o =>
            exfalso
            have hz := ht2 a z
            by_cases n : Mm ad1 F a
            · rcases n with n | n
              · obtain ⟨o', e'⟩ := c3.mem (a := a) (by rw [e]; exact List.mem_append_left _ n)
                rw [e'] at hz; cases hz
              · obtain ⟨o', e'⟩ := (x13.frm a n).ex ⟨_, q1⟩
                rw [e'] at hz; cases hz
            · rw [x13.keep a o q1 n] at hz; cases hz
      · have n3 : ¬ Mm ad' F' a := fun z => (x13.kp a o e n).2 (z.imp id fun z => z.resolve_right (neD a o e))
        exact x6.keep a o (x13.keep a o e n) n3
      · exact (x13.frm a fa).trans (x6.frm a (.inl fa))
    have eD3 : H3 Dl = some (.dK accV) := gr _ _ eD
    have rA3 : KR T K (Mm ad' F') H3 accV accD := rA.kp x3.kp
    refine ⟨ad', F', ⟨wipeS sl vs, ci⟩, items[i], sl', slots x13 c3, rv, eas, fun σ4 a4 h4 => ⟨wipe_asis a4 hp, ad', F', sl', ci, _, noX, h4, hL, fun b c1 H5 ad5 hb x5 h5 => ?_, Raz.no⟩⟩
    cases b with
    | true =>
      refine iteT ⟨ad5, F', sl', c1, _, noX, h5, hb.t rfl, fun s1 c2 y H6 ad6 hs1 x6 h6 r6 => ⟨ad6, F', sl', c2, _, noX, h6, hs1, fun s2 c3' z H7 ad7 hs2 x7 h7 r7 => ?_, Raz.no⟩, Raz.no⟩
      obtain ⟨dk, k, rfl, hk, hs2⟩ := isKey_of hs2
      obtain ⟨d', rfl, hL2⟩ := isDat_of hs2
      have x36 : Ext ad' F' H3 ad7 H7 := x5.trans h5.hc (x6.trans h6.hc x7)
      have x16 := cvt x36
      refine ⟨accV, k, key_rep r6 hk, ?_, ?_, ?_⟩
      · exact (x36.frm Dl (.inr rfl)).eq eD3 (fun _ z => nomatch z)
      · have := rA3.len
        omega
      · have hDa : Dl ∉ ad7 := fun z => h7.hc.fr Dl z (.inr rfl)
        have kpU : Kp (Mm ad7 F') H7 (Mm ad7 F') (upd H7 Dl (.dK (putK accV k z))) := fun a o e n => ⟨by rw [upd_ne (fun z => n (.inr (.inr z)))]; exact e, n⟩
        refine ⟨_, by omega, ad7, putK accV k z, putD accD k d', c3', hlt, rfl, ?_, ?_, upd_same, ((rA3.kp x36.kp).put r7).kp kpU, Nat.le_trans (putD_len _ _ _) (by omega), hL2⟩
        · exact ⟨x16.pre, fun a o e n => by rw [upd_ne (neD a o e)]; exact x16.keep a o e n, fun a fa => by
            obtain ⟨o, e⟩ := h1.hc.al a fa
            exact (x16.frm a fa).trans (.inl (by
              obtain ⟨o6, e6⟩ := (x16.frm a fa).ex ⟨o, e⟩
              rw [upd_ne (neD a o e)]))⟩
        · refine ⟨h7.hc.nd, h7.hc.fr, fun a z => ?_, h7.hc.tb.upd ((x36.frm Dl (.inr rfl)).eq eD3 (fun _ z => nomatch z)) (fun _ z => nomatch z) (fun _ z => nomatch z) (fun _ z => nomatch z), h7.hc.ln, fun k a c e1 e2 => ?_⟩
          · by_cases e : a = Dl
            · rw [e]; exact ⟨_, upd_same⟩
            · rw [upd_ne e]; exact h7.hc.al a z
          · exact (h7.hc.ce k a c e1 e2).kp kpU (upd_ne fun z => hDa (z ▸ List.mem_of_getElem? e1))
    | false => exact iteF ⟨_, by omega, ad5, accV, accD, c1, hlt, rfl, cvt x5, h5.hc, (x5.frm Dl (.inr rfl)).eq eD3 (fun _ z => nomatch z), rA3.kp x5.kp, by omega, hb.f rfl⟩
  · have e : i = items.length := by omega
    subst e
    rw [List.drop_length] at hL
    exact .inl ⟨ok2 rfl, q accV accD ci ad' H' x' c' eD rA hL⟩
/-- the new dict, locked, is data -/
theorem dc_then {σ : St} {H : Hp} {Q : VK} (hp : ∀ i ∈ slotsP p, i ∈ own) (h : tJ T K W (wDc wi p wt wk wv own) σ H Q) :
    tDc (tJI T K W wi) (tDG T K p) (tJT T K W0 wt) (tJ T K W0 wk) (tJ T K W0 wv) own σ H (fun x H1 => ∃ d u, x = .ref d ∧ H1 d = some u ∧ Mut (some u) ∧ ∀ od, Q x (upd H1 d (.frz od u))) := by
  obtain ⟨ad, F, sl, cs, R, Rx, h0, hw, q, qx⟩ := h
  refine ⟨ad, F, sl, cs, _, Rx, h0, hw, fun items c J H1 ad1 hw1 x1 h1 ok Dl hD => ?_, qx⟩
  refine dc_coreD (Q := fun x H1 => ∃ d u, x = .ref d ∧ H1 d = some u ∧ Mut (some u) ∧ ∀ od, Q x (upd H1 d (.frz od u))) hp h1 ok hw1.1 hw1.2 hD fun accV accD ci ad' H' x' c' eD rA hR => ⟨Dl, _, rfl, eD, trivial, fun od => ?_⟩
  have nD := h1.hc.new hD
  have nm : ∀ b, ¬ Mm ad' (fun a => F a ∨ a = Dl) b → b ≠ Dl := fun b z y => z (.inr (.inr y))
  have kpF : Kp (Mm ad' fun a => F a ∨ a = Dl) H' (Mm ad' F) (upd H' Dl (.frz od (.dK accV))) := fun a o e n => ⟨by rw [upd_ne (nm a n)]; exact e, fun z => n (z.imp id .inl)⟩
  have nDa : Dl ∉ ad' := fun z => c'.fr Dl z (.inr rfl)
  have nFD : ∀ b, F b → b ≠ Dl := fun b z y => nD (.inr (by rw [← y]; exact z))
  have cF : HoldC T K ad' F (upd H' Dl (.frz od (.dK accV))) ci := ⟨c'.nd, fun a ha z => c'.fr a ha (.inl z), fun a z => by rw [upd_ne (nFD a z)]; exact c'.al a (.inl z), (h1.hc.tb.back (fun _ z => .inl z) c'.tb).upd eD (fun _ z => nomatch z) (fun _ z => nomatch z) (fun _ z => nomatch z), c'.ln, fun k a c e1 e2 => (c'.ce k a c e1 e2).kp kpF (upd_ne fun y => nDa (by rw [← y]; exact List.mem_of_getElem? e1))⟩
  have nD' : ¬ Mm ad' F Dl := fun z => z.elim nDa fun z => nD (.inr z)
  have x2 : Ext ad1 F H1 ad' (upd H' Dl (.frz od (.dK accV))) := ⟨x'.pre, fun a o e n => by rw [upd_ne (ne_of_none e hD)]; exact x'.keep a o e n, fun a z => (x'.frm a z).trans (.inl (upd_ne (nFD a z)))⟩
  exact q _ ci (.ref Dl) _ ad' hR (x1.trans h1.hc x2) (h1.to x2 cF) (Rep.dct nD' upd_same rA.1 (rA.2.kp kpF))
end
section
variable {X : Cx} {T : Tab} {W : WX} {n : Nat} {kx vx tg iter : Expr} {ifs : List Expr} {scope : Scope} {own : List (Str × Nat)} {p : Pat} {wi : WpI} {wt : WpT} {wk wv : WpE} {pos : Pos} {y : Str}
structure JDC (X : Cx) (T : Tab) (W : WX) (kx vx tg iter : Expr) (ifs : List Expr) (scope : Scope) (own : List (Str × Nat)) (wi : WpI) (p : Pat) (wt : WpT) (wk wv : WpE) : Prop where
  hi : JI X T W tg iter wi
  ok : BlkOk X.N X.env.scope scope own
  hg : InB X scope fun X' => DG X' T tg p
  ht : InB X scope fun X' => JTs X' T W0 ifs wt
  hk : InB X scope fun X' => JE X' T W0 kx wk
  he : InB X scope fun X' => JE X' T W0 vx wv
  hp : ∀ i ∈ slotsP p, i ∈ own.map (·.2)
theorem je_dc {vs : List Nat} (hN : X.N.Nodup) (h : JDC X T W kx vx tg iter ifs scope own wi p wt wk wv) (hv : own.map (·.2) = vs := by rfl) (hc : X.calm = true := by rfl) (hs : ∀ x, foldedSetIterable iter X.env x = pure x := by intro _; rfl) : JE X T W (.DictComp kx vx [⟨tg, iter, ifs, 0⟩] scope pos) (wDc wi p wt wk wv vs) := by
  subst hv
  exact weak (pe_lockV (pe_dc (g := tDG T X.K p) (tt := tJT T X.K W0 wt) (tk := tJ T X.K W0 wk) (tv := tJ T X.K W0 wv) hc hN h.hi h.ok h.hg h.ht h.hk h.he hs)) fun σ H Q z => dc_then h.hp z
/-- y = {..}: the value is stored by the comprehension itself -/
theorem ps_setDc {i : Nat} {py spos : Pos} {wi : TI} {g : TG} {tt : TT} {tk tv : TE} (hc : X.calm = true) (hN : X.N.Nodup) (hy : X.N[i]? = some y) (hyl : X.env.scope.names.lookup y = some .local) (hsw : swapsWith (.DictComp kx vx [⟨tg, iter, ifs, 0⟩] scope pos) (some (.Name y py)) spos.line X.env = pure true)
    (hi : PI X tg iter wi) (ok : BlkOk X.N X.env.scope scope own) (hg : InB X scope fun X' => PG X' tg g) (ht : InB X scope fun X' => PTs X' ifs tt) (hk : InB X scope fun X' => PE X' kx tk) (he : InB X scope fun X' => PE X' vx tv) (hs : ∀ x, foldedSetIterable iter X.env x = pure x) :
    PS X (.Assign [.Name y py] (.DictComp kx vx [⟨tg, iter, ifs, 0⟩] scope pos) spos) (tAsg (fun σ H Q => tDc wi g tt tk tv (own.map (·.2)) σ H (fun x H1 => ∃ d u, x = .ref d ∧ H1 d = some u ∧ Mut (some u) ∧ ∀ od, Q x (upd H1 d (.frz od u)))) (gName i)) := by
  refine ⟨fun pins s σ H D I h => ?_⟩
  rw [exec_Assign_Name_used _ _ _ _ hsw]
  refine wpAny_bind (wpAny_standAt (wpAny_bind ?_))
  have h : tDc wi g tt tk tv (own.map (·.2)) σ H (fun x H1 => ∃ d u, x = .ref d ∧ H1 d = some u ∧ Mut (some u) ∧ ∀ od, gName i x σ (upd H1 d (.frz od u)) D.nx) := h
  refine wpAny_bind (thn (L2.dc_core (Qf := fun _ s' => SP X pins D .next s') hc hN I hi ok hg ht hk he hs h fun L C s' m H' I' q hn f => ?_) fun _ s' hq => wpAny_pure (wpAny_pure hq))
  obtain ⟨d, u, ex, hd, mu, q⟩ := q
  cases ex
  obtain ⟨od, I''⟩ := I'.lock hd mu
  have q := q od
  refine wpAny_assign_Name (store_ok2 (v := V.ref L) I'' hN hy (.inl hyl) rfl (fun s2 I2 z => ?_) (.inr hyl))
  obtain ⟨a, sb, ha⟩ := z
  obtain ⟨f0, f1, f2, f3, f4, f5⟩ := f
  have hC : C ≠ a := ha.elim (fun z => by rw [z]; exact f1) fun z e => f4 y a z e.symm
  have fD : (upd H' L (.frz od u)) C = none := by
    rw [upd_ne (fun hb => by rw [hb, hd] at f0; cases f0)]
    exact f0
  refine ⟨m, hn.sameBut sb hC, fun h3 sb3 => ?_⟩
  exact ⟨_, _, I2.turned (t' := s2.toks) (fun b o hb e => (sb3.2 b hb).trans e) fD f1 f3 f4 f5, q⟩
end
end Dl

namespace Dl
open PySem L2
section
variable {X : Cx} {T : Tab} {W : WX} {n : Nat} {kx vx tg iter : Expr} {ifs : List Expr} {scope : Scope} {own : List (Str × Nat)} {p : Pat} {wi : WpI} {wt : WpT} {wk wv : WpE} {pos py : Pos} {y : Str}
theorem sw_dc {gs : List Comprehension} {l : Nat} {env : Env} (hk : env.scope.kind = .function) (hy : env.scope.names.lookup y = some .local) (hl : (py.line == pos.line) = true) (ha : (scope.names.any fun (n, k) => n == y && (k == .local || k == .cell)) = false) :
    swapsWith (.DictComp kx vx gs scope pos) (some (.Name y py)) l env = pure true := by
  have h1 : env.kindOf y = some .local := hy
  have h2 : env.blockKind = .function := by unfold Env.blockKind; rw [hk]; rfl
  unfold swapsWith
  simp only [h2, h1, ha, Expr.pos, hl]
  rfl
/-- y = {..} -/
theorem js_dc (i : Nat) {vs : List Nat} {spos : Pos} (hN : X.N.Nodup) (h : JDC X T W kx vx tg iter ifs scope own wi p wt wk wv) (hv : own.map (·.2) = vs := by rfl) (hy : X.N[i]? = some y := by rfl) (hyl : X.env.scope.names.lookup y = some .local := by rfl)
    (hsw : swapsWith (.DictComp kx vx [⟨tg, iter, ifs, 0⟩] scope pos) (some (.Name y py)) spos.line X.env = pure true := by exact sw_dc rfl rfl rfl (by decide +kernel)) (hc : X.calm = true := by rfl) (hs : ∀ x, foldedSetIterable iter X.env x = pure x := by intro _; rfl) :
    JS X T W n (.Assign [.Name y py] (.DictComp kx vx [⟨tg, iter, ifs, 0⟩] scope pos) spos) (wAsg i (wDc wi p wt wk wv vs)) := fun S P hw => by
  subst hv
  exact weakS (ps_setDc (g := tDG T X.K p) (tt := tJT T X.K W0 wt) (tk := tJ T X.K W0 wk) (tv := tJ T X.K W0 wv) hc hN hy hyl hsw h.hi h.ok h.hg h.ht h.hk h.he hs) fun D σ H ⟨ad, F, hn, h0, q1, q2, q3, q4, q5⟩ =>
    dc_then (W := W) (Q := fun x H1 => gName i x σ H1 D.nx) h.hp ⟨ad, F, S.sl, S.cs, _, _, h0, hw, fun s c v H1 ad1 hR x1 h1 r1 => q1 _ _ H1 ad1 (x1.s hn) (x1.le hn) (h1.set r1 i) hR, raz_of hn q5⟩
end
/-! ### sorted, max, min of lists of ints -/
def leB (a b : Int) : Bool := decide (a ≤ b)
def sortI (ns : List Int) : List Int := ns.mergeSort leB
theorem sortI_perm (ns : List Int) : (sortI ns).Perm ns := List.mergeSort_perm ns leB
theorem sortI_le (ns : List Int) : (sortI ns).Pairwise (· ≤ ·) := (List.pairwise_mergeSort (le := leB) (fun a b c h1 h2 => decide_eq_true (Int.le_trans (of_decide_eq_true h1) (of_decide_eq_true h2))) (fun a b => by
  unfold leB
  rcases Int.le_total a b with h | h
  · rw [decide_eq_true h]; rfl
  · rw [decide_eq_true h, Bool.or_true]) ns).imp fun h => of_decide_eq_true h
theorem sortI_eq {ns ms : List Int} (h1 : ms.Perm ns) (h2 : ms.Pairwise (· ≤ ·)) : ms = sortI ns := List.Perm.eq_of_pairwise (fun a b _ _ h h' => Int.le_antisymm h h') h2 (sortI_le ns) (h1.trans (sortI_perm ns).symm)
section
variable {X : Cx} {T : Tab} {cs : List Cell} {s1 : Sl}
theorem cb_sorted {ns : List Int} (h : isLst cs (ns.map D.int) s1) : CalB X T "sorted" [s1] cs (.dat (.lst ((sortI ns).map D.int))) cs := ⟨.builtin "sorted", _, by decide +kernel, .inl ⟨_, rfl⟩, cr_sortedI, fun ad F H vs Q c r q => by
  match vs, r with
  | [v], r =>
    obtain ⟨a, ws, rfl, e1, q1⟩ := rd_lst h c r.1
    have := Reps.of_ints q1
    subst this
    refine ⟨a, ns, rfl, SqL.of e1, fun ms p h1 h2 hp => ?_⟩
    rw [sortI_eq h1 h2]
    exact new_lst c (Reps.ints _) q hp⟩
def sortW : WC := fun ss cs R => match ss with
  | [s] => wL cs s fun ds => intsW ds fun ns => R (.dat (.lst ((sortI ns).map D.int))) cs
  | _ => False
theorem intsW_of {ds : List D} {k : List Int → Prop} (h : intsW ds k) : ∃ ns, ds = ns.map D.int ∧ k ns := by
  unfold intsW at h
  split at h
  · exact ⟨_, ints_of ‹_›, h⟩
  · exact h.elim
theorem jc_sorted : JCall X T "sorted" sortW := ⟨⟨.builtin "sorted", by decide +kernel, .inl ⟨_, rfl⟩⟩, fun ss cs R h => by
  unfold sortW at h
  split at h
  · obtain ⟨ds, h1, h⟩ := wL_of h
    obtain ⟨ns, e, h2⟩ := intsW_of h
    subst e
    exact ⟨_, _, cb_sorted h1, h2⟩
  · exact h.elim⟩
/-- the greatest, the least -/
def maxI : Int → List Int → Int
  | a, [] => a
  | a, b :: l => maxI (if a < b then b else a) l
def minI : Int → List Int → Int
  | a, [] => a
  | a, b :: l => minI (if b < a then b else a) l
theorem maxI_in : ∀ (l : List Int) (a : Int), maxI a l ∈ a :: l ∧ ∀ y ∈ a :: l, y ≤ maxI a l
  | [], a => ⟨List.mem_cons_self, fun y hy => by simp at hy; subst hy; exact Int.le_refl _⟩
  | b :: l, a => by
    obtain ⟨h1, h2⟩ := maxI_in l (if a < b then b else a)
    unfold maxI
    have hc : a ≤ (if a < b then b else a) ∧ b ≤ (if a < b then b else a) := by split <;> omega
    have h0 := h2 _ List.mem_cons_self
    refine ⟨?_, fun y hy => ?_⟩
    · rcases List.mem_cons.mp h1 with h | h
      · rw [h]
        split
        · exact List.mem_cons_of_mem _ List.mem_cons_self
        · exact List.mem_cons_self
      · exact List.mem_cons_of_mem _ (List.mem_cons_of_mem _ h)
    · rcases List.mem_cons.mp hy with rfl | hy
      · omega
      · rcases List.mem_cons.mp hy with rfl | hy
        · omega
        · exact h2 y (List.mem_cons_of_mem _ hy)
theorem minI_in : ∀ (l : List Int) (a : Int), minI a l ∈ a :: l ∧ ∀ y ∈ a :: l, minI a l ≤ y
  | [], a => ⟨List.mem_cons_self, fun y hy => by simp at hy; subst hy; exact Int.le_refl _⟩
  | b :: l, a => by
    obtain ⟨h1, h2⟩ := minI_in l (if b < a then b else a)
    unfold minI
    have hc : (if b < a then b else a) ≤ a ∧ (if b < a then b else a) ≤ b := by split <;> omega
    have h0 := h2 _ List.mem_cons_self
    refine ⟨?_, fun y hy => ?_⟩
    · rcases List.mem_cons.mp h1 with h | h
      · rw [h]
        split
        · exact List.mem_cons_of_mem _ List.mem_cons_self
        · exact List.mem_cons_self
      · exact List.mem_cons_of_mem _ (List.mem_cons_of_mem _ h)
    · rcases List.mem_cons.mp hy with rfl | hy
      · omega
      · rcases List.mem_cons.mp hy with rfl | hy
        · omega
        · exact h2 y (List.mem_cons_of_mem _ hy)
theorem cb_maxL (hc : X.calm = true) {a : Int} {ns : List Int} (h : isLst cs ((a :: ns).map D.int) s1) : CalB X T "max" [s1] cs (.dat (.int (maxI a ns))) cs := ⟨.builtin "max", _, by decide +kernel, .inl ⟨_, rfl⟩, cr_max hc, fun ad F H vs Q c r q => by
  match vs, r with
  | [v], r =>
    obtain ⟨p, ws, rfl, e1, q1⟩ := rd_lst h c r.1
    have := Reps.of_ints q1
    subst this
    refine ⟨p, a :: ns, rfl, SqL.of e1, Nat.succ_pos _, fun m h1 h2 => ?_⟩
    obtain ⟨g1, g2⟩ := maxI_in ns a
    cases Int.le_antisymm (g2 m h1) (h2 _ g1)
    exact q _ H ad .refl c Rep.int⟩
theorem cb_minL (hc : X.calm = true) {a : Int} {ns : List Int} (h : isLst cs ((a :: ns).map D.int) s1) : CalB X T "min" [s1] cs (.dat (.int (minI a ns))) cs := ⟨.builtin "min", _, by decide +kernel, .inl ⟨_, rfl⟩, cr_min hc, fun ad F H vs Q c r q => by
  match vs, r with
  | [v], r =>
    obtain ⟨p, ws, rfl, e1, q1⟩ := rd_lst h c r.1
    have := Reps.of_ints q1
    subst this
    refine ⟨p, a :: ns, rfl, SqL.of e1, Nat.succ_pos _, fun m h1 h2 => ?_⟩
    obtain ⟨g1, g2⟩ := minI_in ns a
    cases Int.le_antisymm (h2 _ g1) (g2 m h1)
    exact q _ H ad .refl c Rep.int⟩
def maxW2 : WC := fun ss cs R => match ss with
  | [.dat (.int i), .dat (.int j)] => R (.dat (.int (if j > i then j else i))) cs
  | [s] => wL cs s fun ds => intsW ds fun ns => match ns with
    | a :: l => R (.dat (.int (maxI a l))) cs
    | [] => False
  | _ => False
theorem jc_max2 (hc : X.calm = true) : JCall X T "max" maxW2 := ⟨⟨.builtin "max", by decide +kernel, .inl ⟨_, rfl⟩⟩, fun ss cs R h => by
  unfold maxW2 at h
  split at h
  · exact ⟨_, _, cb_max hc, h⟩
  · obtain ⟨ds, h1, h⟩ := wL_of h
    obtain ⟨ns, e, h2⟩ := intsW_of h
    subst e
    split at h2
    · exact ⟨_, _, cb_maxL hc h1, h2⟩
    · exact h2.elim
  · exact h.elim⟩
def minW2 : WC := fun ss cs R => match ss with
  | [.dat (.int i), .dat (.int j)] => R (.dat (.int (if j < i then j else i))) cs
  | [s] => wL cs s fun ds => intsW ds fun ns => match ns with
    | a :: l => R (.dat (.int (minI a l))) cs
    | [] => False
  | _ => False
theorem jc_min2 (hc : X.calm = true) : JCall X T "min" minW2 := ⟨⟨.builtin "min", by decide +kernel, .inl ⟨_, rfl⟩⟩, fun ss cs R h => by
  unfold minW2 at h
  split at h
  · exact ⟨_, _, cb_min hc, h⟩
  · obtain ⟨ds, h1, h⟩ := wL_of h
    obtain ⟨ns, e, h2⟩ := intsW_of h
    subst e
    split at h2
    · exact ⟨_, _, cb_minL hc h1, h2⟩
    · exact h2.elim
  · exact h.elim⟩
end
end Dl

namespace Dl
open PySem L2
/-! ### o.f, o.g = a pair -/
section
variable {X : Cx} {T : Tab} {W : WX} {n cn : Nat} {C : Addr} {fn : List Str} {e o o1 o2 : Expr} {f g : Str} {pos p1 p2 tpos : Pos} {we wo1 wo2 : WpE} {ta : TE}
theorem reps2 {K : PySem.W.Frag} {M : Addr → Prop} {H : Hp} {vs : List V} {d1 d2 : D} (h : Reps T K M H vs [d1, d2]) : ∃ v1 v2, vs = [v1, v2] ∧ Rep T K M H v1 d1 ∧ Rep T K M H v2 d2 := by
  cases h with
  | cons a h =>
    cases h with
    | cons b h =>
      cases h
      exact ⟨_, _, rfl, a, b⟩
theorem tup2 {K : PySem.W.Frag} {M : Addr → Prop} {H : Hp} {v : V} {d1 d2 : D} (h : Rep T K M H v (.tup [d1, d2])) : ∃ a v1 v2, v = .ref a ∧ SqT K H a [v1, v2] ∧ Rep T K M H v1 d1 ∧ Rep T K M H v2 d2 := by
  cases h with
  | tup e1 rs =>
    obtain ⟨v1, v2, rfl, ra, rb⟩ := reps2 rs
    exact ⟨_, v1, v2, rfl, e1.sq, ra, rb⟩
theorem pg_at (ho : PE X o ta) (ha : ∀ v, assign (.Attribute o f p1) X.env v = (do
      let ov ← holding [v] (eval o X.env)
      standAt p1.atName
      holding [v, ov] (setAttr ov f v)
      release [v, ov] []) := by intro _; rfl) : PG X (.Attribute o f p1) (fun v σ H Q => ta σ H fun x H1 => ∃ a C dx fs, x = .ref a ∧ H1 a = some (.ins C dx fs) ∧ Cls X.K C ∧ NoAttr X.K C f ∧ fs.length < 1000 ∧ Q σ (upd H1 a (.ins C dx (putF f v fs)))) := ⟨fun pins s σ H v u Q I r h => by
  rw [ha]
  refine wpAny_bind (wpAny_holding (thn (ho.run pins s σ H _ I h) fun ov s1 z => ?_))
  obtain ⟨x, H1, I1, r1, a, C, dx, fs, rfl, ea, hc, hn, hl, q⟩ := z
  cases (show ov = Value.ref a from r1)
  exact wpAny_bind (wpAny_standAt (wpAny_bind (wpAny_holding (setattr_ok I1 ea hc hn hl r fun s3 I3 => wpAny_release ⟨σ, _, I3, q⟩))))⟩
theorem setF_then {K : PySem.W.Frag} {ad : List Addr} {F : Addr → Prop} {H : Hp} {cs : List Cell} {s : Sl} {d : D} {v w : V} {k : List Cell → Prop} (hT : T cn = some (C, fn)) (hc : Cls K C) (hn : NoAttr K C f) (h : HoldC T K ad F H cs) (r : SlRep T K ad F H w s) (rd : Rep T K (Mm ad F) H v d) (hw : setFW cn f s (.dat d) cs k) :
    ∃ a dx fs, w = .ref a ∧ H a = some (.ins C dx fs) ∧ fs.length < 1000 ∧ ∃ cs', k cs' ∧ HoldC T K ad F (upd H a (.ins C dx (putF f v fs))) cs' ∧ Ext ad F H ad (upd H a (.ins C dx (putF f v fs))) := by
  unfold setFW at hw
  split at hw
  · rename_i j dd heq
    cases heq
    split at hw
    · rename_i m fs hk
      obtain ⟨rfl, hf, hl, hw⟩ := hw
      obtain ⟨a, ea, rfl⟩ := r
      obtain ⟨C', fn', dx, vs, ht, e1, lv, rv⟩ := h.ce j a _ ea hk
      rw [hT] at ht
      cases ht
      have lz : ((fs.map (·.1)).zip vs).length < 1000 := by rw [List.length_zip, List.length_map]; omega
      refine ⟨a, dx, _, rfl, e1, lz, _, hw, ?_⟩
      rw [putF_new hf (by rw [lv, List.length_map])]
      have kp : Kp (Mm ad F) H (Mm ad F) (upd H a (.ins C dx ((fs.map (·.1) ++ [f]).zip (vs ++ [v])))) := fun b o e n => ⟨by rw [upd_ne (fun z => n (.inl (by rw [z]; exact List.mem_of_getElem? ea)))]; exact e, n⟩
      exact h.setc (o := .ins C dx ((fs.map (·.1) ++ [f]).zip (vs ++ [v]))) (c := .ins m (fs ++ [(f, d)])) ea ⟨C, fn, dx, vs ++ [v], hT, by rw [upd_same, List.map_append]; rfl, by simp [lv], by rw [List.map_append]; exact (rv.append (.cons rd .nil)).kp kp⟩
    · exact hw.elim
  · exact hw.elim
def wTupF (cn : Nat) (f g : Str) (we wo1 wo2 : WpE) : WS := fun S P => we S.sl S.cs (fun s c => match s with
  | .dat (.tup [d1, d2]) => wo1 S.sl c (fun s1 c1 => setFW cn f s1 (.dat d1) c1 fun c2 => wo2 S.sl c2 (fun s2 c3 => setFW cn g s2 (.dat d2) c3 fun c4 => P.nx ⟨S.sl, c4⟩) (fun x c => P.ex x ⟨S.sl, c⟩)) (fun x c => P.ex x ⟨S.sl, c⟩)
  | _ => False) (fun x c => P.ex x ⟨S.sl, c⟩)
theorem js_tupF {k : Nat} (hT : T cn = some (C, fn)) (hc : Cls X.K C) (hn1 : NoAttr X.K C f) (hn2 : NoAttr X.K C g) (he : JE X T W e we) (h1 : JE X T W o1 wo1) (h2 : JE X T W o2 wo2) (hcm : X.calm = true := by rfl)
    (hln : (assignEach [.Attribute o1 f p1, .Attribute o2 g p2] X.env).length = 2 := by rfl) (hst : (assignEach [.Attribute o1 f p1, .Attribute o2 g p2] X.env).findIdx? (·.1) = none := by rfl)
    (ha1 : ∀ v, assign (.Attribute o1 f p1) X.env v = (do
      let ov ← holding [v] (eval o1 X.env)
      standAt p1.atName
      holding [v, ov] (setAttr ov f v)
      release [v, ov] []) := by intro _; rfl)
    (ha2 : ∀ v, assign (.Attribute o2 g p2) X.env v = (do
      let ov ← holding [v] (eval o2 X.env)
      standAt p2.atName
      holding [v, ov] (setAttr ov g v)
      release [v, ov] []) := by intro _; rfl)
    (hs1 : (assignEach [.Attribute o1 f p1, .Attribute o2 g p2] X.env) = (false, assign (.Attribute o1 f p1) X.env) :: assignEach [.Attribute o2 g p2] X.env := by rfl) (hs2 : (assignEach [.Attribute o2 g p2] X.env) = (false, assign (.Attribute o2 g p2) X.env) :: assignEach [] X.env := by rfl)
    (hs : swapsWithSole [.Tuple [.Attribute o1 f p1, .Attribute o2 g p2] k tpos] e pos.line X.env = pure false := by rfl) (hw : swappedStores [.Tuple [.Attribute o1 f p1, .Attribute o2 g p2] k tpos] e X.env = pure none := by rfl)
    (hh : (assignEach [.Tuple [.Attribute o1 f p1, .Attribute o2 g p2] k tpos] X.env).map (·.2) = [assign (.Tuple [.Attribute o1 f p1, .Attribute o2 g p2] k tpos) X.env] := by rfl) :
    JS X T W n (.Assign [.Tuple [.Attribute o1 f p1, .Attribute o2 g p2] k tpos] e pos) (wTupF cn f g we wo1 wo2) := fun S P h =>
  weakS (ps_asg he (pg_tup (n := 2) hcm (pgs_cons (pg_at h1 ha1) (pgs_cons (pg_at h2 ha2) pgs_nil)) hln hst) hs hw hh) fun D σ H ⟨ad, F, hn, h0, q1, q2, q3, q4, q5⟩ => ⟨ad, F, S.sl, S.cs, _, _, h0, h, fun s c v H1 ad1 hR x1 h1' r1 => by
    split at hR
    · rename_i d1 d2
      obtain ⟨a, v1, v2, rfl, sq, ra, rb⟩ := tup2 r1
      refine ⟨a, [v1, v2], rfl, sq, rfl, v1, [v2], rfl, ad1, F, S.sl, c, _, _, h1', hR, fun s1 c1 w1 H2 ad2 hR2 x2 h2' r2 => ?_, (raz_of hn q5).on x1 h1'⟩
      obtain ⟨b1, dx1, fs1, rfl, g1, g2, c2, hR3, hc3, x3⟩ := setF_then hT hc hn1 h2'.hc r2 (Rep.kp x2.kp ra) hR2
      have h3 := h2'.to x3 hc3
      have x23 := x2.trans h2'.hc x3
      have x13 := x1.trans h1'.hc x23
      refine ⟨b1, C, dx1, fs1, rfl, g1, hc, hn1, g2, v2, [], rfl, ad2, F, S.sl, c2, _, _, h3, hR3, fun s2 c3 w2 H4 ad4 hR4 x4 h4 r4 => ?_, (raz_of hn q5).on x13 h3⟩
      obtain ⟨b2, dx2, fs2, rfl, g3, g4, c5, hR5, hc5, x5⟩ := setF_then hT hc hn2 h4.hc r4 (Rep.kp x4.kp (Rep.kp x23.kp rb)) hR4
      have x15 := x13.trans hc3 (x4.trans h4.hc x5)
      exact ⟨b2, C, dx2, fs2, rfl, g3, hc, hn2, g4, rfl, q1 _ _ _ ad4 (x15.s hn) (x15.le hn) (h4.to x5 hc5) hR5⟩
    · exact hR.elim, raz_of hn q5⟩
end
end Dl

namespace Dl
open PySem L2
/-! ### repr of a bool, None -/
section
variable {X : Cx} {T : Tab} {cs : List Cell}
def blS (b : Bool) : Str := if b then Str.ofString "True" else Str.ofString "False"
theorem call_reprB : CallR X (.builtin "repr") (fun xs H Q => ∃ b, xs = [.bl b] ∧ Q (.str (blS b)) H) := by
  intro pins s σ H xs us Q I r h
  obtain ⟨b, rfl, q⟩ := h
  obtain ⟨u, rfl, ru⟩ := vals1 r
  cases (show u = Value.bool b from ru)
  exact PySem.P.repr_of_bool ⟨.str (blS b), H, I.tok _, ⟨_, rfl⟩, q⟩
theorem cb_reprB {b : Bool} : CalB X T "repr" [.dat (.bl b)] cs (.dat (.str (blS b))) cs := ⟨_, _, by decide +kernel, .inl ⟨_, rfl⟩, call_reprB, fun ad F H vs Q c r q => by
  match vs, r with
  | [v], r =>
    have r1 := r.1
    cases r1
    exact ⟨b, rfl, q _ H ad .refl c Rep.str⟩⟩
theorem call_reprN : CallR X (.builtin "repr") (fun xs H Q => xs = [.non] ∧ Q (.str (Str.ofString "None")) H) := by
  intro pins s σ H xs us Q I r h
  obtain ⟨rfl, q⟩ := h
  obtain ⟨u, rfl, ru⟩ := vals1 r
  cases (show u = Value.none from ru)
  exact PySem.P.repr_of_none ⟨.str _, H, I.tok _, ⟨_, rfl⟩, q⟩
theorem cb_reprN : CalB X T "repr" [.dat .non] cs (.dat (.str (Str.ofString "None"))) cs := ⟨_, _, by decide +kernel, .inl ⟨_, rfl⟩, call_reprN, fun ad F H vs Q c r q => by
  match vs, r with
  | [v], r =>
    have r1 := r.1
    cases r1
    exact ⟨rfl, q _ H ad .refl c Rep.str⟩⟩
def reprW2 : WC := fun ss cs R => match ss with
  | [.dat (.bl b)] => R (.dat (.str (blS b))) cs
  | [.dat .non] => R (.dat (.str (Str.ofString "None"))) cs
  | ss => reprW ss cs R
theorem jc_repr2 (hG : X.A.guards = some []) (hu : X.A.units + 64 < cLine) : JCall X T "repr" reprW2 := ⟨⟨.builtin "repr", by decide +kernel, .inl ⟨_, rfl⟩⟩, fun ss cs R h => by
  unfold reprW2 at h
  split at h
  · exact ⟨_, _, cb_reprB, h⟩
  · exact ⟨_, _, cb_reprN, h⟩
  · exact (jc_repr hG hu).run _ _ _ h⟩
end
/-! ### {k: v ..} in plain proofs -/
theorem hasK_app (a b : List (Key × D)) (k : Key) : hasK (a ++ b) k = (hasK a k || hasK b k) := by unfold hasK; rw [List.any_append]
/-- {g(x): f(x) for x in .. if c(x)}, the keys are new -/
theorem dcW_filter {p : Pat} {wt : WpT} {wk wv : WpE} {sl : Sls} {α : Type} (g : α → D) (kf : α → Key) (f : α → D) (c : α → Bool) {cs : List Cell} : ∀ {xs : List α} {acc : List (Key × D)} {R : List (Key × D) → List Cell → Prop},
    (∀ x ∈ xs, ∃ sl', asgP p (g x) sl = some sl' ∧ (∀ R' : RB, R' (c x) cs → wt sl' cs R' noX) ∧ (c x = true → (∃ d, keyD d = some (kf x) ∧ ∀ R' : RV, R' (.dat d) cs → wk sl' cs R' noX) ∧ ∀ R' : RV, R' (.dat (f x)) cs → wv sl' cs R' noX)) →
    (∀ x ∈ xs, hasK acc (kf x) = false) → xs.Pairwise (fun x y => kf x ≠ kf y) → R (acc ++ (xs.filter c).map fun x => (kf x, f x)) cs → dcW p wt wk wv sl (xs.map g) acc cs R
  | [], acc, R, _, _, _, h => by
    have h : R (acc ++ []) cs := h
    rw [List.append_nil] at h
    exact h
  | x :: xs, acc, R, hx, ha, nd, h => by
    obtain ⟨sl', e, h1, h2⟩ := hx x List.mem_cons_self
    obtain ⟨n1, n2⟩ := List.pairwise_cons.mp nd
    refine asgW_i e (h1 _ ⟨fun z => ?_, fun z => ?_⟩)
    · obtain ⟨⟨d, hd, hk⟩, hv⟩ := h2 z
      refine hk _ (hv _ ?_)
      show isKey (.dat d) fun k => isDat (.dat (f x)) fun e => dcW p wt wk wv sl (xs.map g) (putD acc k e) cs R
      have ek : ∀ K : Key → Prop, K (kf x) → isKey (.dat d) K := fun K hK => by
        show (match keyD d with
          | some x => K x
          | none => False)
        rw [hd]
        exact hK
      refine ek _ ?_
      have ep : putD acc (kf x) (f x) = acc ++ [(kf x, f x)] := by unfold putD; rw [ha x List.mem_cons_self]; rfl
      show dcW p wt wk wv sl (xs.map g) (putD acc (kf x) (f x)) cs R
      rw [ep]
      refine dcW_filter (xs := xs) g kf f c (fun y hy => hx y (List.mem_cons_of_mem _ hy)) (fun y hy => ?_) n2 ?_
      · rw [hasK_app, ha y (List.mem_cons_of_mem _ hy)]
        show (false || hasK [(kf x, f x)] (kf y)) = false
        simp [hasK, n1 y hy]
      · rw [List.filter_cons_of_pos z] at h
        rw [List.append_assoc]
        exact h
    · rw [List.filter_cons_of_neg (by rw [z]; decide)] at h
      exact dcW_filter (xs := xs) g kf f c (fun y hy => hx y (List.mem_cons_of_mem _ hy)) (fun y hy => ha y (List.mem_cons_of_mem _ hy)) n2 h
end Dl

namespace Dl
open PySem L2
/-! ### C.m(..), m a static method of an own class -/
structure SmC (K : PySem.W.Frag) (C : Addr) (m : Str) (p f : Addr) : Prop where
  ga : PySem.W.specialIn K (.ref C) "__getattribute__" = some (some (.builtin "type.__getattribute__"))
  ty : PySem.W.typeIn K (.ref C) = some (.type "type")
  rd : PySem.W.readsIn K C (.type "type") = true
  fd : PySem.W.findCls K (.ref C) (.type "type") m = some (.get (.builtin "staticmethod.__get__") (.ref p) .none (.ref C))
  rc : ∃ rest, PySem.W.recIn K p "staticmethod" = some (.ref f :: rest)
/-- all arguments by their names, in order -/
def KwAll (fd : FuncData) (ps : List Str) : Prop := ∀ (s : Shared) (ws : List Value), ws.length = ps.length → BindsTo s fd ⟨[], ps.zip ws⟩ (ps.zip ws)
theorem Fun.kwAll {K : PySem.W.Frag} {x qual : Str} {st : Stmt} {f : Addr} {fd : FuncData} {ps : List Str} (F : L2.Fun K x qual st f fd)
    (h : ∀ (kV doc pm : Value) (an : Option Addr) (cdv ct : Value) (us : List Value), us.length = ps.length → bindArgs (PySem.W.fnOf x qual (defArgs st) (defBody st) (defScope st) .none kV doc pm an cdv ct) ⟨[], ps.zip us⟩ = pure (ps.zip us)) : KwAll fd ps := by
  obtain ⟨oc, od, kV, doc, pm, an, cdv, ct, osl, rfl, lk, hcd⟩ := F.ex
  exact fun s ws l => .of_eq (h kV doc pm an cdv ct ws l)
section
variable {X : Cx} {x m : Str} {p1 p2 pos : Pos} {e : Expr} {es : List Expr} {kws : List Keyword} {C q f : Addr} {k : Nat} {fd : FuncData} {ps : List Str} {sp : Sp} {E : St → XK} {t tk : TA} {pl : Sem Bool} {CX : CXT}
theorem getsm_ok {pins : List (Addr × Obj)} {σ : St} {H : Hp} {s : Shared} {Q : Value × List Value → Shared → Prop} (I : Inv X pins σ H s) (c : SmC X.K C m q f) (h : Q (.ref f, []) { s with toks := s.toks + 1 }) : wpAny (model X.prog X.w) X.A (getMethod (.ref C) m pl) Q X.xe s := by
  obtain ⟨mm, fr⟩ := I.fr
  obtain ⟨rest, rc⟩ := c.rc
  exact PySem.W.method_of_cls fr I.ok.mod.kin c.ga (PySem.W.cls_sm fr I.ok.mod.kin c.ty c.rd c.fd rc rfl h)
def tSm (sp : Sp) (E : St → XK) (t : TA) : TE := fun σ H Q => t σ H fun vs H1 => sp vs H1 Q (E σ)
theorem run_sm {pins : List (Addr × Obj)} {σ : St} {H : Hp} {s : Shared} {Q : VK} {us : List Value} {vs : List V} (G : FnOk X.prog X.w X.K X.mg X.base CX k f fd ps sp) (hr : Room k X.A) (hb : Binds X.K fd ps []) (hx : PassesAt CX X σ (E σ)) (I : Inv X pins σ H s) (r : Vals vs us) (h : sp vs H Q (E σ)) :
    wpAny (model X.prog X.w) X.A (call (.ref f) us) (EP X pins σ Q) X.xe s := by
  have hl : us.length = ps.length := by rw [← r.length]; exact G.len _ _ _ _ h
  have bt := hb s us I.kIn (by rw [List.append_nil]; exact hl)
  rw [List.append_nil] at bt
  refine wpAny_call (codeAny_mono (G.run X.A X.stack s H ⟨us, []⟩ us vs Q (E σ) hr I.env0 bt r h) fun z s' hq => ?_)
  match z, hq with
  | .error e, hq => exact hx pins H s e s' I hq
  | .ok (.ret u), hq => exact I.after hq
theorem pe_sm (hg : Gl X x) (hm : X.mg x = some (.ref C)) (c : SmC X.K C m q f) (hk : PySem.W.keepIn X.K (.ref f) = true) (G : FnOk X.prog X.w X.K X.mg X.base CX k f fd ps sp) (hr : Room k X.A) (hb : Binds X.K fd ps []) (hx : ∀ σ, PassesAt CX X σ (E σ)) (ha : PA X (e :: es) t) (hdb : (x == ("__debug__" : Str)) = false)
    (ht : eval (.Call (.Attribute (.Name x p1) m p2) (e :: es) [] pos) X.env = (eval (.Name x p1) X.env >>= fun ov => standAt p2.atName >>= fun _ => holding [ov] (getMethod ov m pl) >>= fun fb => callWith pos fb.1 fb.2 (backTo pos (starEach (e :: es) X.env)) (backToKw pos (keywordEach [] X.env))))
    (he : starEach (e :: es) X.env = (false, eval e X.env) :: starEach es X.env) (hpl : (backTo pos (starEach es X.env)).any (·.1) = false) :
    PE X (.Call (.Attribute (.Name x p1) m p2) (e :: es) [] pos) (tSm sp E t) := ⟨fun pins s σ H Q I h => by
  refine PySem.W.methodCall_KW (pl := pl) (ld_glob I hg hm (getsm_ok I c ?_) hdb) ht
  show wpAny _ _ (callWith pos (Value.ref f) [] (backTo pos (starEach (e :: es) X.env)) []) _ _ _
  refine PySem.W.callWith_K (h₀ := X.base) I.ok.mod.kin hk (thn (ha.run pos pins _ σ H _ (I.tok _) h) fun us s1 ⟨vs, H1, I1, r, q⟩ => ⟨I1.kIn, ?_⟩) he hpl
  exact run_sm G hr hb (hx σ) I1 r q⟩
theorem pe_sm0 (hg : Gl X x) (hm : X.mg x = some (.ref C)) (c : SmC X.K C m q f) (hk : PySem.W.keepIn X.K (.ref f) = true) (G : FnOk X.prog X.w X.K X.mg X.base CX k f fd ps sp) (hr : Room k X.A) (hb : Binds X.K fd ps []) (hx : ∀ σ, PassesAt CX X σ (E σ)) (hdb : (x == ("__debug__" : Str)) = false)
    (ht : eval (.Call (.Attribute (.Name x p1) m p2) [] [] pos) X.env = (eval (.Name x p1) X.env >>= fun ov => standAt p2.atName >>= fun _ => holding [ov] (getMethod ov m pl) >>= fun fb => callWith pos fb.1 fb.2 (backTo pos (starEach [] X.env)) (backToKw pos (keywordEach [] X.env)))) :
    PE X (.Call (.Attribute (.Name x p1) m p2) [] [] pos) (tSm sp E tNil) := ⟨fun pins s σ H Q I h => by
  refine PySem.W.methodCall_KW (pl := pl) (ld_glob I hg hm (getsm_ok I c ?_) hdb) ht
  show wpAny _ _ (callWith pos (Value.ref f) [] (backTo pos (starEach [] X.env)) []) _ _ _
  exact PySem.W.callWith_K0 (I.tok _).kIn hk (run_sm (us := []) (vs := []) G hr hb (hx σ) (I.tok _) .nil h)⟩
theorem pe_smK (hg : Gl X x) (hm : X.mg x = some (.ref C)) (c : SmC X.K C m q f) (hk : PySem.W.keepIn X.K (.ref f) = true) (G : FnOk X.prog X.w X.K X.mg X.base CX k f fd ps sp) (hr : Room k X.A) (hb : KwAll fd ps) (hx : ∀ σ, PassesAt CX X σ (E σ)) (hkw : PK X kws tk) (hdb : (x == ("__debug__" : Str)) = false)
    (ht : eval (.Call (.Attribute (.Name x p1) m p2) [] kws pos) X.env = (eval (.Name x p1) X.env >>= fun ov => standAt p2.atName >>= fun _ => holding [ov] (getMethod ov m pl) >>= fun fb => callWith pos fb.1 fb.2 (backTo pos (starEach [] X.env)) (backToKw pos (keywordEach kws X.env))))
    (hall : (backToKw pos (keywordEach kws X.env)).all (·.1.isSome) = true) (hks : (backToKw pos (keywordEach kws X.env)).filterMap (·.1) = ps) (hpl : ((backTo pos (starEach [] X.env)).any (·.1) || (backToKw pos (keywordEach kws X.env)).any (·.1.isNone)) = false) :
    PE X (.Call (.Attribute (.Name x p1) m p2) [] kws pos) (tSm sp E tk) := ⟨fun pins s σ H Q I h => by
  refine PySem.W.methodCall_KW (pl := pl) (ld_glob I hg hm (getsm_ok I c ?_) hdb) ht
  refine PySem.W.callWith_KW0 (first := []) (h₀ := X.base) I.ok.mod.kin hk hall (thn (hkw.run pos pins _ σ H _ (I.tok _) h) fun ws s1 z => ?_) hpl
  obtain ⟨zs, H1, I1, r, q1⟩ := z
  refine ⟨I1.kIn, ?_⟩
  rw [hks]
  have hl : ws.length = ps.length := by rw [← r.length]; exact G.len _ _ _ _ q1
  refine wpAny_call (codeAny_mono (G.run X.A X.stack s1 H1 ⟨[], ps.zip ws⟩ ws zs Q (E σ) hr I1.env0 (hb s1 ws hl) r q1) fun z s' hq => ?_)
  match z, hq with
  | .error e, hq => exact hx σ pins H1 s1 e s' I1 hq
  | .ok (.ret u), hq => exact I1.after hq⟩
end
section
variable {X : Cx} {T : Tab} {W : WX} {e : Expr} {es : List Expr} {kws : List Keyword} {pos p1 p2 : Pos} {wA wK : WpA} {c : Ct} {cx : CtX} {k : Nat} {fd : FuncData} {ps : List Str} {m y : Str} {C q f : Addr} {pl : Sem Bool}
theorem je_sm (hm : X.mg y = some (.ref C)) (s : SmC X.K C m q f) (hk : PySem.W.keepIn X.K (.ref f) = true) (G : FnOk X.prog X.w X.K X.mg X.base CX0 k f fd ps (spC T X.K c)) (hr : Room k X.A) (hb : Binds X.K fd ps []) (ha : JA X T W (e :: es) wA) (hg : Gl X y := by rfl) (hdb : (y == ("__debug__" : Str)) = false := by decide)
    (ht : eval (.Call (.Attribute (.Name y p1) m p2) (e :: es) [] pos) X.env = (eval (.Name y p1) X.env >>= fun ov => standAt p2.atName >>= fun _ => holding [ov] (getMethod ov m pl) >>= fun fb => callWith pos fb.1 fb.2 (backTo pos (starEach (e :: es) X.env)) (backToKw pos (keywordEach [] X.env))) := by rfl)
    (he : starEach (e :: es) X.env = (false, eval e X.env) :: starEach es X.env := by rfl) (hpl : (backTo pos (starEach es X.env)).any (·.1) = false := by rfl) : JE X T W (.Call (.Attribute (.Name y p1) m p2) (e :: es) [] pos) (wFn c wA) :=
  weak (pe_sm (E := fun _ => E0) hg hm s hk G hr hb (fun σ => pass_no) ha hdb ht he hpl) fun σ H Q ⟨ad, F, sl, cs, R, Rx, h0, hw, q, qx⟩ => ⟨ad, F, sl, cs, _, Rx, h0, hw, fun ss c1 vs H1 ad1 hw1 x1 h1 r1 =>
    callW_then h1.hc r1 hw1 fun s c' v H' ad' hR x2 k2 r2 => q s c' v H' ad' hR (x1.trans h1.hc x2) (h1.to x2 k2) r2, qx⟩
theorem je_smX (tk : Takes X W) (hm : X.mg y = some (.ref C)) (s : SmC X.K C m q f) (hk : PySem.W.keepIn X.K (.ref f) = true) (G : FnOk X.prog X.w X.K X.mg X.base (L2.CX X.prog X.w) k f fd ps (spX T X.K c cx)) (hr : Room k X.A) (hb : Binds X.K fd ps []) (ha : JA X T W (e :: es) wA) (hg : Gl X y := by rfl) (hdb : (y == ("__debug__" : Str)) = false := by decide)
    (ht : eval (.Call (.Attribute (.Name y p1) m p2) (e :: es) [] pos) X.env = (eval (.Name y p1) X.env >>= fun ov => standAt p2.atName >>= fun _ => holding [ov] (getMethod ov m pl) >>= fun fb => callWith pos fb.1 fb.2 (backTo pos (starEach (e :: es) X.env)) (backToKw pos (keywordEach [] X.env))) := by rfl)
    (he : starEach (e :: es) X.env = (false, eval e X.env) :: starEach es X.env := by rfl) (hpl : (backTo pos (starEach es X.env)).any (·.1) = false := by rfl) : JE X T W (.Call (.Attribute (.Name y p1) m p2) (e :: es) [] pos) (wFnX c cx wA) :=
  weak (pe_sm (E := WE W) hg hm s hk G hr hb (passAt tk) ha hdb ht he hpl) fun σ H Q ⟨ad, F, sl, cs, R, Rx, h0, hw, q, qx⟩ => ⟨ad, F, sl, cs, _, Rx, h0, hw, fun ss c1 vs H1 ad1 hw1 x1 h1 r1 =>
    callXW_then h1.hc r1 hw1 (fun s c' v H' ad' hR x2 k2 r2 => q s c' v H' ad' hR (x1.trans h1.hc x2) (h1.to x2 k2) r2) (fun x c' cls d H' ad' hR x2 k2 er => qx x c' cls d H' ad' hR (x1.trans h1.hc x2) (h1.to x2 k2) er), qx⟩
theorem je_sm0 (hm : X.mg y = some (.ref C)) (s : SmC X.K C m q f) (hk : PySem.W.keepIn X.K (.ref f) = true) (G : FnOk X.prog X.w X.K X.mg X.base CX0 k f fd ps (spC T X.K c)) (hr : Room k X.A) (hb : Binds X.K fd ps []) (hg : Gl X y := by rfl) (hdb : (y == ("__debug__" : Str)) = false := by decide)
    (ht : eval (.Call (.Attribute (.Name y p1) m p2) [] [] pos) X.env = (eval (.Name y p1) X.env >>= fun ov => standAt p2.atName >>= fun _ => holding [ov] (getMethod ov m pl) >>= fun fb => callWith pos fb.1 fb.2 (backTo pos (starEach [] X.env)) (backToKw pos (keywordEach [] X.env))) := by rfl) : JE X T W (.Call (.Attribute (.Name y p1) m p2) [] [] pos) (wFn c wNil) :=
  weak (pe_sm0 (E := fun _ => E0) hg hm s hk G hr hb (fun σ => pass_no) hdb ht) fun σ H Q ⟨ad, F, sl, cs, R, Rx, h0, hw, q, qx⟩ => by
    show spC T X.K c [] H Q E0
    exact callW_then (ss := []) (vs := []) h0.hc trivial hw fun s c' v H' ad' hR x2 k2 r2 => q s c' v H' ad' hR x2 (h0.to x2 k2) r2
theorem je_smK (hm : X.mg y = some (.ref C)) (s : SmC X.K C m q f) (hk : PySem.W.keepIn X.K (.ref f) = true) (G : FnOk X.prog X.w X.K X.mg X.base CX0 k f fd ps (spC T X.K c)) (hr : Room k X.A) (hb : KwAll fd ps) (hkw : JK X T W kws wK) (hg : Gl X y := by rfl) (hdb : (y == ("__debug__" : Str)) = false := by decide)
    (ht : eval (.Call (.Attribute (.Name y p1) m p2) [] kws pos) X.env = (eval (.Name y p1) X.env >>= fun ov => standAt p2.atName >>= fun _ => holding [ov] (getMethod ov m pl) >>= fun fb => callWith pos fb.1 fb.2 (backTo pos (starEach [] X.env)) (backToKw pos (keywordEach kws X.env))) := by rfl)
    (hall : (backToKw pos (keywordEach kws X.env)).all (·.1.isSome) = true := by rfl) (hks : (backToKw pos (keywordEach kws X.env)).filterMap (·.1) = ps := by rfl) (hpl : ((backTo pos (starEach [] X.env)).any (·.1) || (backToKw pos (keywordEach kws X.env)).any (·.1.isNone)) = false := by rfl) : JE X T W (.Call (.Attribute (.Name y p1) m p2) [] kws pos) (wFn c wK) :=
  weak (pe_smK (E := fun _ => E0) hg hm s hk G hr hb (fun σ => pass_no) hkw hdb ht hall hks hpl) fun σ H Q ⟨ad, F, sl, cs, R, Rx, h0, hw, q, qx⟩ => ⟨ad, F, sl, cs, _, Rx, h0, hw, fun ss c1 vs H1 ad1 hw1 x1 h1 r1 =>
    callW_then h1.hc r1 hw1 fun s c' v H' ad' hR x2 k2 r2 => q s c' v H' ad' hR (x1.trans h1.hc x2) (h1.to x2 k2) r2, qx⟩
end
/-! ### x in a list that is only read -/
section
variable {X : Cx} {T : Tab} {d : D} {ds : List D} {cs : List Cell}
theorem cmp_inL {v : V} {ws : List V} (h1 : fv d = some v) (h2 : fvs ds = some ws) : CmpD X T .In (.dat d) (.dat (.lst ds)) cs (.dat (.bl (inV v ws))) cs := ⟨_, op_in_seq, fun ad F H x y Q c r1 r2 q => by
  cases r2 with
  | @lst a xs _ n e1 q1 =>
    obtain ⟨rfl, fx⟩ := fv_rep r1 h1
    obtain ⟨rfl, fs⟩ := fvs_reps q1 h2
    exact ⟨a, _, rfl, .inl (SqL.of e1), fx, fs, q _ H ad .refl c Rep.bl⟩⟩
theorem cmp_ninL {v : V} {ws : List V} (h1 : fv d = some v) (h2 : fvs ds = some ws) : CmpD X T .NotIn (.dat d) (.dat (.lst ds)) cs (.dat (.bl (!inV v ws))) cs := ⟨_, op_notIn_seq, fun ad F H x y Q c r1 r2 q => by
  cases r2 with
  | @lst a xs _ n e1 q1 =>
    obtain ⟨rfl, fx⟩ := fv_rep r1 h1
    obtain ⟨rfl, fs⟩ := fvs_reps q1 h2
    exact ⟨a, _, rfl, .inl (SqL.of e1), fx, fs, q _ H ad .refl c Rep.bl⟩⟩
def inLW (neg : Bool) : W2 := fun s1 s2 cs R => match s1, s2 with
  | .dat d, .dat (.lst ds) => match fv d, fvs ds with
    | some v, some ws => R (.dat (.bl (neg.xor (inV v ws)))) cs
    | _, _ => False
  | _, _ => False
theorem jc_inL : JCmp X T .In (inLW false) := fun s1 s2 cs R h => by
  unfold inLW at h
  split at h
  · split at h
    · rename_i h1 h2
      exact ⟨_, _, cmp_inL h1 h2, by simpa using h⟩
    · exact h.elim
  · exact h.elim
theorem jc_notinL : JCmp X T .NotIn (inLW true) := fun s1 s2 cs R h => by
  unfold inLW at h
  split at h
  · split at h
    · rename_i h1 h2
      exact ⟨_, _, cmp_ninL h1 h2, by simpa using h⟩
    · exact h.elim
  · exact h.elim
end
end Dl

namespace Dl
open PySem L2
/-! ### own ~, a module's tuple of truths by its name, list * n -/
section
variable {X : Cx} {T : Tab} {W : WX} {c : Ct} {k cn : Nat} {fd : FuncData} {ps : List Str} {C g : Addr} {fn : List Str} {cs : List Cell} {ds : List D} {d : D}
theorem un_ownID (hT : T cn = some (C, fn)) (G : FnOk X.prog X.w X.K X.mg X.base CX0 k g fd ps (spC T X.K c)) (hr : Room k X.A) (hb : Binds X.K fd ps []) (hs : PySem.W.findIn X.K (.ref C) "__invert__" = some (some (.ref g))) (hf : PySem.W.isFn X.K (.ref g) = true)
    (hq : c [.dat (.obj cn ds)] [] (.dat d) []) : UnD X T .Invert (.dat (.obj cn ds)) cs (.dat d) cs := ⟨_, un_ownInv G hr hb hs hf, fun ad F H v Q cc r1 q => by
  have s1 := r1
  cases r1 with
  | @obj a C' dx _ fn' vs' _ ht na e1 hl r =>
    rw [hT] at ht
    cases ht
    exact ⟨a, dx, _, rfl, e1, spC0 (ds := [.obj cn ds]) hq cc ⟨s1, trivial⟩ fun v H' x2 c2 r2 => q v H' ad x2 c2 r2⟩⟩
theorem ju_no {op : UnaryOp} : JUn X T op (fun _ _ _ => False) := fun s1 cs R h => h.elim
theorem ju_oI {w1 : W1} (hT : T cn = some (C, fn)) (G : FnOk X.prog X.w X.K X.mg X.base CX0 k g fd ps (spC T X.K c)) (hr : Room k X.A) (hb : Binds X.K fd ps []) (hs : PySem.W.findIn X.K (.ref C) "__invert__" = some (some (.ref g))) (hf : PySem.W.isFn X.K (.ref g) = true) (h : JUn X T .Invert w1) : JUn X T .Invert (selW1 (isO cn) (ownW1 c) w1) := fun s1 cs R hw => by
  unfold selW1 at hw
  split at hw
  · obtain ⟨ds, rfl⟩ := isO_of ‹_›
    obtain ⟨d, hq, hR⟩ := hw
    exact ⟨_, _, un_ownID hT G hr hb hs hf hq, hR⟩
  · exact h _ _ _ hw
theorem reps_bl {K : PySem.W.Frag} {M : Addr → Prop} {H : Hp} : ∀ bs : List Bool, Reps T K M H (bs.map V.bl) (bs.map D.bl)
  | [] => .nil
  | b :: bs => .cons Rep.bl (reps_bl bs)
theorem je_gtup {x : Str} {pos : Pos} {a : Addr} {bs : List Bool} (hm : X.mg x = some (.ref a)) (hs : SqT X.K (fun _ => none) a (bs.map V.bl)) (hg : Gl X x := by rfl) (hd : (x == ("__debug__" : Str)) = false := by decide) : JE X T W (.Name x pos) (wCon (.tup (bs.map D.bl))) :=
  weak (pe_glob (v := .ref a) hg hm rfl hd) fun σ H Q ⟨ad, F, sl, cs, R, Rx, h0, hw, q, qx⟩ => q _ cs _ H ad hw .refl h0 (Rep.tup (.inr hs) (reps_bl bs))
def PLs (_ s2 : Sl) : Bool := match s2 with
  | .dat (.lst _) => true
  | _ => false
theorem jc_inLT {w : W2} (h : JCmp X T .In w) : JCmp X T .In (selW PLs (inLW false) w) := jc_sel (fun s1 s2 cs R _ hw => jc_inL s1 s2 cs R hw) h
theorem jc_notinLT {w : W2} (h : JCmp X T .NotIn w) : JCmp X T .NotIn (selW PLs (inLW true) w) := jc_sel (fun s1 s2 cs R _ hw => jc_notinL s1 s2 cs R hw) h
end
end Dl

namespace Dl
open PySem L2
/-! ### a repr is a text that may be compared -/
def TsO (x : Str) : Prop := ∀ c ∈ x.cps.toList, c < 0x110000
theorem TsO.ok {x : Str} (h : TsO x) : PyData.canLay0 (.str x) = true := by
  have e : PyData.strOk x = true := by
    unfold PyData.strOk
    rw [← Array.all_toList, List.all_eq_true]
    exact fun c hc => decide_eq_true (h c hc)
  simpa [PyData.canLay0] using e
theorem ts_str (s : String) : TsO (Str.ofString s) := by
  unfold TsO
  rw [Str.ofString_eq_toList]
  intro c hc
  obtain ⟨ch, _, rfl⟩ := List.mem_map.mp hc
  have := ch.valid
  show ch.val.toNat < 0x110000
  rcases this with h | h
  · exact Nat.lt_trans h (by decide)
  · exact h.2
theorem ts_app {a b : Str} (ha : TsO a) (hb : TsO b) : TsO (a ++ b) := by
  intro c hc
  rw [PySem.Str.cps_append, Array.toList_append, List.mem_append] at hc
  exact hc.elim (ha c) (hb c)
theorem ts_join {s : Str} (hs : TsO s) : ∀ {ts : List Str}, (∀ t ∈ ts, TsO t) → TsO (Str.join s ts)
  | [], _ => fun c hc => nomatch hc
  | [x], h => h x List.mem_cons_self
  | x :: y :: r, h => ts_app (ts_app (h x List.mem_cons_self) hs) (ts_join hs fun t ht => h t (List.mem_cons_of_mem _ ht))
theorem ts_from : ∀ (ts : List Str) (k : Nat) (acc : Str), TsO acc → (∀ t ∈ ts, TsO t) → TsO (PySem.textFrom k acc ts)
  | [], k, acc, h, _ => h
  | t :: ts, k, acc, h, ht => ts_from ts (k + 1) _ (ts_app (ts_app h (ts_str _)) (ht t List.mem_cons_self)) fun u hu => ht u (List.mem_cons_of_mem _ hu)
mutual
def strF : D → Bool
  | .str _ => false
  | .tup xs => strFs xs
  | .lst xs => strFs xs
  | .scr xs => strFs xs
  | _ => true
def strFs : List D → Bool
  | [] => true
  | x :: xs => strF x && strFs xs
end
theorem strFs_map {α : Type} {f : α → D} (h : ∀ x, strF (f x) = true) : ∀ xs : List α, strFs (xs.map f) = true
  | [] => rfl
  | x :: xs => by
    show (strF (f x) && strFs (xs.map f)) = true
    rw [h, strFs_map h xs]
    rfl
mutual
theorem shown_ts : ∀ d : D, strF d = true → TsO d.py.shown
  | .non, _ => ts_str _
  | .bl true, _ => ts_str _
  | .bl false, _ => ts_str _
  | .int i, _ => ts_str _
  | .tup xs, h => by
    show TsO (PySem.tupleText (PyData.shownAll (D.pys xs)))
    unfold PySem.tupleText
    exact ts_app (ts_app (ts_str _) (ts_join (ts_str _) (showns_ts xs h))) (ts_str _)
  | .lst xs, h => ts_app (ts_from _ _ _ (ts_str _) (showns_ts xs h)) (ts_str _)
  | .scr xs, h => ts_app (ts_from _ _ _ (ts_str _) (showns_ts xs h)) (ts_str _)
  | .obj _ _, _ => ts_str _
  | .err _ _ _ _, _ => ts_str _
  | .cls _, _ => ts_str _
  | .dct _ _, _ => ts_str _
  | .fn _, _ => ts_str _
theorem showns_ts : ∀ ds : List D, strFs ds = true → ∀ t ∈ PyData.shownAll (D.pys ds), TsO t
  | [], _ => fun t ht => nomatch ht
  | d :: ds, h => by
    have h := Bool.and_eq_true_iff.mp h
    intro t ht
    rcases List.mem_cons.mp ht with rfl | ht
    · exact shown_ts d h.1
    · exact showns_ts ds h.2 t ht
end
theorem rpr_ok {d : D} (h : strF d = true) : PyData.canLay0 (.str (rprD d)) = true := (shown_ts d h).ok
end Dl

namespace Dl
open PySem L2
/-! ### x == y, x != y; x of an own class, y of another own one -/
section
variable {X : Cx} {T : Tab} {C C2 g : Addr} {fd : FuncData} {ps : List Str} {k cn cm : Nat} {c : Ct} {fn fm : List Str} {ds es : List D} {d : D} {cs : List Cell} {w2 : W2}
theorem cop_ownEqO {sp : Sp} (hsub : PySem.W.subIn X.K (.ref C2) (.ref C) = some false) (G : FnOk X.prog X.w X.K X.mg X.base CX0 k g fd ps sp) (hr : Room k X.A) (hb : Binds X.K fd ps []) (hs : PySem.W.findIn X.K (.ref C) "__eq__" = some (some (.ref g))) (hf : PySem.W.isFn X.K (.ref g) = true) :
    OpR X (compareOp .Eq) (fun x y H Q => ∃ a dx fs, x = .ref a ∧ H a = some (.ins C dx fs) ∧ TyX X.K H y (.ref C2) ∧ sp [x, y] H Q E0) := by
  intro pins s σ H x y v u Q I rx ry h
  obtain ⟨a, dx, fs, rfl, ea, ty, hsp⟩ := h
  cases rx
  obtain ⟨mA, J, _⟩ := ins_get I.hok ea
  obtain ⟨od, J, _⟩ := J.look
  obtain ⟨Pk, kx, pk, _⟩ := kit_of I ry ty
  obtain ⟨m, hF⟩ := I.fr
  exact PySem.W.cmp_K (op := .Eq) (tb := .ref C2) hr.units0 hF I.ok.mod.kin J (kx.ty _ _ I.kIn pk) (by simp [PySem.W.notFirst, hsub]) hs hf (thn (run_vals (us := [.ref a, u]) (vs := [.ref a, y]) G hr hb I (.cons rfl (.cons ry .nil)) hsp) fun _ _ z => cmpb z)
theorem cop_ownNeO {sp : Sp} (N : NeC X.K C) (hsub : PySem.W.subIn X.K (.ref C2) (.ref C) = some false) (G : FnOk X.prog X.w X.K X.mg X.base CX0 k g fd ps sp) (hr : Room (k + 1) X.A) (hb : Binds X.K fd ps []) (hs : PySem.W.findIn X.K (.ref C) "__eq__" = some (some (.ref g))) (hf : PySem.W.isFn X.K (.ref g) = true) :
    OpR X (compareOp .NotEq) (fun x y H Q => ∃ a dx fs, x = .ref a ∧ H a = some (.ins C dx fs) ∧ TyX X.K H y (.ref C2) ∧ sp [x, y] H (fun v H' => ∃ b, v = .bl b ∧ Q (.bl (!b)) H') E0) := by
  intro pins s σ H x y v u Q I rx ry h
  obtain ⟨a, dx, fs, rfl, ea, ty, hsp⟩ := h
  cases rx
  obtain ⟨mA, J, _⟩ := ins_get I.hok ea
  obtain ⟨od, J, _⟩ := J.look
  obtain ⟨Pk, kx, pk, _⟩ := kit_of I ry ty
  have hu : X.A.units + 1 < cLine := hr.in1.units0
  show wpAny _ _ (richCompare .NotEq (.ref a) u) _ _ _
  refine ne_KT hu I.kIn J (kx.ty _ _ I.kIn pk) hsub N.mr N.ne hs hf (thn (run_in1 (us := [.ref a, u]) (vs := [.ref a, y]) G hr hb I (.cons rfl (.cons ry .nil)) hsp) fun u s' z => ?_)
  obtain ⟨v, H', I', r, b', rfl, q⟩ := z
  cases (show u = Value.bool b' from r)
  exact ⟨b', rfl, .bl (!b'), H', I', rfl, q⟩
theorem cmp_ownEqO (hT : T cn = some (C, fn)) (hT2 : T cm = some (C2, fm)) (hI : IsiC X.K C2) (hsub : PySem.W.subIn X.K (.ref C2) (.ref C) = some false) (G : FnOk X.prog X.w X.K X.mg X.base CX0 k g fd ps (spC T X.K c)) (hr : Room k X.A) (hb : Binds X.K fd ps []) (hs : PySem.W.findIn X.K (.ref C) "__eq__" = some (some (.ref g))) (hf : PySem.W.isFn X.K (.ref g) = true)
    (hq : c [.dat (.obj cn ds), .dat (.obj cm es)] [] (.dat d) []) : CmpD X T .Eq (.dat (.obj cn ds)) (.dat (.obj cm es)) cs (.dat d) cs := ⟨_, cop_ownEqO hsub G hr hb hs hf, fun ad F H v w Q cc r1 r2 q => by
  have s1 := r1
  have s2 := r2
  cases r1 with
  | @obj a C' dx _ fn' vs' _ ht' na e1 hl r =>
    rw [hT] at ht'
    cases ht'
    cases r2 with
    | @obj a2 C2' dx2 _ fn2 vs2 _ ht2 na2 e2 hl2 r2 =>
      rw [hT2] at ht2
      cases ht2
      exact ⟨a, dx, _, rfl, e1, .base (.ins e2 hI.cl hI.ca hI.cn hI.ct hI.cm), spC0 (ds := [.obj cn ds, .obj cm es]) hq cc ⟨s1, s2, trivial⟩ fun v H' x2 c2 r2 => q v H' ad x2 c2 r2⟩⟩
theorem cmp_ownNeO (hT : T cn = some (C, fn)) (hT2 : T cm = some (C2, fm)) (N : NeC X.K C) (hI : IsiC X.K C2) (hsub : PySem.W.subIn X.K (.ref C2) (.ref C) = some false) (G : FnOk X.prog X.w X.K X.mg X.base CX0 k g fd ps (spC T X.K c)) (hr : Room (k + 1) X.A) (hb : Binds X.K fd ps []) (hs : PySem.W.findIn X.K (.ref C) "__eq__" = some (some (.ref g))) (hf : PySem.W.isFn X.K (.ref g) = true)
    {b : Bool} (hq : c [.dat (.obj cn ds), .dat (.obj cm es)] [] (.dat (.bl b)) []) : CmpD X T .NotEq (.dat (.obj cn ds)) (.dat (.obj cm es)) cs (.dat (.bl (!b))) cs := ⟨_, cop_ownNeO N hsub G hr hb hs hf, fun ad F H v w Q cc r1 r2 q => by
  have s1 := r1
  have s2 := r2
  cases r1 with
  | @obj a C' dx _ fn' vs' _ ht' na e1 hl r =>
    rw [hT] at ht'
    cases ht'
    cases r2 with
    | @obj a2 C2' dx2 _ fn2 vs2 _ ht2 na2 e2 hl2 r2 =>
      rw [hT2] at ht2
      cases ht2
      refine ⟨a, dx, _, rfl, e1, .base (.ins e2 hI.cl hI.ca hI.cn hI.ct hI.cm), spC0 (ds := [.obj cn ds, .obj cm es]) hq cc ⟨s1, s2, trivial⟩ fun v H' x2 c2 r2 => ?_⟩
      cases r2
      exact ⟨b, rfl, q _ H' ad x2 c2 Rep.bl⟩⟩
def PO (cn cm : Nat) (s1 s2 : Sl) : Bool := isO cn s1 && isO cm s2
theorem jc_oEqO (hT : T cn = some (C, fn)) (hT2 : T cm = some (C2, fm)) (hI : IsiC X.K C2) (hsub : PySem.W.subIn X.K (.ref C2) (.ref C) = some false) (G : FnOk X.prog X.w X.K X.mg X.base CX0 k g fd ps (spC T X.K c)) (hr : Room k X.A) (hb : Binds X.K fd ps []) (hs : PySem.W.findIn X.K (.ref C) "__eq__" = some (some (.ref g))) (hf : PySem.W.isFn X.K (.ref g) = true) (h : JCmp X T .Eq w2) :
    JCmp X T .Eq (selW (PO cn cm) (ownW c) w2) := jc_sel (fun s1 s2 cs R hP ⟨d, hq, hR⟩ => by
  obtain ⟨h1, h2⟩ := Bool.and_eq_true_iff.mp hP
  obtain ⟨ds, rfl⟩ := isO_of h1
  obtain ⟨es, rfl⟩ := isO_of h2
  exact ⟨_, _, cmp_ownEqO hT hT2 hI hsub G hr hb hs hf hq, hR⟩) h
theorem jc_oNeO (hT : T cn = some (C, fn)) (hT2 : T cm = some (C2, fm)) (N : NeC X.K C) (hI : IsiC X.K C2) (hsub : PySem.W.subIn X.K (.ref C2) (.ref C) = some false) (G : FnOk X.prog X.w X.K X.mg X.base CX0 k g fd ps (spC T X.K c)) (hr : Room (k + 1) X.A) (hb : Binds X.K fd ps []) (hs : PySem.W.findIn X.K (.ref C) "__eq__" = some (some (.ref g))) (hf : PySem.W.isFn X.K (.ref g) = true) (h : JCmp X T .NotEq w2) :
    JCmp X T .NotEq (selW (PO cn cm) (ownNeW c) w2) := jc_sel (fun s1 s2 cs R hP ⟨b, hq, hR⟩ => by
  obtain ⟨h1, h2⟩ := Bool.and_eq_true_iff.mp hP
  obtain ⟨ds, rfl⟩ := isO_of h1
  obtain ⟨es, rfl⟩ := isO_of h2
  exact ⟨_, _, cmp_ownNeO hT hT2 N hI hsub G hr hb hs hf hq, hR⟩) h
end
end Dl

namespace Dl
open PySem L2
/-! ### [*a, *b], (*a, b): starred items -/
section
variable {X : Cx} {T : Tab} {W : WX} {e : Expr} {es : List Expr} {p : Pos} {w : WpE} {wA : WpA}
theorem slreps_app {K : PySem.W.Frag} {ad : List Addr} {F : Addr → Prop} {H : Hp} : ∀ {vs : List V} {ds : List D} {us : List V} {ss : List Sl}, Reps T K (Mm ad F) H vs ds → SlReps T K ad F H us ss → SlReps T K ad F H (vs ++ us) (ds.map Sl.dat ++ ss)
  | _, _, _, _, .nil, r => r
  | _, _, _, _, .cons a t, r => ⟨a, slreps_app t r⟩
def itemsS (s : Sl) (cs : List Cell) (k : List D → Prop) : Prop := match s with
  | .dat (.tup ds) => k ds
  | s => wL cs s k
theorem rd_star {K : PySem.W.Frag} {ad : List Addr} {F : Addr → Prop} {H : Hp} {cs : List Cell} {s : Sl} {v : V} {k : List D → Prop} (hw : itemsS s cs k) (c : HoldC T K ad F H cs) (r : SlRep T K ad F H v s) :
    ∃ ds a vs, k ds ∧ v = .ref a ∧ (SqT K H a vs ∨ SqL K H a vs) ∧ Reps T K (Mm ad F) H vs ds := by
  unfold itemsS at hw
  split at hw
  · cases r with
    | @tup a ws _ e1 q1 => exact ⟨_, a, ws, hw, rfl, .inl e1.sq, q1⟩
  · obtain ⟨ds, h1, hk⟩ := wL_of hw
    obtain ⟨a, ws, rfl, e1, q1⟩ := rd_lst h1 c r
    exact ⟨ds, a, ws, hk, rfl, .inr (SqL.of e1), q1⟩
def wStar (w : WpE) (wA : WpA) : WpA := fun sl cs R Rx => w sl cs (fun s c => itemsS s c fun ds => wA sl c (fun ss c2 => R (ds.map Sl.dat ++ ss) c2) Rx) Rx
theorem ja_star (ha : JE X T W e w) (hr : JA X T W es wA) (hs : starEach (.Starred e p :: es) X.env = (true, eval e X.env) :: starEach es X.env := by rfl) : JA X T W (.Starred e p :: es) (wStar w wA) :=
  weakA (StX.pa_star ha hr hs) fun σ H Q ⟨ad, F, sl, cs, R, Rx, h0, hw, q, qx⟩ => ⟨ad, F, sl, cs, _, Rx, h0, hw, fun s1 c1 v H1 ad1 hw1 x1 h1 r1 => by
    obtain ⟨ds, a, vs, hk, rfl, hsq, q0⟩ := rd_star hw1 h1.hc r1
    exact ⟨a, vs, rfl, hsq, ad1, F, sl, c1, _, Rx, h1, hk, fun ss c2 us H2 ad2 hw2 x2 h2 r2 => q _ c2 _ H2 ad2 hw2 (x1.trans h1.hc x2) h2 (slreps_app (q0.kp x2.kp) r2), qx.on x1 h1⟩, qx⟩
end
/-! ### dict(xs), xs a list of pairs; len(d); list(d.keys()) -/
def prD : List D → Option (List (Key × D))
  | [] => some []
  | .tup [k, v] :: r => match keyD k, prD r with
    | some x, some l => some ((x, v) :: l)
    | _, _ => none
  | _ :: _ => none
def mergeD (acc more : List (Key × D)) : List (Key × D) := more.foldl (fun acc kv => putD acc kv.1 kv.2) acc
section
variable {T : Tab} {K : PySem.W.Frag} {M : Addr → Prop} {H : Hp}
theorem pairs_rep : ∀ {ds : List D} {kds : List (Key × D)} {vs : List V}, prD ds = some kds → Reps T K M H vs ds → ∃ ps kvs, vs = ps.map V.ref ∧ Paired (fun p (kv : Key × V) => SqT K H p [kV kv.1, kv.2]) ps kvs ∧ KR T K M H kvs kds
  | [], kds, vs, h, r => by
    cases h
    cases r
    exact ⟨[], [], rfl, .nil, .nil⟩
  | d :: ds, kds, vs, h, r => by
    unfold prD at h
    split at h
    · rename_i e; cases e
    · rename_i k x r0 e
      cases e
      split at h
      · rename_i x' l hk hl
        cases h
        cases r with
        | cons a t =>
          obtain ⟨ps, kvs, rfl, h2, h3⟩ := pairs_rep hl t
          cases a with
          | @tup p ws _ e1 q1 =>
            cases q1 with
            | cons a1 t1 =>
              cases t1 with
              | cons a2 t2 =>
                cases t2
                cases key_rep a1 hk
                exact ⟨p :: ps, (x', _) :: kvs, rfl, .cons e1.sq h2, .cons a2 h3⟩
      · cases h
    · cases h
theorem KR.merge {kvs : List (Key × V)} {kds : List (Key × D)} (h : KR T K M H kvs kds) : ∀ {acc : List (Key × V)} {accd : List (Key × D)}, KR T K M H acc accd → KR T K M H (mergeK acc kvs) (mergeD accd kds) := by
  induction kds generalizing kvs with
  | nil =>
    intro acc accd q
    have : kvs = [] := by
      have := h.len
      cases kvs with
      | nil => rfl
      | cons _ _ => cases this
    subst this
    exact q
  | cons p r ih =>
    intro acc accd q
    cases kvs with
    | nil => have := h.len; cases this
    | cons a t =>
      obtain ⟨d, r', e, h1, h2⟩ := h.inv
      cases e
      exact ih h2 (q.put h1)
end
section
variable {X : Cx} {T : Tab} {W : WX} {ad : List Addr} {F : Addr → Prop} {H : Hp} {cs : List Cell} {s1 : Sl} {ds : List D} {kds : List (Key × D)}
theorem new_dctC {K : PySem.W.Frag} {kvs : List (Key × V)} {Q : VK} (c : HoldC T K ad F H cs) (r : KR T K (Mm ad F) H kvs kds) (q : ∀ z H' ad', Ext ad F H ad' H' → HoldC T K ad' F H' (cs ++ [.dct kds]) → SlRep T K ad' F H' z (.cel cs.length) → Q z H')
    {p : Addr} (hp : H p = none) : Q (.ref p) (upd H p (.dK kvs)) := by
  have kp : Kp (Mm ad F) H (Mm (ad ++ [p]) F) (upd H p (.dK kvs)) := fun a o e n => by
    have np : a ≠ p := ne_of_none e hp
    refine ⟨by rw [upd_ne np]; exact e, fun z => ?_⟩
    rcases z with z | z
    · rcases List.mem_append.mp z with z | z
      · exact n (.inl z)
      · exact np (List.mem_singleton.mp z)
    · exact n (.inr z)
  obtain ⟨c2, x2⟩ := c.cell (o := .dK kvs) (c := .dct kds) hp ⟨kvs, upd_same, r.kp kp⟩
  refine q _ _ _ x2 c2 ⟨p, ?_, rfl⟩
  rw [← c.ln, List.getElem?_append_right (Nat.le_refl _), Nat.sub_self]
  rfl
theorem cb_dictP (hc : X.calm = true) (h : isLst cs ds s1) (hp : prD ds = some kds) : CalB X T "dict" [s1] cs (.cel cs.length) (cs ++ [.dct (mergeD [] kds)]) := ⟨_, _, by decide +kernel, .inr ⟨_, rfl⟩, call_dictP hc, fun ad F H vs Q c r q => by
  match vs, r with
  | [v], r =>
    obtain ⟨a, ws, rfl, e1, q1⟩ := rd_lst h c r.1
    obtain ⟨ps, kvs, rfl, h2, h3⟩ := pairs_rep hp q1
    exact ⟨a, ps, kvs, rfl, SqL.of e1, h2, fun l hl => new_dctC c (h3.merge .nil) q hl⟩⟩
theorem cb_dictD (h : kdOf cs s1 = some kds) : CalB X T "dict" [s1] cs (.cel cs.length) (cs ++ [.dct kds]) := ⟨_, _, by decide +kernel, .inr ⟨_, rfl⟩, call_dictD, fun ad F H vs Q c r q => by
  match vs, r with
  | [v], r =>
    obtain ⟨a, kvs, rfl, e1, h3⟩ := rd_dct h c r.1
    exact ⟨a, kvs, rfl, e1, fun l hl => new_dctC c h3 q hl⟩⟩
def dictW : WC := fun ss cs R => match ss with
  | [s] => match kdOf cs s with
    | some kds => R (.cel cs.length) (cs ++ [.dct kds])
    | none => wL cs s fun ds => match prD ds with
      | some kds => R (.cel cs.length) (cs ++ [.dct (mergeD [] kds)])
      | none => False
  | _ => False
theorem jc_dict (hc : X.calm = true) : JCall X T "dict" dictW := ⟨⟨.type "dict", by decide +kernel, .inr ⟨_, rfl⟩⟩, fun ss cs R h => by
  unfold dictW at h
  split at h
  · split at h
    · rename_i hk
      exact ⟨_, _, cb_dictD hk, h⟩
    · obtain ⟨ds, h1, h⟩ := wL_of h
      split at h
      · rename_i hp
        exact ⟨_, _, cb_dictP hc h1 hp, h⟩
      · exact h.elim
  · exact h.elim⟩
theorem cb_lenC {j : Nat} (h : cs[j]? = some (.dct kds)) : CalB X T "len" [.cel j] cs (.dat (.int kds.length)) cs := ⟨_, _, PySem.boot_len, .inl ⟨_, rfl⟩, call_lenD, fun ad F H vs Q c r q => by
  match vs, r with
  | [v], r =>
    obtain ⟨a, ha, rfl⟩ := r.1
    obtain ⟨kvs, e1, e2, q1⟩ := c.ce _ a _ ha h
    refine ⟨a, kvs, rfl, e1, ?_⟩
    rw [KR.len (show KR T X.K (Mm ad F) H kvs kds from ⟨e2, q1⟩)]
    exact q _ H ad .refl c Rep.int⟩
/-- len, also of a dict cell -/
def lenWD : WC := fun ss cs R => match ss with
  | [.cel j] => match cs[j]? with
    | some (.dct kds) => R (.dat (.int kds.length)) cs
    | _ => lenW [.cel j] cs R
  | ss => lenW ss cs R
theorem jc_lenD : JCall X T "len" lenWD := ⟨⟨_, PySem.boot_len, .inl ⟨_, rfl⟩⟩, fun ss cs R h => by
  unfold lenWD at h
  split at h
  · split at h
    · rename_i hj
      exact ⟨_, _, cb_lenC hj, h⟩
    · exact jc_len.run _ _ _ h
  · exact jc_len.run _ _ _ h⟩
end
/-! list(d.keys()) -/
section
variable {X : Cx} {e : Expr} {te : TE} {p apos cpos pos : Pos}
def tListKeys (te : TE) : TE := fun σ H Q => te σ H fun x H1 => ∃ (d : Addr) (kvs : List (Key × V)), x = .ref d ∧ H1 d = some (.dK kvs) ∧ ∀ p, H1 p = none → Q (.ref p) (upd H1 p (.lst (kvs.map fun kv => kV kv.1)))
open PySem.Spec PyProof.Rows in
theorem pe_listKeys (hc : X.calm = true) (he : PE X e te) (hg : Gl X "list") (hm : X.mg "list" = none) (hv : bootBuiltins "list" = some (.type "list")) (hbase : attributeBase e "keys" X.env (eval e X.env) = eval e X.env := by rfl) (hline : (apos.endLine == cpos.line) = true := by rfl)
    (hs : starEach [.Call (.Attribute e "keys" apos) [] [] cpos] X.env = (false, eval (.Call (.Attribute e "keys" apos) [] [] cpos) X.env) :: starEach [] X.env := by rfl) :
    PE X (.Call (.Name "list" p) [.Call (.Attribute e "keys" apos) [] [] cpos] [] pos) (tListKeys te) := by
  refine ⟨fun pins s σ H Q I hq => ?_⟩
  refine wpAny_Call_Name_kw (ld_blt I hg hm hv ?_)
  refine PyProof.Rows.callWith_type1 ?_ hs rfl
  rw [hs]
  show wpAny _ _ (spliced ((false, eval (.Call (.Attribute e "keys" apos) [] [] cpos) X.env) :: backTo pos (starEach [] X.env))) _ _ s
  refine Calls.spliced_cons ?_
  refine wpAny_Call_method (T := "dict") (id := "dict.keys") hbase rfl hline F.plainAttrs_dict F.slot_dict_keys F.type_dict_keys (thn (he.run pins s σ H _ I hq) fun u s1 ⟨x, H1, I1, rx, d, kvs, ex, hd, q⟩ => ?_)
  subst ex
  obtain rfl : u = Value.ref d := rx
  obtain ⟨hz, hs0, vs, kv, hdo⟩ := I1.hok d _ hd
  obtain ⟨ep, hat⟩ := hdo.dictAt
  have lk : kvs.length = vs.length := Paired.length kv
  have I2 : Inv X pins σ H1 { s1 with heap := s1.heap.push { cls := .type "dict_keys", data := .fields #[.ref d] } } := I1.kept (t' := s1.toks) fun b ob q => Heap.get?_push_of_some _ q
  refine ⟨hdo.typeIs, hdo.mapOf.noDict, ?_⟩
  show wpAny _ _ (callWith cpos (.builtin "dict.keys") [.ref d] [] []) _ X.xe s1
  refine method_meetsIn F.slot_dict_keys F.entry_dict_keys rfl (PySem.evalArgs_none ⟨rfl, hdo.typeIs, F.args_dict_keys_1 _, _, PySem.W.kdl_meets_keys (mixKind X.prog X.w) d hs0, ⟨vs, hdo⟩, ?_⟩)
  refine Calls.spliced_nil ?_
  have ek : (kvs.map fun kv => kV kv.1) = vs.map fun p => kV p.1 := by
    have e := congrArg (List.map kV) kv.keys
    rw [List.map_map, List.map_map] at e
    exact e
  refine PySem.W.kdl_call (PySem.W.kdl_keys (knd := mixKind X.prog X.w) (d := d) (kvs := vs) (ep := ep)) (I1.ok.hd hc) ⟨⟨_, Heap.get?_push_size _ rfl, rfl, rfl⟩, hat.push _⟩ (by omega) fun h' tk acc c hk hD hacc => ?_
  have hvl : Vals (vs.map fun p => kV p.1) acc.toList := keys_at (by rw [Array.length_toList]; exact hacc.1) fun j v e => hacc.2 j v (by rw [← Array.getElem?_toList]; exact e)
  have newS : H1 (s1.heap.push { cls := .type "dict_keys", data := .fields #[.ref d] }).objs.size = none := I2.hok.fresh (Nat.le_refl _)
  exact ⟨.ref _, upd H1 _ (.lst (kvs.map fun kv => kV kv.1)), I2.laid (t' := tk) hk (Nat.le_refl _)
    (show ObjOk X.prog X.w _ _ _ (.lst (kvs.map fun kv => kV kv.1)) from ⟨by rw [List.length_map]; exact hz, acc.toList, c, by rw [ek]; exact hvl, by rw [Array.toArray_toList]; exact hD⟩), rfl, q _ newS⟩
end
def keyOf' : Key → D
  | .inl i => .int i
  | .inr x => .str x
section
variable {X : Cx} {T : Tab} {W : WX} {e : Expr} {p apos cpos pos : Pos} {we : WpE}
def wListKeys (we : WpE) : WpE := fun sl cs R Rx => we sl cs (fun s c => match s with
  | .cel j => match c[j]? with
    | some (.dct kds) => R (.dat (.lst (kds.map fun kv => keyOf' kv.1))) c
    | _ => False
  | _ => False) Rx
theorem reps_keys {K : PySem.W.Frag} {M : Addr → Prop} {H : Hp} : ∀ ks : List Key, Reps T K M H (ks.map kV) (ks.map keyOf')
  | [] => .nil
  | .inl i :: ks => .cons .int (reps_keys ks)
  | .inr x :: ks => .cons .str (reps_keys ks)
theorem je_listKeys (hz : X.mg "list" = none) (hc : X.calm = true) (he : JE X T W e we) (hg : Gl X "list" := by rfl) (hv : bootBuiltins "list" = some (.type "list") := by decide +kernel) (hbase : attributeBase e "keys" X.env (eval e X.env) = eval e X.env := by rfl) (hline : (apos.endLine == cpos.line) = true := by rfl)
    (hs : starEach [.Call (.Attribute e "keys" apos) [] [] cpos] X.env = (false, eval (.Call (.Attribute e "keys" apos) [] [] cpos) X.env) :: starEach [] X.env := by rfl) :
    JE X T W (.Call (.Name "list" p) [.Call (.Attribute e "keys" apos) [] [] cpos] [] pos) (wListKeys we) :=
  weak (pe_listKeys hc he hg hz hv hbase hline hs) fun σ H Q ⟨ad, F, sl, cs, R, Rx, h0, hw, q, qx⟩ => ⟨ad, F, sl, cs, _, Rx, h0, hw, fun s c1 v H1 ad1 hw1 x1 h1 r1 => by
    split at hw1
    · rename_i j
      split at hw1
      · rename_i kds hj
        obtain ⟨a, ha, rfl⟩ := r1
        obtain ⟨kvs, e1, e2, q1⟩ := h1.hc.ce j a _ ha hj
        refine ⟨a, kvs, rfl, e1, fun p hp => ?_⟩
        have ev : (kvs.map fun kv => kV kv.1) = (kds.map (·.1)).map kV := by rw [← e2, List.map_map]; rfl
        have ed : (kds.map fun kv => keyOf' kv.1) = (kds.map (·.1)).map keyOf' := by rw [List.map_map]; rfl
        rw [ev]
        rw [ed] at hw1
        exact new_lst (Q := fun z H' => Q z H') h1.hc (reps_keys _) (fun z H' ad' x2 k2 r2 => q _ c1 z H' ad' hw1 (x1.trans h1.hc x2) (h1.to x2 k2) r2) hp
      · exact hw1.elim
    · exact hw1.elim, qx⟩
end
end Dl

namespace Dl
open PySem L2
/-! ### tuple * 0, tuple * 1 -/
section
open PySem.Spec PyProof.Rows
theorem tuple_mulW1 (l : Addr) (items : Array Value) (n : Nat) (dd : Option Addr) (sl : Array (Option Value)) (u : Tok) (c1 : (items.isEmpty || (1 : Int) == 1) = true) :
    Meets (Builtin.«tuple.__mul__» ⟨[.ref l, .int 1 u], []⟩) (fun _ R s => s.heap.get? l = some { cls := .type "tuple", dict := dd, data := .seq items n, slots := sl } ∧ R (.ok (.ret (Value.ref l))) s) :=
  .of_wp fun prog w A R s h => by
    obtain ⟨hp, g, d, tk, os⟩ := s
    obtain ⟨hl, h⟩ := h
    have f1 := AutoSeq1.idx_int
    wp_walk using wpAny_loadPart' hl
    exact ⟨_, rfl, h⟩
theorem tuple_mulW0 (l : Addr) (items : Array Value) (n : Nat) (dd : Option Addr) (sl : Array (Option Value)) (u : Tok) (c1 : items.isEmpty = false) :
    Meets (Builtin.«tuple.__mul__» ⟨[.ref l, .int 0 u], []⟩) (fun _ R s => s.heap.get? l = some { cls := .type "tuple", dict := dd, data := .seq items n, slots := sl } ∧
      R (.ok (.ret (Value.ref s.heap.objs.size))) { s with heap := s.heap.push { cls := Value.type "tuple", data := Data.seq #[] }, toks := s.toks }) :=
  .of_wp fun prog w A R s h => by
    obtain ⟨hp, g, d, tk, os⟩ := s
    obtain ⟨hl, h⟩ := h
    have f1 := AutoSeq1.idx_int
    wp_walk using wpAny_loadPart' hl
    exact ⟨_, rfl, h⟩
def rRepT01 (K : PySem.W.Frag) : R2 := fun x y H Q => ∃ l k xs, x = .ref l ∧ y = .int k ∧ SqT K H l xs ∧ xs ≠ [] ∧ ((k = 1 ∧ Q (.ref l) H) ∨ (k = 0 ∧ ∀ p, H p = none → Q (.ref p) (upd H p (.tup []))))
theorem op_repT01 {X : Cx} : OpR X (binaryOp .Mult) (rRepT01 X.K) := by
  intro pins s σ H x y v u Q I rx ry h
  obtain ⟨l, k, xs, rfl, rfl, hT, hne, q⟩ := h
  cases rx
  obtain ⟨t, rfl⟩ := ry
  obtain ⟨its, r, ⟨⟨cls, dd, data, sl⟩, ho, hc, n, hd⟩, hs⟩ := I.tuple hT
  simp only at hc hd
  subst hc hd
  have hle : its.length = xs.length := r.length.symm
  have hn : its ≠ [] := fun e => hne (by
    rw [e] at hle
    exact List.eq_nil_of_length_eq_zero hle.symm)
  have hi : its.toArray.isEmpty = false := by
    cases its with
    | nil => exact absurd rfl hn
    | cons a b => rfl
  rcases q with ⟨rfl, q⟩ | ⟨rfl, q⟩
  · exact wpAny_binaryOp_repeat_ref (T := "tuple") (U := "int") (by decide) ⟨_, ho, rfl⟩ (fun s' => typeIs_int s' 1 t) noFill_tuple_mul F.fills_int_mul F.slot_int_rmul repeat_tuple F.slot_int_index.lookup
      (call_meets F.slot_int_rmul (typeIs_int s 1 t) F.entry_int_rmul (F.args_int_rmul_2 _ _) (int_rmul_tuple 1 t l its.toArray n dd sl)
        ⟨ho, rfl, ⟨_, ho, rfl⟩, call_meets F.slot_tuple_mul ⟨_, ho, rfl⟩ F.entry_tuple_mul (F.args_tuple_mul_2 _ _) (tuple_mulW1 l its.toArray n dd sl t (by rw [hi]; rfl)) ⟨ho, .ref l, H, I.tok _, rfl, q⟩⟩)
  · refine wpAny_binaryOp_repeat_ref (T := "tuple") (U := "int") (by decide) ⟨_, ho, rfl⟩ (fun s' => typeIs_int s' 0 t) noFill_tuple_mul F.fills_int_mul F.slot_int_rmul repeat_tuple F.slot_int_index.lookup
      (call_meets F.slot_int_rmul (typeIs_int s 0 t) F.entry_int_rmul (F.args_int_rmul_2 _ _) (int_rmul_tuple 0 t l its.toArray n dd sl)
        ⟨ho, rfl, ⟨_, ho, rfl⟩, call_meets F.slot_tuple_mul ⟨_, ho, rfl⟩ F.entry_tuple_mul (F.args_tuple_mul_2 _ _) (tuple_mulW0 l its.toArray n dd sl t hi) ⟨ho, ?_⟩⟩)
    refine ⟨.ref s.heap.objs.size, _, I.laid (t' := s.toks) (o := .tup []) (fun b ob q => Heap.get?_push_of_some _ q) (Nat.le_refl _) ?_, rfl, q _ (I.hok.fresh (Nat.le_refl _))⟩
    exact ⟨Nat.zero_le _, [], .nil, IsTup.new _ _⟩
end
section
variable {X : Cx} {T : Tab} {ds : List D} {cs : List Cell}
theorem bin_repT01 {j : Int} (h0 : ds ≠ []) (h1 : j = 0 ∨ j = 1) : BinD X T .Mult (.dat (.tup ds)) (.dat (.int j)) cs (.dat (.tup (List.replicate j.toNat ds).flatten)) cs := ⟨_, op_repT01, fun ad F H v w Q c r1 r2 q => by
  cases r2
  cases r1 with
  | @tup a ws _ e1 q1 =>
    refine ⟨a, j, ws, rfl, rfl, e1.sq, fun z => h0 ?_, ?_⟩
    · subst z
      cases q1
      rfl
    · rcases h1 with rfl | rfl
      · exact .inr ⟨rfl, fun p hp => new_tup (ds := []) c .nil q hp⟩
      · refine .inl ⟨rfl, q _ H ad .refl c ?_⟩
        have e : (List.replicate (1 : Int).toNat ds).flatten = ds := by simp
        rw [e]
        exact Rep.tup e1 q1⟩
/-- tuple * n, n from 0 to 1000 -/
def mulT2W : W2 := fun s1 s2 cs R => match s1, s2 with
  | .dat (.tup ds), .dat (.int j) => (ds ≠ [] ∧ 0 ≤ j ∧ j ≤ 1000 ∧ ds.length ≤ 1000) ∧ R (.dat (.tup (List.replicate j.toNat ds).flatten)) cs
  | s1, s2 => mulW s1 s2 cs R
theorem jb_mulT2 : JBin X T .Mult mulT2W := fun s1 s2 cs R h => by
  unfold mulT2W at h
  split at h
  · obtain ⟨⟨h1, h2, h3, h4⟩, h⟩ := h
    rename_i j
    by_cases z : 2 ≤ j
    · exact ⟨_, _, bin_repT h1 z h3 h4, h⟩
    · exact ⟨_, _, bin_repT01 h1 (by omega), h⟩
  · exact jb_mul _ _ _ _ h
end
end Dl

namespace Dl
open PySem L2
/-! ### d[k], by existence -/
section
variable {X : Cx} {T : Tab} {W : WX} {o i : Expr} {pos : Pos} {wo wi : WpE}
def keyS : Sl → Option Key
  | .dat d => keyD d
  | .cel _ => none
def dgetE (s i : Sl) (cs : List Cell) (R : RV) : Prop := ∃ kds k d, kdOf cs s = some kds ∧ keyS i = some k ∧ getK kds k = some d ∧ R (.dat d) cs
def wDgetE (wo wi : WpE) : WpE := fun sl cs R Rx => wo sl cs (fun s c1 => wi sl c1 (fun i c2 => dgetE s i c2 R) Rx) Rx
theorem je_dgetE (hu : X.A.units + 64 < cLine) (ho : JE X T W o wo) (hi : JE X T W i wi) (hs : NoSl i := by exact fun _ _ => rfl) : JE X T W (.Subscript o i pos) (wDgetE wo wi) :=
  weak (pe_dget (by omega) ho hi hs) fun σ H Q ⟨ad, F, sl, cs, R, Rx, h0, hw, q, qx⟩ => ⟨ad, F, sl, cs, _, Rx, h0, hw, fun s c1 v H1 ad1 hw1 x1 h1 r1 => ⟨ad1, F, sl, c1, _, Rx, h1, hw1, fun t c2 v2 H2 ad2 hw2 x2 h2 r2 => by
    obtain ⟨kds, k, z, hd, hk, hz, hw2⟩ := hw2
    cases t with
    | cel j => cases hk
    | dat d =>
      obtain ⟨a, kvs, rfl, e1, e2⟩ := rd_dct hd h2.hc (r1.ext x2)
      cases key_rep r2 hk
      obtain ⟨w, hv, rw'⟩ := e2.val.2 z hz
      exact ⟨a, w, rfl, .inl ⟨kvs, k, e1, rfl, hv.symm⟩, q _ c2 w H2 ad2 hw2 (x1.trans h1.hc x2) h2 rw'⟩, qx.on x1 h1⟩, qx⟩
theorem dg_ {A : List (Key × D) → Prop} {Bk : Key → Prop} {R : D → Prop} {kds : List (Key × D)} {k : Key} {d : D} (h1 : A kds) (h2 : Bk k) (h3 : getK kds k = some d) (q : R d) : ∃ kds k d, A kds ∧ Bk k ∧ getK kds k = some d ∧ R d := ⟨kds, k, d, h1, h2, h3, q⟩
/-- dict(x), by existence -/
def dictOf (cs : List Cell) (s : Sl) : Option (List (Key × D)) := match kdOf cs s with
  | some kds => some kds
  | none => (lstOf cs s).bind fun ds => (prD ds).map (mergeD [])
def dictEW : WC := fun ss cs R => match ss with
  | [s] => ∃ kds, dictOf cs s = some kds ∧ R (.cel cs.length) (cs ++ [.dct kds])
  | _ => False
theorem jc_dictE (hc : X.calm = true) : JCall X T "dict" dictEW := ⟨⟨.type "dict", by decide +kernel, .inr ⟨_, rfl⟩⟩, fun ss cs R h => by
  unfold dictEW at h
  split at h
  · rename_i s
    obtain ⟨kds, h1, h⟩ := h
    refine (jc_dict (T := T) hc).run _ _ _ ?_
    unfold dictW
    unfold dictOf at h1
    split at h1
    · rename_i hk
      cases h1
      dsimp only
      rw [hk]
      exact h
    · rename_i hk
      dsimp only
      rw [hk]
      dsimp only
      unfold wL
      cases e : lstOf cs s with
      | none => rw [e] at h1; cases h1
      | some ds =>
        rw [e] at h1
        dsimp only
        cases e2 : prD ds with
        | none => rw [Option.bind_some, e2] at h1; cases h1
        | some k2 =>
          rw [Option.bind_some, e2] at h1
          cases h1
          exact h
  · exact h.elim⟩
end
/-! ### o[i] = e, by existence -/
section
variable {X : Cx} {T : Tab} {W : WX} {n : Nat} {e o ix : Expr} {pos p' : Pos} {we wo wx : WpE}
def setLE (s i d : Sl) (cs : List Cell) (k : List Cell → Prop) : Prop := ∃ j ii dd ds m, s = .cel j ∧ i = .dat (.int ii) ∧ d = .dat dd ∧ cs[j]? = some (.lst ds) ∧ ixN ds.length ii = some m ∧ k (cs.set j (.lst (ds.set m dd)))
def wSetLE (we wo wx : WpE) : WS := fun S P => we S.sl S.cs (fun d c1 => wo S.sl c1 (fun s c2 => wx S.sl c2 (fun i c3 => setLE s i d c3 fun c4 => P.nx ⟨S.sl, c4⟩) (fun x c => P.ex x ⟨S.sl, c⟩)) (fun x c => P.ex x ⟨S.sl, c⟩)) (fun x c => P.ex x ⟨S.sl, c⟩)
theorem js_setLE (he : JE X T W e we) (ho : JE X T W o wo) (hx : JE X T W ix wx)
    (ha : ∀ v, assign (.Subscript o ix p') X.env v = (do
      let ov ← holding [v] (eval o X.env)
      let iv ← holding [v, ov] (eval ix X.env)
      standAt p'
      holding [v, ov, iv] (setItem ov iv v)
      release [v, ov, iv] []) := by intro _; rfl)
    (hs : swapsWithSole [.Subscript o ix p'] e pos.line X.env = pure false := by rfl) (hw : swappedStores [.Subscript o ix p'] e X.env = pure none := by rfl)
    (h1 : (assignEach [.Subscript o ix p'] X.env).map (·.2) = [assign (.Subscript o ix p') X.env] := by rfl) : JS X T W n (.Assign [.Subscript o ix p'] e pos) (wSetLE we wo wx) := fun S P h =>
  weakS (ps_asg he (pg_sub ho hx set_list ha) hs hw h1) fun D σ H ⟨ad, F, hn, h0, q1, q2, q3, q4, q5⟩ => ⟨ad, F, S.sl, S.cs, _, _, h0, h, fun d c1 v H1 ad1 hR1 x1 h1 r1 => ⟨ad1, F, S.sl, c1, _, _, h1, hR1, fun s c2 w H2 ad2 hR2 x2 h2 r2 => ⟨ad2, F, S.sl, c2, _, _, h2, hR2, fun i c3 z H3 ad3 hR3 x3 h3 r3 => by
    obtain ⟨j, ii, dd, ds, m, rfl, rfl, rfl, hk, hm, hR3⟩ := hR3
    cases r3
    have r2' := SlRep.ext x3 r2
    obtain ⟨a, ea, rfl⟩ := r2'
    obtain ⟨vs, e1, q0⟩ := h3.hc.ce j a _ ea hk
    have rd : Rep T X.K (Mm ad3 F) H3 v dd := SlRep.ext (s := .dat dd) x3 (SlRep.ext (s := .dat dd) x2 r1)
    refine ⟨a, vs, ii, m, rfl, rfl, e1, by rw [q0.length]; exact hm, ?_⟩
    have kp : Kp (Mm ad3 F) H3 (Mm ad3 F) (upd H3 a (.lst (vs.set m v))) := fun b o e nn => ⟨by rw [upd_ne (fun z => nn (.inl (by rw [z]; exact List.mem_of_getElem? ea)))]; exact e, nn⟩
    obtain ⟨k4, x4⟩ := h3.hc.setc (o := .lst (vs.set m v)) (c := .lst (ds.set m dd)) ea ⟨_, upd_same, (q0.set rd m).kp kp⟩
    have x := x1.trans h1.hc (x2.trans h2.hc (x3.trans h3.hc x4))
    exact q1 _ _ _ ad3 (x.s hn) (x.le hn) (h3.to x4 k4) hR3, ((raz_of hn q5).on x1 h1).on x2 h2⟩, (raz_of hn q5).on x1 h1⟩, raz_of hn q5⟩
end
end Dl

namespace Dl
open PySem L2
/-! ### the last two cells change places -/
def swpV (m : Nat) : Option Sl → Option Sl
  | some (.cel k) => some (.cel (if k = m then m + 1 else if k = m + 1 then m else k))
  | x => x
def swpW (n : Nat) (S : Sta) (k : Sta → Prop) : Prop := match S.cs.reverse with
  | y :: x :: r => n ≤ r.length ∧ k ⟨S.sl.map (swpV r.length), r.reverse ++ [y, x]⟩
  | _ => False
def wSwp (n : Nat) (w : WS) : WS := fun S P => swpW n S fun S' => w S' P
theorem two_at {α : Type} {p : List α} {a b : α} {k : Nat} {c : α} (h : (p ++ [a, b])[k]? = some c) : (k < p.length ∧ p[k]? = some c) ∨ (k = p.length ∧ c = a) ∨ (k = p.length + 1 ∧ c = b) := by
  rw [List.getElem?_append] at h
  split at h
  · exact .inl ⟨‹_›, h⟩
  · rename_i z
    match e : k - p.length, h with
    | 0, h => cases h; exact .inr (.inl ⟨by omega, rfl⟩)
    | 1, h => cases h; exact .inr (.inr ⟨by omega, rfl⟩)
    | j + 2, h => cases h
theorem at_lo {α : Type} {p q : List α} {k : Nat} (h : k < p.length) : (p ++ q)[k]? = p[k]? := List.getElem?_append_left h
theorem at_m {α : Type} {p : List α} {a b : α} {k : Nat} (h : k = p.length) : (p ++ [a, b])[k]? = some a := by
  rw [List.getElem?_append_right (by omega), h, Nat.sub_self]; rfl
theorem at_m1 {α : Type} {p : List α} {a b : α} {k : Nat} (h : k = p.length + 1) : (p ++ [a, b])[k]? = some b := by
  rw [List.getElem?_append_right (by omega), h, show p.length + 1 - p.length = 1 by omega]; rfl
theorem last2 {α : Type} {l : List α} {m : Nat} (h : l.length = m + 2) : ∃ p a b, l = p ++ [a, b] ∧ p.length = m := by
  match e : l.reverse with
  | [] => have := congrArg List.length e; simp at this; simp [this] at h
  | [x] => have := congrArg List.length e; simp at this; omega
  | b :: a :: r =>
    have := congrArg List.reverse e
    rw [List.reverse_reverse] at this
    refine ⟨r.reverse, a, b, by rw [this]; simp, ?_⟩
    have := congrArg List.length this
    simp at this
    rw [List.length_reverse]
    omega
section
variable {X : Cx} {T : Tab} {W : WX}
theorem dss_swap {n : Nat} {S : Sta} {P : Post} {sts : List Stmt} {r : List Cell} {x y : Cell} (e : S.cs = r ++ [x, y]) (hn0 : n ≤ r.length) (h : DSs X T n ⟨S.sl.map (swpV r.length), r ++ [y, x]⟩ sts P) : DSs X T n S sts P :=
  weakSs h fun D σ H ⟨ad, F, hn, h0, q1, q2, q3, q4, q5⟩ => by
    have ln : ad.length = r.length + 2 := by rw [h0.hc.ln, e]; simp
    obtain ⟨p, a, b, rfl, pl⟩ := last2 ln
    have pm : (p ++ [b, a]).Perm (p ++ [a, b]) := List.Perm.append_left p (List.Perm.swap a b [])
    have em : Mm (p ++ [b, a]) F = Mm (p ++ [a, b]) F := funext fun z => propext (by unfold Mm; rw [pm.mem_iff])
    have ce : ∀ (k : Nat) z c, (p ++ [b, a])[k]? = some z → (r ++ [y, x])[k]? = some c → CellAt T X.K (Mm (p ++ [b, a]) F) H z c := fun k z c h1 h2 => by
      rw [em]
      rcases two_at h1 with ⟨k1, h1⟩ | ⟨k1, rfl⟩ | ⟨k1, rfl⟩
      · rw [at_lo (by omega)] at h2
        exact h0.hc.ce k z c (by rw [at_lo k1]; exact h1) (by rw [e, at_lo (by omega)]; exact h2)
      · rw [at_m (by omega)] at h2
        cases h2
        exact h0.hc.ce (k + 1) _ _ (at_m1 (by omega)) (by rw [e]; exact at_m1 (by omega))
      · rw [at_m1 (by omega)] at h2
        cases h2
        exact h0.hc.ce p.length _ _ (at_m rfl) (by rw [e]; exact at_m pl)
    refine tDS.go (σ := σ) (ad1 := p ++ [b, a]) ⟨?_, fun z hz => .inl (pm.mem_iff.mp hz), fun _ _ h _ => h, fun _ _ => .inl rfl⟩ (by simpa using hn) ⟨⟨pm.nodup_iff.mpr h0.hc.nd, fun z hz => h0.hc.fr z (pm.mem_iff.mp hz), h0.hc.al, h0.hc.tb, by simp [pl], ce⟩, by rw [h0.sz]; simp, fun i s es => ?_⟩ q1 q2 q3 q4 q5
    · rw [List.take_append_of_le_length (by omega), List.take_append_of_le_length (by omega)]
    · have es : (S.sl.map (swpV r.length))[i]? = some (some s) := es
      rw [List.getElem?_map] at es
      cases e0 : S.sl[i]? with
      | none => rw [e0] at es; cases es
      | some o =>
        rw [e0] at es
        have es : swpV r.length o = some s := Option.some.inj es
        cases o with
        | none => cases es
        | some s0 =>
          obtain ⟨v, hv, rr⟩ := h0.sl i s0 e0
          refine ⟨v, hv, ?_⟩
          cases s0 with
          | dat d =>
            cases es
            show Rep T X.K (Mm (p ++ [b, a]) F) H v d
            rw [em]
            exact rr
          | cel k =>
            obtain ⟨c, hc, ev⟩ := rr
            have es : some (Sl.cel (if k = r.length then r.length + 1 else if k = r.length + 1 then r.length else k)) = some s := es
            cases es
            refine ⟨c, ?_, ev⟩
            rcases two_at hc with ⟨k1, h1⟩ | ⟨k1, rfl⟩ | ⟨k1, rfl⟩
            · rw [if_neg (by omega), if_neg (by omega), at_lo k1]
              exact h1
            · rw [if_pos (by omega)]
              exact at_m1 (by omega)
            · rw [if_neg (by omega), if_pos (by omega)]
              exact at_m (by omega)
theorem jss_swp {n : Nat} {sts : List Stmt} {w : WS} (h : JSs X T W n sts w) : JSs X T W n sts (wSwp n w) := fun S P hw => by
  have hw : swpW n S fun S' => w S' P := hw
  unfold swpW at hw
  split at hw
  · rename_i y x r e
    have e : S.cs = r.reverse ++ [x, y] := by
      have := congrArg List.reverse e
      rw [List.reverse_reverse] at this
      rw [this]
      simp
    refine dss_swap e (by rw [List.length_reverse]; exact hw.1) ?_
    rw [List.length_reverse]
    exact h _ P hw.2
  · exact hw.elim
end
end Dl

namespace Dl
open PySem L2
/-! ### range(i, j, c), c above 0 -/
def rangeC (lo c : Int) (n : Nat) : List D := (List.range n).map fun i : Nat => D.int (lo + (i : Int) * c)
theorem rangeC_get {lo c : Int} {n i : Nat} {d : D} (h : (rangeC lo c n)[i]? = some d) : i < n ∧ d = .int (lo + (i : Int) * c) := by
  unfold rangeC at h
  rw [List.getElem?_map] at h
  by_cases hi : i < n
  · rw [List.getElem?_range hi] at h
    exact ⟨hi, (Option.some.inj h).symm⟩
  · rw [List.getElem?_eq_none (by simpa using hi)] at h
    cases h
theorem itc_ok {T : Tab} {K : PySem.W.Frag} {F : Addr → Prop} {lo c : Int} {n : Nat} {ad1 : List Addr} {H1 : Hp} : ItOk T K F (Itc lo c n) (rangeC lo c n) ad1 H1 := fun F2 ad2 H2 cs2 c2 kp i => by
  refine ⟨fun d hd => ?_, fun hi => ?_⟩
  · obtain ⟨hi, rfl⟩ := rangeC_get hd
    refine ⟨hi, fun v H3 y => ?_⟩
    obtain ⟨rfl, rfl⟩ := y
    exact ⟨fun _ _ z => z, .int⟩
  · unfold rangeC at hi
    simp at hi
    subst hi
    exact Nat.le_refl _
def stepsC (i j c : Int) : Nat := if i < j then ((j - i - 1) / c + 1).toNat else 0
def Sm40 (i : Int) : Prop := -(2 ^ 40) ≤ i ∧ i < 2 ^ 40
theorem rgC_ok {i j c : Int} (h0 : 0 < c) (h1 : c < 2 ^ 30) (hi : Sm40 i) (hj : Sm40 j) : RgC i j c (stepsC i j c) := by
  obtain ⟨i0, i1⟩ := hi
  obtain ⟨j0, j1⟩ := hj
  have dv : i < j → 0 ≤ (j - i - 1) / c ∧ (j - i - 1) / c ≤ j - i - 1 := fun z => ⟨Int.ediv_nonneg (by omega) (by omega), Int.ediv_le_self _ (by omega)⟩
  have es : Builtin.Range.rangeSize i j c = (stepsC i j c : Nat) := by
    unfold Builtin.Range.rangeSize stepsC
    rw [if_pos h0]
    split
    · have := dv ‹_›
      omega
    · rfl
  have eb : ((stepsC i j c : Nat) : Int) ≤ 2 ^ 42 := by
    unfold stepsC
    split
    · have := dv ‹_›
      omega
    · decide
  refine ⟨by omega, by omega, ?_, es⟩
  unfold Builtin.Range.small
  rw [es]
  simp only [Builtin.Range.rangeFitsLong, Bool.and_eq_true, Bool.or_eq_true, decide_eq_true_eq, beq_iff_eq, h0, if_true]
  omega
def rng3W (ss : List Sl) (k : List D → Prop) : Prop := match ss with
  | [.dat (.int i), .dat (.int j), .dat (.int c)] => (Sm40 i ∧ Sm40 j ∧ 0 < c ∧ c < 2 ^ 30) ∧ k (rangeC i c (stepsC i j c))
  | _ => False
def wRng3 (wA : WpA) : WpI := fun sl cs R Rx => wA sl cs (fun ss c => rng3W ss fun ds => R ds c) Rx
theorem ji_range3 {X : Cx} {T : Tab} {W : WX} {tg e e2 e3 : Expr} {wA : WpA} {p pos : Pos} (hm : X.mg "range" = none) (ha : JA X T W [e, e2, e3] wA) (hg : Gl X "range" := by rfl)
    (hs : starEach [e, e2, e3] X.env = (false, eval e X.env) :: starEach [e2, e3] X.env := by rfl) (hpl : (backTo pos (starEach [e2, e3] X.env)).any (·.1) = false := by rfl) : JI X T W tg (.Call (.Name "range" p) [e, e2, e3] [] pos) (wRng3 wA) :=
  weakI (pi_range3 hg hm ha hs hpl) fun σ H Q ⟨ad, F, sl, cs, R, Rx, h0, hw, q, qx⟩ => ⟨ad, F, sl, cs, _, Rx, h0, hw, fun ss c1 vs H1 ad1 hw1 x1 h1 r1 => by
    unfold rng3W at hw1
    split at hw1
    · match vs, r1 with
      | [v, w, u], r1 =>
        have r3 := r1.2.2.1
        have r2 := r1.2.1
        have r1 := r1.1
        cases r1
        cases r2
        cases r3
        obtain ⟨⟨a1, a2, a3, a4⟩, hw1⟩ := hw1
        exact ⟨_, _, _, _, rfl, rgC_ok a3 a4 a1 a2, q _ c1 _ H1 ad1 hw1 x1 h1 itc_ok⟩
    · exact hw1.elim, qx⟩
end Dl

namespace Dl
open PySem L2 PySem.Spec PyProof.Rows
/-! ### lambdas that capture nothing: made, handed in, called -/
section
variable {X : Cx} {pins : List (Addr × Obj)} {σ : L2.St} {H : Hp} {s : Shared}
theorem lamO_at {P : Program} {w : World} {h : Heap} {f c : Addr} {F : LamF} (ok : HOk P w H h) (e : H f = some (LamO f F c)) : ∃ pm ctv : Value, h.get? f = some (PySem.W.kla_obj "<lambda>" F.q F.ps F.b F.sc [] pm c ctv) := (ok f _ e).1
theorem clo_nil {cells : List (Str × Addr)} : ∀ {names : List (Str × NameKind)}, (∀ y ∈ names, y.2 ≠ .free) → cloFrom cells names [] = [] := fun {names} h => by
  cases e : cloFrom cells names [] with
  | nil => rfl
  | cons x r =>
    rcases cloFrom_mem (show (x.1, x.2) ∈ cloFrom cells names [] by rw [e]; exact List.mem_cons_self) with z | ⟨z, _⟩
    · cases z
    · exact absurd rfl (h _ z)
/-- the object of a lambda just made is known from now on -/
theorem inv_lam {o : Obj} {F : LamF} {c : Addr} {t : Nat} {pm ctv : Value} (I : Inv X pins σ H s) (ho : o = PySem.W.kla_obj "<lambda>" F.q F.ps F.b F.sc [] pm c ctv) :
    Inv X pins σ (L2.upd H s.heap.objs.size (LamO s.heap.objs.size F c)) { s with heap := s.heap.push o, toks := t } := by
  cases ho
  have at_ : (s.heap.push (PySem.W.kla_obj "<lambda>" F.q F.ps F.b F.sc [] pm c ctv)).get? s.heap.objs.size = some (PySem.W.kla_obj "<lambda>" F.q F.ps F.b F.sc [] pm c ctv) := Heap.get?_push_size _ rfl
  exact I.laid (a := s.heap.objs.size) (fun _ _ e => Heap.get?_push_of_some _ e) (Nat.le_refl _) ⟨⟨pm, ctv, at_⟩, ⟨_, at_⟩, fun _ _ ⟨p, t, z⟩ st => ⟨p, t, st _ z⟩⟩
/-- what the making of a lambda leaves: a new function object; its table may have grown -/
structure Made (H : Hp) (P f c : Addr) (F : LamF) (H1 : Hp) : Prop where
  keep : ∀ b o, b ≠ P → H b = some o → H1 b = some o
  tab : LamX.TabS H1 P F.q
  nf : H f = none
  fn : H1 f = some (LamO f F c)
  co : H1 c = some (LamX.CodeO c F.q)
theorem lam_mk {c P : Addr} {F : LamF} {pos : Pos} {E : Value → Shared → Prop} {Q : Value → Shared → Prop} (I : Inv X pins σ H s) (B : LamX.TabB X.base X.mg c P) (hc : X.env.code = .ref c) (hT : LamX.TabS H P F.q) (hq : X.env.qual ++ "<lambda>" = F.q)
    (hd : defaultsOf F.ps X.env = ([], [])) (hf : ∀ y ∈ F.sc.names, y.2 ≠ .free) (h : ∀ (f c' : Addr) (H1 : Hp) (s' : Shared), Inv X pins σ H1 s' → Made H P f c' F H1 → Q (.ref f) s') :
    wpAny (model X.prog X.w) X.A (eval (.Lambda F.ps F.b F.sc pos) X.env) Q E s := by
  obtain ⟨ps, hP, ht, ha⟩ := hT
  refine PySem.W.kla_eval hd ?_
  rw [hq]
  have bP : s.heap.BuiltinsAt X.mg P := B.bm.keeps I.bk
  have gP : s.heap.get? P = some { cls := .none, data := .fields ps } := I.hok P _ hP
  have cl : closureFor F.sc X.env = pure [] := by
    have z := closure_ok (env := X.env) (scope := F.sc) fun y hy e => absurd e (hf y hy)
    rw [clo_nil hf] at z
    exact z
  cases hca : codeAmong pos ps.toList with
  | some cv =>
    obtain ⟨c', rfl, hco⟩ := ha pos cv hca
    refine PySem.W.kla_makeFunctionHit cl I.ok.glob (I.mod.glob.keeps I.bk) hc (B.code.keeps I.bk) gP ht hca bP fun ctv h' tk hx hsz => ?_
    have I1 : Inv X pins σ H { s with heap := h', toks := tk } := I.kept hx
    have I2 := inv_lam (F := F) (c := c') (t := tk) (pm := (X.mg "__name__").getD .none) (ctv := ctv) I1 rfl
    have nf : H h'.objs.size = none := I1.hok.fresh (Nat.le_refl _)
    have kp : ∀ b o, H b = some o → L2.upd H h'.objs.size (LamO h'.objs.size F c') b = some o := fun b o e => by rw [upd_ne (ne_of_none e nf)]; exact e
    exact h _ c' _ _ I2 ⟨fun b o _ e => kp b o e, LamX.TabS.ext ⟨ps, hP, ht, ha⟩ kp, nf, upd_same, kp _ _ hco⟩
  | none =>
    refine PySem.W.kla_makeFunction cl I.ok.glob (I.mod.glob.keeps I.bk) hc (B.code.keeps I.bk) gP ht hca B.gP bP fun c' ctv h' tk hx hge hlt hrec htb => ?_
    obtain ⟨z, oc, vs, t, ez, hoc, hdt, hv⟩ := hrec
    cases ez
    have nC : H c' = none := I.hok.fresh hge
    have I1 := LamX.inv_table (t' := tk) (more := #[rawInt pos.line, rawInt pos.col, .ref c']) (h' := h') (q := F.q) I hP (fun b o hb e => hx b o hb e) htb hge ⟨oc, vs, t, hoc, hdt, hv⟩
    have I2 := inv_lam (F := F) (c := c') (t := tk) (pm := (X.mg "__name__").getD .none) (ctv := ctv) I1 rfl
    have n1 := I1.hok.fresh (Nat.le_refl _)
    have nf : H h'.objs.size = none := I.hok.fresh (Nat.le_trans hge (Nat.le_of_lt hlt))
    have kp : ∀ b o, b ≠ P → H b = some o → L2.upd (L2.upd (L2.upd H P (.tbl (ps ++ #[rawInt pos.line, rawInt pos.col, .ref c']))) c' (LamX.CodeO c' F.q)) h'.objs.size (LamO h'.objs.size F c') b = some o := fun b o hb e => by
      rw [upd_ne (ne_of_none e nf), upd_ne (ne_of_none e nC), upd_ne hb]
      exact e
    have nPf : P ≠ h'.objs.size := ne_of_none hP nf
    have nPc : P ≠ c' := ne_of_none hP nC
    have e1 : (ps ++ #[rawInt pos.line, rawInt pos.col, .ref c']).toList = ps.toList ++ [rawInt pos.line, rawInt pos.col, .ref c'] := by simp
    have hco : L2.upd (L2.upd (L2.upd H P (.tbl (ps ++ #[rawInt pos.line, rawInt pos.col, .ref c']))) c' (LamX.CodeO c' F.q)) h'.objs.size (LamO h'.objs.size F c') c' = some (LamX.CodeO c' F.q) := by
      rw [upd_ne (Nat.ne_of_lt hlt)]; exact upd_same
    refine h _ c' _ _ I2 ⟨kp, ⟨_, by rw [upd_ne nPf, upd_ne nPc]; exact upd_same, by rw [e1]; exact PySem.TriplesOk_snoc _ _ _ _ ht, fun p' cv hcv => ?_⟩, nf, upd_same, hco⟩
    rw [e1] at hcv
    rcases LamX.among_app _ ht hcv with y | y
    · obtain ⟨c0, y1, y2⟩ := ha p' cv y
      refine ⟨c0, y1, kp _ _ (fun z => ?_) y2⟩
      rw [z, hP] at y2
      cases y2
    · exact ⟨c', y, hco⟩
end
section
variable {T : Tab} {K : PySem.W.Frag} {ad : List Addr} {Fm : Addr → Prop} {H H1 : Hp} {cs : List Cell} {P f c : Addr} {F : LamF}
theorem made_then (h : HoldC T K ad Fm H cs) (hT : T 900 = some (P, [F.q])) (m : Made H P f c F H1) : HoldC T K ad Fm H1 cs ∧ Ext ad Fm H ad H1 ∧ Rep T K (Mm ad Fm) H1 (.ref f) (.fn F) := by
  obtain ⟨fP, ⟨ps, e1, e2, e3⟩, e4⟩ := h.tb P F.q hT
  obtain ⟨qs, t1, t2, t3⟩ := m.tab
  have x : Ext ad Fm H ad H1 := ⟨⟨[], by simp, fun _ z => nomatch z⟩, fun a o e n => m.keep a o (fun z => n (.inr (z ▸ fP))) e, fun a fa => by
    by_cases z : a = P
    · rw [z]; exact .inr ⟨ps, qs, e1, t1⟩
    · obtain ⟨o, e⟩ := h.al a fa
      exact .inl (by rw [m.keep a o z e, e])⟩
  have nm : ¬ Mm ad Fm f := h.new m.nf
  have nP : c ≠ P := fun z => by
    have e := m.co
    rw [z, t1] at e
    cases e
  have nc : ¬ Mm ad Fm c := fun z => by
    obtain ⟨o, e, n⟩ : ∃ o, H c = some o ∧ ∀ φ, o ≠ .ext φ := z.elim (fun z => h.isx z) (e4 c)
    have e' := m.keep c o nP e
    rw [m.co] at e'
    exact n _ (Option.some.inj e').symm
  refine ⟨⟨h.nd, h.fr, fun a fa => (x.frm a fa).ex (h.al a fa), fun P' q' hq => ?_, h.ln, fun k a c h1 h2 => ?_⟩, x, .fn nm nc m.fn m.co⟩
  · rw [hT] at hq
    cases hq
    refine ⟨fP, m.tab, fun a fa => ?_⟩
    by_cases z : a = P
    · rw [z]; exact ⟨_, t1, fun _ z => nomatch z⟩
    · obtain ⟨o, o1, o2⟩ := e4 a fa
      exact ⟨o, m.keep a o z o1, o2⟩
  · refine (h.ce k a c h1 h2).kp1 x.kp (.inl ?_)
    have ha : a ∈ ad := List.mem_of_getElem? h1
    obtain ⟨o, e, _⟩ := h.is ha
    rw [m.keep a o (fun z => h.fr a ha (z ▸ fP)) e, e]
end
section
variable {X : Cx} {T : Tab} {W : WX} {F : LamF} {c P : Addr} {pos : Pos} {ps : Arguments} {b : Expr} {sc : Scope}
/-- lambda ..: b -/
theorem je_lam (hT : T 900 = some (P, [F.q])) (B : LamX.TabB X.base X.mg c P) (hc : X.env.code = .ref c) (hF : (⟨F.q, ps, b, sc⟩ : LamF) = F := by rfl) (hq : X.env.qual ++ "<lambda>" = F.q := by decide +kernel) (hd : defaultsOf ps X.env = ([], []) := by rfl) (hf : sc.names.all (fun y => !decide (y.2 = .free)) = true := by decide +kernel) :
    JE X T W (.Lambda ps b sc pos) (wCon (.fn F)) := by
  subst_vars
  obtain ⟨q, ps', b', sc'⟩ := F
  cases hF
  exact ⟨fun pins s σ H Q I ⟨ad, Fm, sl, cs, R, Rx, h0, hw, q, qx⟩ => lam_mk (F := ⟨_, ps, b, sc⟩) I B hc (h0.hc.tb P _ hT).2.1 hq hd (fun y hy => by
    have z := List.all_eq_true.mp hf y hy
    simpa using z) fun f c' H1 s' I1 m => by
      obtain ⟨k1, x1, r1⟩ := made_then h0.hc hT m
      exact ⟨.ref f, H1, I1, rfl, q _ cs (.ref f) H1 ad hw x1 (h0.to x1 k1) r1⟩⟩
end
/-! ### the lambda's promise -/
structure LamOk (P : Program) (w : World) (K : PySem.W.Frag) (mg : Str → Option Value) (base : Heap) (k : Nat) (n : Nat) (F : LamF) (sp : Sp) : Prop where
  ln : ∀ {vs : List V} {H : Hp} {Q : VK} {E : XK}, sp vs H Q E → vs.length = n
  go : ∀ {A : Around} {fs : List Env} {s : Shared} {H : Hp} {us : List Value} {vs : List V} {Q : VK} {f c : Addr}, Room k A → Env0 P w K mg base A fs s H → H f = some (LamO f F c) → H c = some (LamX.CodeO c F.q) → Vals vs us → sp vs H Q E0 →
    codeAny (model P w) A (.call (.ref f) ⟨us, []⟩) (CR CX0 fs P w H s Q E0) s
section
variable {P : Program} {w : World} {K : PySem.W.Frag} {mg : Str → Option Value} {base : Heap} {k : Nat} {ps N : List Str} {sp : Sp} {F : LamF}
theorem lam_g (Sc : FnScope N ps F.sc) (hn : ∀ y ∈ F.sc.names, y.2 ≠ .cell) (hb : ∀ (pm cd ctv : Value) (us : List Value), us.length = ps.length → bindArgs (PySem.W.kla_fn "<lambda>" F.q F.ps F.b F.sc [] pm cd ctv) ⟨us, []⟩ = pure (ps.zip us))
    (ln : ∀ {vs : List V} {H : Hp} {Q : VK} {E : XK}, sp vs H Q E → vs.length = ps.length)
    (body : ∀ (A : Around) (fs : List Env) (s : Shared) (H : Hp) (vs : List V) (Q : VK) (f c : Addr), Room k (A.deeper (envOfC F.q F.sc s.heap.objs.size f (.ref c))) → sp vs H Q E0 → ∃ t, PE (cxOf CX0 P w K mg base N F.q F.sc f (.ref c) A fs s H E0) F.b t ∧ t (L2.start N vs) H Q) :
    LamOk P w K mg base (k + 1) ps.length F sp := ⟨ln, fun {A fs s H us vs Q f c} hr e hf hc v h => by
  obtain ⟨pm, ctv, ho⟩ := lamO_at e.hok hf
  have hl := ln h
  refine PySem.W.kla_callFunE hr.depth ho rfl Sc.co Sc.gen rfl (NdefX.codeO_at e.hok hc) ?_
  rw [hb pm (.ref c) ctv us (by rw [← v.length]; exact hl)]
  refine wpAny_pure (wpAny_newFunctionEnv_cells Sc.kind (fun y hy => (Sc.par y.1 (List.of_mem_zip (a := y.1) (b := y.2) hy).1).imp id fun q => ⟨q, PySem.W.cellsFrom_some _ _ _ (.inl q)⟩) fun env he s1 x => ?_)
  cases he
  refine ⟨(e.mod.nolimit.keeps fun a o z => (e.bs a o z).1).keeps x.toInCall.keep, PySem.W.kla_codeExpr ?_⟩
  obtain ⟨t, ht, hq⟩ := body A fs s H vs Q f c (hr.deeper _) h
  exact wpAny_mono (ht.run [] s1 (L2.start N vs) H Q (inv_start Sc hr.hd e hl v x) hq) (fun u s' ⟨v', H', J, rv, q⟩ => ⟨v', H', J.os, J.bare, J.base, J.hok, rv, q⟩) fun _ _ z => z⟩
end
/-- a lambda's contract, of its reading -/
def ctE (N ps : List Str) (w : WpE) : Ct := fun args cs s cs' => args.length = ps.length ∧ w (st0 N args cs).sl cs (fun r c => r = s ∧ c = cs') noX
section
variable {T : Tab} {P : Program} {w : World} {K : PySem.W.Frag} {mg : Str → Option Value} {base : Heap} {k : Nat} {ps N : List Str} {F : LamF} {we : WpE}
theorem lam_J (Sc : FnScope N ps F.sc) (hn : F.sc.names.all (fun y => !decide (y.2 = .cell)) = true) (hb : ∀ (pm cd ctv : Value) (us : List Value), us.length = ps.length → bindArgs (PySem.W.kla_fn "<lambda>" F.q F.ps F.b F.sc [] pm cd ctv) ⟨us, []⟩ = pure (ps.zip us))
    (body : ∀ A fs s H f c, Room k (cxOf CX0 P w K mg base N F.q F.sc f (.ref c) A fs s H E0).A → JE (cxOf CX0 P w K mg base N F.q F.sc f (.ref c) A fs s H E0) T W0 F.b we) :
    LamOk P w K mg base (k + 1) ps.length F (spC T K (ctE N ps we)) := by
  refine lam_g Sc (fun y hy => by simpa using List.all_eq_true.mp hn y hy) hb (fun h => ?_) fun A fs s H vs Q f c hr h => ?_
  · obtain ⟨ad, F', args, cs, s, cs', _, r, hc, _⟩ := h
    rw [r.len, hc.1]
  · obtain ⟨ad, F', args, cs, s0, cs', hc, r, h, q⟩ := h
    refine ⟨_, body A fs s H f c hr, ad, F', _, cs, _, noX, start_hold hc r, h.2, ?_, Raz.no⟩
    rintro s1 c1 v H' ad' ⟨rfl, rfl⟩ x h' r'
    exact q v H' ad' (x.s (Nat.le_of_eq hc.ln.symm)) (x.le (Nat.le_of_eq hc.ln.symm)) h'.hc r'
end
end Dl

namespace Dl
open PySem L2 PySem.Spec PyProof.Rows
/-! ### x(e), x a lambda that was handed in -/
section
variable {X : Cx} {F : LamF} {x : Str} {p pos : Pos} {e : Expr} {es : List Expr} {n k : Nat} {sp : Sp}
def tCallL (F : LamF) (sp : Sp) (to : TE) (t : TA) : TE := fun σ H Q => to σ H fun v H1 => ∃ f c, v = .ref f ∧ H1 f = some (LamO f F c) ∧ t σ H1 fun vs H2 => H2 f = some (LamO f F c) ∧ H2 c = some (LamX.CodeO c F.q) ∧ sp vs H2 Q E0
theorem lam_fnAt {P : Program} {w : World} {H : Hp} {h : Heap} {f c : Addr} (ok : HOk P w H h) (e : H f = some (LamO f F c)) : PySem.W.FnAt f h := by
  obtain ⟨pm, ctv, z⟩ := lamO_at ok e
  exact ⟨_, _, _, _, z⟩
theorem pe_callL {to : TE} {t : TA} (ho : PE X (.Name x p) to) (L : LamOk X.prog X.w X.K X.mg X.base k n F sp) (hr : Room k X.A) (ha : PA X (e :: es) t) (h1 : starEach (e :: es) X.env = (false, eval e X.env) :: starEach es X.env) (h2 : (backTo pos (starEach es X.env)).any (·.1) = false) :
    PE X (.Call (.Name x p) (e :: es) [] pos) (tCallL F sp to t) := ⟨fun pins s σ H Q I h => by
  refine wpAny_Call_Name_kw (thn (ho.run pins s σ H _ I h) fun u s1 z => ?_)
  obtain ⟨v, H1, I1, rv, f, c, ev, ef, q⟩ := z
  subst ev
  cases (show u = Value.ref f from rv)
  refine PySem.W.callWith_F (first := []) (lam_fnAt I1.hok ef) (thn (ha.run pos pins s1 σ H1 _ I1 q) fun us s2 z => ?_) h1 h2
  obtain ⟨vs, H2, I2, r, e2, c2, q2⟩ := z
  refine ⟨lam_fnAt I2.hok e2, wpAny_call (codeAny_mono (L.go hr I2.env0 e2 c2 r q2) fun rr s3 hq => ?_)⟩
  match rr, hq with
  | .error _, hq => exact False.elim hq
  | .ok (.ret u), hq => exact I2.after hq
  | .ok .next, hq => exact hq.elim
  | .ok .brk, hq => exact hq.elim
  | .ok .cont, hq => exact hq.elim⟩
end
section
variable {X : Cx} {T : Tab} {W : WX} {F : LamF} {x : Str} {p pos : Pos} {e : Expr} {es : List Expr} {n k : Nat} {c : Ct} {wo : WpE} {wA : WpA}
def wCallL (F : LamF) (c : Ct) (wo : WpE) (wA : WpA) : WpE := fun sl cs R Rx => wo sl cs (fun s c1 => s = .dat (.fn F) ∧ wA sl c1 (fun ss c2 => callW c ss c2 R) Rx) Rx
theorem je_callL (L : LamOk X.prog X.w X.K X.mg X.base k n F (spC T X.K c)) (hr : Room k X.A) (he : JE X T W (.Name x p) wo) (ha : JA X T W (e :: es) wA)
    (h1 : starEach (e :: es) X.env = (false, eval e X.env) :: starEach es X.env := by rfl) (h2 : (backTo pos (starEach es X.env)).any (·.1) = false := by rfl) : JE X T W (.Call (.Name x p) (e :: es) [] pos) (wCallL F c wo wA) :=
  weak (pe_callL he L hr ha h1 h2) fun σ H Q ⟨ad, Fm, sl, cs, R, Rx, h0, hw, q, qx⟩ => ⟨ad, Fm, sl, cs, _, Rx, h0, hw, fun s c1 v H1 ad1 hw1 x1 h1 r1 => by
    obtain ⟨rfl, hw1⟩ := hw1
    have r0 : Rep T X.K (Mm ad1 Fm) H1 v (.fn F) := r1
    cases r0 with
    | @fn f c' _ n1 n2 e1 e2 =>
      refine ⟨f, c', rfl, e1, ad1, Fm, sl, c1, _, Rx, h1, hw1, fun ss c2 vs H2 ad2 hw2 x2 h2 r2 => ⟨(x2.kp f _ e1 n1).1, (x2.kp c' _ e2 n2).1, ?_⟩, qx.on x1 h1⟩
      exact callW_then h2.hc r2 hw2 fun s' c3 v H' ad' hR x3 k3 r3 => q s' c3 v H' ad' hR (x1.trans h1.hc (x2.trans h2.hc x3)) (h2.to x3 k3) r3, qx⟩
end
/-! ### dict displays -/
section
variable {X : Cx} {T : Tab} {W : WX} {ad : List Addr} {F : Addr → Prop} {H : Hp} {cs : List Cell} {kds : List (Key × D)} {pos p1 p2 : Pos} {i : Int} {b : Bool} {k1 k2 : Nat}
/-- a new dict, locked at once: data -/
theorem new_dctD {K : PySem.W.Frag} {kvs : List (Key × V)} {Q : VK} (c : HoldC T K ad F H cs) (r : KR T K (Mm ad F) H kvs kds) (q : ∀ z H' ad', Ext ad F H ad' H' → HoldC T K ad' F H' cs → SlRep T K ad' F H' z (.dat (dctD kds)) → Q z H')
    {p : Addr} {od : Obj} (hp : H p = none) : Q (.ref p) (upd H p (.frz od (.dK kvs))) := by
  obtain ⟨c2, x2⟩ := c.newo (o := .frz od (.dK kvs)) hp
  exact q _ _ ad x2 c2 (.dct (c.new hp) upd_same r.1 (r.2.kp x2.kp))
def wDnewD : WpE := fun _ cs R _ => R (.dat (dctD [])) cs
theorem je_dnewD : JE X T W (.Dict [] [] pos) wDnewD := weak (pe_lockV pe_dnewK) fun σ H Q ⟨ad, F, sl, cs, R, Rx, h0, hw, q, qx⟩ p hp => ⟨p, _, rfl, upd_same, trivial, fun od => by
  rw [upd_upd]
  exact new_dctD (kvs := []) (kds := []) h0.hc .nil (fun z H' ad' x2 k2 r2 => q _ cs z H' ad' hw x2 (h0.to x2 k2) r2) hp⟩
theorem pe_dis1 : PE X (.Dict [some (.Constant (.int i) k1 p1)] [.Constant (.bool b) k2 p2] pos) (fun σ H Q => ∀ p, H p = none → Q (.ref p) (upd H p (.dK [(.inl i, .bl b)]))) :=
  weak (pe_disp (pps_cons pe_int pe_bl pps_nil) rfl rfl (by simp) (by simp)) fun σ H Q h p hp => by
    refine ⟨upd_same, [(.inl i, .bl b)], rfl, by simp, ?_⟩
    have z := h p hp
    show Q (.ref p) (upd (upd H p (.dK [])) p (.dK [(.inl i, .bl b)]))
    rw [upd_upd]
    exact z
def wDis (i : Int) (b : Bool) : WpE := fun _ cs R _ => R (.cel cs.length) (cs ++ [.dct [(.inl i, .bl b)]])
theorem je_dis : JE X T W (.Dict [some (.Constant (.int i) k1 p1)] [.Constant (.bool b) k2 p2] pos) (wDis i b) := weak pe_dis1 fun σ H Q ⟨ad, F, sl, cs, R, Rx, h0, hw, q, qx⟩ p hp =>
  new_dctC (kvs := [(.inl i, .bl b)]) (kds := [(.inl i, .bl b)]) h0.hc (KR.cons .bl .nil) (fun z H' ad' x2 k2 r2 => q _ _ z H' ad' hw x2 (h0.to x2 k2) r2) hp
def wDisD (i : Int) (b : Bool) : WpE := fun _ cs R _ => R (.dat (dctD [(.inl i, .bl b)])) cs
theorem je_disD : JE X T W (.Dict [some (.Constant (.int i) k1 p1)] [.Constant (.bool b) k2 p2] pos) (wDisD i b) := weak (pe_lockV pe_dis1) fun σ H Q ⟨ad, F, sl, cs, R, Rx, h0, hw, q, qx⟩ p hp => ⟨p, _, rfl, upd_same, trivial, fun od => by
  rw [upd_upd]
  exact new_dctD (kvs := [(.inl i, .bl b)]) (kds := [(.inl i, .bl b)]) h0.hc (KR.cons .bl .nil) (fun z H' ad' x2 k2 r2 => q _ cs z H' ad' hw x2 (h0.to x2 k2) r2) hp⟩
end
/-! ### list(d), len(d), d.items() -/
section
variable {X : Cx} {T : Tab} {W : WX} {ad : List Addr} {F : Addr → Prop} {H : Hp} {cs : List Cell} {kds : List (Key × D)} {s1 : Sl}
theorem cb_listD (hc : X.calm = true) (h : kdOf cs s1 = some kds) : CalB X T "list" [s1] cs (.dat (.lst (kds.map fun kv => keyOf' kv.1))) cs := ⟨_, _, by decide +kernel, .inr ⟨_, rfl⟩, call_listD hc, fun ad F H vs Q c r q => by
  match vs, r with
  | [v], r =>
    obtain ⟨a, kvs, rfl, e1, h3⟩ := rd_dct h c r.1
    refine ⟨a, kvs, rfl, e1, fun l hl => ?_⟩
    have ev : (kvs.map fun kv => kV kv.1) = (kds.map (·.1)).map kV := by rw [← h3.1, List.map_map]; rfl
    have ed : (kds.map fun kv => keyOf' kv.1) = (kds.map (·.1)).map keyOf' := by rw [List.map_map]; rfl
    rw [ev]
    rw [ed] at q
    exact new_lst (Q := fun z H' => Q z H') c (reps_keys _) (fun z H' ad' x2 k2 r2 => q z H' ad' x2 k2 r2) hl⟩
/-- list(d), d a dict -/
def listWD : WC := fun ss cs R => match ss with
  | [s] => match kdOf cs s with
    | some kds => R (.dat (.lst (kds.map fun kv => keyOf' kv.1))) cs
    | none => False
  | _ => False
theorem jc_listD (hc : X.calm = true) : JCall X T "list" listWD := ⟨⟨.type "list", by decide +kernel, .inr ⟨_, rfl⟩⟩, fun ss cs R h => by
  unfold listWD at h
  split at h
  · split at h
    · rename_i hk
      exact ⟨_, _, cb_listD hc hk, h⟩
    · exact h.elim
  · exact h.elim⟩
theorem call_lenR : CallR X (.builtin "len") (fun xs H Q => ∃ a kvs, xs = [V.ref a] ∧ Rd H a (.dK kvs) ∧ Q (.int kvs.length) H) := fun pins s σ H xs us Q I r h => by
  obtain ⟨a, kvs, rfl, ha, q⟩ := h
  obtain ⟨u, rfl, ru⟩ := vals1 r
  cases ru
  exact d_len I ha fun t s' I' => ⟨.int kvs.length, H, I', ⟨t, rfl⟩, q⟩
theorem cb_lenDR (h : kdOf cs s1 = some kds) : CalB X T "len" [s1] cs (.dat (.int kds.length)) cs := ⟨_, _, PySem.boot_len, .inl ⟨_, rfl⟩, call_lenR, fun ad F H vs Q c r q => by
  match vs, r with
  | [v], r =>
    obtain ⟨a, kvs, rfl, e1, h3⟩ := rd_dct h c r.1
    refine ⟨a, kvs, rfl, e1, ?_⟩
    rw [h3.len]
    exact q _ H ad .refl c Rep.int⟩
/-- len(d), d a dict -/
def lenWR : WC := fun ss cs R => match ss with
  | [s] => match kdOf cs s with
    | some kds => R (.dat (.int kds.length)) cs
    | none => False
  | _ => False
theorem jc_lenR : JCall X T "len" lenWR := ⟨⟨_, PySem.boot_len, .inl ⟨_, rfl⟩⟩, fun ss cs R h => by
  unfold lenWR at h
  split at h
  · split at h
    · rename_i hk
      exact ⟨_, _, cb_lenDR hk, h⟩
    · exact h.elim
  · exact h.elim⟩
end
section
variable {T : Tab} {K : PySem.W.Frag} {F : Addr → Prop} {ad : List Addr} {H : Hp} {a : Addr} {o : Obj} {kvs : List (Key × V)}
theorem key_repO {T : Tab} {M : Addr → Prop} : ∀ k : Key, Rep T K M H (kV k) (keyOf k)
  | .inl _ => Rep.int
  | .inr _ => Rep.str
/-- the pairs of a dict as data -/
def prsD (ks : List Key) (xs : List D) : List D := (ks.zip xs).map fun kv => .tup [keyOf kv.1, kv.2]
theorem iti_ok {xs : List D} (n : ¬ Mm ad F a) (e1 : H a = some (.frz o (.dK kvs))) (r : Reps T K (Mm ad F) H (kvs.map (·.2)) xs) : ItOk T K F (Iti a o kvs) (prsD (kvs.map (·.1)) xs) ad H := fun F2 ad2 H2 cs2 c2 kp i => ⟨fun d hd => by
    obtain ⟨e2, n2⟩ := kp a _ e1 n
    unfold prsD at hd
    rw [List.getElem?_map] at hd
    cases hz : ((kvs.map (·.1)).zip xs)[i]? with
    | none => rw [hz] at hd; cases hd
    | some kd =>
      rw [hz] at hd
      have hd : D.tup [keyOf kd.1, kd.2] = d := Option.some.inj hd
      subst hd
      obtain ⟨z1, z2⟩ := List.getElem?_zip_eq_some.mp hz
      rw [List.getElem?_map] at z1
      cases hk : kvs[i]? with
      | none => rw [hk] at z1; cases z1
      | some kv =>
        rw [hk] at z1
        have z1 : kv.1 = kd.1 := Option.some.inj z1
        obtain ⟨v, hv, rv⟩ := (r.kp kp).get z2
        rw [List.getElem?_map, hk] at hv
        have hv : kv.2 = v := Option.some.inj hv
        refine ⟨⟨e2, (List.getElem?_eq_some_iff.mp hk).1⟩, fun w H3 y => ?_⟩
        obtain ⟨Tt, k, v', hv', rfl, hT, rfl⟩ := y
        rw [hk] at hv'
        have hv' : kv = (k, v') := Option.some.inj hv'
        subst hv'
        obtain ⟨c3, x3⟩ := c2.newo (o := .tup [kV k, v']) hT
        refine ⟨fun b o' e => by rw [upd_ne (ne_of_none e hT)]; exact e, .tup (vs := [kV k, v']) (.inl ⟨c2.new hT, .inl upd_same⟩) (.cons ?_ (.cons ?_ .nil))⟩
        · rw [← z1]; exact key_repO k
        · cases hv
          exact rv.kp x3.kp, fun hi => ⟨(kp a _ e1 n).1, by
      have l := r.length
      rw [List.length_map] at l
      unfold prsD at hi
      rw [List.length_map, List.length_zip, List.length_map, ← l, Nat.min_self] at hi
      omega⟩⟩
end
section
variable {X : Cx} {T : Tab} {W : WX} {e : Expr} {w : WpE} {elts : List Expr} {kk : Nat} {tpos apos cpos : Pos}
def itemsKW (s : Sl) (k : List D → Prop) : Prop := match s with
  | .dat (.dct ks xs) => k (prsD ks xs)
  | _ => False
def wItemsK (w : WpE) : WpI := fun sl cs R Rx => w sl cs (fun s c => itemsKW s fun ds => R ds c) Rx
theorem ji_items (he : JE X T W e w) (hb : attributeBase e "items" X.env (eval e X.env) = eval e X.env := by rfl) (hl : (apos.endLine == cpos.line) = true := by rfl) : JI X T W (.Tuple elts kk tpos) (.Call (.Attribute e "items" apos) [] [] cpos) (wItemsK w) :=
  weakI (pi_items he hb hl) fun σ H Q ⟨ad, F, sl, cs, R, Rx, h0, hw, q, qx⟩ => ⟨ad, F, sl, cs, _, Rx, h0, hw, fun s c1 v H1 ad1 hw1 x1 h1 r1 => by
    unfold itemsKW at hw1
    split at hw1
    · cases r1 with
      | @dct a o kvs ks ds n e1 e2 r => exact ⟨a, o, kvs, rfl, e1, q _ c1 _ H1 ad1 hw1 x1 h1 (by rw [← e2]; exact iti_ok n e1 r)⟩
    · exact hw1.elim, qx⟩
end
end Dl

namespace Dl
open PySem L2 PySem.Spec PyProof.Rows
/-! ### a def whose code object is known -/
section
variable {T : Tab} {P : Program} {w : World} {K : PySem.W.Frag} {mg : Str → Option Value} {base : Heap} {nm qual : Str} {st : Stmt} {f c : Addr} {N ps : List Str} {k : Nat} {ws : Nat → WS} {dV kV doc pm ct oc : Value} {an od : Option Addr} {osl : Array (Option Value)} {fd : FuncData}
structure FunC (K : PySem.W.Frag) (nm qual : Str) (st : Stmt) (f c : Addr) (fd : FuncData) : Prop where
  ex : ∃ (dV kV doc pm ct oc : Value) (an od : Option Addr) (osl : Array (Option Value)), fd = PySem.W.fnOf nm qual (defArgs st) (defBody st) (defScope st) dV kV doc pm an (.ref c) ct ∧ K.lookup f = some ⟨oc, od, .func fd, osl⟩ ∧ PySem.W.codeIn K (.ref c) qual = true
theorem fn_JL (F : FunC K nm qual st f c fd) (Sc : FnScope N ps (defScope st)) (body : ∀ A fs s H E, Room k (cx0 P w K mg base N qual st f (.ref c) A fs s H E).A → ∀ n, JSs (cx0 P w K mg base N qual st f (.ref c) A fs s H E) T W0 n (defBody st) (ws n)) :
    FnOk P w K mg base CX0 (k + 1) f fd ps (spC T K (ctOf N ps ws)) := by
  obtain ⟨dV, kV, doc, pm, ct, oc, an, od, osl, rfl, l1, l2⟩ := F.ex
  have ln : ∀ {vs : List V} {H : Hp} {Q : VK} {E : XK}, spC T K (ctOf N ps ws) vs H Q E → vs.length = ps.length := fun ⟨_, _, _, _, _, _, _, r, h, _⟩ => by rw [r.len, h.1]
  refine ⟨fun vs H Q E h => ln h, fun A fs s H as us vs Q E hr e b v h => ?_⟩
  have ok := e.mod.kin.keeps fun a o z => (e.bs a o z).1
  refine codeAny_call_function hr.depth (ok _ _ l1) rfl Sc.co Sc.gen rfl (PySem.W.codeRec_of ok l2) (b _ _ _ _ ?_)
  refine wpAny_newFunctionEnv_cells Sc.kind (fun y hy => (Sc.par y.1 (List.of_mem_zip (a := y.1) (b := y.2) hy).1).imp id fun q => ⟨q, PySem.W.cellsFrom_some _ _ _ (.inl q)⟩) fun env he s1 x => ?_
  cases he
  refine ⟨(e.mod.nolimit.keeps fun a o z => (e.bs a o z).1).keeps x.toInCall.keep, codeAny_func ?_⟩
  have st1 := inv_start (CX := CX0) (E := E) Sc hr.hd e (ln h) v x
  obtain ⟨ad, F', args, cs, s0, cs', hc, r, hh, q⟩ := h
  have bd : DSs (cx0 P w K mg base N qual st f (.ref c) A fs s H E) T cs.length (st0 N args cs) (defBody st) ((endJ cs.length s0 cs').to W0) := body A fs s H E (hr.deeper _) _ _ _ hh.2
  obtain ⟨t, tb, hq⟩ : ∃ t, PSs (cxOf CX0 P w K mg base N qual (defScope st) f (.ref c) A fs s H E) (defBody st) t ∧ t { nx := fun _ H' => Q .non H', rt := Q } (L2.start N vs) H := by
    refine ⟨_, PSs.nox bd, ad, F', Nat.le_of_eq hc.ln.symm, start_hold hc r, ?_, ?_, fun _ _ _ _ _ _ _ z => z.elim, fun _ _ _ _ _ _ _ z => z.elim, fun _ _ _ _ _ _ _ _ _ _ _ z => z.elim⟩
    · rintro S' σ' H' ad' x hn h' ⟨rfl, ez⟩
      subst ez
      exact q .non H' (ad'.take cs.length) (ext_take x) (by rw [List.length_take]; omega) (h'.hc.take _) Rep.non
    · rintro s2 cs2 v H' ad' x hn c2 r2 ⟨rfl, rfl⟩
      exact q v H' ad' x hn c2 r2
  refine wpAny_mono (tb.run [] s1 (L2.start N vs) H _ st1 hq) (fun fl s' z => ?_) fun _ _ z => z
  match fl, z with
  | .ret u, ⟨v, _, H', J, rv, q⟩ => exact ⟨v, H', J.os, J.bare, J.base, J.hok, rv, q⟩
  | .next, ⟨_, H', J, q⟩ => exact ⟨.non, H', J.os, J.bare, J.base, J.hok, rfl, q⟩
  | .brk, ⟨_, _, _, q⟩ => exact q.elim
  | .cont, ⟨_, _, _, q⟩ => exact q.elim
end
/-! ### the law's end, where a table of code objects is known -/
def spLP (K : PySem.W.Frag) (P : Addr) : Sp := fun vs H Q _ => ∃ (a : Addr) (ns : List Int), vs = [.ref a] ∧ LAt K (fun b => b = P) H a (ns.map V.int) ∧ ns.length ≤ 63 ∧ (∀ z ∈ ns, Builtin.Int.intBits z ≤ 1048576) ∧ H P = some (.tbl #[]) ∧ ∀ H', Q (.bl true) H'
theorem spLP_to {T : Tab} {K : PySem.W.Frag} {P : Addr} {q : Str} {c : Ct} (hT : T 900 = some (P, [q])) (h : ∀ ns : List Int, ns.length ≤ 63 → (∀ z ∈ ns, Builtin.Int.intBits z ≤ 1048576) → c [.dat (.scr (ns.map D.int))] [] (.dat (.bl true)) []) {vs : List V} {H : Hp} {Q : VK} {E : XK} (z : spLP K P vs H Q E) : spC T K c vs H Q E := by
  obtain ⟨a, ns, rfl, hl, hn, hb, hP, hq⟩ := z
  refine ⟨[], fun b => b = P, [.dat (.scr (ns.map D.int))], [], _, _, ⟨List.nodup_nil, fun _ z => (nomatch z), fun b z => by rw [z]; exact ⟨_, hP⟩, fun P' q' z => ?_, rfl, fun _ _ _ e => nomatch e⟩, ⟨Rep.scr (vs := ns.map V.int) ?_ (Reps.ints ns), trivial⟩, h ns hn hb, ?_⟩
  · rw [hT] at z
    cases z
    exact ⟨rfl, LamX.TabS.nil hP, fun b z => by rw [z]; exact ⟨_, hP, fun _ y => nomatch y⟩⟩
  · rcases hl with ⟨n, o, e⟩ | e
    · exact .inl ⟨fun z => z.elim (fun z => nomatch z) n, o, e⟩
    · exact .inr e
  · intro v H' ad' _ _ _ r
    cases r
    exact hq H'
section
variable {P : Program} {w : World} {K : PySem.W.Frag} {mg mb : Str → Option Value} {a c Tp : Addr} {s : Shared} {vs : List Value} {H : Hp}
theorem tab_env (KX : K.In s.heap) (n1 : s.heap.Ns mainGlobals mg) (n2 : s.heap.Ns builtinsNs mb) (n3 : ∀ x : Str, x ≠ "__name__" → mb x = bootBuiltins x) (n4 : s.heap.NoLimit) (n5 : s.gens = #[]) (hd : PySem.W.codeHdIn K c Tp = true)
    (n6 : ∃ (bm : Addr) (o : Obj), mg "__builtins__" = some (.ref bm) ∧ bm ≠ builtinsNs ∧ s.heap.get? bm = some o ∧ o.cls = .type "module" ∧ o.dict = some builtinsNs ∧ o.data = .plain)
    (ha : s.heap.get? a = some { cls := .type "list", data := .seq vs.toArray }) (ht : s.heap.get? Tp = some { cls := .none, data := .fields #[] }) (hok : HOk P w H s.heap) (two : ∀ b, b = a ∨ b = Tp ∨ H b = none) (o1 : H a = none ∨ K.lookup a = none) (o2 : K.lookup Tp = none) :
    ∃ base : Heap, K.In base ∧ base.Ns mainGlobals mg ∧ LamX.TabB base mg c Tp ∧ Env0 P w K mg base callerA [] s H := by
  have plain : ∀ {b : Addr} {o : Obj}, s.heap.get? b = some o → (∀ us n, o.data ≠ .seq us n) → o.data ≠ .fields #[] → (hidT s.heap H).get? b = some o := fun {b o} e h1 h2 => by
    refine hidT_get e ?_
    rcases two b with z | z | z
    · rw [z, ha] at e
      cases e
      exact absurd rfl (h1 _ _)
    · rw [z, ht] at e
      cases e
      exact absurd rfl h2
    · exact z
  have ns : ∀ {b : Addr} {m : Str → Option Value}, s.heap.Ns b m → (hidT s.heap H).Ns b m := by
    rintro b m ⟨o, es, ep, e, d, r⟩
    exact ⟨o, es, ep, plain e (fun _ _ z => by rw [d] at z; cases z) (fun z => by rw [d] at z; cases z), d, r⟩
  have kin : K.In (hidT s.heap H) := by
    intro b o e
    refine hidT_get (KX b o e) ?_
    rcases two b with z | z | z
    · rw [z] at e ⊢
      exact o1.resolve_right fun y => by rw [y] at e; cases e
    · rw [z, o2] at e
      cases e
    · exact z
  have nG : mainGlobals ≠ Tp := fun z => by
    obtain ⟨o, es, ep, e, d, _⟩ := n1
    rw [z, ht] at e
    cases e
    cases d
  obtain ⟨mc, l1, l2⟩ := n4
  obtain ⟨bm, o, b1, b2, b3, b4, b5, b6⟩ := n6
  refine ⟨_, kin, ns n1, ⟨PySem.W.codeHd_of_K kin hd, ⟨bm, o, b1, b2, fun z => ?_, fun z => ?_, plain b3 (fun _ _ z => by rw [b6] at z; cases z) (fun z => by rw [b6] at z; cases z), b4, b5, b6⟩, nG⟩, rfl, ⟨kin, ns n1, ⟨mb, ns n2, n3⟩, ⟨mc, ns l1, l2⟩⟩, fun _ _ e => of_hidT e, Nat.le_of_eq (hidT_size _ _), trivial, (fun _ z => nomatch z), hok, .of_eq n5⟩
  · obtain ⟨o', es, ep, e, d, _⟩ := n1
    rw [z, e] at b3
    cases b3
    rw [d] at b6
    cases b6
  · rw [z, ht] at b3
    cases b3
    cases b6
/-- only the script and the table are known -/
def OnlyP (H : Hp) (Tp : Addr) : Prop := ∀ b, H b = none ∨ b = Tp ∨ ∃ o xs, H b = some (.frz o (.lst xs))
theorem tab_end {s' : Shared} {r : Result} {E : XK} (only : OnlyP H Tp) (hd : PySem.W.CodeHd s.heap c Tp) (ht : s.heap.get? Tp = some { cls := .none, data := .fields #[] }) (hP : H Tp = some (.tbl #[])) (hok : HOk P w H s.heap) (h : CR CX0 [] P w H s (fun v _ => v = .bl true) E r s') :
    r = .ok (.ret (.bool true)) ∧ OldK s.heap s'.heap ∧ s'.os = s.os ∧ AllBare s'.gens := by
  match r, h with
  | .error _, z => exact False.elim z
  | .ok .next, z => exact z.elim
  | .ok .brk, z => exact z.elim
  | .ok .cont, z => exact z.elim
  | .ok (.ret u), ⟨v, H', h1, h2, un, hok', rv, q⟩ =>
    cases (show v = .bl true from q)
    cases (show u = Value.bool true from rv)
    obtain ⟨gr, e0⟩ := un.tbls Tp #[] hP
    have e2 : s'.heap.get? Tp = some { cls := .none, data := .fields (#[] ++ gr) } := hok' Tp _ e0
    have key : ∀ b o, b ≠ Tp → s.heap.get? b = some o → s'.heap.get? b = some o := fun b o nb e => by
      rcases only b with z | z | ⟨ob, xs, z⟩
      · exact un.keep b o e z (fun y => nomatch y) (fun y => nomatch y)
      · exact absurd z nb
      · have e1 := (hok b _ z).1
        rw [e] at e1
        rw [(hok' b _ (un.frzs b ob _ z)).1, e1]
    refine ⟨rfl, ⟨fun b o e => ?_, fun b o e => ?_⟩, h1, h2⟩
    · by_cases nb : b = Tp
      · subst nb
        rw [ht] at e
        cases e
        obtain ⟨oc, us, _, _, _, _, _, _, _, c1, c2, c3, c4, _⟩ := hd
        exact .inr (.inl ⟨⟨c, oc, us, c1, c2, c3, c4⟩, rfl, #[], gr, rfl, e2⟩)
      · exact .inl (key b o nb e)
    · by_cases nb : b = Tp
      · rw [nb]; exact ⟨_, e2⟩
      · exact ⟨o, key b o nb e⟩
theorem law_gP {k : Nat} {fa : Addr} {fd : FuncData} {x : Str} {sp : Sp} {is : List Int} (KX : K.In s.heap) (n1 : s.heap.Ns mainGlobals mg) (n2 : s.heap.Ns builtinsNs mb) (n3 : ∀ x : Str, x ≠ "__name__" → mb x = bootBuiltins x) (n4 : s.heap.NoLimit) (n5 : s.gens = #[]) (hd : PySem.W.codeHdIn K c Tp = true)
    (n6 : ∃ (bm : Addr) (o : Obj), mg "__builtins__" = some (.ref bm) ∧ bm ≠ builtinsNs ∧ s.heap.get? bm = some o ∧ o.cls = .type "module" ∧ o.dict = some builtinsNs ∧ o.data = .plain) (ht : s.heap.get? Tp = some { cls := .none, data := .fields #[] }) (o2 : K.lookup Tp = none)
    (ha : s.heap.get? a = some { cls := .type "list", data := .seq vs.toArray }) (hi : IntsAre vs is) (hl : is.length ≤ sizeLine) (hr : Room k callerA) (F : ∀ base : Heap, K.In base → base.Ns mainGlobals mg → LamX.TabB base mg c Tp → FnG P w K mg base CX0 k fa fd [x] sp)
    (hb : ∀ (s : Shared) (u : Value), BindsTo s fd ⟨[u], []⟩ [(x, u)]) (hs : ∀ H : Hp, H Tp = some (.tbl #[]) → LAt K (fun b => b = Tp) H a (is.map V.int) → sp [.ref a] H (fun v _ => v = .bl true) fun _ _ _ => False) :
    codeAny (model P w) callerA (.call (.ref fa) ⟨[.ref a], []⟩) (fun r s' => r = .ok (.ret (.bool true)) ∧ OldK s.heap s'.heap ∧ s'.os = s.os ∧ AllBare s'.gens) s := by
  have naT : a ≠ Tp := fun z => by rw [z, ht] at ha; cases ha
  have fin : ∀ H : Hp, OnlyP H Tp → H Tp = some (.tbl #[]) → LAt K (fun b => b = Tp) H a (is.map V.int) → HOk P w H s.heap → (∀ b, b = a ∨ b = Tp ∨ H b = none) → (H a = none ∨ K.lookup a = none) → codeAny (model P w) callerA (.call (.ref fa) ⟨[.ref a], []⟩) (fun r s' => r = .ok (.ret (.bool true)) ∧ OldK s.heap s'.heap ∧ s'.os = s.os ∧ AllBare s'.gens) s := fun H h1 h2 h3 h4 h5 h6 => by
    obtain ⟨base, b1, b2, b3, b4⟩ := tab_env KX n1 n2 n3 n4 n5 hd n6 ha ht h4 h5 h6 o2
    exact codeAny_mono ((F base b1 b2 b3).go (us := [.ref a]) (vs := [.ref a]) rfl hr b4 (hb s (.ref a)) (.cons rfl .nil) (hs H h2 h3)) fun r s' z => tab_end h1 (PySem.W.codeHd_of_K KX hd) ht h2 h4 z
  have rv := vals_ints hi
  cases hk : K.lookup a with
  | some o =>
    have e := KX a o hk
    rw [ha] at e
    cases e
    let H1 : Hp := upd (fun _ => none) Tp (.tbl #[])
    have no : ∀ b, b ≠ Tp → H1 b = none := fun b hb => upd_ne hb
    have ca : ∀ b, b = Tp ∨ H1 b = none := fun b => (Classical.em (b = Tp)).imp id (no b)
    refine fin H1 (fun b => (ca b).elim (fun z => .inr (.inl z)) .inl) upd_same (.inr (.inr ⟨_, vs.toArray, _, hk, rfl, rfl, rfl, by rw [List.size_toArray, hi.length]; exact hl, by simpa using rv⟩)) (fun b u z => ?_) (fun b => .inr (ca b)) (.inl (no a naT))
    rcases ca b with h | h
    · subst h
      have z' : some _ = some u := upd_same.symm.trans z
      cases z'
      exact ht
    · rw [h] at z
      cases z
  | none =>
    let H1 : Hp := upd (upd (fun _ => none) Tp (.tbl #[])) a (.frz { cls := .type "list", data := .seq vs.toArray } (.lst (is.map V.int)))
    have eT : H1 Tp = some (.tbl #[]) := (upd_ne naT.symm).trans upd_same
    have no : ∀ b, b ≠ a → b ≠ Tp → H1 b = none := fun b h1 h2 => (upd_ne h1).trans (upd_ne h2)
    have ca : ∀ b, b = a ∨ b = Tp ∨ H1 b = none := fun b => by
      rcases Classical.em (b = a) with h | h
      · exact .inl h
      · exact .inr ((Classical.em (b = Tp)).imp id (no b h))
    refine fin H1 (fun b => ?_) eT (.inl ⟨naT, _, upd_same⟩) (fun b u z => ?_) ca (.inr hk)
    · rcases ca b with h | h | h
      · exact .inr (.inr ⟨_, _, by rw [h]; exact upd_same⟩)
      · exact .inr (.inl h)
      · exact .inl h
    · rcases ca b with h | h | h
      · subst h
        have z' : some _ = some u := upd_same.symm.trans z
        cases z'
        exact ⟨ha, by rw [List.length_map]; exact hl, vs, _, rv, ha⟩
      · subst h
        rw [eT] at z
        cases z
        exact ht
      · rw [h] at z
        cases z
end
/-- these tables are empty behind the top -/
abbrev TabE (ts : List Addr) (h : Heap) : Prop := ∀ P ∈ ts, h.get? P = some { cls := .none, data := .fields #[] }
theorem walk_gP {l : PySem.W.OpenLaw} {n k : Nat} {q : Program} {loose : List Str} {XP : (Str → Option Value) → Heap → Prop} {YP : World → Heap → Prop} {d : DefRec} {K : Params → PySem.W.Frag} {x : Str} (ts : List Addr) (hn : l.most = some n) (hn2 : n ≤ sizeLine) (hdf : d.params.defaults = [])
    (hr : Room k callerA) (hY : ∀ (w : World) (h : Heap), YP w h → (K w.params).In h ∧ TabE ts h)
    (F : ∀ (w : World) (mg : Str → Option Value) (fa : Addr) (h : Heap), (K w.params).In h → h.Ns mainGlobals mg → mg d.name = some (.ref fa) → TabE ts h → ∃ (fd : FuncData) (c Tp : Addr), (∀ (s : Shared) (u : Value), BindsTo s fd ⟨[u], []⟩ [(x, u)]) ∧ PySem.W.codeHdIn (K w.params) c Tp = true ∧ (K w.params).lookup Tp = none ∧ h.get? Tp = some { cls := .none, data := .fields #[] } ∧
      ∀ base : Heap, (K w.params).In base → base.Ns mainGlobals mg → LamX.TabB base mg c Tp → FnG l.prog w (K w.params) mg base CX0 k fa fd [x] (spLP (K w.params) Tp)) (h63 : n ≤ 63) :
    PySem.W.WalkO q loose XP YP l.row.toRowW d [] (fun f vs => PySem.call f vs) :=
  Att.attach_callB hn hdf fun w s₀ s₁ mg mb fa o pm cd doc a vs ns G Y ho hd hcd hmg h1 h2 h3 h4 h5 => by
    obtain ⟨KX, te⟩ := hY w _ Y
    obtain ⟨fd, c, Tp, hb, hh, nT, ht, hF⟩ := F w mg fa _ KX G.T.g hmg te
    exact law_gP KX G.T.g G.T.b G.T.builtins G.T.nolimit h5 hh G.T.bmain ht nT h1 h2 (Nat.le_trans h3 hn2) hr hF hb fun H hP hL => ⟨a, ns, rfl, hL, Nat.le_trans h3 h63, h4, hP, fun _ => rfl⟩
theorem hookP {K : Params → PySem.W.Frag} {as : List Addr} {e : ∀ P, as = (K P).map (·.1)} {ts : List Addr} (w : World) (h : Heap) (Y : (PySem.W.kmHook K as e ts).says w h) : (K w.params).In h ∧ TabE ts h := ⟨PySem.W.km_in_of Y, PySem.W.km_tabs_of Y⟩
end Dl
namespace Dl
open PySem L2 PySem.Spec PyProof.Rows
/-- the lambda that the last return of a def hands in last -/
def lamArg (q : Str) (st : Stmt) : LamF := match (defBody st).getLast? with
  | some (.Return (some (.Call _ args _ _)) _) => (match args.getLast? with
    | some (.Lambda ps b sc _) => ⟨q, ps, b, sc⟩
    | _ => ⟨q, defArgs st, .Constant .none 0 ⟨0, 0, 0, 0⟩, defScope st⟩)
  | _ => ⟨q, defArgs st, .Constant .none 0 ⟨0, 0, 0, 0⟩, defScope st⟩
def codeTest (us : Array Value) (c P : Addr) : Bool := (match (us[11]? : Option Value) with | some (.ref P') => P' == P | _ => false) &&
  (match us.getD 18 .none with | .str _ _ => true | _ => false) && (match us.getD 7 .none with | .int _ _ => true | _ => false) && (match us.getD 9 .none with | .bool _ => true | _ => false) && (match us.getD 10 .none with | .int _ _ => true | _ => false) && c != P
theorem codeHd_mk {K : PySem.W.Frag} {c P : Addr} {dd : Option Addr} {us : Array Value} {sl : Array (Option Value)} (h : K.lookup c = some ⟨.type "code", dd, .fields us, sl⟩) (t : codeTest us c P = true) : PySem.W.codeHdIn K c P = true := by
  unfold PySem.W.codeHdIn
  rw [h]
  exact t
end Dl
/-! ### f(x=e, ..): all arguments by their names -/
namespace Dl
open PySem L2
section
variable {X : Cx} {T : Tab} {W : WX} {y : Str} {p pos : Pos} {kws : List Keyword} {f : Addr} {k : Nat} {fd : FuncData} {ps : List Str} {sp : Sp} {t : TA} {c : Ct} {wK : WpA}
theorem pe_callKA (hg : Gl X y) (hm : X.mg y = some (.ref f)) (hk : PySem.W.keepIn X.K (.ref f) = true) (G : FnOk X.prog X.w X.K X.mg X.base CX0 k f fd ps sp) (hr : Room k X.A) (hb : KwAll fd ps) (hkw : PK X kws t) (hdb : (y == ("__debug__" : Str)) = false)
    (h1 : (backToKw pos (keywordEach kws X.env)).all (·.1.isSome) = true) (h2 : (backToKw pos (keywordEach kws X.env)).filterMap (·.1) = ps) (h3 : ((backTo pos (starEach [] X.env)).any (·.1) || (backToKw pos (keywordEach kws X.env)).any (·.1.isNone)) = false) :
    PE X (.Call (.Name y p) [] kws pos) (fun σ H Q => t σ H fun vs H1 => sp vs H1 Q E0) := ⟨fun pins s σ H Q I h => by
  refine wpAny_Call_Name_kw (ld_glob I hg hm ?_ hdb)
  refine PySem.W.callWith_KW0 (first := []) (h₀ := X.base) I.ok.mod.kin hk h1 (thn (hkw.run pos pins _ σ H _ I h) fun ws s1 z => ?_) h3
  obtain ⟨zs, H1, I1, r, q1⟩ := z
  refine ⟨I1.kIn, ?_⟩
  rw [h2]
  have hl : ws.length = ps.length := by rw [← r.length]; exact G.len _ _ _ _ q1
  refine wpAny_call (codeAny_mono (G.run X.A X.stack s1 H1 ⟨[], ps.zip ws⟩ ws zs Q E0 hr I1.env0 (hb s1 ws hl) r q1) fun rr s3 hq => ?_)
  match rr, hq with
  | .error _, hq => exact False.elim hq
  | .ok (.ret u), hq => exact I1.after hq
  | .ok .next, hq => exact hq.elim
  | .ok .brk, hq => exact hq.elim
  | .ok .cont, hq => exact hq.elim⟩
theorem je_callKA (G : FnOk X.prog X.w X.K X.mg X.base CX0 k f fd ps (spC T X.K c)) (hr : Room k X.A) (hm : X.mg y = some (.ref f)) (hk : PySem.W.keepIn X.K (.ref f) = true) (hb : KwAll fd ps) (hkw : JK X T W kws wK) (hg : Gl X y := by rfl) (hdb : (y == ("__debug__" : Str)) = false := by decide)
    (h1 : (backToKw pos (keywordEach kws X.env)).all (·.1.isSome) = true := by rfl) (h2 : (backToKw pos (keywordEach kws X.env)).filterMap (·.1) = ps := by rfl) (h3 : ((backTo pos (starEach [] X.env)).any (·.1) || (backToKw pos (keywordEach kws X.env)).any (·.1.isNone)) = false := by rfl) :
    JE X T W (.Call (.Name y p) [] kws pos) (wFn c wK) :=
  weak (pe_callKA hg hm hk G hr hb hkw hdb h1 h2 h3) fun σ H Q ⟨ad, F, sl, cs, R, Rx, h0, hw, q, qx⟩ => ⟨ad, F, sl, cs, _, Rx, h0, hw, fun ss c1 vs H1 ad1 hw1 x1 h1 r1 =>
    callW_then h1.hc r1 hw1 fun s c' v H' ad' hR x2 k2 r2 => q s c' v H' ad' hR (x1.trans h1.hc x2) (h1.to x2 k2) r2, qx⟩
end
end Dl

namespace Dl
open PySem L2
/-! ### for over a list cell that the body leaves as it is -/
/-- a body that leaves the cell as it is -/
def grdW (j : Nat) (all : List D) (wb : WS) : WS := fun S P => wb S { P with nx := fun S' => S'.cs[j]? = some (.lst all) ∧ P.nx S', ct := fun S' => S'.cs[j]? = some (.lst all) ∧ P.ct S' }
def celW (s : Sl) (cs : List Cell) (n : Nat) (k : Nat → List D → Prop) : Prop := match s with
  | .cel j => n ≤ j + 1 ∧ (match cs[j]? with
    | some (.lst ds) => k j ds
    | _ => False)
  | _ => False
/-- the body may not return -/
def wForC (n : Nat) (w : WpE) (p : Pat) (wb : Nat → WS) : WS := fun S P => w S.sl S.cs (fun s c => celW s c n fun j ds => forW p (grdW j ds (wb (j + 1))) ds ⟨S.sl, c⟩ { P with rt := fun _ _ => False }) (fun x c => P.ex x ⟨S.sl, c⟩)
theorem ExtS.down {n m : Nat} {ad ad1 : List Addr} {F : Addr → Prop} {H H1 : Hp} (x : ExtS m ad F H ad1 H1) (h : n ≤ m) : ExtS n ad F H ad1 H1 := ⟨by
  have := congrArg (List.take n) x.pre
  rwa [List.take_take, List.take_take, Nat.min_eq_left h] at this, x.sub, x.keep, x.frm⟩
section
variable {X : Cx} {T : Tab} {W : WX} {n : Nat} {e it tg : Expr} {pos : Pos} {w : WpE} {body : List Stmt} {pa : Pat}
theorem for_coreC {items : List D} {m0 j : Nat} {a : Addr} {wb : WS} {S1 : Sta} {P : PJ} {D : Ends} {σ : St} {H H1 : Hp} {ad ad1 : List Addr} {F : Addr → Prop} (hm : n ≤ m0) (hj : j < m0) (hb : JSs X T W m0 body wb) (x1 : ExtS n ad F H ad1 H1) (h1 : Hold T X.K S1 ad1 F σ H1) (hn1 : m0 ≤ ad1.length) (ha : ad1[j]? = some a) (hc : S1.cs[j]? = some (.lst items)) (h : forW pa (grdW j items wb) items S1 { P with rt := fun _ _ => False })
    (q1 : ∀ S' σ' H' ad', ExtS n ad F H ad' H' → n ≤ ad'.length → Hold T X.K S' ad' F σ' H' → P.nx S' → D.nx σ' H')
    (q5 : ∀ x S' cls d σ' H' ad', ExtS n ad F H ad' H' → n ≤ ad'.length → Hold T X.K S' ad' F σ' H' → ExRep T X.K (Mm ad' F) H' cls d x → P.ex x S' → W cls d σ' H') :
    ∃ Wl : Nat → Nat → St → Hp → Prop, (∃ m, Wl 0 m σ H1) ∧ ∀ i m σ H, Wl i m σ H →
      ((Itl X.K a).stop i H ∧ D.nx σ H) ∨ ((Itl X.K a).go i H ∧ ∃ N : St → Hp → Prop, (∀ σ' H', N σ' H' → ∃ m', m' < m ∧ Wl (i + 1) m' σ' H') ∧ ∀ x H', (Itl X.K a).yld i H x H' → tDG T X.K pa x σ H' fun σ2 H2 => (fun D σ H => ∃ S P, DSs X T m0 S body P ∧ tDS T X.K m0 S P D σ H) { D with nx := N, ct := N, bk := D.nx } σ2 H2) := by
  have at_a : ∀ {ad' : List Addr} {H' : Hp}, ExtS m0 ad1 F H1 ad' H' → ad'[j]? = some a := fun {ad' H'} x => by
    have e := congrArg (fun l => l[j]?) x.pre
    simp only [List.getElem?_take, if_pos hj] at e
    rw [e]; exact ha
  refine ⟨fun i m σ' H' => ∃ ad' S', m0 ≤ ad'.length ∧ Hold T X.K S' ad' F σ' H' ∧ ExtS m0 ad1 F H1 ad' H' ∧ i ≤ items.length ∧ m = items.length - i ∧ S'.cs[j]? = some (.lst items) ∧ forW pa (grdW j items wb) (items.drop i) S' { P with rt := fun _ _ => False }, ⟨items.length, ad1, S1, hn1, h1, .refl, Nat.zero_le _, rfl, hc, h⟩, ?_⟩
  rintro i m σ' H' ⟨ad', S', hn', h', x', hi', rfl, hc', hf⟩
  obtain ⟨vs, e1, rv⟩ := h'.hc.ce j a _ (at_a x') hc'
  by_cases hlt : i < items.length
  · have hd : items[i]? = some items[i] := List.getElem?_eq_getElem hlt
    rw [List.drop_eq_getElem_cons hlt] at hf
    obtain ⟨sl', e, hf⟩ := asgW_of hf
    obtain ⟨v, hv, rvi⟩ := rv.get hd
    refine .inr ⟨⟨vs, v, SqL.of e1, hv⟩, fun σ2 H2 => ∃ ad2 S2, m0 ≤ ad2.length ∧ Hold T X.K S2 ad2 F σ2 H2 ∧ ExtS m0 ad1 F H1 ad2 H2 ∧ S2.cs[j]? = some (.lst items) ∧ forW pa (grdW j items wb) (items.drop (i + 1)) S2 { P with rt := fun _ _ => False }, fun σ2 H2 ⟨ad2, S2, hn2, h2, x2, hc2, hf2⟩ => ⟨items.length - (i + 1), by omega, ad2, S2, hn2, h2, x2, hlt, rfl, hc2, hf2⟩, fun v3 H3 y => ?_⟩
    obtain ⟨rfl, y⟩ := y
    have y := y vs (SqL.of e1)
    rw [hv] at y
    cases y
    refine ⟨ad', F, S', items[i], sl', h', rvi, e, fun σ4 _ h4 => ⟨_, _, hb _ _ hf, ad', F, hn', h4, ?_, ?_, ?_, ?_, ?_⟩⟩
    · exact fun S5 σ5 H5 ad5 x5 hn5 h5 p5 => ⟨ad5, S5, hn5, h5, x'.trans x5, p5⟩
    · exact fun s cs5 v5 H5 ad5 x5 hn5 c5 r5 p5 => p5.elim
    · exact fun S5 σ5 H5 ad5 x5 hn5 h5 p5 => q1 S5 σ5 H5 ad5 (x1.trans ((x'.trans x5).down hm)) (Nat.le_trans hm hn5) h5 p5
    · exact fun S5 σ5 H5 ad5 x5 hn5 h5 p5 => ⟨ad5, S5, hn5, h5, x'.trans x5, p5⟩
    · exact fun z S5 cls d σ5 H5 ad5 x5 hn5 h5 r5 p5 => q5 z S5 cls d σ5 H5 ad5 (x1.trans ((x'.trans x5).down hm)) (Nat.le_trans hm hn5) h5 r5 p5
  · have e : i = items.length := by omega
    subst e
    rw [List.drop_length] at hf
    exact .inl ⟨⟨vs, SqL.of e1, by rw [rv.length]; exact Nat.le_refl _⟩, q1 S' σ' H' ad' (x1.trans (x'.down hm)) (Nat.le_trans hm hn') h' hf⟩
theorem js_forC {wb : Nat → WS} (hp : PassesOwn (model X.prog X.w) X.A X.env X.xe) (he : JE X T W it w) (hg : DG X T tg pa) (hb : ∀ m, JSs X T W m body (wb m)) (hc : X.calm = true := by rfl) (hs : ∀ x, foldedSetIterable it X.env x = pure x := by intro _; rfl) : JS X T W n (.For tg it body [] pos) (wForC n w pa wb) := fun S P h => by
  have b1 : PSs X body (fun D σ H => ∃ m S P, DSs X T m S body P ∧ tDS T X.K m S P D σ H) := ⟨fun pins s σ H D I ⟨m', S', P', hS, z⟩ => hS.run pins s σ H D I z⟩
  refine weakS (ps_for hp hc (pi_val he) hg b1 hs) fun D σ H ⟨ad, F, hn, h0, q1, q2, q3, q4, q5⟩ => ⟨ad, F, S.sl, S.cs, _, _, h0, h, fun s c v H1 ad1 hR x1 h1 r1 => ?_, raz_of hn q5⟩
  unfold celW at hR
  split at hR
  · obtain ⟨hn2, hR⟩ := hR
    split at hR
    · rename_i j _ ds hcj
      obtain ⟨a, ha, rfl⟩ := r1
      obtain ⟨vs, e1, rv⟩ := h1.hc.ce j a _ ha hcj
      have hj : j < ad1.length := by
        rcases Nat.lt_or_ge j ad1.length with z | z
        · exact z
        · rw [List.getElem?_eq_none z] at ha; cases ha
      obtain ⟨Wl, w0, w1⟩ := for_coreC (X := X) (T := T) (W := W) (n := n) (m0 := j + 1) (wb := wb (j + 1)) (D := D) hn2 (Nat.lt_succ_self j) (hb (j + 1)) (x1.s hn) h1 hj ha hcj hR q1 q5
      refine .inl ⟨a, vs, rfl, SqL.of e1, Wl, w0, fun i m σ' H' z => (w1 i m σ' H' z).imp id fun ⟨g, N, n1, n2⟩ => ⟨g, N, n1, fun x H3 y => ?_⟩⟩
      obtain ⟨ad2, F2, S2, d, sl', b1, b2, b3, b4⟩ := n2 x H3 y
      exact ⟨ad2, F2, S2, d, sl', b1, b2, b3, fun σ2 as h2 => ⟨j + 1, b4 σ2 as h2⟩⟩
    · exact hR.elim
  · exact hR.elim
end
end Dl

/-! ### list(range(a, b, c)), c above 0 -/
namespace L2
open PySem PySem.Spec PyProof.Rows
section
variable {X : Cx} {a b c e : Expr} {ta : TA} {p p2 pos pos2 : Pos}
def PRg3 (X : Cx) (e : Expr) (t : St → Hp → (Int → Int → Int → Nat → Hp → Prop) → Prop) : Prop :=
  ∀ (pins : List (Addr × Obj)) (s : Shared) (σ : St) (H : Hp) (Q : Int → Int → Int → Nat → Hp → Prop), Inv X pins σ H s → t σ H Q →
    wpAny (model X.prog X.w) X.A (eval e X.env) (fun x s' => ∃ r i j k n t u v H', x = .ref r ∧ IsRange s'.heap r i j k t u v ∧ RgC i j k n ∧ Inv X pins σ H' s' ∧ Q i j k n H') X.xe s
def tRg3 (ta : TA) : St → Hp → (Int → Int → Int → Nat → Hp → Prop) → Prop := fun σ H Q => ta σ H fun vs H1 => ∃ (i j k : Int) (n : Nat), vs = [.int i, .int j, .int k] ∧ RgC i j k n ∧ Q i j k n H1
theorem prg_3 (hg : Gl X "range") (hm : X.mg "range" = none) (ha : PA X [a, b, c] ta)
    (hs : starEach [a, b, c] X.env = (false, eval a X.env) :: starEach [b, c] X.env := by rfl) (hpl : (backTo pos (starEach [b, c] X.env)).any (·.1) = false := by rfl) :
    PRg3 X (.Call (.Name "range" p) [a, b, c] [] pos) (tRg3 ta) := by
  intro pins s σ H Q I h
  refine Call_ (ld_blt I hg hm boot_range (PyProof.Rows.callWith_type1 (thn (ha.run pos pins s σ H _ I h) fun us s1 ⟨vs, H1, I1, r1, q1⟩ => ?_) hs hpl))
  obtain ⟨i, j, k, n, e, ok, q⟩ := q1
  subst e
  cases r1 with
  | cons r rr =>
    cases rr with
    | cons r' rr =>
      cases rr with
      | cons r'' rr =>
        cases rr
        obtain ⟨t, rfl⟩ := r
        obtain ⟨t', rfl⟩ := r'
        obtain ⟨t'', rfl⟩ := r''
        refine call_range_3 ok.1 ?_ (.inl (PyProof.noPylong_small ok.2.1))
        exact ⟨_, i, j, k, n, _, _, _, H1, rfl, IsRange.new _ _ _ _ _ _ _, ok, I1.kept fun b u e => Heap.get?_push_of_some _ e, q⟩
def rgVC (i k : Int) (n : Nat) : List V := (List.range n).map fun m => V.int (i + (m : Nat) * k)
theorem rgVC_length (i k : Int) (n : Nat) : (rgVC i k n).length = n := by unfold rgVC; rw [List.length_map, List.length_range]
theorem vals_rgC {i k : Int} {n : Nat} {acc : Array Value} (h : ItemsOf (fun m v => ∃ t, v = .int (i + m * k) t) acc n) : Vals (rgVC i k n) acc.toList := by
  have e : acc.toList.length = n := by rw [Array.length_toList]; exact h.1
  unfold rgVC
  rw [← e]
  refine vals_of_get acc.toList _ fun j u hj => ?_
  obtain ⟨t, rfl⟩ := h.2 j u (by rw [← hj, Array.getElem?_toList])
  exact ⟨t, rfl⟩
def tLstRg3 (te : St → Hp → (Int → Int → Int → Nat → Hp → Prop) → Prop) : TE := fun σ H Q => te σ H fun i j k n H1 => n ≤ 2 ^ 24 ∧ ∀ q, H1 q = none → Q (.ref q) (upd H1 q (.lst (rgVC i k n)))
theorem pe_listRg3 {te : St → Hp → (Int → Int → Int → Nat → Hp → Prop) → Prop} (hc : X.calm = true) (hg : Gl X "list") (hm : X.mg "list" = none) (he : PRg3 X e te) (na : starEach [e] X.env = (false, eval e X.env) :: starEach [] X.env := by rfl) : PE X (.Call (.Name "list" p) [e] [] pos) (tLstRg3 te) := by
  refine ⟨fun pins s σ H Q I h => ?_⟩
  refine Call_ (ld_blt I hg hm boot_list (PyProof.Rows.callWith_type1 (args_cons (thn (he pins s σ H _ I h) fun x s1 ⟨r, i, j, k, n, t, u, v, H1, ex, hr, ok, I1, nl, q⟩ => args_nil ?_) na) na))
  subst ex
  refine call_list_range (n := n) (I1.ok.hd hc) hr ok.2.2.1 ok.2.2.2 nl fun h' tk acc c' hk e' hi => ?_
  refine ⟨.ref s1.heap.objs.size, upd H1 s1.heap.objs.size (.lst (rgVC i k n)), I1.laid hk (Nat.le_refl _) (show ObjOk X.prog X.w _ _ _ (.lst (rgVC i k n)) from ⟨?_, acc.toList, c', vals_rgC hi, ?_⟩), rfl, q _ (I1.hok.fresh (Nat.le_refl _))⟩
  · rw [rgVC_length, sizeLine_eq]; omega
  · rw [Array.toArray_toList]; exact e'
end
end L2
namespace Dl
open PySem L2
section
variable {X : Cx} {T : Tab} {W : WX} {a b c : Expr} {wA : WpA} {p p2 pos pos2 : Pos}
theorem reps_rgC {K : PySem.W.Frag} {M : Addr → Prop} {H : Hp} (i k : Int) (n : Nat) : Reps T K M H (rgVC i k n) (rangeC i k n) := by
  unfold rgVC rangeC
  induction List.range n with
  | nil => exact .nil
  | cons n l ih => exact .cons .int ih
def lrgW3 (cell : Bool) (ss : List Sl) (cs : List Cell) (R : RV) : Prop := match ss with
  | [.dat (.int i), .dat (.int j), .dat (.int c)] => (Sm40 i ∧ Sm40 j ∧ 0 < c ∧ c < 2 ^ 30) ∧ stepsC i j c ≤ 2 ^ 24 ∧ (match cell with
    | true => R (.cel cs.length) (cs ++ [.lst (rangeC i c (stepsC i j c))])
    | false => R (.dat (.lst (rangeC i c (stepsC i j c)))) cs)
  | _ => False
def wLrg3 (cell : Bool) (wA : WpA) : WpE := fun sl cs R Rx => wA sl cs (fun ss c1 => lrgW3 cell ss c1 R) Rx
theorem je_lrg3 (cell : Bool) (hm : X.mg "list" = none) (hm2 : X.mg "range" = none) (ha : JA X T W [a, b, c] wA) (hc : X.calm = true := by rfl) (hg : Gl X "list" := by rfl) (hg2 : Gl X "range" := by rfl)
    (hs : starEach [.Call (.Name "range" p2) [a, b, c] [] pos2] X.env = (false, eval (.Call (.Name "range" p2) [a, b, c] [] pos2) X.env) :: starEach [] X.env := by rfl)
    (hs1 : starEach [a, b, c] X.env = (false, eval a X.env) :: starEach [b, c] X.env := by rfl) (hpl : (backTo pos2 (starEach [b, c] X.env)).any (·.1) = false := by rfl) :
    JE X T W (.Call (.Name "list" p) [.Call (.Name "range" p2) [a, b, c] [] pos2] [] pos) (wLrg3 cell wA) :=
  weak (pe_listRg3 hc hg hm (prg_3 hg2 hm2 ha hs1 hpl) hs) fun σ H Q ⟨ad, F, sl, cs, R, Rx, h0, hw, q, qx⟩ => ⟨ad, F, sl, cs, _, Rx, h0, hw, fun ss c1 vs H1 ad1 hw1 x1 h1 r1 => by
    unfold lrgW3 at hw1
    split at hw1
    · match vs, r1 with
      | [v, w, u], r1 =>
        have r3 := r1.2.2.1
        have r2 := r1.2.1
        have r1 := r1.1
        cases r1
        cases r2
        cases r3
        obtain ⟨⟨a1, a2, a3, a4⟩, nl, hR⟩ := hw1
        refine ⟨_, _, _, _, rfl, rgC_ok a3 a4 a1 a2, nl, fun p hp => ?_⟩
        cases cell with
        | true => exact new_lstC h1.hc (reps_rgC _ _ _) (fun z H' ad' x3 k3 r3 => q _ _ z H' ad' hR (x1.trans h1.hc x3) (h1.to x3 k3) r3) hp
        | false => exact new_lst h1.hc (reps_rgC _ _ _) (fun z H' ad' x3 k3 r3 => q _ _ z H' ad' hR (x1.trans h1.hc x3) (h1.to x3 k3) r3) hp
    · exact hw1.elim, qx⟩
end
end Dl

/-! ### texts: slices, signs, iteration, split, join, endswith, removeprefix, str(int), f-strings -/
namespace Dl
open PySem L2
section
variable {X : Cx} {T : Tab} {W : WX} {e o : Expr} {wa we wo : WpE} {pos apos p2 : Pos}
/-! slices -/
theorem slc_S {x : Str} {lo hi : Option Int} {cs : List Cell} (hl : x.length ≤ sizeLine) : SlcD X T (.dat (.str x)) lo hi cs (.dat (.str (cutS x lo hi))) cs := ⟨_, sl_str, fun ad F H v Q c r1 q => by
  cases r1
  exact ⟨x, rfl, hl, q _ H ad .refl c Rep.str⟩⟩
def slcSW (s1 : Sl) (l u : Option Int) (cs : List Cell) (R : RV) : Prop := match s1 with
  | .dat (.str x) => x.length ≤ sizeLine ∧ R (.dat (.str (cutS x l u))) cs
  | s1 => slcW s1 l u cs R
theorem slcSW_of {s1 : Sl} {l u : Option Int} {cs : List Cell} {R : RV} (h : slcSW s1 l u cs R) : ∃ s, SlcD X T s1 l u cs s cs ∧ R s cs := by
  unfold slcSW at h
  split at h
  · exact ⟨_, slc_S h.1, h.2⟩
  · exact slcW_of h
def wSlcS (wa : WpE) (wl wu : WpO) : WpE := fun sl cs R Rx => wa sl cs (fun s1 c1 => wl sl c1 (fun l c2 => wu sl c2 (fun u c3 => slcSW s1 l u c3 R) Rx) Rx) Rx
theorem je_sliceS {lo hi : Option Expr} {wl wu : WpO} (ha : JE X T W e wa) (hl : JO X T W lo wl) (hu : JO X T W hi wu) : JE X T W (.Subscript e (.Slice lo hi none p2) pos) (wSlcS wa wl wu) :=
  weak (pe_slice slAll ha hl hu) fun σ H Q ⟨ad, F, sl, cs, R, Rx, h0, hw, q, qx⟩ => ⟨ad, F, sl, cs, _, Rx, h0, hw, fun s1 c1 v H1 ad1 hw1 x1 h1 r1 => ⟨ad1, F, sl, c1, _, Rx, h1, hw1, fun l c2 H2 ad2 hw2 x2 h2 => ⟨ad2, F, sl, c2, _, Rx, h2, hw2, fun u c3 H3 ad3 hw3 x3 h3 => by
    obtain ⟨s, ⟨r, o1, o2⟩, hR⟩ := slcSW_of (X := X) (T := T) hw3
    exact ⟨r, o1, o2 ad3 F H3 v Q h3.hc ((r1.ext x2).ext x3) fun z H4 ad4 x4 k4 r4 => q s c3 z H4 ad4 hR (x1.trans h1.hc (x2.trans h2.hc (x3.trans h3.hc x4))) (h3.to x4 k4) r4⟩, (qx.on x1 h1).on x2 h2⟩, qx.on x1 h1⟩, qx⟩
/-! a sign in a text -/
theorem cmp_inS {c : Nat} {z : Str} {cs : List Cell} : CmpD X T .In (.dat (.str ⟨#[c]⟩)) (.dat (.str z)) cs (.dat (.bl (decide (c ∈ z.cps.toList)))) cs := ⟨_, op_in_sign, fun ad F H v w Q k r1 r2 q => by
  cases r1
  cases r2
  exact ⟨c, z, rfl, rfl, q _ H ad .refl k Rep.bl⟩⟩
theorem cmp_notInS {c : Nat} {z : Str} {cs : List Cell} : CmpD X T .NotIn (.dat (.str ⟨#[c]⟩)) (.dat (.str z)) cs (.dat (.bl (!decide (c ∈ z.cps.toList)))) cs := ⟨_, op_notIn_sign, fun ad F H v w Q k r1 r2 q => by
  cases r1
  cases r2
  exact ⟨c, z, rfl, rfl, q _ H ad .refl k Rep.bl⟩⟩
def inSW (neg : Bool) : W2 := fun s1 s2 cs R => match s1, s2 with
  | .dat (.str x), .dat (.str z) => ∃ c, x = ⟨#[c]⟩ ∧ R (.dat (.bl (neg.xor (decide (c ∈ z.cps.toList))))) cs
  | s1, s2 => inW' neg s1 s2 cs R
theorem jc_inS : JCmp X T .In (inSW false) := fun s1 s2 cs R h => by
  unfold inSW at h
  split at h
  · obtain ⟨c, rfl, h⟩ := h
    exact ⟨_, _, cmp_inS, by simpa using h⟩
  · exact jc_in _ _ _ _ h
theorem jc_notinS : JCmp X T .NotIn (inSW true) := fun s1 s2 cs R h => by
  unfold inSW at h
  split at h
  · obtain ⟨c, rfl, h⟩ := h
    exact ⟨_, _, cmp_notInS, by simpa using h⟩
  · exact jc_notin _ _ _ _ h
/-! iteration -/
def chD (x : Str) : List D := x.cps.toList.map fun c => D.str ⟨#[c]⟩
theorem its_ok {K : PySem.W.Frag} {F : Addr → Prop} {x : Str} {ad : List Addr} {H : Hp} : ItOk T K F (Its x) (chD x) ad H := fun F2 ad2 H2 cs2 c2 kp i => by
  refine ⟨fun d hd => ?_, fun hi => ?_⟩
  · unfold chD at hd
    rw [List.getElem?_map, Array.getElem?_toList] at hd
    cases hc : x.cps[i]? with
    | none => rw [hc] at hd; cases hd
    | some c =>
      rw [hc] at hd
      cases hd
      refine ⟨(Array.getElem?_eq_some_iff.mp hc).1, fun v H3 y => ?_⟩
      obtain ⟨rfl, c', e, rfl⟩ := y
      rw [hc] at e
      cases e
      exact ⟨fun _ _ z => z, .str⟩
  · unfold chD at hi
    rw [List.length_map, Array.length_toList] at hi
    subst hi
    exact Nat.le_refl _
def itemsSW (s : Sl) (k : List D → Prop) : Prop := match s with
  | .dat (.str x) => k (chD x)
  | _ => False
def wItemsS (w : WpE) : WpI := fun sl cs R Rx => w sl cs (fun s c => itemsSW s fun ds => R ds c) Rx
theorem ji_str {tg : Expr} {w : WpE} (he : JE X T W e w) : JI X T W tg e (wItemsS w) := weakI (pi_str he) fun σ H Q ⟨ad, F, sl, cs, R, Rx, h0, hw, q, qx⟩ => ⟨ad, F, sl, cs, _, Rx, h0, hw, fun s c1 v H1 ad1 hw1 x1 h1 r1 => by
  unfold itemsSW at hw1
  split at hw1
  · rename_i x
    cases r1
    exact ⟨x, rfl, q _ c1 _ H1 ad1 hw1 x1 h1 its_ok⟩
  · exact hw1.elim, qx⟩
/-! methods of one argument -/
theorem reps_str {K : PySem.W.Frag} {M : Addr → Prop} {H : Hp} : ∀ ys : List Str, Reps T K M H (ys.map V.str) (ys.map D.str)
  | [] => .nil
  | _ :: ys => .cons .str (reps_str ys)
theorem reps_strs {K : PySem.W.Frag} {M : Addr → Prop} {H : Hp} : ∀ {ys : List Str} {vs : List V}, Reps T K M H vs (ys.map D.str) → vs = ys.map V.str
  | [], _, .nil => rfl
  | _ :: ys, _, .cons h t => by cases h; rw [reps_strs t]; rfl
def isStr (s : Sl) : Bool := match s with
  | .dat (.str _) => true
  | _ => false
def splW (s d : Sl) (cs : List Cell) (R : RV) : Prop := match s, d with
  | .dat (.str a), .dat (.str b) => (b.length == 0) = false ∧ a.length + 2 ≤ sizeLine ∧ R (.dat (.lst ((Txt.split a b).map D.str))) cs
  | _, _ => False
def joiW (s d : Sl) (cs : List Cell) (R : RV) : Prop := match s, d with
  | .dat (.str a), .dat (.lst ds) => ∃ ys : List Str, ds = ys.map D.str ∧ (ys.map (·.length)).sum + ys.length * a.length ≤ 16777216 ∧ R (.dat (.str (Txt.join a ys))) cs
  | _, _ => False
def endW (s d : Sl) (cs : List Cell) (R : RV) : Prop := match s, d with
  | .dat (.str a), .dat (.str b) => R (.dat (.bl (Txt.endswith a b))) cs
  | _, _ => False
def rmpW (s d : Sl) (cs : List Cell) (R : RV) : Prop := match s, d with
  | .dat (.str a), .dat (.str b) => a.length ≤ sizeLine ∧ R (.dat (.str (Txt.removeprefix a b))) cs
  | _, _ => False
def wM1 (w2 : W2) (wo we : WpE) : WpE := fun sl cs R Rx => wo sl cs (fun s c1 => isStr s = true ∧ we sl c1 (fun d c2 => w2 s d c2 R) Rx) Rx
/-- what a method of one argument does, as a reading -/
def M1D (X : Cx) (T : Tab) (r : V → List V → Hp → VK → Prop) (w2 : W2) : Prop := ∀ s d cs R, w2 s d cs R → ∃ z cs', (∀ ad F H v u (Q : VK), HoldC T X.K ad F H cs → SlRep T X.K ad F H v s → SlRep T X.K ad F H u d → (∀ y H' ad', Ext ad F H ad' H' → HoldC T X.K ad' F H' cs' → SlRep T X.K ad' F H' y z → Q y H') → r v [u] H Q) ∧ R z cs'
theorem je_m1 {id : String} {name : Str} {r : V → List V → Hp → VK → Prop} {w2 : W2} (hd : M1D X T r w2) (ho : JE X T W o wo) (he : JE X T W e we) (slot : Slot "str" name id) (ty : typeOf (.builtin id) = pure (.type "method_descriptor")) (rule : MtR X id r)
    (hs : starEach [e] X.env = [(false, eval e X.env)] := by rfl) (hbase : attributeBase o name X.env (eval o X.env) = eval o X.env := by rfl) (hline : (apos.endLine == pos.line) = true := by rfl) :
    JE X T W (.Call (.Attribute o name apos) [e] [] pos) (wM1 w2 wo we) :=
  weak (pe_m1 slot ty rule ho he hs hbase hline) fun σ H Q ⟨ad, F, sl, cs, R, Rx, h0, hw, q, qx⟩ => ⟨ad, F, sl, cs, _, Rx, h0, hw, fun s c1 v H1 ad1 hw1 x1 h1 r1 => by
    obtain ⟨hs1, hw1⟩ := hw1
    refine ⟨?_, ad1, F, sl, c1, _, Rx, h1, hw1, fun d c2 u H2 ad2 hw2 x2 h2 r2 => ?_, qx.on x1 h1⟩
    · unfold isStr at hs1
      split at hs1
      · cases r1
        exact ⟨_, rfl⟩
      · cases hs1
    · obtain ⟨z, cs', hr, hR⟩ := hd s d c2 R hw2
      exact hr ad2 F H2 v u Q h2.hc (r1.ext x2) r2 fun y H3 ad3 x3 k3 r3 => q z cs' y H3 ad3 hR (x1.trans h1.hc (x2.trans h2.hc x3)) (h2.to x3 k3) r3, qx⟩
theorem m1_split : M1D X T (fun x xs H Q => ∃ a b, x = .str a ∧ xs = [.str b] ∧ (b.length == 0) = false ∧ a.length + 2 ≤ sizeLine ∧ rNewStrs (Txt.split a b) H Q) splW := fun s d cs R h => by
  unfold splW at h
  split at h
  · obtain ⟨h1, h2, hR⟩ := h
    refine ⟨_, cs, fun ad F H v u Q c r1 r2 q => ?_, hR⟩
    cases r1
    cases r2
    exact ⟨_, _, rfl, rfl, h1, h2, fun p hp => new_lst c (reps_str _) q hp⟩
  · exact h.elim
theorem m1_join : M1D X T (fun x xs H Q => ∃ a p, ∃ ys : List Str, x = .str a ∧ xs = [.ref p] ∧ (SqL X.K H p (ys.map V.str) ∨ SqT X.K H p (ys.map V.str)) ∧ (ys.map (·.length)).sum + ys.length * a.length ≤ 16777216 ∧ Q (.str (Txt.join a ys)) H) joiW := fun s d cs R h => by
  unfold joiW at h
  split at h
  · obtain ⟨ys, rfl, h1, hR⟩ := h
    refine ⟨_, cs, fun ad F H v u Q c r1 r2 q => ?_, hR⟩
    cases r1
    cases r2 with
    | @lst a vs _ n e1 r =>
      have e := reps_strs r
      subst e
      exact ⟨_, a, ys, rfl, rfl, .inl (SqL.of e1), h1, q _ H ad .refl c Rep.str⟩
  · exact h.elim
theorem m1_end : M1D X T (fun x xs H Q => ∃ a b, x = .str a ∧ xs = [.str b] ∧ Q (.bl (Txt.endswith a b)) H) endW := fun s d cs R h => by
  unfold endW at h
  split at h
  · refine ⟨_, cs, fun ad F H v u Q c r1 r2 q => ?_, h⟩
    cases r1
    cases r2
    exact ⟨_, _, rfl, rfl, q _ H ad .refl c Rep.bl⟩
  · exact h.elim
theorem m1_rmp : M1D X T (fun x xs H Q => ∃ a b, x = .str a ∧ xs = [.str b] ∧ a.length ≤ sizeLine ∧ Q (.str (Txt.removeprefix a b)) H) rmpW := fun s d cs R h => by
  unfold rmpW at h
  split at h
  · refine ⟨_, cs, fun ad F H v u Q c r1 r2 q => ?_, h.2⟩
    cases r1
    cases r2
    exact ⟨_, _, rfl, rfl, h.1, q _ H ad .refl c Rep.str⟩
  · exact h.elim
theorem je_split (ho : JE X T W o wo) (he : JE X T W e we) (hs : starEach [e] X.env = [(false, eval e X.env)] := by rfl) (hbase : attributeBase o "split" X.env (eval o X.env) = eval o X.env := by rfl) (hline : (apos.endLine == pos.line) = true := by rfl) :
    JE X T W (.Call (.Attribute o "split" apos) [e] [] pos) (wM1 splW wo we) := je_m1 m1_split ho he PySem.F.slot_str_split PySem.F.type_str_split mt_split hs hbase hline
theorem je_join (ho : JE X T W o wo) (he : JE X T W e we) (hs : starEach [e] X.env = [(false, eval e X.env)] := by rfl) (hbase : attributeBase o "join" X.env (eval o X.env) = eval o X.env := by rfl) (hline : (apos.endLine == pos.line) = true := by rfl) :
    JE X T W (.Call (.Attribute o "join" apos) [e] [] pos) (wM1 joiW wo we) := je_m1 m1_join ho he PySem.F.slot_str_join PySem.F.type_str_join mt_join hs hbase hline
theorem je_endswith (ho : JE X T W o wo) (he : JE X T W e we) (hs : starEach [e] X.env = [(false, eval e X.env)] := by rfl) (hbase : attributeBase o "endswith" X.env (eval o X.env) = eval o X.env := by rfl) (hline : (apos.endLine == pos.line) = true := by rfl) :
    JE X T W (.Call (.Attribute o "endswith" apos) [e] [] pos) (wM1 endW wo we) := je_m1 m1_end ho he PySem.F.slot_str_endswith PySem.F.type_str_endswith mt_endswith hs hbase hline
theorem je_rmp (ho : JE X T W o wo) (he : JE X T W e we) (hs : starEach [e] X.env = [(false, eval e X.env)] := by rfl) (hbase : attributeBase o "removeprefix" X.env (eval o X.env) = eval o X.env := by rfl) (hline : (apos.endLine == pos.line) = true := by rfl) :
    JE X T W (.Call (.Attribute o "removeprefix" apos) [e] [] pos) (wM1 rmpW wo we) := je_m1 m1_rmp ho he PySem.F.slot_str_removeprefix PySem.F.type_str_removeprefix mt_removeprefix hs hbase hline
/-! str(int) -/
theorem cb_strI {i : Int} {cs : List Cell} (h : i.natAbs.log2 < 1920) : CalB X T "str" [.dat (.int i)] cs (.dat (.str (toString i))) cs := ⟨_, _, by decide +kernel, .inr ⟨_, rfl⟩, call_str_int, fun ad F H vs Q c r q => by
  match vs, r with
  | [v], r =>
    have r1 := r.1
    cases r1
    exact ⟨i, rfl, h, q _ H ad .refl c Rep.str⟩⟩
def strW1 : WC := fun ss cs R => match ss with
  | [.dat (.int i)] => i.natAbs.log2 < 1920 ∧ R (.dat (.str (toString i))) cs
  | _ => False
theorem jc_str : JCall X T "str" strW1 := ⟨⟨.type "str", by decide +kernel, .inr ⟨_, rfl⟩⟩, fun ss cs R h => by
  unfold strW1 at h
  split at h
  · exact ⟨_, _, cb_strI h.1, h.2⟩
  · exact h.elim⟩
/-! f-strings -/
def fmtW (s : Sl) (cs : List Cell) (R : RV) : Prop := match s with
  | .dat (.str y) => y.length ≤ sizeLine ∧ R (.dat (.str y)) cs
  | .dat (.int i) => i.natAbs.log2 < 1920 ∧ R (.dat (.str (toString i))) cs
  | _ => False
def wFmt (w : WpE) : WpE := fun sl cs R Rx => w sl cs (fun s c => fmtW s c R) Rx
theorem je_fmt (he : JE X T W e we) : JE X T W (.FormattedValue e (-1) none pos) (wFmt we) :=
  weak (pe_fmt he) fun σ H Q ⟨ad, F, sl, cs, R, Rx, h0, hw, q, qx⟩ => ⟨ad, F, sl, cs, _, Rx, h0, hw, fun s c1 v H1 ad1 hw1 x1 h1 r1 => by
    unfold fmtW at hw1
    split at hw1
    · cases r1
      exact .inl ⟨_, rfl, hw1.1, q _ c1 _ H1 ad1 hw1.2 x1 h1 Rep.str⟩
    · cases r1
      exact .inr ⟨_, rfl, hw1.1, q _ c1 _ H1 ad1 hw1.2 x1 h1 Rep.str⟩
    · exact hw1.elim, qx⟩
inductive JP (X : Cx) (T : Tab) (W : WX) : List Expr → List WpE → Prop where
  | nil : JP X T W [] []
  | cons {e : Expr} {w : WpE} {es : List Expr} {ws : List WpE} (h : JE X T W e w) (r : JP X T W es ws) : JP X T W (e :: es) (w :: ws)
theorem JP.pj {es : List Expr} {ws : List WpE} (h : JP X T W es ws) : L2.PJ X es (ws.map fun w => tJ T X.K W w) := by
  induction h with
  | nil => exact .nil
  | cons h r ih => exact .cons h ih
def wJs : List WpE → Str → Sls → List Cell → (Str → List Cell → Prop) → RX → Prop
  | [], acc, _, cs, R, _ => R acc cs
  | w :: ws, acc, sl, cs, R, Rx => w sl cs (fun s c => ∃ y, s = .dat (.str y) ∧ (acc ++ y).length ≤ sizeLine ∧ wJs ws (acc ++ y) sl c R Rx) Rx
theorem wJs_of {σ : St} {sl : Sls} {R : Str → List Cell → Prop} {Rx : RX} {F : Addr → Prop} {Q : Str → Hp → Prop} : ∀ (ws : List WpE) (acc : Str) {ad : List Addr} {cs : List Cell} {H : Hp}, Hold T X.K ⟨sl, cs⟩ ad F σ H → wJs ws acc sl cs R Rx →
    (∀ out c H' ad', R out c → Ext ad F H ad' H' → Hold T X.K ⟨sl, c⟩ ad' F σ H' → Q out H') → Raz T X.K W σ ad F H sl Rx → tJs (ws.map fun w => tJ T X.K W w) acc σ H Q
  | [], acc, ad, cs, H, h, hw, q, _ => q acc cs H ad hw .refl h
  | w :: ws, acc, ad, cs, H, h, hw, q, qx => ⟨ad, F, sl, cs, _, Rx, h, hw, fun s c1 v H1 ad1 hw1 x1 h1 r1 => by
    obtain ⟨y, rfl, hl, hw1⟩ := hw1
    cases r1
    exact ⟨y, rfl, hl, wJs_of ws (acc ++ y) h1 hw1 (fun out c H' ad' hR x2 h2 => q out c H' ad' hR (x1.trans h1.hc x2) h2) (qx.on x1 h1)⟩, qx⟩
def wJoin (ws : List WpE) : WpE := fun sl cs R Rx => wJs ws Str.empty sl cs (fun out c => R (.dat (.str out)) c) Rx
theorem je_joined {v1 v2 : Expr} {rest : List Expr} {ws : List WpE} (h : JP X T W (v1 :: v2 :: rest) ws) : JE X T W (.JoinedStr (v1 :: v2 :: rest) pos) (wJoin ws) :=
  weak (pe_joined h.pj) fun σ H Q ⟨ad, F, sl, cs, R, Rx, h0, hw, q, qx⟩ => wJs_of ws Str.empty h0 hw (fun out c H' ad' hR x h => q _ c _ H' ad' hR x h Rep.str) qx
end
end Dl

/-! ### e.replace of written texts: behind a list of written ints a token is out -/
namespace L2
open PySem PySem.Spec PyProof.Rows
section
variable {X : Cx} {e o : Expr} {es : List Expr} {st : Stmt} {rest : List Stmt} {t u : TS} {te to : TE} {ta : TA} {pos apos cp : Pos}
def PA1 (X : Cx) (es : List Expr) (t : TA) : Prop :=
  ∀ (pos : Pos) (pins : List (Addr × Obj)) (s : Shared) (σ : St) (H : Hp) (Q : List V → Hp → Prop), Inv X pins σ H s → t σ H Q → wpAny (model X.prog X.w) X.A (spliced (backTo pos (starEach es X.env))) (fun us s' => 1 ≤ s'.toks ∧ AP X pins σ Q us s') X.xe s
def PE1 (X : Cx) (e : Expr) (t : TE) : Prop :=
  ∀ (pins : List (Addr × Obj)) (s : Shared) (σ : St) (H : Hp) (Q : VK), Inv X pins σ H s → t σ H Q → wpAny (model X.prog X.w) X.A (eval e X.env) (fun v s' => 1 ≤ s'.toks ∧ EP X pins σ Q v s') X.xe s
def PS1 (X : Cx) (st : Stmt) (t : TS) : Prop :=
  ∀ (pins : List (Addr × Obj)) (s : Shared) (σ : St) (H : Hp) (D : Ends), Inv X pins σ H s → t D σ H → wpAny (model X.prog X.w) X.A (exec st X.env) (fun f s' => 1 ≤ s'.toks ∧ SP X pins D f s') X.xe s
theorem pa1_int {i : Int} {j : Nat} (hr : PA X es ta) (hs : starEach (.Constant (.int i) j cp :: es) X.env = (false, eval (.Constant (.int i) j cp) X.env) :: starEach es X.env := by rfl) : PA1 X (.Constant (.int i) j cp :: es) (tCons (tC (.int i)) ta) := by
  intro pos pins s σ H Q I h
  rw [hs]
  show wpAny _ _ (spliced ((false, eval (.Constant (.int i) j cp) X.env) :: backTo pos (starEach es X.env))) _ _ s
  refine Calls.spliced_cons (wpAny_Constant_int ?_)
  have I1 : Inv X pins σ H { s with toks := s.toks + 1 } := I.tok _
  refine wpAny_mono (PySem.wpAny_toks (hr.run pos pins { s with toks := s.toks + 1 } σ H _ I1 h)) (fun us s1 q => ?_) fun _ _ z => z.2
  obtain ⟨hk, vs, H1, I2, r, q⟩ := q
  have hk : s.toks + 1 ≤ s1.toks := hk
  exact ⟨by omega, V.int i :: vs, H1, I2, .cons ⟨s.toks, rfl⟩ r, q⟩
theorem pe1_lst (h : PA1 X es ta) : PE1 X (.List es pos) (tLst ta) := by
  intro pins s σ H Q I hq
  refine wpAny_List_spliced (thn (h pos pins s σ H _ I hq) fun us s1 ⟨hk, xs, H1, I1, r, z, q⟩ => ⟨by rw [← r.length]; exact z, ?_⟩)
  have hf : H1 s1.heap.objs.size = none := I1.hok.fresh (Nat.le_refl _)
  refine ⟨hk, .ref s1.heap.objs.size, upd H1 s1.heap.objs.size (.lst xs), I1.laid (t' := s1.toks) (fun b u e => Heap.get?_push_of_some _ e) (Nat.le_refl _) ?_, rfl, q _ hf⟩
  exact ⟨z, us, 0, r, Heap.get?_push_size _ rfl⟩
theorem ps1_set {i : Nat} {x : Str} {pos' : Pos} (hN : X.N.Nodup) (hi : X.N[i]? = some x) (hx : Loc X.env.scope x) (he : PE1 X e te) (hs : swapsWith e (some (.Name x pos')) pos.line X.env = pure false := by rfl) (hf : X.fn x = true ∨ X.env.scope.names.lookup x = some .local := by first | exact .inl rfl | exact .inr rfl | assumption) :
    PS1 X (.Assign [.Name x pos'] e pos) (tAsg te (gName i)) := by
  intro pins s σ H D I h
  refine wpAny_Assign_Name (thn (he pins s σ H _ I h) fun v s1 ⟨hk, y, H1, I1, r1, q1⟩ => ?_) hs
  refine wpAny_mono (PySem.wpAny_toks (store_ok (Q := fun _ s2 => Inv X pins (σ.set i (some y)) H1 s2) I1 hN hi hx r1 (fun s2 I2 => I2) hf)) (fun _ s2 q => ?_) fun _ _ z => z.2
  exact ⟨Nat.le_trans hk q.1, _, H1, q.2, q1⟩
theorem pss_cons1 (h1 : PS1 X st t) (h2 : PSsT X rest u) : PSs X (st :: rest) (tSeq t u) := by
  refine ⟨fun pins s σ H D I h => ?_⟩
  refine wpAny_execs_cons (thn (h1 pins s σ H { D with nx := u D } I h) fun f s1 q => ?_)
  obtain ⟨hk, q⟩ := q
  cases f with
  | next =>
    obtain ⟨σ', H', I', q⟩ := q
    exact h2 pins s1 σ' H' D hk I' q
  | ret v => exact q
  | brk => exact q
  | cont => exact q
theorem pst_set {i : Nat} {x : Str} {pos' : Pos} (hN : X.N.Nodup) (hi : X.N[i]? = some x) (hx : Loc X.env.scope x) (he : PET X e te) (hs : swapsWith e (some (.Name x pos')) pos.line X.env = pure false := by rfl) (hf : X.fn x = true ∨ X.env.scope.names.lookup x = some .local := by first | exact .inl rfl | exact .inr rfl | assumption) :
    PST X (.Assign [.Name x pos'] e pos) (tAsg te (gName i)) := by
  intro pins s σ H D h0 I h
  refine wpAny_Assign_Name (thn (he pins s σ H _ h0 I h) fun v s1 ⟨y, H1, I1, r1, q1⟩ => ?_) hs
  exact store_ok I1 hN hi hx r1 (fun s2 I2 => ⟨_, H1, I2, q1⟩) hf
theorem pet_m1 {id : String} {name : Str} {r : V → List V → Hp → VK → Prop} (slot : Slot "str" name id) (ty : typeOf (.builtin id) = pure (.type "method_descriptor")) (rule : MtR X id r) (ho : PET X o to) (he : PE X e te)
    (hs : starEach [e] X.env = [(false, eval e X.env)] := by rfl) (hbase : attributeBase o name X.env (eval o X.env) = eval o X.env := by rfl) (hline : (apos.endLine == pos.line) = true := by rfl) :
    PET X (.Call (.Attribute o name apos) [e] [] pos) (tM1 r to te) := by
  intro pins s σ H Q h0 I h
  refine PySem.Call_method1 hbase hs hline (thn (ho pins s σ H _ h0 I h) fun v s1 ⟨x, H1, I1, r1, q1⟩ => ?_)
  obtain ⟨⟨a, rfl⟩, q1⟩ := q1
  obtain ⟨t, rfl⟩ := _root_.id r1
  refine ⟨"str", _, F.plainAttrs_str, slot, ty, typeIs_str _ _ _, (fun _ e => nomatch e), Calls.callWith_builtin rfl (Calls.evalArgs_plain (Calls.spliced_cons ?_))⟩
  exact thn (he.run pins s1 σ H1 _ I1 q1) fun u s2 ⟨y, H2, I2, r2, q2⟩ => Calls.spliced_nil (rule pins s2 σ H2 _ [y] _ [u] Q I2 r1 (.cons r2 .nil) q2)
end
end L2
namespace Dl
open PySem L2
theorem weakA1 {X : Cx} {e : List Expr} {t t' : TA} (h : PA1 X e t) (q : ∀ σ H Q, t' σ H Q → t σ H Q) : PA1 X e t' := fun pos pins s σ H Q I z => h pos pins s σ H Q I (q σ H Q z)
theorem weak1 {X : Cx} {e : Expr} {t t' : TE} (h : PE1 X e t) (q : ∀ σ H Q, t' σ H Q → t σ H Q) : PE1 X e t' := fun pins s σ H Q I z => h pins s σ H Q I (q σ H Q z)
theorem weakS1 {X : Cx} {e : Stmt} {t t' : TS} (h : PS1 X e t) (q : ∀ D σ H, t' D σ H → t D σ H) : PS1 X e t' := fun pins s σ H D I z => h pins s σ H D I (q D σ H z)
theorem weakET {X : Cx} {e : Expr} {t t' : TE} (h : PET X e t) (q : ∀ σ H Q, t' σ H Q → t σ H Q) : PET X e t' := fun pins s σ H Q h0 I z => h pins s σ H Q h0 I (q σ H Q z)
theorem weakST {X : Cx} {e : Stmt} {t t' : TS} (h : PST X e t) (q : ∀ D σ H, t' D σ H → t D σ H) : PST X e t' := fun pins s σ H D h0 I z => h pins s σ H D h0 I (q D σ H z)
theorem weakSsT {X : Cx} {e : List Stmt} {t t' : TS} (h : PSsT X e t) (q : ∀ D σ H, t' D σ H → t D σ H) : PSsT X e t' := fun pins s σ H D h0 I z => h pins s σ H D h0 I (q D σ H z)
section
variable {X : Cx} {T : Tab} {W : WX} {n : Nat} {e o : Expr} {es : List Expr} {wA : WpA} {w we wo : WpE} {st : Stmt} {rest : List Stmt} {w1 w2 : WS} {pos apos cp lp p' : Pos} {x : Str}
def JSsT (X : Cx) (T : Tab) (W : WX) (n : Nat) (sts : List Stmt) (w : WS) : Prop := ∀ (S : Sta) (P : PJ), w S P → PSsT X sts (tDS T X.K n S (P.to W))
def JST (X : Cx) (T : Tab) (W : WX) (n : Nat) (st : Stmt) (w : WS) : Prop := ∀ (S : Sta) (P : PJ), w S P → PST X st (tDS T X.K n S (P.to W))
def JS1 (X : Cx) (T : Tab) (W : WX) (n : Nat) (st : Stmt) (w : WS) : Prop := ∀ (S : Sta) (P : PJ), w S P → PS1 X st (tDS T X.K n S (P.to W))
def JET (X : Cx) (T : Tab) (W : WX) (e : Expr) (w : WpE) : Prop := PET X e (tJ T X.K W w)
theorem jsst_of (h : JSs X T W n rest w1) : JSsT X T W n rest w1 := fun S P q => PSsT.of (h S P q)
theorem jet_of (h : JE X T W e w) : JET X T W e w := CwR.PET.of h
theorem jsst_cons (h1 : JST X T W n st w1) (h2 : JSsT X T W n rest w2) : JSsT X T W n (st :: rest) (wConsS w1 w2) := fun S P h => by
  have b2 : PSsT X rest (fun D σ H => ∃ S', w2 S' P ∧ tDS T X.K n S' (P.to W) D σ H) := fun pins s σ H D h0 I ⟨S', hS, z⟩ => h2 S' P hS pins s σ H D h0 I z
  refine weakSsT (psst_cons (h1 S { P with nx := fun S' => w2 S' P } h) b2) fun D σ H ⟨ad, F, hn, h0, q1, q2, q3, q4, q5⟩ => ⟨ad, F, hn, h0, fun S' σ' H' ad' x hn' h' hS => ⟨S', hS, ad', F, hn', h', ?_, ?_, ?_, ?_, ?_⟩, q2, q3, q4, q5⟩
  · exact fun S2 σ2 H2 ad2 x2 hn2 h2 p => q1 S2 σ2 H2 ad2 (x.trans x2) hn2 h2 p
  · exact fun s cs2 v H2 ad2 x2 hn2 c2 r p => q2 s cs2 v H2 ad2 (x.trans x2) hn2 c2 r p
  · exact fun S2 σ2 H2 ad2 x2 hn2 h2 p => q3 S2 σ2 H2 ad2 (x.trans x2) hn2 h2 p
  · exact fun S2 σ2 H2 ad2 x2 hn2 h2 p => q4 S2 σ2 H2 ad2 (x.trans x2) hn2 h2 p
  · exact fun z S2 cls d σ2 H2 ad2 x2 hn2 h2 r p => q5 z S2 cls d σ2 H2 ad2 (x.trans x2) hn2 h2 r p
theorem jss_cons1 (h1 : JS1 X T W n st w1) (h2 : JSsT X T W n rest w2) : JSs X T W n (st :: rest) (wConsS w1 w2) := fun S P h => by
  have b2 : PSsT X rest (fun D σ H => ∃ S', w2 S' P ∧ tDS T X.K n S' (P.to W) D σ H) := fun pins s σ H D h0 I ⟨S', hS, z⟩ => h2 S' P hS pins s σ H D h0 I z
  refine weakSs (pss_cons1 (h1 S { P with nx := fun S' => w2 S' P } h) b2) fun D σ H ⟨ad, F, hn, h0, q1, q2, q3, q4, q5⟩ => ⟨ad, F, hn, h0, fun S' σ' H' ad' x hn' h' hS => ⟨S', hS, ad', F, hn', h', ?_, ?_, ?_, ?_, ?_⟩, q2, q3, q4, q5⟩
  · exact fun S2 σ2 H2 ad2 x2 hn2 h2 p => q1 S2 σ2 H2 ad2 (x.trans x2) hn2 h2 p
  · exact fun s cs2 v H2 ad2 x2 hn2 c2 r p => q2 s cs2 v H2 ad2 (x.trans x2) hn2 c2 r p
  · exact fun S2 σ2 H2 ad2 x2 hn2 h2 p => q3 S2 σ2 H2 ad2 (x.trans x2) hn2 h2 p
  · exact fun S2 σ2 H2 ad2 x2 hn2 h2 p => q4 S2 σ2 H2 ad2 (x.trans x2) hn2 h2 p
  · exact fun z S2 cls d σ2 H2 ad2 x2 hn2 h2 r p => q5 z S2 cls d σ2 H2 ad2 (x.trans x2) hn2 h2 r p
/-- x = [i, ..], a list that will be changed: behind it a token is out -/
theorem js1_lstC (i : Nat) {k : Int} {j : Nat} (hN : X.N.Nodup) (hr : JA X T W es wA) (hs0 : starEach (.Constant (.int k) j cp :: es) X.env = (false, eval (.Constant (.int k) j cp) X.env) :: starEach es X.env := by rfl) (hi : X.N[i]? = some x := by rfl) (hx : Loc X.env.scope x := by first | exact Or.inl rfl | exact Or.inr rfl)
    (hs : swapsWith (.List (.Constant (.int k) j cp :: es) lp) (some (.Name x p')) pos.line X.env = pure false := by rfl) (hf : X.fn x = true ∨ X.env.scope.names.lookup x = some .local := by first | exact .inl rfl | exact .inr rfl) :
    JS1 X T W n (.Assign [.Name x p'] (.List (.Constant (.int k) j cp :: es) lp) pos) (wAsg i (wLstC (wCons (wCon (.int k)) wA))) := fun S P h => by
  have a1 : PA1 X (.Constant (.int k) j cp :: es) (tJA T X.K W (wCons (wCon (.int k)) wA)) := weakA1 (pa1_int hr hs0) fun σ H Q ⟨ad, F, sl, cs, R, Rx, h0, hw, q, qx⟩ => ⟨ad, F, sl, cs, _, Rx, h0, hw, fun ss c2 vs H2 ad2 hw2 x2 h2 r2 => q _ c2 _ H2 ad2 hw2 x2 h2 ⟨Rep.int, r2⟩, qx⟩
  have e1 : PE1 X (.List (.Constant (.int k) j cp :: es) lp) (tJ T X.K W (wLstC (wCons (wCon (.int k)) wA))) := weak1 (pe1_lst a1) fun σ H Q ⟨ad, F, sl, cs, R, Rx, h0, hw, q, qx⟩ => ⟨ad, F, sl, cs, _, Rx, h0, hw, fun ss c1 vs H1 ad1 hw1 x1 h1 r1 => by
    obtain ⟨ds, rfl, hl, hR⟩ := wDats_of hw1
    exact ⟨by rw [r1.dats.length]; exact hl, fun p hp => new_lstC h1.hc r1.dats (fun z H' ad' x2 k2 r2 => q _ _ z H' ad' hR (x1.trans h1.hc x2) (h1.to x2 k2) r2) hp⟩, qx⟩
  exact weakS1 (ps1_set hN hi hx e1 hs hf) fun D σ H ⟨ad, F, hn, h0, q1, q2, q3, q4, q5⟩ => ⟨ad, F, S.sl, S.cs, _, _, h0, h, fun s c v H1 ad1 hR x1 h1 r1 => q1 _ _ H1 ad1 (x1.s hn) (x1.le hn) (h1.set r1 i) hR, raz_of hn q5⟩
/-- x = e, where a token is out -/
theorem jst_asg (i : Nat) (hN : X.N.Nodup) (he : JET X T W e w) (hi : X.N[i]? = some x := by rfl) (hx : Loc X.env.scope x := by first | exact Or.inl rfl | exact Or.inr rfl)
    (hs : swapsWith e (some (.Name x p')) pos.line X.env = pure false := by rfl) (hf : X.fn x = true ∨ X.env.scope.names.lookup x = some .local := by first | exact .inl rfl | exact .inr rfl) : JST X T W n (.Assign [.Name x p'] e pos) (wAsg i w) := fun S P h =>
  weakST (pst_set hN hi hx he hs hf) fun D σ H ⟨ad, F, hn, h0, q1, q2, q3, q4, q5⟩ => ⟨ad, F, S.sl, S.cs, _, _, h0, h, fun s c v H1 ad1 hR x1 h1 r1 => q1 _ _ H1 ad1 (x1.s hn) (x1.le hn) (h1.set r1 i) hR, raz_of hn q5⟩
/-- e.replace(y, z) -/
def wRepl (y z : Str) (wo : WpE) : WpE := fun sl cs R Rx => wo sl cs (fun s c => match s with
  | .dat (.str x) => x.length + (x.length + 1) * z.length ≤ 16777216 ∧ R (.dat (.str (Txt.replace x y z))) c
  | _ => False) Rx
theorem jet_repl {y z : Str} {j k : Nat} {c0 c1 : Pos} (ho : JET X T W o wo) (hyz : (y == z) = false := by decide)
    (hst : starEach [.Constant (.str y) j c0, .Constant (.str z) k c1] X.env = [(false, eval (.Constant (.str y) j c0) X.env), (false, eval (.Constant (.str z) k c1) X.env)] := by rfl)
    (hbase : attributeBase o "replace" X.env (eval o X.env) = eval o X.env := by rfl) (hline : (apos.endLine == pos.line) = true := by rfl) :
    JET X T W (.Call (.Attribute o "replace" apos) [.Constant (.str y) j c0, .Constant (.str z) k c1] [] pos) (wRepl y z wo) :=
  weakET (CwR.pet_replT ho hyz hst hbase hline) fun σ H Q ⟨ad, F, sl, cs, R, Rx, h0, hw, q, qx⟩ => ⟨ad, F, sl, cs, _, Rx, h0, hw, fun s c v H1 ad1 hw1 x1 h1 r1 => by
    split at hw1
    · cases r1
      exact ⟨_, rfl, hw1.1, q _ c _ H1 ad1 hw1.2 x1 h1 Rep.str⟩
    · exact hw1.elim, qx⟩
theorem jet_m1 {id : String} {name : Str} {r : V → List V → Hp → VK → Prop} {m2 : W2} (hd : M1D X T r m2) (ho : JET X T W o wo) (he : JE X T W e we) (slot : Slot "str" name id) (ty : typeOf (.builtin id) = pure (.type "method_descriptor")) (rule : MtR X id r)
    (hs : starEach [e] X.env = [(false, eval e X.env)] := by rfl) (hbase : attributeBase o name X.env (eval o X.env) = eval o X.env := by rfl) (hline : (apos.endLine == pos.line) = true := by rfl) :
    JET X T W (.Call (.Attribute o name apos) [e] [] pos) (wM1 m2 wo we) :=
  weakET (pet_m1 slot ty rule ho he hs hbase hline) fun σ H Q ⟨ad, F, sl, cs, R, Rx, h0, hw, q, qx⟩ => ⟨ad, F, sl, cs, _, Rx, h0, hw, fun s c1 v H1 ad1 hw1 x1 h1 r1 => by
    obtain ⟨hs1, hw1⟩ := hw1
    refine ⟨?_, ad1, F, sl, c1, _, Rx, h1, hw1, fun d c2 u H2 ad2 hw2 x2 h2 r2 => ?_, qx.on x1 h1⟩
    · unfold isStr at hs1
      split at hs1
      · cases r1
        exact ⟨_, rfl⟩
      · cases hs1
    · obtain ⟨z, cs', hr, hR⟩ := hd s d c2 R hw2
      exact hr ad2 F H2 v u Q h2.hc (r1.ext x2) r2 fun y H3 ad3 x3 k3 r3 => q z cs' y H3 ad3 hR (x1.trans h1.hc (x2.trans h2.hc x3)) (h2.to x3 k3) r3, qx⟩
theorem jet_split (ho : JET X T W o wo) (he : JE X T W e we) (hs : starEach [e] X.env = [(false, eval e X.env)] := by rfl) (hbase : attributeBase o "split" X.env (eval o X.env) = eval o X.env := by rfl) (hline : (apos.endLine == pos.line) = true := by rfl) :
    JET X T W (.Call (.Attribute o "split" apos) [e] [] pos) (wM1 splW wo we) := jet_m1 m1_split ho he PySem.F.slot_str_split PySem.F.type_str_split mt_split hs hbase hline
end
end Dl

namespace K
open PySem L2 Dl
def top (i : Nat) : Stmt := PySem.Challenge.pw_clashcounts_k05_texts_of_forms.main.body.getD i (.Pass ⟨0, 0, 0, 0⟩)
abbrev FD (K : PySem.W.Frag) (x qual : Str) (st : Stmt) (dvs : List V) (kws : List (Str × V)) (f : Addr) (fd : FuncData) : Prop := FunD K x qual (defArgs st) (defBody st) (defScope st) dvs kws f fd
abbrev s__law_feed : Stmt := top 21
theorem sc__law_feed : FnScope ["_law_script", "_law_k", "_law_cell", "_law_seed"] ["_law_script", "_law_k"] (defScope s__law_feed) := ⟨rfl, rfl, rfl, by decide +kernel, rfl, by decide +kernel, by decide +kernel⟩
abbrev s__law_take : Stmt := top 22
theorem sc__law_take : FnScope ["_law_box", "_law_many", "_law_digit", "_law_one"] ["_law_box", "_law_many"] (defScope s__law_take) := ⟨rfl, rfl, rfl, by decide +kernel, rfl, by decide +kernel, by decide +kernel⟩
abbrev s_figures : Stmt := top 8
theorem sc_figures : FnScope ["number", "rest", "pieces", "low"] ["number"] (defScope s_figures) := ⟨rfl, rfl, rfl, by decide +kernel, rfl, by decide +kernel, by decide +kernel⟩
abbrev s_term_text : Stmt := top 16
theorem sc_term_text : FnScope ["number", "word"] ["number", "word"] (defScope s_term_text) := ⟨rfl, rfl, rfl, by decide +kernel, rfl, by decide +kernel, by decide +kernel⟩
abbrev s_show_form : Stmt := top 17
theorem sc_show_form : FnScope ["form", "found", "number", "word", "ahead"] ["form"] (defScope s_show_form) := ⟨rfl, rfl, rfl, by decide +kernel, rfl, by decide +kernel, by decide +kernel⟩
abbrev s__law_number : Stmt := top 28
theorem sc__law_number : FnScope ["_law_box", "_law_way"] ["_law_box"] (defScope s__law_number) := ⟨rfl, rfl, rfl, by decide +kernel, rfl, by decide +kernel, by decide +kernel⟩
abbrev s_is_whole : Stmt := top 11
theorem sc_is_whole : FnScope ["value"] ["value"] (defScope s_is_whole) := ⟨rfl, rfl, rfl, by decide +kernel, rfl, by decide +kernel, by decide +kernel⟩
abbrev s_Form___init__ : Stmt := inClass (top 12) 0
theorem sc_Form___init__ : FnScope ["self", "const", "i", "j", "p", "value"] ["self", "const", "i", "j", "p"] (defScope s_Form___init__) := ⟨rfl, rfl, rfl, by decide +kernel, rfl, by decide +kernel, by decide +kernel⟩
abbrev s__law_made : Stmt := top 24
theorem sc__law_made : FnScope ["_law_row"] ["_law_row"] (defScope s__law_made) := ⟨rfl, rfl, rfl, by decide +kernel, rfl, by decide +kernel, by decide +kernel⟩
abbrev s_Form_i : Stmt := inClass (top 12) 2
theorem sc_Form_i : FnScope ["self"] ["self"] (defScope s_Form_i) := ⟨rfl, rfl, rfl, by decide +kernel, rfl, by decide +kernel, by decide +kernel⟩
abbrev s_Form_j : Stmt := inClass (top 12) 3
theorem sc_Form_j : FnScope ["self"] ["self"] (defScope s_Form_j) := ⟨rfl, rfl, rfl, by decide +kernel, rfl, by decide +kernel, by decide +kernel⟩
abbrev s_Form_p : Stmt := inClass (top 12) 4
theorem sc_Form_p : FnScope ["self"] ["self"] (defScope s_Form_p) := ⟨rfl, rfl, rfl, by decide +kernel, rfl, by decide +kernel, by decide +kernel⟩
abbrev s_Form_const : Stmt := inClass (top 12) 1
theorem sc_Form_const : FnScope ["self"] ["self"] (defScope s_Form_const) := ⟨rfl, rfl, rfl, by decide +kernel, rfl, by decide +kernel, by decide +kernel⟩
abbrev s__law_told : Stmt := top 25
theorem sc__law_told : FnScope ["_law_form", "_law_found", "_law_bad", "_law_k"] ["_law_form"] (defScope s__law_told) := ⟨rfl, rfl, rfl, by decide +kernel, rfl, by decide +kernel, by decide +kernel⟩
abbrev s__law_term : Stmt := top 26
theorem sc__law_term : FnScope ["_law_number_here", "_law_word"] ["_law_number_here", "_law_word"] (defScope s__law_term) := ⟨rfl, rfl, rfl, by decide +kernel, rfl, by decide +kernel, by decide +kernel⟩
abbrev s__law_shown : Stmt := top 27
theorem sc__law_shown : FnScope ["_law_row", "_law_found", "_law_number_here", "_law_word"] ["_law_row"] (defScope s__law_shown) := ⟨rfl, rfl, rfl, by decide +kernel, rfl, by decide +kernel, by decide +kernel⟩
abbrev s_form_of : Stmt := top 13
theorem sc_form_of : FnScope ["row"] ["row"] (defScope s_form_of) := ⟨rfl, rfl, rfl, by decide +kernel, rfl, by decide +kernel, by decide +kernel⟩
abbrev s_is_figures : Stmt := top 15
theorem sc_is_figures : FnScope ["text", "sign"] ["text"] (defScope s_is_figures) := ⟨rfl, rfl, rfl, by decide +kernel, rfl, by decide +kernel, by decide +kernel⟩
abbrev s_number_told : Stmt := top 9
theorem sc_number_told : FnScope ["text", "begun", "found", "at"] ["text"] (defScope s_number_told) := ⟨rfl, rfl, rfl, by decide +kernel, rfl, by decide +kernel, by decide +kernel⟩
abbrev s_read_term : Stmt := top 18
theorem sc_read_term : FnScope ["text", "at", "word", "number"] ["text"] (defScope s_read_term) := ⟨rfl, rfl, rfl, by decide +kernel, rfl, by decide +kernel, by decide +kernel⟩
abbrev s_read_form : Stmt := top 19
theorem sc_read_form : FnScope ["text", "row", "rest", "part", "found", "at", "number", "form"] ["text"] (defScope s_read_form) := ⟨rfl, rfl, rfl, by decide +kernel, rfl, by decide +kernel, by decide +kernel⟩
abbrev s_law : Stmt := top 29
theorem sc_law : FnScope ["_law_script", "_law_k", "_law_box", "_law_row", "_law_spot", "_law_step", "_law_other", "_law_texts", "_law_one", "_law_a", "_law_text"] ["_law_script"] (defScope s_law) := ⟨rfl, rfl, rfl, by decide +kernel, rfl, by decide +kernel, by decide +kernel⟩
structure Tx (T : Tab) (K : PySem.W.Frag) (mg : Str → Option Value) where
  c_Form : Addr
  T_Form : T 0 = some (c_Form, (["row"] : List Str))
  cl_Form : Cls K c_Form
  i_Form : IsiC K c_Form
  m_Form : mg "Form" = some (.ref c_Form)
  no_Form_row : NoAttr K c_Form "row"
  z_abs : mg "abs" = none
  z_bool : mg "bool" = none
  z_enumerate : mg "enumerate" = none
  z_int : mg "int" = none
  z_isinstance : mg "isinstance" = none
  z_len : mg "len" = none
  z_max : mg "max" = none
  z_min : mg "min" = none
  z_range : mg "range" = none
  z_str : mg "str" = none
  z_tuple : mg "tuple" = none
  z_zip : mg "zip" = none
  a__law_feed : Addr
  fd__law_feed : FuncData
  F__law_feed : Fun K "_law_feed" "_law_feed" s__law_feed a__law_feed fd__law_feed
  b__law_feed : Binds K fd__law_feed ["_law_script", "_law_k"] []
  m__law_feed : mg "_law_feed" = some (.ref a__law_feed)
  a__law_take : Addr
  fd__law_take : FuncData
  F__law_take : Fun K "_law_take" "_law_take" s__law_take a__law_take fd__law_take
  b__law_take : Binds K fd__law_take ["_law_box", "_law_many"] []
  m__law_take : mg "_law_take" = some (.ref a__law_take)
  a_figures : Addr
  fd_figures : FuncData
  F_figures : Fun K "figures" "figures" s_figures a_figures fd_figures
  b_figures : Binds K fd_figures ["number"] []
  m_figures : mg "figures" = some (.ref a_figures)
  a_term_text : Addr
  fd_term_text : FuncData
  F_term_text : Fun K "term_text" "term_text" s_term_text a_term_text fd_term_text
  b_term_text : Binds K fd_term_text ["number", "word"] []
  m_term_text : mg "term_text" = some (.ref a_term_text)
  a_show_form : Addr
  fd_show_form : FuncData
  F_show_form : Fun K "show_form" "show_form" s_show_form a_show_form fd_show_form
  b_show_form : Binds K fd_show_form ["form"] []
  m_show_form : mg "show_form" = some (.ref a_show_form)
  a__law_number : Addr
  fd__law_number : FuncData
  F__law_number : Fun K "_law_number" "_law_number" s__law_number a__law_number fd__law_number
  b__law_number : Binds K fd__law_number ["_law_box"] []
  m__law_number : mg "_law_number" = some (.ref a__law_number)
  a_is_whole : Addr
  fd_is_whole : FuncData
  F_is_whole : Fun K "is_whole" "is_whole" s_is_whole a_is_whole fd_is_whole
  b_is_whole : Binds K fd_is_whole ["value"] []
  m_is_whole : mg "is_whole" = some (.ref a_is_whole)
  a_Form___init__ : Addr
  fd_Form___init__ : FuncData
  F_Form___init__ : FD K "__init__" "Form.__init__" s_Form___init__ [.int 0] [("i", .int 0), ("j", .int 0), ("p", .int 0)] a_Form___init__ fd_Form___init__
  K_Form : Mk K c_Form a_Form___init__
  a__law_made : Addr
  fd__law_made : FuncData
  F__law_made : Fun K "_law_made" "_law_made" s__law_made a__law_made fd__law_made
  b__law_made : Binds K fd__law_made ["_law_row"] []
  m__law_made : mg "_law_made" = some (.ref a__law_made)
  a_Form_i : Addr
  fd_Form_i : FuncData
  F_Form_i : Fun K "i" "Form.i" s_Form_i a_Form_i fd_Form_i
  b_Form_i : Binds K fd_Form_i ["self"] []
  p_Form_i : Addr
  P_Form_i : PropOf K c_Form "i" p_Form_i a_Form_i
  a_Form_j : Addr
  fd_Form_j : FuncData
  F_Form_j : Fun K "j" "Form.j" s_Form_j a_Form_j fd_Form_j
  b_Form_j : Binds K fd_Form_j ["self"] []
  p_Form_j : Addr
  P_Form_j : PropOf K c_Form "j" p_Form_j a_Form_j
  a_Form_p : Addr
  fd_Form_p : FuncData
  F_Form_p : Fun K "p" "Form.p" s_Form_p a_Form_p fd_Form_p
  b_Form_p : Binds K fd_Form_p ["self"] []
  p_Form_p : Addr
  P_Form_p : PropOf K c_Form "p" p_Form_p a_Form_p
  a_Form_const : Addr
  fd_Form_const : FuncData
  F_Form_const : Fun K "const" "Form.const" s_Form_const a_Form_const fd_Form_const
  b_Form_const : Binds K fd_Form_const ["self"] []
  p_Form_const : Addr
  P_Form_const : PropOf K c_Form "const" p_Form_const a_Form_const
  a__law_told : Addr
  fd__law_told : FuncData
  F__law_told : Fun K "_law_told" "_law_told" s__law_told a__law_told fd__law_told
  b__law_told : Binds K fd__law_told ["_law_form"] []
  m__law_told : mg "_law_told" = some (.ref a__law_told)
  a__law_term : Addr
  fd__law_term : FuncData
  F__law_term : Fun K "_law_term" "_law_term" s__law_term a__law_term fd__law_term
  b__law_term : Binds K fd__law_term ["_law_number_here", "_law_word"] []
  m__law_term : mg "_law_term" = some (.ref a__law_term)
  a__law_shown : Addr
  fd__law_shown : FuncData
  F__law_shown : Fun K "_law_shown" "_law_shown" s__law_shown a__law_shown fd__law_shown
  b__law_shown : Binds K fd__law_shown ["_law_row"] []
  m__law_shown : mg "_law_shown" = some (.ref a__law_shown)
  a_form_of : Addr
  fd_form_of : FuncData
  F_form_of : Fun K "form_of" "form_of" s_form_of a_form_of fd_form_of
  b_form_of : Binds K fd_form_of ["row"] []
  m_form_of : mg "form_of" = some (.ref a_form_of)
  a_is_figures : Addr
  fd_is_figures : FuncData
  F_is_figures : Fun K "is_figures" "is_figures" s_is_figures a_is_figures fd_is_figures
  b_is_figures : Binds K fd_is_figures ["text"] []
  m_is_figures : mg "is_figures" = some (.ref a_is_figures)
  a_number_told : Addr
  fd_number_told : FuncData
  F_number_told : Fun K "number_told" "number_told" s_number_told a_number_told fd_number_told
  b_number_told : Binds K fd_number_told ["text"] []
  m_number_told : mg "number_told" = some (.ref a_number_told)
  a_read_term : Addr
  fd_read_term : FuncData
  F_read_term : Fun K "read_term" "read_term" s_read_term a_read_term fd_read_term
  b_read_term : Binds K fd_read_term ["text"] []
  m_read_term : mg "read_term" = some (.ref a_read_term)
  a_read_form : Addr
  fd_read_form : FuncData
  F_read_form : Fun K "read_form" "read_form" s_read_form a_read_form fd_read_form
  b_read_form : Binds K fd_read_form ["text"] []
  m_read_form : mg "read_form" = some (.ref a_read_form)
  a_law : Addr
  fd_law : FuncData
  F_law : Fun K "law" "law" s_law a_law fd_law
  b_law : Binds K fd_law ["_law_script"] []
  m_law : mg "law" = some (.ref a_law)
  su_Form_bool : PySem.W.subIn K (.ref c_Form) (.type "bool") = some false
  su_Form_int : PySem.W.subIn K (.ref c_Form) (.type "int") = some false
  su_Form_str : PySem.W.subIn K (.ref c_Form) (.type "str") = some false
abbrev Q4 := Int × Int × Int × Int

/-! ### texts of forms: plain, on lists of signs -/
open TL
abbrev mkS (l : List Nat) : Str := ⟨l.toArray⟩
theorem tl_mkS (l : List Nat) : tl (mkS l) = l := rfl
theorem len_mkS (l : List Nat) : (mkS l).length = l.length := by rw [len_tl]
theorem mk_eq {x : Str} {l : List Nat} (h : tl x = l) : x = mkS l := ext_tl h
theorem dec_str (x y : Str) : decide (x = y) = decide (tl x = tl y) := decide_eq_decide.mpr ⟨fun h => by rw [h], ext_tl⟩
theorem num_str (n : Nat) : (Str.ofString (toString ((n : Nat) : Int))) = mkS (numL n) := mk_eq (tl_num n)
theorem num_dig {n c : Nat} (h : c ∈ numL n) : 48 ≤ c ∧ c ≤ 57 := numL_digits n c h
theorem num_len {n : Nat} (h : n < 10 ^ 60) : (numL n).length ≤ 60 := numL_len (by decide) h
theorem num_int {n : Nat} (h : n < 10 ^ 60) : intText? (mkS (numL n)) = some (n : Int) := by
  rw [← num_str]
  exact int_num (Nat.le_trans (num_len h) (by decide))
theorem num_head : ∀ n : Nat, 0 < n → ∃ c r, numL n = c :: r ∧ c ≠ 48
  | n, h0 => by
    by_cases h : n < 10
    · rw [numL_lt h]
      exact ⟨48 + n, [], rfl, by omega⟩
    · obtain ⟨c, r, e, hc⟩ := num_head (n / 10) (by omega)
      rw [numL_step (by omega), e]
      exact ⟨c, r ++ [48 + n % 10], rfl, hc⟩
  termination_by n => n
  decreasing_by omega
def IsW (w : List Nat) : Prop := w = [105] ∨ w = [106] ∨ w = [112] ∨ w = []
def tmL (n : Nat) (w : List Nat) : List Nat := if w = [] then numL n else if n = 1 then w else numL n ++ 42 :: w
theorem tm_ne (n : Nat) (w : List Nat) : tmL n w ≠ [] := by
  unfold tmL
  split
  · exact numL_ne n
  · split
    · assumption
    · simp
theorem tm_in {n : Nat} {w : List Nat} (hw : IsW w) {c : Nat} (h : c ∈ tmL n w) : c ≠ 32 ∧ c ≠ 43 ∧ c ≠ 45 := by
  have hn : c ∈ numL n → c ≠ 32 ∧ c ≠ 43 ∧ c ≠ 45 := fun h => by have := num_dig h; omega
  have hww : c ∈ w → c ≠ 32 ∧ c ≠ 43 ∧ c ≠ 45 := fun h => by
    rcases hw with e | e | e | e <;> rw [e] at h <;> simp at h <;> omega
  unfold tmL at h
  split at h
  · exact hn h
  · split at h
    · exact hww h
    · rcases List.mem_append.mp h with z | z
      · exact hn z
      · rcases List.mem_cons.mp z with z | z
        · omega
        · exact hww z
def sgL (b : Bool) : List Nat := if b then [45] else []
abbrev Tm := Int × List Nat
abbrev ngT (q : Tm) : Bool := decide (q.1 < 0)
abbrev tq (q : Tm) : List Nat := tmL q.1.natAbs q.2
abbrev stT (q : Tm) : List Nat := sgL (ngT q) ++ tq q
def sepT (b : Bool) : List Nat := if b then [32, 45, 32] else [32, 43, 32]
def rst : List Tm → List Nat
  | [] => []
  | q :: ts => sepT (ngT q) ++ (tq q ++ rst ts)
def rst' : List Tm → List Nat
  | [] => []
  | q :: ts => 32 :: 43 :: 32 :: (stT q ++ rst' ts)
def nzT (ps : List Tm) : List Tm := ps.filter fun q => !decide (q.1 = 0)
def accT : List Tm → List Nat
  | [] => []
  | q :: ts => stT q ++ rst ts
abbrev accS (ps : List Tm) : List Nat := accT (nzT ps)
def shL (ps : List Tm) : List Nat := if accS ps = [] then [48] else accS ps
theorem rst_snoc (q : Tm) : ∀ ts : List Tm, rst (ts ++ [q]) = rst ts ++ (sepT (ngT q) ++ tq q)
  | [] => by
    show sepT (ngT q) ++ (tq q ++ []) = [] ++ _
    rw [List.append_nil, List.nil_append]
  | p :: ts => by
    show sepT (ngT p) ++ (tq p ++ rst (ts ++ [q])) = (sepT (ngT p) ++ (tq p ++ rst ts)) ++ _
    rw [rst_snoc q ts, List.append_assoc, List.append_assoc]
theorem acc_nil {ts : List Tm} : accT ts = [] ↔ ts = [] := by
  cases ts with
  | nil => exact ⟨fun _ => rfl, fun _ => rfl⟩
  | cons q ts =>
    refine ⟨fun h => ?_, fun h => by cases h⟩
    have h : (sgL (ngT q) ++ tq q) ++ rst ts = [] := h
    have := (List.append_eq_nil_iff.mp (List.append_eq_nil_iff.mp h).1).2
    exact absurd this (tm_ne _ _)
theorem acc_snoc (ps : List Tm) (q : Tm) : accS (ps ++ [q]) = if q.1 = 0 then accS ps else accS ps ++ ((if accS ps = [] then sgL (ngT q) else sepT (ngT q)) ++ tq q) := by
  unfold accS nzT
  rw [List.filter_append]
  by_cases z : q.1 = 0
  · rw [if_pos z, List.filter_cons_of_neg (by rw [decide_eq_true z]; decide), List.filter_nil, List.append_nil]
  · rw [if_neg z, List.filter_cons_of_pos (by rw [decide_eq_false z]; rfl), List.filter_nil]
    generalize ps.filter (fun q => !decide (q.1 = 0)) = ts
    cases ts with
    | nil =>
      rw [if_pos (show accT [] = [] from rfl)]
      show stT q ++ [] = [] ++ _
      rw [List.append_nil, List.nil_append]
    | cons p ts =>
      rw [if_neg (fun h => by cases acc_nil.mp h)]
      show stT p ++ rst (ts ++ [q]) = (stT p ++ rst ts) ++ _
      rw [rst_snoc]
      exact (List.append_assoc _ _ _).symm
/-! replace and split -/
abbrev repL (l : List Nat) : List Nat := PySem.StrLaws.replL [32, 45, 32] [32, 43, 32, 45] l
theorem rep_free : ∀ {p : List Nat} (l : List Nat), 32 ∉ p → repL (p ++ l) = p ++ repL l
  | [], _, _ => rfl
  | c :: p, l, h => by
    have e : repL (c :: (p ++ l)) = c :: repL (p ++ l) := PySem.StrLaws.replL_miss fun z => by
      have z : c :: (p ++ l).take 2 = [32, 45, 32] := z
      have := (List.cons.inj z).1
      exact h (by rw [this]; exact List.mem_cons_self)
    show repL (c :: (p ++ l)) = c :: (p ++ repL l)
    rw [e, rep_free l fun z => h (List.mem_cons_of_mem _ z)]
theorem rep_rst : ∀ {ts : List Tm}, (∀ q ∈ ts, IsW q.2) → repL (rst ts) = rst' ts
  | [], _ => PySem.StrLaws.replL_nil
  | q :: ts, h => by
    have ih := rep_rst (ts := ts) fun p hp => h p (List.mem_cons_of_mem _ hp)
    have hw := h q List.mem_cons_self
    have f32 : 32 ∉ tq q := fun z => (tm_in hw z).1 rfl
    have tl2 : repL (tq q ++ rst ts) = tq q ++ rst' ts := by rw [rep_free _ f32, ih]
    show repL (sepT (ngT q) ++ (tq q ++ rst ts)) = 32 :: 43 :: 32 :: ((sgL (ngT q) ++ tq q) ++ rst' ts)
    cases ngT q with
    | true =>
      have e : repL (32 :: (45 :: 32 :: (tq q ++ rst ts))) = [32, 43, 32, 45] ++ repL ((32 :: (45 :: 32 :: (tq q ++ rst ts))).drop 3) := PySem.StrLaws.replL_hit (by decide) rfl
      show repL (32 :: (45 :: 32 :: (tq q ++ rst ts))) = _
      rw [e]
      show [32, 43, 32, 45] ++ repL (tq q ++ rst ts) = _
      rw [tl2]
      rfl
    | false =>
      obtain ⟨c, r, ec⟩ := List.exists_cons_of_ne_nil (tm_ne q.1.natAbs q.2)
      have hc : c ≠ 45 := (tm_in hw (c := c) (by rw [ec]; exact List.mem_cons_self)).2.2
      have e1 : repL (32 :: (43 :: 32 :: (tq q ++ rst ts))) = 32 :: repL (43 :: 32 :: (tq q ++ rst ts)) := PySem.StrLaws.replL_miss fun z => by
        have z : 32 :: 43 :: [32] = [32, 45, 32] := z
        exact absurd z (by decide)
      have e2 : repL (43 :: (32 :: (tq q ++ rst ts))) = 43 :: repL (32 :: (tq q ++ rst ts)) := PySem.StrLaws.replL_miss fun z => by
        have z : 43 :: (32 :: (tq q ++ rst ts)).take 2 = [32, 45, 32] := z
        exact absurd (List.cons.inj z).1 (by decide)
      have e3 : repL (32 :: (tq q ++ rst ts)) = 32 :: repL (tq q ++ rst ts) := PySem.StrLaws.replL_miss fun z => by
        have ec : tq q = c :: r := ec
        rw [ec] at z
        have z : 32 :: c :: (r ++ rst ts).take 1 = [32, 45, 32] := z
        exact hc (List.cons.inj (List.cons.inj z).2).1
      show repL (32 :: (43 :: 32 :: (tq q ++ rst ts))) = _
      rw [e1, e2, e3, tl2]
      rfl
theorem st_free {q : Tm} (hw : IsW q.2) : 32 ∉ stT q := fun z => by
  rcases List.mem_append.mp z with z | z
  · unfold sgL at z
    split at z <;> simp at z
  · exact (tm_in hw z).1 rfl
theorem spl_rst : ∀ {ts : List Tm} {p : List Nat}, 32 ∉ p → (∀ q ∈ ts, IsW q.2) → spl [32, 43, 32] 0 [] (p ++ rst' ts) = p :: ts.map stT
  | [], p, hp, _ => by
    show spl [32, 43, 32] 0 [] (p ++ []) = [p]
    rw [List.append_nil]
    exact spl_last1 (S := [43, 32]) hp
  | q :: ts, p, hp, h => by
    have ih := spl_rst (ts := ts) (p := stT q) (st_free (h q List.mem_cons_self)) fun x hx => h x (List.mem_cons_of_mem _ hx)
    have e := spl_part1 (s := 32) (S := [43, 32]) (p := p) (rest := stT q ++ rst' ts) (acc := []) hp
    show spl [32, 43, 32] 0 [] (p ++ (32 :: [43, 32] ++ (stT q ++ rst' ts))) = p :: stT q :: ts.map stT
    rw [e, ih]
    rfl
/-- the parts of a text that is told -/
def prtT (ps : List Tm) : List (List Nat) := if nzT ps = [] then [[48]] else (nzT ps).map stT
theorem rep_sh {ps : List Tm} (h : ∀ q ∈ ps, IsW q.2) : spl [32, 43, 32] 0 [] (repL (shL ps)) = prtT ps := by
  have hn : ∀ q ∈ nzT ps, IsW q.2 := fun q hq => h q (List.mem_filter.mp hq).1
  unfold shL prtT accS
  generalize nzT ps = ts at hn
  cases ts with
  | nil =>
    rw [if_pos (show accT [] = [] from rfl), if_pos rfl]
    decide
  | cons q ts =>
    rw [if_neg (fun z => by cases acc_nil.mp z), if_neg (fun z => by cases z)]
    have hw := hn q List.mem_cons_self
    have hts : ∀ x ∈ ts, IsW x.2 := fun x hx => hn x (List.mem_cons_of_mem _ hx)
    show spl [32, 43, 32] 0 [] (repL (stT q ++ rst ts)) = stT q :: ts.map stT
    rw [rep_free _ (st_free hw), rep_rst hts, spl_rst (st_free hw) hts]
theorem parts_of {ps : List Tm} (h : ∀ q ∈ ps, IsW q.2) : Txt.split (Txt.replace (mkS (shL ps)) (mkS [32, 45, 32]) (mkS [32, 43, 32, 45])) (mkS [32, 43, 32]) = (prtT ps).map mkS := by
  refine map_tl_inj ?_
  rw [split_spl _ _ (by show [32, 43, 32] ≠ []; decide) (kind_ok (by decide +kernel)), show tl (Txt.replace (mkS (shL ps)) (mkS [32, 45, 32]) (mkS [32, 43, 32, 45])) = repL (shL ps) from PySem.StrLaws.replace_list (by show 1 ≤ 3; decide)]
  show spl [32, 43, 32] 0 [] (repL (shL ps)) = _
  rw [rep_sh h, List.map_map]
  exact (List.map_id' (prtT ps)).symm

theorem bi_bool : bootBuiltins "bool" = some (.type "bool") := by decide +kernel
theorem km_bool : PySem.W.kitMeta "bool" = true := by decide +kernel
def ob_bool (n : Nat) : Option Bool := match n with | 0 => some false | _ => none
theorem Tx.obIs_bool {T : Tab} {K : PySem.W.Frag} {mg : Str → Option Value} (t : Tx T K mg) : ObIs K T (.type "bool") ob_bool := fun n b h => by
  unfold ob_bool at h
  split at h
  · cases h; exact ⟨_, _, t.T_Form, t.i_Form, kit_sub t.su_Form_bool km_bool⟩
  · cases h
theorem bi_int : bootBuiltins "int" = some (.type "int") := by decide +kernel
theorem km_int : PySem.W.kitMeta "int" = true := by decide +kernel
def ob_int (n : Nat) : Option Bool := match n with | 0 => some false | _ => none
theorem Tx.obIs_int {T : Tab} {K : PySem.W.Frag} {mg : Str → Option Value} (t : Tx T K mg) : ObIs K T (.type "int") ob_int := fun n b h => by
  unfold ob_int at h
  split at h
  · cases h; exact ⟨_, _, t.T_Form, t.i_Form, kit_sub t.su_Form_int km_int⟩
  · cases h
theorem bi_str : bootBuiltins "str" = some (.type "str") := by decide +kernel
theorem km_str : PySem.W.kitMeta "str" = true := by decide +kernel
def ob_str (n : Nat) : Option Bool := match n with | 0 => some false | _ => none
theorem Tx.obIs_str {T : Tab} {K : PySem.W.Frag} {mg : Str → Option Value} (t : Tx T K mg) : ObIs K T (.type "str") ob_str := fun n b h => by
  unfold ob_str at h
  split at h
  · cases h; exact ⟨_, _, t.T_Form, t.i_Form, kit_sub t.su_Form_str km_str⟩
  · cases h
theorem Tx.kb_Form_1_i_j_p {T : Tab} {K : PySem.W.Frag} {mg : Str → Option Value} (t : Tx T K mg) : ∃ gg, KBn K t.fd_Form___init__ ["self", "const", "i", "j", "p"] 2 ["i", "j", "p"] gg (fun us ws => us ++ ((ws.drop 0).take 1) ++ ((ws.drop 1).take 1) ++ ((ws.drop 2).take 1)) := by
  obtain ⟨its, mv, h⟩ := t.F_Form___init__.kbinds (ps := ["self", "const", "i", "j", "p"]) 2 ["i", "j", "p"] [] (fun us its mv ws => us ++ ((ws.drop 0).take 1) ++ ((ws.drop 1).take 1) ++ ((ws.drop 2).take 1)) (by decide) (by decide) (by decide) (fun a c d b => (((a.append ((b.drop 0).take 1)).append ((b.drop 1).take 1)).append ((b.drop 2).take 1))) fun T D doc pm an cdv ct us its mv ws l1 l2 l3 l4 =>
    match us, its, mv, ws, l1, l2, l3, l4 with | [_, _], [_], [], [_, _, _], _, _, _, _ => ⟨_, rfl, rfl⟩
  exact ⟨_, h⟩
def fu_Form_1_i_j_p (vs zs : List D) : List D := match vs, zs with | [d0], [e0, e1, e2] => [d0, e0, e1, e2] | _, _ => []
theorem Tx.put_Form_1_i_j_p {T : Tab} {K : PySem.W.Frag} {mg : Str → Option Value} (t : Tx T K mg) : ∀ vs zs : List D, vs.length = 1 → zs.length = (["i", "j", "p"] : List Str).length → Put K (fun us ws => us ++ ((ws.drop 0).take 1) ++ ((ws.drop 1).take 1) ++ ((ws.drop 2).take 1)) vs zs (fu_Form_1_i_j_p vs zs)
  | [d0], [e0, e1, e2], _, _ => fun x ws zs h1 h2 => match ws, zs, h1, h2 with | [w0], [z0, z1, z2], _, _ => ⟨[w0, z0, z1, z2], rfl, fun _ _ _ r1 r2 => match r1, r2 with | .cons a0 .nil, .cons b0 (.cons b1 (.cons b2 .nil)) => .cons a0 (.cons b0 (.cons b1 (.cons b2 .nil)))⟩

def w__law_feed (n : Nat) : WS := (wConsS (wAsg 2 (wTwo (wTwo (wCon (.int 7919)) (wName 1) mulW) (wCon (.int 11)) addW))
  (wConsS (wIfS (wBl (wTwo (wName 1) (wCb (wCons (wName 0) wNil) lenW) ltW))
  (wConsS (wAsg 2 (wTwo (wName 0) (wName 1) ixW))
  wNilS)
  (wConsS (wIfS (wBl (wTwo (wCb (wCons (wName 0) wNil) lenW) (wCon (.int 0)) gtW))
  (wConsS (wAsg 2 (wTwo (wName 2) (wTwo (wTwo (wCb (wCons (wTwo (wName 0) (wTwo (wName 1) (wCb (wCons (wName 0) wNil) lenW) modW) ixW) wNil) intW1) (wCon (.int 2147483629)) modW) (wCon (.int 69623)) mulW) addW))
  wNilS)
  wNilS)
  wNilS))
  (wConsS (wAsg 3 (wTwo (wTwo (wTwo (wTwo (wTwo (wCb (wCons (wName 2) wNil) intW1) (wCon (.int 2147483629)) modW) (wTwo (wCon (.int 104729)) (wName 1) mulW) addW) (wCon (.int 1)) addW) (wCon (.int 5)) powW) (wCon (.int 2147483647)) modW))
  (wConsS (wRetC n (wLstC (wCons (wTwo (wLst (wCons (wCon (.int 0)) (wCons (wName 2) wNil))) (wCb (wCons (wTwo (wName 2) (wTwo (wCon (.int 10)) (wCon (.int 18)) powW) geW) wNil) intW1) ixW) (wCons (wTwo (wTwo (wCb (wCons (wName 3) wNil) intW1) (wCon (.int 2147483646)) modW) (wCon (.int 1)) addW) wNil))))
  wNilS))))
def c__law_feed : Ct := ctOf ["_law_script", "_law_k", "_law_cell", "_law_seed"] ["_law_script", "_law_k"] (w__law_feed)
section
variable {T : Tab} {P : Program} {w : World} {K : PySem.W.Frag} {mg : Str → Option Value} {base : Heap}
theorem Tx.ok__law_feed (t : Tx T K mg) : FnOk P w K mg base CX0 1 t.a__law_feed t.fd__law_feed ["_law_script", "_law_k"] (spC T K c__law_feed) := by
  have nd := sc__law_feed.nd
  exact fn_J t.F__law_feed sc__law_feed fun cdv A outer sh H E hr n => (jss_cons (js_asg 2 nd (je_bin jb_add (je_bin jb_mul je_int (je_name 1)) je_int))
  (jss_cons (js_if (jt_cmp jc_lt (je_name 1) (je_cb t.z_len jc_len (ja_cons (je_name 0) ja_nil)))
  (jss_cons (js_asg 2 nd (je_sub ji_ix (je_name 0) (je_name 1)))
  jss_nil)
  (jss_cons (js_if (jt_cmp jc_gt (je_cb t.z_len jc_len (ja_cons (je_name 0) ja_nil)) je_int)
  (jss_cons (js_asg 2 nd (je_bin jb_add (je_name 2) (je_bin jb_mul (je_bin jb_mod (je_cb t.z_int jc_int (ja_cons (je_sub ji_ix (je_name 0) (je_bin jb_mod (je_name 1) (je_cb t.z_len jc_len (ja_cons (je_name 0) ja_nil)))) ja_nil)) je_int) je_int)))
  jss_nil)
  jss_nil)
  jss_nil))
  (jss_cons (js_asg 3 nd (je_bin jb_mod (je_bin jb_pow (je_bin jb_add (je_bin jb_add (je_bin jb_mod (je_cb t.z_int jc_int (ja_cons (je_name 2) ja_nil)) je_int) (je_bin jb_mul je_int (je_name 1))) je_int) je_int) je_int))
  (jss_cons (js_retC (je_lstC (ja_cons (je_sub ji_ix (je_lst (ja_cons je_int (ja_cons (je_name 2) ja_nil))) (je_cb t.z_int jc_int (ja_cons (je_cmp jc_ge (je_name 2) (je_bin jb_pow je_int je_int)) ja_nil))) (ja_cons (je_bin jb_add (je_bin jb_mod (je_cb t.z_int jc_int (ja_cons (je_name 3) ja_nil)) je_int) je_int) ja_nil))))
  jss_nil))))
end

def w__law_take (n : Nat) : WS := (wConsS (wIfS (wBl (wTwo (wTwo (wName 0) (wCon (.int 0)) ixW) (wCon (.int 0)) gtW))
  (wConsS (wAsg 2 (wTwo (wCb (wCons (wTwo (wName 0) (wCon (.int 0)) ixW) wNil) intW1) (wName 1) modW))
  (wConsS (wSetL (wTwo (wTwo (wName 0) (wCon (.int 0)) ixW) (wName 1) fdivW) (wName 0) (wCon (.int 0)))
  (wConsS (wRet n (wName 2))
  wNilS)))
  wNilS)
  (wConsS (wAsg 3 (wTwo (wCb (wCons (wTwo (wTwo (wName 0) (wCon (.int 1)) ixW) (wCon (.int 69623)) mulW) wNil) intW1) (wCon (.int 2147483647)) modW))
  (wConsS (wSetL (wTwo (wTwo (wCb (wCons (wTwo (wTwo (wName 3) (wCon (.int 48271)) mulW) (wCon (.int 30103)) addW) wNil) intW1) (wCon (.int 2147483629)) modW) (wCon (.int 1)) addW) (wName 0) (wCon (.int 1)))
  (wConsS (wRet n (wTwo (wCb (wCons (wTwo (wTwo (wTwo (wName 3) (wCon (.int 2147483647)) mulW) (wTwo (wName 0) (wCon (.int 1)) ixW) addW) (wCon (.int 8191)) fdivW) wNil) intW1) (wName 1) modW))
  wNilS))))
def c__law_take : Ct := ctOf ["_law_box", "_law_many", "_law_digit", "_law_one"] ["_law_box", "_law_many"] (w__law_take)
section
variable {T : Tab} {P : Program} {w : World} {K : PySem.W.Frag} {mg : Str → Option Value} {base : Heap}
theorem Tx.ok__law_take (t : Tx T K mg) : FnOk P w K mg base CX0 1 t.a__law_take t.fd__law_take ["_law_box", "_law_many"] (spC T K c__law_take) := by
  have nd := sc__law_take.nd
  exact fn_J t.F__law_take sc__law_take fun cdv A outer sh H E hr n => (jss_cons (js_if (jt_cmp jc_gt (je_sub ji_ix (je_name 0) je_int) je_int)
  (jss_cons (js_asg 2 nd (je_bin jb_mod (je_cb t.z_int jc_int (ja_cons (je_sub ji_ix (je_name 0) je_int) ja_nil)) (je_name 1)))
  (jss_cons (js_setL (je_bin jb_fdiv (je_sub ji_ix (je_name 0) je_int) (je_name 1)) (je_name 0) je_int)
  (jss_cons (js_ret (je_name 2))
  jss_nil)))
  jss_nil)
  (jss_cons (js_asg 3 nd (je_bin jb_mod (je_cb t.z_int jc_int (ja_cons (je_bin jb_mul (je_sub ji_ix (je_name 0) je_int) je_int) ja_nil)) je_int))
  (jss_cons (js_setL (je_bin jb_add (je_bin jb_mod (je_cb t.z_int jc_int (ja_cons (je_bin jb_add (je_bin jb_mul (je_name 3) je_int) je_int) ja_nil)) je_int) je_int) (je_name 0) je_int)
  (jss_cons (js_ret (je_bin jb_mod (je_cb t.z_int jc_int (ja_cons (je_bin jb_fdiv (je_bin jb_add (je_bin jb_mul (je_name 3) je_int) (je_sub ji_ix (je_name 0) je_int)) je_int) ja_nil)) (je_name 1)))
  jss_nil))))
end

def w_figures_end (n : Nat) : WS := (wConsS (wRet n (wTwo (wIf (wBl (wTwo (wName 0) (wCon (.int 0)) ltW)) (wCon (.str "-")) (wCon (.str ""))) (wM1 joiW (wCon (.str "")) (wRev (wName 2))) addW))
  wNilS)
def w_figures_last (n : Nat) : WS := (wConsS (wExpr (wApp (wName 2) (wCb (wCons (wName 1) wNil) strW1)))
  (wFrz 2 n (w_figures_end n)))
def w_figures_low (n : Nat) : WS := (wConsS (wAsg 3 (wCb (wCons (wTwo (wCb (wCons (wName 1) wNil) intW1) (wTwo (wCon (.int 10)) (wCon (.int 60)) powW) modW) wNil) strW1))
  (wConsS (wExpr (wApp (wName 2) (wTwo (wTwo (wCon (.str "0")) (wTwo (wCon (.int 60)) (wCb (wCons (wName 3) wNil) lenW) subW) mulW) (wName 3) addW)))
  (wConsS (wAsg 1 (wTwo (wName 1) (wTwo (wCon (.int 10)) (wCon (.int 60)) powW) fdivW))
  wNilS)))
def w_figures_loop (n : Nat) : WS := (wConsS (wWhile (wBl (wTwo (wName 1) (wTwo (wCon (.int 10)) (wCon (.int 60)) powW) geW))
  (w_figures_low n))
  (w_figures_last n))
def w_figures (n : Nat) : WS := (wConsS (wPar2 1 2 (wCons (wCb (wCons (wName 0) wNil) absW) (wCons (wLstC wNil) wNil)))
  (w_figures_loop n))
def c_figures : Ct := ctOf ["number", "rest", "pieces", "low"] ["number"] (w_figures)
section
variable {T : Tab} {P : Program} {w : World} {K : PySem.W.Frag} {mg : Str → Option Value} {base : Heap}
theorem Tx.ok_figures (t : Tx T K mg) : FnOk P w K mg base CX0 1 t.a_figures t.fd_figures ["number"] (spC T K c_figures) := by
  have nd := sc_figures.nd
  exact fn_J t.F_figures sc_figures fun cdv A outer sh H E hr n => (jss_cons (js_par2 1 2 nd (ja_cons (je_cb t.z_abs jc_abs (ja_cons (je_name 0) ja_nil)) (ja_cons (je_lstC ja_nil) ja_nil)))
  (jss_cons (js_while PassesOwn.never (jt_cmp jc_ge (je_name 1) (je_bin jb_pow je_int je_int))
  (jss_cons (js_asg 3 nd (je_cb t.z_str jc_str (ja_cons (je_bin jb_mod (je_cb t.z_int jc_int (ja_cons (je_name 1) ja_nil)) (je_bin jb_pow je_int je_int)) ja_nil)))
  (jss_cons (js_expr (je_app (je_name 2) (je_bin jb_add (je_bin jb_mul je_str (je_bin jb_sub je_int (je_cb t.z_len jc_len (ja_cons (je_name 3) ja_nil)))) (je_name 3))))
  (jss_cons (js_asg 1 nd (je_bin jb_fdiv (je_name 1) (je_bin jb_pow je_int je_int)))
  jss_nil))))
  (jss_cons (js_expr (je_app (je_name 2) (je_cb t.z_str jc_str (ja_cons (je_name 1) ja_nil))))
  (jss_frz 2 (jss_cons (js_ret (je_bin jb_add (je_if (jt_cmp jc_lt (je_name 0) je_int) je_str je_str) (je_join je_str (je_rev (je_name 2)))))
  jss_nil)))))
end

def w_term_text (n : Nat) : WS := (wConsS (wIfS (wBl (wTwo (wName 1) (wCon (.str "")) (eqW false)))
  (wConsS (wRet n (wFn c_figures (wCons (wName 0) wNil)))
  wNilS)
  wNilS)
  (wConsS (wRet n (wIf (wBl (wTwo (wName 0) (wCon (.int 1)) (eqW false))) (wName 1) (wJoin [(wFmt (wFn c_figures (wCons (wName 0) wNil))), (wCon (.str "*")), (wFmt (wName 1))])))
  wNilS))
def c_term_text : Ct := ctOf ["number", "word"] ["number", "word"] (w_term_text)
section
variable {T : Tab} {P : Program} {w : World} {K : PySem.W.Frag} {mg : Str → Option Value} {base : Heap}
theorem Tx.ok_term_text (t : Tx T K mg) : FnOk P w K mg base CX0 2 t.a_term_text t.fd_term_text ["number", "word"] (spC T K c_term_text) := by
  have nd := sc_term_text.nd
  exact fn_J t.F_term_text sc_term_text fun cdv A outer sh H E hr n => (jss_cons (js_if (jt_cmp (jc_eq hr.units) (je_name 1) je_str)
  (jss_cons (js_ret (je_call t.ok_figures (hr.mono (by decide)) t.m_figures t.F_figures.kp t.b_figures (ja_cons (je_name 0) ja_nil)))
  jss_nil)
  jss_nil)
  (jss_cons (js_ret (je_if (jt_cmp (jc_eq hr.units) (je_name 0) je_int) (je_name 1) (je_joined (JP.cons (je_fmt (je_call t.ok_figures (hr.mono (by decide)) t.m_figures t.F_figures.kp t.b_figures (ja_cons (je_name 0) ja_nil))) (JP.cons je_str (JP.cons (je_fmt (je_name 1)) JP.nil))))))
  jss_nil))
end

def w_show_form_put (n : Nat) : WS := (wConsS (wAsg 4 (wTwo (wLst (wCons (wCon (.str "")) (wCons (wCon (.str "-")) (wCons (wCon (.str " + ")) (wCons (wCon (.str " - ")) wNil))))) (wTwo (wTwo (wCon (.int 2)) (wCb (wCons (wTwo (wName 1) (wCon (.str "")) (eqW true)) wNil) intW1) mulW) (wCb (wCons (wTwo (wName 2) (wCon (.int 0)) ltW) wNil) intW1) addW) ixW))
  (wConsS (wAsg 1 (wTwo (wTwo (wName 1) (wName 4) addW) (wFn c_term_text (wCons (wCb (wCons (wName 2) wNil) absW) (wCons (wName 3) wNil))) addW))
  wNilS))
def w_show_form (n : Nat) : WS := (wConsS (wAsg 1 (wCon (.str "")))
  (wConsS (wFor (wZip2 (wCons (wFld 0 ["row"] "row" (wName 0)) (wCons (wTup (wCons (wCon (.str "i")) (wCons (wCon (.str "j")) (wCons (wCon (.str "p")) (wCons (wCon (.str "")) wNil))))) wNil))) (.tp [(.nm 2), (.nm 3)])
  (wConsS (wIfS (wBl (wTwo (wName 2) (wCon (.int 0)) (eqW true)))
  (w_show_form_put n)
  wNilS)
  wNilS))
  (wConsS (wRet n (wIf (wBl (wTwo (wName 1) (wCon (.str "")) (eqW false))) (wCon (.str "0")) (wName 1)))
  wNilS)))
def c_show_form : Ct := ctOf ["form", "found", "number", "word", "ahead"] ["form"] (w_show_form)
section
variable {T : Tab} {P : Program} {w : World} {K : PySem.W.Frag} {mg : Str → Option Value} {base : Heap}
theorem Tx.ok_show_form (t : Tx T K mg) : FnOk P w K mg base CX0 3 t.a_show_form t.fd_show_form ["form"] (spC T K c_show_form) := by
  have nd := sc_show_form.nd
  exact fn_J t.F_show_form sc_show_form fun cdv A outer sh H E hr n => (jss_cons (js_asg 1 nd je_str)
  (jss_cons (js_for PassesOwn.never (ji_zip t.z_zip (ja_cons (je_fld t.T_Form t.cl_Form t.no_Form_row (je_name 0)) (ja_cons (je_tup (ja_cons je_str (ja_cons je_str (ja_cons je_str (ja_cons je_str ja_nil))))) ja_nil))) (dg_tup rfl (dgs_cons (dg_name 2 nd) (dgs_cons (dg_name 3 nd) dgs_nil)))
  (jss_cons (js_if (jt_cmp (jc_ne hr.units) (je_name 2) je_int)
  (jss_cons (js_asg 4 nd (je_sub ji_ix (je_lst (ja_cons je_str (ja_cons je_str (ja_cons je_str (ja_cons je_str ja_nil))))) (je_bin jb_add (je_bin jb_mul je_int (je_cb t.z_int jc_int (ja_cons (je_cmp (jc_ne hr.units) (je_name 1) je_str) ja_nil))) (je_cb t.z_int jc_int (ja_cons (je_cmp jc_lt (je_name 2) je_int) ja_nil)))))
  (jss_cons (js_asg 1 nd (je_bin jb_add (je_bin jb_add (je_name 1) (je_name 4)) (je_call t.ok_term_text (hr.mono (by decide)) t.m_term_text t.F_term_text.kp t.b_term_text (ja_cons (je_cb t.z_abs jc_abs (ja_cons (je_name 2) ja_nil)) (ja_cons (je_name 3) ja_nil)))))
  jss_nil))
  jss_nil)
  jss_nil))
  (jss_cons (js_ret (je_if (jt_cmp (jc_eq hr.units) (je_name 1) je_str) je_str (je_name 1)))
  jss_nil)))
end

def w__law_number (n : Nat) : WS := (wConsS (wAsg 1 (wFn c__law_take (wCons (wName 0) (wCons (wCon (.int 8)) wNil))))
  (wConsS (wIfS (wBl (wTwo (wName 1) (wCon (.int 5)) ltW))
  (wConsS (wRet n (wTwo (wLst (wCons (wCon (.int 0)) (wCons (wCon (.int 1)) (wCons (wOne (wCon (.int 1)) negW) (wCons (wCon (.int 10)) (wCons (wTwo (wCon (.int 0)) (wCon (.int 11)) subW) wNil)))))) (wName 1) ixW))
  wNilS)
  wNilS)
  (wConsS (wIfS (wBl (wTwo (wName 1) (wCon (.int 5)) (eqW false)))
  (wConsS (wRet n (wTwo (wTwo (wCon (.int 1)) (wTwo (wCon (.int 2)) (wFn c__law_take (wCons (wName 0) (wCons (wCon (.int 2)) wNil))) mulW) subW) (wCb (wCons (wTwo (wCon (.str "9")) (wTwo (wCon (.str "0")) (wFn c__law_take (wCons (wName 0) (wCons (wCon (.int 60)) wNil))) mulW) addW) wNil) intW1) mulW))
  wNilS)
  wNilS)
  (wConsS (wRet n (wTwo (wFn c__law_take (wCons (wName 0) (wCons (wCon (.int 25)) wNil))) (wCon (.int 12)) subW))
  wNilS))))
def c__law_number : Ct := ctOf ["_law_box", "_law_way"] ["_law_box"] (w__law_number)
section
variable {T : Tab} {P : Program} {w : World} {K : PySem.W.Frag} {mg : Str → Option Value} {base : Heap}
theorem Tx.ok__law_number (t : Tx T K mg) : FnOk P w K mg base CX0 2 t.a__law_number t.fd__law_number ["_law_box"] (spC T K c__law_number) := by
  have nd := sc__law_number.nd
  exact fn_J t.F__law_number sc__law_number fun cdv A outer sh H E hr n => (jss_cons (js_asg 1 nd (je_call t.ok__law_take (hr.mono (by decide)) t.m__law_take t.F__law_take.kp t.b__law_take (ja_cons (je_name 0) (ja_cons je_int ja_nil))))
  (jss_cons (js_if (jt_cmp jc_lt (je_name 1) je_int)
  (jss_cons (js_ret (je_sub ji_ix (je_lst (ja_cons je_int (ja_cons je_int (ja_cons (je_un ju_neg je_int) (ja_cons je_int (ja_cons (je_bin jb_sub je_int je_int) ja_nil)))))) (je_name 1)))
  jss_nil)
  jss_nil)
  (jss_cons (js_if (jt_cmp (jc_eq hr.units) (je_name 1) je_int)
  (jss_cons (js_ret (je_bin jb_mul (je_bin jb_sub je_int (je_bin jb_mul je_int (je_call t.ok__law_take (hr.mono (by decide)) t.m__law_take t.F__law_take.kp t.b__law_take (ja_cons (je_name 0) (ja_cons je_int ja_nil))))) (je_cb t.z_int jc_int (ja_cons (je_bin jb_add je_str (je_bin jb_mul je_str (je_call t.ok__law_take (hr.mono (by decide)) t.m__law_take t.F__law_take.kp t.b__law_take (ja_cons (je_name 0) (ja_cons je_int ja_nil))))) ja_nil))))
  jss_nil)
  jss_nil)
  (jss_cons (js_ret (je_bin jb_sub (je_call t.ok__law_take (hr.mono (by decide)) t.m__law_take t.F__law_take.kp t.b__law_take (ja_cons (je_name 0) (ja_cons je_int ja_nil))) je_int))
  jss_nil))))
end

def w_is_whole (n : Nat) : WS := (wConsS (wRet n (wAndV (wIsi (fun t => kitB t "int") (ob_int) (wName 0)) (wNotV (wIsi (fun t => kitB t "bool") (ob_bool) (wName 0)))))
  wNilS)
def c_is_whole : Ct := ctOf ["value"] ["value"] (w_is_whole)
section
variable {T : Tab} {P : Program} {w : World} {K : PySem.W.Frag} {mg : Str → Option Value} {base : Heap}
theorem Tx.ok_is_whole (t : Tx T K mg) : FnOk P w K mg base CX0 1 t.a_is_whole t.fd_is_whole ["value"] (spC T K c_is_whole) := by
  have nd := sc_is_whole.nd
  exact fn_J t.F_is_whole sc_is_whole fun cdv A outer sh H E hr n => (jss_cons (js_ret (je_and (je_isiB t.z_isinstance t.z_int bi_int t.obIs_int (je_name 0)) (je_one (je_not (je_isiB t.z_isinstance t.z_bool bi_bool t.obIs_bool (je_name 0))))))
  jss_nil)
end

def w_Form___init__ (n : Nat) : WS := (wConsS (wFor (wItems (wTup (wCons (wName 1) (wCons (wName 2) (wCons (wName 3) (wCons (wName 4) wNil)))))) (.nm 5)
  (wConsS (wIfS (wNotT (wTru (wFn c_is_whole (wCons (wName 5) wNil))))
  (wConsS wNo
  wNilS)
  wNilS)
  wNilS))
  (wConsS (wSetF 0 "row" (wTup (wCons (wName 2) (wCons (wName 3) (wCons (wName 4) (wCons (wName 1) wNil))))) (wName 0))
  wNilS))
def c_Form___init__ : Ct := ctOf ["self", "const", "i", "j", "p", "value"] ["self", "const", "i", "j", "p"] (w_Form___init__)
section
variable {T : Tab} {P : Program} {w : World} {K : PySem.W.Frag} {mg : Str → Option Value} {base : Heap}
theorem Tx.ok_Form___init__ (t : Tx T K mg) : FnOk P w K mg base CX0 2 t.a_Form___init__ t.fd_Form___init__ ["self", "const", "i", "j", "p"] (spC T K c_Form___init__) := by
  have nd := sc_Form___init__.nd
  exact fn_JD t.F_Form___init__ sc_Form___init__ fun cdv A outer sh H E hr n => (jss_cons (js_for PassesOwn.never (ji_val (je_tup (ja_cons (je_name 1) (ja_cons (je_name 2) (ja_cons (je_name 3) (ja_cons (je_name 4) ja_nil)))))) (dg_name 5 nd)
  (jss_cons (js_if (jt_not (jt_val (je_call t.ok_is_whole (hr.mono (by decide)) t.m_is_whole t.F_is_whole.kp t.b_is_whole (ja_cons (je_name 5) ja_nil))))
  (jss_cons js_no
  jss_nil)
  jss_nil)
  jss_nil))
  (jss_cons (js_fld t.T_Form t.cl_Form t.no_Form_row (je_tup (ja_cons (je_name 2) (ja_cons (je_name 3) (ja_cons (je_name 4) (ja_cons (je_name 1) ja_nil))))) (je_name 0))
  jss_nil))
end

def w__law_made (n : Nat) : WS := (wConsS (wRet n (wMakeK 0 ["row"] c_Form___init__ 1 3 fu_Form_1_i_j_p (wCons (wTwo (wName 0) (wCon (.int 3)) ixW) wNil) (wCons (wTwo (wName 0) (wCon (.int 0)) ixW) (wCons (wTwo (wName 0) (wCon (.int 1)) ixW) (wCons (wTwo (wName 0) (wCon (.int 2)) ixW) wNil)))))
  wNilS)
def c__law_made : Ct := ctOf ["_law_row"] ["_law_row"] (w__law_made)
section
variable {T : Tab} {P : Program} {w : World} {K : PySem.W.Frag} {mg : Str → Option Value} {base : Heap}
theorem Tx.ok__law_made (t : Tx T K mg) : FnOk P w K mg base CX0 4 t.a__law_made t.fd__law_made ["_law_row"] (spC T K c__law_made) := by
  have nd := sc__law_made.nd
  exact fn_J t.F__law_made sc__law_made fun cdv A outer sh H E hr n => (jss_cons (js_ret (je_makeK t.T_Form t.K_Form t.ok_Form___init__ (hr.mono (by decide)) t.m_Form t.kb_Form_1_i_j_p t.put_Form_1_i_j_p (ja_cons (je_sub ji_ix (je_name 0) je_int) ja_nil) (jk_cons (je_sub ji_ix (je_name 0) je_int) (jk_cons (je_sub ji_ix (je_name 0) je_int) (jk_cons (je_sub ji_ix (je_name 0) je_int) jk_nil)))))
  jss_nil)
end

def w_Form_i (n : Nat) : WS := (wConsS (wRet n (wTwo (wFld 0 ["row"] "row" (wName 0)) (wCon (.int 0)) ixW))
  wNilS)
def c_Form_i : Ct := ctOf ["self"] ["self"] (w_Form_i)
section
variable {T : Tab} {P : Program} {w : World} {K : PySem.W.Frag} {mg : Str → Option Value} {base : Heap}
theorem Tx.ok_Form_i (t : Tx T K mg) : FnOk P w K mg base CX0 1 t.a_Form_i t.fd_Form_i ["self"] (spC T K c_Form_i) := by
  have nd := sc_Form_i.nd
  exact fn_J t.F_Form_i sc_Form_i fun cdv A outer sh H E hr n => (jss_cons (js_ret (je_sub ji_ix (je_fld t.T_Form t.cl_Form t.no_Form_row (je_name 0)) je_int))
  jss_nil)
end

def w_Form_j (n : Nat) : WS := (wConsS (wRet n (wTwo (wFld 0 ["row"] "row" (wName 0)) (wCon (.int 1)) ixW))
  wNilS)
def c_Form_j : Ct := ctOf ["self"] ["self"] (w_Form_j)
section
variable {T : Tab} {P : Program} {w : World} {K : PySem.W.Frag} {mg : Str → Option Value} {base : Heap}
theorem Tx.ok_Form_j (t : Tx T K mg) : FnOk P w K mg base CX0 1 t.a_Form_j t.fd_Form_j ["self"] (spC T K c_Form_j) := by
  have nd := sc_Form_j.nd
  exact fn_J t.F_Form_j sc_Form_j fun cdv A outer sh H E hr n => (jss_cons (js_ret (je_sub ji_ix (je_fld t.T_Form t.cl_Form t.no_Form_row (je_name 0)) je_int))
  jss_nil)
end

def w_Form_p (n : Nat) : WS := (wConsS (wRet n (wTwo (wFld 0 ["row"] "row" (wName 0)) (wCon (.int 2)) ixW))
  wNilS)
def c_Form_p : Ct := ctOf ["self"] ["self"] (w_Form_p)
section
variable {T : Tab} {P : Program} {w : World} {K : PySem.W.Frag} {mg : Str → Option Value} {base : Heap}
theorem Tx.ok_Form_p (t : Tx T K mg) : FnOk P w K mg base CX0 1 t.a_Form_p t.fd_Form_p ["self"] (spC T K c_Form_p) := by
  have nd := sc_Form_p.nd
  exact fn_J t.F_Form_p sc_Form_p fun cdv A outer sh H E hr n => (jss_cons (js_ret (je_sub ji_ix (je_fld t.T_Form t.cl_Form t.no_Form_row (je_name 0)) je_int))
  jss_nil)
end

def w_Form_const (n : Nat) : WS := (wConsS (wRet n (wTwo (wFld 0 ["row"] "row" (wName 0)) (wCon (.int 3)) ixW))
  wNilS)
def c_Form_const : Ct := ctOf ["self"] ["self"] (w_Form_const)
section
variable {T : Tab} {P : Program} {w : World} {K : PySem.W.Frag} {mg : Str → Option Value} {base : Heap}
theorem Tx.ok_Form_const (t : Tx T K mg) : FnOk P w K mg base CX0 1 t.a_Form_const t.fd_Form_const ["self"] (spC T K c_Form_const) := by
  have nd := sc_Form_const.nd
  exact fn_J t.F_Form_const sc_Form_const fun cdv A outer sh H E hr n => (jss_cons (js_ret (je_sub ji_ix (je_fld t.T_Form t.cl_Form t.no_Form_row (je_name 0)) je_int))
  jss_nil)
end

def w__law_told (n : Nat) : WS := (wConsS (wAsg 1 (wTup (wCons (wPro 0 c_Form_i (wName 0)) (wCons (wPro 0 c_Form_j (wName 0)) (wCons (wPro 0 c_Form_p (wName 0)) (wCons (wPro 0 c_Form_const (wName 0)) wNil))))))
  (wConsS (wAsg 2 (wLc (wItems (wName 1)) (.nm 3) (wOrT (wNotT (wTru (wIsi (fun t => kitB t "int") (ob_int) (wName 3)))) (wTru (wIsi (fun t => kitB t "bool") (ob_bool) (wName 3)))) (wName 3) [3]))
  (wConsS (wRet n (wIf (wBl (wTwo (wName 2) (wLst wNil) (eqW true))) (wCon .non) (wName 1)))
  wNilS)))
def c__law_told : Ct := ctOf ["_law_form", "_law_found", "_law_bad", "_law_k"] ["_law_form"] (w__law_told)
section
variable {T : Tab} {P : Program} {w : World} {K : PySem.W.Frag} {mg : Str → Option Value} {base : Heap}
theorem Tx.ok__law_told (t : Tx T K mg) : FnOk P w K mg base CX0 3 t.a__law_told t.fd__law_told ["_law_form"] (spC T K c__law_told) := by
  have nd := sc__law_told.nd
  exact fn_J t.F__law_told sc__law_told fun cdv A outer sh H E hr n => (jss_cons (js_asg 1 nd (je_tup (ja_cons (je_prop t.T_Form t.cl_Form t.P_Form_i t.ok_Form_i (hr.mono (by decide)) t.b_Form_i (je_name 0)) (ja_cons (je_prop t.T_Form t.cl_Form t.P_Form_j t.ok_Form_j (hr.mono (by decide)) t.b_Form_j (je_name 0)) (ja_cons (je_prop t.T_Form t.cl_Form t.P_Form_p t.ok_Form_p (hr.mono (by decide)) t.b_Form_p (je_name 0)) (ja_cons (je_prop t.T_Form t.cl_Form t.P_Form_const t.ok_Form_const (hr.mono (by decide)) t.b_Form_const (je_name 0)) ja_nil))))))
  (jss_cons (js_lc 2 nd ⟨(ji_val (je_name 1)), blkOk_by (own := [("_law_k", 3)]) (by kernel_rfl), fun _ _ _ _ _ => (dg_name 3 nd), fun _ _ _ _ _ => (jts_one (JW.jt (jw_or (jt_not (jt_val (je_isiB t.z_isinstance t.z_int bi_int t.obIs_int (je_name 3)))) (jw_or1 (jt_val (je_isiB t.z_isinstance t.z_bool bi_bool t.obIs_bool (je_name 3))))))), fun _ _ _ _ _ => (je_name 3), by decide⟩)
  (jss_cons (js_ret (je_if (jt_cmp (jc_ne hr.units) (je_name 2) (je_lst ja_nil)) je_non (je_name 1)))
  jss_nil)))
end

def w__law_term (n : Nat) : WS := (wConsS (wIfS (wBl (wTwo (wName 1) (wCon (.str "")) (eqW false)))
  (wConsS (wRet n (wCb (wCons (wName 0) wNil) strW1))
  wNilS)
  wNilS)
  (wConsS (wIfS (wBl (wTwo (wName 0) (wCon (.int 1)) (eqW false)))
  (wConsS (wRet n (wName 1))
  wNilS)
  wNilS)
  (wConsS (wRet n (wTwo (wTwo (wCb (wCons (wName 0) wNil) strW1) (wCon (.str "*")) addW) (wName 1) addW))
  wNilS)))
def c__law_term : Ct := ctOf ["_law_number_here", "_law_word"] ["_law_number_here", "_law_word"] (w__law_term)
section
variable {T : Tab} {P : Program} {w : World} {K : PySem.W.Frag} {mg : Str → Option Value} {base : Heap}
theorem Tx.ok__law_term (t : Tx T K mg) : FnOk P w K mg base CX0 1 t.a__law_term t.fd__law_term ["_law_number_here", "_law_word"] (spC T K c__law_term) := by
  have nd := sc__law_term.nd
  exact fn_J t.F__law_term sc__law_term fun cdv A outer sh H E hr n => (jss_cons (js_if (jt_cmp (jc_eq hr.units) (je_name 1) je_str)
  (jss_cons (js_ret (je_cb t.z_str jc_str (ja_cons (je_name 0) ja_nil)))
  jss_nil)
  jss_nil)
  (jss_cons (js_if (jt_cmp (jc_eq hr.units) (je_name 0) je_int)
  (jss_cons (js_ret (je_name 1))
  jss_nil)
  jss_nil)
  (jss_cons (js_ret (je_bin jb_add (je_bin jb_add (je_cb t.z_str jc_str (ja_cons (je_name 0) ja_nil)) je_str) (je_name 1)))
  jss_nil)))
end

def w__law_shown_one (n : Nat) : WS := (wConsS (wIfS (wAndT (wBl (wTwo (wName 2) (wCon (.int 0)) (eqW true))) (wBl (wTwo (wName 1) (wCon (.str "")) (eqW false))))
  (wConsS (wAsg 1 (wTwo (wTwo (wCon (.str "-")) (wCb (wCons (wTwo (wName 2) (wCon (.int 0)) ltW) wNil) intW1) mulW) (wFn c__law_term (wCons (wCb (wCons (wName 2) wNil) absW) (wCons (wName 3) wNil))) addW))
  wNilS)
  (wConsS (wIfS (wBl (wTwo (wName 2) (wCon (.int 0)) (eqW true)))
  (wConsS (wAsg 1 (wTwo (wTwo (wName 1) (wTwo (wLst (wCons (wCon (.str " + ")) (wCons (wCon (.str " - ")) wNil))) (wCb (wCons (wTwo (wName 2) (wCon (.int 0)) ltW) wNil) intW1) ixW) addW) (wFn c__law_term (wCons (wCb (wCons (wName 2) wNil) absW) (wCons (wName 3) wNil))) addW))
  wNilS)
  wNilS)
  wNilS))
  wNilS)
def w__law_shown (n : Nat) : WS := (wConsS (wAsg 1 (wCon (.str "")))
  (wConsS (wFor (wZip2 (wCons (wName 0) (wCons (wTup (wCons (wCon (.str "i")) (wCons (wCon (.str "j")) (wCons (wCon (.str "p")) (wCons (wCon (.str "")) wNil))))) wNil))) (.tp [(.nm 2), (.nm 3)])
  (w__law_shown_one n))
  (wConsS (wRet n (wTwo (wLst (wCons (wName 1) (wCons (wCon (.str "0")) wNil))) (wCb (wCons (wTwo (wName 1) (wCon (.str "")) (eqW false)) wNil) intW1) ixW))
  wNilS)))
def c__law_shown : Ct := ctOf ["_law_row", "_law_found", "_law_number_here", "_law_word"] ["_law_row"] (w__law_shown)
section
variable {T : Tab} {P : Program} {w : World} {K : PySem.W.Frag} {mg : Str → Option Value} {base : Heap}
theorem Tx.ok__law_shown (t : Tx T K mg) : FnOk P w K mg base CX0 2 t.a__law_shown t.fd__law_shown ["_law_row"] (spC T K c__law_shown) := by
  have nd := sc__law_shown.nd
  exact fn_J t.F__law_shown sc__law_shown fun cdv A outer sh H E hr n => (jss_cons (js_asg 1 nd je_str)
  (jss_cons (js_for PassesOwn.never (ji_zip t.z_zip (ja_cons (je_name 0) (ja_cons (je_tup (ja_cons je_str (ja_cons je_str (ja_cons je_str (ja_cons je_str ja_nil))))) ja_nil))) (dg_tup rfl (dgs_cons (dg_name 2 nd) (dgs_cons (dg_name 3 nd) dgs_nil)))
  (jss_cons (js_if (JW.jt (jw_and (jt_cmp (jc_ne hr.units) (je_name 2) je_int) (jw_and1 (jt_cmp (jc_eq hr.units) (je_name 1) je_str))))
  (jss_cons (js_asg 1 nd (je_bin jb_add (je_bin jb_mul je_str (je_cb t.z_int jc_int (ja_cons (je_cmp jc_lt (je_name 2) je_int) ja_nil))) (je_call t.ok__law_term (hr.mono (by decide)) t.m__law_term t.F__law_term.kp t.b__law_term (ja_cons (je_cb t.z_abs jc_abs (ja_cons (je_name 2) ja_nil)) (ja_cons (je_name 3) ja_nil)))))
  jss_nil)
  (jss_cons (js_if (jt_cmp (jc_ne hr.units) (je_name 2) je_int)
  (jss_cons (js_asg 1 nd (je_bin jb_add (je_bin jb_add (je_name 1) (je_sub ji_ix (je_lst (ja_cons je_str (ja_cons je_str ja_nil))) (je_cb t.z_int jc_int (ja_cons (je_cmp jc_lt (je_name 2) je_int) ja_nil)))) (je_call t.ok__law_term (hr.mono (by decide)) t.m__law_term t.F__law_term.kp t.b__law_term (ja_cons (je_cb t.z_abs jc_abs (ja_cons (je_name 2) ja_nil)) (ja_cons (je_name 3) ja_nil)))))
  jss_nil)
  jss_nil)
  jss_nil))
  jss_nil))
  (jss_cons (js_ret (je_sub ji_ix (je_lst (ja_cons (je_name 1) (ja_cons je_str ja_nil))) (je_cb t.z_int jc_int (ja_cons (je_cmp (jc_eq hr.units) (je_name 1) je_str) ja_nil))))
  jss_nil)))
end

def w_form_of (n : Nat) : WS := (wConsS (wRet n (wMakeK 0 ["row"] c_Form___init__ 1 3 fu_Form_1_i_j_p (wCons (wTwo (wName 0) (wCon (.int 3)) ixW) wNil) (wCons (wTwo (wName 0) (wCon (.int 0)) ixW) (wCons (wTwo (wName 0) (wCon (.int 1)) ixW) (wCons (wTwo (wName 0) (wCon (.int 2)) ixW) wNil)))))
  wNilS)
def c_form_of : Ct := ctOf ["row"] ["row"] (w_form_of)
section
variable {T : Tab} {P : Program} {w : World} {K : PySem.W.Frag} {mg : Str → Option Value} {base : Heap}
theorem Tx.ok_form_of (t : Tx T K mg) : FnOk P w K mg base CX0 4 t.a_form_of t.fd_form_of ["row"] (spC T K c_form_of) := by
  have nd := sc_form_of.nd
  exact fn_J t.F_form_of sc_form_of fun cdv A outer sh H E hr n => (jss_cons (js_ret (je_makeK t.T_Form t.K_Form t.ok_Form___init__ (hr.mono (by decide)) t.m_Form t.kb_Form_1_i_j_p t.put_Form_1_i_j_p (ja_cons (je_sub ji_ix (je_name 0) je_int) ja_nil) (jk_cons (je_sub ji_ix (je_name 0) je_int) (jk_cons (je_sub ji_ix (je_name 0) je_int) (jk_cons (je_sub ji_ix (je_name 0) je_int) jk_nil)))))
  jss_nil)
end

def w_is_figures (n : Nat) : WS := (wConsS (wIfS (wOrT (wBl (wTwo (wName 0) (wCon (.str "")) (eqW false))) (wBl (wTwo (wLc (wItemsS (wName 0)) (.nm 1) (wBl (wTwo (wName 1) (wCon (.str "0123456789")) (inSW true))) (wName 1) [1]) (wLst wNil) (eqW true))))
  (wConsS (wRet n (wCon (.bl false)))
  wNilS)
  wNilS)
  (wConsS (wRet n (wOrV (wTwo (wName 0) (wCon (.str "0")) (eqW false)) (wTwo (wTwo (wName 0) (wCon (.int 0)) ixW) (wCon (.str "0")) (eqW true))))
  wNilS))
def c_is_figures : Ct := ctOf ["text", "sign"] ["text"] (w_is_figures)
section
variable {T : Tab} {P : Program} {w : World} {K : PySem.W.Frag} {mg : Str → Option Value} {base : Heap}
theorem Tx.ok_is_figures (t : Tx T K mg) : FnOk P w K mg base CX0 1 t.a_is_figures t.fd_is_figures ["text"] (spC T K c_is_figures) := by
  have nd := sc_is_figures.nd
  exact fn_J t.F_is_figures sc_is_figures fun cdv A outer sh H E hr n => (jss_cons (js_if (JW.jt (jw_or (jt_cmp (jc_eq hr.units) (je_name 0) je_str) (jw_or1 (jt_cmp (jc_ne hr.units) (je_lc nd ⟨(ji_str (je_name 0)), blkOk_by (own := [("sign", 1)]) (by kernel_rfl), fun _ _ _ _ _ => (dg_name 1 nd), fun _ _ _ _ _ => (jts_one (jt_cmp jc_notinS (je_name 1) je_str)), fun _ _ _ _ _ => (je_name 1), by decide⟩) (je_lst ja_nil)))))
  (jss_cons (js_ret je_bl)
  jss_nil)
  jss_nil)
  (jss_cons (js_ret (je_or (je_cmp (jc_eq hr.units) (je_name 0) je_str) (je_one (je_cmp (jc_ne hr.units) (je_sub ji_ix (je_name 0) je_int) je_str))))
  jss_nil))
end

def w_number_told_loop (n : Nat) : WS := (wConsS (wFor (wRng3 (wCons (wName 1) (wCons (wCb (wCons (wName 0) wNil) lenW) (wCons (wCon (.int 60)) wNil)))) (.nm 3)
  (wConsS (wAsg 2 (wTwo (wTwo (wName 2) (wTwo (wCon (.int 10)) (wCon (.int 60)) powW) mulW) (wCb (wCons (wSlcS (wName 0) (wO1 (wName 3)) (wO1 (wTwo (wName 3) (wCon (.int 60)) addW))) wNil) intW1) addW))
  wNilS))
  (wConsS (wRet n (wName 2))
  wNilS))
def w_number_told (n : Nat) : WS := (wConsS (wAsg 1 (wTwo (wCb (wCons (wName 0) wNil) lenW) (wCon (.int 60)) modW))
  (wConsS (wAsg 2 (wIf (wBl (wTwo (wName 1) (wCon (.int 0)) gtW)) (wCb (wCons (wSlcS (wName 0) wO0 (wO1 (wName 1))) wNil) intW1) (wCon (.int 0))))
  (w_number_told_loop n)))
def c_number_told : Ct := ctOf ["text", "begun", "found", "at"] ["text"] (w_number_told)
section
variable {T : Tab} {P : Program} {w : World} {K : PySem.W.Frag} {mg : Str → Option Value} {base : Heap}
theorem Tx.ok_number_told (t : Tx T K mg) : FnOk P w K mg base CX0 1 t.a_number_told t.fd_number_told ["text"] (spC T K c_number_told) := by
  have nd := sc_number_told.nd
  exact fn_J t.F_number_told sc_number_told fun cdv A outer sh H E hr n => (jss_cons (js_asg 1 nd (je_bin jb_mod (je_cb t.z_len jc_len (ja_cons (je_name 0) ja_nil)) je_int))
  (jss_cons (js_asg 2 nd (je_if (jt_cmp jc_gt (je_name 1) je_int) (je_cb t.z_int jc_int (ja_cons (je_sliceS (je_name 0) jo_none (jo_some (je_name 1))) ja_nil)) je_int))
  (jss_cons (js_for PassesOwn.never (ji_range3 t.z_range (ja_cons (je_name 1) (ja_cons (je_cb t.z_len jc_len (ja_cons (je_name 0) ja_nil)) (ja_cons je_int ja_nil)))) (dg_name 3 nd)
  (jss_cons (js_asg 2 nd (je_bin jb_add (je_bin jb_mul (je_name 2) (je_bin jb_pow je_int je_int)) (je_cb t.z_int jc_int (ja_cons (je_sliceS (je_name 0) (jo_some (je_name 3)) (jo_some (je_bin jb_add (je_name 3) je_int))) ja_nil))))
  jss_nil))
  (jss_cons (js_ret (je_name 2))
  jss_nil))))
end

def w_read_term_last (n : Nat) : WS := (wConsS (wRet n (wIf (wTru (wFn c_is_figures (wCons (wName 0) wNil))) (wTup (wCons (wCon (.int 3)) (wCons (wFn c_number_told (wCons (wName 0) wNil)) wNil))) (wCon .non)))
  wNilS)
def w_read_term_two (n : Nat) : WS := (wConsS (wIfS (wTru (wM1 endW (wName 0) (wTwo (wCon (.str "*")) (wName 2) addW)))
  (wConsS (wAsg 3 (wSlcS (wName 0) wO0 (wO1 (wTwo (wCb (wCons (wName 0) wNil) lenW) (wCon (.int 2)) subW))))
  (wConsS (wRet n (wIf (wTru (wFn c_is_figures (wCons (wName 3) wNil))) (wTup (wCons (wName 1) (wCons (wFn c_number_told (wCons (wName 3) wNil)) wNil))) (wCon .non)))
  wNilS))
  wNilS)
  wNilS)
def w_read_term_one (n : Nat) : WS := (wConsS (wIfS (wBl (wTwo (wName 0) (wName 2) (eqW false)))
  (wConsS (wRet n (wTup (wCons (wName 1) (wCons (wCon (.int 1)) wNil))))
  wNilS)
  wNilS)
  (w_read_term_two n))
def w_read_term (n : Nat) : WS := (wConsS (wFor (wEnum (wCons (wTup (wCons (wCon (.str "i")) (wCons (wCon (.str "j")) (wCons (wCon (.str "p")) wNil)))) wNil)) (.tp [(.nm 1), (.nm 2)])
  (w_read_term_one n))
  (w_read_term_last n))
def c_read_term : Ct := ctOf ["text", "at", "word", "number"] ["text"] (w_read_term)
section
variable {T : Tab} {P : Program} {w : World} {K : PySem.W.Frag} {mg : Str → Option Value} {base : Heap}
theorem Tx.ok_read_term (t : Tx T K mg) : FnOk P w K mg base CX0 2 t.a_read_term t.fd_read_term ["text"] (spC T K c_read_term) := by
  have nd := sc_read_term.nd
  exact fn_J t.F_read_term sc_read_term fun cdv A outer sh H E hr n => (jss_cons (js_for PassesOwn.never (ji_enum t.z_enumerate (ja_cons (je_tup (ja_cons je_str (ja_cons je_str (ja_cons je_str ja_nil)))) ja_nil)) (dg_tup rfl (dgs_cons (dg_name 1 nd) (dgs_cons (dg_name 2 nd) dgs_nil)))
  (jss_cons (js_if (jt_cmp (jc_eq hr.units) (je_name 0) (je_name 2))
  (jss_cons (js_ret (je_tup (ja_cons (je_name 1) (ja_cons je_int ja_nil))))
  jss_nil)
  jss_nil)
  (jss_cons (js_if (jt_val (je_endswith (je_name 0) (je_bin jb_add je_str (je_name 2))))
  (jss_cons (js_asg 3 nd (je_sliceS (je_name 0) jo_none (jo_some (je_bin jb_sub (je_cb t.z_len jc_len (ja_cons (je_name 0) ja_nil)) je_int))))
  (jss_cons (js_ret (je_if (jt_val (je_call t.ok_is_figures (hr.mono (by decide)) t.m_is_figures t.F_is_figures.kp t.b_is_figures (ja_cons (je_name 3) ja_nil))) (je_tup (ja_cons (je_name 1) (ja_cons (je_call t.ok_number_told (hr.mono (by decide)) t.m_number_told t.F_number_told.kp t.b_number_told (ja_cons (je_name 3) ja_nil)) ja_nil))) je_non))
  jss_nil))
  jss_nil)
  jss_nil)))
  (jss_cons (js_ret (je_if (jt_val (je_call t.ok_is_figures (hr.mono (by decide)) t.m_is_figures t.F_is_figures.kp t.b_is_figures (ja_cons (je_name 0) ja_nil))) (je_tup (ja_cons je_int (ja_cons (je_call t.ok_number_told (hr.mono (by decide)) t.m_number_told t.F_number_told.kp t.b_number_told (ja_cons (je_name 0) ja_nil)) ja_nil))) je_non))
  jss_nil))
end

def w_read_form_made (n : Nat) : WS := (wConsS (wAsg 7 (wFn c_form_of (wCons (wCb (wCons (wName 1) wNil) tupleW) wNil)))
  (wConsS (wIfS (wBl (wTwo (wFn c_show_form (wCons (wName 7) wNil)) (wName 0) (eqW true)))
  (wConsS wNo
  wNilS)
  wNilS)
  (wConsS (wRet n (wName 7))
  wNilS)))
def w_read_form_put (n : Nat) : WS := (wConsS (wSetL (wIf (wBl (wTwo (wSlcS (wName 3) wO0 (wO1 (wCon (.int 1)))) (wCon (.str "-")) (eqW false))) (wOne (wName 6) negW) (wName 6)) (wName 1) (wName 5))
  wNilS)
def w_read_form_part (n : Nat) : WS := (wConsS (wAsg 4 (wFn c_read_term (wCons (wIf (wBl (wTwo (wSlcS (wName 3) wO0 (wO1 (wCon (.int 1)))) (wCon (.str "-")) (eqW false))) (wSlcS (wName 3) (wO1 (wCon (.int 1))) wO0) (wName 3)) wNil)))
  (wConsS (wIfS (wBl (wTwo (wName 4) (wCon .non) (isW false)))
  (wConsS wNo
  wNilS)
  wNilS)
  (wConsS (wTupS [(.nm 5), (.nm 6)] (wName 4))
  (w_read_form_put n))))
def w_read_form (n : Nat) : WS := (wConsS (wAsg 1 (wLstC (wCons (wCon (.int 0)) (wCons (wCon (.int 0)) (wCons (wCon (.int 0)) (wCons (wCon (.int 0)) wNil))))))
  (wConsS (wAsg 2 (wM1 splW (wRepl " - " " + -" (wName 0)) (wCon (.str " + "))))
  (wConsS (wFor (wItems (wName 2)) (.nm 3)
  (w_read_form_part n))
  (wFrz 1 n (w_read_form_made n)))))
def c_read_form : Ct := ctOf ["text", "row", "rest", "part", "found", "at", "number", "form"] ["text"] (w_read_form)
section
variable {T : Tab} {P : Program} {w : World} {K : PySem.W.Frag} {mg : Str → Option Value} {base : Heap}
theorem Tx.ok_read_form (t : Tx T K mg) : FnOk P w K mg base CX0 5 t.a_read_form t.fd_read_form ["text"] (spC T K c_read_form) := by
  have nd := sc_read_form.nd
  exact fn_J t.F_read_form sc_read_form fun cdv A outer sh H E hr n => (jss_cons1 (js1_lstC 1 nd (ja_cons je_int (ja_cons je_int (ja_cons je_int ja_nil))))
  (jsst_cons (jst_asg 2 nd (jet_split (jet_repl (jet_of (je_name 0))) je_str))
  (jsst_of (jss_cons (js_for PassesOwn.never (ji_val (je_name 2)) (dg_name 3 nd)
  (jss_cons (js_asg 4 nd (je_call t.ok_read_term (hr.mono (by decide)) t.m_read_term t.F_read_term.kp t.b_read_term (ja_cons (je_if (jt_cmp (jc_eq hr.units) (je_sliceS (je_name 3) jo_none (jo_some je_int)) je_str) (je_sliceS (je_name 3) (jo_some je_int) jo_none) (je_name 3)) ja_nil)))
  (jss_cons (js_if (jt_cmp jc_is (je_name 4) je_non)
  (jss_cons js_no
  jss_nil)
  jss_nil)
  (jss_cons (js_tup (je_name 4) (dgs_cons (dg_name 5 nd) (dgs_cons (dg_name 6 nd) dgs_nil)))
  (jss_cons (js_setL (je_if (jt_cmp (jc_eq hr.units) (je_sliceS (je_name 3) jo_none (jo_some je_int)) je_str) (je_un ju_neg (je_name 6)) (je_name 6)) (je_name 1) (je_name 5))
  jss_nil)))))
  (jss_frz 1 (jss_cons (js_asg 7 nd (je_call t.ok_form_of (hr.mono (by decide)) t.m_form_of t.F_form_of.kp t.b_form_of (ja_cons (je_cb t.z_tuple jc_tuple (ja_cons (je_name 1) ja_nil)) ja_nil)))
  (jss_cons (js_if (jt_cmp (jc_ne hr.units) (je_call t.ok_show_form (hr.mono (by decide)) t.m_show_form t.F_show_form.kp t.b_show_form (ja_cons (je_name 7) ja_nil)) (je_name 0))
  (jss_cons js_no
  jss_nil)
  jss_nil)
  (jss_cons (js_ret (je_name 7))
  jss_nil))))))))
end

def w_law_last (n : Nat) : WS := (wConsS (wIfS (wOrT (wBl (wTwo (wTwo (wName 7) (wCon (.int 0)) ixW) (wTwo (wName 7) (wCon (.int 1)) ixW) (eqW false))) (wBl (wTwo (wTwo (wName 7) (wCon (.int 0)) ixW) (wTwo (wName 7) (wCon (.int 4)) ixW) (eqW true))))
  (wConsS (wRet n (wCon (.bl false)))
  wNilS)
  wNilS)
  wNilS)
def w_law_text (n : Nat) : WS := (wConsS (wAsg 10 (wFn c_show_form (wCons (wFn c__law_made (wCons (wName 8) wNil)) wNil)))
  (wConsS (wIfS (wOrT (wNotT (wTru (wIsi (fun t => kitB t "str") (ob_str) (wName 10)))) (wBl (wTwo (wName 10) (wFn c__law_shown (wCons (wName 8) wNil)) (eqW true))))
  (wConsS (wRet n (wCon (.bl false)))
  wNilS)
  wNilS)
  (wConsS (wIfS (wBl (wTwo (wFn c__law_told (wCons (wFn c_read_form (wCons (wName 10) wNil)) wNil)) (wName 8) (eqW true)))
  (wConsS (wRet n (wCon (.bl false)))
  wNilS)
  wNilS)
  (wConsS (wExpr (wApp (wName 7) (wName 10)))
  wNilS))))
def w_law_texts (n : Nat) : WS := (wConsS (wAsg 7 (wLstC wNil))
  (wConsS (wFor (wItems (wTup (wCons (wName 3) (wCons (wName 6) (wCons (wCb (wCons (wLc (wItems (wName 3)) (.nm 9) wYes (wTwo (wCon (.int 0)) (wName 9) subW) [9]) wNil) tupleW) (wCons (wTwo (wSlc (wName 3) wO0 (wO1 (wCon (.int 3)))) (wTup (wCons (wCon (.int 0)) wNil)) addW) (wCons (wName 3) wNil))))))) (.nm 8)
  (w_law_text n))
  (wFrz 7 n (w_law_last n))))
def w_law_body (n : Nat) : WS := (wConsS (wAsg 2 (wFn c__law_feed (wCons (wName 0) (wCons (wName 1) wNil))))
  (wConsS (wAsg 3 (wCb (wCons (wLc (wRng1 (wCons (wCon (.int 4)) wNil)) (.nm 4) wYes (wFn c__law_number (wCons (wName 2) wNil)) [4]) wNil) tupleW))
  (wConsS (wPar2 4 5 (wCons (wFn c__law_take (wCons (wName 2) (wCons (wCon (.int 4)) wNil))) (wCons (wTwo (wCon (.int 1)) (wTwo (wCon (.int 2)) (wFn c__law_take (wCons (wName 2) (wCons (wCon (.int 2)) wNil))) mulW) subW) wNil)))
  (wConsS (wAsg 6 (wTwo (wTwo (wSlc (wName 3) wO0 (wO1 (wName 4))) (wTup (wCons (wTwo (wTwo (wName 3) (wName 4) ixW) (wName 5) addW) wNil)) addW) (wSlc (wName 3) (wO1 (wTwo (wName 4) (wCon (.int 1)) addW)) wO0) addW))
  (w_law_texts n)))))
def w_law (n : Nat) : WS := (wConsS (wFor (wRng1 (wCons (wCb (wCons (wCon (.int 2)) (wCons (wCb (wCons (wCon (.int 6)) (wCons (wCb (wCons (wName 0) wNil) lenW) wNil)) minW2) wNil)) maxW2) wNil)) (.nm 1)
  (wFgt [0, 1] 0 n (w_law_body n)))
  (wConsS (wRet n (wCon (.bl true)))
  wNilS))
def c_law : Ct := ctOf ["_law_script", "_law_k", "_law_box", "_law_row", "_law_spot", "_law_step", "_law_other", "_law_texts", "_law_one", "_law_a", "_law_text"] ["_law_script"] (w_law)
section
variable {T : Tab} {P : Program} {w : World} {K : PySem.W.Frag} {mg : Str → Option Value} {base : Heap}
theorem Tx.ok_law (t : Tx T K mg) : FnOk P w K mg base CX0 6 t.a_law t.fd_law ["_law_script"] (spC T K c_law) := by
  have nd := sc_law.nd
  exact fn_J t.F_law sc_law fun cdv A outer sh H E hr n => (jss_cons (js_for PassesOwn.never (ji_range1 t.z_range (ja_cons (je_cb t.z_max (jc_max2 rfl) (ja_cons je_int (ja_cons (je_cb t.z_min (jc_min2 rfl) (ja_cons je_int (ja_cons (je_cb t.z_len jc_len (ja_cons (je_name 0) ja_nil)) ja_nil))) ja_nil))) ja_nil)) (dg_name 1 nd)
  (jss_fgt [0, 1] 0 (jss_cons (js_asg 2 nd (je_call t.ok__law_feed (hr.mono (by decide)) t.m__law_feed t.F__law_feed.kp t.b__law_feed (ja_cons (je_name 0) (ja_cons (je_name 1) ja_nil))))
  (jss_cons (js_asg 3 nd (je_cb t.z_tuple jc_tuple (ja_cons (je_lc nd ⟨(ji_range1 t.z_range (ja_cons je_int ja_nil)), blkOk_by (own := [("_law_spot", 4)]) (by kernel_rfl), fun _ _ _ _ _ => (dg_name 4 nd), fun _ _ _ _ _ => jts_nil, fun _ _ _ _ _ => (je_call t.ok__law_number (hr.mono (by decide)) t.m__law_number t.F__law_number.kp t.b__law_number (ja_cons (je_name 2) ja_nil)), by decide⟩) ja_nil)))
  (jss_cons (js_par2 4 5 nd (ja_cons (je_call t.ok__law_take (hr.mono (by decide)) t.m__law_take t.F__law_take.kp t.b__law_take (ja_cons (je_name 2) (ja_cons je_int ja_nil))) (ja_cons (je_bin jb_sub je_int (je_bin jb_mul je_int (je_call t.ok__law_take (hr.mono (by decide)) t.m__law_take t.F__law_take.kp t.b__law_take (ja_cons (je_name 2) (ja_cons je_int ja_nil))))) ja_nil)))
  (jss_cons (js_asg 6 nd (je_bin jb_add (je_bin jb_add (je_slice (je_name 3) jo_none (jo_some (je_name 4))) (je_tup (ja_cons (je_bin jb_add (je_sub ji_ix (je_name 3) (je_name 4)) (je_name 5)) ja_nil))) (je_slice (je_name 3) (jo_some (je_bin jb_add (je_name 4) je_int)) jo_none)))
  (jss_cons (js_asg 7 nd (je_lstC ja_nil))
  (jss_cons (js_for PassesOwn.never (ji_val (je_tup (ja_cons (je_name 3) (ja_cons (je_name 6) (ja_cons (je_cb t.z_tuple jc_tuple (ja_cons (je_lc nd ⟨(ji_val (je_name 3)), blkOk_by (own := [("_law_a", 9)]) (by kernel_rfl), fun _ _ _ _ _ => (dg_name 9 nd), fun _ _ _ _ _ => jts_nil, fun _ _ _ _ _ => (je_bin jb_sub je_int (je_name 9)), by decide⟩) ja_nil)) (ja_cons (je_bin jb_add (je_slice (je_name 3) jo_none (jo_some je_int)) (je_tup (ja_cons je_int ja_nil))) (ja_cons (je_name 3) ja_nil))))))) (dg_name 8 nd)
  (jss_cons (js_asg 10 nd (je_call t.ok_show_form (hr.mono (by decide)) t.m_show_form t.F_show_form.kp t.b_show_form (ja_cons (je_call t.ok__law_made (hr.mono (by decide)) t.m__law_made t.F__law_made.kp t.b__law_made (ja_cons (je_name 8) ja_nil)) ja_nil)))
  (jss_cons (js_if (JW.jt (jw_or (jt_not (jt_val (je_isiB t.z_isinstance t.z_str bi_str t.obIs_str (je_name 10)))) (jw_or1 (jt_cmp (jc_ne hr.units) (je_name 10) (je_call t.ok__law_shown (hr.mono (by decide)) t.m__law_shown t.F__law_shown.kp t.b__law_shown (ja_cons (je_name 8) ja_nil))))))
  (jss_cons (js_ret je_bl)
  jss_nil)
  jss_nil)
  (jss_cons (js_if (jt_cmp (jc_ne hr.units) (je_call t.ok__law_told (hr.mono (by decide)) t.m__law_told t.F__law_told.kp t.b__law_told (ja_cons (je_call t.ok_read_form (hr.mono (by decide)) t.m_read_form t.F_read_form.kp t.b_read_form (ja_cons (je_name 10) ja_nil)) ja_nil)) (je_name 8))
  (jss_cons (js_ret je_bl)
  jss_nil)
  jss_nil)
  (jss_cons (js_expr (je_app (je_name 7) (je_name 10)))
  jss_nil)))))
  (jss_frz 7 (jss_cons (js_if (JW.jt (jw_or (jt_cmp (jc_eq hr.units) (je_sub ji_ix (je_name 7) je_int) (je_sub ji_ix (je_name 7) je_int)) (jw_or1 (jt_cmp (jc_ne hr.units) (je_sub ji_ix (je_name 7) je_int) (je_sub ji_ix (je_name 7) je_int)))))
  (jss_cons (js_ret je_bl)
  jss_nil)
  jss_nil)
  jss_nil))))))))))
  (jss_cons (js_ret je_bl)
  jss_nil))
end

/-! ### take, feed -/
theorem take_c {b : B} {m : Int} (hm : 0 < m) (hm2 : m < 2 ^ 200) (hb : Ok b) : c__law_take [.cel 0, .dat (.int m)] [bx b] (.dat (.int (tk b m))) [bx (nx b m)] := by
  refine ⟨rfl, ?_⟩
  refine Br.dec (fun h => ?_) (fun h => ?_)
  · refine And.intro hm (And.intro ⟨hm, lg hm hm2⟩ (And.intro ?_ ?_))
    · rw [tk_p h]
    · rw [nx_p h]; rfl
  · obtain ⟨hy, hy2⟩ := hb
    refine And.intro (Dl.mul_l (by omega) (by omega)) (And.intro (pos_ (by decide)) ?_)
    refine And.intro (Dl.mul_l (by omega) (by omega)) (And.intro (pos_ (by decide)) ?_)
    refine And.intro (Dl.mul_l (by omega) (by omega)) (And.intro ⟨by decide, by decide⟩ (And.intro hm (And.intro ?_ ?_)))
    · rw [tk_n h]
    · rw [nx_n h]; rfl

theorem feed_c {ns : List Int} {k : Nat} (hk : k < 100) : c__law_feed [.dat (scD ns), .dat (.int k)] [] (.cel 0) [bx (feedB ns k)] := by
  refine ⟨rfl, ?_⟩
  have tail : ∀ c : Int, c = feedC ns k → wConsS (wAsg 3 (wTwo (wTwo (wTwo (wTwo (wTwo (wCb (wCons (wName 2) wNil) intW1) (wCon (.int 2147483629)) modW) (wTwo (wCon (.int 104729)) (wName 1) mulW) addW) (wCon (.int 1)) addW) (wCon (.int 5)) powW) (wCon (.int 2147483647)) modW))
      (wConsS (wRetC 0 (wLstC (wCons (wTwo (wLst (wCons (wCon (.int 0)) (wCons (wName 2) wNil))) (wCb (wCons (wTwo (wName 2) (wTwo (wCon (.int 10)) (wCon (.int 18)) powW) geW) wNil) intW1) ixW) (wCons (wTwo (wTwo (wCb (wCons (wName 3) wNil) intW1) (wCon (.int 2147483646)) modW) (wCon (.int 1)) addW) wNil)))) wNilS)
      ⟨[some (.dat (scD ns)), some (.dat (.int k)), some (.dat (.int c)), none], []⟩ (endJ 0 (.cel 0) [bx (feedB ns k)]) := by
    rintro c rfl
    refine And.intro (pos_ (by decide)) (And.intro (Dl.mul_l (by decide) (by decide)) (And.intro ⟨by decide, by decide, by omega⟩ (And.intro (pos_ (by decide)) ?_)))
    refine And.intro (szk 2) (And.intro ⟨by decide, by decide, by decide⟩ ?_)
    have e : atI [D.int 0, D.int (feedC ns k)] (if decide ((10 : Int) ^ 18 ≤ feedC ns k) = true then 1 else 0) = some (.int (if 10 ^ 18 ≤ feedC ns k then feedC ns k else 0)) := by
      by_cases h : (10 : Int) ^ 18 ≤ feedC ns k
      · rw [if_pos h, if_pos (decide_eq_true h)]; rfl
      · rw [if_neg h, if_neg (by simpa using h)]; rfl
    refine atW_i e ?_
    exact And.intro (pos_ (by decide)) (And.intro (szk 2) (And.intro rfl (And.intro rfl rfl)))
  refine And.intro (Dl.mul_l (by decide) (by decide)) ?_
  refine Br.dec (fun hc => ?_) (fun hc => ?_)
  · have hc : k < ns.length := by simpa using hc
    exact atW_i (atI_scr hc) (tail _ (by unfold feedC; rw [if_pos hc]))
  · have hc : ¬ k < ns.length := by simpa using hc
    refine Br.dec (fun hd => ?_) (fun hd => ?_)
    · have hd : 0 < ns.length := by simpa using hd
      have hm : ((k : Nat) : Int) % (((ns.map D.int).length : Nat) : Int) = ((k % ns.length : Nat) : Int) := by rw [List.length_map]; exact (Int.natCast_emod k ns.length).symm
      refine And.intro (pos_ (by rw [List.length_map]; omega)) ?_
      refine atW_i (d := .int (ns.getD (k % ns.length) 0)) (by rw [hm]; exact atI_scr (Nat.mod_lt _ hd)) ?_
      refine And.intro (pos_ (by decide)) (And.intro (Dl.mul_l (by omega) (by omega)) ?_)
      exact tail _ (by unfold feedC; rw [if_neg hc, if_pos hd])
    · have hd : ¬ 0 < ns.length := by simpa using hd
      exact tail _ (by unfold feedC; rw [if_neg hc, if_neg hd])

/-! ### forms -/
abbrev r4 (a b c d : Int) : D := .tup [.int a, .int b, .int c, .int d]
abbrev rq (q : Q4) : D := r4 q.1 q.2.1 q.2.2.1 q.2.2.2
abbrev fq (q : Q4) : D := .obj 0 [rq q]
theorem szl (n : Nat) (h : n < 16777216 := by decide) : n < sizeLine := h
theorem whole_int (i : Int) : c_is_whole [.dat (.int i)] [] (.dat (.bl true)) [] := ⟨rfl, Br.mk (fun _ => And.intro rfl rfl) (fun h => nomatch h)⟩
theorem whole_form (q : Q4) : c_is_whole [.dat (fq q)] [] (.dat (.bl false)) [] := ⟨rfl, Br.mk (fun h => nomatch h) (fun _ => And.intro rfl rfl)⟩
theorem init_c (a b c d : Int) : c_Form___init__ [.cel 0, .dat (.int d), .dat (.int a), .dat (.int b), .dat (.int c)] [.ins 0 []] (.dat .non) [.ins 0 [("row", r4 a b c d)]] := by
  refine ⟨rfl, And.intro (szk 4) ?_⟩
  refine call_ (whole_int _) (Br.ff rfl ?_)
  refine call_ (whole_int _) (Br.ff rfl ?_)
  refine call_ (whole_int _) (Br.ff rfl ?_)
  refine call_ (whole_int _) (Br.ff rfl ?_)
  exact And.intro (szk 4) (And.intro rfl (And.intro rfl (And.intro (by decide) (And.intro rfl rfl))))
theorem made_c (q : Q4) : c__law_made [.dat (rq q)] [] (.dat (fq q)) [] := ⟨rfl, And.intro rfl (And.intro rfl (make_ (ds := [rq q]) (init_c _ _ _ _) rfl (And.intro rfl rfl)))⟩

theorem form_of_c (q : Q4) : c_form_of [.dat (rq q)] [] (.dat (fq q)) [] := ⟨rfl, And.intro rfl (And.intro rfl (make_ (ds := [rq q]) (init_c _ _ _ _) rfl (And.intro rfl rfl)))⟩
theorem i_c (q : Q4) : c_Form_i [.dat (fq q)] [] (.dat (.int q.1)) [] := ⟨rfl, And.intro rfl (And.intro rfl rfl)⟩
theorem j_c (q : Q4) : c_Form_j [.dat (fq q)] [] (.dat (.int q.2.1)) [] := ⟨rfl, And.intro rfl (And.intro rfl rfl)⟩
theorem p_c (q : Q4) : c_Form_p [.dat (fq q)] [] (.dat (.int q.2.2.1)) [] := ⟨rfl, And.intro rfl (And.intro rfl rfl)⟩
theorem const_c (q : Q4) : c_Form_const [.dat (fq q)] [] (.dat (.int q.2.2.2)) [] := ⟨rfl, And.intro rfl (And.intro rfl rfl)⟩
theorem told_c (q : Q4) : c__law_told [.dat (fq q)] [] (.dat (rq q)) [] := by
  refine ⟨rfl, And.intro rfl (call_ (i_c q) (And.intro rfl (call_ (j_c q) (And.intro rfl (call_ (p_c q) (And.intro rfl (call_ (const_c q) (And.intro (szk 4) (And.intro (szl 4) ?_)))))))))⟩
  iterate 4 refine Br.ff rfl (Br.ff rfl ?_)
  exact And.intro (szk 0) (And.intro rfl (And.intro rfl (Br.ff rfl (And.intro rfl rfl))))

/-! ### digits, walked -/
open TL
theorem lt_emp : ("" : Str) = mkS [] := mk_eq (by decide +kernel)
theorem lt_i : ("i" : Str) = mkS [105] := mk_eq (by decide +kernel)
theorem lt_j : ("j" : Str) = mkS [106] := mk_eq (by decide +kernel)
theorem lt_p : ("p" : Str) = mkS [112] := mk_eq (by decide +kernel)
theorem lt_0 : ("0" : Str) = mkS [48] := mk_eq (by decide +kernel)
theorem lt_mi : ("-" : Str) = mkS [45] := mk_eq (by decide +kernel)
theorem lt_st : ("*" : Str) = mkS [42] := mk_eq (by decide +kernel)
theorem lt_pl : (" + " : Str) = mkS [32, 43, 32] := mk_eq (by decide +kernel)
theorem lt_ms : (" - " : Str) = mkS [32, 45, 32] := mk_eq (by decide +kernel)
theorem lt_pm : (" + -" : Str) = mkS [32, 43, 32, 45] := mk_eq (by decide +kernel)
theorem lt_dg : ("0123456789" : Str) = mkS [48, 49, 50, 51, 52, 53, 54, 55, 56, 57] := mk_eq (by decide +kernel)
theorem app_mk (l m : List Nat) : mkS l ++ mkS m = mkS (l ++ m) := mk_eq (by rw [tl_append])
theorem dec_mk (l m : List Nat) : decide (mkS l = mkS m) = decide (l = m) := dec_str _ _
theorem join_one (l : List Nat) : Txt.join (mkS []) [mkS l] = mkS l := by
  rw [join_eq]
  exact mk_eq (by rw [tl_join]; rfl)
theorem lg60 {n : Nat} (h : n < 10 ^ 60) : n.log2 < 1920 := by
  by_cases z : n = 0
  · rw [z]; decide
  · refine (Nat.log2_lt z).mpr (Nat.lt_of_lt_of_le h (Nat.le_trans (m := 2 ^ 200) (by decide) (Nat.pow_le_pow_right (by decide) (by decide))))
theorem szs {n : Nat} (h : n ≤ 100000) : n ≤ sizeLine := Nat.le_trans h (by decide)
theorem cut_hi (l : List Nat) (k : Nat) : cutS (mkS l) none (some (k : Int)) = mkS (l.take k) := by
  unfold cutS
  rw [HT.sIx_none, HT.sIx_nat, len_mkS]
  show mkS ((l.drop 0).take (min k l.length - 0)) = _
  rw [List.drop_zero, Nat.sub_zero]
  refine congrArg mkS ?_
  by_cases h : k ≤ l.length
  · rw [Nat.min_eq_left h]
  · rw [Nat.min_eq_right (by omega), List.take_of_length_le (Nat.le_refl _), List.take_of_length_le (by omega)]
theorem cut_lo (l : List Nat) (k : Nat) : cutS (mkS l) (some (k : Int)) none = mkS (l.drop k) := by
  unfold cutS
  rw [HT.sIx_none, HT.sIx_nat, len_mkS]
  show mkS ((l.drop (min k l.length)).take (l.length - min k l.length)) = _
  refine congrArg mkS ?_
  by_cases h : k ≤ l.length
  · rw [Nat.min_eq_left h, List.take_of_length_le (by rw [List.length_drop]; exact Nat.le_refl _)]
  · rw [Nat.min_eq_right (by omega), List.drop_length, List.drop_eq_nil_of_le (by omega), List.take_nil]
theorem cut_lh (l : List Nat) (i j : Nat) (hi : i ≤ l.length) (hj : l.length ≤ j) : cutS (mkS l) (some (i : Int)) (some (j : Int)) = mkS (l.drop i) := by
  unfold cutS
  rw [HT.sIx_nat, HT.sIx_nat, len_mkS]
  show mkS ((l.drop (min i l.length)).take (min j l.length - min i l.length)) = _
  rw [Nat.min_eq_left hi, Nat.min_eq_right hj, List.take_of_length_le (by rw [List.length_drop]; exact Nat.le_refl _)]
theorem figures_c {n : Nat} (h : n < 10 ^ 60) : c_figures [.dat (.int (n : Int))] [] (.dat (.str (mkS (numL n)))) [] := by
  have ea : (if (n : Int) < 0 then -(n : Int) else (n : Int)) = (n : Int) := if_neg (by omega)
  have nl := num_len h
  refine ⟨rfl, And.intro (szk 0) ?_⟩
  show w_figures_loop 0 ⟨[some (.dat (.int (n : Int))), some (.dat (.int (if (n : Int) < 0 then -(n : Int) else (n : Int)))), some (.cel 0), none], [.lst []]⟩ _
  rw [ea]
  refine Exists.intro (fun _ S => S = ⟨[some (.dat (.int (n : Int))), some (.dat (.int (n : Int))), some (.cel 0), none], [.lst []]⟩) (Exists.intro 0 (And.intro rfl ?_))
  rintro m S rfl
  refine And.intro ⟨by decide, by decide, by decide⟩ (Br.ff ?_ ?_)
  · show decide ((n : Int) ≥ 10 ^ Int.toNat 60) = false
    refine decide_eq_false ?_
    have e : (10 : Int) ^ Int.toNat 60 = ((10 ^ 60 : Nat) : Int) := by decide
    rw [e]
    omega
  · refine And.intro trivial (And.intro (lg60 (by rw [Int.natAbs_natCast]; exact h)) (And.intro (szl 0) (And.intro (Nat.le_refl _) ?_)))
    refine Br.ff (decide_eq_false (by omega)) (And.intro rfl ?_)
    refine Exists.intro [Str.ofString (toString ((n : Nat) : Int))] (And.intro rfl ?_)
    rw [num_str, lt_emp]
    refine And.intro (by show (mkS (numL n)).length + 0 + 1 * 0 ≤ 16777216; rw [len_mkS]; omega) ?_
    rw [join_one]
    refine And.intro (by rw [len_mkS, len_mkS]; exact szs (by show 0 + _ ≤ _; omega)) ?_
    rw [app_mk]
    exact And.intro rfl rfl
theorem isfig_c {n : Nat} (h : n < 10 ^ 60) : c_is_figures [.dat (.str (mkS (numL n)))] [] (.dat (.bl true)) [] := by
  have nl := num_len h
  refine ⟨rfl, Br.ff ?_ ?_⟩
  · show false.xor (decide (mkS (numL n) = "")) = false
    rw [lt_emp, dec_mk, decide_eq_false (numL_ne n)]
    rfl
  · show (chD (mkS (numL n))).length < sizeLine ∧ lcW _ _ _ _ ((numL n).map fun c => D.str (mkS [c])) _ _
    refine And.intro (by unfold chD; rw [List.length_map]; exact Nat.lt_of_le_of_lt nl (by decide)) (lcW_filter (fun c => D.str (mkS [c])) (fun c => D.str (mkS [c])) (fun c => true.xor (decide (c ∈ tl ("0123456789" : Str)))) (fun c _ => ⟨_, rfl, fun R' h' => Exists.intro c (And.intro rfl h'), fun _ R' h' => h'⟩) ?_)
    have e : (numL n).filter (fun c => true.xor (decide (c ∈ tl ("0123456789" : Str)))) = [] := List.filter_eq_nil_iff.mpr fun c hc => by
      have := num_dig hc
      rw [lt_dg, decide_eq_true (show c ∈ tl (mkS [48, 49, 50, 51, 52, 53, 54, 55, 56, 57]) by rw [tl_mkS]; simp only [List.mem_cons, List.not_mem_nil, or_false]; omega)]
      decide
    rw [e]
    refine And.intro (szk 0) (And.intro rfl (And.intro rfl (Br.ff rfl ?_)))
    by_cases z : n = 0
    · subst z
      have ht : false.xor (decide (mkS (numL 0) = "0")) = true := by rw [lt_0, dec_mk]; decide +kernel
      refine (show Br (false.xor (decide (mkS (numL 0) = "0"))) _ _ from ⟨fun z => ?_, fun z => ?_⟩)
      · show Sl.dat (.bl true) = _ ∧ _
        exact And.intro rfl rfl
      · rw [ht] at z
        cases z
    · obtain ⟨c, r, ec, hc⟩ := num_head n (by omega)
      have hne : false.xor (decide (mkS (numL n) = "0")) = false := by
        rw [lt_0, dec_mk, ec, decide_eq_false fun z => hc (List.cons.inj z).1]
        rfl
      refine (show Br (false.xor (decide (mkS (numL n) = "0"))) _ _ from ⟨fun z => ?_, fun z => ?_⟩)
      · rw [hne] at z
        cases z
      · show (mkS (numL n)).length ≤ sizeLine ∧ ∃ c, atI (numL n) 0 = some c ∧ _
        refine And.intro (by rw [len_mkS]; exact szs (by omega)) (Exists.intro c (And.intro (by rw [ec]; exact atI_nat (j := 0) rfl) ?_))
        show Sl.dat (.bl (true.xor (decide (mkS [c] = "0")))) = _ ∧ _
        rw [lt_0, dec_mk, decide_eq_false fun z => hc (List.cons.inj z).1]
        exact And.intro rfl rfl
theorem told_n {n : Nat} (h : n < 10 ^ 60) : c_number_told [.dat (.str (mkS (numL n)))] [] (.dat (.int (n : Int))) [] := by
  have nl := num_len h
  have n0 : 0 < (numL n).length := List.length_pos_iff.mpr (numL_ne n)
  have ni := num_int h
  refine ⟨rfl, And.intro (by rw [len_mkS]; exact szs (by omega)) (And.intro (pos_ (by decide)) ?_)⟩
  show wConsS (wAsg 2 (wIf (wBl (wTwo (wName 1) (wCon (.int 0)) gtW)) (wCb (wCons (wSlcS (wName 0) wO0 (wO1 (wName 1))) wNil) intW1) (wCon (.int 0)))) (w_number_told_loop 0) ⟨[some (.dat (.str (mkS (numL n)))), some (.dat (.int (((mkS (numL n)).length : Int) % 60))), none, none], []⟩ _
  rw [len_mkS]
  by_cases z : (numL n).length = 60
  · rw [z]
    refine Br.ff (by decide) ?_
    refine And.intro (by rw [len_mkS]; exact szs (by omega)) ?_
    rw [len_mkS, z]
    refine And.intro ⟨⟨by decide, by decide⟩, ⟨by decide, by decide⟩, by decide, by decide⟩ ?_
    show forW (.nm 3) _ (rangeC (((60 : Nat) : Int) % 60) 60 (stepsC (((60 : Nat) : Int) % 60) ((60 : Nat) : Int) 60)) _ _
    have er : rangeC (((60 : Nat) : Int) % 60) 60 (stepsC (((60 : Nat) : Int) % 60) ((60 : Nat) : Int) 60) = [.int ((0 : Nat) : Int)] := rfl
    rw [er]
    refine And.intro ⟨by decide, by decide, by decide⟩ (And.intro (Dl.mul_l (by decide) (by decide)) (And.intro (by rw [len_mkS]; exact szs (by omega)) ?_))
    have e60 : (((0 : Nat) : Int) + 60) = ((60 : Nat) : Int) := rfl
    show (cutS (mkS (numL n)) (some ((0 : Nat) : Int)) (some (((0 : Nat) : Int) + 60))).length ≤ 640 ∧ ∃ k, intText? (cutS (mkS (numL n)) (some ((0 : Nat) : Int)) (some (((0 : Nat) : Int) + 60))) = some k ∧ _
    rw [e60, cut_lh _ _ _ (Nat.zero_le _) (by omega), List.drop_zero]
    refine And.intro (by rw [len_mkS]; omega) (Exists.intro (n : Int) (And.intro ni ?_))
    show Sl.dat (.int (0 * 10 ^ Int.toNat 60 + (n : Int))) = _ ∧ _
    rw [Int.zero_mul, Int.zero_add]
    exact And.intro rfl rfl
  · have em : ((numL n).length : Int) % 60 = ((numL n).length : Int) := by omega
    rw [em]
    refine Br.tt (decide_eq_true (by show ((numL n).length : Int) > 0; omega)) (And.intro (by rw [len_mkS]; exact szs (by omega)) ?_)
    show (cutS (mkS (numL n)) none (some ((numL n).length : Int))).length ≤ 640 ∧ ∃ k, intText? (cutS (mkS (numL n)) none (some ((numL n).length : Int))) = some k ∧ _
    rw [cut_hi, List.take_length]
    refine And.intro (by rw [len_mkS]; omega) (Exists.intro (n : Int) (And.intro ni ?_))
    refine And.intro (by rw [len_mkS]; exact szs (by omega)) ?_
    rw [len_mkS]
    refine And.intro ⟨⟨by omega, by omega⟩, ⟨by omega, by omega⟩, by decide, by decide⟩ ?_
    show forW (.nm 3) _ (rangeC ((numL n).length : Int) 60 (stepsC ((numL n).length : Int) ((numL n).length : Int) 60)) _ _
    have er : stepsC ((numL n).length : Int) ((numL n).length : Int) 60 = 0 := if_neg (by omega)
    rw [er]
    exact And.intro rfl rfl

/-! ### terms, walked -/
open TL
theorem tm_len {n : Nat} {w : List Nat} (hn : n < 10 ^ 60) (hw : IsW w) : (tmL n w).length ≤ 62 := by
  have nl := num_len hn
  have wl : w.length ≤ 1 := by rcases hw with e | e | e | e <;> rw [e] <;> decide
  unfold tmL
  split
  · omega
  · split
    · omega
    · rw [List.length_append, List.length_cons]; omega
theorem dec_w {w : List Nat} (hw : IsW w) : decide (mkS w = "") = decide (w = []) := by rw [lt_emp, dec_mk]
theorem dec_n1 (n : Nat) : decide ((n : Int) = 1) = decide (n = 1) := decide_eq_decide.mpr (by omega)
theorem term_c {n : Nat} {w : List Nat} (hn : n < 10 ^ 60) (hw : IsW w) : c_term_text [.dat (.int (n : Int)), .dat (.str (mkS w))] [] (.dat (.str (mkS (tmL n w)))) [] := by
  have nl := num_len hn
  have wl : w.length ≤ 1 := by rcases hw with e | e | e | e <;> rw [e] <;> decide
  unfold tmL
  by_cases z : w = []
  · rw [if_pos z]
    exact ⟨rfl, Br.tt (by show false.xor (decide (mkS w = "")) = true; rw [dec_w hw, decide_eq_true z]; rfl) (call_ (figures_c hn) (And.intro rfl rfl))⟩
  · rw [if_neg z]
    refine ⟨rfl, Br.ff (by show false.xor (decide (mkS w = "")) = false; rw [dec_w hw, decide_eq_false z]; rfl) ?_⟩
    by_cases y : n = 1
    · rw [if_pos y]
      exact Br.tt (by show false.xor (decide ((n : Int) = 1)) = true; rw [dec_n1, decide_eq_true y]; rfl) (And.intro rfl rfl)
    · rw [if_neg y]
      refine Br.ff (by show false.xor (decide ((n : Int) = 1)) = false; rw [dec_n1, decide_eq_false y]; rfl) ?_
      refine call_ (figures_c hn) (And.intro (by rw [len_mkS]; exact szs (by omega)) (Exists.intro (mkS (numL n)) (And.intro rfl (And.intro ?_ (Exists.intro ("*" : Str) (And.intro rfl (And.intro ?_ (And.intro ?_ (Exists.intro (mkS w) (And.intro rfl (And.intro ?_ ?_)))))))))))
      · show (Str.empty ++ mkS (numL n)).length ≤ sizeLine
        rw [show (Str.empty : Str) = mkS [] from rfl, app_mk, len_mkS]
        exact szs (by show ([] ++ numL n).length ≤ _; rw [List.nil_append]; omega)
      · show (Str.empty ++ mkS (numL n) ++ "*").length ≤ sizeLine
        rw [show (Str.empty : Str) = mkS [] from rfl, lt_st, app_mk, app_mk, len_mkS, List.length_append]
        exact szs (by show ([] ++ numL n).length + 1 ≤ _; rw [List.nil_append]; omega)
      · rw [len_mkS]
        exact szs (by omega)
      · show (Str.empty ++ mkS (numL n) ++ "*" ++ mkS w).length ≤ sizeLine
        rw [show (Str.empty : Str) = mkS [] from rfl, lt_st, app_mk, app_mk, app_mk, len_mkS, List.length_append, List.length_append]
        exact szs (by show ([] ++ numL n).length + 1 + w.length ≤ _; rw [List.nil_append]; omega)
      · show Sl.dat (.str (Str.empty ++ mkS (numL n) ++ "*" ++ mkS w)) = _ ∧ _
        rw [show (Str.empty : Str) = mkS [] from rfl, lt_st, app_mk, app_mk, app_mk]
        refine And.intro ?_ rfl
        rw [List.nil_append, List.append_assoc]
        rfl
theorem lterm_c {n : Nat} {w : List Nat} (hn : n < 10 ^ 60) (hw : IsW w) : c__law_term [.dat (.int (n : Int)), .dat (.str (mkS w))] [] (.dat (.str (mkS (tmL n w)))) [] := by
  have nl := num_len hn
  have wl : w.length ≤ 1 := by rcases hw with e | e | e | e <;> rw [e] <;> decide
  have lg : (n : Int).natAbs.log2 < 1920 := lg60 (by rw [Int.natAbs_natCast]; exact hn)
  unfold tmL
  by_cases z : w = []
  · rw [if_pos z]
    refine ⟨rfl, Br.tt (by show false.xor (decide (mkS w = "")) = true; rw [dec_w hw, decide_eq_true z]; rfl) (And.intro lg ?_)⟩
    rw [num_str]
    exact And.intro rfl rfl
  · rw [if_neg z]
    refine ⟨rfl, Br.ff (by show false.xor (decide (mkS w = "")) = false; rw [dec_w hw, decide_eq_false z]; rfl) ?_⟩
    by_cases y : n = 1
    · rw [if_pos y]
      exact Br.tt (by show false.xor (decide ((n : Int) = 1)) = true; rw [dec_n1, decide_eq_true y]; rfl) (And.intro rfl rfl)
    · rw [if_neg y]
      refine Br.ff (by show false.xor (decide ((n : Int) = 1)) = false; rw [dec_n1, decide_eq_false y]; rfl) (And.intro lg ?_)
      rw [num_str, lt_st]
      refine And.intro (by rw [len_mkS, len_mkS]; exact szs (by show _ + 1 ≤ _; omega)) ?_
      rw [app_mk]
      refine And.intro (by rw [len_mkS, len_mkS, List.length_append]; exact szs (by show _ + 1 + _ ≤ _; omega)) ?_
      rw [app_mk, List.append_assoc]
      exact And.intro rfl rfl
/-! one term is read -/
theorem end_tl (x y : Str) : Txt.endswith x y = (decide (y.length ≤ x.length) && ((tl x).drop (x.length - y.length) == tl y)) := by
  show (decide (0 + y.length ≤ x.length) && Builtin.Str.subAt x y (x.length - y.length)) = _
  rw [Nat.zero_add, PySem.StrLaws.subAt_eq]
  by_cases h : y.length ≤ x.length
  · rw [decide_eq_true h, Bool.true_and, Bool.true_and]
    have e : ((tl x).drop (x.length - y.length)).take y.length = (tl x).drop (x.length - y.length) := List.take_of_length_le (by rw [List.length_drop, ← len_tl]; omega)
    show (((tl x).drop (x.length - y.length)).take y.length == tl y) = _
    rw [e]
  · rw [decide_eq_false h]
    rfl
theorem end_hit (l : List Nat) (c : Nat) : Txt.endswith (mkS (l ++ [42, c])) (mkS [42, c]) = true := by
  rw [end_tl, len_mkS, len_mkS, List.length_append]
  show (decide (2 ≤ l.length + 2) && ((l ++ [42, c]).drop (l.length + 2 - 2) == [42, c])) = true
  rw [decide_eq_true (by omega), Nat.add_sub_cancel, List.drop_left]
  simp
theorem end_miss {t : List Nat} {c : Nat} (h : ∀ p, t ≠ p ++ [42, c]) : Txt.endswith (mkS t) (mkS [42, c]) = false := by
  cases e : Txt.endswith (mkS t) (mkS [42, c]) with
  | false => rfl
  | true =>
    exfalso
    rw [end_tl, len_mkS, len_mkS, Bool.and_eq_true] at e
    have e2 : t.drop (t.length - 2) = [42, c] := eq_of_beq e.2
    refine h (t.take (t.length - 2)) ?_
    rw [← e2, List.take_append_drop]
theorem tm_miss {n : Nat} {w : List Nat} (hw : IsW w) {c : Nat} (hc : c = 105 ∨ c = 106 ∨ c = 112) (hne : w ≠ [c]) : tmL n w ≠ [c] ∧ ∀ p, tmL n w ≠ p ++ [42, c] := by
  have dg : ∀ x, x ∈ numL n → 48 ≤ x ∧ x ≤ 57 := fun x hx => num_dig hx
  unfold tmL
  by_cases z : w = []
  · rw [if_pos z]
    refine ⟨fun e => ?_, fun p e => ?_⟩
    · have := dg c (by rw [e]; exact List.mem_cons_self)
      omega
    · have := dg 42 (by rw [e]; exact List.mem_append_right _ List.mem_cons_self)
      omega
  · rw [if_neg z]
    by_cases y : n = 1
    · rw [if_pos y]
      refine ⟨hne, fun p e => ?_⟩
      have l := congrArg List.length e
      rw [List.length_append] at l
      have wl : w.length ≤ 1 := by rcases hw with e | e | e | e <;> rw [e] <;> decide
      have l : w.length = p.length + 2 := l
      omega
    · rw [if_neg y]
      refine ⟨fun e => ?_, fun p e => ?_⟩
      · have l := congrArg List.length e
        rw [List.length_append, List.length_cons] at l
        have n0 : 0 < (numL n).length := List.length_pos_iff.mpr (numL_ne n)
        have l : (numL n).length + (w.length + 1) = 1 := l
        omega
      · have hx : ∃ d, w = [d] := by
          rcases hw with e | e | e | e
          · exact ⟨_, e⟩
          · exact ⟨_, e⟩
          · exact ⟨_, e⟩
          · exact absurd e z
        obtain ⟨d, rfl⟩ := hx
        have e2 := congrArg List.getLast? e
        rw [show numL n ++ 42 :: [d] = (numL n ++ [42]) ++ [d] by rw [List.append_assoc]; rfl, show p ++ [42, c] = (p ++ [42]) ++ [c] by rw [List.append_assoc]; rfl, List.getLast?_concat, List.getLast?_concat] at e2
        exact hne (by rw [Option.some.inj e2])
abbrev stRt (t : List Nat) (k : Int) (c : Nat) (x3 : Option Sl) : Sta := ⟨[some (.dat (.str (mkS t))), some (.dat (.int k)), some (.dat (.str (mkS [c]))), x3], []⟩
theorem rmiss_c {t : List Nat} {k : Int} {c : Nat} {x3 : Option Sl} {P : PJ} (h1 : t ≠ [c]) (h2 : ∀ p, t ≠ p ++ [42, c]) (hl : t.length ≤ 100) (hP : P.nx (stRt t k c x3)) : w_read_term_one 0 (stRt t k c x3) P := by
  refine Br.ff (by show false.xor (decide (mkS t = mkS [c])) = false; rw [dec_mk, decide_eq_false h1]; rfl) ?_
  refine And.intro rfl (And.intro (by rw [lt_st, len_mkS, len_mkS]; exact szs (by show 1 + 1 ≤ _; omega)) ?_)
  show Br (Txt.endswith (mkS t) ("*" ++ mkS [c])) _ _
  rw [lt_st, app_mk]
  exact Br.ff (end_miss h2) hP
theorem rone_c {k : Int} {c : Nat} {x3 : Option Sl} {P : PJ} (hP : P.rt (.dat (.tup [.int k, .int 1])) []) : w_read_term_one 0 (stRt [c] k c x3) P :=
  Br.tt (by show false.xor (decide (mkS [c] = mkS [c])) = true; rw [dec_mk, decide_eq_true rfl]; rfl) (And.intro (szk 2) hP)
theorem rhit_c {n : Nat} {k : Int} {c : Nat} {x3 : Option Sl} {P : PJ} (hn : n < 10 ^ 60) (hP : P.rt (.dat (.tup [.int k, .int (n : Int)])) []) : w_read_term_one 0 (stRt (numL n ++ [42, c]) k c x3) P := by
  have nl := num_len hn
  refine Br.ff ?_ (And.intro rfl (And.intro (by rw [lt_st, len_mkS, len_mkS]; exact szs (by show 1 + 1 ≤ _; omega)) ?_))
  · show false.xor (decide (mkS (numL n ++ [42, c]) = mkS [c])) = false
    rw [dec_mk, decide_eq_false fun e => ?_]
    · rfl
    · have l := congrArg List.length e
      rw [List.length_append] at l
      have l : (numL n).length + 2 = 1 := l
      omega
  · show Br (Txt.endswith (mkS (numL n ++ [42, c])) ("*" ++ mkS [c])) _ _
    rw [lt_st, app_mk]
    have ln : (mkS (numL n ++ [42, c])).length = (numL n).length + 2 := by rw [len_mkS, List.length_append]; rfl
    refine Br.tt (end_hit _ _) (And.intro (by rw [ln]; exact szs (by omega)) (And.intro (by rw [ln]; exact szs (by omega)) ?_))
    show wConsS (wRet 0 (wIf (wTru (wFn c_is_figures (wCons (wName 3) wNil))) (wTup (wCons (wName 1) (wCons (wFn c_number_told (wCons (wName 3) wNil)) wNil))) (wCon .non))) wNilS ⟨[some (.dat (.str (mkS (numL n ++ [42, c])))), some (.dat (.int k)), some (.dat (.str (mkS [c]))), some (.dat (.str (cutS (mkS (numL n ++ [42, c])) none (some (((mkS (numL n ++ [42, c])).length : Int) - 2)))))], []⟩ P
    rw [ln, show (((numL n).length + 2 : Nat) : Int) - 2 = ((numL n).length : Int) by omega, cut_hi, List.take_left]
    exact call_ (isfig_c hn) (Br.tt rfl (call_ (told_n hn) (And.intro (szk 2) hP)))
/-- where a word stands -/
def atW' (w : List Nat) : Int := if w = [105] then 0 else if w = [106] then 1 else if w = [112] then 2 else 3
theorem rterm_c {n : Nat} {w : List Nat} (hn : n < 10 ^ 60) (hw : IsW w) : c_read_term [.dat (.str (mkS (tmL n w)))] [] (.dat (.tup [.int (atW' w), .int (n : Int)])) [] := by
  have tl6 := tm_len hn hw
  have two : ∀ c : Nat, tmL n [c] = if n = 1 then [c] else numL n ++ [42, c] := fun c => by
    unfold tmL
    rw [if_neg (by simp)]
  have hit : ∀ (c : Nat) (k : Int) (x3 : Option Sl) (P : PJ), P.rt (.dat (.tup [.int k, .int (n : Int)])) [] → w_read_term_one 0 (stRt (tmL n [c]) k c x3) P := fun c k x3 P hP => by
    rw [two]
    split
    · rename_i z
      subst z
      exact rone_c hP
    · exact rhit_c hn hP
  refine ⟨rfl, And.intro (szk 3) ?_⟩
  show forW (.tp [.nm 1, .nm 2]) (w_read_term_one 0) [.tup [.int 0, .str "i"], .tup [.int 1, .str "j"], .tup [.int 2, .str "p"]] ⟨[some (.dat (.str (mkS (tmL n w)))), none, none, none], []⟩ _
  rw [lt_i, lt_j, lt_p]
  have hw' := hw
  rcases hw' with e | e | e | e
  · subst e
    exact hit 105 0 none _ (And.intro rfl rfl)
  · have m := tm_miss (n := n) hw (c := 105) (.inl rfl) (by rw [e]; decide)
    subst e
    exact rmiss_c m.1 m.2 (by omega) (hit 106 1 none _ (And.intro rfl rfl))
  · have m := tm_miss (n := n) hw (c := 105) (.inl rfl) (by rw [e]; decide)
    have m2 := tm_miss (n := n) hw (c := 106) (.inr (.inl rfl)) (by rw [e]; decide)
    subst e
    exact rmiss_c m.1 m.2 (by omega) (rmiss_c m2.1 m2.2 (by omega) (hit 112 2 none _ (And.intro rfl rfl)))
  · have m := tm_miss (n := n) hw (c := 105) (.inl rfl) (by rw [e]; decide)
    have m2 := tm_miss (n := n) hw (c := 106) (.inr (.inl rfl)) (by rw [e]; decide)
    have m3 := tm_miss (n := n) hw (c := 112) (.inr (.inr rfl)) (by rw [e]; decide)
    subst e
    refine rmiss_c m.1 m.2 (by omega) (rmiss_c m2.1 m2.2 (by omega) (rmiss_c m3.1 m3.2 (by omega) ?_))
    exact call_ (isfig_c hn) (Br.tt rfl (call_ (told_n hn) (And.intro (szk 2) (And.intro rfl rfl))))

/-! ### forms told and read -/
open TL
def psq (q : Q4) : List Tm := [(q.1, [105]), (q.2.1, [106]), (q.2.2.1, [112]), (q.2.2.2, [])]
abbrev tmD (p : Tm) : D := .tup [.int p.1, .str (mkS p.2)]
/-- numbers below 10 ** 60 -/
structure Sm60 (q : Q4) : Prop where
  a : q.1.natAbs < 10 ^ 60
  b : q.2.1.natAbs < 10 ^ 60
  c : q.2.2.1.natAbs < 10 ^ 60
  d : q.2.2.2.natAbs < 10 ^ 60
def OkT (p : Tm) : Prop := IsW p.2 ∧ p.1.natAbs < 10 ^ 60
theorem psq_ok {q : Q4} (h : Sm60 q) : ∀ p ∈ psq q, OkT p := fun p hp => by
  unfold psq at hp
  rcases List.mem_cons.mp hp with rfl | hp
  · exact ⟨.inl rfl, h.a⟩
  rcases List.mem_cons.mp hp with rfl | hp
  · exact ⟨.inr (.inl rfl), h.b⟩
  rcases List.mem_cons.mp hp with rfl | hp
  · exact ⟨.inr (.inr (.inl rfl)), h.c⟩
  rw [List.mem_singleton.mp hp]
  exact ⟨.inr (.inr (.inr rfl)), h.d⟩
theorem sg_len (b : Bool) : (sgL b).length ≤ 1 := by cases b <;> decide
theorem sep_len (b : Bool) : (sepT b).length = 3 := by cases b <;> rfl
theorem rst_len : ∀ {ts : List Tm}, (∀ p ∈ ts, OkT p) → (rst ts).length ≤ 65 * ts.length
  | [], _ => Nat.zero_le _
  | p :: ts, h => by
    have ih := rst_len (ts := ts) fun x hx => h x (List.mem_cons_of_mem _ hx)
    obtain ⟨h1, h2⟩ := h p List.mem_cons_self
    have t : (tq p).length ≤ 62 := tm_len h2 h1
    show (sepT (ngT p) ++ (tq p ++ rst ts)).length ≤ _
    rw [List.length_append, List.length_append, sep_len, List.length_cons]
    omega
theorem acc_len {ps : List Tm} (h : ∀ p ∈ ps, OkT p) : (accS ps).length ≤ 65 * ps.length := by
  have hn : ∀ q ∈ nzT ps, OkT q := fun q hq => h q (List.mem_filter.mp hq).1
  have hl : (nzT ps).length ≤ ps.length := List.length_filter_le _ _
  unfold accS
  generalize nzT ps = ts at hn hl
  cases ts with
  | nil => exact Nat.zero_le _
  | cons p ts =>
    have r := rst_len (ts := ts) fun x hx => hn x (List.mem_cons_of_mem _ hx)
    obtain ⟨h1, h2⟩ := hn p List.mem_cons_self
    have t : (tq p).length ≤ 62 := tm_len h2 h1
    have s := sg_len (ngT p)
    show ((sgL (ngT p) ++ tq p) ++ rst ts).length ≤ _
    rw [List.length_append, List.length_append]
    rw [List.length_cons] at hl
    omega
theorem abs_nat (i : Int) : (if i < 0 then -i else i) = (i.natAbs : Int) := by split <;> omega
abbrev stSh (d : D) (l : List Nat) (x2 x3 x4 : Option Sl) : Sta := ⟨[some (.dat d), some (.dat (.str (mkS l))), x2, x3, x4], []⟩
theorem sput_c {d : D} {l : List Nat} {p : Tm} {x4 : Option Sl} (hp : OkT p) (hl : l.length ≤ 300) {P : PJ} (hP : ∀ x4, P.nx (stSh d (l ++ ((if l = [] then sgL (ngT p) else sepT (ngT p)) ++ tq p)) (some (.dat (.int p.1))) (some (.dat (.str (mkS p.2)))) x4)) :
    w_show_form_put 0 (stSh d l (some (.dat (.int p.1))) (some (.dat (.str (mkS p.2)))) x4) P := by
  obtain ⟨hw, hn⟩ := hp
  have tl6 := tm_len hn hw
  have tt := term_c hn hw
  rw [← abs_nat] at tt
  have e : atI [D.str "", .str "-", .str " + ", .str " - "] (2 * (if true.xor (decide (mkS l = "")) = true then 1 else 0) + (if ngT p = true then 1 else 0)) = some (.str (mkS (if l = [] then sgL (ngT p) else sepT (ngT p)))) := by
    rw [lt_emp, dec_mk, lt_mi, lt_pl, lt_ms]
    by_cases z : l = []
    · rw [decide_eq_true z, if_pos z]
      cases ngT p <;> rfl
    · rw [decide_eq_false z, if_neg z]
      cases ngT p <;> rfl
  have gl : (if l = [] then sgL (ngT p) else sepT (ngT p)).length ≤ 3 := by
    have := sg_len (ngT p)
    have := sep_len (ngT p)
    split <;> omega
  refine And.intro (szk 4) (And.intro (Dl.mul_l (by decide) (by decide)) (atW_i e ?_))
  refine And.intro (by rw [len_mkS, len_mkS]; exact szs (by omega)) (call_ tt ?_)
  rw [app_mk]
  refine And.intro (by rw [len_mkS, len_mkS, List.length_append]; exact szs (by omega)) ?_
  rw [app_mk, List.append_assoc]
  exact hP _
theorem show_c {q : Q4} (h : Sm60 q) : c_show_form [.dat (fq q)] [] (.dat (.str (mkS (shL (psq q))))) [] := by
  have ok := psq_ok h
  refine ⟨rfl, And.intro rfl (And.intro (szk 4) ?_)⟩
  dsimp only [wNil]
  show forW (.tp [.nm 2, .nm 3]) _ (zipD [.int q.1, .int q.2.1, .int q.2.2.1, .int q.2.2.2] [.str "i", .str "j", .str "p", .str ""]) ⟨[some (.dat (fq q)), some (.dat (.str "")), none, none, none], []⟩ _
  rw [lt_i, lt_j, lt_p, lt_emp]
  show forW (.tp [.nm 2, .nm 3]) _ ((psq q).map tmD) (stSh (fq q) (accS []) none none none) _
  refine forW_at tmD (fun pre post S => pre ++ post = psq q ∧ ∃ x2 x3 x4, S = stSh (fq q) (accS pre) x2 x3 x4) [] _ ?_ ?_ _ ⟨rfl, none, none, none, rfl⟩
  · rintro pre p post S ⟨e, x2, x3, x4, rfl⟩ nx' hnx
    have hp : OkT p := ok p (by rw [← e]; exact List.mem_append_right _ List.mem_cons_self)
    have le := congrArg List.length e
    have l4 : (psq q).length = 4 := rfl
    rw [List.length_append, List.length_cons, l4] at le
    have al := acc_len (ps := pre) fun x hx => ok x (by rw [← e]; exact List.mem_append_left _ hx)
    have as := acc_snoc pre p
    by_cases z : p.1 = 0
    · rw [if_pos z] at as
      refine Br.ff (by show true.xor (decide (p.1 = 0)) = false; rw [decide_eq_true z]; rfl) (hnx _ ⟨by rw [List.append_assoc]; exact e, some (.dat (.int p.1)), some (.dat (.str (mkS p.2))), x4, ?_⟩)
      rw [as]
      rfl
    · rw [if_neg z] at as
      refine Br.tt (by show true.xor (decide (p.1 = 0)) = true; rw [decide_eq_false z]; rfl) ?_
      refine sput_c hp (by omega) fun x4 => hnx _ ⟨by rw [List.append_assoc]; exact e, some (.dat (.int p.1)), some (.dat (.str (mkS p.2))), x4, ?_⟩
      rw [as]
  · rintro pre S ⟨e, x2, x3, x4, rfl⟩
    rw [List.append_nil] at e
    subst e
    unfold shL
    by_cases z : accS (psq q) = []
    · rw [if_pos z]
      refine Br.tt (by show false.xor (decide (mkS (accS (psq q)) = "")) = true; rw [lt_emp, dec_mk, decide_eq_true z]; rfl) ?_
      rw [lt_0]
      exact And.intro rfl rfl
    · rw [if_neg z]
      exact Br.ff (by show false.xor (decide (mkS (accS (psq q)) = "")) = false; rw [lt_emp, dec_mk, decide_eq_false z]; rfl) (And.intro rfl rfl)
theorem lput_c {d : D} {l : List Nat} {p : Tm} (hp : OkT p) (hl : l.length ≤ 300) {P : PJ} (hP : P.nx ⟨[some (.dat d), some (.dat (.str (mkS (if p.1 = 0 then l else l ++ ((if l = [] then sgL (ngT p) else sepT (ngT p)) ++ tq p))))), some (.dat (.int p.1)), some (.dat (.str (mkS p.2)))], []⟩) :
    w__law_shown_one 0 ⟨[some (.dat d), some (.dat (.str (mkS l))), some (.dat (.int p.1)), some (.dat (.str (mkS p.2)))], []⟩ P := by
  obtain ⟨hw, hn⟩ := hp
  have tl6 := tm_len hn hw
  have tt := lterm_c hn hw
  rw [← abs_nat] at tt
  have sl := sg_len (ngT p)
  have pl := sep_len (ngT p)
  by_cases z : p.1 = 0
  · rw [if_pos z] at hP
    have n0 : true.xor (decide (p.1 = 0)) = false := by rw [decide_eq_true z]; rfl
    exact Br.ff n0 (Br.ff rfl (Br.ff n0 hP))
  · rw [if_neg z] at hP
    have n1 : true.xor (decide (p.1 = 0)) = true := by rw [decide_eq_false z]; rfl
    by_cases y : l = []
    · subst y
      rw [if_pos rfl, List.nil_append] at hP
      have er : repS "-" (if ngT p = true then 1 else 0) = mkS (sgL (ngT p)) := by
        rw [lt_mi]
        cases ngT p <;> rfl
      refine Br.tt n1 (Br.tt (by show false.xor (decide (mkS [] = "")) = true; rw [lt_emp, dec_mk]; rfl) ?_)
      refine And.intro (by rw [lt_mi, len_mkS]; exact Nat.le_of_ble_eq_true rfl) (And.intro (show (-1000 : Int) ≤ (if ngT p = true then 1 else 0) ∧ (if ngT p = true then (1 : Int) else 0) ≤ 1000 by cases ngT p <;> decide) ?_)
      show (repS "-" (if ngT p = true then 1 else 0)).length ≤ sizeLine ∧ _
      rw [er]
      refine And.intro (by rw [len_mkS]; exact szs (by omega)) (call_ tt (And.intro ?_ ?_))
      · rw [len_mkS, len_mkS]
        exact szs (by omega)
      · rw [app_mk]
        exact hP
    · rw [if_neg y] at hP
      have lf : false.xor (decide (mkS l = "")) = false := by rw [lt_emp, dec_mk, decide_eq_false y]; rfl
      have e : atI [D.str " + ", .str " - "] (if ngT p = true then 1 else 0) = some (.str (mkS (sepT (ngT p)))) := by
        rw [lt_pl, lt_ms]
        cases ngT p <;> rfl
      refine Br.tt n1 (Br.ff lf (Br.tt n1 (And.intro (szk 2) (atW_i e ?_))))
      refine And.intro (by rw [len_mkS, len_mkS]; exact szs (by omega)) (call_ tt ?_)
      rw [app_mk]
      refine And.intro (by rw [len_mkS, len_mkS, List.length_append]; exact szs (by omega)) ?_
      rw [app_mk, List.append_assoc]
      exact hP
theorem lshown_c {q : Q4} (h : Sm60 q) : c__law_shown [.dat (rq q)] [] (.dat (.str (mkS (shL (psq q))))) [] := by
  have ok := psq_ok h
  refine ⟨rfl, And.intro (szk 4) ?_⟩
  dsimp only [wNil]
  show forW (.tp [.nm 2, .nm 3]) _ (zipD [.int q.1, .int q.2.1, .int q.2.2.1, .int q.2.2.2] [.str "i", .str "j", .str "p", .str ""]) ⟨[some (.dat (rq q)), some (.dat (.str "")), none, none], []⟩ _
  rw [lt_i, lt_j, lt_p, lt_emp]
  show forW (.tp [.nm 2, .nm 3]) _ ((psq q).map tmD) ⟨[some (.dat (rq q)), some (.dat (.str (mkS (accS [])))), none, none], []⟩ _
  refine forW_at tmD (fun pre post S => pre ++ post = psq q ∧ ∃ x2 x3, S = ⟨[some (.dat (rq q)), some (.dat (.str (mkS (accS pre)))), x2, x3], []⟩) [] _ ?_ ?_ _ ⟨rfl, none, none, rfl⟩
  · rintro pre p post S ⟨e, x2, x3, rfl⟩ nx' hnx
    have hp : OkT p := ok p (by rw [← e]; exact List.mem_append_right _ List.mem_cons_self)
    have le := congrArg List.length e
    have l4 : (psq q).length = 4 := rfl
    rw [List.length_append, List.length_cons, l4] at le
    have al := acc_len (ps := pre) fun x hx => ok x (by rw [← e]; exact List.mem_append_left _ hx)
    refine lput_c hp (by omega) (hnx _ ⟨by rw [List.append_assoc]; exact e, some (.dat (.int p.1)), some (.dat (.str (mkS p.2))), ?_⟩)
    rw [acc_snoc]
  · rintro pre S ⟨e, x2, x3, rfl⟩
    rw [List.append_nil] at e
    subst e
    have e : atI [D.str (mkS (accS (psq q))), .str "0"] (if false.xor (decide (mkS (accS (psq q)) = "")) = true then 1 else 0) = some (.str (mkS (shL (psq q)))) := by
      rw [lt_emp, dec_mk, lt_0]
      unfold shL
      by_cases z : accS (psq q) = []
      · rw [decide_eq_true z, if_pos z]; rfl
      · rw [decide_eq_false z, if_neg z]; rfl
    exact And.intro (szk 2) (atW_i e (And.intro rfl rfl))
/-! a form is read -/
def setQ (r : Q4) (p : Tm) : Q4 := if p.2 = [105] then (p.1, r.2.1, r.2.2.1, r.2.2.2) else if p.2 = [106] then (r.1, p.1, r.2.2.1, r.2.2.2) else if p.2 = [112] then (r.1, r.2.1, p.1, r.2.2.2) else (r.1, r.2.1, r.2.2.1, p.1)
def rdT (ps : List Tm) : List Tm := if nzT ps = [] then [(0, [])] else nzT ps
theorem rd_prt (ps : List Tm) : prtT ps = (rdT ps).map stT := by
  unfold prtT rdT
  split
  · decide +kernel
  · rfl
theorem rd_ok {ps : List Tm} (h : ∀ p ∈ ps, OkT p) : ∀ p ∈ rdT ps, OkT p := fun p hp => by
  unfold rdT at hp
  split at hp
  · rw [List.mem_singleton.mp hp]
    exact ⟨.inr (.inr (.inr rfl)), by decide⟩
  · exact h p (List.mem_filter.mp hp).1
theorem rd_row (q : Q4) : (rdT (psq q)).foldl setQ (0, 0, 0, 0) = q := by
  obtain ⟨a, b, c, d⟩ := q
  unfold rdT nzT psq
  by_cases ha : a = 0 <;> by_cases hb : b = 0 <;> by_cases hc : c = 0 <;> by_cases hd : d = 0 <;> simp [ha, hb, hc, hd, setQ]
abbrev stRf (t : List Nat) (ts : List D) (r : Q4) (x3 x4 x5 x6 : Option Sl) : Sta := ⟨[some (.dat (.str (mkS t))), some (.cel 0), some (.dat (.lst ts)), x3, x4, x5, x6, none], [.lst [.int r.1, .int r.2.1, .int r.2.2.1, .int r.2.2.2]]⟩
theorem rpart_c {t : List Nat} {ts : List D} {r : Q4} {p : Tm} (hp : OkT p) {x4 x5 x6 : Option Sl} {P : PJ} (hP : ∀ x4 x5 x6, P.nx (stRf t ts (setQ r p) (some (.dat (.str (mkS (stT p))))) x4 x5 x6)) :
    w_read_form_part 0 (stRf t ts r (some (.dat (.str (mkS (stT p))))) x4 x5 x6) P := by
  obtain ⟨hw, hn⟩ := hp
  have tl6 : (tq p).length ≤ 62 := tm_len hn hw
  have sl := sg_len (ngT p)
  have ln : (mkS (stT p)).length ≤ sizeLine := by
    rw [len_mkS, List.length_append]
    exact szs (by omega)
  have rt := rterm_c hn hw
  have one : cutS (mkS (stT p)) none (some 1) = mkS ((stT p).take 1) := cut_hi _ 1
  have drp : cutS (mkS (stT p)) (some 1) none = mkS ((stT p).drop 1) := cut_lo _ 1
  have hneg : false.xor (decide (cutS (mkS (stT p)) none (some 1) = "-")) = ngT p := by
    rw [one, lt_mi, dec_mk]
    show false.xor (decide ((sgL (ngT p) ++ tq p).take 1 = [45])) = ngT p
    cases ngT p with
    | true => rfl
    | false =>
      obtain ⟨c, s, ec⟩ := List.exists_cons_of_ne_nil (tm_ne p.1.natAbs p.2)
      have hc : c ≠ 45 := (tm_in hw (c := c) (by rw [ec]; exact List.mem_cons_self)).2.2
      have ec : tq p = c :: s := ec
      rw [ec]
      show false.xor (decide ([c] = [45])) = false
      rw [decide_eq_false fun z => hc (List.cons.inj z).1]
      rfl
  have put : ∀ {x4 : Option Sl}, w_read_form_put 0 (stRf t ts r (some (.dat (.str (mkS (stT p))))) x4 (some (.dat (.int (atW' p.2)))) (some (.dat (.int (p.1.natAbs : Int))))) P := by
    intro x4
    have fin : ∀ v : Int, v = p.1 → setLW (.cel 0) (.dat (.int (atW' p.2))) (.dat (.int v)) [.lst [.int r.1, .int r.2.1, .int r.2.2.1, .int r.2.2.2]] fun c4 => P.nx ⟨[some (.dat (.str (mkS t))), some (.cel 0), some (.dat (.lst ts)), some (.dat (.str (mkS (stT p)))), x4, some (.dat (.int (atW' p.2))), some (.dat (.int (p.1.natAbs : Int))), none], c4⟩ := fun v ev => by
      subst ev
      have hP := hP x4 (some (.dat (.int (atW' p.2)))) (some (.dat (.int (p.1.natAbs : Int))))
      unfold setQ at hP
      unfold atW' at hP ⊢
      rcases hw with e | e | e | e
      · rw [if_pos e] at hP; rw [if_pos e]; rw [if_pos e] at hP; exact hP
      · have n1 : p.2 ≠ [105] := by rw [e]; decide
        simp only [if_neg n1, if_pos e] at hP ⊢; exact hP
      · have n1 : p.2 ≠ [105] := by rw [e]; decide
        have n2 : p.2 ≠ [106] := by rw [e]; decide
        simp only [if_neg n1, if_neg n2, if_pos e] at hP ⊢; exact hP
      · have n1 : p.2 ≠ [105] := by rw [e]; decide
        have n2 : p.2 ≠ [106] := by rw [e]; decide
        have n3 : p.2 ≠ [112] := by rw [e]; decide
        simp only [if_neg n1, if_neg n2, if_neg n3] at hP ⊢; exact hP
    refine And.intro ln ?_
    show Br (false.xor (decide (cutS (mkS (stT p)) none (some 1) = "-"))) _ _
    rw [hneg]
    by_cases z : p.1 < 0
    · exact Br.tt (decide_eq_true z) (fin _ (by omega))
    · exact Br.ff (decide_eq_false z) (fin _ (by omega))
  have rest : ∀ {x4 : Option Sl}, wConsS (wIfS (wBl (wTwo (wName 4) (wCon .non) (isW false))) (wConsS wNo wNilS) wNilS) (wConsS (wTupS [.nm 5, .nm 6] (wName 4)) (w_read_form_put 0)) (stRf t ts r (some (.dat (.str (mkS (stT p))))) (some (.dat (.tup [.int (atW' p.2), .int (p.1.natAbs : Int)]))) x5 x6) P := Br.ff rfl put
  refine And.intro ln ?_
  show Br (false.xor (decide (cutS (mkS (stT p)) none (some 1) = "-"))) _ _
  rw [hneg]
  cases z : ngT p with
  | true =>
    refine Br.tt rfl (And.intro ln ?_)
    rw [drp]
    have e : (stT p).drop 1 = tq p := by
      show (sgL (ngT p) ++ tq p).drop 1 = _
      rw [z]
      rfl
    rw [e]
    exact call_ rt (rest (x4 := x4))
  | false =>
    have e : stT p = tq p := by
      show sgL (ngT p) ++ tq p = _
      rw [z]
      rfl
    refine Br.ff rfl ?_
    have rt' : c_read_term [.dat (.str (mkS (stT p)))] [] (.dat (.tup [.int (atW' p.2), .int (p.1.natAbs : Int)])) [] := by rw [e]; exact rt
    exact call_ rt' (rest (x4 := x4))

/-! ### forms read; the law -/
open TL
theorem sh_len {ps : List Tm} (h : ∀ p ∈ ps, OkT p) : (shL ps).length ≤ 65 * ps.length + 1 := by
  have a := acc_len h
  unfold shL
  split
  · show 1 ≤ _; omega
  · omega
theorem read_c {q : Q4} (h : Sm60 q) : c_read_form [.dat (.str (mkS (shL (psq q))))] [] (.dat (fq q)) [] := by
  have ok := psq_ok h
  have l4 : (psq q).length = 4 := rfl
  have sl := sh_len ok
  have parts := parts_of (ps := psq q) fun p hp => (ok p hp).1
  rw [rd_prt] at parts
  have rok := rd_ok ok
  have row := rd_row q
  refine ⟨rfl, And.intro (szk 4) (And.intro ?_ (And.intro rfl ?_))⟩
  · show (mkS (shL (psq q))).length + ((mkS (shL (psq q))).length + 1) * (" + -" : Str).length ≤ 16777216
    rw [lt_pm, len_mkS, len_mkS]
    show (shL (psq q)).length + ((shL (psq q)).length + 1) * 4 ≤ 16777216
    omega
  · show ((" + " : Str).length == 0) = false ∧ (Txt.replace (mkS (shL (psq q))) " - " " + -").length + 2 ≤ sizeLine ∧ wConsS (wFor (wItems (wName 2)) (.nm 3) (w_read_form_part 0)) (wFrz 1 0 (w_read_form_made 0)) ⟨[some (.dat (.str (mkS (shL (psq q))))), some (.cel 0), some (.dat (.lst ((Txt.split (Txt.replace (mkS (shL (psq q))) " - " " + -") " + ").map D.str))), none, none, none, none, none], [.lst [.int 0, .int 0, .int 0, .int 0]]⟩ _
    rw [lt_ms, lt_pm, lt_pl, parts]
    refine And.intro rfl (And.intro ?_ ?_)
    · have rl := TK.replace_len (mkS (shL (psq q))) (mkS [32, 45, 32]) (mkS [32, 43, 32, 45])
      rw [len_mkS, len_mkS] at rl
      have rl : (Txt.replace (mkS (shL (psq q))) (mkS [32, 45, 32]) (mkS [32, 43, 32, 45])).length ≤ (shL (psq q)).length + ((shL (psq q)).length + 1) * 4 := rl
      exact szs (by omega)
    · show forW (.nm 3) (w_read_form_part 0) ((((rdT (psq q)).map stT).map mkS).map D.str) (stRf (shL (psq q)) ((((rdT (psq q)).map stT).map mkS).map D.str) (0, 0, 0, 0) none none none none) _
      generalize hts : (((rdT (psq q)).map stT).map mkS).map D.str = ts
      have e : ts = (rdT (psq q)).map fun p => D.str (mkS (stT p)) := by
        rw [← hts, List.map_map, List.map_map]
        rfl
      show forW (.nm 3) (w_read_form_part 0) ts _ _
      have go : forW (.nm 3) (w_read_form_part 0) ((rdT (psq q)).map fun p => D.str (mkS (stT p))) (stRf (shL (psq q)) ts (0, 0, 0, 0) none none none none) { endJ 0 (.dat (fq q)) [] with nx := fun S' => wFrz 1 0 (w_read_form_made 0) S' (endJ 0 (.dat (fq q)) []) } := by
        refine forW_at (fun p => D.str (mkS (stT p))) (fun pre post S => pre ++ post = rdT (psq q) ∧ ∃ x3 x4 x5 x6, S = stRf (shL (psq q)) ts (pre.foldl setQ (0, 0, 0, 0)) x3 x4 x5 x6) [] _ ?_ ?_ _ ⟨rfl, none, none, none, none, rfl⟩
        · rintro pre p post S ⟨e, x3, x4, x5, x6, rfl⟩ nx' hnx
          have hp : OkT p := rok p (by rw [← e]; exact List.mem_append_right _ List.mem_cons_self)
          refine rpart_c hp fun x4 x5 x6 => hnx _ ⟨by rw [List.append_assoc]; exact e, some (.dat (.str (mkS (stT p)))), x4, x5, x6, ?_⟩
          rw [List.foldl_append]
          rfl
        · rintro pre S ⟨e, x3, x4, x5, x6, rfl⟩
          rw [List.append_nil] at e
          subst e
          rw [row]
          refine And.intro (Nat.le_refl _) (call_ (form_of_c q) (call_ (show_c h) ?_))
          refine Br.ff ?_ (And.intro rfl rfl)
          show true.xor (decide (mkS (shL (psq q)) = mkS (shL (psq q)))) = false
          rw [decide_eq_true rfl]
          rfl
      rw [e] at go ⊢
      exact go

/-! ### texts are unlike; numbers drawn -/
open TL
theorem tm_inj {n m : Nat} {w v : List Nat} (hw : IsW w) (hv : IsW v) (h : tmL n w = tmL m v) : n = m ∧ w = v := by
  have one : ∀ {w : List Nat}, IsW w → w ≠ [] → ∃ c, (c = 105 ∨ c = 106 ∨ c = 112) ∧ w = [c] := fun {w} hw z => by
    rcases hw with e | e | e | e
    · exact ⟨_, .inl rfl, e⟩
    · exact ⟨_, .inr (.inl rfl), e⟩
    · exact ⟨_, .inr (.inr rfl), e⟩
    · exact absurd e z
  have lst : ∀ (n c : Nat), (tmL n [c]).getLast? = some c := fun n c => by
    unfold tmL
    rw [if_neg (by simp)]
    split
    · rfl
    · rw [show numL n ++ 42 :: [c] = (numL n ++ [42]) ++ [c] by rw [List.append_assoc]; rfl, List.getLast?_concat]
  have dig : ∀ n : Nat, ∃ d, (tmL n []).getLast? = some d ∧ 48 ≤ d ∧ d ≤ 57 := fun n => by
    obtain ⟨d, hd⟩ : ∃ d, (numL n).getLast? = some d := by
      cases e : (numL n).getLast? with
      | none => exact absurd (List.getLast?_eq_none_iff.mp e) (numL_ne n)
      | some d => exact ⟨d, rfl⟩
    exact ⟨d, hd, num_dig (List.mem_of_getLast? hd)⟩
  by_cases z : w = [] <;> by_cases y : v = []
  · subst z y
    exact ⟨numL_inj h, rfl⟩
  · obtain ⟨c, hc, rfl⟩ := one hv y
    subst z
    obtain ⟨d, e, h1, h2⟩ := dig n
    rw [h, lst] at e
    have := Option.some.inj e
    omega
  · obtain ⟨c, hc, rfl⟩ := one hw z
    subst y
    obtain ⟨d, e, h1, h2⟩ := dig m
    rw [← h, lst] at e
    have := Option.some.inj e
    omega
  · obtain ⟨c, hc, rfl⟩ := one hw z
    obtain ⟨d, hd, rfl⟩ := one hv y
    have e := lst n c
    rw [h, lst] at e
    have e := Option.some.inj e
    subst e
    refine ⟨?_, rfl⟩
    have two : ∀ n : Nat, tmL n [d] = if n = 1 then [d] else numL n ++ [42, d] := fun n => by
      unfold tmL
      rw [if_neg (by simp)]
    rw [two, two] at h
    have l0 : ∀ n : Nat, 0 < (numL n).length := fun n => List.length_pos_iff.mpr (numL_ne n)
    by_cases a : n = 1 <;> by_cases b : m = 1
    · omega
    · rw [if_pos a, if_neg b] at h
      have := congrArg List.length h
      rw [List.length_append] at this
      have := l0 m
      have : 1 = (numL m).length + 2 := by assumption
      omega
    · rw [if_neg a, if_pos b] at h
      have := congrArg List.length h
      rw [List.length_append] at this
      have := l0 n
      have : (numL n).length + 2 = 1 := by assumption
      omega
    · rw [if_neg a, if_neg b] at h
      exact numL_inj (List.append_cancel_right h)
theorem st_inj {p r : Tm} (hp : IsW p.2) (hr : IsW r.2) (h : stT p = stT r) : p = r := by
  have nx : ∀ {p : Tm}, IsW p.2 → ∃ c s, tq p = c :: s ∧ c ≠ 45 := fun {p} hp => by
    obtain ⟨c, s, ec⟩ := List.exists_cons_of_ne_nil (tm_ne p.1.natAbs p.2)
    exact ⟨c, s, ec, (tm_in hp (c := c) (by rw [ec]; exact List.mem_cons_self)).2.2⟩
  obtain ⟨c, s, e1, n1⟩ := nx hp
  obtain ⟨d, t, e2, n2⟩ := nx hr
  have h : sgL (ngT p) ++ tq p = sgL (ngT r) ++ tq r := h
  have key : ngT p = ngT r ∧ tq p = tq r := by
    cases a : ngT p <;> cases b : ngT r <;> rw [a, b] at h
    · exact ⟨rfl, h⟩
    · rw [e1] at h
      exact absurd (List.cons.inj (show c :: s = 45 :: tq r from h)).1 n1
    · rw [e2] at h
      exact absurd (List.cons.inj (show 45 :: tq p = d :: t from h)).1.symm n2
    · exact ⟨rfl, (List.cons.inj (show 45 :: tq p = 45 :: tq r from h)).2⟩
  obtain ⟨k1, k2⟩ := key
  obtain ⟨q1, q2⟩ := tm_inj hp hr k2
  have k1 : decide (p.1 < 0) = decide (r.1 < 0) := k1
  have k1 := decide_eq_decide.mp k1
  refine Prod.ext ?_ q2
  by_cases z : p.1 < 0
  · have := k1.mp z
    omega
  · have : ¬ r.1 < 0 := fun y => z (k1.mpr y)
    omega
theorem map_inj_on {α β : Type} {f : α → β} {P : α → Prop} (hf : ∀ a b, P a → P b → f a = f b → a = b) : ∀ {l m : List α}, (∀ a ∈ l, P a) → (∀ a ∈ m, P a) → l.map f = m.map f → l = m
  | [], [], _, _, _ => rfl
  | [], _ :: _, _, _, h => by cases h
  | _ :: _, [], _, _, h => by cases h
  | a :: l, b :: m, h1, h2, h => by
    rw [List.map_cons, List.map_cons] at h
    obtain ⟨e1, e2⟩ := List.cons.inj h
    rw [hf a b (h1 a List.mem_cons_self) (h2 b List.mem_cons_self) e1, map_inj_on hf (fun x hx => h1 x (List.mem_cons_of_mem _ hx)) (fun x hx => h2 x (List.mem_cons_of_mem _ hx)) e2]
theorem sh_inj {q r : Q4} (hq : Sm60 q) (hr : Sm60 r) (h : shL (psq q) = shL (psq r)) : q = r := by
  have oq := psq_ok hq
  have or := psq_ok hr
  have a := rep_sh (ps := psq q) fun p hp => (oq p hp).1
  have b := rep_sh (ps := psq r) fun p hp => (or p hp).1
  rw [h, b, rd_prt, rd_prt] at a
  have e := map_inj_on (P := fun p : Tm => IsW p.2) (fun a b h1 h2 h3 => st_inj h1 h2 h3) (fun p hp => (rd_ok or p hp).1) (fun p hp => (rd_ok oq p hp).1) a
  have r1 := rd_row q
  have r2 := rd_row r
  rw [← e] at r1
  exact r1.symm.trans r2
/-! numbers drawn -/
def Lo60 (v : Int) : Prop := v.natAbs ≤ 9 * 10 ^ 59
theorem fold_z : ∀ (n : Nat) (acc : Array Nat), ((List.replicate n (mkS [48]).cps).foldl (· ++ ·) acc).toList = acc.toList ++ List.replicate n 48
  | 0, acc => (List.append_nil _).symm
  | n + 1, acc => by
    rw [List.replicate_succ, List.foldl_cons, fold_z n, Array.toList_append, List.replicate_succ, List.append_assoc]
    rfl
theorem rep_z (n : Nat) : repS "0" (n : Int) = mkS (List.replicate n 48) := by
  rw [lt_0]
  unfold repS
  by_cases z : n = 0
  · subst z
    rfl
  · rw [if_neg (by omega)]
    by_cases y : n = 1
    · subst y
      rfl
    · have h1 : ((n : Int) == 1 || (mkS [48]).length == 0) = false := by
        rw [len_mkS, Bool.or_eq_false_iff]
        exact ⟨beq_eq_false_iff_ne.mpr (by omega), rfl⟩
      rw [h1]
      refine mk_eq ?_
      show ((List.replicate (n : Int).toNat (mkS [48]).cps).foldl (· ++ ·) #[]).toList = _
      rw [fold_z, Int.toNat_natCast]
      rfl
theorem num_nine : ∀ k : Nat, numL (9 * 10 ^ k) = 57 :: List.replicate k 48
  | 0 => numL_lt (n := 9) (by decide)
  | k + 1 => by
    have p : 0 < 10 ^ k := Nat.pow_pos (by decide)
    have e : 9 * 10 ^ (k + 1) = 9 * 10 ^ k * 10 := by rw [Nat.pow_succ, Nat.mul_assoc]
    have h10 : 10 ≤ 9 * 10 ^ k * 10 := by generalize 10 ^ k = y at p; omega
    rw [e, numL_step h10, Nat.mul_div_cancel _ (by decide), num_nine k, Nat.mul_mod_left, List.replicate_succ', List.cons_append]
theorem nine_c {t : Int} (h0 : 0 ≤ t) (h : t < 60) : (repS "0" t).length ≤ 100 ∧ (("9" : Str) ++ repS "0" t).length ≤ 640 ∧ ∃ g : Int, 0 ≤ g ∧ g ≤ 9 * 10 ^ 59 ∧ PySem.intText? (("9" : Str) ++ repS "0" t) = some g := by
  obtain ⟨k, rfl⟩ := Int.eq_ofNat_of_zero_le h0
  have e9 : ("9" : Str) = mkS [57] := mk_eq (by decide +kernel)
  have l : 10 ^ k ≤ 10 ^ 59 := Nat.pow_le_pow_right (by decide) (by omega)
  have e : ("9" : Str) ++ repS "0" (k : Int) = mkS (numL (9 * 10 ^ k)) := by rw [rep_z, e9, app_mk, num_nine]; rfl
  refine ⟨by rw [rep_z, len_mkS, List.length_replicate]; omega, ?_, ((9 * 10 ^ k : Nat) : Int), by omega, ?_, ?_⟩
  · rw [e, num_nine, len_mkS, List.length_cons, List.length_replicate]
    omega
  · generalize 10 ^ k = y at l
    omega
  · rw [e]
    refine num_int ?_
    generalize 10 ^ k = y at l
    omega
theorem at5n {c : Int} (h0 : 0 ≤ c) (h1 : c < 5) : ∃ v : Int, Lo60 v ∧ atI [D.int 0, .int 1, .int (-1), .int 10, .int (0 - 11)] c = some (.int v) := by
  have e : c = 0 ∨ c = 1 ∨ c = 2 ∨ c = 3 ∨ c = 4 := by omega
  rcases e with e | e | e | e | e <;> rw [e]
  · exact ⟨0, by unfold Lo60; decide, rfl⟩
  · exact ⟨1, by unfold Lo60; decide, rfl⟩
  · exact ⟨-1, by unfold Lo60; decide, rfl⟩
  · exact ⟨10, by unfold Lo60; decide, rfl⟩
  · exact ⟨0 - 11, by unfold Lo60; decide, rfl⟩
theorem number_ex {b : B} (ok : Ok b) : ∃ (v : Int) (b' : B), Lo60 v ∧ Ok b' ∧ c__law_number [.cel 0] [bx b] (.dat (.int v)) [bx b'] := by
  have o1 := ok.nx 8
  have t0 : 0 ≤ tk b 8 := tk_lo (by decide)
  by_cases z : tk b 8 < 5
  · obtain ⟨v, hv, ev⟩ := at5n t0 z
    exact ⟨v, nx b 8, hv, o1, rfl, call_ (take_c (by decide) (by decide) ok) (Br.tt (decide_eq_true z) (And.intro (szk 5) (atW_i ev (And.intro rfl rfl))))⟩
  · by_cases y : tk b 8 = 5
    · have o2 := o1.nx 2
      have s0 : 0 ≤ tk (nx b 8) 2 := tk_lo (by decide)
      have s1 : tk (nx b 8) 2 < 2 := tk_hi (by decide)
      obtain ⟨h1, h2, g, g0, g1, h3⟩ := nine_c (t := tk (nx (nx b 8) 2) 60) (tk_lo (by decide)) (tk_hi (by decide))
      have k0 : 0 ≤ tk (nx (nx b 8) 2) 60 := tk_lo (by decide)
      have k1 : tk (nx (nx b 8) 2) 60 < 60 := tk_hi (by decide)
      refine ⟨(1 - 2 * tk (nx b 8) 2) * g, nx (nx (nx b 8) 2) 60, ?_, o2.nx 60, rfl, call_ (take_c (by decide) (by decide) ok) (Br.ff (decide_eq_false z) (Br.tt (by show false.xor (decide (tk b 8 = 5)) = true; rw [decide_eq_true y]; rfl) ?_))⟩
      · unfold Lo60
        have e : 1 - 2 * tk (nx b 8) 2 = 1 ∨ 1 - 2 * tk (nx b 8) 2 = -1 := by omega
        rcases e with e | e <;> rw [e] <;> omega
      · refine call_ (take_c (by decide) (by decide) o1) (And.intro (Dl.mul_l (by decide) (by decide)) (call_ (take_c (by decide) (by decide) o2) ?_))
        refine And.intro (by rw [lt_0, len_mkS]; exact Nat.le_of_ble_eq_true rfl) (And.intro ⟨by omega, by omega⟩ (And.intro (szs (by omega)) ?_))
        refine And.intro ?_ (And.intro h2 (Exists.intro g (And.intro h3 (And.intro (Dl.mul_l (by omega) (by omega)) (And.intro rfl rfl)))))
        have e9 : ("9" : Str).length = 1 := by decide +kernel
        show ("9" : Str).length + _ ≤ _
        rw [e9]
        exact szs (by omega)
    · have o2 := o1.nx 25
      have s0 : 0 ≤ tk (nx b 8) 25 := tk_lo (by decide)
      have s1 : tk (nx b 8) 25 < 25 := tk_hi (by decide)
      refine ⟨tk (nx b 8) 25 - 12, nx (nx b 8) 25, by unfold Lo60; omega, o2, rfl, call_ (take_c (by decide) (by decide) ok) (Br.ff (decide_eq_false z) (Br.ff (by show false.xor (decide (tk b 8 = 5)) = false; rw [decide_eq_false y]; rfl) (call_ (take_c (by decide) (by decide) o1) (And.intro rfl rfl))))⟩

/-! ### the law -/
open TL
theorem lcW_all {p : Pat} {we : WpE} {sl : Sls} {α : Type} (g : α → D) (Q : D → Prop) : ∀ (xs : List α) (b : B), Ok b →
    (∀ x ∈ xs, ∀ b, Ok b → ∃ sl' b' d, asgP p (g x) sl = some sl' ∧ Ok b' ∧ Q d ∧ ∀ R : RV, R (.dat d) [bx b'] → we sl' [bx b] R noX) →
    ∃ (ds : List D) (b' : B), Ok b' ∧ ds.length = xs.length ∧ (∀ d ∈ ds, Q d) ∧ ∀ R : List D → List Cell → Prop, R ds [bx b'] → lcW p wYes we sl (xs.map g) [bx b] R
  | [], b, hb, _ => ⟨[], b, hb, rfl, (fun _ z => nomatch z), fun R h => h⟩
  | x :: xs, b, hb, hx => by
    obtain ⟨sl', b', d, e, ok, hq, h3⟩ := hx x List.mem_cons_self b hb
    obtain ⟨ds, b2, o2, l2, q2, r2⟩ := lcW_all g Q xs b' ok fun y hy => hx y (List.mem_cons_of_mem _ hy)
    refine ⟨d :: ds, b2, o2, by rw [List.length_cons, List.length_cons, l2], fun y hy => ?_, fun R hR => asgW_i e ⟨(fun _ => h3 _ (r2 _ hR)), (fun z => nomatch z)⟩⟩
    rcases List.mem_cons.mp hy with rfl | hy
    · exact hq
    · exact q2 y hy
abbrev slR (ns : List Int) (k : Nat) : Sls := [some (.dat (scD ns)), some (.dat (.int k)), some (.cel 0), none, none, none, none, none, none, none, none]
theorem row_ex {ns : List Int} {k : Nat} {b : B} (ok : Ok b) : ∃ (a c d e : Int) (b' : B), Lo60 a ∧ Lo60 c ∧ Lo60 d ∧ Lo60 e ∧ Ok b' ∧
    ∀ R : List D → List Cell → Prop, R [.int a, .int c, .int d, .int e] [bx b'] → lcW (.nm 4) wYes (wFn c__law_number (wCons (wName 2) wNil)) (slR ns k) ((List.range 4).map fun i : Nat => D.int (0 + (i : Int))) [bx b] R := by
  obtain ⟨ds, b', o', l', q', r'⟩ := lcW_all (p := .nm 4) (we := wFn c__law_number (wCons (wName 2) wNil)) (sl := slR ns k) (fun i : Nat => D.int (0 + (i : Int))) (fun d => ∃ v : Int, Lo60 v ∧ d = .int v) (List.range 4) b ok (fun i _ b ok => by
    obtain ⟨v, b', h1, h2', h3⟩ := number_ex ok
    exact ⟨_, b', .int v, rfl, h2', ⟨v, h1, rfl⟩, fun R r => call_ h3 r⟩)
  rw [List.length_range] at l'
  match ds, l', q', r' with
  | [x, y, z, w], _, q', r' =>
    obtain ⟨a, ha, rfl⟩ := q' x List.mem_cons_self
    obtain ⟨c, hc, rfl⟩ := q' y (List.mem_cons_of_mem _ List.mem_cons_self)
    obtain ⟨d, hd, rfl⟩ := q' z (List.mem_cons_of_mem _ (List.mem_cons_of_mem _ List.mem_cons_self))
    obtain ⟨e, he, rfl⟩ := q' w (List.mem_cons_of_mem _ (List.mem_cons_of_mem _ (List.mem_cons_of_mem _ List.mem_cons_self)))
    exact ⟨a, c, d, e, b', ha, hc, hd, he, o', r'⟩
abbrev stL (ns : List Int) (q o : Q4) (b : B) (ts : List (List Nat)) (x1 x4 x5 x8 x9 x10 : Option Sl) : Sta := ⟨[some (.dat (scD ns)), x1, some (.cel 0), some (.dat (rq q)), x4, x5, some (.dat (rq o)), some (.cel 1), x8, x9, x10], [bx b, .lst (ts.map fun l => D.str (mkS l))]⟩
def Sh (ns : List Int) (S : Sta) : Prop := ∃ x1 x2 x3 x4 x5 x6 x7 x8 x9 x10 cs, S = ⟨[some (.dat (scD ns)), x1, x2, x3, x4, x5, x6, x7, x8, x9, x10], cs⟩
section
variable {ns : List Int} {q o r : Q4} {b : B} {x1 x4 x5 x8 x9 x10 : Option Sl} {P : PJ}
theorem text_c (h : Sm60 r) {ts : List (List Nat)} (hl : ts.length ≤ 10) (hP : ∀ x10, P.nx (stL ns q o b (ts ++ [shL (psq r)]) x1 x4 x5 (some (.dat (rq r))) x9 x10)) : w_law_text 0 (stL ns q o b ts x1 x4 x5 (some (.dat (rq r))) x9 x10) P := by
  refine call_ (made_c r) (call_ (show_c h) (Br.ff rfl (call_ (lshown_c h) (Br.ff ?_ ?_))))
  · show true.xor (decide (mkS (shL (psq r)) = mkS (shL (psq r)))) = false
    rw [decide_eq_true rfl]
    rfl
  · refine call_ (read_c h) (call_ (told_c r) (And.intro rfl (And.intro rfl (Br.ne rfl rfl ?_))))
    refine And.intro trivial (And.intro (by rw [List.length_map]; exact Nat.lt_of_le_of_lt hl (by decide)) ?_)
    have e : (ts.map fun l => D.str (mkS l)) ++ [D.str (mkS (shL (psq r)))] = (ts ++ [shL (psq r)]).map fun l => D.str (mkS l) := by rw [List.map_append]; rfl
    have hP := hP (some (.dat (.str (mkS (shL (psq r))))))
    rw [stL, ← e] at hP
    exact hP
theorem texts_c (h1 : Sm60 q) (h2 : Sm60 o) (h3 : Sm60 (0 - q.1, 0 - q.2.1, 0 - q.2.2.1, 0 - q.2.2.2)) (h4 : Sm60 (q.1, q.2.1, q.2.2.1, 0)) (ne : q ≠ o) (hP : ∀ S, Sh ns S → P.nx S) {x7 : Option Sl} : w_law_texts 0 ⟨[some (.dat (scD ns)), x1, some (.cel 0), some (.dat (rq q)), x4, x5, some (.dat (rq o)), x7, none, none, none], [bx b]⟩ P := by
  refine And.intro (szk 0) (And.intro (szl 4) ?_)
  show lcW _ _ _ _ ([q.1, q.2.1, q.2.2.1, q.2.2.2].map D.int) _ _
  refine lcW_map D.int (fun c => D.int (0 - c)) (fun c _ => ⟨_, rfl, fun R' h' => h'⟩) ?_
  dsimp only [wNil]
  refine And.intro (szk 1) (And.intro (szs (Nat.le_of_ble_eq_true rfl)) (And.intro (szk 5) ?_))
  have last : ∀ {x8 x10 : Option Sl}, wFrz 7 0 (w_law_last 0) (stL ns q o b [shL (psq q), shL (psq o), shL (psq (0 - q.1, 0 - q.2.1, 0 - q.2.2.1, 0 - q.2.2.2)), shL (psq (q.1, q.2.1, q.2.2.1, 0)), shL (psq q)] x1 x4 x5 x8 none x10) P := by
    intro x8 x10
    refine And.intro (Nat.zero_le _) (Br.ff ?_ (Br.ff ?_ (hP _ ⟨_, _, _, _, _, _, _, _, _, _, _, rfl⟩)))
    · show false.xor (decide (mkS (shL (psq q)) = mkS (shL (psq o)))) = false
      rw [dec_mk, decide_eq_false fun e => ne (sh_inj h1 h2 e)]
      rfl
    · show true.xor (decide (mkS (shL (psq q)) = mkS (shL (psq q)))) = false
      rw [decide_eq_true rfl]
      rfl
  show forW (.nm 8) (w_law_text 0) [rq q, rq o, rq (0 - q.1, 0 - q.2.1, 0 - q.2.2.1, 0 - q.2.2.2), rq (q.1, q.2.1, q.2.2.1, 0), rq q] (stL ns q o b [] x1 x4 x5 none none none) _
  refine text_c h1 (Nat.le_of_ble_eq_true rfl) fun x10 => text_c h2 (Nat.le_of_ble_eq_true rfl) fun x10 => text_c h3 (Nat.le_of_ble_eq_true rfl) fun x10 => text_c h4 (Nat.le_of_ble_eq_true rfl) fun x10 => text_c h1 (Nat.le_of_ble_eq_true rfl) fun x10 => ?_
  exact last
end
theorem lo_sm {a c d e : Int} (ha : Lo60 a) (hc : Lo60 c) (hd : Lo60 d) (he : Lo60 e) {s t u v : Int} (hs : s.natAbs ≤ a.natAbs + 1) (ht : t.natAbs ≤ c.natAbs + 1) (hu : u.natAbs ≤ d.natAbs + 1) (hv : v.natAbs ≤ e.natAbs + 1) : Sm60 (s, t, u, v) := by
  have k : 9 * 10 ^ 59 + 1 < 10 ^ 60 := by decide
  unfold Lo60 at ha hc hd he
  exact ⟨by show s.natAbs < _; omega, by show t.natAbs < _; omega, by show u.natAbs < _; omega, by show v.natAbs < _; omega⟩
theorem body_c {ns : List Int} {k : Nat} {P : PJ} (hk : k < 100) (hP : ∀ S, Sh ns S → P.nx S) {cs : List Cell} {x2 x3 x4 x5 x6 x7 x8 x9 x10 : Option Sl} :
    wFgt [0, 1] 0 0 (w_law_body 0) ⟨[some (.dat (scD ns)), some (.dat (.int k)), x2, x3, x4, x5, x6, x7, x8, x9, x10], cs⟩ P := by
  have ok := feedB_ok ns k
  obtain ⟨a, c, d, e, b', ha, hc, hd, he, o1, r'⟩ := row_ex (ns := ns) (k := k) ok
  have o2 := o1.nx 4
  have s0 : 0 ≤ tk b' 4 := tk_lo (by decide)
  have s1 : tk b' 4 < 4 := tk_hi (by decide)
  have t0 : 0 ≤ tk (nx b' 4) 2 := tk_lo (by decide)
  have t1 : tk (nx b' 4) 2 < 2 := tk_hi (by decide)
  refine And.intro (Nat.le_refl _) (call_ (feed_c hk) (And.intro ⟨by decide, by decide⟩ (And.intro (show 4 < sizeLine by decide) (r' _ ?_))))
  refine call_ (take_c (by decide) (by decide) o1) (call_ (take_c (by decide) (by decide) o2) (And.intro (Dl.mul_l (by decide) (by decide)) ?_))
  have g1 : Sm60 (a, c, d, e) := lo_sm ha hc hd he (by omega) (by omega) (by omega) (by omega)
  have g3 : Sm60 (0 - a, 0 - c, 0 - d, 0 - e) := lo_sm ha hc hd he (by omega) (by omega) (by omega) (by omega)
  have g4 : Sm60 (a, c, d, 0) := lo_sm ha hc hd he (by omega) (by omega) (by omega) (by show (0 : Nat) ≤ _; omega)
  have fin : ∀ {o : Q4} {x4 x5 : Option Sl}, Sm60 o → (a, c, d, e) ≠ o → w_law_texts 0 ⟨[some (.dat (scD ns)), some (.dat (.int k)), some (.cel 0), some (.dat (rq (a, c, d, e))), x4, x5, some (.dat (rq o)), none, none, none, none], [bx (nx (nx b' 4) 2)]⟩ P := fun h2 ne => texts_c g1 h2 g3 g4 ne hP
  show wConsS (wAsg 6 (wTwo (wTwo (wSlc (wName 3) wO0 (wO1 (wName 4))) (wTup (wCons (wTwo (wTwo (wName 3) (wName 4) ixW) (wName 5) addW) wNil)) addW) (wSlc (wName 3) (wO1 (wTwo (wName 4) (wCon (.int 1)) addW)) wO0) addW)) (w_law_texts 0) ⟨[some (.dat (scD ns)), some (.dat (.int k)), some (.cel 0), some (.dat (rq (a, c, d, e))), some (.dat (.int (tk b' 4))), some (.dat (.int (1 - 2 * tk (nx b' 4) 2))), none, none, none, none, none], [bx (nx (nx b' 4) 2)]⟩ P
  generalize hs : tk b' 4 = s at s0 s1
  generalize ht : 1 - 2 * tk (nx b' 4) 2 = t
  have t1' : t = 1 ∨ t = -1 := by omega
  have es : s = 0 ∨ s = 1 ∨ s = 2 ∨ s = 3 := by omega
  have tn : ∀ x : Int, (x + t).natAbs ≤ x.natAbs + 1 ∧ x ≠ x + t := fun x => by omega
  clear hs ht
  rcases es with z | z | z | z <;> subst z
  · exact And.intro (szk 1) (And.intro (szs (Nat.le_of_ble_eq_true rfl)) (And.intro (szs (Nat.le_of_ble_eq_true rfl)) (fin (o := (a + t, c, d, e)) (lo_sm ha hc hd he (tn a).1 (by omega) (by omega) (by omega)) fun z => (tn a).2 (congrArg (·.1) z))))
  · exact And.intro (szk 1) (And.intro (szs (Nat.le_of_ble_eq_true rfl)) (And.intro (szs (Nat.le_of_ble_eq_true rfl)) (fin (o := (a, c + t, d, e)) (lo_sm ha hc hd he (by omega) (tn c).1 (by omega) (by omega)) fun z => (tn c).2 (congrArg (·.2.1) z))))
  · exact And.intro (szk 1) (And.intro (szs (Nat.le_of_ble_eq_true rfl)) (And.intro (szs (Nat.le_of_ble_eq_true rfl)) (fin (o := (a, c, d + t, e)) (lo_sm ha hc hd he (by omega) (by omega) (tn d).1 (by omega)) fun z => (tn d).2 (congrArg (·.2.2.1) z))))
  · exact And.intro (szk 1) (And.intro (szs (Nat.le_of_ble_eq_true rfl)) (And.intro (szs (Nat.le_of_ble_eq_true rfl)) (fin (o := (a, c, d, e + t)) (lo_sm ha hc hd he (by omega) (by omega) (by omega) (tn e).1) fun z => (tn e).2 (congrArg (·.2.2.2) z))))
theorem law_of (ns : List Int) (hl : ns.length ≤ 63) (hb : ∀ z ∈ ns, Builtin.Int.intBits z ≤ 1048576) : c_law [.dat (.scr (ns.map D.int))] [] (.dat (.bl true)) [] := by
  have e : ((ns.map D.int).length : Int) = ns.length := by rw [List.length_map]
  refine ⟨rfl, And.intro (show SmI (if (if ((ns.map D.int).length : Int) < 6 then ((ns.map D.int).length : Int) else 6) > 2 then (if ((ns.map D.int).length : Int) < 6 then ((ns.map D.int).length : Int) else 6) else 2) from ?_) ?_⟩
  · rw [e]
    unfold SmI
    split <;> split <;> omega
  refine forW_ind (Sh ns) _ ?_ ?_ _ ⟨_, _, _, _, _, _, _, _, _, _, _, rfl⟩
  · intro d hd S hS nx' hnx
    obtain ⟨x1, x2, x3, x4, x5, x6, x7, x8, x9, x10, cs, rfl⟩ := hS
    obtain ⟨k, hk, rfl⟩ := mem_range hd
    have hk : k < 100 := by
      have hk : k < (if (if ((ns.map D.int).length : Int) < 6 then ((ns.map D.int).length : Int) else 6) > 2 then (if ((ns.map D.int).length : Int) < 6 then ((ns.map D.int).length : Int) else 6) else 2).toNat := hk
      rw [e] at hk
      split at hk <;> split at hk <;> omega
    rw [Int.zero_add]
    exact body_c hk hnx
  · rintro S ⟨x1, x2, x3, x4, x5, x6, x7, x8, x9, x10, cs, rfl⟩
    exact And.intro rfl rfl

def tab (c_Form : Addr) : Tab := fun n => match n with | 0 => some (c_Form, (["row"] : List Str)) | _ => none
set_option maxHeartbeats 0 in
theorem all_mk {l : PySem.W.OpenLaw} {w : World} {K : PySem.W.Frag} {h : Heap} {mg : Str → Option Value} {fa : Addr} (X : K.In h) (G : h.Ns mainGlobals mg) (hfa : mg "law" = some (.ref fa))
    {c_Form : Addr}
    {a__law_feed : Addr} {oc__law_feed kV__law_feed dc__law_feed pm__law_feed cd__law_feed ct__law_feed : Value} {od__law_feed an__law_feed : Option Addr} {sl__law_feed : Array (Option Value)}
    {a__law_take : Addr} {oc__law_take kV__law_take dc__law_take pm__law_take cd__law_take ct__law_take : Value} {od__law_take an__law_take : Option Addr} {sl__law_take : Array (Option Value)}
    {a_figures : Addr} {oc_figures kV_figures dc_figures pm_figures cd_figures ct_figures : Value} {od_figures an_figures : Option Addr} {sl_figures : Array (Option Value)}
    {a_term_text : Addr} {oc_term_text kV_term_text dc_term_text pm_term_text cd_term_text ct_term_text : Value} {od_term_text an_term_text : Option Addr} {sl_term_text : Array (Option Value)}
    {a_show_form : Addr} {oc_show_form kV_show_form dc_show_form pm_show_form cd_show_form ct_show_form : Value} {od_show_form an_show_form : Option Addr} {sl_show_form : Array (Option Value)}
    {a__law_number : Addr} {oc__law_number kV__law_number dc__law_number pm__law_number cd__law_number ct__law_number : Value} {od__law_number an__law_number : Option Addr} {sl__law_number : Array (Option Value)}
    {a_is_whole : Addr} {oc_is_whole kV_is_whole dc_is_whole pm_is_whole cd_is_whole ct_is_whole : Value} {od_is_whole an_is_whole : Option Addr} {sl_is_whole : Array (Option Value)}
    {a_Form___init__ : Addr} {oc_Form___init__ dc_Form___init__ pm_Form___init__ cd_Form___init__ ct_Form___init__ : Value} {od_Form___init__ an_Form___init__ : Option Addr} {sl_Form___init__ : Array (Option Value)}
    {dT_Form___init__ : Addr} {dO_Form___init__ : Obj} {dU_Form___init__ : Value} {dN_Form___init__ : Nat}
    {kD_Form___init__ : Addr} {kU_Form___init__ kW_Form___init__ kX_Form___init__ : Value}
    {a__law_made : Addr} {oc__law_made kV__law_made dc__law_made pm__law_made cd__law_made ct__law_made : Value} {od__law_made an__law_made : Option Addr} {sl__law_made : Array (Option Value)}
    {a_Form_i : Addr} {oc_Form_i kV_Form_i dc_Form_i pm_Form_i cd_Form_i ct_Form_i : Value} {od_Form_i an_Form_i : Option Addr} {sl_Form_i : Array (Option Value)}
    {p_Form_i : Addr} {rs_Form_i : List Value}
    {a_Form_j : Addr} {oc_Form_j kV_Form_j dc_Form_j pm_Form_j cd_Form_j ct_Form_j : Value} {od_Form_j an_Form_j : Option Addr} {sl_Form_j : Array (Option Value)}
    {p_Form_j : Addr} {rs_Form_j : List Value}
    {a_Form_p : Addr} {oc_Form_p kV_Form_p dc_Form_p pm_Form_p cd_Form_p ct_Form_p : Value} {od_Form_p an_Form_p : Option Addr} {sl_Form_p : Array (Option Value)}
    {p_Form_p : Addr} {rs_Form_p : List Value}
    {a_Form_const : Addr} {oc_Form_const kV_Form_const dc_Form_const pm_Form_const cd_Form_const ct_Form_const : Value} {od_Form_const an_Form_const : Option Addr} {sl_Form_const : Array (Option Value)}
    {p_Form_const : Addr} {rs_Form_const : List Value}
    {a__law_told : Addr} {oc__law_told kV__law_told dc__law_told pm__law_told cd__law_told ct__law_told : Value} {od__law_told an__law_told : Option Addr} {sl__law_told : Array (Option Value)}
    {a__law_term : Addr} {oc__law_term kV__law_term dc__law_term pm__law_term cd__law_term ct__law_term : Value} {od__law_term an__law_term : Option Addr} {sl__law_term : Array (Option Value)}
    {a__law_shown : Addr} {oc__law_shown kV__law_shown dc__law_shown pm__law_shown cd__law_shown ct__law_shown : Value} {od__law_shown an__law_shown : Option Addr} {sl__law_shown : Array (Option Value)}
    {a_form_of : Addr} {oc_form_of kV_form_of dc_form_of pm_form_of cd_form_of ct_form_of : Value} {od_form_of an_form_of : Option Addr} {sl_form_of : Array (Option Value)}
    {a_is_figures : Addr} {oc_is_figures kV_is_figures dc_is_figures pm_is_figures cd_is_figures ct_is_figures : Value} {od_is_figures an_is_figures : Option Addr} {sl_is_figures : Array (Option Value)}
    {a_number_told : Addr} {oc_number_told kV_number_told dc_number_told pm_number_told cd_number_told ct_number_told : Value} {od_number_told an_number_told : Option Addr} {sl_number_told : Array (Option Value)}
    {a_read_term : Addr} {oc_read_term kV_read_term dc_read_term pm_read_term cd_read_term ct_read_term : Value} {od_read_term an_read_term : Option Addr} {sl_read_term : Array (Option Value)}
    {a_read_form : Addr} {oc_read_form kV_read_form dc_read_form pm_read_form cd_read_form ct_read_form : Value} {od_read_form an_read_form : Option Addr} {sl_read_form : Array (Option Value)}
    {a_law : Addr} {oc_law kV_law dc_law pm_law cd_law ct_law : Value} {od_law an_law : Option Addr} {sl_law : Array (Option Value)}
    (aC_Form : PySem.W.nsIn K mainGlobals "Form" = some (some (.ref c_Form)))
    (pg_Form : PySem.W.plainGet K c_Form Str.empty = true)
    (hd_Form : PySem.W.hasDictIn K c_Form = true)
    (po_Form : PySem.W.plainOver K c_Form = true)
    (sa_Form : PySem.W.findIn K (.ref c_Form) "__setattr__" = some (some (.builtin "object.__setattr__")))
    (ca_Form : PySem.W.findIn K (.ref c_Form) "__class__" = some (some (.builtin "object.__class__")))
    (cn_Form : PySem.W.specialIn K (.builtin "object.__class__") "__get__" = some (some (.builtin "getset_descriptor.__get__")))
    (ct_Form : PySem.W.takesIn K (.builtin "object.__class__") = some true)
    (cm_Form : PySem.W.mroIn K c_Form (.type "object") = some true)
    (mk_Form : PySem.W.makesIn K c_Form = true)
    (kc_Form : PySem.W.keepIn K (.ref c_Form) = true)
    (no_Form_row : PySem.W.findIn K (.ref c_Form) "row" = some none)
    (z_abs : PySem.W.nsIn K mainGlobals "abs" = some none)
    (z_bool : PySem.W.nsIn K mainGlobals "bool" = some none)
    (z_enumerate : PySem.W.nsIn K mainGlobals "enumerate" = some none)
    (z_int : PySem.W.nsIn K mainGlobals "int" = some none)
    (z_isinstance : PySem.W.nsIn K mainGlobals "isinstance" = some none)
    (z_len : PySem.W.nsIn K mainGlobals "len" = some none)
    (z_max : PySem.W.nsIn K mainGlobals "max" = some none)
    (z_min : PySem.W.nsIn K mainGlobals "min" = some none)
    (z_range : PySem.W.nsIn K mainGlobals "range" = some none)
    (z_str : PySem.W.nsIn K mainGlobals "str" = some none)
    (z_tuple : PySem.W.nsIn K mainGlobals "tuple" = some none)
    (z_zip : PySem.W.nsIn K mainGlobals "zip" = some none)
    (at__law_feed : PySem.W.nsIn K mainGlobals "_law_feed" = some (some (.ref a__law_feed)))
    (l__law_feed : K.lookup a__law_feed = some ⟨oc__law_feed, od__law_feed, .func (PySem.W.fnOf "_law_feed" "_law_feed" (defArgs s__law_feed) (defBody s__law_feed) (defScope s__law_feed) .none kV__law_feed dc__law_feed pm__law_feed an__law_feed cd__law_feed ct__law_feed), sl__law_feed⟩)
    (cd__law_feed_ : PySem.W.codeIn K cd__law_feed "_law_feed" = true)
    (k__law_feed : PySem.W.keepIn K (.ref a__law_feed) = true)
    (at__law_take : PySem.W.nsIn K mainGlobals "_law_take" = some (some (.ref a__law_take)))
    (l__law_take : K.lookup a__law_take = some ⟨oc__law_take, od__law_take, .func (PySem.W.fnOf "_law_take" "_law_take" (defArgs s__law_take) (defBody s__law_take) (defScope s__law_take) .none kV__law_take dc__law_take pm__law_take an__law_take cd__law_take ct__law_take), sl__law_take⟩)
    (cd__law_take_ : PySem.W.codeIn K cd__law_take "_law_take" = true)
    (k__law_take : PySem.W.keepIn K (.ref a__law_take) = true)
    (at_figures : PySem.W.nsIn K mainGlobals "figures" = some (some (.ref a_figures)))
    (l_figures : K.lookup a_figures = some ⟨oc_figures, od_figures, .func (PySem.W.fnOf "figures" "figures" (defArgs s_figures) (defBody s_figures) (defScope s_figures) .none kV_figures dc_figures pm_figures an_figures cd_figures ct_figures), sl_figures⟩)
    (cd_figures_ : PySem.W.codeIn K cd_figures "figures" = true)
    (k_figures : PySem.W.keepIn K (.ref a_figures) = true)
    (at_term_text : PySem.W.nsIn K mainGlobals "term_text" = some (some (.ref a_term_text)))
    (l_term_text : K.lookup a_term_text = some ⟨oc_term_text, od_term_text, .func (PySem.W.fnOf "term_text" "term_text" (defArgs s_term_text) (defBody s_term_text) (defScope s_term_text) .none kV_term_text dc_term_text pm_term_text an_term_text cd_term_text ct_term_text), sl_term_text⟩)
    (cd_term_text_ : PySem.W.codeIn K cd_term_text "term_text" = true)
    (k_term_text : PySem.W.keepIn K (.ref a_term_text) = true)
    (at_show_form : PySem.W.nsIn K mainGlobals "show_form" = some (some (.ref a_show_form)))
    (l_show_form : K.lookup a_show_form = some ⟨oc_show_form, od_show_form, .func (PySem.W.fnOf "show_form" "show_form" (defArgs s_show_form) (defBody s_show_form) (defScope s_show_form) .none kV_show_form dc_show_form pm_show_form an_show_form cd_show_form ct_show_form), sl_show_form⟩)
    (cd_show_form_ : PySem.W.codeIn K cd_show_form "show_form" = true)
    (k_show_form : PySem.W.keepIn K (.ref a_show_form) = true)
    (at__law_number : PySem.W.nsIn K mainGlobals "_law_number" = some (some (.ref a__law_number)))
    (l__law_number : K.lookup a__law_number = some ⟨oc__law_number, od__law_number, .func (PySem.W.fnOf "_law_number" "_law_number" (defArgs s__law_number) (defBody s__law_number) (defScope s__law_number) .none kV__law_number dc__law_number pm__law_number an__law_number cd__law_number ct__law_number), sl__law_number⟩)
    (cd__law_number_ : PySem.W.codeIn K cd__law_number "_law_number" = true)
    (k__law_number : PySem.W.keepIn K (.ref a__law_number) = true)
    (at_is_whole : PySem.W.nsIn K mainGlobals "is_whole" = some (some (.ref a_is_whole)))
    (l_is_whole : K.lookup a_is_whole = some ⟨oc_is_whole, od_is_whole, .func (PySem.W.fnOf "is_whole" "is_whole" (defArgs s_is_whole) (defBody s_is_whole) (defScope s_is_whole) .none kV_is_whole dc_is_whole pm_is_whole an_is_whole cd_is_whole ct_is_whole), sl_is_whole⟩)
    (cd_is_whole_ : PySem.W.codeIn K cd_is_whole "is_whole" = true)
    (k_is_whole : PySem.W.keepIn K (.ref a_is_whole) = true)
    (at_Form___init__ : PySem.W.findIn K (.ref c_Form) "__init__" = some (some (.ref a_Form___init__)))
    (fn_Form___init__ : PySem.W.isFn K (.ref a_Form___init__) = true)
    (l_Form___init__ : K.lookup a_Form___init__ = some ⟨oc_Form___init__, od_Form___init__, .func (PySem.W.fnOf "__init__" "Form.__init__" (defArgs s_Form___init__) (defBody s_Form___init__) (defScope s_Form___init__) (.ref dT_Form___init__) (.ref kD_Form___init__) dc_Form___init__ pm_Form___init__ an_Form___init__ cd_Form___init__ ct_Form___init__), sl_Form___init__⟩)
    (cd_Form___init___ : PySem.W.codeIn K cd_Form___init__ "Form.__init__" = true)
    (k_Form___init__ : PySem.W.keepIn K (.ref a_Form___init__) = true)
    (dl_Form___init__ : K.lookup dT_Form___init__ = some dO_Form___init__)
    (dd_Form___init__ : dO_Form___init__.data = .seq #[dU_Form___init__] dN_Form___init__)
    (dr_Form___init__ : RelV (.int 0) dU_Form___init__)
    (kUh_Form___init__ : PySem.W.nsIn K kD_Form___init__ "i" = some (some kU_Form___init__))
    (kUr_Form___init__ : RelV (.int 0) kU_Form___init__)
    (kWh_Form___init__ : PySem.W.nsIn K kD_Form___init__ "j" = some (some kW_Form___init__))
    (kWr_Form___init__ : RelV (.int 0) kW_Form___init__)
    (kXh_Form___init__ : PySem.W.nsIn K kD_Form___init__ "p" = some (some kX_Form___init__))
    (kXr_Form___init__ : RelV (.int 0) kX_Form___init__)
    (at__law_made : PySem.W.nsIn K mainGlobals "_law_made" = some (some (.ref a__law_made)))
    (l__law_made : K.lookup a__law_made = some ⟨oc__law_made, od__law_made, .func (PySem.W.fnOf "_law_made" "_law_made" (defArgs s__law_made) (defBody s__law_made) (defScope s__law_made) .none kV__law_made dc__law_made pm__law_made an__law_made cd__law_made ct__law_made), sl__law_made⟩)
    (cd__law_made_ : PySem.W.codeIn K cd__law_made "_law_made" = true)
    (k__law_made : PySem.W.keepIn K (.ref a__law_made) = true)
    (at_Form_i : PySem.W.findIn K (.ref c_Form) "i" = some (some (.ref p_Form_i)))
    (pg_Form_i : PySem.W.specialIn K (.ref p_Form_i) "__get__" = some (some (.builtin "property.__get__")))
    (pt_Form_i : PySem.W.takesIn K (.ref p_Form_i) = some true)
    (pr_Form_i : PySem.W.recIn K p_Form_i "property" = some (.ref a_Form_i :: rs_Form_i))
    (l_Form_i : K.lookup a_Form_i = some ⟨oc_Form_i, od_Form_i, .func (PySem.W.fnOf "i" "Form.i" (defArgs s_Form_i) (defBody s_Form_i) (defScope s_Form_i) .none kV_Form_i dc_Form_i pm_Form_i an_Form_i cd_Form_i ct_Form_i), sl_Form_i⟩)
    (cd_Form_i_ : PySem.W.codeIn K cd_Form_i "Form.i" = true)
    (k_Form_i : PySem.W.keepIn K (.ref a_Form_i) = true)
    (at_Form_j : PySem.W.findIn K (.ref c_Form) "j" = some (some (.ref p_Form_j)))
    (pg_Form_j : PySem.W.specialIn K (.ref p_Form_j) "__get__" = some (some (.builtin "property.__get__")))
    (pt_Form_j : PySem.W.takesIn K (.ref p_Form_j) = some true)
    (pr_Form_j : PySem.W.recIn K p_Form_j "property" = some (.ref a_Form_j :: rs_Form_j))
    (l_Form_j : K.lookup a_Form_j = some ⟨oc_Form_j, od_Form_j, .func (PySem.W.fnOf "j" "Form.j" (defArgs s_Form_j) (defBody s_Form_j) (defScope s_Form_j) .none kV_Form_j dc_Form_j pm_Form_j an_Form_j cd_Form_j ct_Form_j), sl_Form_j⟩)
    (cd_Form_j_ : PySem.W.codeIn K cd_Form_j "Form.j" = true)
    (k_Form_j : PySem.W.keepIn K (.ref a_Form_j) = true)
    (at_Form_p : PySem.W.findIn K (.ref c_Form) "p" = some (some (.ref p_Form_p)))
    (pg_Form_p : PySem.W.specialIn K (.ref p_Form_p) "__get__" = some (some (.builtin "property.__get__")))
    (pt_Form_p : PySem.W.takesIn K (.ref p_Form_p) = some true)
    (pr_Form_p : PySem.W.recIn K p_Form_p "property" = some (.ref a_Form_p :: rs_Form_p))
    (l_Form_p : K.lookup a_Form_p = some ⟨oc_Form_p, od_Form_p, .func (PySem.W.fnOf "p" "Form.p" (defArgs s_Form_p) (defBody s_Form_p) (defScope s_Form_p) .none kV_Form_p dc_Form_p pm_Form_p an_Form_p cd_Form_p ct_Form_p), sl_Form_p⟩)
    (cd_Form_p_ : PySem.W.codeIn K cd_Form_p "Form.p" = true)
    (k_Form_p : PySem.W.keepIn K (.ref a_Form_p) = true)
    (at_Form_const : PySem.W.findIn K (.ref c_Form) "const" = some (some (.ref p_Form_const)))
    (pg_Form_const : PySem.W.specialIn K (.ref p_Form_const) "__get__" = some (some (.builtin "property.__get__")))
    (pt_Form_const : PySem.W.takesIn K (.ref p_Form_const) = some true)
    (pr_Form_const : PySem.W.recIn K p_Form_const "property" = some (.ref a_Form_const :: rs_Form_const))
    (l_Form_const : K.lookup a_Form_const = some ⟨oc_Form_const, od_Form_const, .func (PySem.W.fnOf "const" "Form.const" (defArgs s_Form_const) (defBody s_Form_const) (defScope s_Form_const) .none kV_Form_const dc_Form_const pm_Form_const an_Form_const cd_Form_const ct_Form_const), sl_Form_const⟩)
    (cd_Form_const_ : PySem.W.codeIn K cd_Form_const "Form.const" = true)
    (k_Form_const : PySem.W.keepIn K (.ref a_Form_const) = true)
    (at__law_told : PySem.W.nsIn K mainGlobals "_law_told" = some (some (.ref a__law_told)))
    (l__law_told : K.lookup a__law_told = some ⟨oc__law_told, od__law_told, .func (PySem.W.fnOf "_law_told" "_law_told" (defArgs s__law_told) (defBody s__law_told) (defScope s__law_told) .none kV__law_told dc__law_told pm__law_told an__law_told cd__law_told ct__law_told), sl__law_told⟩)
    (cd__law_told_ : PySem.W.codeIn K cd__law_told "_law_told" = true)
    (k__law_told : PySem.W.keepIn K (.ref a__law_told) = true)
    (at__law_term : PySem.W.nsIn K mainGlobals "_law_term" = some (some (.ref a__law_term)))
    (l__law_term : K.lookup a__law_term = some ⟨oc__law_term, od__law_term, .func (PySem.W.fnOf "_law_term" "_law_term" (defArgs s__law_term) (defBody s__law_term) (defScope s__law_term) .none kV__law_term dc__law_term pm__law_term an__law_term cd__law_term ct__law_term), sl__law_term⟩)
    (cd__law_term_ : PySem.W.codeIn K cd__law_term "_law_term" = true)
    (k__law_term : PySem.W.keepIn K (.ref a__law_term) = true)
    (at__law_shown : PySem.W.nsIn K mainGlobals "_law_shown" = some (some (.ref a__law_shown)))
    (l__law_shown : K.lookup a__law_shown = some ⟨oc__law_shown, od__law_shown, .func (PySem.W.fnOf "_law_shown" "_law_shown" (defArgs s__law_shown) (defBody s__law_shown) (defScope s__law_shown) .none kV__law_shown dc__law_shown pm__law_shown an__law_shown cd__law_shown ct__law_shown), sl__law_shown⟩)
    (cd__law_shown_ : PySem.W.codeIn K cd__law_shown "_law_shown" = true)
    (k__law_shown : PySem.W.keepIn K (.ref a__law_shown) = true)
    (at_form_of : PySem.W.nsIn K mainGlobals "form_of" = some (some (.ref a_form_of)))
    (l_form_of : K.lookup a_form_of = some ⟨oc_form_of, od_form_of, .func (PySem.W.fnOf "form_of" "form_of" (defArgs s_form_of) (defBody s_form_of) (defScope s_form_of) .none kV_form_of dc_form_of pm_form_of an_form_of cd_form_of ct_form_of), sl_form_of⟩)
    (cd_form_of_ : PySem.W.codeIn K cd_form_of "form_of" = true)
    (k_form_of : PySem.W.keepIn K (.ref a_form_of) = true)
    (at_is_figures : PySem.W.nsIn K mainGlobals "is_figures" = some (some (.ref a_is_figures)))
    (l_is_figures : K.lookup a_is_figures = some ⟨oc_is_figures, od_is_figures, .func (PySem.W.fnOf "is_figures" "is_figures" (defArgs s_is_figures) (defBody s_is_figures) (defScope s_is_figures) .none kV_is_figures dc_is_figures pm_is_figures an_is_figures cd_is_figures ct_is_figures), sl_is_figures⟩)
    (cd_is_figures_ : PySem.W.codeIn K cd_is_figures "is_figures" = true)
    (k_is_figures : PySem.W.keepIn K (.ref a_is_figures) = true)
    (at_number_told : PySem.W.nsIn K mainGlobals "number_told" = some (some (.ref a_number_told)))
    (l_number_told : K.lookup a_number_told = some ⟨oc_number_told, od_number_told, .func (PySem.W.fnOf "number_told" "number_told" (defArgs s_number_told) (defBody s_number_told) (defScope s_number_told) .none kV_number_told dc_number_told pm_number_told an_number_told cd_number_told ct_number_told), sl_number_told⟩)
    (cd_number_told_ : PySem.W.codeIn K cd_number_told "number_told" = true)
    (k_number_told : PySem.W.keepIn K (.ref a_number_told) = true)
    (at_read_term : PySem.W.nsIn K mainGlobals "read_term" = some (some (.ref a_read_term)))
    (l_read_term : K.lookup a_read_term = some ⟨oc_read_term, od_read_term, .func (PySem.W.fnOf "read_term" "read_term" (defArgs s_read_term) (defBody s_read_term) (defScope s_read_term) .none kV_read_term dc_read_term pm_read_term an_read_term cd_read_term ct_read_term), sl_read_term⟩)
    (cd_read_term_ : PySem.W.codeIn K cd_read_term "read_term" = true)
    (k_read_term : PySem.W.keepIn K (.ref a_read_term) = true)
    (at_read_form : PySem.W.nsIn K mainGlobals "read_form" = some (some (.ref a_read_form)))
    (l_read_form : K.lookup a_read_form = some ⟨oc_read_form, od_read_form, .func (PySem.W.fnOf "read_form" "read_form" (defArgs s_read_form) (defBody s_read_form) (defScope s_read_form) .none kV_read_form dc_read_form pm_read_form an_read_form cd_read_form ct_read_form), sl_read_form⟩)
    (cd_read_form_ : PySem.W.codeIn K cd_read_form "read_form" = true)
    (k_read_form : PySem.W.keepIn K (.ref a_read_form) = true)
    (at_law : PySem.W.nsIn K mainGlobals "law" = some (some (.ref a_law)))
    (l_law : K.lookup a_law = some ⟨oc_law, od_law, .func (PySem.W.fnOf "law" "law" (defArgs s_law) (defBody s_law) (defScope s_law) .none kV_law dc_law pm_law an_law cd_law ct_law), sl_law⟩)
    (cd_law_ : PySem.W.codeIn K cd_law "law" = true)
    (k_law : PySem.W.keepIn K (.ref a_law) = true)
    (su_Form_bool : PySem.W.subIn K (.ref c_Form) (.type "bool") = some false)
    (su_Form_int : PySem.W.subIn K (.ref c_Form) (.type "int") = some false)
    (su_Form_str : PySem.W.subIn K (.ref c_Form) (.type "str") = some false)
    : ∃ fd : FuncData, (∀ (s : Shared) (v : Value), BindsTo s fd ⟨[v], []⟩ [("_law_script", v)]) ∧ ∀ base : Heap, K.In base → base.Ns mainGlobals mg → FnOk l.prog w K mg base CX0 6 fa fd ["_law_script"] (spL K) := by
  have e : a_law = fa := by
    have e := (PySem.W.mg_of X G at_law).symm.trans hfa
    cases e
    rfl
  subst e
  let t : Tx (tab c_Form) K mg := {
    c_Form := c_Form,
    T_Form := rfl,
    cl_Form := ⟨pg_Form, hd_Form, po_Form, sa_Form⟩,
    i_Form := ⟨⟨pg_Form, hd_Form, po_Form, sa_Form⟩, ca_Form, cn_Form, ct_Form, cm_Form⟩,
    m_Form := PySem.W.mg_of X G aC_Form,
    no_Form_row := no_Form_row,
    z_abs := PySem.W.mg_none_of X G z_abs,
    z_bool := PySem.W.mg_none_of X G z_bool,
    z_enumerate := PySem.W.mg_none_of X G z_enumerate,
    z_int := PySem.W.mg_none_of X G z_int,
    z_isinstance := PySem.W.mg_none_of X G z_isinstance,
    z_len := PySem.W.mg_none_of X G z_len,
    z_max := PySem.W.mg_none_of X G z_max,
    z_min := PySem.W.mg_none_of X G z_min,
    z_range := PySem.W.mg_none_of X G z_range,
    z_str := PySem.W.mg_none_of X G z_str,
    z_tuple := PySem.W.mg_none_of X G z_tuple,
    z_zip := PySem.W.mg_none_of X G z_zip,
    a__law_feed := a__law_feed,
    fd__law_feed := PySem.W.fnOf "_law_feed" "_law_feed" (defArgs s__law_feed) (defBody s__law_feed) (defScope s__law_feed) .none kV__law_feed dc__law_feed pm__law_feed an__law_feed cd__law_feed ct__law_feed,
    F__law_feed := fun_mk (st := s__law_feed) l__law_feed cd__law_feed_ k__law_feed,
    b__law_feed := (fun_mk (st := s__law_feed) l__law_feed cd__law_feed_ k__law_feed).binds (ps := ["_law_script", "_law_k"]) fun _ _ _ _ _ _ us hl => match us, hl with | [_, _], _ => rfl,
    m__law_feed := PySem.W.mg_of X G at__law_feed,
    a__law_take := a__law_take,
    fd__law_take := PySem.W.fnOf "_law_take" "_law_take" (defArgs s__law_take) (defBody s__law_take) (defScope s__law_take) .none kV__law_take dc__law_take pm__law_take an__law_take cd__law_take ct__law_take,
    F__law_take := fun_mk (st := s__law_take) l__law_take cd__law_take_ k__law_take,
    b__law_take := (fun_mk (st := s__law_take) l__law_take cd__law_take_ k__law_take).binds (ps := ["_law_box", "_law_many"]) fun _ _ _ _ _ _ us hl => match us, hl with | [_, _], _ => rfl,
    m__law_take := PySem.W.mg_of X G at__law_take,
    a_figures := a_figures,
    fd_figures := PySem.W.fnOf "figures" "figures" (defArgs s_figures) (defBody s_figures) (defScope s_figures) .none kV_figures dc_figures pm_figures an_figures cd_figures ct_figures,
    F_figures := fun_mk (st := s_figures) l_figures cd_figures_ k_figures,
    b_figures := (fun_mk (st := s_figures) l_figures cd_figures_ k_figures).binds (ps := ["number"]) fun _ _ _ _ _ _ us hl => match us, hl with | [_], _ => rfl,
    m_figures := PySem.W.mg_of X G at_figures,
    a_term_text := a_term_text,
    fd_term_text := PySem.W.fnOf "term_text" "term_text" (defArgs s_term_text) (defBody s_term_text) (defScope s_term_text) .none kV_term_text dc_term_text pm_term_text an_term_text cd_term_text ct_term_text,
    F_term_text := fun_mk (st := s_term_text) l_term_text cd_term_text_ k_term_text,
    b_term_text := (fun_mk (st := s_term_text) l_term_text cd_term_text_ k_term_text).binds (ps := ["number", "word"]) fun _ _ _ _ _ _ us hl => match us, hl with | [_, _], _ => rfl,
    m_term_text := PySem.W.mg_of X G at_term_text,
    a_show_form := a_show_form,
    fd_show_form := PySem.W.fnOf "show_form" "show_form" (defArgs s_show_form) (defBody s_show_form) (defScope s_show_form) .none kV_show_form dc_show_form pm_show_form an_show_form cd_show_form ct_show_form,
    F_show_form := fun_mk (st := s_show_form) l_show_form cd_show_form_ k_show_form,
    b_show_form := (fun_mk (st := s_show_form) l_show_form cd_show_form_ k_show_form).binds (ps := ["form"]) fun _ _ _ _ _ _ us hl => match us, hl with | [_], _ => rfl,
    m_show_form := PySem.W.mg_of X G at_show_form,
    a__law_number := a__law_number,
    fd__law_number := PySem.W.fnOf "_law_number" "_law_number" (defArgs s__law_number) (defBody s__law_number) (defScope s__law_number) .none kV__law_number dc__law_number pm__law_number an__law_number cd__law_number ct__law_number,
    F__law_number := fun_mk (st := s__law_number) l__law_number cd__law_number_ k__law_number,
    b__law_number := (fun_mk (st := s__law_number) l__law_number cd__law_number_ k__law_number).binds (ps := ["_law_box"]) fun _ _ _ _ _ _ us hl => match us, hl with | [_], _ => rfl,
    m__law_number := PySem.W.mg_of X G at__law_number,
    a_is_whole := a_is_whole,
    fd_is_whole := PySem.W.fnOf "is_whole" "is_whole" (defArgs s_is_whole) (defBody s_is_whole) (defScope s_is_whole) .none kV_is_whole dc_is_whole pm_is_whole an_is_whole cd_is_whole ct_is_whole,
    F_is_whole := fun_mk (st := s_is_whole) l_is_whole cd_is_whole_ k_is_whole,
    b_is_whole := (fun_mk (st := s_is_whole) l_is_whole cd_is_whole_ k_is_whole).binds (ps := ["value"]) fun _ _ _ _ _ _ us hl => match us, hl with | [_], _ => rfl,
    m_is_whole := PySem.W.mg_of X G at_is_whole,
    a_Form___init__ := a_Form___init__,
    fd_Form___init__ := PySem.W.fnOf "__init__" "Form.__init__" (defArgs s_Form___init__) (defBody s_Form___init__) (defScope s_Form___init__) (.ref dT_Form___init__) (.ref kD_Form___init__) dc_Form___init__ pm_Form___init__ an_Form___init__ cd_Form___init__ ct_Form___init__,
    F_Form___init__ := fd_mk (st := s_Form___init__) l_Form___init__ cd_Form___init___ k_Form___init__ (dfl1 dl_Form___init__ dd_Form___init__ dr_Form___init__) (kwd3 kUh_Form___init__ kWh_Form___init__ kXh_Form___init__ kUr_Form___init__ kWr_Form___init__ kXr_Form___init__),
    K_Form := ⟨mk_Form, at_Form___init__, fn_Form___init__, kc_Form⟩,
    a__law_made := a__law_made,
    fd__law_made := PySem.W.fnOf "_law_made" "_law_made" (defArgs s__law_made) (defBody s__law_made) (defScope s__law_made) .none kV__law_made dc__law_made pm__law_made an__law_made cd__law_made ct__law_made,
    F__law_made := fun_mk (st := s__law_made) l__law_made cd__law_made_ k__law_made,
    b__law_made := (fun_mk (st := s__law_made) l__law_made cd__law_made_ k__law_made).binds (ps := ["_law_row"]) fun _ _ _ _ _ _ us hl => match us, hl with | [_], _ => rfl,
    m__law_made := PySem.W.mg_of X G at__law_made,
    a_Form_i := a_Form_i,
    fd_Form_i := PySem.W.fnOf "i" "Form.i" (defArgs s_Form_i) (defBody s_Form_i) (defScope s_Form_i) .none kV_Form_i dc_Form_i pm_Form_i an_Form_i cd_Form_i ct_Form_i,
    F_Form_i := fun_mk (st := s_Form_i) l_Form_i cd_Form_i_ k_Form_i,
    b_Form_i := (fun_mk (st := s_Form_i) l_Form_i cd_Form_i_ k_Form_i).binds (ps := ["self"]) fun _ _ _ _ _ _ us hl => match us, hl with | [_], _ => rfl,
    p_Form_i := p_Form_i,
    P_Form_i := ⟨at_Form_i, pg_Form_i, pt_Form_i, _, pr_Form_i⟩,
    a_Form_j := a_Form_j,
    fd_Form_j := PySem.W.fnOf "j" "Form.j" (defArgs s_Form_j) (defBody s_Form_j) (defScope s_Form_j) .none kV_Form_j dc_Form_j pm_Form_j an_Form_j cd_Form_j ct_Form_j,
    F_Form_j := fun_mk (st := s_Form_j) l_Form_j cd_Form_j_ k_Form_j,
    b_Form_j := (fun_mk (st := s_Form_j) l_Form_j cd_Form_j_ k_Form_j).binds (ps := ["self"]) fun _ _ _ _ _ _ us hl => match us, hl with | [_], _ => rfl,
    p_Form_j := p_Form_j,
    P_Form_j := ⟨at_Form_j, pg_Form_j, pt_Form_j, _, pr_Form_j⟩,
    a_Form_p := a_Form_p,
    fd_Form_p := PySem.W.fnOf "p" "Form.p" (defArgs s_Form_p) (defBody s_Form_p) (defScope s_Form_p) .none kV_Form_p dc_Form_p pm_Form_p an_Form_p cd_Form_p ct_Form_p,
    F_Form_p := fun_mk (st := s_Form_p) l_Form_p cd_Form_p_ k_Form_p,
    b_Form_p := (fun_mk (st := s_Form_p) l_Form_p cd_Form_p_ k_Form_p).binds (ps := ["self"]) fun _ _ _ _ _ _ us hl => match us, hl with | [_], _ => rfl,
    p_Form_p := p_Form_p,
    P_Form_p := ⟨at_Form_p, pg_Form_p, pt_Form_p, _, pr_Form_p⟩,
    a_Form_const := a_Form_const,
    fd_Form_const := PySem.W.fnOf "const" "Form.const" (defArgs s_Form_const) (defBody s_Form_const) (defScope s_Form_const) .none kV_Form_const dc_Form_const pm_Form_const an_Form_const cd_Form_const ct_Form_const,
    F_Form_const := fun_mk (st := s_Form_const) l_Form_const cd_Form_const_ k_Form_const,
    b_Form_const := (fun_mk (st := s_Form_const) l_Form_const cd_Form_const_ k_Form_const).binds (ps := ["self"]) fun _ _ _ _ _ _ us hl => match us, hl with | [_], _ => rfl,
    p_Form_const := p_Form_const,
    P_Form_const := ⟨at_Form_const, pg_Form_const, pt_Form_const, _, pr_Form_const⟩,
    a__law_told := a__law_told,
    fd__law_told := PySem.W.fnOf "_law_told" "_law_told" (defArgs s__law_told) (defBody s__law_told) (defScope s__law_told) .none kV__law_told dc__law_told pm__law_told an__law_told cd__law_told ct__law_told,
    F__law_told := fun_mk (st := s__law_told) l__law_told cd__law_told_ k__law_told,
    b__law_told := (fun_mk (st := s__law_told) l__law_told cd__law_told_ k__law_told).binds (ps := ["_law_form"]) fun _ _ _ _ _ _ us hl => match us, hl with | [_], _ => rfl,
    m__law_told := PySem.W.mg_of X G at__law_told,
    a__law_term := a__law_term,
    fd__law_term := PySem.W.fnOf "_law_term" "_law_term" (defArgs s__law_term) (defBody s__law_term) (defScope s__law_term) .none kV__law_term dc__law_term pm__law_term an__law_term cd__law_term ct__law_term,
    F__law_term := fun_mk (st := s__law_term) l__law_term cd__law_term_ k__law_term,
    b__law_term := (fun_mk (st := s__law_term) l__law_term cd__law_term_ k__law_term).binds (ps := ["_law_number_here", "_law_word"]) fun _ _ _ _ _ _ us hl => match us, hl with | [_, _], _ => rfl,
    m__law_term := PySem.W.mg_of X G at__law_term,
    a__law_shown := a__law_shown,
    fd__law_shown := PySem.W.fnOf "_law_shown" "_law_shown" (defArgs s__law_shown) (defBody s__law_shown) (defScope s__law_shown) .none kV__law_shown dc__law_shown pm__law_shown an__law_shown cd__law_shown ct__law_shown,
    F__law_shown := fun_mk (st := s__law_shown) l__law_shown cd__law_shown_ k__law_shown,
    b__law_shown := (fun_mk (st := s__law_shown) l__law_shown cd__law_shown_ k__law_shown).binds (ps := ["_law_row"]) fun _ _ _ _ _ _ us hl => match us, hl with | [_], _ => rfl,
    m__law_shown := PySem.W.mg_of X G at__law_shown,
    a_form_of := a_form_of,
    fd_form_of := PySem.W.fnOf "form_of" "form_of" (defArgs s_form_of) (defBody s_form_of) (defScope s_form_of) .none kV_form_of dc_form_of pm_form_of an_form_of cd_form_of ct_form_of,
    F_form_of := fun_mk (st := s_form_of) l_form_of cd_form_of_ k_form_of,
    b_form_of := (fun_mk (st := s_form_of) l_form_of cd_form_of_ k_form_of).binds (ps := ["row"]) fun _ _ _ _ _ _ us hl => match us, hl with | [_], _ => rfl,
    m_form_of := PySem.W.mg_of X G at_form_of,
    a_is_figures := a_is_figures,
    fd_is_figures := PySem.W.fnOf "is_figures" "is_figures" (defArgs s_is_figures) (defBody s_is_figures) (defScope s_is_figures) .none kV_is_figures dc_is_figures pm_is_figures an_is_figures cd_is_figures ct_is_figures,
    F_is_figures := fun_mk (st := s_is_figures) l_is_figures cd_is_figures_ k_is_figures,
    b_is_figures := (fun_mk (st := s_is_figures) l_is_figures cd_is_figures_ k_is_figures).binds (ps := ["text"]) fun _ _ _ _ _ _ us hl => match us, hl with | [_], _ => rfl,
    m_is_figures := PySem.W.mg_of X G at_is_figures,
    a_number_told := a_number_told,
    fd_number_told := PySem.W.fnOf "number_told" "number_told" (defArgs s_number_told) (defBody s_number_told) (defScope s_number_told) .none kV_number_told dc_number_told pm_number_told an_number_told cd_number_told ct_number_told,
    F_number_told := fun_mk (st := s_number_told) l_number_told cd_number_told_ k_number_told,
    b_number_told := (fun_mk (st := s_number_told) l_number_told cd_number_told_ k_number_told).binds (ps := ["text"]) fun _ _ _ _ _ _ us hl => match us, hl with | [_], _ => rfl,
    m_number_told := PySem.W.mg_of X G at_number_told,
    a_read_term := a_read_term,
    fd_read_term := PySem.W.fnOf "read_term" "read_term" (defArgs s_read_term) (defBody s_read_term) (defScope s_read_term) .none kV_read_term dc_read_term pm_read_term an_read_term cd_read_term ct_read_term,
    F_read_term := fun_mk (st := s_read_term) l_read_term cd_read_term_ k_read_term,
    b_read_term := (fun_mk (st := s_read_term) l_read_term cd_read_term_ k_read_term).binds (ps := ["text"]) fun _ _ _ _ _ _ us hl => match us, hl with | [_], _ => rfl,
    m_read_term := PySem.W.mg_of X G at_read_term,
    a_read_form := a_read_form,
    fd_read_form := PySem.W.fnOf "read_form" "read_form" (defArgs s_read_form) (defBody s_read_form) (defScope s_read_form) .none kV_read_form dc_read_form pm_read_form an_read_form cd_read_form ct_read_form,
    F_read_form := fun_mk (st := s_read_form) l_read_form cd_read_form_ k_read_form,
    b_read_form := (fun_mk (st := s_read_form) l_read_form cd_read_form_ k_read_form).binds (ps := ["text"]) fun _ _ _ _ _ _ us hl => match us, hl with | [_], _ => rfl,
    m_read_form := PySem.W.mg_of X G at_read_form,
    a_law := a_law,
    fd_law := PySem.W.fnOf "law" "law" (defArgs s_law) (defBody s_law) (defScope s_law) .none kV_law dc_law pm_law an_law cd_law ct_law,
    F_law := fun_mk (st := s_law) l_law cd_law_ k_law,
    b_law := (fun_mk (st := s_law) l_law cd_law_ k_law).binds (ps := ["_law_script"]) fun _ _ _ _ _ _ us hl => match us, hl with | [_], _ => rfl,
    m_law := PySem.W.mg_of X G at_law,
    su_Form_bool := su_Form_bool,
    su_Form_int := su_Form_int,
    su_Form_str := su_Form_str }
  exact ⟨PySem.W.fnOf "law" "law" (defArgs s_law) (defBody s_law) (defScope s_law) .none kV_law dc_law pm_law an_law cd_law ct_law, fun s v => .of_eq rfl, fun base _ _ => (Tx.ok_law t).imp fun vs H Q E q => spL_to (T := (tab c_Form)) law_of q⟩
end K
open PySem PySem.W PyProof.Rows in
set_option maxRecDepth 100000 in
set_option maxHeartbeats 0 in
theorem PySem.Challenge.cw_clashcounts_k05_texts_of_forms_holds : PySem.Challenge.rw_clashcounts_k05_texts_of_forms.Holds := by
  w_on; o_law; k_head; (case hw => w_witness2)
  k_fill
  refine L2.walk_ofB (l := PySem.Challenge.rw_clashcounts_k05_texts_of_forms) (n := 63) (k := 6) (x := "_law_script") (CX := fun _ => L2.CX0) (sp := fun w => Dl.spL _) rfl (by decide) rfl ⟨rfl, by decide, by decide⟩ (fun w h Y => PySem.W.kIn_of Y) ?F (fun _ H a ns hl hb hO hS => Dl.spL_of H a ns hl hb hO hS) (fun _ _ _ _ _ h => h)
  case F =>
    intro w mg fa h KX G hmg
    refine' K.all_mk KX G hmg ?aC_Form ?pg_Form ?hd_Form ?po_Form ?sa_Form ?ca_Form ?cn_Form ?ct_Form ?cm_Form ?mk_Form ?kc_Form ?no_Form_row ?z_abs ?z_bool ?z_enumerate ?z_int ?z_isinstance ?z_len ?z_max ?z_min ?z_range ?z_str ?z_tuple ?z_zip ?at__law_feed ?l__law_feed ?cd__law_feed_ ?k__law_feed ?at__law_take ?l__law_take ?cd__law_take_ ?k__law_take ?at_figures ?l_figures ?cd_figures_ ?k_figures ?at_term_text ?l_term_text ?cd_term_text_ ?k_term_text ?at_show_form ?l_show_form ?cd_show_form_ ?k_show_form ?at__law_number ?l__law_number ?cd__law_number_ ?k__law_number ?at_is_whole ?l_is_whole ?cd_is_whole_ ?k_is_whole ?at_Form___init__ ?fn_Form___init__ ?l_Form___init__ ?cd_Form___init___ ?k_Form___init__ ?dl_Form___init__ ?dd_Form___init__ ?dr_Form___init__ ?kUh_Form___init__ ?kUr_Form___init__ ?kWh_Form___init__ ?kWr_Form___init__ ?kXh_Form___init__ ?kXr_Form___init__ ?at__law_made ?l__law_made ?cd__law_made_ ?k__law_made ?at_Form_i ?pg_Form_i ?pt_Form_i ?pr_Form_i ?l_Form_i ?cd_Form_i_ ?k_Form_i ?at_Form_j ?pg_Form_j ?pt_Form_j ?pr_Form_j ?l_Form_j ?cd_Form_j_ ?k_Form_j ?at_Form_p ?pg_Form_p ?pt_Form_p ?pr_Form_p ?l_Form_p ?cd_Form_p_ ?k_Form_p ?at_Form_const ?pg_Form_const ?pt_Form_const ?pr_Form_const ?l_Form_const ?cd_Form_const_ ?k_Form_const ?at__law_told ?l__law_told ?cd__law_told_ ?k__law_told ?at__law_term ?l__law_term ?cd__law_term_ ?k__law_term ?at__law_shown ?l__law_shown ?cd__law_shown_ ?k__law_shown ?at_form_of ?l_form_of ?cd_form_of_ ?k_form_of ?at_is_figures ?l_is_figures ?cd_is_figures_ ?k_is_figures ?at_number_told ?l_number_told ?cd_number_told_ ?k_number_told ?at_read_term ?l_read_term ?cd_read_term_ ?k_read_term ?at_read_form ?l_read_form ?cd_read_form_ ?k_read_form ?at_law ?l_law ?cd_law_ ?k_law ?su_Form_bool ?su_Form_int ?su_Form_str
    (case aC_Form => k_is)
    (case pg_Form => k_is)
    (case hd_Form => k_is)
    (case po_Form => k_is)
    (case sa_Form => k_is)
    (case ca_Form => k_is)
    (case cn_Form => k_is)
    (case ct_Form => k_is)
    (case cm_Form => k_is)
    (case mk_Form => k_is)
    (case kc_Form => k_is)
    (case no_Form_row => k_is)
    (case z_abs => k_is)
    (case z_bool => k_is)
    (case z_enumerate => k_is)
    (case z_int => k_is)
    (case z_isinstance => k_is)
    (case z_len => k_is)
    (case z_max => k_is)
    (case z_min => k_is)
    (case z_range => k_is)
    (case z_str => k_is)
    (case z_tuple => k_is)
    (case z_zip => k_is)
    (case at__law_feed => k_is)
    (case l__law_feed => k_is)
    (case cd__law_feed_ => k_is)
    (case k__law_feed => k_is)
    (case at__law_take => k_is)
    (case l__law_take => k_is)
    (case cd__law_take_ => k_is)
    (case k__law_take => k_is)
    (case at_figures => k_is)
    (case l_figures => k_is)
    (case cd_figures_ => k_is)
    (case k_figures => k_is)
    (case at_term_text => k_is)
    (case l_term_text => k_is)
    (case cd_term_text_ => k_is)
    (case k_term_text => k_is)
    (case at_show_form => k_is)
    (case l_show_form => k_is)
    (case cd_show_form_ => k_is)
    (case k_show_form => k_is)
    (case at__law_number => k_is)
    (case l__law_number => k_is)
    (case cd__law_number_ => k_is)
    (case k__law_number => k_is)
    (case at_is_whole => k_is)
    (case l_is_whole => k_is)
    (case cd_is_whole_ => k_is)
    (case k_is_whole => k_is)
    (case at_Form___init__ => k_is)
    (case fn_Form___init__ => k_is)
    (case l_Form___init__ => k_is)
    (case cd_Form___init___ => k_is)
    (case k_Form___init__ => k_is)
    (case dl_Form___init__ => k_is)
    (case dd_Form___init__ => rfl)
    (case dr_Form___init__ => first | rfl | exact ⟨_, rfl⟩)
    (case kUh_Form___init__ => k_is)
    (case kUr_Form___init__ => first | rfl | exact ⟨_, rfl⟩)
    (case kWh_Form___init__ => k_is)
    (case kWr_Form___init__ => first | rfl | exact ⟨_, rfl⟩)
    (case kXh_Form___init__ => k_is)
    (case kXr_Form___init__ => first | rfl | exact ⟨_, rfl⟩)
    (case at__law_made => k_is)
    (case l__law_made => k_is)
    (case cd__law_made_ => k_is)
    (case k__law_made => k_is)
    (case at_Form_i => k_is)
    (case pg_Form_i => k_is)
    (case pt_Form_i => k_is)
    (case pr_Form_i => k_is)
    (case l_Form_i => k_is)
    (case cd_Form_i_ => k_is)
    (case k_Form_i => k_is)
    (case at_Form_j => k_is)
    (case pg_Form_j => k_is)
    (case pt_Form_j => k_is)
    (case pr_Form_j => k_is)
    (case l_Form_j => k_is)
    (case cd_Form_j_ => k_is)
    (case k_Form_j => k_is)
    (case at_Form_p => k_is)
    (case pg_Form_p => k_is)
    (case pt_Form_p => k_is)
    (case pr_Form_p => k_is)
    (case l_Form_p => k_is)
    (case cd_Form_p_ => k_is)
    (case k_Form_p => k_is)
    (case at_Form_const => k_is)
    (case pg_Form_const => k_is)
    (case pt_Form_const => k_is)
    (case pr_Form_const => k_is)
    (case l_Form_const => k_is)
    (case cd_Form_const_ => k_is)
    (case k_Form_const => k_is)
    (case at__law_told => k_is)
    (case l__law_told => k_is)
    (case cd__law_told_ => k_is)
    (case k__law_told => k_is)
    (case at__law_term => k_is)
    (case l__law_term => k_is)
    (case cd__law_term_ => k_is)
    (case k__law_term => k_is)
    (case at__law_shown => k_is)
    (case l__law_shown => k_is)
    (case cd__law_shown_ => k_is)
    (case k__law_shown => k_is)
    (case at_form_of => k_is)
    (case l_form_of => k_is)
    (case cd_form_of_ => k_is)
    (case k_form_of => k_is)
    (case at_is_figures => k_is)
    (case l_is_figures => k_is)
    (case cd_is_figures_ => k_is)
    (case k_is_figures => k_is)
    (case at_number_told => k_is)
    (case l_number_told => k_is)
    (case cd_number_told_ => k_is)
    (case k_number_told => k_is)
    (case at_read_term => k_is)
    (case l_read_term => k_is)
    (case cd_read_term_ => k_is)
    (case k_read_term => k_is)
    (case at_read_form => k_is)
    (case l_read_form => k_is)
    (case cd_read_form_ => k_is)
    (case k_read_form => k_is)
    (case at_law => k_is)
    (case l_law => k_is)
    (case cd_law_ => k_is)
    (case k_law => k_is)
    (case su_Form_bool => k_is)
    (case su_Form_int => k_is)
    (case su_Form_str => k_is)
