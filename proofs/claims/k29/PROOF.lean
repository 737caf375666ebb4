import PyProof.Rows.All
import Wide.All
import OpenK.AllK
import Wide.FinOn
import HandS.ForMost
import HandS.Wide
import HandS.EndBits
import HandS.Zip
import HandS.IsInst
import HandS.Defaults
import HandS.MakeKwOnly
import HandS.Property
import HandS.OwnEq
import HandS.Exc
import HandS.WordsExc
import HandS.TupAny
import HandS.Flow
import HandS.Style
import KE.KOpsOwn
import KE.GoesEnum
import HandS.NoneIn
import HandS.ExcInit
import HandS.ExcIs
import HandS.ExcField
import HandS.TryMany
import HandS.ExcOwn
import HandS.Text
import PyProof.StrOps2
import HandS.Iter
import HandS.TupMul
import HandS.RaiseMore
import KE.GoesMore
import HandS.TupLe
import HandS.More
import OpenK.KMeth
import OpenK.KOps
import KE.KCallOwn
import HandS.Conv
import HandS.MakeKw
import PyProof.Rows.Range3
import HandS.Dict
import HandS.Small
import HandS.DictComp
import HandS.SortInts
import PySem.Challenge.RW_clashcounts_k29_sizes_refused
set_option Elab.async false
set_option linter.all false
set_option maxRecDepth 100000
set_option maxHeartbeats 1000000
/-! Dl: data on top of the hand layer. D: a value as data; Rep: a value stands for data; Sta: slots and cells as data; DE: an expression evaluates to; DS: a statement. -/
namespace Dl
open PySem L2

/-- data -/
inductive D where
  | non | bl (b : Bool) | int (i : Int) | str (x : Str) | tup (xs : List D) | lst (xs : List D) | obj (n : Nat) (xs : List D) | scr (xs : List D)
  /-- a caught error: its class, where it stands, its dict, its attributes -/
  | err (n : Nat) (a : Addr) (dd : Option Addr) (xs : List D)
  /-- a class -/
  | cls (C : Addr)
  /-- a dict that is only read: its keys, its values -/
  | dct (ks : List Key) (xs : List D)

/-- the classes: where they stand, the names of their attributes in the order of their making -/
abbrev Tab := Nat → Option (Addr × List Str)

def TAt (K : PySem.W.Frag) (M : Addr → Prop) (H : Hp) (a : Addr) (vs : List V) : Prop := (¬ M a ∧ Rd H a (.tup vs)) ∨ SqT K (fun _ => none) a vs
/-- a list that is only read: the script -/
def LAt (K : PySem.W.Frag) (M : Addr → Prop) (H : Hp) (a : Addr) (vs : List V) : Prop := (¬ M a ∧ ∃ o, H a = some (.frz o (.lst vs))) ∨ SqL K (fun _ => none) a vs

/-- an error's dict -/
def XAt (M : Addr → Prop) (H : Hp) (dd : Option Addr) (fn : List Str) (vs : List V) : Prop := (fn = [] ∧ vs = [] ∧ dd = none) ∨ ∃ d, dd = some d ∧ ¬ M d ∧ H d = some (.xd (fn.zip vs)) ∧ vs.length = fn.length

mutual
inductive Rep (T : Tab) (K : PySem.W.Frag) (M : Addr → Prop) (H : Hp) : V → D → Prop
  | non : Rep T K M H .non .non
  | bl {b : Bool} : Rep T K M H (.bl b) (.bl b)
  | int {i : Int} : Rep T K M H (.int i) (.int i)
  | str {x : Str} : Rep T K M H (.str x) (.str x)
  | tup {a : Addr} {vs : List V} {ds : List D} : TAt K M H a vs → Reps T K M H vs ds → Rep T K M H (.ref a) (.tup ds)
  | lst {a : Addr} {vs : List V} {ds : List D} : ¬ M a → H a = some (.lst vs) → Reps T K M H vs ds → Rep T K M H (.ref a) (.lst ds)
  | scr {a : Addr} {vs : List V} {ds : List D} : LAt K M H a vs → Reps T K M H vs ds → Rep T K M H (.ref a) (.scr ds)
  | obj {a C dx : Addr} {n : Nat} {fn : List Str} {vs : List V} {ds : List D} : T n = some (C, fn) → ¬ M a → H a = some (.ins C dx (fn.zip vs)) → vs.length = fn.length → Reps T K M H vs ds → Rep T K M H (.ref a) (.obj n ds)
  | err {a C : Addr} {n : Nat} {fn : List Str} {dd : Option Addr} {vs : List V} {ds : List D} : T n = some (C, fn) → XAt M H dd fn vs → Reps T K M H vs ds → Rep T K M H (.ref a) (.err n a dd ds)
  | cls {C : Addr} : Rep T K M H (.ref C) (.cls C)
  | dct {a : Addr} {o : Obj} {kvs : List (Key × V)} {ks : List Key} {ds : List D} : ¬ M a → H a = some (.frz o (.dK kvs)) → kvs.map (·.1) = ks → Reps T K M H (kvs.map (·.2)) ds → Rep T K M H (.ref a) (.dct ks ds)
inductive Reps (T : Tab) (K : PySem.W.Frag) (M : Addr → Prop) (H : Hp) : List V → List D → Prop
  | nil : Reps T K M H [] []
  | cons {v : V} {d : D} {vs : List V} {ds : List D} : Rep T K M H v d → Reps T K M H vs ds → Reps T K M H (v :: vs) (d :: ds)
end

section
variable {T : Tab} {K : PySem.W.Frag} {M M' : Addr → Prop} {H H' : Hp} {a : Addr} {v : V} {d : D} {vs : List V} {ds : List D}

/-- what is known and not mutable stays so -/
def Kp (M : Addr → Prop) (H : Hp) (M' : Addr → Prop) (H' : Hp) : Prop := ∀ a o, H a = some o → ¬ M a → H' a = some o ∧ ¬ M' a

theorem Kp.refl : Kp M H M H := fun _ _ h n => ⟨h, n⟩
theorem Kp.trans {M2 : Addr → Prop} {H2 : Hp} (x : Kp M H M' H') (y : Kp M' H' M2 H2) : Kp M H M2 H2 := fun a o h n =>
  let ⟨h1, n1⟩ := x a o h n
  y a o h1 n1

theorem TAt.kp (k : Kp M H M' H') (h : TAt K M H a vs) : TAt K M' H' a vs := by
  rcases h with ⟨n, h | ⟨o, h⟩⟩ | h
  · exact .inl ⟨(k _ _ h n).2, .inl (k _ _ h n).1⟩
  · exact .inl ⟨(k _ _ h n).2, .inr ⟨o, (k _ _ h n).1⟩⟩
  · exact .inr h
theorem LAt.kp (k : Kp M H M' H') (h : LAt K M H a vs) : LAt K M' H' a vs := by
  rcases h with ⟨n, o, h⟩ | h
  · exact .inl ⟨(k _ _ h n).2, o, (k _ _ h n).1⟩
  · exact .inr h
theorem TAt.sq (h : TAt K M H a vs) : SqT K H a vs := by
  rcases h with ⟨n, h⟩ | h
  · exact .inl h
  · rcases h with (h | ⟨_, h⟩) | h
    · cases h
    · cases h
    · exact .inr h
theorem LAt.sq (h : LAt K M H a vs) : SqL K H a vs := by
  rcases h with h | h
  · exact .inl (.inr h.2)
  · rcases h with (h | ⟨_, h⟩) | h
    · cases h
    · cases h
    · exact .inr h
/-- the script at the law's entry -/
theorem LAt.of (hO : Only H) (h : SqL K H a vs) : LAt K (fun _ => False) H a vs := by
  rcases h with (h | ⟨o, h⟩) | h
  · rcases hO a with e | ⟨o, xs, e⟩ <;> rw [e] at h <;> cases h
  · exact .inl ⟨id, o, h⟩
  · exact .inr (.inr h)

theorem XAt.kp {dd : Option Addr} {fn : List Str} (k : Kp M H M' H') (h : XAt M H dd fn vs) : XAt M' H' dd fn vs := by
  rcases h with h | ⟨d, e, n, h1, h2⟩
  · exact .inl h
  · exact .inr ⟨d, e, (k _ _ h1 n).2, (k _ _ h1 n).1, h2⟩

mutual
theorem Rep.kp (k : Kp M H M' H') {v : V} {d : D} (h : Rep T K M H v d) : Rep T K M' H' v d :=
  match h with
  | .non => .non
  | .bl => .bl
  | .int => .int
  | .str => .str
  | .tup h1 h2 => .tup (h1.kp k) (Reps.kp k h2)
  | .lst n h1 h2 => .lst (k _ _ h1 n).2 (k _ _ h1 n).1 (Reps.kp k h2)
  | .scr h1 h2 => .scr (h1.kp k) (Reps.kp k h2)
  | .obj ht hm h1 hl h2 => .obj ht (k _ _ h1 hm).2 (k _ _ h1 hm).1 hl (Reps.kp k h2)
  | .err ht h1 h2 => .err ht (h1.kp k) (Reps.kp k h2)
  | .cls => .cls
  | .dct n h1 hl h2 => .dct (k _ _ h1 n).2 (k _ _ h1 n).1 hl (Reps.kp k h2)
theorem Reps.kp (k : Kp M H M' H') {vs : List V} {ds : List D} (h : Reps T K M H vs ds) : Reps T K M' H' vs ds :=
  match h with
  | .nil => .nil
  | .cons h1 h2 => .cons (Rep.kp k h1) (Reps.kp k h2)
end

theorem Reps.length (h : Reps T K M H vs ds) : vs.length = ds.length := by
  induction ds generalizing vs with
  | nil => cases h; rfl
  | cons d ds ih => cases h with | cons h1 h2 => simp [ih h2]
theorem Reps.get : ∀ {vs : List V} {ds : List D} {i : Nat} {d : D}, Reps T K M H vs ds → ds[i]? = some d → ∃ v, vs[i]? = some v ∧ Rep T K M H v d
  | _, _, _, _, .nil, e => by simp at e
  | _, _, 0, _, .cons r _, e => by simp at e; subst e; exact ⟨_, rfl, r⟩
  | _, _, i + 1, d, .cons _ t, e => by
    obtain ⟨u, h1, h2⟩ := Reps.get (i := i) (d := d) t (by simpa using e)
    exact ⟨u, by simpa using h1, h2⟩
theorem Reps.getV : ∀ {vs : List V} {ds : List D} {i : Nat} {v : V}, Reps T K M H vs ds → vs[i]? = some v → ∃ d, ds[i]? = some d ∧ Rep T K M H v d
  | _, _, _, _, .nil, e => by simp at e
  | _, _, 0, _, .cons r _, e => by simp at e; subst e; exact ⟨_, rfl, r⟩
  | _, _, i + 1, d, .cons _ t, e => by
    obtain ⟨u, h1, h2⟩ := Reps.getV (i := i) t (by simpa using e)
    exact ⟨u, by simpa using h1, h2⟩
theorem Reps.append : ∀ {vs ws : List V} {ds es : List D}, Reps T K M H vs ds → Reps T K M H ws es → Reps T K M H (vs ++ ws) (ds ++ es)
  | _, _, _, _, .nil, s => s
  | _, _, _, _, .cons r t, s => .cons r (Reps.append t s)
theorem Reps.take : ∀ {vs : List V} {ds : List D} (n : Nat), Reps T K M H vs ds → Reps T K M H (vs.take n) (ds.take n)
  | _, _, 0, _ => .nil
  | _, _, _ + 1, .nil => .nil
  | _, _, n + 1, .cons r t => .cons r (Reps.take n t)
theorem Reps.drop : ∀ {vs : List V} {ds : List D} (n : Nat), Reps T K M H vs ds → Reps T K M H (vs.drop n) (ds.drop n)
  | _, _, 0, r => r
  | _, _, _ + 1, .nil => .nil
  | _, _, n + 1, .cons _ t => Reps.drop n t
theorem Reps.set {v : V} {d : D} (r : Rep T K M H v d) : ∀ {vs : List V} {ds : List D} (i : Nat), Reps T K M H vs ds → Reps T K M H (vs.set i v) (ds.set i d)
  | _, _, _, .nil => .nil
  | _, _, 0, .cons _ t => .cons r t
  | _, _, i + 1, .cons q t => .cons q (Reps.set r i t)
theorem Reps.rev : ∀ {vs : List V} {ds : List D}, Reps T K M H vs ds → Reps T K M H vs.reverse ds.reverse
  | _, _, .nil => .nil
  | _, _, .cons r t => by
    rw [List.reverse_cons, List.reverse_cons]
    exact (Reps.rev t).append (.cons r .nil)
theorem Reps.replicate {v : V} {d : D} (r : Rep T K M H v d) : ∀ n, Reps T K M H (List.replicate n v) (List.replicate n d)
  | 0 => .nil
  | n + 1 => .cons r (Reps.replicate r n)
theorem Reps.ints : ∀ (ns : List Int), Reps T K M H (ns.map V.int) (ns.map D.int)
  | [] => .nil
  | _ :: r => .cons .int (Reps.ints r)
theorem Reps.of_ints : ∀ {ns : List Int} {vs : List V}, Reps T K M H vs (ns.map D.int) → vs = ns.map V.int
  | [], _, .nil => rfl
  | _ :: r, _, .cons h t => by
    cases h
    rw [Reps.of_ints t]
    rfl
end

/-! ### cells and slots -/
inductive Cell where
  | lst (xs : List D)
  | dct (kvs : List (Key × D))
  | ins (n : Nat) (fs : List (Str × D))

inductive Sl where
  | dat (d : D)
  | cel (k : Nat)

structure Sta where
  sl : List (Option Sl)
  cs : List Cell

abbrev Mm (ad : List Addr) (F : Addr → Prop) : Addr → Prop := fun a => a ∈ ad ∨ F a

def CellAt (T : Tab) (K : PySem.W.Frag) (M : Addr → Prop) (H : Hp) (a : Addr) : Cell → Prop
  | .lst ds => ∃ vs, H a = some (.lst vs) ∧ Reps T K M H vs ds
  | .dct kds => ∃ kvs, H a = some (.dK kvs) ∧ kvs.map (·.1) = kds.map (·.1) ∧ Reps T K M H (kvs.map (·.2)) (kds.map (·.2))
  | .ins n fs => ∃ C fn dx vs, T n = some (C, fn) ∧ H a = some (.ins C dx ((fs.map (·.1)).zip vs)) ∧ vs.length = fs.length ∧ Reps T K M H vs (fs.map (·.2))

def SlRep (T : Tab) (K : PySem.W.Frag) (ad : List Addr) (F : Addr → Prop) (H : Hp) (v : V) : Sl → Prop
  | .dat d => Rep T K (Mm ad F) H v d
  | .cel k => ∃ a, ad[k]? = some a ∧ v = .ref a

structure HoldC (T : Tab) (K : PySem.W.Frag) (ad : List Addr) (F : Addr → Prop) (H : Hp) (cs : List Cell) : Prop where
  nd : ad.Nodup
  fr : ∀ a ∈ ad, ¬ F a
  al : ∀ a, F a → ∃ o, H a = some o
  ln : ad.length = cs.length
  ce : ∀ (k : Nat) a c, ad[k]? = some a → cs[k]? = some c → CellAt T K (Mm ad F) H a c

structure Hold (T : Tab) (K : PySem.W.Frag) (S : Sta) (ad : List Addr) (F : Addr → Prop) (σ : St) (H : Hp) : Prop where
  hc : HoldC T K ad F H S.cs
  sz : σ.length = S.sl.length
  sl : ∀ (i : Nat) s, S.sl[i]? = some (some s) → ∃ v, σ[i]? = some (some v) ∧ SlRep T K ad F H v s

/-- behind an expression: what was known stays, new cells come behind -/
structure Ext (ad : List Addr) (F : Addr → Prop) (H : Hp) (ad' : List Addr) (H' : Hp) : Prop where
  pre : ∃ t, ad' = ad ++ t ∧ ∀ a ∈ t, H a = none
  keep : ∀ a o, H a = some o → ¬ Mm ad F a → H' a = some o
  frm : ∀ a, F a → H' a = H a

section
variable {T : Tab} {K : PySem.W.Frag} {F : Addr → Prop} {ad ad1 ad2 : List Addr} {H H1 H2 : Hp} {cs : List Cell} {S : Sta} {σ : St} {v : V} {d : D} {s : Sl}

theorem CellAt.some {M : Addr → Prop} {a : Addr} {c : Cell} (h : CellAt T K M H a c) : ∃ o, H a = some o := by
  cases c with
  | lst ds => obtain ⟨vs, e, _⟩ := h; exact ⟨_, e⟩
  | dct kvs => obtain ⟨vs, e, _⟩ := h; exact ⟨_, e⟩
  | ins n fs => obtain ⟨C, fn, dx, vs, _, e, _⟩ := h; exact ⟨_, e⟩
theorem CellAt.kp {M M' : Addr → Prop} {a : Addr} {c : Cell} (k : Kp M H M' H1) (e : H1 a = H a) (h : CellAt T K M H a c) : CellAt T K M' H1 a c := by
  cases c with
  | lst ds => obtain ⟨vs, h1, h2⟩ := h; exact ⟨vs, e.trans h1, h2.kp k⟩
  | dct kvs => obtain ⟨vs, h1, hl, h2⟩ := h; exact ⟨vs, e.trans h1, hl, h2.kp k⟩
  | ins n fs => obtain ⟨C, fn, dx, vs, ht, h1, hl, h2⟩ := h; exact ⟨C, fn, dx, vs, ht, e.trans h1, hl, h2.kp k⟩
theorem HoldC.mem (h : HoldC T K ad F H cs) {a : Addr} (ha : a ∈ ad) : ∃ o, H a = some o := by
  obtain ⟨k, hk, e⟩ := List.getElem_of_mem ha
  have h1 : ad[k]? = some a := by rw [List.getElem?_eq_getElem hk, e]
  have h2 : cs[k]? = some (cs[k]'(by rw [← h.ln]; exact hk)) := List.getElem?_eq_getElem _
  exact (h.ce k a _ h1 h2).some
theorem HoldC.new (h : HoldC T K ad F H cs) {p : Addr} (hp : H p = none) : ¬ Mm ad F p := fun z => by
  rcases z with z | z
  · obtain ⟨o, e⟩ := h.mem z
    rw [e] at hp
    cases hp
  · obtain ⟨o, e⟩ := h.al p z
    rw [e] at hp
    cases hp

theorem Ext.refl : Ext ad F H ad H := ⟨⟨[], by simp, fun _ h => nomatch h⟩, fun _ _ h _ => h, fun _ _ => rfl⟩
theorem Ext.kp (x : Ext ad F H ad1 H1) : Kp (Mm ad F) H (Mm ad1 F) H1 := fun a o h n => by
  refine ⟨x.keep a o h n, fun z => ?_⟩
  obtain ⟨t, e, ht⟩ := x.pre
  rcases z with z | z
  · rw [e] at z
    rcases List.mem_append.mp z with z | z
    · exact n (.inl z)
    · rw [ht a z] at h
      cases h
  · exact n (.inr z)
theorem Ext.trans (h : HoldC T K ad1 F H1 cs) (x : Ext ad F H ad1 H1) (y : Ext ad1 F H1 ad2 H2) : Ext ad F H ad2 H2 := by
  obtain ⟨t, e, ht⟩ := x.pre
  obtain ⟨u, e2, hu⟩ := y.pre
  refine ⟨⟨t ++ u, by rw [e2, e, List.append_assoc], fun a ha => ?_⟩, fun a o q n => ?_, fun a q => by rw [y.frm a q, x.frm a q]⟩
  · rcases List.mem_append.mp ha with z | z
    · exact ht a z
    · have h1 := hu a z
      cases q : H a with
      | none => rfl
      | some o =>
        exfalso
        by_cases n : Mm ad F a
        · rcases n with n | n
          · obtain ⟨o', e'⟩ := h.mem (a := a) (by rw [e]; exact List.mem_append_left _ n)
            rw [e'] at h1
            cases h1
          · rw [x.frm a n, q] at h1
            cases h1
        · rw [x.keep a o q n] at h1
          cases h1
  · exact y.keep a o (x.keep a o q n) (x.kp a o q n).2
end
end Dl

namespace Dl
open PySem L2

theorem ix_inj {α : Type} {l : List α} (h : l.Nodup) {i j : Nat} {x : α} (a : l[i]? = some x) (b : l[j]? = some x) : i = j := by
  have hi := (List.getElem?_eq_some_iff.mp a).1
  exact (List.getElem?_inj hi h).mp (a.trans b.symm)
section
variable {T : Tab} {K : PySem.W.Frag} {F : Addr → Prop} {ad ad1 ad2 : List Addr} {H H1 H2 : Hp} {cs cs' : List Cell} {S S1 S2 : Sta} {σ : St} {v w : V} {d : D} {s s1 s2 : Sl}

theorem SlRep.ext (x : Ext ad F H ad1 H1) (h : SlRep T K ad F H v s) : SlRep T K ad1 F H1 v s := by
  cases s with
  | dat d => exact Rep.kp x.kp h
  | cel k =>
    obtain ⟨a, e, hv⟩ := h
    obtain ⟨t, e1, _⟩ := x.pre
    refine ⟨a, ?_, hv⟩
    rw [e1, List.getElem?_append_left (List.getElem?_eq_some_iff.mp e).1]
    exact e
theorem Hold.to (h : Hold T K S ad F σ H) (x : Ext ad F H ad1 H1) (c : HoldC T K ad1 F H1 cs) : Hold T K ⟨S.sl, cs⟩ ad1 F σ H1 :=
  ⟨c, h.sz, fun i s e => let ⟨v, hv, r⟩ := h.sl i s e; ⟨v, hv, r.ext x⟩⟩
/-- a new object that is no cell -/
theorem HoldC.newo (h : HoldC T K ad F H cs) {p : Addr} {o : HO} (hp : H p = none) : HoldC T K ad F (upd H p o) cs ∧ Ext ad F H ad (upd H p o) := by
  have ne : ∀ a o', H a = some o' → a ≠ p := fun a o' e => ne_of_none e hp
  have x : Ext ad F H ad (L2.upd H p o) := by
    refine ⟨⟨[], by simp, fun _ z => nomatch z⟩, fun a o' e _ => ?_, fun a fa => ?_⟩
    · rw [upd_ne (ne a o' e)]; exact e
    · obtain ⟨o', e⟩ := h.al a fa
      rw [upd_ne (ne a o' e)]
  refine ⟨⟨h.nd, h.fr, fun a fa => ?_, h.ln, fun k a c h1 h2 => ?_⟩, x⟩
  · obtain ⟨o', e⟩ := h.al a fa
    exact ⟨o', by rw [upd_ne (ne a o' e)]; exact e⟩
  · have q := h.ce k a c h1 h2
    obtain ⟨o', e⟩ := q.some
    exact q.kp x.kp (upd_ne (ne a o' e))
/-- a new cell -/
theorem HoldC.cell (h : HoldC T K ad F H cs) {p : Addr} {o : HO} {c : Cell} (hp : H p = none) (hc : CellAt T K (Mm (ad ++ [p]) F) (upd H p o) p c) :
    HoldC T K (ad ++ [p]) F (upd H p o) (cs ++ [c]) ∧ Ext ad F H (ad ++ [p]) (upd H p o) := by
  have ne : ∀ a o', H a = some o' → a ≠ p := fun a o' e => ne_of_none e hp
  have x : Ext ad F H (ad ++ [p]) (L2.upd H p o) := by
    refine ⟨⟨[p], rfl, fun a z => ?_⟩, fun a o' e _ => ?_, fun a fa => ?_⟩
    · have := List.mem_singleton.mp z; subst this; exact hp
    · rw [upd_ne (ne a o' e)]; exact e
    · obtain ⟨o', e⟩ := h.al a fa
      rw [upd_ne (ne a o' e)]
  have np : p ∉ ad := fun z => h.new hp (.inl z)
  refine ⟨⟨?_, fun a ha fa => ?_, fun a fa => ?_, by simp [h.ln], fun k a c' h1 h2 => ?_⟩, x⟩
  · rw [List.nodup_append]
    refine ⟨h.nd, by simp, fun a ha b hb e => ?_⟩
    have := List.mem_singleton.mp hb
    exact np (this ▸ e ▸ ha)
  · rcases List.mem_append.mp ha with z | z
    · exact h.fr a z fa
    · have := List.mem_singleton.mp z; subst this; exact h.new hp (.inr fa)
  · obtain ⟨o', e⟩ := h.al a fa
    exact ⟨o', by rw [upd_ne (ne a o' e)]; exact e⟩
  · by_cases hk : k < ad.length
    · rw [List.getElem?_append_left hk] at h1
      rw [List.getElem?_append_left (by rw [← h.ln]; exact hk)] at h2
      have q := h.ce k a c' h1 h2
      obtain ⟨o', e⟩ := q.some
      exact q.kp x.kp (upd_ne (ne a o' e))
    · have hk' : k = ad.length := by
        have := (List.getElem?_eq_some_iff.mp h1).1
        simp at this
        omega
      subst hk'
      rw [List.getElem?_append_right (Nat.le_refl _)] at h1
      rw [h.ln, List.getElem?_append_right (Nat.le_refl _)] at h2
      simp at h1 h2
      subst h1 h2
      exact hc
/-- a cell is changed -/
theorem HoldC.setc (h : HoldC T K ad F H cs) {k : Nat} {a : Addr} {o : HO} {c : Cell} (ha : ad[k]? = some a) (hc : CellAt T K (Mm ad F) (upd H a o) a c) : HoldC T K ad F (upd H a o) (cs.set k c) ∧ Ext ad F H ad (upd H a o) := by
  have hm : a ∈ ad := List.mem_of_getElem? ha
  have nb : ∀ b, ¬ Mm ad F b → b ≠ a := fun b n z => n (.inl (by rw [z]; exact hm))
  have nf : ∀ b, F b → b ≠ a := fun b fb z => h.fr a hm (by rw [← z]; exact fb)
  have x : Ext ad F H ad (L2.upd H a o) := by
    refine ⟨⟨[], by simp, fun _ z => nomatch z⟩, fun b o' e n => ?_, fun b fb => ?_⟩
    · rw [upd_ne (nb b n)]; exact e
    · rw [upd_ne (nf b fb)]
  refine ⟨⟨h.nd, h.fr, fun b fb => ?_, by simp [h.ln], fun j b c' h1 h2 => ?_⟩, x⟩
  · obtain ⟨o', e⟩ := h.al b fb
    exact ⟨o', by rw [upd_ne (nf b fb)]; exact e⟩
  · by_cases hj : k = j
    · subst hj
      have hlt : k < cs.length := by rw [← h.ln]; exact (List.getElem?_eq_some_iff.mp ha).1
      rw [List.getElem?_set_self hlt] at h2
      rw [ha] at h1
      cases h1; cases h2
      exact hc
    · rw [List.getElem?_set_ne hj] at h2
      have hb : b ≠ a := fun z => by
        subst z
        obtain ⟨l1, e1⟩ := List.getElem?_eq_some_iff.mp ha
        obtain ⟨l2, e2⟩ := List.getElem?_eq_some_iff.mp h1
        exact hj (ix_inj h.nd ha h1)
      exact (h.ce j b c' h1 h2).kp x.kp (upd_ne hb)
/-- fewer cells (those behind are no cells any more) -/
theorem HoldC.take (h : HoldC T K ad F H cs) (n : Nat) : HoldC T K (ad.take n) F H (cs.take n) := by
  have sub : ∀ a, Mm (ad.take n) F a → Mm ad F a := fun a z => z.elim (fun z => .inl (List.mem_of_mem_take z)) .inr
  have kp : Kp (Mm ad F) H (Mm (ad.take n) F) H := fun a o e z => ⟨e, fun y => z (sub a y)⟩
  refine ⟨h.nd.sublist (List.take_sublist _ _), fun a ha => h.fr a (List.mem_of_mem_take ha), h.al, by simp [h.ln], fun k a c h1 h2 => ?_⟩
  have k1 : ad[k]? = some a := by
    rw [List.getElem?_take] at h1
    split at h1
    · exact h1
    · cases h1
  have k2 : cs[k]? = some c := by
    rw [List.getElem?_take] at h2
    split at h2
    · exact h2
    · cases h2
  exact (h.ce k a c k1 k2).kp kp rfl
end

/-! ### expressions -/
def tD (T : Tab) (K : PySem.W.Frag) (S : Sta) (s : Sl) (S' : Sta) : TE := fun σ H Q => ∃ ad F, Hold T K S ad F σ H ∧
  ∀ v H' ad', Ext ad F H ad' H' → Hold T K S' ad' F σ H' → SlRep T K ad' F H' v s → Q v H'
/-- from the state S the expression e gives s and leaves S' -/
def DE (X : Cx) (T : Tab) (S : Sta) (e : Expr) (s : Sl) (S' : Sta) : Prop := PE X e (tD T X.K S s S')
theorem weak {X : Cx} {e : Expr} {t t' : TE} (h : PE X e t) (q : ∀ σ H Q, t' σ H Q → t σ H Q) : PE X e t' := ⟨fun pins s σ H Q I z => h.run pins s σ H Q I (q σ H Q z)⟩
theorem weakT {X : Cx} {e : Expr} {t t' : TT} (h : PT X e t) (q : ∀ σ H Q, t' σ H Q → t σ H Q) : PT X e t' := ⟨fun pins s σ H Q I z => h.run pins s σ H Q I (q σ H Q z)⟩
theorem weakA {X : Cx} {e : List Expr} {t t' : TA} (h : PA X e t) (q : ∀ σ H Q, t' σ H Q → t σ H Q) : PA X e t' := ⟨fun pos pins s σ H Q I z => h.run pos pins s σ H Q I (q σ H Q z)⟩
theorem weakS {X : Cx} {e : Stmt} {t t' : TS} (h : PS X e t) (q : ∀ D σ H, t' D σ H → t D σ H) : PS X e t' := ⟨fun pins s σ H D I z => h.run pins s σ H D I (q D σ H z)⟩
theorem weakSs {X : Cx} {e : List Stmt} {t t' : TS} (h : PSs X e t) (q : ∀ D σ H, t' D σ H → t D σ H) : PSs X e t' := ⟨fun pins s σ H D I z => h.run pins s σ H D I (q D σ H z)⟩

section
variable {X : Cx} {T : Tab} {S S1 S2 S3 : Sta} {a b e : Expr} {pos : Pos} {s s1 s2 : Sl} {cs cs' : List Cell} {d d1 d2 : D} {i j : Int}

/-- one expression, then an operation on its value -/
def R1 (T : Tab) (K : PySem.W.Frag) (r : V → Hp → VK → Prop) (s1 : Sl) (cs : List Cell) (s : Sl) (cs' : List Cell) : Prop :=
  ∀ ad F H v (Q : VK), HoldC T K ad F H cs → SlRep T K ad F H v s1 → (∀ z H' ad', Ext ad F H ad' H' → HoldC T K ad' F H' cs' → SlRep T K ad' F H' z s → Q z H') → r v H Q
def R2D (T : Tab) (K : PySem.W.Frag) (r : R2) (s1 s2 : Sl) (cs : List Cell) (s : Sl) (cs' : List Cell) : Prop :=
  ∀ ad F H v w (Q : VK), HoldC T K ad F H cs → SlRep T K ad F H v s1 → SlRep T K ad F H w s2 → (∀ z H' ad', Ext ad F H ad' H' → HoldC T K ad' F H' cs' → SlRep T K ad' F H' z s → Q z H') → r v w H Q
theorem one_then {K : PySem.W.Frag} {r : V → Hp → VK → Prop} {σ : St} {H : Hp} {Q : VK} (hr : R1 T K r s1 S1.cs s cs') (h : tD T K S s ⟨S1.sl, cs'⟩ σ H Q) : tD T K S s1 S1 σ H fun v H1 => r v H1 Q := by
  obtain ⟨ad, F, h0, q⟩ := h
  refine ⟨ad, F, h0, fun v H1 ad1 x1 h1 r1 => ?_⟩
  exact hr ad1 F H1 v Q h1.hc r1 fun z H' ad' x2 c2 r2 => q z H' ad' (x1.trans h1.hc x2) (h1.to x2 c2) r2
theorem two_then {K : PySem.W.Frag} {r : R2} {σ : St} {H : Hp} {Q : VK} (hr : R2D T K r s1 s2 S2.cs s cs') (h : tD T K S s ⟨S2.sl, cs'⟩ σ H Q) : tD T K S s1 S1 σ H fun v H1 => tD T K S1 s2 S2 σ H1 fun w H2 => r v w H2 Q := by
  obtain ⟨ad, F, h0, q⟩ := h
  refine ⟨ad, F, h0, fun v H1 ad1 x1 h1 r1 => ⟨ad1, F, h1, fun w H2 ad2 x2 h2 r2 => ?_⟩⟩
  exact hr ad2 F H2 v w Q h2.hc (r1.ext x2) r2 fun z H' ad' x3 c3 r3 => q z H' ad' (x1.trans h1.hc (x2.trans h2.hc x3)) (h2.to x3 c3) r3

/-! #### names, constants -/
theorem de_name (i : Nat) {x : Str} (hs : S.sl[i]? = some (some s)) (hN : X.N[i]? = some x := by rfl) (hv : Vis X.env.scope x := by first | exact Or.inl rfl | exact Or.inr (Or.inl rfl) | exact Or.inr (Or.inr rfl)) (hd : (x == ("__debug__" : Str)) = false := by decide)
    (hcd : (x == ("__classdict__" : Str)) = false := by decide) : DE X T S (.Name x pos) s S :=
  weak (pe_var hN hv hd hcd) fun σ H Q ⟨ad, F, h, q⟩ => let ⟨v, e, r⟩ := h.sl i s hs; ⟨v, e, q v H ad .refl h r⟩
theorem de_c {v : V} (h : PE X e (tC v)) (r : ∀ ad F H, SlRep T X.K ad F H v s) : DE X T S e s S := weak h fun σ H Q ⟨ad, F, h, q⟩ => q v H ad .refl h (r ad F H)
theorem de_int {k : Nat} : DE X T S (.Constant (.int i) k pos) (.dat (.int i)) S := de_c pe_int fun _ _ _ => .int
theorem de_bl {b : Bool} {k : Nat} : DE X T S (.Constant (.bool b) k pos) (.dat (.bl b)) S := de_c pe_bl fun _ _ _ => .bl
theorem de_non {k : Nat} : DE X T S (.Constant .none k pos) (.dat .non) S := de_c pe_non fun _ _ _ => .non
theorem de_str {x : Str} {k : Nat} : DE X T S (.Constant (.str x) k pos) (.dat (.str x)) S := de_c pe_str fun _ _ _ => .str

/-! #### operators -/
theorem de_op {op : Operator} {r : R2} (ho : OpR X (binaryOp op) r) (ha : DE X T S a s1 S1) (hb : DE X T S1 b s2 S2) (hr : R2D T X.K r s1 s2 S2.cs s cs') : DE X T S (.BinOp a op b pos) s ⟨S2.sl, cs'⟩ :=
  weak (pe_op ho ha hb) fun _ _ _ h => two_then hr h
theorem de_cmp {op : CmpOp} {r : R2} (ho : OpR X (compareOp op) r) (ha : DE X T S a s1 S1) (hb : DE X T S1 b s2 S2) (hr : R2D T X.K r s1 s2 S2.cs s cs') (hm : behindInMarks op b = false) : DE X T S (.Compare a [op] [b] pos) s ⟨S2.sl, cs'⟩ :=
  weak (pe_cmpR ho ha hb hm) fun _ _ _ h => two_then hr h
theorem de_ix {r : R2} (hr' : IxR X r) (ha : DE X T S a s1 S1) (hb : DE X T S1 b s2 S2) (hr : R2D T X.K r s1 s2 S2.cs s cs') (hp : PlainIx b := by intro _ _; rfl) : DE X T S (.Subscript a b pos) s ⟨S2.sl, cs'⟩ :=
  weak (pe_ix hr' ha hb hp) fun _ _ _ h => two_then hr h
theorem de_unop {op : UnaryOp} {r : V → Hp → VK → Prop} (ho : UnR X (unaryOp op) r) (ha : DE X T S a s1 S1) (hr : R1 T X.K r s1 S1.cs s cs') : DE X T S (.UnaryOp op a pos) s ⟨S1.sl, cs'⟩ :=
  weak (pe_un ho ha) fun _ _ _ h => one_then hr h
theorem r2_I {K : PySem.W.Frag} {C : Int → Int → Prop} {g : Int → Int → Int} (hc : C i j) : R2D T K (rI C fun i j => .int (g i j)) (.dat (.int i)) (.dat (.int j)) cs (.dat (.int (g i j))) cs := fun ad F H v w Q c r1 r2 q => by
  cases r1; cases r2
  exact ⟨i, j, rfl, rfl, hc, q _ H ad .refl c .int⟩
theorem r2_I0 {K : PySem.W.Frag} {g : Int → Int → Int} : R2D T K (rI0 fun i j => .int (g i j)) (.dat (.int i)) (.dat (.int j)) cs (.dat (.int (g i j))) cs := fun ad F H v w Q c r1 r2 q => by
  cases r1; cases r2
  exact ⟨i, j, rfl, rfl, q _ H ad .refl c .int⟩
theorem r2_B0 {K : PySem.W.Frag} {g : Int → Int → Bool} : R2D T K (rI0 fun i j => .bl (g i j)) (.dat (.int i)) (.dat (.int j)) cs (.dat (.bl (g i j))) cs := fun ad F H v w Q c r1 r2 q => by
  cases r1; cases r2
  exact ⟨i, j, rfl, rfl, q _ H ad .refl c .bl⟩
theorem de_add (ha : DE X T S a (.dat (.int i)) S1) (hb : DE X T S1 b (.dat (.int j)) S2) : DE X T S (.BinOp a .Add b pos) (.dat (.int (i + j))) S2 := de_op op_add ha hb r2_I0
theorem de_sub (ha : DE X T S a (.dat (.int i)) S1) (hb : DE X T S1 b (.dat (.int j)) S2) : DE X T S (.BinOp a .Sub b pos) (.dat (.int (i - j))) S2 := de_op op_sub ha hb r2_I0
theorem de_mul (ha : DE X T S a (.dat (.int i)) S1) (hb : DE X T S1 b (.dat (.int j)) S2) (hc : CMul i j) : DE X T S (.BinOp a .Mult b pos) (.dat (.int (i * j))) S2 := de_op op_mul ha hb (r2_I hc)
theorem de_mulW (ha : DE X T S a (.dat (.int i)) S1) (hb : DE X T S1 b (.dat (.int j)) S2) (hc : CMulW i j) : DE X T S (.BinOp a .Mult b pos) (.dat (.int (i * j))) S2 := de_op op_mulW ha hb (r2_I hc)
theorem de_fdiv (ha : DE X T S a (.dat (.int i)) S1) (hb : DE X T S1 b (.dat (.int j)) S2) (hc : CDivW i j) : DE X T S (.BinOp a .FloorDiv b pos) (.dat (.int (i / j))) S2 := de_op op_fdivW ha hb (r2_I hc)
theorem de_mod (ha : DE X T S a (.dat (.int i)) S1) (hb : DE X T S1 b (.dat (.int j)) S2) (hc : 0 < j) : DE X T S (.BinOp a .Mod b pos) (.dat (.int (i % j))) S2 := de_op op_mod ha hb (r2_I (C := fun _ j => 0 < j) hc)
theorem de_pow (ha : DE X T S a (.dat (.int i)) S1) (hb : DE X T S1 b (.dat (.int j)) S2) (hc : CPow i j) : DE X T S (.BinOp a .Pow b pos) (.dat (.int (i ^ j.toNat))) S2 := de_op op_pow ha hb (r2_I hc)
theorem de_lt (ha : DE X T S a (.dat (.int i)) S1) (hb : DE X T S1 b (.dat (.int j)) S2) : DE X T S (.Compare a [.Lt] [b] pos) (.dat (.bl (decide (i < j)))) S2 := de_cmp op_lt ha hb r2_B0 (nomark _)
theorem de_le (ha : DE X T S a (.dat (.int i)) S1) (hb : DE X T S1 b (.dat (.int j)) S2) : DE X T S (.Compare a [.LtE] [b] pos) (.dat (.bl (decide (i ≤ j)))) S2 := de_cmp op_le ha hb r2_B0 (nomark _)
theorem de_gt (ha : DE X T S a (.dat (.int i)) S1) (hb : DE X T S1 b (.dat (.int j)) S2) : DE X T S (.Compare a [.Gt] [b] pos) (.dat (.bl (decide (j < i)))) S2 := de_cmp op_gt ha hb r2_B0 (nomark _)
theorem de_ge (ha : DE X T S a (.dat (.int i)) S1) (hb : DE X T S1 b (.dat (.int j)) S2) : DE X T S (.Compare a [.GtE] [b] pos) (.dat (.bl (decide (j ≤ i)))) S2 := de_cmp op_ge ha hb r2_B0 (nomark _)
theorem de_neg (ha : DE X T S a (.dat (.int i)) S1) : DE X T S (.UnaryOp .USub a pos) (.dat (.int (-i))) S1 := de_unop un_neg ha fun ad F H v Q c r1 q => by
  cases r1
  exact ⟨i, rfl, q _ H ad .refl c .int⟩

/-! #### subscripts -/
theorem reps_at {K : PySem.W.Frag} {M : Addr → Prop} {H : Hp} {vs : List V} {ds : List D} (h : Reps T K M H vs ds) (e : atI ds i = some d) : ∃ v, atI vs i = some v ∧ Rep T K M H v d := by
  unfold atI at e ⊢
  rw [h.length]
  cases q : ixN ds.length i with
  | none => rw [q] at e; cases e
  | some j =>
    rw [q] at e
    obtain ⟨v, h1, h2⟩ := h.get (i := j) e
    exact ⟨v, h1, h2⟩
theorem de_ixL {ds : List D} (ha : DE X T S a (.dat (.lst ds)) S1) (hb : DE X T S1 b (.dat (.int i)) S2) (hi : atI ds i = some d) (hp : PlainIx b := by intro _ _; rfl) : DE X T S (.Subscript a b pos) (.dat d) S2 :=
  de_ix ix_list ha hb (fun ad F H v w Q c r1 r2 q => by
    cases r2
    cases r1 with
    | lst n e r =>
      obtain ⟨u, h1, h2⟩ := reps_at r hi
      exact ⟨_, _, i, u, rfl, rfl, SqL.of e, h1, q u H ad .refl c h2⟩) hp
theorem de_ixR {ds : List D} (ha : DE X T S a (.dat (.scr ds)) S1) (hb : DE X T S1 b (.dat (.int i)) S2) (hi : atI ds i = some d) (hp : PlainIx b := by intro _ _; rfl) : DE X T S (.Subscript a b pos) (.dat d) S2 :=
  de_ix ix_list ha hb (fun ad F H v w Q c r1 r2 q => by
    cases r2
    cases r1 with
    | scr e r =>
      obtain ⟨u, h1, h2⟩ := reps_at r hi
      exact ⟨_, _, i, u, rfl, rfl, e.sq, h1, q u H ad .refl c h2⟩) hp
theorem de_ixT {ds : List D} (ha : DE X T S a (.dat (.tup ds)) S1) (hb : DE X T S1 b (.dat (.int i)) S2) (hi : atI ds i = some d) (hp : PlainIx b := by intro _ _; rfl) : DE X T S (.Subscript a b pos) (.dat d) S2 :=
  de_ix ix_tup ha hb (fun ad F H v w Q c r1 r2 q => by
    cases r2
    cases r1 with
    | tup e r =>
      obtain ⟨u, h1, h2⟩ := reps_at r hi
      exact ⟨_, _, i, u, rfl, rfl, e.sq, h1, q u H ad .refl c h2⟩) hp
theorem de_ixC {k : Nat} {ds : List D} (ha : DE X T S a (.cel k) S1) (hb : DE X T S1 b (.dat (.int i)) S2) (hk : S2.cs[k]? = some (.lst ds)) (hi : atI ds i = some d) (hp : PlainIx b := by intro _ _; rfl) : DE X T S (.Subscript a b pos) (.dat d) S2 :=
  de_ix ix_list ha hb (fun ad F H v w Q c r1 r2 q => by
    cases r2
    obtain ⟨p, e, rfl⟩ := r1
    obtain ⟨vs, h1, h2⟩ := c.ce k p _ e hk
    obtain ⟨u, h3, h4⟩ := reps_at h2 hi
    exact ⟨_, _, i, u, rfl, rfl, SqL.of h1, h3, q u H ad .refl c h4⟩) hp

/-! #### arguments -/
def SlReps (T : Tab) (K : PySem.W.Frag) (ad : List Addr) (F : Addr → Prop) (H : Hp) : List V → List Sl → Prop
  | [], [] => True
  | v :: vs, s :: ss => SlRep T K ad F H v s ∧ SlReps T K ad F H vs ss
  | _, _ => False
theorem SlReps.ext {K : PySem.W.Frag} {ad ad1 : List Addr} {F : Addr → Prop} {H H1 : Hp} (x : Ext ad F H ad1 H1) : ∀ {vs : List V} {ss : List Sl}, SlReps T K ad F H vs ss → SlReps T K ad1 F H1 vs ss
  | [], [], _ => trivial
  | _ :: _, _ :: _, h => ⟨h.1.ext x, SlReps.ext x h.2⟩
theorem SlReps.len {K : PySem.W.Frag} {ad : List Addr} {F : Addr → Prop} {H : Hp} : ∀ {vs : List V} {ss : List Sl}, SlReps T K ad F H vs ss → vs.length = ss.length
  | [], [], _ => rfl
  | _ :: _, _ :: _, h => by rw [List.length_cons, List.length_cons, SlReps.len h.2]
theorem SlReps.dats {K : PySem.W.Frag} {ad : List Addr} {F : Addr → Prop} {H : Hp} : ∀ {vs : List V} {ds : List D}, SlReps T K ad F H vs (ds.map Sl.dat) → Reps T K (Mm ad F) H vs ds
  | [], [], _ => .nil
  | _ :: _, _ :: _, h => .cons h.1 (SlReps.dats h.2)
theorem SlReps.of {K : PySem.W.Frag} {ad : List Addr} {F : Addr → Prop} {H : Hp} : ∀ {vs : List V} {ds : List D}, Reps T K (Mm ad F) H vs ds → SlReps T K ad F H vs (ds.map Sl.dat)
  | _, _, .nil => trivial
  | _, _, .cons h t => ⟨h, SlReps.of t⟩
def tDA (T : Tab) (K : PySem.W.Frag) (S : Sta) (ss : List Sl) (S' : Sta) : TA := fun σ H Q => ∃ ad F, Hold T K S ad F σ H ∧
  ∀ vs H' ad', Ext ad F H ad' H' → Hold T K S' ad' F σ H' → SlReps T K ad' F H' vs ss → Q vs H'
def DA (X : Cx) (T : Tab) (S : Sta) (es : List Expr) (ss : List Sl) (S' : Sta) : Prop := PA X es (tDA T X.K S ss S')
theorem da_nil : DA X T S [] [] S := weakA pa_nil fun σ H Q ⟨ad, F, h, q⟩ => q [] H ad .refl h trivial
theorem da_cons {es : List Expr} {ss : List Sl} (ha : DE X T S e s S1) (hr : DA X T S1 es ss S2) (hs : starEach (e :: es) X.env = (false, eval e X.env) :: starEach es X.env := by rfl) : DA X T S (e :: es) (s :: ss) S2 :=
  weakA (pa_cons ha hr hs) fun σ H Q ⟨ad, F, h, q⟩ => ⟨ad, F, h, fun v H1 ad1 x1 h1 r1 => ⟨ad1, F, h1, fun vs H2 ad2 x2 h2 r2 => q _ H2 ad2 (x1.trans h1.hc x2) h2 ⟨r1.ext x2, r2⟩⟩⟩
theorem de_tup {es : List Expr} {ds : List D} {x1} (h : DA X T S es (ds.map Sl.dat) S1) (hl : ds.length ≤ sizeLine) : DE X T S (.Tuple es x1 pos) (.dat (.tup ds)) S1 :=
  weak (pe_tup h) fun σ H Q ⟨ad, F, h, q⟩ => ⟨ad, F, h, fun vs H1 ad1 x1 h1 r1 => ⟨by rw [r1.dats.length]; exact hl, fun p hp => by
    obtain ⟨c, x2⟩ := h1.hc.newo (o := .tup vs) hp
    refine q _ _ ad1 (x1.trans h1.hc x2) (h1.to x2 c) (.tup (vs := vs) (.inl ⟨h1.hc.new hp, .inl upd_same⟩) (r1.dats.kp x2.kp))⟩⟩
theorem de_lst {es : List Expr} {ds : List D} (h : DA X T S es (ds.map Sl.dat) S1) (hl : ds.length ≤ sizeLine) : DE X T S (.List es pos) (.dat (.lst ds)) S1 :=
  weak (pe_lst h) fun σ H Q ⟨ad, F, h, q⟩ => ⟨ad, F, h, fun vs H1 ad1 x1 h1 r1 => ⟨by rw [r1.dats.length]; exact hl, fun p hp => by
    obtain ⟨c, x2⟩ := h1.hc.newo (o := .lst vs) hp
    refine q _ _ ad1 (x1.trans h1.hc x2) (h1.to x2 c) (.lst (vs := vs) (h1.hc.new hp) upd_same (r1.dats.kp x2.kp))⟩⟩
/-- a list that will be changed -/
theorem de_lstC {es : List Expr} {ds : List D} (h : DA X T S es (ds.map Sl.dat) S1) (hl : ds.length ≤ sizeLine) : DE X T S (.List es pos) (.cel S1.cs.length) ⟨S1.sl, S1.cs ++ [.lst ds]⟩ :=
  weak (pe_lst h) fun σ H Q ⟨ad, F, h, q⟩ => ⟨ad, F, h, fun vs H1 ad1 x1 h1 r1 => ⟨by rw [r1.dats.length]; exact hl, fun p hp => by
    have kp : Kp (Mm ad1 F) H1 (Mm (ad1 ++ [p]) F) (upd H1 p (.lst vs)) := fun a o e n => by
      have np : a ≠ p := ne_of_none e hp
      refine ⟨by rw [upd_ne np]; exact e, fun z => ?_⟩
      rcases z with z | z
      · rcases List.mem_append.mp z with z | z
        · exact n (.inl z)
        · exact np (List.mem_singleton.mp z)
      · exact n (.inr z)
    obtain ⟨c, x2⟩ := h1.hc.cell (o := .lst vs) (c := .lst ds) hp ⟨vs, upd_same, r1.dats.kp kp⟩
    refine q _ _ _ (x1.trans h1.hc x2) (h1.to x2 c) ⟨p, ?_, rfl⟩
    rw [← h1.hc.ln, List.getElem?_append_right (Nat.le_refl _)]
    simp⟩⟩

/-! #### calls of builtins -/
def RCD (T : Tab) (K : PySem.W.Frag) (r : List V → Hp → VK → Prop) (ss : List Sl) (cs : List Cell) (s : Sl) (cs' : List Cell) : Prop :=
  ∀ ad F H vs (Q : VK), HoldC T K ad F H cs → SlReps T K ad F H vs ss → (∀ z H' ad', Ext ad F H ad' H' → HoldC T K ad' F H' cs' → SlRep T K ad' F H' z s → Q z H') → r vs H Q
theorem call_then {K : PySem.W.Frag} {r : List V → Hp → VK → Prop} {ss : List Sl} {σ : St} {H : Hp} {Q : VK} (hr : RCD T K r ss S1.cs s cs') (h : tD T K S s ⟨S1.sl, cs'⟩ σ H Q) : tDA T K S ss S1 σ H fun vs H1 => r vs H1 Q := by
  obtain ⟨ad, F, h0, q⟩ := h
  refine ⟨ad, F, h0, fun vs H1 ad1 x1 h1 r1 => ?_⟩
  exact hr ad1 F H1 vs Q h1.hc r1 fun z H' ad' x2 c2 r2 => q z H' ad' (x1.trans h1.hc x2) (h1.to x2 c2) r2
theorem de_callB {id : String} {r : List V → Hp → VK → Prop} {x : Str} {p : Pos} {es : List Expr} {ss : List Sl} (hc : CallR X (.builtin id) r) (hm : X.mg x = none) (hv : bootBuiltins x = some (.builtin id)) (ha : DA X T S (e :: es) ss S1) (hr : RCD T X.K r ss S1.cs s cs')
    (hg : Gl X x := by rfl) (hn : x ≠ "__name__" := by decide) (hdb : (x == ("__debug__" : Str)) = false := by decide)
    (he : starEach (e :: es) X.env = (false, eval e X.env) :: starEach es X.env := by rfl) (hpl : (backTo pos (starEach es X.env)).any (·.1) = false := by rfl) : DE X T S (.Call (.Name x p) (e :: es) [] pos) s ⟨S1.sl, cs'⟩ :=
  weak (pe_callB hc hg hm hv ha hn hdb he hpl) fun _ _ _ h => call_then hr h
theorem de_callTy {id : String} {r : List V → Hp → VK → Prop} {x : Str} {p : Pos} {es : List Expr} {ss : List Sl} (hc : CallR X (.type id) r) (hm : X.mg x = none) (hv : bootBuiltins x = some (.type id)) (ha : DA X T S (e :: es) ss S1) (hr : RCD T X.K r ss S1.cs s cs')
    (hg : Gl X x := by rfl) (hn : x ≠ "__name__" := by decide) (hdb : (x == ("__debug__" : Str)) = false := by decide)
    (he : starEach (e :: es) X.env = (false, eval e X.env) :: starEach es X.env := by rfl) (hpl : (backTo pos (starEach es X.env)).any (·.1) = false := by rfl) : DE X T S (.Call (.Name x p) (e :: es) [] pos) s ⟨S1.sl, cs'⟩ :=
  weak (pe_callTy hc hg hm hv ha hn hdb he hpl) fun _ _ _ h => call_then hr h
end
end Dl

namespace Dl
open PySem L2

/-! ### tests -/
def tDT (T : Tab) (K : PySem.W.Frag) (S : Sta) (b : Bool) (S' : Sta) : TT := fun σ H Q => ∃ ad F, Hold T K S ad F σ H ∧ ∀ H' ad', Ext ad F H ad' H' → Hold T K S' ad' F σ H' → Q b H'
def DT (X : Cx) (T : Tab) (S : Sta) (e : Expr) (b : Bool) (S' : Sta) : Prop := PT X e (tDT T X.K S b S')
def DW (X : Cx) (T : Tab) (S : Sta) (e : Expr) (b : Bool) (S' : Sta) : Prop := PW X e (tDT T X.K S b S')
theorem weakW {X : Cx} {e : Expr} {t t' : TT} (h : PW X e t) (q : ∀ σ H Q, t' σ H Q → t σ H Q) : PW X e t' := ⟨fun whole pins s σ H Q I z => h.run whole pins s σ H Q I (q σ H Q z)⟩
theorem noE {X : Cx} {e : Expr} : PE X e (fun _ _ _ => False) := ⟨fun _ _ _ _ _ _ h => h.elim⟩
theorem noW {X : Cx} {e : Expr} : PW X e (fun _ _ _ => False) := ⟨fun _ _ _ _ _ _ _ h => h.elim⟩
theorem noSs {X : Cx} {e : List Stmt} : PSs X e (fun _ _ _ => False) := ⟨fun _ _ _ _ _ _ h => h.elim⟩
section
variable {X : Cx} {T : Tab} {S S1 S2 S3 : Sta} {a b e c : Expr} {pos : Pos} {s s1 s2 : Sl} {cs cs' : List Cell} {d d1 d2 : D} {i j : Int} {k k1 k2 : Bool} {rest : List Expr}
theorem DW.pt (h : DW X T S e k S1) : DT X T S e k S1 := PW.pt h
theorem dt_val (h : DE X T S e (.dat (.bl k)) S1) (he : ∀ whole, isTrue e X.env whole = (do let v ← whole; standAt e.pos; holding [v] (truthy v)) := by intro _; rfl) : DT X T S e k S1 :=
  weakT (pt_val h he) fun σ H Q ⟨ad, F, h, q⟩ => ⟨ad, F, h, fun v H1 ad1 x1 h1 r1 => by cases r1; exact ⟨k, rfl, q H1 ad1 x1 h1⟩⟩
theorem dt_not (h : DT X T S a k S1) : DT X T S (.UnaryOp .Not a pos) (!k) S1 := weakT (pt_not h) fun σ H Q ⟨ad, F, h, q⟩ => ⟨ad, F, h, fun H1 ad1 x1 h1 => q H1 ad1 x1 h1⟩
theorem dw_and1 (h : DT X T S a k S1) : DW X T S (.BoolOp .And [a] pos) k S1 := pw_and1 h
theorem dw_or1 (h : DT X T S a k S1) : DW X T S (.BoolOp .Or [a] pos) k S1 := pw_or1 h
theorem dw_andT (ha : DT X T S a true S1) (hb : DW X T S1 (.BoolOp .And (b :: rest) pos) k S2) : DW X T S (.BoolOp .And (a :: b :: rest) pos) k S2 :=
  weakW (pw_and ha hb) fun σ H Q ⟨ad, F, h, q⟩ => ⟨ad, F, h, fun H1 ad1 x1 h1 => iteT ⟨ad1, F, h1, fun H2 ad2 x2 h2 => q H2 ad2 (x1.trans h1.hc x2) h2⟩⟩
theorem dw_andF (ha : DT X T S a false S1) : DW X T S (.BoolOp .And (a :: b :: rest) pos) false S1 :=
  weakW (pw_and ha noW) fun σ H Q ⟨ad, F, h, q⟩ => ⟨ad, F, h, fun H1 ad1 x1 h1 => iteF (q H1 ad1 x1 h1)⟩
theorem dw_orF (ha : DT X T S a false S1) (hb : DW X T S1 (.BoolOp .Or (b :: rest) pos) k S2) : DW X T S (.BoolOp .Or (a :: b :: rest) pos) k S2 :=
  weakW (pw_or ha hb) fun σ H Q ⟨ad, F, h, q⟩ => ⟨ad, F, h, fun H1 ad1 x1 h1 => iteF ⟨ad1, F, h1, fun H2 ad2 x2 h2 => q H2 ad2 (x1.trans h1.hc x2) h2⟩⟩
theorem dw_orT (ha : DT X T S a true S1) : DW X T S (.BoolOp .Or (a :: b :: rest) pos) true S1 :=
  weakW (pw_or ha noW) fun σ H Q ⟨ad, F, h, q⟩ => ⟨ad, F, h, fun H1 ad1 x1 h1 => iteT (q H1 ad1 x1 h1)⟩
/-- and, or: the state stays -/
theorem dw_and (ha : DT X T S a k1 S) (hb : k1 = true → DW X T S (.BoolOp .And (b :: rest) pos) k2 S) : DW X T S (.BoolOp .And (a :: b :: rest) pos) (k1 && k2) S := by
  cases k1 with
  | true => exact dw_andT ha (hb rfl)
  | false => exact dw_andF ha
theorem dw_or (ha : DT X T S a k1 S) (hb : k1 = false → DW X T S (.BoolOp .Or (b :: rest) pos) k2 S) : DW X T S (.BoolOp .Or (a :: b :: rest) pos) (k1 || k2) S := by
  cases k1 with
  | true => exact dw_orT ha
  | false => exact dw_orF ha (hb rfl)
/-! #### as values -/
theorem de_one {op} (h : DE X T S a s S1) : DE X T S (.BoolOp op [a] pos) s S1 := pe_one h
theorem de_andT (ha : DE X T S a (.dat (.bl true)) S1) (hb : DE X T S1 (.BoolOp .And (b :: rest) pos) s S2) : DE X T S (.BoolOp .And (a :: b :: rest) pos) s S2 :=
  weak (pe_and ha hb) fun σ H Q ⟨ad, F, h, q⟩ => ⟨ad, F, h, fun v H1 ad1 x1 h1 r1 => by cases r1; exact ⟨true, rfl, iteT ⟨ad1, F, h1, fun v2 H2 ad2 x2 h2 r2 => q v2 H2 ad2 (x1.trans h1.hc x2) h2 r2⟩⟩⟩
theorem de_andF (ha : DE X T S a (.dat (.bl false)) S1) : DE X T S (.BoolOp .And (a :: b :: rest) pos) (.dat (.bl false)) S1 :=
  weak (pe_and ha noE) fun σ H Q ⟨ad, F, h, q⟩ => ⟨ad, F, h, fun v H1 ad1 x1 h1 r1 => by cases r1; exact ⟨false, rfl, iteF (q _ H1 ad1 x1 h1 .bl)⟩⟩
theorem de_orF (ha : DE X T S a (.dat (.bl false)) S1) (hb : DE X T S1 (.BoolOp .Or (b :: rest) pos) s S2) : DE X T S (.BoolOp .Or (a :: b :: rest) pos) s S2 :=
  weak (pe_or ha hb) fun σ H Q ⟨ad, F, h, q⟩ => ⟨ad, F, h, fun v H1 ad1 x1 h1 r1 => by cases r1; exact ⟨false, rfl, iteF ⟨ad1, F, h1, fun v2 H2 ad2 x2 h2 r2 => q v2 H2 ad2 (x1.trans h1.hc x2) h2 r2⟩⟩⟩
theorem de_orT (ha : DE X T S a (.dat (.bl true)) S1) : DE X T S (.BoolOp .Or (a :: b :: rest) pos) (.dat (.bl true)) S1 :=
  weak (pe_or ha noE) fun σ H Q ⟨ad, F, h, q⟩ => ⟨ad, F, h, fun v H1 ad1 x1 h1 r1 => by cases r1; exact ⟨true, rfl, iteT (q _ H1 ad1 x1 h1 .bl)⟩⟩
theorem de_and (ha : DE X T S a (.dat (.bl k1)) S) (hb : k1 = true → DE X T S (.BoolOp .And (b :: rest) pos) (.dat (.bl k2)) S) : DE X T S (.BoolOp .And (a :: b :: rest) pos) (.dat (.bl (k1 && k2))) S := by
  cases k1 with
  | true => exact de_andT ha (hb rfl)
  | false => exact de_andF ha
theorem de_or (ha : DE X T S a (.dat (.bl k1)) S) (hb : k1 = false → DE X T S (.BoolOp .Or (b :: rest) pos) (.dat (.bl k2)) S) : DE X T S (.BoolOp .Or (a :: b :: rest) pos) (.dat (.bl (k1 || k2))) S := by
  cases k1 with
  | true => exact de_orT ha
  | false => exact de_orF ha (hb rfl)
theorem de_not (ha : DE X T S a (.dat (.bl k)) S1) : DE X T S (.UnaryOp .Not a pos) (.dat (.bl (!k))) S1 :=
  weak (pe_not ha) fun σ H Q ⟨ad, F, h, q⟩ => ⟨ad, F, h, fun v H1 ad1 x1 h1 r1 => by cases r1; exact ⟨k, rfl, q _ H1 ad1 x1 h1 .bl⟩⟩
theorem de_ifT (hc : DT X T S c true S1) (ha : DE X T S1 a s S2) : DE X T S (.IfExp c a b pos) s S2 :=
  weak (pe_ifExp hc ha noE) fun σ H Q ⟨ad, F, h, q⟩ => ⟨ad, F, h, fun H1 ad1 x1 h1 => iteT ⟨ad1, F, h1, fun v2 H2 ad2 x2 h2 r2 => q v2 H2 ad2 (x1.trans h1.hc x2) h2 r2⟩⟩
theorem de_ifF (hc : DT X T S c false S1) (hb : DE X T S1 b s S2) : DE X T S (.IfExp c a b pos) s S2 :=
  weak (pe_ifExp hc noE hb) fun σ H Q ⟨ad, F, h, q⟩ => ⟨ad, F, h, fun H1 ad1 x1 h1 => iteF ⟨ad1, F, h1, fun v2 H2 ad2 x2 h2 r2 => q v2 H2 ad2 (x1.trans h1.hc x2) h2 r2⟩⟩
theorem de_if (hc : DT X T S c k S1) (ha : k = true → DE X T S1 a (.dat d1) S2) (hb : k = false → DE X T S1 b (.dat d2) S2) : DE X T S (.IfExp c a b pos) (.dat (if k then d1 else d2)) S2 := by
  cases k with
  | true => exact de_ifT hc (ha rfl)
  | false => exact de_ifF hc (hb rfl)
end

/-! ### statements -/
/-- an error: the number of its class, its attributes -/
structure Exc where
  n : Nat
  fs : List D
def ExRep (T : Tab) (K : PySem.W.Frag) (M : Addr → Prop) (H : Hp) (cls : Value) (d : Option Addr) (x : Exc) : Prop :=
  ∃ C fn, T x.n = some (C, fn) ∧ cls = .ref C ∧ ((fn = [] ∧ x.fs = [] ∧ d = none) ∨ ∃ dd vs, d = some dd ∧ ¬ M dd ∧ H dd = some (.xd (fn.zip vs)) ∧ vs.length = fn.length ∧ Reps T K M H vs x.fs)
structure Post where
  nx : Sta → Prop
  rt : Sl → List Cell → Prop
  bk : Sta → Prop := fun _ => False
  ct : Sta → Prop := fun _ => False
  ex : Exc → Sta → Prop := fun _ _ => False
  W : WX := fun _ _ _ _ => False

structure ExtS (n : Nat) (ad : List Addr) (F : Addr → Prop) (H : Hp) (ad' : List Addr) (H' : Hp) : Prop where
  pre : ad'.take n = ad.take n
  sub : ∀ a ∈ ad', a ∈ ad ∨ H a = none
  keep : ∀ a o, H a = some o → ¬ Mm ad F a → H' a = some o
  frm : ∀ a, F a → H' a = H a
theorem ExtS.refl {n : Nat} {ad : List Addr} {F : Addr → Prop} {H : Hp} : ExtS n ad F H ad H := ⟨rfl, fun _ h => .inl h, fun _ _ h _ => h, fun _ _ => rfl⟩
theorem ExtS.kp {n : Nat} {ad ad1 : List Addr} {F : Addr → Prop} {H H1 : Hp} (x : ExtS n ad F H ad1 H1) : Kp (Mm ad F) H (Mm ad1 F) H1 := fun a o h n => by
  refine ⟨x.keep a o h n, fun z => ?_⟩
  rcases z with z | z
  · rcases x.sub a z with q | q
    · exact n (.inl q)
    · rw [q] at h; cases h
  · exact n (.inr z)
theorem ExtS.trans {n : Nat} {ad ad1 ad2 : List Addr} {F : Addr → Prop} {H H1 H2 : Hp} (x : ExtS n ad F H ad1 H1) (y : ExtS n ad1 F H1 ad2 H2) : ExtS n ad F H ad2 H2 := by
  refine ⟨y.pre.trans x.pre, fun a ha => ?_, fun a o h n => y.keep a o (x.keep a o h n) (x.kp a o h n).2, fun a fa => (y.frm a fa).trans (x.frm a fa)⟩
  rcases y.sub a ha with q | q
  · exact x.sub a q
  · cases e : H a with
    | none => exact .inr rfl
    | some o =>
      by_cases m : Mm ad F a
      · rcases m with m | m
        · exact .inl m
        · rw [x.frm a m, e] at q; cases q
      · rw [x.keep a o e m] at q; cases q
theorem Ext.s {n : Nat} {ad ad1 : List Addr} {F : Addr → Prop} {H H1 : Hp} (x : Ext ad F H ad1 H1) (hn : n ≤ ad.length) : ExtS n ad F H ad1 H1 := by
  obtain ⟨t, e, ht⟩ := x.pre
  refine ⟨by rw [e, List.take_append_of_le_length hn], fun a ha => ?_, x.keep, x.frm⟩
  rw [e] at ha
  exact (List.mem_append.mp ha).imp id (ht a)

def tDS (T : Tab) (K : PySem.W.Frag) (n : Nat) (S : Sta) (P : Post) : TS := fun D σ H => ∃ ad F, n ≤ ad.length ∧ Hold T K S ad F σ H ∧
  (∀ S' σ' H' ad', ExtS n ad F H ad' H' → n ≤ ad'.length → Hold T K S' ad' F σ' H' → P.nx S' → D.nx σ' H') ∧
  (∀ s cs' v H' ad', ExtS n ad F H ad' H' → n ≤ ad'.length → HoldC T K ad' F H' cs' → SlRep T K ad' F H' v s → P.rt s cs' → D.rt v H') ∧
  (∀ S' σ' H' ad', ExtS n ad F H ad' H' → n ≤ ad'.length → Hold T K S' ad' F σ' H' → P.bk S' → D.bk σ' H') ∧
  (∀ S' σ' H' ad', ExtS n ad F H ad' H' → n ≤ ad'.length → Hold T K S' ad' F σ' H' → P.ct S' → D.ct σ' H') ∧
  (∀ x S' cls d σ' H' ad', ExtS n ad F H ad' H' → n ≤ ad'.length → Hold T K S' ad' F σ' H' → ExRep T K (Mm ad' F) H' cls d x → P.ex x S' → P.W cls d σ' H')
def DS (X : Cx) (T : Tab) (n : Nat) (S : Sta) (st : Stmt) (P : Post) : Prop := PS X st (tDS T X.K n S P)
def DSs (X : Cx) (T : Tab) (n : Nat) (S : Sta) (sts : List Stmt) (P : Post) : Prop := PSs X sts (tDS T X.K n S P)

section
variable {X : Cx} {T : Tab} {n : Nat} {S S1 S2 S3 : Sta} {a b e c : Expr} {pos : Pos} {s s1 s2 : Sl} {cs cs' : List Cell} {d d1 d2 : D} {i j : Int} {k k1 k2 : Bool} {rest body els : List Stmt} {st : Stmt} {P : Post}

theorem dss_nil (h : P.nx S) : DSs X T n S [] P := weakSs pss_nil fun D σ H ⟨ad, F, hn, h0, q, _⟩ => q S σ H ad .refl hn h0 h
theorem dss_cons (h : DS X T n S st { P with nx := fun S' => DSs X T n S' rest P }) : DSs X T n S (st :: rest) P := by
  have h2 : PSs X rest (fun D σ H => ∃ S', DSs X T n S' rest P ∧ tDS T X.K n S' P D σ H) := ⟨fun pins s σ H D I ⟨S', hS, z⟩ => hS.run pins s σ H D I z⟩
  refine weakSs (pss_cons h h2) fun D σ H ⟨ad, F, hn, h0, q1, q2, q3, q4, q5⟩ => ⟨ad, F, hn, h0, fun S' σ' H' ad' x hn' h' hS => ⟨S', hS, ad', F, hn', h', ?_, ?_, ?_, ?_, ?_⟩, q2, q3, q4, q5⟩
  · exact fun S2 σ2 H2 ad2 x2 hn2 h2 p => q1 S2 σ2 H2 ad2 (x.trans x2) hn2 h2 p
  · exact fun s cs2 v H2 ad2 x2 hn2 c2 r p => q2 s cs2 v H2 ad2 (x.trans x2) hn2 c2 r p
  · exact fun S2 σ2 H2 ad2 x2 hn2 h2 p => q3 S2 σ2 H2 ad2 (x.trans x2) hn2 h2 p
  · exact fun S2 σ2 H2 ad2 x2 hn2 h2 p => q4 S2 σ2 H2 ad2 (x.trans x2) hn2 h2 p
  · exact fun z S2 cls d σ2 H2 ad2 x2 hn2 h2 r p => q5 z S2 cls d σ2 H2 ad2 (x.trans x2) hn2 h2 r p
theorem Ext.le {ad ad1 : List Addr} {F : Addr → Prop} {H H1 : Hp} (x : Ext ad F H ad1 H1) (h : n ≤ ad.length) : n ≤ ad1.length := by
  obtain ⟨t, e, _⟩ := x.pre
  rw [e, List.length_append]
  omega
/-- the state behind, seen with other ends -/
theorem tDS.go {K : PySem.W.Frag} {D : Ends} {σ σ' : St} {H H1 : Hp} {ad ad1 : List Addr} {F : Addr → Prop} (x : ExtS n ad F H ad1 H1) (hn : n ≤ ad1.length) (h : Hold T K S1 ad1 F σ' H1)
    (q1 : ∀ S' σ' H' ad', ExtS n ad F H ad' H' → n ≤ ad'.length → Hold T K S' ad' F σ' H' → P.nx S' → D.nx σ' H')
    (q2 : ∀ s cs' v H' ad', ExtS n ad F H ad' H' → n ≤ ad'.length → HoldC T K ad' F H' cs' → SlRep T K ad' F H' v s → P.rt s cs' → D.rt v H')
    (q3 : ∀ S' σ' H' ad', ExtS n ad F H ad' H' → n ≤ ad'.length → Hold T K S' ad' F σ' H' → P.bk S' → D.bk σ' H')
    (q4 : ∀ S' σ' H' ad', ExtS n ad F H ad' H' → n ≤ ad'.length → Hold T K S' ad' F σ' H' → P.ct S' → D.ct σ' H')
    (q5 : ∀ x S' cls d σ' H' ad', ExtS n ad F H ad' H' → n ≤ ad'.length → Hold T K S' ad' F σ' H' → ExRep T K (Mm ad' F) H' cls d x → P.ex x S' → P.W cls d σ' H') : tDS T K n S1 P D σ' H1 :=
  ⟨ad1, F, hn, h, fun S2 σ2 H2 ad2 x2 hn2 h2 p => q1 S2 σ2 H2 ad2 (x.trans x2) hn2 h2 p, fun s cs2 v H2 ad2 x2 hn2 c2 r p => q2 s cs2 v H2 ad2 (x.trans x2) hn2 c2 r p,
    fun S2 σ2 H2 ad2 x2 hn2 h2 p => q3 S2 σ2 H2 ad2 (x.trans x2) hn2 h2 p, fun S2 σ2 H2 ad2 x2 hn2 h2 p => q4 S2 σ2 H2 ad2 (x.trans x2) hn2 h2 p,
    fun z S2 cls d σ2 H2 ad2 x2 hn2 h2 r p => q5 z S2 cls d σ2 H2 ad2 (x.trans x2) hn2 h2 r p⟩
theorem ds_pass (h : P.nx S) : DS X T n S (.Pass pos) P := weakS ps_pass fun D σ H ⟨ad, F, hn, h0, q, _⟩ => q S σ H ad .refl hn h0 h
theorem ds_break (h : P.bk S) : DS X T n S (.Break pos) P := weakS ps_break fun D σ H ⟨ad, F, hn, h0, _, _, q, _⟩ => q S σ H ad .refl hn h0 h
theorem ds_continue (h : P.ct S) : DS X T n S (.Continue pos) P := weakS ps_continue fun D σ H ⟨ad, F, hn, h0, _, _, _, q, _⟩ => q S σ H ad .refl hn h0 h
theorem Hold.set {K : PySem.W.Frag} {ad : List Addr} {F : Addr → Prop} {σ : St} {H : Hp} {v : V} (h : Hold T K S ad F σ H) (r : SlRep T K ad F H v s) (i : Nat) : Hold T K ⟨S.sl.set i (some s), S.cs⟩ ad F (σ.set i (some v)) H := by
  refine ⟨h.hc, by simp [h.sz], fun j u e => ?_⟩
  by_cases hj : i = j
  · subst hj
    have hl : i < S.sl.length := by
      have := (List.getElem?_eq_some_iff.mp e).1
      simpa using this
    rw [List.getElem?_set_self hl] at e
    cases e
    exact ⟨v, by rw [List.getElem?_set_self (by rw [h.sz]; exact hl)], r⟩
  · rw [List.getElem?_set_ne hj] at e
    obtain ⟨w, hw, rw'⟩ := h.sl j u e
    exact ⟨w, by rw [List.getElem?_set_ne hj]; exact hw, rw'⟩
theorem ds_asg (i : Nat) {x : Str} {p' : Pos} (hN : X.N.Nodup) (he : DE X T S e s S1) (h : P.nx ⟨S1.sl.set i (some s), S1.cs⟩) (hi : X.N[i]? = some x := by rfl) (hx : Loc X.env.scope x := by first | exact Or.inl rfl | exact Or.inr rfl)
    (hs : swapsWith e (some (.Name x p')) pos.line X.env = pure false := by rfl) (hf : X.fn x = true ∨ X.env.scope.names.lookup x = some .local := by first | exact .inl rfl | exact .inr rfl) : DS X T n S (.Assign [.Name x p'] e pos) P :=
  weakS (ps_set hN hi hx he hs hf) fun D σ H ⟨ad, F, hn, h0, q, _⟩ => ⟨ad, F, h0, fun v H1 ad1 x1 h1 r1 => q _ _ H1 ad1 (x1.s hn) (x1.le hn) (h1.set r1 i) h⟩
theorem ds_expr (he : DE X T S e s S1) (h : P.nx S1) (hs : swapsWith e none pos.line X.env = pure false := by rfl) : DS X T n S (.Expr e pos) P :=
  weakS (ps_expr he hs) fun D σ H ⟨ad, F, hn, h0, q, _⟩ => ⟨ad, F, h0, fun v H1 ad1 x1 h1 r1 => q S1 σ H1 ad1 (x1.s hn) (x1.le hn) h1 h⟩
/-- return of data: the def's own cells are dropped -/
theorem ds_ret (he : DE X T S e (.dat d) S1) (h : P.rt (.dat d) (S1.cs.take n)) : DS X T n S (.Return (some e) pos) P :=
  weakS (ps_ret he) fun D σ H ⟨ad, F, hn, h0, _, q, _⟩ => ⟨ad, F, h0, fun v H1 ad1 x1 h1 r1 => by
    have xs := x1.s hn
    have hn1 := x1.le hn
    have kp : Kp (Mm ad1 F) H1 (Mm (ad1.take n) F) H1 := fun a o e z => ⟨e, fun y => z (y.imp List.mem_of_mem_take id)⟩
    refine q (.dat d) _ v H1 (ad1.take n) ⟨by rw [List.take_take, Nat.min_self]; exact xs.pre, fun a ha => xs.sub a (List.mem_of_mem_take ha), xs.keep, xs.frm⟩ (by rw [List.length_take]; omega) (h1.hc.take n) (Rep.kp kp r1) h⟩
theorem ds_retN (h : P.rt (.dat .non) (S.cs.take n)) : DS X T n S (.Return none pos) P :=
  weakS ps_retN fun D σ H ⟨ad, F, hn, h0, _, q, _⟩ => by
    refine q (.dat .non) _ .non H (ad.take n) ⟨by rw [List.take_take, Nat.min_self], fun a ha => .inl (List.mem_of_mem_take ha), fun _ _ e _ => e, fun _ _ => rfl⟩ (by rw [List.length_take]; omega) (h0.hc.take n) Rep.non h
/-- return of a new cell -/
theorem ds_retC (m : Nat) {k : Nat} (he : DE X T S e (.cel k) S1) (hm : n ≤ m) (hk : k < m) (h : P.rt (.cel k) (S1.cs.take m)) : DS X T n S (.Return (some e) pos) P :=
  weakS (ps_ret he) fun D σ H ⟨ad, F, hn, h0, _, q, _⟩ => ⟨ad, F, h0, fun v H1 ad1 x1 h1 r1 => by
    have xs := x1.s hn
    have hn1 := x1.le hn
    obtain ⟨a, ha, hv⟩ := r1
    refine q (.cel k) _ v H1 (ad1.take m) ⟨by rw [List.take_take, Nat.min_eq_left hm]; exact xs.pre, fun a ha => xs.sub a (List.mem_of_mem_take ha), xs.keep, xs.frm⟩ (by rw [List.length_take]; omega) (h1.hc.take m) ⟨a, by rw [List.getElem?_take_of_lt hk]; exact ha, hv⟩ h⟩
/-- return of a cell of the def's own, as data -/
theorem ds_retF {k : Nat} {ds : List D} (he : DE X T S e (.cel k) S1) (hk : n ≤ k) (hc : S1.cs[k]? = some (.lst ds)) (h : P.rt (.dat (.lst ds)) (S1.cs.take n)) : DS X T n S (.Return (some e) pos) P :=
  weakS (ps_ret he) fun D σ H ⟨ad, F, hn, h0, _, q, _⟩ => ⟨ad, F, h0, fun v H1 ad1 x1 h1 r1 => by
    have xs := x1.s hn
    have hn1 := x1.le hn
    obtain ⟨a, ha, rfl⟩ := r1
    have kp : Kp (Mm ad1 F) H1 (Mm (ad1.take n) F) H1 := fun a o e z => ⟨e, fun y => z (y.imp List.mem_of_mem_take id)⟩
    obtain ⟨vs, e1, r⟩ := h1.hc.ce k a _ ha hc
    have na : ¬ Mm (ad1.take n) F a := fun y => by
      rcases y with y | y
      · obtain ⟨m, hm, em⟩ := List.getElem_of_mem y
        have hm' : m < n := by rw [List.length_take] at hm; omega
        rw [List.getElem_take] at em
        have hm2 : m < ad1.length := by omega
        have := ix_inj (j := m) h1.hc.nd ha (by rw [List.getElem?_eq_getElem hm2, em])
        omega
      · exact h1.hc.fr a (List.mem_of_getElem? ha) y
    refine q (.dat (.lst ds)) _ _ H1 (ad1.take n) ⟨by rw [List.take_take, Nat.min_self]; exact xs.pre, fun a ha => xs.sub a (List.mem_of_mem_take ha), xs.keep, xs.frm⟩ (by rw [List.length_take]; omega) (h1.hc.take n) (Rep.lst na e1 (r.kp kp)) h⟩
theorem ds_if (hc : DT X T S c k S1) (h1 : k = true → DSs X T n S1 body P) (h2 : k = false → DSs X T n S1 els P) : DS X T n S (.If c body els pos) P := by
  cases k with
  | true => exact weakS (ps_if hc (h1 rfl) noSs) fun D σ H ⟨ad, F, hn, h0, q1, q2, q3, q4, q5⟩ => ⟨ad, F, h0, fun H1 ad1 x1 h1 => iteT (tDS.go (σ := σ) (x1.s hn) (x1.le hn) h1 q1 q2 q3 q4 q5)⟩
  | false => exact weakS (ps_if hc noSs (h2 rfl)) fun D σ H ⟨ad, F, hn, h0, q1, q2, q3, q4, q5⟩ => ⟨ad, F, h0, fun H1 ad1 x1 h1 => iteF (tDS.go (σ := σ) (x1.s hn) (x1.le hn) h1 q1 q2 q3 q4 q5)⟩
theorem ds_mono {P' : Post} (h : DS X T n S st P) (h1 : ∀ S, P.nx S → P'.nx S) (h2 : ∀ s cs, P.rt s cs → P'.rt s cs) (h3 : ∀ S, P.bk S → P'.bk S) (h4 : ∀ S, P.ct S → P'.ct S) (h5 : ∀ x S, P.ex x S → P'.ex x S) (hW : P'.W = P.W) : DS X T n S st P' :=
  weakS h fun D σ H ⟨ad, F, hn, h0, q1, q2, q3, q4, q5⟩ => ⟨ad, F, hn, h0, fun S2 σ2 H2 ad2 x2 hn2 h2' p => q1 S2 σ2 H2 ad2 x2 hn2 h2' (h1 _ p), fun s cs2 v H2 ad2 x2 hn2 c2 r p => q2 s cs2 v H2 ad2 x2 hn2 c2 r (h2 _ _ p),
    fun S2 σ2 H2 ad2 x2 hn2 h2' p => q3 S2 σ2 H2 ad2 x2 hn2 h2' (h3 _ p), fun S2 σ2 H2 ad2 x2 hn2 h2' p => q4 S2 σ2 H2 ad2 x2 hn2 h2' (h4 _ p),
    fun z S2 cls d σ2 H2 ad2 x2 hn2 h2' r p => by rw [← hW]; exact q5 z S2 cls d σ2 H2 ad2 x2 hn2 h2' r (h5 _ _ p)⟩
theorem dss_mono {sts : List Stmt} {P' : Post} (h : DSs X T n S sts P) (h1 : ∀ S, P.nx S → P'.nx S) (h2 : ∀ s cs, P.rt s cs → P'.rt s cs) (h3 : ∀ S, P.bk S → P'.bk S) (h4 : ∀ S, P.ct S → P'.ct S) (h5 : ∀ x S, P.ex x S → P'.ex x S) (hW : P'.W = P.W) : DSs X T n S sts P' :=
  weakSs h fun D σ H ⟨ad, F, hn, h0, q1, q2, q3, q4, q5⟩ => ⟨ad, F, hn, h0, fun S2 σ2 H2 ad2 x2 hn2 h2' p => q1 S2 σ2 H2 ad2 x2 hn2 h2' (h1 _ p), fun s cs2 v H2 ad2 x2 hn2 c2 r p => q2 s cs2 v H2 ad2 x2 hn2 c2 r (h2 _ _ p),
    fun S2 σ2 H2 ad2 x2 hn2 h2' p => q3 S2 σ2 H2 ad2 x2 hn2 h2' (h3 _ p), fun S2 σ2 H2 ad2 x2 hn2 h2' p => q4 S2 σ2 H2 ad2 x2 hn2 h2' (h4 _ p),
    fun z S2 cls d σ2 H2 ad2 x2 hn2 h2' r p => by rw [← hW]; exact q5 z S2 cls d σ2 H2 ad2 x2 hn2 h2' r (h5 _ _ p)⟩
/-- slots and cells at the end may be forgotten -/
theorem dss_forget {sts : List Stmt} {sl' : List (Option Sl)} (m : Nat) (h : DSs X T n ⟨sl', S.cs.take m⟩ sts P) (hm : n ≤ m) (hl : sl'.length = S.sl.length) (hs : ∀ (i : Nat) s, sl'[i]? = some (some s) → S.sl[i]? = some (some s) ∧ (∀ k, s = .cel k → k < m)) : DSs X T n S sts P :=
  weakSs h fun D σ H ⟨ad, F, hn, h0, q1, q2, q3, q4, q5⟩ => by
    have kp : Kp (Mm ad F) H (Mm (ad.take m) F) H := fun a o e z => ⟨e, fun y => z (y.imp List.mem_of_mem_take id)⟩
    have x : ExtS n ad F H (ad.take m) H := ⟨by rw [List.take_take, Nat.min_eq_left hm], fun a ha => .inl (List.mem_of_mem_take ha), fun _ _ e _ => e, fun _ _ => rfl⟩
    refine tDS.go (σ := σ) x (by rw [List.length_take]; omega) ⟨h0.hc.take m, by rw [h0.sz, hl], fun i s e => ?_⟩ q1 q2 q3 q4 q5
    obtain ⟨e1, e2⟩ := hs i s e
    obtain ⟨v, hv, r⟩ := h0.sl i s e1
    refine ⟨v, hv, ?_⟩
    cases s with
    | dat d => exact Rep.kp kp r
    | cel k =>
      obtain ⟨a, ha, ev⟩ := r
      exact ⟨a, by rw [List.getElem?_take_of_lt (e2 k rfl)]; exact ha, ev⟩
end

/-! ### defs -/
/-- a contract: arguments, the cells handed in; the answer, the cells behind -/
abbrev Ct := List Sl → List Cell → Sl → List Cell → Prop
def spC (T : Tab) (K : PySem.W.Frag) (c : Ct) : Sp := fun vs H Q _ => ∃ ad F args cs s cs', HoldC T K ad F H cs ∧ SlReps T K ad F H vs args ∧ c args cs s cs' ∧
  ∀ v H' ad', ExtS cs.length ad F H ad' H' → cs.length ≤ ad'.length → HoldC T K ad' F H' cs' → SlRep T K ad' F H' v s → Q v H'
theorem start_hold {T : Tab} {K : PySem.W.Frag} {N : List Str} {ad : List Addr} {F : Addr → Prop} {H : Hp} {vs : List V} {args : List Sl} {cs : List Cell} (hc : HoldC T K ad F H cs) (r : SlReps T K ad F H vs args) :
    Hold T K ⟨args.map some ++ List.replicate (N.length - args.length) none, cs⟩ ad F (L2.start N vs) H := by
  have hl := r.len
  refine ⟨hc, by unfold L2.start; simp [hl], fun i s e => ?_⟩
  have hi : i < args.length := by
    by_cases hi : i < args.length
    · exact hi
    · have e : (args.map some ++ List.replicate (N.length - args.length) none)[i]? = some (some s) := e
      rw [List.getElem?_append_right (by simpa using hi), List.getElem?_replicate] at e
      split at e <;> cases e
  have e : (args.map some ++ List.replicate (N.length - args.length) none)[i]? = some (some s) := e
  rw [List.getElem?_append_left (by simpa using hi), List.getElem?_map] at e
  have ea : args[i]? = some s := by
    cases q : args[i]? with
    | none => rw [q] at e; cases e
    | some z => rw [q] at e; cases e; rfl
  have get : ∀ {vs : List V} {args : List Sl} {i : Nat}, SlReps T K ad F H vs args → args[i]? = some s → ∃ v, vs[i]? = some v ∧ SlRep T K ad F H v s := by
    intro vs args
    induction args generalizing vs with
    | nil => intro i _ e; simp at e
    | cons a args ih =>
      intro i r e
      cases vs with
      | nil => exact r.elim
      | cons v vs =>
        cases i with
        | zero => simp at e; subst e; exact ⟨v, rfl, r.1⟩
        | succ i => simpa using ih r.2 (by simpa using e)
  obtain ⟨v, hv, rv⟩ := get r ea
  refine ⟨v, ?_, rv⟩
  unfold L2.start
  rw [List.getElem?_append_left (by simpa using (hl ▸ hi : i < vs.length)), List.getElem?_map, hv]
  rfl
section
variable {T : Tab} {P : Program} {w : World} {K : PySem.W.Frag} {mg : Str → Option Value} {base : Heap}
/-- the state at a def's entry -/
abbrev st0 (N : List Str) (args : List Sl) (cs : List Cell) : Sta := ⟨args.map some ++ List.replicate (N.length - args.length) none, cs⟩
/-- what is to be shown at a def's end -/
abbrev endOf (n : Nat) (s : Sl) (cs' : List Cell) : Post := { nx := fun S => s = .dat .non ∧ S.cs.take n = cs', rt := fun r c => r = s ∧ c = cs' }
/-- a def's own context -/
abbrev cx0 (P : Program) (w : World) (K : PySem.W.Frag) (mg : Str → Option Value) (base : Heap) (N : List Str) (qual : Str) (st : Stmt) (f : Addr) (cdv : Value) (A : Around) (outer : List Env) (s : Shared) (H : Hp) (E : XK) : Cx := (cxOf CX0 P w K mg base N qual (defScope st) f cdv A outer s H E).nox
theorem fn_ok {x qual : Str} {st : Stmt} {f : Addr} {fd : FuncData} {N ps : List Str} {k : Nat} {c : Ct} (F : Fun K x qual st f fd) (Sc : FnScope N ps (defScope st)) (len : ∀ args cs s cs', c args cs s cs' → args.length = ps.length)
    (body : ∀ cdv A outer sh H E, Room k (cx0 P w K mg base N qual st f cdv A outer sh H E).A → ∀ args cs s cs', c args cs s cs' →
      DSs (cx0 P w K mg base N qual st f cdv A outer sh H E) T cs.length (st0 N args cs) (defBody st) (endOf cs.length s cs')) : FnOk P w K mg base CX0 (k + 1) f fd ps (spC T K c) := by
  refine F.ok Sc (fun vs H Q E h => ?_) (fun cdv A outer s H vs Q E hr h => ?_)
  · obtain ⟨ad, F', args, cs, s, cs', _, r, hc, _⟩ := h
    rw [r.len, len _ _ _ _ hc]
  · obtain ⟨ad, F', args, cs, s0, cs', hc, r, h, q⟩ := h
    refine ⟨_, body cdv A outer s H E hr args cs s0 cs' h, ad, F', Nat.le_of_eq hc.ln.symm, start_hold hc r, ?_, ?_, fun _ _ _ _ _ _ _ z => z.elim, fun _ _ _ _ _ _ _ z => z.elim, fun _ _ _ _ _ _ _ _ _ _ _ z => z.elim⟩
    · rintro S' σ' H' ad' x hn h' ⟨rfl, e⟩
      subst e
      refine q .non H' (ad'.take cs.length) ⟨by rw [List.take_take, Nat.min_self]; exact x.pre, fun a ha => x.sub a (List.mem_of_mem_take ha), x.keep, x.frm⟩ (by rw [List.length_take]; omega) (h'.hc.take _) Rep.non
    · rintro s2 cs2 v H' ad' x hn c2 r2 ⟨rfl, rfl⟩
      exact q v H' ad' x hn c2 r2
end
end Dl

namespace Dl
open PySem L2

/-! ### calls of defs -/
section
variable {T : Tab} {K : PySem.W.Frag} {F : Addr → Prop} {ad ad' : List Addr} {H H' : Hp} {cs cs' : List Cell} {v : V} {d : D} {s : Sl} {k : Nat} {c0 c1 : Cell} {a : Addr}
/-- a callee that gets no cell -/
theorem frame0 (h : HoldC T K ad F H cs) : HoldC T K [] (Mm ad F) H [] := ⟨List.nodup_nil, fun _ z => (nomatch z), fun a z => z.elim (fun z => h.mem z) (h.al a), rfl, fun k a c e => nomatch e⟩
theorem kp_in (h : HoldC T K ad F H cs) : Kp (Mm ad F) H (Mm [] (Mm ad F)) H := fun a o e n => ⟨e, fun z => n (Or.resolve_left z (by simp))⟩
theorem kp_out {ad2 : List Addr} : Kp (Mm ad2 (Mm ad F)) H (Mm ad F) H := fun a o e n => ⟨e, fun z => n (.inr z)⟩
theorem SlReps.kp {M : Addr → Prop} {ad2 : List Addr} {F2 : Addr → Prop} {H2 : Hp} (k : Kp (Mm ad F) H (Mm ad2 F2) H2) : ∀ {vs : List V} {ds : List D}, SlReps T K ad F H vs (ds.map Sl.dat) → SlReps T K ad2 F2 H2 vs (ds.map Sl.dat)
  | [], [], _ => trivial
  | _ :: _, _ :: _, h => ⟨Rep.kp k h.1, SlReps.kp (M := M) k h.2⟩
/-- .. behind it -/
theorem back0 (h : HoldC T K ad F H cs) {ad2 : List Addr} {n : Nat} (x : ExtS n [] (Mm ad F) H ad2 H') : HoldC T K ad F H' cs ∧ Ext ad F H ad H' := by
  have e : Ext ad F H ad H' := ⟨⟨[], by simp, fun _ z => nomatch z⟩, fun a o e n => x.keep a o e fun z => n (Or.resolve_left z (by simp)), fun a fa => x.frm a (.inr fa)⟩
  refine ⟨⟨h.nd, h.fr, fun a fa => ?_, h.ln, fun k a c h1 h2 => ?_⟩, e⟩
  · rw [e.frm a fa]; exact h.al a fa
  · exact (h.ce k a c h1 h2).kp e.kp (x.frm a (.inl (List.mem_of_getElem? h1)))
/-- a callee that gets the cell k -/
def Fk (ad : List Addr) (F : Addr → Prop) (a : Addr) : Addr → Prop := fun b => F b ∨ (b ∈ ad ∧ b ≠ a)
theorem mm_k (ha : a ∈ ad) (b : Addr) : Mm [a] (Fk ad F a) b ↔ Mm ad F b := by
  constructor
  · rintro (z | z | z)
    · rw [List.mem_singleton.mp z]; exact .inl ha
    · exact .inr z
    · exact .inl z.1
  · rintro (z | z)
    · by_cases e : b = a
      · exact .inl (by rw [e]; exact List.mem_singleton_self _)
      · exact .inr (.inr ⟨z, e⟩)
    · exact .inr (.inl z)
theorem frame1 (h : HoldC T K ad F H cs) (ha : ad[k]? = some a) (hc : cs[k]? = some c0) : HoldC T K [a] (Fk ad F a) H [c0] := by
  have hm : a ∈ ad := List.mem_of_getElem? ha
  refine ⟨by simp, fun b hb z => ?_, fun b z => ?_, rfl, fun j b c e1 e2 => ?_⟩
  · have := List.mem_singleton.mp hb
    subst this
    rcases z with z | z
    · exact h.fr _ hm z
    · exact z.2 rfl
  · rcases z with z | z
    · exact h.al b z
    · exact h.mem z.1
  · cases j with
    | zero =>
      simp at e1 e2
      subst e1 e2
      refine (h.ce k a _ ha hc).kp (fun b o e n => ⟨e, fun z => n ((mm_k hm b).mp z)⟩) rfl
    | succ j => simp at e1
theorem back1 (h : HoldC T K ad F H cs) (ha : ad[k]? = some a) (x : ExtS 1 [a] (Fk ad F a) H [a] H') (c : HoldC T K [a] (Fk ad F a) H' [c1]) : HoldC T K ad F H' (cs.set k c1) ∧ Ext ad F H ad H' := by
  have hm : a ∈ ad := List.mem_of_getElem? ha
  have e : Ext ad F H ad H' := ⟨⟨[], by simp, fun _ z => nomatch z⟩, fun b o e n => x.keep b o e fun z => n ((mm_k hm b).mp z), fun b fb => x.frm b (.inl fb)⟩
  refine ⟨⟨h.nd, h.fr, fun b fb => ?_, by simp [h.ln], fun j b c' h1 h2 => ?_⟩, e⟩
  · rw [e.frm b fb]; exact h.al b fb
  · by_cases hj : k = j
    · subst hj
      have hlt : k < cs.length := by rw [← h.ln]; exact (List.getElem?_eq_some_iff.mp ha).1
      rw [List.getElem?_set_self hlt] at h2
      rw [ha] at h1
      cases h1; cases h2
      exact (c.ce 0 a _ rfl rfl).kp (fun b o e n => ⟨e, fun z => n ((mm_k hm b).mpr z)⟩) rfl
    · rw [List.getElem?_set_ne hj] at h2
      have hb : b ≠ a := fun z => hj (ix_inj h.nd ha (z ▸ h1))
      exact (h.ce j b c' h1 h2).kp e.kp (x.frm b (.inr ⟨List.mem_of_getElem? h1, hb⟩))
end

/-- the cells of the arguments by the callee's numbers -/
def low : Sl → Sl
  | .dat d => .dat d
  | .cel _ => .cel 0
def onlyCell (k : Nat) : Sl → Bool
  | .dat _ => true
  | .cel j => j == k
theorem low_reps {T : Tab} {K : PySem.W.Frag} {F : Addr → Prop} {ad : List Addr} {H : Hp} {k : Nat} {a : Addr} (ha : ad[k]? = some a) : ∀ {vs : List V} {ss : List Sl}, ss.all (onlyCell k) = true → SlReps T K ad F H vs ss → SlReps T K [a] (Fk ad F a) H vs (ss.map low)
  | [], [], _, _ => trivial
  | v :: vs, s :: ss, h, r => by
    rw [List.all_cons, Bool.and_eq_true] at h
    refine ⟨?_, low_reps ha h.2 r.2⟩
    have r1 := r.1
    cases s with
    | dat d => exact Rep.kp (fun b o e n => ⟨e, fun z => n ((mm_k (List.mem_of_getElem? ha) b).mp z)⟩) r1
    | cel j =>
      obtain ⟨b, hb, ev⟩ := r1
      have hj : j = k := beq_iff_eq.mp h.1
      subst hj
      rw [ha] at hb
      cases hb
      exact ⟨a, rfl, ev⟩
section
variable {X : Cx} {T : Tab} {S S1 S2 : Sta} {e : Expr} {es : List Expr} {pos p : Pos} {x : Str} {f : Addr} {fd : FuncData} {ps : List Str} {k : Nat} {c : Ct} {ds : List D} {d : D} {ss : List Sl} {c0 c1 : Cell}
theorem spC0 {K : PySem.W.Frag} {ad : List Addr} {F : Addr → Prop} {H : Hp} {cs : List Cell} {vs : List V} {Q : VK} {E : XK} (hc : c (ds.map Sl.dat) [] (.dat d) []) (h : HoldC T K ad F H cs) (r : SlReps T K ad F H vs (ds.map Sl.dat))
    (q : ∀ v H', Ext ad F H ad H' → HoldC T K ad F H' cs → SlRep T K ad F H' v (.dat d) → Q v H') : spC T K c vs H Q E := by
  refine ⟨[], Mm ad F, ds.map Sl.dat, [], .dat d, [], frame0 h, SlReps.kp (M := fun _ => False) (kp_in h) r, hc, fun v H' ad' x hn c2 r2 => ?_⟩
  obtain ⟨c3, x3⟩ := back0 h x
  exact q v H' x3 c3 (Rep.kp kp_out r2)
theorem spC1 {K : PySem.W.Frag} {ad : List Addr} {F : Addr → Prop} {H : Hp} {cs : List Cell} {vs : List V} {Q : VK} {E : XK} {j : Nat} (hj : cs[j]? = some c0) (ho : ss.all (onlyCell j) = true) (hc : c (ss.map low) [c0] (.dat d) [c1]) (h : HoldC T K ad F H cs) (r : SlReps T K ad F H vs ss)
    (q : ∀ v H', Ext ad F H ad H' → HoldC T K ad F H' (cs.set j c1) → SlRep T K ad F H' v (.dat d) → Q v H') : spC T K c vs H Q E := by
  have hlt : j < ad.length := by rw [h.ln]; exact (List.getElem?_eq_some_iff.mp hj).1
  have ha : ad[j]? = some ad[j] := List.getElem?_eq_getElem hlt
  refine ⟨[ad[j]], Fk ad F ad[j], ss.map low, [c0], .dat d, [c1], frame1 h ha hj, low_reps ha ho r, hc, fun v H' ad' x hn c2 r2 => ?_⟩
  have e : ad' = [ad[j]] := by
    have h1 : ad'.length = 1 := c2.ln
    have h2 : ad'.take 1 = [ad[j]] := x.pre
    rw [List.take_of_length_le (by omega)] at h2
    exact h2
  subst e
  obtain ⟨c3, x3⟩ := back1 h ha x c2
  exact q v H' x3 c3 (Rep.kp (fun b o e n => ⟨e, fun z => n ((mm_k (List.mem_of_getElem? ha) b).mpr z)⟩) r2)
theorem spCN {K : PySem.W.Frag} {ad : List Addr} {F : Addr → Prop} {H : Hp} {cs : List Cell} {vs : List V} {Q : VK} {E : XK} (hc : c (ds.map Sl.dat) [] (.cel 0) [c0]) (h : HoldC T K ad F H cs) (r : SlReps T K ad F H vs (ds.map Sl.dat))
    (q : ∀ v H' a, Ext ad F H (ad ++ [a]) H' → HoldC T K (ad ++ [a]) F H' (cs ++ [c0]) → v = .ref a → Q v H') : spC T K c vs H Q E := by
  refine ⟨[], Mm ad F, ds.map Sl.dat, [], .cel 0, [c0], frame0 h, SlReps.kp (M := fun _ => False) (kp_in h) r, hc, fun v H' ad' x hn c2 r2 => ?_⟩
  obtain ⟨c3, x3⟩ := back0 h x
  obtain ⟨a, ha, rfl⟩ := r2
  have e : ad' = [a] := by
    have h1 : ad'.length = 1 := c2.ln
    match ad', h1, ha with
    | [b], _, ha => simpa using ha
  subst e
  have na : H a = none := (x.sub a (List.mem_singleton_self _)).elim (fun z => absurd z (by simp)) id
  have nm : ¬ Mm ad F a := c2.fr a (List.mem_singleton_self _)
  have x4 : Ext ad F H (ad ++ [a]) H' := ⟨⟨[a], rfl, fun b hb => by rw [List.mem_singleton.mp hb]; exact na⟩, x3.keep, x3.frm⟩
  have kp2 : Kp (Mm ad F) H' (Mm (ad ++ [a]) F) H' → True := fun _ => trivial
  refine q _ H' a x4 ⟨?_, fun b hb fb => ?_, c3.al, by simp [h.ln], fun j b c' h1 h2 => ?_⟩ rfl
  · rw [List.nodup_append]
    refine ⟨h.nd, by simp, fun b hb b' hb' e => ?_⟩
    rw [List.mem_singleton.mp hb'] at e
    exact nm (.inl (e ▸ hb))
  · rcases List.mem_append.mp hb with z | z
    · exact h.fr b z fb
    · rw [List.mem_singleton.mp z] at fb; exact nm (.inr fb)
  · by_cases hj : j < ad.length
    · rw [List.getElem?_append_left hj] at h1
      rw [List.getElem?_append_left (by rw [← h.ln]; exact hj)] at h2
      exact (h.ce j b c' h1 h2).kp x4.kp (x.frm b (.inl (List.mem_of_getElem? h1)))
    · have hj' : j = ad.length := by
        have := (List.getElem?_eq_some_iff.mp h1).1
        simp at this
        omega
      subst hj'
      rw [List.getElem?_append_right (Nat.le_refl _)] at h1
      rw [h.ln, List.getElem?_append_right (Nat.le_refl _)] at h2
      simp at h1 h2
      subst h1 h2
      refine (c2.ce 0 a _ rfl rfl).kp (fun b o e n => ⟨e, fun z => n ?_⟩) rfl
      rcases z with z | z
      · rcases List.mem_append.mp z with z | z
        · exact .inr (.inl z)
        · exact .inl z
      · exact .inr (.inr z)
variable (G : FnOk X.prog X.w X.K X.mg X.base CX0 k f fd ps (spC T X.K c)) (hr : Room k X.A) (hm : X.mg x = some (.ref f)) (hk : PySem.W.keepIn X.K (.ref f) = true) (hb : Binds X.K fd ps [])
include G hr hm hk hb
theorem de_call (ha : DA X T S (e :: es) (ds.map Sl.dat) S1) (hc : c (ds.map Sl.dat) [] (.dat d) []) (hg : Gl X x := by rfl) (hdb : (x == ("__debug__" : Str)) = false := by decide)
    (he : starEach (e :: es) X.env = (false, eval e X.env) :: starEach es X.env := by rfl) (hpl : (backTo pos (starEach es X.env)).any (·.1) = false := by rfl) : DE X T S (.Call (.Name x p) (e :: es) [] pos) (.dat d) S1 :=
  weak (pe_call G hr hg hm hk hb .nil pass0 ha hdb he hpl) fun σ H Q ⟨ad, F, h0, q⟩ => ⟨ad, F, h0, fun vs H1 ad1 x1 h1 r1 => by
    show spC T X.K c (vs ++ []) H1 Q E0
    rw [List.append_nil]
    exact spC0 hc h1.hc r1 fun v H' x2 c2 r2 => q v H' ad1 (x1.trans h1.hc x2) (h1.to x2 c2) r2⟩
theorem de_callC (j : Nat) (ha : DA X T S (e :: es) ss S1) (hj : S1.cs[j]? = some c0) (ho : ss.all (onlyCell j) = true) (hc : c (ss.map low) [c0] (.dat d) [c1]) (hg : Gl X x := by rfl) (hdb : (x == ("__debug__" : Str)) = false := by decide)
    (he : starEach (e :: es) X.env = (false, eval e X.env) :: starEach es X.env := by rfl) (hpl : (backTo pos (starEach es X.env)).any (·.1) = false := by rfl) : DE X T S (.Call (.Name x p) (e :: es) [] pos) (.dat d) ⟨S1.sl, S1.cs.set j c1⟩ :=
  weak (pe_call G hr hg hm hk hb .nil pass0 ha hdb he hpl) fun σ H Q ⟨ad, F, h0, q⟩ => ⟨ad, F, h0, fun vs H1 ad1 x1 h1 r1 => by
    show spC T X.K c (vs ++ []) H1 Q E0
    rw [List.append_nil]
    exact spC1 hj ho hc h1.hc r1 fun v H' x2 c2 r2 => q v H' ad1 (x1.trans h1.hc x2) (h1.to x2 c2) r2⟩
theorem de_callN (ha : DA X T S (e :: es) (ds.map Sl.dat) S1) (hc : c (ds.map Sl.dat) [] (.cel 0) [c0]) (hg : Gl X x := by rfl) (hdb : (x == ("__debug__" : Str)) = false := by decide)
    (he : starEach (e :: es) X.env = (false, eval e X.env) :: starEach es X.env := by rfl) (hpl : (backTo pos (starEach es X.env)).any (·.1) = false := by rfl) : DE X T S (.Call (.Name x p) (e :: es) [] pos) (.cel S1.cs.length) ⟨S1.sl, S1.cs ++ [c0]⟩ :=
  weak (pe_call G hr hg hm hk hb .nil pass0 ha hdb he hpl) fun σ H Q ⟨ad, F, h0, q⟩ => ⟨ad, F, h0, fun vs H1 ad1 x1 h1 r1 => by
    show spC T X.K c (vs ++ []) H1 Q E0
    rw [List.append_nil]
    exact spCN hc h1.hc r1 fun v H' a x2 c2 e => q v H' _ (x1.trans h1.hc x2) (h1.to x2 c2) ⟨a, by rw [← h1.hc.ln, List.getElem?_append_right (Nat.le_refl _)]; simp, e⟩⟩
end

/-! ### targets -/
inductive Pat where
  | nm (i : Nat)
  | tp (ps : List Pat)
mutual
/-- the slots behind target = data -/
def asgP : Pat → D → List (Option Sl) → Option (List (Option Sl))
  | .nm i, d, sl => some (sl.set i (some (.dat d)))
  | .tp ps, .tup ds, sl => asgPs ps ds sl
  | _, _, _ => none
def asgPs : List Pat → List D → List (Option Sl) → Option (List (Option Sl))
  | [], [], sl => some sl
  | p :: ps, d :: ds, sl => (asgP p d sl).bind fun sl' => asgPs ps ds sl'
  | _, _, _ => none
end
mutual
def slotsP : Pat → List Nat
  | .nm i => [i]
  | .tp ps => slotsPs ps
def slotsPs : List Pat → List Nat
  | [] => []
  | p :: ps => slotsP p ++ slotsPs ps
end
def AsIs (ns : List Nat) (σ σ' : St) : Prop := σ'.length = σ.length ∧ ∀ j : Nat, j ∉ ns → σ'[j]? = σ[j]?
def tDG (T : Tab) (K : PySem.W.Frag) (p : Pat) : TG := fun v σ H Q => ∃ ad F S d sl', Hold T K S ad F σ H ∧ Rep T K (Mm ad F) H v d ∧ asgP p d S.sl = some sl' ∧ ∀ σ', AsIs (slotsP p) σ σ' → Hold T K ⟨sl', S.cs⟩ ad F σ' H → Q σ' H
def tDGs (T : Tab) (K : PySem.W.Frag) (ps : List Pat) : TGs := fun vs σ H Q => ∃ ad F S ds sl', Hold T K S ad F σ H ∧ Reps T K (Mm ad F) H vs ds ∧ asgPs ps ds S.sl = some sl' ∧ ∀ σ', AsIs (slotsPs ps) σ σ' → Hold T K ⟨sl', S.cs⟩ ad F σ' H → Q σ' H
def DG (X : Cx) (T : Tab) (tg : Expr) (p : Pat) : Prop := PG X tg (tDG T X.K p)
def DGs (X : Cx) (T : Tab) (tgs : List Expr) (ps : List Pat) : Prop := PGs X tgs (tDGs T X.K ps)
theorem weakG {X : Cx} {tg : Expr} {t t' : TG} (h : PG X tg t) (q : ∀ v σ H Q, t' v σ H Q → t v σ H Q) : PG X tg t' := ⟨fun pins s σ H v u Q I r z => h.run pins s σ H v u Q I r (q v σ H Q z)⟩
theorem weakGs {X : Cx} {tg : List Expr} {t t' : TGs} (h : PGs X tg t) (q : ∀ v σ H Q, t' v σ H Q → t v σ H Q) : PGs X tg t' := ⟨fun pins s σ H v u Q I r z => h.run pins s σ H v u Q I r (q v σ H Q z)⟩
section
variable {X : Cx} {T : Tab} {pos : Pos} {e : Expr} {es : List Expr} {p : Pat} {ps : List Pat}
theorem dg_name (i : Nat) {x : Str} (hN : X.N.Nodup) (hi : X.N[i]? = some x := by rfl) (hx : Loc X.env.scope x := by first | exact Or.inl rfl | exact Or.inr rfl) (hf : X.fn x = true ∨ X.env.scope.names.lookup x = some .local := by first | exact .inl rfl | exact .inr rfl) : DG X T (.Name x pos) (.nm i) :=
  weakG (pg_name hN hi hx hf) fun v σ H Q ⟨ad, F, S, d, sl', h, r, e, q⟩ => by
    have e' : S.sl.set i (some (.dat d)) = sl' := Option.some.inj e
    subst e'
    exact q _ ⟨by simp, fun j hj => List.getElem?_set_ne (fun z => hj (by rw [← z]; exact List.mem_singleton_self _))⟩ (h.set (s := .dat d) r i)
theorem dgs_nil : DGs X T [] [] := weakGs pgs_nil fun vs σ H Q ⟨ad, F, S, ds, sl', h, r, e, q⟩ => by
  cases ds with
  | nil =>
    cases r
    have e' : S.sl = sl' := Option.some.inj e
    subst e'
    exact ⟨rfl, q σ ⟨rfl, fun _ _ => rfl⟩ h⟩
  | cons d ds => exact nomatch e
theorem dgs_cons (h1 : DG X T e p) (h2 : DGs X T es ps) (hs : (assignEach (e :: es) X.env).map (·.2) = assign e X.env :: (assignEach es X.env).map (·.2) := by rfl) : DGs X T (e :: es) (p :: ps) :=
  weakGs (pgs_cons h1 h2 hs) fun vs σ H Q ⟨ad, F, S, ds, sl', h, r, e, q⟩ => by
    cases ds with
    | nil => exact nomatch e
    | cons d ds =>
      cases r with
      | cons r1 r2 =>
        have e : (asgP p d S.sl).bind (fun sl' => asgPs ps ds sl') = some sl' := e
        cases e1 : asgP p d S.sl with
        | none => rw [e1] at e; cases e
        | some sl1 =>
          rw [e1] at e
          refine ⟨_, _, rfl, ad, F, S, d, sl1, h, r1, e1, fun σ1 a1 h1 => ⟨ad, F, _, ds, sl', h1, r2, e, fun σ2 a2 h2 => q σ2 ⟨a2.1.trans a1.1, fun j hj => ?_⟩ h2⟩⟩
          have hj' : j ∉ slotsP p ++ slotsPs ps := hj
          rw [a2.2 j fun z => hj' (List.mem_append_right _ z), a1.2 j fun z => hj' (List.mem_append_left _ z)]
theorem asgPs_len : ∀ {ps : List Pat} {ds : List D} {sl sl' : List (Option Sl)}, asgPs ps ds sl = some sl' → ds.length = ps.length
  | [], [], _, _, _ => rfl
  | p :: ps, d :: ds, sl, sl', e => by
    have e : (asgP p d sl).bind (fun sl' => asgPs ps ds sl') = some sl' := e
    cases e1 : asgP p d sl with
    | none => rw [e1] at e; cases e
    | some sl1 =>
      rw [e1] at e
      rw [List.length_cons, List.length_cons, asgPs_len (ps := ps) (ds := ds) e]
  | [], _ :: _, _, _, e => nomatch e
  | _ :: _, [], _, _, e => nomatch e
theorem dg_tup {k : Nat} {n : Nat} (hc : X.calm = true) (h : DGs X T es ps) (hn : (assignEach es X.env).length = n := by rfl) (hp : ps.length = n := by rfl) (hst : (assignEach es X.env).findIdx? (·.1) = none := by rfl) : DG X T (.Tuple es k pos) (.tp ps) :=
  weakG (pg_tup (n := n) hc h hn hst) fun v σ H Q ⟨ad, F, S, d, sl', h, r, e, q⟩ => by
    cases r with
    | tup h1 h2 => exact ⟨_, _, rfl, h1.sq, by rw [h2.length, ← hp]; exact asgPs_len e, ad, F, S, _, sl', h, h2, e, q⟩
    | _ => exact nomatch e
end

/-! ### what a loop walks -/
def ItOk (T : Tab) (K : PySem.W.Frag) (F : Addr → Prop) (J : It) (items : List D) (ad1 : List Addr) (H1 : Hp) : Prop :=
  ∀ (F2 : Addr → Prop) ad2 H2 cs2, HoldC T K ad2 F2 H2 cs2 → Kp (Mm ad1 F) H1 (Mm ad2 F2) H2 → ∀ i : Nat,
    (∀ d, items[i]? = some d → J.go i H2 ∧ ∀ v H3, J.yld i H2 v H3 → (∀ a o, H2 a = some o → H3 a = some o) ∧ Rep T K (Mm ad2 F2) H3 v d) ∧ (i = items.length → J.stop i H2)
def tDI (T : Tab) (K : PySem.W.Frag) (S : Sta) (items : List D) (S' : Sta) : TI := fun σ H R => ∃ ad F, Hold T K S ad F σ H ∧
  ∀ J H' ad', Ext ad F H ad' H' → Hold T K S' ad' F σ H' → ItOk T K F J items ad' H' → R J H'
def DI (X : Cx) (T : Tab) (S : Sta) (tg it : Expr) (items : List D) (S' : Sta) : Prop := PI X tg it (tDI T X.K S items S')
theorem weakI {X : Cx} {tg it : Expr} {t t' : TI} (h : PI X tg it t) (q : ∀ σ H R, t' σ H R → t σ H R) : PI X tg it t' := ⟨fun pins s σ H R I z => h.run pins s σ H R I (q σ H R z)⟩
section
variable {X : Cx} {T : Tab} {S S1 S2 : Sta} {e tg : Expr} {pos p : Pos} {ds : List D} {i j : Int}
theorem di_list (h : DE X T S e (.dat (.lst ds)) S1) : DI X T S tg e ds S1 := weakI (pi_list h) fun σ H R ⟨ad, F, h0, q⟩ => ⟨ad, F, h0, fun v H1 ad1 x1 h1 r1 => by
  cases r1 with
  | @lst a vs _ n e1 r =>
    refine ⟨a, rfl, ⟨vs, SqL.of e1⟩, q _ H1 ad1 x1 h1 fun F2 ad2 H2 cs2 c2 kp i => ⟨fun d hd => ?_, fun hi => ?_⟩⟩
    · obtain ⟨e2, n2⟩ := kp a _ e1 n
      obtain ⟨v, hv, rv⟩ := (r.kp kp).get hd
      refine ⟨⟨vs, v, SqL.of e2, hv⟩, fun w H3 y => ?_⟩
      obtain ⟨rfl, y⟩ := y
      have := y vs (SqL.of e2)
      rw [hv] at this
      cases this
      exact ⟨fun _ _ z => z, rv⟩
    · exact ⟨vs, SqL.of (kp a _ e1 n).1, by rw [r.length]; omega⟩⟩
theorem di_tup (h : DE X T S e (.dat (.tup ds)) S1) : DI X T S tg e ds S1 := weakI (pi_tup h) fun σ H R ⟨ad, F, h0, q⟩ => ⟨ad, F, h0, fun v H1 ad1 x1 h1 r1 => by
  cases r1 with
  | @tup a vs _ e1 r =>
    refine ⟨a, rfl, ⟨vs, e1.sq⟩, q _ H1 ad1 x1 h1 fun F2 ad2 H2 cs2 c2 kp i => ⟨fun d hd => ?_, fun hi => ?_⟩⟩
    · have e2 := (e1.kp kp).sq
      obtain ⟨v, hv, rv⟩ := (r.kp kp).get hd
      refine ⟨⟨vs, v, e2, hv⟩, fun w H3 y => ?_⟩
      obtain ⟨rfl, y⟩ := y
      have := y vs e2
      rw [hv] at this
      cases this
      exact ⟨fun _ _ z => z, rv⟩
    · exact ⟨vs, (e1.kp kp).sq, by rw [r.length]; omega⟩⟩
def rangeD (lo : Int) (n : Nat) : List D := (List.range n).map fun i : Nat => D.int (lo + (i : Int))
theorem rangeD_get {lo : Int} {n i : Nat} {d : D} (h : (rangeD lo n)[i]? = some d) : i < n ∧ d = .int (lo + (i : Int)) := by
  unfold rangeD at h
  rw [List.getElem?_map] at h
  by_cases hi : i < n
  · rw [List.getElem?_range hi] at h
    exact ⟨hi, (Option.some.inj h).symm⟩
  · rw [List.getElem?_eq_none (by simpa using hi)] at h
    cases h
theorem itr_ok {K : PySem.W.Frag} {F : Addr → Prop} {lo : Int} {n : Nat} {ad1 : List Addr} {H1 : Hp} : ItOk T K F (Itr lo n) (rangeD lo n) ad1 H1 := fun F2 ad2 H2 cs2 c2 kp i => by
  refine ⟨fun d hd => ?_, fun hi => ?_⟩
  · obtain ⟨hi, rfl⟩ := rangeD_get hd
    refine ⟨hi, fun v H3 y => ?_⟩
    obtain ⟨rfl, rfl⟩ := y
    exact ⟨fun _ _ z => z, .int⟩
  · unfold rangeD at hi
    simp at hi
    subst hi
    exact Nat.le_refl _
theorem di_range1 (h : DA X T S [e] [.dat (.int j)] S1) (hm : X.mg "range" = none) (h1 : -(2 ^ 62) ≤ j) (h2 : j < 2 ^ 62) (hg : Gl X "range" := by rfl) (hs : starEach [e] X.env = [(false, eval e X.env)] := by rfl) : DI X T S tg (.Call (.Name "range" p) [e] [] pos) (rangeD 0 j.toNat) S1 :=
  weakI (pi_range1 hg hm h hs) fun σ H R ⟨ad, F, h0, q⟩ => ⟨ad, F, h0, fun vs H1 ad1 x1 h1' r1 => by
    match vs, r1 with
    | [v], r1 =>
      have r1 := r1.1
      cases r1
      exact ⟨j, rfl, h1, h2, q _ H1 ad1 x1 h1' itr_ok⟩⟩
theorem di_range2 {e2 : Expr} (h : DA X T S [e, e2] [.dat (.int i), .dat (.int j)] S1) (hm : X.mg "range" = none) (h1 : -(2 ^ 62) ≤ i) (h2 : i < 2 ^ 62) (h3 : -(2 ^ 62) ≤ j) (h4 : j < 2 ^ 62) (hg : Gl X "range" := by rfl)
    (hs : starEach [e, e2] X.env = [(false, eval e X.env), (false, eval e2 X.env)] := by rfl) (hs2 : starEach [e2] X.env = [(false, eval e2 X.env)] := by rfl) : DI X T S tg (.Call (.Name "range" p) [e, e2] [] pos) (rangeD i (j - i).toNat) S1 :=
  weakI (pi_range2 hg hm h hs hs2) fun σ H R ⟨ad, F, h0, q⟩ => ⟨ad, F, h0, fun vs H1 ad1 x1 h1' r1 => by
    match vs, r1 with
    | [v, w], r1 =>
      have r2 := r1.2.1
      have r1 := r1.1
      cases r1
      cases r2
      exact ⟨i, j, rfl, ⟨h1, h2, h3, h4⟩, q _ H1 ad1 x1 h1' itr_ok⟩⟩
end

/-! ### for -/
def DFor (X : Cx) (T : Tab) (n : Nat) (p : Pat) (body : List Stmt) : List D → Sta → Post → Prop
  | [], S, P => P.nx S
  | d :: ds, S, P => ∃ sl', asgP p d S.sl = some sl' ∧ DSs X T n ⟨sl', S.cs⟩ body { P with nx := fun S' => DFor X T n p body ds S' P, ct := fun S' => DFor X T n p body ds S' P, bk := P.nx }
theorem grow {T : Tab} {K : PySem.W.Frag} {F : Addr → Prop} {ad : List Addr} {H H' : Hp} {cs : List Cell} (h : HoldC T K ad F H cs) (g : ∀ a o, H a = some o → H' a = some o) : HoldC T K ad F H' cs ∧ Ext ad F H ad H' := by
  have x : Ext ad F H ad H' := ⟨⟨[], by simp, fun _ z => nomatch z⟩, fun a o e _ => g a o e, fun a fa => by obtain ⟨o, e⟩ := h.al a fa; rw [g a o e, e]⟩
  refine ⟨⟨h.nd, h.fr, fun a fa => by rw [x.frm a fa]; exact h.al a fa, h.ln, fun k a c h1 h2 => ?_⟩, x⟩
  have q := h.ce k a c h1 h2
  obtain ⟨o, e⟩ := q.some
  exact q.kp x.kp (by rw [g a o e, e])
section
variable {X : Cx} {T : Tab} {n : Nat} {S S1 S2 : Sta} {it tg : Expr} {pos : Pos} {items : List D} {body : List Stmt} {p : Pat} {P : Post}
theorem ds_for (hi : DI X T S tg it items S1) (hg : DG X T tg p) (h : DFor X T n p body items S1 P) (hc : X.calm = true := by rfl) (hp : PassesOwn (model X.prog X.w) X.A X.env X.xe := by exact PassesOwn.never)
    (hs : ∀ x, foldedSetIterable it X.env x = pure x := by intro _; rfl) : DS X T n S (.For tg it body [] pos) P := by
  have hb : PSs X body (fun D σ H => ∃ S P, DSs X T n S body P ∧ tDS T X.K n S P D σ H) := ⟨fun pins s σ H D I ⟨S', P', hS, z⟩ => hS.run pins s σ H D I z⟩
  refine weakS (ps_for hp hc hi hg hb hs) fun D σ H ⟨ad, F, hn, h0, q1, q2, q3, q4, q5⟩ => ⟨ad, F, h0, fun J H1 ad1 x1 h1 ok => ?_⟩
  have xs1 := x1.s hn
  have hn1 := x1.le hn
  refine ⟨fun i m σ' H' => ∃ ad' S', n ≤ ad'.length ∧ Hold T X.K S' ad' F σ' H' ∧ ExtS n ad1 F H1 ad' H' ∧ i ≤ items.length ∧ m = items.length - i ∧ DFor X T n p body (items.drop i) S' P, ⟨items.length, ad1, S1, hn1, h1, .refl, Nat.zero_le _, rfl, h⟩, ?_⟩
  rintro i m σ' H' ⟨ad', S', hn', h', x', hi', rfl, hf⟩
  obtain ⟨ok1, ok2⟩ := ok F ad' H' S'.cs h'.hc x'.kp i
  by_cases hlt : i < items.length
  · have hd : items[i]? = some items[i] := List.getElem?_eq_getElem hlt
    obtain ⟨g1, g2⟩ := ok1 _ hd
    rw [List.drop_eq_getElem_cons hlt] at hf
    obtain ⟨sl', e, hf⟩ := hf
    refine .inr ⟨g1, fun σ2 H2 => ∃ ad2 S2, n ≤ ad2.length ∧ Hold T X.K S2 ad2 F σ2 H2 ∧ ExtS n ad1 F H1 ad2 H2 ∧ DFor X T n p body (items.drop (i + 1)) S2 P, fun σ2 H2 ⟨ad2, S2, hn2, h2, x2, hf2⟩ => ⟨items.length - (i + 1), by omega, ad2, S2, hn2, h2, x2, hlt, rfl, hf2⟩, fun v H3 y => ?_⟩
    obtain ⟨gr, rv⟩ := g2 v H3 y
    obtain ⟨c3, x3⟩ := grow h'.hc gr
    refine ⟨ad', F, S', items[i], sl', h'.to x3 c3, rv, e, fun σ4 _ h4 => ⟨_, _, hf, ad', F, hn', h4, ?_, ?_, ?_, ?_, ?_⟩⟩
    · exact fun S5 σ5 H5 ad5 x5 hn5 h5 p5 => ⟨ad5, S5, hn5, h5, x'.trans ((x3.s hn').trans x5), p5⟩
    · exact fun s cs5 v5 H5 ad5 x5 hn5 c5 r5 p5 => q2 s cs5 v5 H5 ad5 (xs1.trans (x'.trans ((x3.s hn').trans x5))) hn5 c5 r5 p5
    · exact fun S5 σ5 H5 ad5 x5 hn5 h5 p5 => q1 S5 σ5 H5 ad5 (xs1.trans (x'.trans ((x3.s hn').trans x5))) hn5 h5 p5
    · exact fun S5 σ5 H5 ad5 x5 hn5 h5 p5 => ⟨ad5, S5, hn5, h5, x'.trans ((x3.s hn').trans x5), p5⟩
    · exact fun z S5 cls d σ5 H5 ad5 x5 hn5 h5 r5 p5 => q5 z S5 cls d σ5 H5 ad5 (xs1.trans (x'.trans ((x3.s hn').trans x5))) hn5 h5 r5 p5
  · have e : i = items.length := by omega
    subst e
    rw [List.drop_length] at hf
    exact .inl ⟨ok2 rfl, q1 S' σ' H' ad' (xs1.trans x') hn' h' hf⟩
/-- by an invariant over what has been taken -/
theorem dfor_inv (I : List D → Sta → Prop) {items : List D} : ∀ (pre post : List D), pre ++ post = items → ∀ S, I pre S →
    (∀ pre d post S, pre ++ d :: post = items → I pre S → ∃ sl', asgP p d S.sl = some sl' ∧ DSs X T n ⟨sl', S.cs⟩ body { P with nx := I (pre ++ [d]), ct := I (pre ++ [d]), bk := P.nx }) →
    (∀ S, I items S → P.nx S) → DFor X T n p body post S P
  | pre, [], e, S, h, _, hd => hd S (by rw [← e, List.append_nil]; exact h)
  | pre, d :: post, e, S, h, hs, hd => by
    obtain ⟨sl', e1, h1⟩ := hs pre d post S e h
    refine ⟨sl', e1, dss_mono h1 (fun S2 h2 => ?_) (fun _ _ z => z) (fun _ z => z) (fun S2 h2 => ?_) (fun _ _ z => z) rfl⟩
    · exact dfor_inv I (pre ++ [d]) post (by rw [List.append_assoc]; exact e) S2 h2 hs hd
    · exact dfor_inv I (pre ++ [d]) post (by rw [List.append_assoc]; exact e) S2 h2 hs hd
end
end Dl

namespace Dl
open PySem L2

/-! ### operators by what they work on -/
def BinD (X : Cx) (T : Tab) (op : Operator) (s1 s2 : Sl) (cs : List Cell) (s : Sl) (cs' : List Cell) : Prop := ∃ r, OpR X (binaryOp op) r ∧ R2D T X.K r s1 s2 cs s cs'
def CmpD (X : Cx) (T : Tab) (op : CmpOp) (s1 s2 : Sl) (cs : List Cell) (s : Sl) (cs' : List Cell) : Prop := ∃ r, OpR X (compareOp op) r ∧ R2D T X.K r s1 s2 cs s cs'
def IxD (X : Cx) (T : Tab) (s1 s2 : Sl) (cs : List Cell) (s : Sl) (cs' : List Cell) : Prop := ∃ r, IxR X r ∧ R2D T X.K r s1 s2 cs s cs'
def UnD (X : Cx) (T : Tab) (op : UnaryOp) (s1 : Sl) (cs : List Cell) (s : Sl) (cs' : List Cell) : Prop := ∃ r, UnR X (unaryOp op) r ∧ R1 T X.K r s1 cs s cs'
def CalB (X : Cx) (T : Tab) (x : Str) (ss : List Sl) (cs : List Cell) (s : Sl) (cs' : List Cell) : Prop := ∃ u r, bootBuiltins x = some u ∧ ((∃ id, u = .builtin id) ∨ ∃ id, u = .type id) ∧ CallR X u r ∧ RCD T X.K r ss cs s cs'

section
variable {X : Cx} {T : Tab} {S S1 S2 S3 : Sta} {a b e : Expr} {pos p : Pos} {s s1 s2 : Sl} {cs cs' : List Cell} {d d1 d2 : D} {i j : Int} {ds es : List D}
theorem de_bin {op : Operator} (ha : DE X T S a s1 S1) (hb : DE X T S1 b s2 S2) (h : BinD X T op s1 s2 S2.cs s S2.cs) : DE X T S (.BinOp a op b pos) s S2 := let ⟨_, ho, hr⟩ := h; de_op ho ha hb hr
theorem de_binC {op : Operator} (ha : DE X T S a s1 S1) (hb : DE X T S1 b s2 S2) (h : BinD X T op s1 s2 S2.cs s cs') : DE X T S (.BinOp a op b pos) s ⟨S2.sl, cs'⟩ := let ⟨_, ho, hr⟩ := h; de_op ho ha hb hr
theorem de_cm {op : CmpOp} (ha : DE X T S a s1 S1) (hb : DE X T S1 b s2 S2) (h : CmpD X T op s1 s2 S2.cs s S2.cs) (hm : behindInMarks op b = false := by first | exact nomark _ | rfl) : DE X T S (.Compare a [op] [b] pos) s S2 := let ⟨_, ho, hr⟩ := h; de_cmp ho ha hb hr hm
theorem dt_cm {op : CmpOp} {k : Bool} (ha : DE X T S a s1 S1) (hb : DE X T S1 b s2 S2) (h : CmpD X T op s1 s2 S2.cs (.dat (.bl k)) S2.cs) (hm : behindInMarks op b = false := by first | exact nomark _ | rfl) : DT X T S (.Compare a [op] [b] pos) k S2 := by
  obtain ⟨r, ho, hr⟩ := h
  refine weakT (pt_cmpR ho ha hb hm) fun σ H Q ⟨ad, F, h0, q⟩ => ?_
  refine two_then (Q := fun x H' => ∃ k, x = .bl k ∧ Q k H') hr ⟨ad, F, h0, fun v H1 ad1 x1 h1 r1 => ?_⟩
  cases r1
  exact ⟨k, rfl, q H1 ad1 x1 h1⟩
theorem de_sub1 (ha : DE X T S a s1 S1) (hb : DE X T S1 b s2 S2) (h : IxD X T s1 s2 S2.cs s S2.cs) (hp : PlainIx b := by intro _ _; rfl) : DE X T S (.Subscript a b pos) s S2 := let ⟨_, ho, hr⟩ := h; de_ix ho ha hb hr hp
theorem de_un {op : UnaryOp} (ha : DE X T S a s1 S1) (h : UnD X T op s1 S1.cs s S1.cs) : DE X T S (.UnaryOp op a pos) s S1 := let ⟨_, ho, hr⟩ := h; de_unop ho ha hr
theorem de_cbC {x : Str} {es : List Expr} {ss : List Sl} (hm : X.mg x = none) (ha : DA X T S (e :: es) ss S1) (h : CalB X T x ss S1.cs s cs') (hg : Gl X x := by rfl) (hn : x ≠ "__name__" := by decide) (hdb : (x == ("__debug__" : Str)) = false := by decide)
    (he : starEach (e :: es) X.env = (false, eval e X.env) :: starEach es X.env := by rfl) (hpl : (backTo pos (starEach es X.env)).any (·.1) = false := by rfl) : DE X T S (.Call (.Name x p) (e :: es) [] pos) s ⟨S1.sl, cs'⟩ := by
  obtain ⟨u, r, hv, ho, hc, hr⟩ := h
  rcases ho with ⟨id, rfl⟩ | ⟨id, rfl⟩
  · exact de_callB hc hm hv ha hr hg hn hdb he hpl
  · exact de_callTy hc hm hv ha hr hg hn hdb he hpl
theorem de_cb {x : Str} {es : List Expr} {ss : List Sl} (hm : X.mg x = none) (ha : DA X T S (e :: es) ss S1) (h : CalB X T x ss S1.cs s S1.cs) (hg : Gl X x := by rfl) (hn : x ≠ "__name__" := by decide) (hdb : (x == ("__debug__" : Str)) = false := by decide)
    (he : starEach (e :: es) X.env = (false, eval e X.env) :: starEach es X.env := by rfl) (hpl : (backTo pos (starEach es X.env)).any (·.1) = false := by rfl) : DE X T S (.Call (.Name x p) (e :: es) [] pos) s S1 := de_cbC hm ha h hg hn hdb he hpl

/-! #### + - * // % ** of ints -/
theorem bin_add : BinD X T .Add (.dat (.int i)) (.dat (.int j)) cs (.dat (.int (i + j))) cs := ⟨_, op_add, r2_I0⟩
theorem bin_sub : BinD X T .Sub (.dat (.int i)) (.dat (.int j)) cs (.dat (.int (i - j))) cs := ⟨_, op_sub, r2_I0⟩
theorem op_mulI : OpR X (binaryOp .Mult) (rI IntMulOk fun i j => .int (i * j)) := opI fun _ _ _ _ _ _ _ hc q => PyProof.Rows.mul_int q hc
theorem bin_mul (h : IntMulOk i j) : BinD X T .Mult (.dat (.int i)) (.dat (.int j)) cs (.dat (.int (i * j))) cs := ⟨_, op_mulI, r2_I h⟩
theorem bin_fdiv (h : CDivW i j) : BinD X T .FloorDiv (.dat (.int i)) (.dat (.int j)) cs (.dat (.int (i / j))) cs := ⟨_, op_fdivW, r2_I h⟩
theorem bin_mod (h : 0 < j) : BinD X T .Mod (.dat (.int i)) (.dat (.int j)) cs (.dat (.int (i % j))) cs := ⟨_, op_mod, r2_I (C := fun _ j => 0 < j) h⟩
theorem bin_pow (h : CPow i j) : BinD X T .Pow (.dat (.int i)) (.dat (.int j)) cs (.dat (.int (i ^ j.toNat))) cs := ⟨_, op_pow, r2_I h⟩
theorem un_negD : UnD X T .USub (.dat (.int i)) cs (.dat (.int (-i))) cs := ⟨_, un_neg, fun ad F H v Q c r1 q => by cases r1; exact ⟨i, rfl, q _ H ad .refl c Rep.int⟩⟩
theorem cmp_lt : CmpD X T .Lt (.dat (.int i)) (.dat (.int j)) cs (.dat (.bl (decide (i < j)))) cs := ⟨_, op_lt, r2_B0⟩
theorem cmp_le : CmpD X T .LtE (.dat (.int i)) (.dat (.int j)) cs (.dat (.bl (decide (i ≤ j)))) cs := ⟨_, op_le, r2_B0⟩
theorem cmp_gt : CmpD X T .Gt (.dat (.int i)) (.dat (.int j)) cs (.dat (.bl (decide (j < i)))) cs := ⟨_, op_gt, r2_B0⟩
theorem cmp_ge : CmpD X T .GtE (.dat (.int i)) (.dat (.int j)) cs (.dat (.bl (decide (j ≤ i)))) cs := ⟨_, op_ge, r2_B0⟩
theorem dec_V (i j : Int) : decide (V.int i = V.int j) = decide (i = j) := by
  by_cases h : i = j
  · subst h; simp
  · rw [decide_eq_false h, decide_eq_false fun z => h (V.int.inj z)]
theorem cmp_eqI : CmpD X T .Eq (.dat (.int i)) (.dat (.int j)) cs (.dat (.bl (decide (i = j)))) cs := ⟨_, op_eq, fun ad F H v w Q c r1 r2 q => by
  cases r1; cases r2
  exact ⟨rfl, by rw [dec_V]; exact q _ H ad .refl c Rep.bl⟩⟩
theorem cmp_neI : CmpD X T .NotEq (.dat (.int i)) (.dat (.int j)) cs (.dat (.bl (!decide (i = j)))) cs := ⟨_, op_ne, fun ad F H v w Q c r1 r2 q => by
  cases r1; cases r2
  exact ⟨rfl, by rw [dec_V]; exact q _ H ad .refl c Rep.bl⟩⟩
theorem dec_S (i j : Str) : decide (V.str i = V.str j) = decide (i = j) := by
  by_cases h : i = j
  · subst h; simp
  · rw [decide_eq_false h, decide_eq_false fun z => h (V.str.inj z)]
theorem cmp_eqS {x y : Str} : CmpD X T .Eq (.dat (.str x)) (.dat (.str y)) cs (.dat (.bl (decide (x = y)))) cs := ⟨_, op_eq, fun ad F H v w Q c r1 r2 q => by
  cases r1; cases r2
  exact ⟨rfl, by rw [dec_S]; exact q _ H ad .refl c Rep.bl⟩⟩
theorem cmp_neS {x y : Str} : CmpD X T .NotEq (.dat (.str x)) (.dat (.str y)) cs (.dat (.bl (!decide (x = y)))) cs := ⟨_, op_ne, fun ad F H v w Q c r1 r2 q => by
  cases r1; cases r2
  exact ⟨rfl, by rw [dec_S]; exact q _ H ad .refl c Rep.bl⟩⟩
theorem dec_B (i j : Bool) : decide (V.bl i = V.bl j) = (i == j) := by cases i <;> cases j <;> decide
theorem cmp_eqB {x y : Bool} : CmpD X T .Eq (.dat (.bl x)) (.dat (.bl y)) cs (.dat (.bl (x == y))) cs := ⟨_, op_eq, fun ad F H v w Q c r1 r2 q => by
  cases r1; cases r2
  exact ⟨rfl, by rw [dec_B]; exact q _ H ad .refl c Rep.bl⟩⟩
theorem cmp_neB {x y : Bool} : CmpD X T .NotEq (.dat (.bl x)) (.dat (.bl y)) cs (.dat (.bl (!(x == y)))) cs := ⟨_, op_ne, fun ad F H v w Q c r1 r2 q => by
  cases r1; cases r2
  exact ⟨rfl, by rw [dec_B]; exact q _ H ad .refl c Rep.bl⟩⟩
/-- is None -/
def isNon : D → Bool
  | .non => true
  | _ => false
theorem rep_non {K : PySem.W.Frag} {M : Addr → Prop} {H : Hp} {v : V} (r : Rep T K M H v d) : decide (v = .non) = isNon d := by
  cases r <;> simp [isNon]
theorem cmp_isN : CmpD X T .Is (.dat d) (.dat .non) cs (.dat (.bl (isNon d))) cs := ⟨_, op_isN, fun ad F H v w Q c r1 r2 q => by
  cases r2
  exact ⟨rfl, by rw [rep_non r1]; exact q _ H ad .refl c Rep.bl⟩⟩
theorem cmp_notN : CmpD X T .IsNot (.dat d) (.dat .non) cs (.dat (.bl (!isNon d))) cs := ⟨_, op_notN, fun ad F H v w Q c r1 r2 q => by
  cases r2
  exact ⟨rfl, by rw [rep_non r1]; exact q _ H ad .refl c Rep.bl⟩⟩

/-! #### subscripts -/
theorem ix_L (hi : atI ds i = some d) : IxD X T (.dat (.lst ds)) (.dat (.int i)) cs (.dat d) cs := ⟨_, ix_list, fun ad F H v w Q c r1 r2 q => by
  cases r2
  cases r1 with
  | lst n e r =>
    obtain ⟨u, h1, h2⟩ := reps_at r hi
    exact ⟨_, _, i, u, rfl, rfl, SqL.of e, h1, q u H ad .refl c h2⟩⟩
theorem ix_R (hi : atI ds i = some d) : IxD X T (.dat (.scr ds)) (.dat (.int i)) cs (.dat d) cs := ⟨_, ix_list, fun ad F H v w Q c r1 r2 q => by
  cases r2
  cases r1 with
  | scr e r =>
    obtain ⟨u, h1, h2⟩ := reps_at r hi
    exact ⟨_, _, i, u, rfl, rfl, e.sq, h1, q u H ad .refl c h2⟩⟩
theorem ix_T (hi : atI ds i = some d) : IxD X T (.dat (.tup ds)) (.dat (.int i)) cs (.dat d) cs := ⟨_, ix_tup, fun ad F H v w Q c r1 r2 q => by
  cases r2
  cases r1 with
  | tup e r =>
    obtain ⟨u, h1, h2⟩ := reps_at r hi
    exact ⟨_, _, i, u, rfl, rfl, e.sq, h1, q u H ad .refl c h2⟩⟩
theorem ix_C {k : Nat} (hk : cs[k]? = some (.lst ds)) (hi : atI ds i = some d) : IxD X T (.cel k) (.dat (.int i)) cs (.dat d) cs := ⟨_, ix_list, fun ad F H v w Q c r1 r2 q => by
  cases r2
  obtain ⟨p, e, rfl⟩ := r1
  obtain ⟨vs, h1, h2⟩ := c.ce k p _ e hk
  obtain ⟨u, h3, h4⟩ := reps_at h2 hi
  exact ⟨_, _, i, u, rfl, rfl, SqL.of h1, h3, q u H ad .refl c h4⟩⟩
theorem ix_S {x : Str} {c : Nat} (hl : x.length ≤ sizeLine) (hi : atI x.cps.toList i = some c) : IxD X T (.dat (.str x)) (.dat (.int i)) cs (.dat (.str ⟨#[c]⟩)) cs := ⟨_, ix_str, fun ad F H v w Q c' r1 r2 q => by
  cases r1; cases r2
  exact ⟨x, i, c, rfl, rfl, hl, hi, q _ H ad .refl c' Rep.str⟩⟩

/-! #### sequences: +, *, slices -/
theorem new_lst {K : PySem.W.Frag} {ad : List Addr} {F : Addr → Prop} {H : Hp} {vs : List V} {Q : VK} (c : HoldC T K ad F H cs) (r : Reps T K (Mm ad F) H vs ds) (q : ∀ z H' ad', Ext ad F H ad' H' → HoldC T K ad' F H' cs → SlRep T K ad' F H' z (.dat (.lst ds)) → Q z H')
    {p : Addr} (hp : H p = none) : Q (.ref p) (upd H p (.lst vs)) := by
  obtain ⟨c2, x2⟩ := c.newo (o := .lst vs) hp
  exact q _ _ ad x2 c2 (Rep.lst (vs := vs) (c.new hp) upd_same (r.kp x2.kp))
theorem new_tup {K : PySem.W.Frag} {ad : List Addr} {F : Addr → Prop} {H : Hp} {vs : List V} {Q : VK} (c : HoldC T K ad F H cs) (r : Reps T K (Mm ad F) H vs ds) (q : ∀ z H' ad', Ext ad F H ad' H' → HoldC T K ad' F H' cs → SlRep T K ad' F H' z (.dat (.tup ds)) → Q z H')
    {p : Addr} (hp : H p = none) : Q (.ref p) (upd H p (.tup vs)) := by
  obtain ⟨c2, x2⟩ := c.newo (o := .tup vs) hp
  exact q _ _ ad x2 c2 (Rep.tup (vs := vs) (.inl ⟨c.new hp, .inl upd_same⟩) (r.kp x2.kp))
theorem new_lstC {K : PySem.W.Frag} {ad : List Addr} {F : Addr → Prop} {H : Hp} {vs : List V} {Q : VK} (c : HoldC T K ad F H cs) (r : Reps T K (Mm ad F) H vs ds) (q : ∀ z H' ad', Ext ad F H ad' H' → HoldC T K ad' F H' (cs ++ [.lst ds]) → SlRep T K ad' F H' z (.cel cs.length) → Q z H')
    {p : Addr} (hp : H p = none) : Q (.ref p) (upd H p (.lst vs)) := by
  have kp : Kp (Mm ad F) H (Mm (ad ++ [p]) F) (upd H p (.lst vs)) := fun a o e n => by
    have np : a ≠ p := ne_of_none e hp
    refine ⟨by rw [upd_ne np]; exact e, fun z => ?_⟩
    rcases z with z | z
    · rcases List.mem_append.mp z with z | z
      · exact n (.inl z)
      · exact np (List.mem_singleton.mp z)
    · exact n (.inr z)
  obtain ⟨c2, x2⟩ := c.cell (o := .lst vs) (c := .lst ds) hp ⟨vs, upd_same, r.kp kp⟩
  refine q _ _ _ x2 c2 ⟨p, ?_, rfl⟩
  rw [← c.ln, List.getElem?_append_right (Nat.le_refl _)]
  simp
/-- a list to be read: data or a cell -/
def isLst (cs : List Cell) (ds : List D) : Sl → Prop
  | .dat d => d = .lst ds
  | .cel k => cs[k]? = some (.lst ds)
theorem rd_lst {K : PySem.W.Frag} {ad : List Addr} {F : Addr → Prop} {H : Hp} {v : V} (h : isLst cs ds s) (c : HoldC T K ad F H cs) (r : SlRep T K ad F H v s) : ∃ a vs, v = .ref a ∧ H a = some (.lst vs) ∧ Reps T K (Mm ad F) H vs ds := by
  cases s with
  | dat d =>
    obtain rfl : d = .lst ds := h
    cases r with
    | lst n e r => exact ⟨_, _, rfl, e, r⟩
  | cel k =>
    obtain ⟨a, e, rfl⟩ := r
    obtain ⟨vs, h1, h2⟩ := c.ce k a _ e h
    exact ⟨a, vs, rfl, h1, h2⟩
theorem bin_addL (h1 : isLst cs ds s1) (h2 : isLst cs es s2) (hl : ds.length + es.length ≤ sizeLine) : BinD X T .Add s1 s2 cs (.dat (.lst (ds ++ es))) cs := ⟨_, op_cat, fun ad F H v w Q c r1 r2 q => by
  obtain ⟨a, vs, rfl, e1, q1⟩ := rd_lst h1 c r1
  obtain ⟨b, ws, rfl, e2, q2⟩ := rd_lst h2 c r2
  exact ⟨a, b, vs, ws, rfl, rfl, e1, e2, by rw [q1.length, q2.length]; exact hl, fun p hp => new_lst c (q1.append q2) q hp⟩⟩
theorem bin_addLC (h1 : isLst cs ds s1) (h2 : isLst cs es s2) (hl : ds.length + es.length ≤ sizeLine) : BinD X T .Add s1 s2 cs (.cel cs.length) (cs ++ [.lst (ds ++ es)]) := ⟨_, op_cat, fun ad F H v w Q c r1 r2 q => by
  obtain ⟨a, vs, rfl, e1, q1⟩ := rd_lst h1 c r1
  obtain ⟨b, ws, rfl, e2, q2⟩ := rd_lst h2 c r2
  exact ⟨a, b, vs, ws, rfl, rfl, e1, e2, by rw [q1.length, q2.length]; exact hl, fun p hp => new_lstC c (q1.append q2) q hp⟩⟩
theorem bin_addT (hl : ds.length + es.length ≤ sizeLine) : BinD X T .Add (.dat (.tup ds)) (.dat (.tup es)) cs (.dat (.tup (ds ++ es))) cs := ⟨_, op_catA, fun ad F H v w Q c r1 r2 q => by
  cases r1 with
  | @tup a vs _ e1 q1 =>
    cases r2 with
    | @tup b ws _ e2 q2 =>
      refine ⟨a, b, vs, ws, rfl, rfl, e1.sq, e2.sq, by rw [q1.length, q2.length]; exact hl, ?_⟩
      refine ⟨fun h => ?_, fun h => ?_, fun h h' p hp => new_tup c (q1.append q2) q hp⟩
      · subst h
        cases q1
        exact q _ H ad .refl c (Rep.tup e2 q2)
      · first
          | (intro h'; subst h'; cases q2; refine q _ H ad .refl c ?_; rw [List.append_nil]; exact Rep.tup e1 q1)
          | (subst h; cases q2; refine q _ H ad .refl c ?_; rw [List.append_nil]; exact Rep.tup e1 q1)⟩
theorem bin_addS {x y : Str} (hl : x.length + y.length ≤ sizeLine) : BinD X T .Add (.dat (.str x)) (.dat (.str y)) cs (.dat (.str (x ++ y))) cs := ⟨_, op_add_str, fun ad F H v w Q c r1 r2 q => by
  cases r1; cases r2
  exact ⟨x, y, rfl, rfl, hl, q _ H ad .refl c Rep.str⟩⟩
theorem reps_rep {K : PySem.W.Frag} {M : Addr → Prop} {H : Hp} {vs : List V} (h : Reps T K M H vs ds) : ∀ n, Reps T K M H (List.replicate n vs).flatten (List.replicate n ds).flatten
  | 0 => .nil
  | n + 1 => by
    rw [List.replicate_succ, List.replicate_succ, List.flatten_cons, List.flatten_cons]
    exact h.append (reps_rep h n)
theorem bin_repL (h1 : isLst cs ds s1) (h2 : -(2 ^ 63) ≤ j) (h3 : j < 2 ^ 63) (hl : ds.length * j.toNat ≤ sizeLine) : BinD X T .Mult s1 (.dat (.int j)) cs (.dat (.lst (List.replicate j.toNat ds).flatten)) cs := ⟨_, op_rep, fun ad F H v w Q c r1 r2 q => by
  cases r2
  obtain ⟨a, vs, rfl, e1, q1⟩ := rd_lst h1 c r1
  refine ⟨a, j, vs, rfl, rfl, e1, h2, h3, by rw [q1.length]; exact hl, fun p hp => ?_⟩
  first
    | exact new_lst c (reps_rep q1 _) q hp
    | (have z := new_lst c (reps_rep q1 j.toNat) q hp; simpa using z)⟩
def cutD (ds : List D) (lo hi : Option Int) : List D := (ds.drop (HT.sIx ds.length 0 lo)).take (HT.sIx ds.length ds.length hi - HT.sIx ds.length 0 lo)
theorem reps_cut {K : PySem.W.Frag} {M : Addr → Prop} {H : Hp} {vs : List V} (h : Reps T K M H vs ds) (lo hi : Option Int) : Reps T K M H (cutV vs lo hi) (cutD ds lo hi) := by
  unfold cutV cutD
  rw [h.length]
  exact (h.drop _).take _
/-- an optional part of a slice -/
def tDO (T : Tab) (K : PySem.W.Frag) (S : Sta) (o : Option Int) (S' : Sta) : TO := fun σ H Q => ∃ ad F, Hold T K S ad F σ H ∧ ∀ H' ad', Ext ad F H ad' H' → Hold T K S' ad' F σ H' → Q o H'
def DO' (X : Cx) (T : Tab) (S : Sta) (e : Option Expr) (o : Option Int) (S' : Sta) : Prop := PO X e (tDO T X.K S o S')
theorem weakO {X : Cx} {e : Option Expr} {t t' : TO} (h : PO X e t) (q : ∀ σ H Q, t' σ H Q → t σ H Q) : PO X e t' := ⟨fun pins s σ H Q I z => h.run pins s σ H Q I (q σ H Q z)⟩
theorem do_none : DO' X T S none none S := weakO po_none fun σ H Q ⟨ad, F, h, q⟩ => q H ad .refl h
theorem do_some (h : DE X T S e (.dat (.int i)) S1) : DO' X T S (some e) (some i) S1 := weakO (po_some h) fun σ H Q ⟨ad, F, h, q⟩ => ⟨ad, F, h, fun v H1 ad1 x1 h1 r1 => by cases r1; exact ⟨i, rfl, q H1 ad1 x1 h1⟩⟩
def SlcD (X : Cx) (T : Tab) (s1 : Sl) (lo hi : Option Int) (cs : List Cell) (s : Sl) (cs' : List Cell) : Prop := ∃ r, SlR X r ∧ ∀ ad F H v (Q : VK), HoldC T X.K ad F H cs → SlRep T X.K ad F H v s1 → (∀ z H' ad', Ext ad F H ad' H' → HoldC T X.K ad' F H' cs' → SlRep T X.K ad' F H' z s → Q z H') → r v lo hi H Q
theorem de_slice {lo hi : Option Expr} {l u : Option Int} {p2 : Pos} (ha : DE X T S e s1 S1) (hl : DO' X T S1 lo l S2) (hu : DO' X T S2 hi u S3) (h : SlcD X T s1 l u S3.cs s S3.cs) : DE X T S (.Subscript e (.Slice lo hi none p2) pos) s S3 := by
  obtain ⟨r, hs, hr⟩ := h
  refine weak (pe_slice hs ha hl hu) fun σ H Q ⟨ad, F, h0, q⟩ => ⟨ad, F, h0, fun v H1 ad1 x1 h1 r1 => ⟨ad1, F, h1, fun H2 ad2 x2 h2 => ⟨ad2, F, h2, fun H3 ad3 x3 h3 => ?_⟩⟩⟩
  refine hr ad3 F H3 v Q h3.hc ((r1.ext x2).ext x3) fun z H' ad' x4 c4 r4 => ?_
  exact q z H' ad' (x1.trans h1.hc (x2.trans h2.hc (x3.trans h3.hc x4))) (h3.to x4 c4) r4
theorem slc_L {lo hi : Option Int} (h1 : isLst cs ds s1) : SlcD X T s1 lo hi cs (.dat (.lst (cutD ds lo hi))) cs := ⟨_, sl_list, fun ad F H v Q c r1 q => by
  obtain ⟨a, vs, rfl, e1, q1⟩ := rd_lst h1 c r1
  exact ⟨a, vs, rfl, SqL.of e1, fun p hp => new_lst c (reps_cut q1 lo hi) q hp⟩⟩
theorem slc_T {lo hi : Option Int} : SlcD X T (.dat (.tup ds)) lo hi cs (.dat (.tup (cutD ds lo hi))) cs := ⟨_, sl_tupA, fun ad F H v Q c r1 q => by
  cases r1 with
  | @tup a vs _ e1 q1 =>
    refine ⟨a, vs, rfl, e1.sq, fun hw => ?_, fun hw p hp => new_tup c (reps_cut q1 lo hi) q hp⟩
    have e : cutD ds lo hi = ds := by
      unfold cutD
      rw [q1.length] at hw
      rw [hw.1, hw.2]
      simp
    rw [e] at q
    exact q _ H ad .refl c (Rep.tup e1 q1)⟩

/-! #### == of data -/
mutual
def D.py : D → PyData
  | .non => .none
  | .bl b => .bool b
  | .int i => .int i
  | .str x => .str x
  | .tup xs => .tuple (D.pys xs)
  | .lst xs => .list (D.pys xs)
  | .scr xs => .list (D.pys xs)
  | .obj _ _ => .none
  | .err _ _ _ _ => .none
  | .cls _ => .none
  | .dct _ _ => .none
def D.pys : List D → List PyData
  | [] => []
  | x :: xs => D.py x :: D.pys xs
end
mutual
def D.plain : D → Bool
  | .tup xs => D.plains xs
  | .lst xs => D.plains xs
  | .scr xs => D.plains xs
  | .obj _ _ => false
  | .err _ _ _ _ => false
  | .cls _ => false
  | .dct _ _ => false
  | _ => true
def D.plains : List D → Bool
  | [] => true
  | x :: xs => D.plain x && D.plains xs
end
mutual
theorem Rep.dp {K : PySem.W.Frag} {M : Addr → Prop} {H : Hp} {v : V} {d : D} (r : Rep T K M H v d) (h : d.plain = true) : Dp K H v d.py :=
  match r with
  | .non => .non
  | .bl => .bl _
  | .int => .int _
  | .str => .str _
  | .tup h1 h2 => .tup h1.sq (Reps.dp h2 h)
  | .lst n h1 h2 => .lst (SqL.of h1) (Reps.dp h2 h)
  | .scr h1 h2 => .lst h1.sq (Reps.dp h2 h)
  | .obj .. => Bool.noConfusion (show false = true from h)
  | .err .. => Bool.noConfusion (show false = true from h)
  | .cls => Bool.noConfusion (show false = true from h)
  | .dct .. => Bool.noConfusion (show false = true from h)
theorem Reps.dp {K : PySem.W.Frag} {M : Addr → Prop} {H : Hp} {vs : List V} {ds : List D} (r : Reps T K M H vs ds) (h : D.plains ds = true) : DpAll K H vs (D.pys ds) :=
  match r, h with
  | .nil, _ => .nil
  | .cons h1 h2, h => .cons (Rep.dp h1 (Bool.and_eq_true_iff.mp h).1) (Reps.dp h2 (Bool.and_eq_true_iff.mp h).2)
end
def okD (d : D) : Bool := d.plain && SeqAt.shaped d.py
def eqD (d e : D) : Bool := PyData.eqv d.py e.py
theorem cmp_eqD (hu : X.A.units + 64 < cLine) (h1 : okD d1 = true) (h2 : okD d2 = true) : CmpD X T .Eq (.dat d1) (.dat d2) cs (.dat (.bl (eqD d1 d2))) cs := ⟨_, op_eqD hu, fun ad F H v w Q c r1 r2 q => by
  have a1 := Bool.and_eq_true_iff.mp h1
  have a2 := Bool.and_eq_true_iff.mp h2
  exact ⟨_, _, Rep.dp r1 a1.1, Rep.dp r2 a2.1, a1.2, a2.2, q _ H ad .refl c Rep.bl⟩⟩
theorem cmp_neD (hu : X.A.units + 64 < cLine) (h1 : okD d1 = true) (h2 : okD d2 = true) : CmpD X T .NotEq (.dat d1) (.dat d2) cs (.dat (.bl (!eqD d1 d2))) cs := ⟨_, op_neD hu, fun ad F H v w Q c r1 r2 q => by
  have a1 := Bool.and_eq_true_iff.mp h1
  have a2 := Bool.and_eq_true_iff.mp h2
  exact ⟨_, _, Rep.dp r1 a1.1, Rep.dp r2 a2.1, a1.2, a2.2, q _ H ad .refl c Rep.bl⟩⟩
theorem eqD_refl (h : okD d = true) : eqD d d = true := by
  have a1 := Bool.and_eq_true_iff.mp h
  exact SeqAt.eqv_refl _ (SeqAt.canLay_of_shaped a1.2)

/-! #### builtins -/
theorem cb_len (h : isLst cs ds s1) : CalB X T "len" [s1] cs (.dat (.int ds.length)) cs := ⟨_, _, PySem.boot_len, .inl ⟨_, rfl⟩, call_len_seq, fun ad F H vs Q c r q => by
  match vs, r with
  | [v], r =>
    obtain ⟨a, ws, rfl, e1, q1⟩ := rd_lst h c r.1
    exact ⟨a, ws, rfl, .inl (SqL.of e1), by rw [q1.length]; exact q _ H ad .refl c Rep.int⟩⟩
theorem cb_lenR : CalB X T "len" [.dat (.scr ds)] cs (.dat (.int ds.length)) cs := ⟨_, _, PySem.boot_len, .inl ⟨_, rfl⟩, call_len_seq, fun ad F H vs Q c r q => by
  match vs, r with
  | [v], r =>
    have r1 := r.1
    cases r1 with
    | @scr a ws _ e1 q1 => exact ⟨a, ws, rfl, .inl e1.sq, by rw [q1.length]; exact q _ H ad .refl c Rep.int⟩⟩
theorem cb_lenT : CalB X T "len" [.dat (.tup ds)] cs (.dat (.int ds.length)) cs := ⟨_, _, PySem.boot_len, .inl ⟨_, rfl⟩, call_len_seq, fun ad F H vs Q c r q => by
  match vs, r with
  | [v], r =>
    have r1 := r.1
    cases r1 with
    | @tup a ws _ e1 q1 => exact ⟨a, ws, rfl, .inr e1.sq, by rw [q1.length]; exact q _ H ad .refl c Rep.int⟩⟩
theorem cb_lenS {x : Str} (hl : x.length ≤ sizeLine) : CalB X T "len" [.dat (.str x)] cs (.dat (.int x.length)) cs := ⟨_, _, PySem.boot_len, .inl ⟨_, rfl⟩, call_len_str, fun ad F H vs Q c r q => by
  match vs, r with
  | [v], r =>
    have r1 := r.1
    cases r1
    exact ⟨x, rfl, hl, q _ H ad .refl c Rep.int⟩⟩
theorem cb_int : CalB X T "int" [.dat (.int i)] cs (.dat (.int i)) cs := ⟨_, _, by decide +kernel, .inr ⟨_, rfl⟩, call_int1, fun ad F H vs Q c r q => by
  match vs, r with
  | [v], r =>
    have r1 := r.1
    cases r1
    exact .inl ⟨i, rfl, q _ H ad .refl c Rep.int⟩⟩
theorem cb_intB {k : Bool} : CalB X T "int" [.dat (.bl k)] cs (.dat (.int (if k then 1 else 0))) cs := ⟨_, _, by decide +kernel, .inr ⟨_, rfl⟩, call_int1, fun ad F H vs Q c r q => by
  match vs, r with
  | [v], r =>
    have r1 := r.1
    cases r1
    exact .inr ⟨k, rfl, q _ H ad .refl c Rep.int⟩⟩
theorem cb_boolB {k : Bool} : CalB X T "bool" [.dat (.bl k)] cs (.dat (.bl k)) cs := ⟨_, _, by decide +kernel, .inr ⟨_, rfl⟩, call_bool1, fun ad F H vs Q c r q => by
  match vs, r with
  | [v], r =>
    have r1 := r.1
    cases r1
    exact .inr ⟨k, rfl, q _ H ad .refl c Rep.bl⟩⟩
theorem cb_abs : CalB X T "abs" [.dat (.int i)] cs (.dat (.int (if i < 0 then -i else i))) cs := ⟨_, _, by decide +kernel, .inl ⟨_, rfl⟩, call_abs, fun ad F H vs Q c r q => by
  match vs, r with
  | [v], r =>
    have r1 := r.1
    cases r1
    exact ⟨i, rfl, q _ H ad .refl c Rep.int⟩⟩
theorem cb_max (hc : X.calm = true) : CalB X T "max" [.dat (.int i), .dat (.int j)] cs (.dat (.int (if j > i then j else i))) cs := ⟨_, _, by decide +kernel, .inl ⟨_, rfl⟩, call_max2 hc, fun ad F H vs Q c r q => by
  match vs, r with
  | [v, w], r =>
    have r1 := r.1
    have r2 := r.2.1
    cases r1; cases r2
    exact ⟨i, j, rfl, q _ H ad .refl c Rep.int⟩⟩
theorem cb_min (hc : X.calm = true) : CalB X T "min" [.dat (.int i), .dat (.int j)] cs (.dat (.int (if j < i then j else i))) cs := ⟨_, _, by decide +kernel, .inl ⟨_, rfl⟩, call_min2 hc, fun ad F H vs Q c r q => by
  match vs, r with
  | [v, w], r =>
    have r1 := r.1
    have r2 := r.2.1
    cases r1; cases r2
    exact ⟨i, j, rfl, q _ H ad .refl c Rep.int⟩⟩
theorem cb_tupL (h : isLst cs ds s1) : CalB X T "tuple" [s1] cs (.dat (.tup ds)) cs := ⟨_, _, by decide +kernel, .inr ⟨_, rfl⟩, call_tuple_of, fun ad F H vs Q c r q => by
  match vs, r with
  | [v], r =>
    obtain ⟨a, ws, rfl, e1, q1⟩ := rd_lst h c r.1
    exact ⟨a, ws, rfl, .inl ⟨SqL.of e1, fun l hl => new_tup c q1 q hl⟩⟩⟩
theorem cb_tupT : CalB X T "tuple" [.dat (.tup ds)] cs (.dat (.tup ds)) cs := ⟨_, _, by decide +kernel, .inr ⟨_, rfl⟩, call_tuple_of, fun ad F H vs Q c r q => by
  match vs, r with
  | [v], r =>
    have r1 := r.1
    cases r1 with
    | @tup a ws _ e1 q1 => exact ⟨a, ws, rfl, .inr ⟨e1.sq, q _ H ad .refl c (Rep.tup e1 q1)⟩⟩⟩
theorem cb_lstL (h : isLst cs ds s1) : CalB X T "list" [s1] cs (.dat (.lst ds)) cs := ⟨_, _, by decide +kernel, .inr ⟨_, rfl⟩, call_list_of, fun ad F H vs Q c r q => by
  match vs, r with
  | [v], r =>
    obtain ⟨a, ws, rfl, e1, q1⟩ := rd_lst h c r.1
    exact ⟨a, ws, rfl, .inl (SqL.of e1), fun l hl => new_lst c q1 q hl⟩⟩
theorem cb_lstT : CalB X T "list" [.dat (.tup ds)] cs (.dat (.lst ds)) cs := ⟨_, _, by decide +kernel, .inr ⟨_, rfl⟩, call_list_of, fun ad F H vs Q c r q => by
  match vs, r with
  | [v], r =>
    have r1 := r.1
    cases r1 with
    | @tup a ws _ e1 q1 => exact ⟨a, ws, rfl, .inr e1.sq, fun l hl => new_lst c q1 q hl⟩⟩
theorem cb_lstLC (h : isLst cs ds s1) : CalB X T "list" [s1] cs (.cel cs.length) (cs ++ [.lst ds]) := ⟨_, _, by decide +kernel, .inr ⟨_, rfl⟩, call_list_of, fun ad F H vs Q c r q => by
  match vs, r with
  | [v], r =>
    obtain ⟨a, ws, rfl, e1, q1⟩ := rd_lst h c r.1
    exact ⟨a, ws, rfl, .inl (SqL.of e1), fun l hl => new_lstC c q1 q hl⟩⟩
theorem cb_lstTC : CalB X T "list" [.dat (.tup ds)] cs (.cel cs.length) (cs ++ [.lst ds]) := ⟨_, _, by decide +kernel, .inr ⟨_, rfl⟩, call_list_of, fun ad F H vs Q c r q => by
  match vs, r with
  | [v], r =>
    have r1 := r.1
    cases r1 with
    | @tup a ws _ e1 q1 => exact ⟨a, ws, rfl, .inr e1.sq, fun l hl => new_lstC c q1 q hl⟩⟩
end

/-! ### stores to a list -/
section
variable {X : Cx} {T : Tab} {n : Nat} {S S1 S2 S3 : Sta} {e o ix : Expr} {pos p' : Pos} {d : D} {ds : List D} {k j : Nat} {i : Int} {P : Post}
theorem ds_setL (he : DE X T S e (.dat d) S1) (ho : DE X T S1 o (.cel k) S2) (hi : DE X T S2 ix (.dat (.int i)) S3) (hk : S3.cs[k]? = some (.lst ds)) (hj : ixN ds.length i = some j) (h : P.nx ⟨S3.sl, S3.cs.set k (.lst (ds.set j d))⟩)
    (ha : ∀ v, assign (.Subscript o ix p') X.env v = (do
      let ov ← holding [v] (eval o X.env)
      let iv ← holding [v, ov] (eval ix X.env)
      standAt p'
      holding [v, ov, iv] (setItem ov iv v)
      release [v, ov, iv] []) := by intro _; rfl)
    (hs : swapsWithSole [.Subscript o ix p'] e pos.line X.env = pure false := by rfl) (hw : swappedStores [.Subscript o ix p'] e X.env = pure none := by rfl)
    (h1 : (assignEach [.Subscript o ix p'] X.env).map (·.2) = [assign (.Subscript o ix p') X.env] := by rfl) : DS X T n S (.Assign [.Subscript o ix p'] e pos) P :=
  weakS (ps_asg he (pg_sub ho hi set_list ha) hs hw h1) fun D σ H ⟨ad, F, hn, h0, q, _⟩ => ⟨ad, F, h0, fun v H1 ad1 x1 h1 r1 => ⟨ad1, F, h1, fun w H2 ad2 x2 h2 r2 => ⟨ad2, F, h2, fun z H3 ad3 x3 h3 r3 => by
    cases r3
    have r2' := SlRep.ext x3 r2
    obtain ⟨a, ea, rfl⟩ := r2'
    obtain ⟨vs, e1, q1⟩ := h3.hc.ce k a _ ea hk
    have rd : Rep T X.K (Mm ad3 F) H3 v d := SlRep.ext (s := .dat d) x3 (SlRep.ext (s := .dat d) x2 r1)
    refine ⟨a, vs, i, j, rfl, rfl, e1, by rw [q1.length]; exact hj, ?_⟩
    have kp : Kp (Mm ad3 F) H3 (Mm ad3 F) (upd H3 a (.lst (vs.set j v))) := fun b o e n => ⟨by rw [upd_ne (fun z => n (.inl (by rw [z]; exact List.mem_of_getElem? ea)))]; exact e, n⟩
    obtain ⟨c4, x4⟩ := h3.hc.setc (o := .lst (vs.set j v)) (c := .lst (ds.set j d)) ea ⟨_, upd_same, (q1.set rd j).kp kp⟩
    have x : Ext ad F H ad3 _ := x1.trans h1.hc (x2.trans h2.hc (x3.trans h3.hc x4))
    exact q _ _ _ ad3 (x.s hn) (x.le hn) (h3.to x4 c4) h⟩⟩⟩
end
end Dl

namespace Dl
open PySem L2

/-! ### comprehensions -/
def wipeS (sl : List (Option Sl)) : List Nat → List (Option Sl)
  | [] => sl
  | v :: vs => (wipeS sl vs).set v none
theorem wipeS_len (sl : List (Option Sl)) : ∀ vs, (wipeS sl vs).length = sl.length
  | [] => rfl
  | v :: vs => by unfold wipeS; rw [List.length_set, wipeS_len sl vs]
theorem wipeS_some {sl : List (Option Sl)} {i : Nat} {s : Sl} : ∀ {vs : List Nat}, (wipeS sl vs)[i]? = some (some s) → sl[i]? = some (some s) ∧ i ∉ vs
  | [], h => ⟨h, by simp⟩
  | v :: vs, h => by
    unfold wipeS at h
    by_cases e : v = i
    · subst e
      rw [List.getElem?_set] at h
      split at h
      · split at h <;> cases h
      · rename_i z; exact absurd rfl z
    · rw [List.getElem?_set_ne e] at h
      obtain ⟨h1, h2⟩ := wipeS_some h
      exact ⟨h1, fun z => (List.mem_cons.mp z).elim (fun q => e q.symm) h2⟩
def tDTs (T : Tab) (K : PySem.W.Frag) := tDT T K
def DTs (X : Cx) (T : Tab) (S : Sta) (ifs : List Expr) (b : Bool) (S' : Sta) : Prop := PTs X ifs (tDT T X.K S b S')
theorem weakTs {X : Cx} {e : List Expr} {t t' : TT} (h : PTs X e t) (q : ∀ σ H Q, t' σ H Q → t σ H Q) : PTs X e t' := ⟨fun pins s σ H Q I z => h.run pins s σ H Q I (q σ H Q z)⟩
theorem dts_nil {X : Cx} {T : Tab} {S : Sta} : DTs X T S [] true S := weakTs pts_nil fun σ H Q ⟨ad, F, h, q⟩ => q H ad .refl h
theorem dts_one {X : Cx} {T : Tab} {S S1 : Sta} {c : Expr} {b : Bool} (h : DT X T S c b S1) : DTs X T S [c] b S1 := pts_one h

/-- one turn: from the slots and cells the item made (none: left out) and the cells behind -/
abbrev Turn1 := List (Option Sl) → List Cell → Option D → List Cell → Prop
def DLcs (B : Turn1) (p : Pat) (sl : List (Option Sl)) : List D → List Cell → List D → List Cell → Prop
  | [], cs, acc, cs' => acc = [] ∧ cs' = cs
  | d :: ds, cs, acc, cs' => ∃ sl' o cs1 acc1, asgP p d sl = some sl' ∧ B sl' cs o cs1 ∧ DLcs B p sl ds cs1 acc1 cs' ∧ acc = o.toList ++ acc1
/-- the block's contexts -/
def InB (X : Cx) (scope : Scope) (f : Cx → Prop) : Prop := ∀ (s : Shared) (H : Hp) (C : Addr) (cl : List (Str × Addr)) (fp : List Addr), f (X.blk s H scope (compEnvC scope cl C X.env) fp)
def LcB (X : Cx) (T : Tab) (scope : Scope) (ifs : List Expr) (elt : Expr) : Turn1 := fun sl' cs o cs1 =>
  ∃ b S2, InB X scope (fun X' => DTs X' T ⟨sl', cs⟩ ifs b S2) ∧ ((b = true ∧ ∃ d S3, InB X scope (fun X' => DE X' T S2 elt (.dat d) S3) ∧ o = some d ∧ cs1 = S3.cs) ∨ (b = false ∧ o = none ∧ cs1 = S2.cs))
structure DLC (X : Cx) (T : Tab) (S : Sta) (elt tg iter : Expr) (ifs : List Expr) (scope : Scope) (own : List (Str × Nat)) (wi : TI) (g : TG) (tt : TT) (te : TE) (s : Sl) (S' : Sta) : Prop where
  hi : PI X tg iter wi
  ok : BlkOk X.N X.env.scope scope own
  hg : ∀ (s : Shared) (H : Hp) (C : Addr) (cl : List (Str × Addr)) (fp : List Addr), PG (X.blk s H scope (compEnvC scope cl C X.env) fp) tg g
  ht : ∀ (s : Shared) (H : Hp) (C : Addr) (cl : List (Str × Addr)) (fp : List Addr), PTs (X.blk s H scope (compEnvC scope cl C X.env) fp) ifs tt
  he : ∀ (s : Shared) (H : Hp) (C : Addr) (cl : List (Str × Addr)) (fp : List Addr), PE (X.blk s H scope (compEnvC scope cl C X.env) fp) elt te
  rd : ∀ σ H Q, tD T X.K S s S' σ H Q → tLc wi g tt te (own.map (·.2)) σ H Q
section
variable {X : Cx} {T : Tab} {S S1 : Sta} {elt tg iter : Expr} {ifs : List Expr} {scope : Scope} {own : List (Str × Nat)} {p : Pat} {items acc : List D} {cs' : List Cell}
/-- wi and the rest, chosen -/
def wiD (T : Tab) (K : PySem.W.Frag) (S : Sta) (items : List D) (S1 : Sta) : TI := tDI T K S items S1
def ttD (X : Cx) (T : Tab) (scope : Scope) (ifs : List Expr) : TT := fun σ H Q => ∃ S b S', InB X scope (fun X' => DTs X' T S ifs b S') ∧ tDT T X.K S b S' σ H Q
def teD (X : Cx) (T : Tab) (scope : Scope) (elt : Expr) : TE := fun σ H Q => ∃ S s S', InB X scope (fun X' => DE X' T S elt s S') ∧ tD T X.K S s S' σ H Q
theorem wipe_asis {σ σ' : St} {vs : List Nat} {ns : List Nat} (h : AsIs ns (wipe σ vs) σ') (hs : ∀ i ∈ ns, i ∈ vs) : wipe σ' vs = wipe σ vs := by
  apply List.ext_getElem?
  intro i
  by_cases hi : i ∈ vs
  · have : ∀ (τ : St) (us : List Nat), i ∈ us → (wipe τ us)[i]? = if i < τ.length then some none else none := by
      intro τ us
      induction us with
      | nil => intro h; cases h
      | cons v us ih =>
        intro h
        unfold wipe
        by_cases e : v = i
        · subst e
          rw [List.getElem?_set, if_pos rfl, wipe_length]
        · rw [List.getElem?_set_ne e]
          exact ih ((List.mem_cons.mp h).resolve_left (fun q => e q.symm))
    rw [this _ _ hi, this _ _ hi, h.1, wipe_length]
  · rw [wipe_out hi, wipe_out hi, h.2 i fun z => hi (hs i z), wipe_out hi]
theorem dlc (hi : DI X T S tg iter items S1) (ok : BlkOk X.N X.env.scope scope own) (hg : InB X scope fun X' => DG X' T tg p) (hp : ∀ i ∈ slotsP p, i ∈ own.map (·.2))
    (h : DLcs (LcB X T scope ifs elt) p (wipeS S1.sl (own.map (·.2))) items S1.cs acc cs') (hl : items.length < sizeLine) : DLC X T S elt tg iter ifs scope own (wiD T X.K S items S1) (tDG T X.K p) (ttD X T scope ifs) (teD X T scope elt) (.dat (.lst acc)) ⟨S1.sl, cs'⟩ := by
  refine ⟨hi, ok, hg, fun s H C cl fp => ⟨fun pins s2 σ H2 Q I ⟨S', b, S'', hh, z⟩ => (hh s H C cl fp).run pins s2 σ H2 Q I z⟩, fun s H C cl fp => ⟨fun pins s2 σ H2 Q I ⟨S', s', S'', hh, z⟩ => (hh s H C cl fp).run pins s2 σ H2 Q I z⟩, ?_⟩
  rintro σ H Q ⟨ad, F, h0, q⟩
  refine ⟨ad, F, h0, fun J H1 ad1 x1 h1 okI Dl hD => ?_⟩
  let vs := own.map (·.2)
  have nD := h1.hc.new hD
  let F' : Addr → Prop := fun a => F a ∨ a = Dl
  have neD : ∀ a o, H1 a = some o → a ≠ Dl := fun a o e => ne_of_none e hD
  -- the slots, at any later heap
  have slots : ∀ {ad' : List Addr} {H' : Hp} {cs : List Cell}, Ext ad1 F H1 ad' H' → HoldC T X.K ad' F' H' cs → Hold T X.K ⟨wipeS S1.sl vs, cs⟩ ad' F' (wipe σ vs) H' := fun {ad' H' cs} x c => by
    refine ⟨c, by rw [wipe_length, wipeS_len]; exact h1.sz, fun i s e => ?_⟩
    obtain ⟨e1, e2⟩ := wipeS_some e
    obtain ⟨v, hv, r⟩ := h1.sl i s e1
    refine ⟨v, by rw [wipe_out e2]; exact hv, ?_⟩
    cases s with
    | dat d => exact Rep.kp (fun a o e n => ⟨x.keep a o e n, fun z => (x.kp a o e n).2 (z.imp id fun z => z.resolve_right (neD a o e))⟩) r
    | cel k =>
      have r' := SlRep.ext x r
      exact r'
  have h1' : HoldC T X.K ad1 F' (upd H1 Dl (.lst [])) S1.cs := by
    obtain ⟨c2, x2⟩ := h1.hc.newo (o := .lst []) hD
    have kp : Kp (Mm ad1 F) H1 (Mm ad1 F') (upd H1 Dl (.lst [])) := fun a o e n => ⟨by rw [upd_ne (neD a o e)]; exact e, fun z => n (z.imp id fun z => z.resolve_right (neD a o e))⟩
    refine ⟨h1.hc.nd, fun a ha z => z.elim (h1.hc.fr a ha) fun z => nD (.inl (z ▸ ha)), fun a z => ?_, h1.hc.ln, fun k a c e1 e2 => ?_⟩
    · rcases z with z | z
      · exact c2.al a z
      · rw [z]; exact ⟨_, upd_same⟩
    · have qc := h1.hc.ce k a c e1 e2
      obtain ⟨o, e⟩ := qc.some
      exact qc.kp kp (upd_ne (neD a o e))
  have x1' : Ext ad1 F H1 ad1 (upd H1 Dl (.lst [])) := (h1.hc.newo hD).2
  refine ⟨fun i m H' => ∃ ad' accV accD ci rest, i ≤ items.length ∧ m = items.length - i ∧ Ext ad1 F H1 ad' H' ∧ HoldC T X.K ad' F' H' ci ∧ H' Dl = some (.lst accV) ∧ Reps T X.K (Mm ad' F') H' accV accD ∧ accD.length ≤ i ∧
    DLcs (LcB X T scope ifs elt) p (wipeS S1.sl vs) (items.drop i) ci rest cs' ∧ accD ++ rest = acc, ⟨items.length, ad1, [], [], S1.cs, acc, Nat.zero_le _, rfl, x1', h1', upd_same, .nil, Nat.le_refl _, h, rfl⟩, ?_⟩
  rintro i m H' ⟨ad', accV, accD, ci, rest, hi', rfl, x', c', eD, rA, lA, hL, eA⟩
  have kpI : Kp (Mm ad1 F) H1 (Mm ad' F') H' := fun a o e n => ⟨x'.keep a o e n, fun z => (x'.kp a o e n).2 (z.imp id fun z => z.resolve_right (neD a o e))⟩
  obtain ⟨ok1, ok2⟩ := okI F' ad' H' ci c' kpI i
  by_cases hlt : i < items.length
  · have hd : items[i]? = some items[i] := List.getElem?_eq_getElem hlt
    obtain ⟨g1, g2⟩ := ok1 _ hd
    rw [List.drop_eq_getElem_cons hlt] at hL
    obtain ⟨sl', o, cs1, acc1, eas, ⟨b, S2, hts, hb⟩, hL2, eacc⟩ := hL
    refine .inr ⟨g1, fun H2 => ∃ m', m' < items.length - i ∧ ∃ ad' accV accD ci rest, i + 1 ≤ items.length ∧ m' = items.length - (i + 1) ∧ Ext ad1 F H1 ad' H2 ∧ HoldC T X.K ad' F' H2 ci ∧ H2 Dl = some (.lst accV) ∧ Reps T X.K (Mm ad' F') H2 accV accD ∧ accD.length ≤ i + 1 ∧
      DLcs (LcB X T scope ifs elt) p (wipeS S1.sl vs) (items.drop (i + 1)) ci rest cs' ∧ accD ++ rest = acc, fun H2 ⟨m', hm, z⟩ => ⟨m', hm, z⟩, fun v H3 y => ?_⟩
    obtain ⟨gr, rv⟩ := g2 v H3 y
    obtain ⟨c3, x3⟩ := grow c' gr
    have x13 : Ext ad1 F H1 ad' H3 := ⟨x'.pre, fun a o e n => gr a o (x'.keep a o e n), fun a fa => by
      obtain ⟨o, e⟩ := h1.hc.al a fa
      have e' : H' a = some o := by rw [x'.frm a fa]; exact e
      rw [gr a o e', e]⟩
    refine ⟨ad', F', ⟨wipeS S1.sl vs, ci⟩, items[i], sl', slots x13 c3, rv, eas, fun σ4 a4 h4 => ⟨wipe_asis a4 hp, ⟨sl', ci⟩, b, S2, hts, ad', F', h4, fun H5 ad5 x5 h5 => ?_⟩⟩
    have cvt : ∀ {ad6 : List Addr} {H6 : Hp}, Ext ad' F' H3 ad6 H6 → Ext ad1 F H1 ad6 H6 := fun {ad6 H6} x6 => by
      obtain ⟨t, e, ht⟩ := x13.pre
      obtain ⟨t2, e2, ht2⟩ := x6.pre
      refine ⟨⟨t ++ t2, by rw [e2, e, List.append_assoc], fun a ha => ?_⟩, fun a o e n => ?_, fun a fa => ?_⟩
      · rcases List.mem_append.mp ha with z | z
        · exact ht a z
        · cases q1 : H1 a with
          | none => rfl
          | some o =>
            exfalso
            have hz := ht2 a z
            by_cases n : Mm ad1 F a
            · rcases n with n | n
              · obtain ⟨o', e'⟩ := c3.mem (a := a) (by rw [e]; exact List.mem_append_left _ n)
                rw [e'] at hz; cases hz
              · rw [x13.frm a n, q1] at hz; cases hz
            · rw [x13.keep a o q1 n] at hz; cases hz
      · have n3 : ¬ Mm ad' F' a := fun z => (x13.kp a o e n).2 (z.imp id fun z => z.resolve_right (neD a o e))
        exact x6.keep a o (x13.keep a o e n) n3
      · rw [x6.frm a (.inl fa), x13.frm a fa]
    have eD3 : H3 Dl = some (.lst accV) := gr _ _ eD
    have rA3 : Reps T X.K (Mm ad' F') H3 accV accD := rA.kp x3.kp
    rcases hb with ⟨rfl, d', S3, hE, rfl, rfl⟩ | ⟨rfl, rfl, rfl⟩
    · refine iteT ⟨S2, .dat d', S3, hE, ad5, F', h5, fun w H6 ad6 x6 h6 r6 => ⟨accV, ?_, ?_, ?_⟩⟩
      · rw [x6.frm Dl (.inr rfl), x5.frm Dl (.inr rfl)]; exact eD3
      · have := rA3.length
        omega
      · have x36 : Ext ad' F' H3 ad6 H6 := x5.trans h5.hc x6
        have x16 := cvt x36
        have hDa : Dl ∉ ad6 := fun z => h6.hc.fr Dl z (.inr rfl)
        have kpU : Kp (Mm ad6 F') H6 (Mm ad6 F') (upd H6 Dl (.lst (accV ++ [w]))) := fun a o e n => ⟨by rw [upd_ne (fun z => n (.inr (.inr z)))]; exact e, n⟩
        refine ⟨_, by omega, ad6, accV ++ [w], accD ++ [d'], S3.cs, acc1, hlt, rfl, ?_, ?_, upd_same, ((rA3.kp x36.kp).append (.cons r6 .nil)).kp kpU, by rw [List.length_append]; simp; omega, hL2, ?_⟩
        · exact ⟨x16.pre, fun a o e n => by rw [upd_ne (neD a o e)]; exact x16.keep a o e n, fun a fa => by
            obtain ⟨o, e⟩ := h1.hc.al a fa
            rw [upd_ne (neD a o e)]; exact x16.frm a fa⟩
        · refine ⟨h6.hc.nd, h6.hc.fr, fun a z => ?_, h6.hc.ln, fun k a c e1 e2 => ?_⟩
          · by_cases e : a = Dl
            · rw [e]; exact ⟨_, upd_same⟩
            · rw [upd_ne e]; exact h6.hc.al a z
          · exact (h6.hc.ce k a c e1 e2).kp kpU (upd_ne fun z => hDa (z ▸ List.mem_of_getElem? e1))
        · rw [← eA, eacc, List.append_assoc]; rfl
    · refine iteF ⟨_, by omega, ad5, accV, accD, S2.cs, acc1, hlt, rfl, cvt x5, h5.hc, ?_, rA3.kp x5.kp, by omega, hL2, ?_⟩
      · rw [x5.frm Dl (.inr rfl)]; exact eD3
      · rw [← eA, eacc]; rfl
  · have e : i = items.length := by omega
    subst e
    rw [List.drop_length] at hL
    obtain ⟨rfl, rfl⟩ := hL
    rw [List.append_nil] at eA
    subst eA
    refine .inl ⟨ok2 rfl, ?_⟩
    have kpF : Kp (Mm ad' F') H' (Mm ad' F) H' := fun a o e n => ⟨e, fun z => n (z.imp id .inl)⟩
    have cF : HoldC T X.K ad' F H' cs' := ⟨c'.nd, fun a ha z => c'.fr a ha (.inl z), fun a z => c'.al a (.inl z), c'.ln, fun k a c e1 e2 => (c'.ce k a c e1 e2).kp kpF rfl⟩
    have nD' : ¬ Mm ad' F Dl := fun z => z.elim (fun z => c'.fr Dl z (.inr rfl)) fun z => nD (.inr z)
    exact q (.ref Dl) H' ad' (x1.trans h1.hc x') (h1.to x' cF) (Rep.lst nD' eD (rA.kp kpF))
variable {wi : TI} {g : TG} {tt : TT} {te : TE} {s : Sl} {S' : Sta} {pos : Pos}
theorem de_lc (hN : X.N.Nodup) (h : DLC X T S elt tg iter ifs scope own wi g tt te s S') (hc : X.calm = true := by rfl) (hs : ∀ x, foldedSetIterable iter X.env x = pure x := by intro _; rfl) : DE X T S (.ListComp elt [⟨tg, iter, ifs, 0⟩] scope pos) s S' :=
  weak (pe_lc hc hN h.hi h.ok h.hg h.ht h.he hs) h.rd
theorem ds_lc (i : Nat) {y : Str} {py spos : Pos} {n : Nat} {P : Post} (hN : X.N.Nodup) (h : DLC X T S elt tg iter ifs scope own wi g tt te s S') (q : P.nx ⟨S'.sl.set i (some s), S'.cs⟩) (hy : X.N[i]? = some y := by rfl) (hyl : X.env.scope.names.lookup y = some .local := by rfl)
    (hsw : swapsWith (.ListComp elt [⟨tg, iter, ifs, 0⟩] scope pos) (some (.Name y py)) spos.line X.env = pure true := by exact sw_true rfl rfl rfl (by decide +kernel)) (hc : X.calm = true := by rfl) (hs : ∀ x, foldedSetIterable iter X.env x = pure x := by intro _; rfl) :
    DS X T n S (.Assign [.Name y py] (.ListComp elt [⟨tg, iter, ifs, 0⟩] scope pos) spos) P :=
  weakS (ps_setLc hc hN hy hyl hsw h.hi h.ok h.hg h.ht h.he hs) fun D σ H ⟨ad, F, hn, h0, q1, _⟩ => h.rd σ H _ ⟨ad, F, h0, fun v H1 ad1 x1 h1 r1 => q1 _ _ H1 ad1 (x1.s hn) (x1.le hn) (h1.set r1 i) q⟩
end
/-! #### the turns -/
section
variable {B : Turn1} {p : Pat} {sl : List (Option Sl)} {cs : List Cell}
theorem lcs_map {α : Type} {g : α → D} (f : α → D) : ∀ (xs : List α), (∀ x ∈ xs, ∃ sl', asgP p (g x) sl = some sl' ∧ B sl' cs (some (f x)) cs) → DLcs B p sl (xs.map g) cs (xs.map f) cs
  | [], _ => ⟨rfl, rfl⟩
  | x :: xs, h => by
    obtain ⟨sl', e, hb⟩ := h x List.mem_cons_self
    exact ⟨sl', _, cs, xs.map f, e, hb, lcs_map f xs fun y hy => h y (List.mem_cons_of_mem _ hy), rfl⟩
theorem lcs_filter {α : Type} {g : α → D} (f : α → Option D) : ∀ (xs : List α), (∀ x ∈ xs, ∃ sl', asgP p (g x) sl = some sl' ∧ B sl' cs (f x) cs) → DLcs B p sl (xs.map g) cs (xs.filterMap f) cs
  | [], _ => ⟨rfl, rfl⟩
  | x :: xs, h => by
    obtain ⟨sl', e, hb⟩ := h x List.mem_cons_self
    refine ⟨sl', _, cs, xs.filterMap f, e, hb, lcs_filter f xs fun y hy => h y (List.mem_cons_of_mem _ hy), ?_⟩
    cases q : f x with
    | none => rw [List.filterMap_cons_none q]; rfl
    | some z => rw [List.filterMap_cons_some q]; rfl
variable {X : Cx} {T : Tab} {scope : Scope} {elt c : Expr} {sl' : List (Option Sl)} {cs1 : List Cell} {d : D} {S2 S3 : Sta}
theorem lcb (h : InB X scope fun X' => DE X' T ⟨sl', cs⟩ elt (.dat d) ⟨sl', cs1⟩) : LcB X T scope [] elt sl' cs (some d) cs1 := ⟨true, ⟨sl', cs⟩, fun _ _ _ _ _ => dts_nil, .inl ⟨rfl, d, _, h, rfl, rfl⟩⟩
theorem lcb_t (h1 : InB X scope fun X' => DT X' T ⟨sl', cs⟩ c true S2) (h : InB X scope fun X' => DE X' T S2 elt (.dat d) S3) : LcB X T scope [c] elt sl' cs (some d) S3.cs := ⟨true, S2, fun s H C cl fp => dts_one (h1 s H C cl fp), .inl ⟨rfl, d, _, h, rfl, rfl⟩⟩
theorem lcb_f (h1 : InB X scope fun X' => DT X' T ⟨sl', cs⟩ c false S2) : LcB X T scope [c] elt sl' cs none S2.cs := ⟨false, S2, fun s H C cl fp => dts_one (h1 s H C cl fp), .inr ⟨rfl, rfl, rfl⟩⟩
end
end Dl

namespace Dl
open PySem L2

/-! ### zip -/
section
variable {X : Cx} {T : Tab} {S S1 S2 : Sta} {e e2 : Expr} {pos p tpos : Pos} {ds es : List D} {elts : List Expr} {kk : Nat}
def zipD (ds es : List D) : List D := (ds.zip es).map fun q => D.tup [q.1, q.2]
theorem zipD_get {i : Nat} {d : D} (h : (zipD ds es)[i]? = some d) : ∃ x y, ds[i]? = some x ∧ es[i]? = some y ∧ d = .tup [x, y] := by
  unfold zipD at h
  rw [List.getElem?_map] at h
  cases q : (ds.zip es)[i]? with
  | none => rw [q] at h; cases h
  | some z =>
    rw [q] at h
    rw [List.getElem?_zip_eq_some] at q
    exact ⟨z.1, z.2, q.1, q.2, (Option.some.inj h).symm⟩
theorem zipD_len : (zipD ds es).length = min ds.length es.length := by unfold zipD; rw [List.length_map, List.length_zip]
theorem di_zipT (h : DA X T S [e, e2] [.dat (.tup ds), .dat (.tup es)] S1) (hm : X.mg "zip" = none) (hg : Gl X "zip" := by rfl) (hs : starEach [e, e2] X.env = (false, eval e X.env) :: starEach [e2] X.env := by rfl)
    (hpl : (backTo pos (starEach [e2] X.env)).any (·.1) = false := by rfl) : DI X T S (.Tuple elts kk tpos) (.Call (.Name "zip" p) [e, e2] [] pos) (zipD ds es) S1 :=
  weakI (RZ.pi_zipA hg hm h hs hpl) fun σ H R ⟨ad, F, h0, q⟩ => ⟨ad, F, h0, fun vs H1 ad1 x1 h1' r1 => by
    match vs, r1 with
    | [v, w], r1 =>
      have r2 := r1.2.1
      have r1 := r1.1
      cases r1 with
      | @tup a xs _ e1 q1 =>
        cases r2 with
        | @tup b ys _ e2 q2 =>
          refine ⟨a, b, xs, ys, rfl, .inr ⟨e1.sq, e2.sq, q _ H1 ad1 x1 h1' fun F2 ad2 H2 cs2 c2 kp i => ⟨fun d hd => ?_, fun hi => ?_⟩⟩⟩
          · obtain ⟨x, y, hx, hy, rfl⟩ := zipD_get hd
            obtain ⟨vx, gx, rx⟩ := (q1.kp kp).get hx
            obtain ⟨vy, gy, ry⟩ := (q2.kp kp).get hy
            refine ⟨⟨xs, ys, vx, vy, (e1.kp kp).sq, (e2.kp kp).sq, gx, gy⟩, fun u H3 z => ?_⟩
            obtain ⟨t, x', y', rfl, nt, rfl, f1, f2⟩ := z
            have ex : x' = vx := Option.some.inj ((f1 _ (e1.kp kp).sq).symm.trans gx)
            have ey : y' = vy := Option.some.inj ((f2 _ (e2.kp kp).sq).symm.trans gy)
            subst ex ey
            obtain ⟨c3, x3⟩ := c2.newo (o := .tup [x', y']) nt
            exact ⟨fun a o ea => by rw [upd_ne (ne_of_none ea nt)]; exact ea, .tup (vs := [x', y']) (.inl ⟨c2.new nt, .inl upd_same⟩) (.cons (rx.kp x3.kp) (.cons (ry.kp x3.kp) .nil))⟩
          · refine ⟨xs, ys, (e1.kp kp).sq, (e2.kp kp).sq, ?_⟩
            rw [zipD_len] at hi
            rw [q1.length, q2.length]
            omega⟩
theorem di_zipL (h : DA X T S [e, e2] [.dat (.lst ds), .dat (.lst es)] S1) (hm : X.mg "zip" = none) (hg : Gl X "zip" := by rfl) (hs : starEach [e, e2] X.env = (false, eval e X.env) :: starEach [e2] X.env := by rfl)
    (hpl : (backTo pos (starEach [e2] X.env)).any (·.1) = false := by rfl) : DI X T S (.Tuple elts kk tpos) (.Call (.Name "zip" p) [e, e2] [] pos) (zipD ds es) S1 :=
  weakI (RZ.pi_zipA hg hm h hs hpl) fun σ H R ⟨ad, F, h0, q⟩ => ⟨ad, F, h0, fun vs H1 ad1 x1 h1' r1 => by
    match vs, r1 with
    | [v, w], r1 =>
      have r2 := r1.2.1
      have r1 := r1.1
      cases r1 with
      | @lst a xs _ n1 e1 q1 =>
        cases r2 with
        | @lst b ys _ n2 e2 q2 =>
          refine ⟨a, b, xs, ys, rfl, .inl ⟨SqL.of e1, SqL.of e2, q _ H1 ad1 x1 h1' fun F2 ad2 H2 cs2 c2 kp i => ⟨fun d hd => ?_, fun hi => ?_⟩⟩⟩
          · obtain ⟨x, y, hx, hy, rfl⟩ := zipD_get hd
            obtain ⟨vx, gx, rx⟩ := (q1.kp kp).get hx
            obtain ⟨vy, gy, ry⟩ := (q2.kp kp).get hy
            have s1 : SqL X.K H2 a xs := SqL.of (kp _ _ e1 n1).1
            have s2 : SqL X.K H2 b ys := SqL.of (kp _ _ e2 n2).1
            refine ⟨⟨xs, ys, vx, vy, s1, s2, gx, gy⟩, fun u H3 z => ?_⟩
            obtain ⟨t, x', y', rfl, nt, rfl, f1, f2⟩ := z
            have ex : x' = vx := Option.some.inj ((f1 _ s1).symm.trans gx)
            have ey : y' = vy := Option.some.inj ((f2 _ s2).symm.trans gy)
            subst ex ey
            obtain ⟨c3, x3⟩ := c2.newo (o := .tup [x', y']) nt
            exact ⟨fun a o ea => by rw [upd_ne (ne_of_none ea nt)]; exact ea, .tup (vs := [x', y']) (.inl ⟨c2.new nt, .inl upd_same⟩) (.cons (rx.kp x3.kp) (.cons (ry.kp x3.kp) .nil))⟩
          · refine ⟨xs, ys, SqL.of (kp _ _ e1 n1).1, SqL.of (kp _ _ e2 n2).1, ?_⟩
            rw [zipD_len] at hi
            rw [q1.length, q2.length]
            omega⟩
end

/-! ### a, b = .. -/
section
variable {X : Cx} {T : Tab} {n : Nat} {S S1 S2 : Sta} {a b c e tg : Expr} {pos px py pz pt pt2 : Pos} {kt k2 : Nat} {s1 s2 s3 : Sl} {d : D} {x y z : Str} {P : Post} {p : Pat} {sl' : List (Option Sl)}
theorem ds_par (i j : Nat) (hN : X.N.Nodup) (ha : DA X T S [a, b] [s1, s2] S1) (h : P.nx ⟨(S1.sl.set i (some s1)).set j (some s2), S1.cs⟩) (hi : X.N[i]? = some x := by rfl) (hj : X.N[j]? = some y := by rfl) (hij : i ≠ j := by decide)
    (hx : X.env.scope.names.lookup x = some .local := by rfl) (hy : X.env.scope.names.lookup y = some .local := by rfl) (hc : X.calm = true := by rfl)
    (hw : swappedStores [.Tuple [.Name x px, .Name y py] kt pt] (.Tuple [a, b] k2 pt2) X.env = pure (some [x, y]) := by rfl)
    (hs : swapsWithSole [.Tuple [.Name x px, .Name y py] kt pt] (.Tuple [a, b] k2 pt2) pos.line X.env = pure false := by rfl) : DS X T n S (.Assign [.Tuple [.Name x px, .Name y py] kt pt] (.Tuple [a, b] k2 pt2) pos) P :=
  weakS (ps_par hc hN hi hj hij hx hy ha hw hs) fun D σ H ⟨ad, F, hn, h0, q, _⟩ => ⟨ad, F, h0, fun vs H1 ad1 x1 h1 r1 => by
    match vs, r1 with
    | [v, w], r1 => exact ⟨v, w, rfl, q _ _ H1 ad1 (x1.s hn) (x1.le hn) ((h1.set r1.1 i).set r1.2.1 j) h⟩⟩
theorem ds_par3 (i j l : Nat) (hN : X.N.Nodup) (ha : DA X T S [a, b, c] [s1, s2, s3] S1) (h : P.nx ⟨((S1.sl.set i (some s1)).set j (some s2)).set l (some s3), S1.cs⟩) (hi : X.N[i]? = some x := by rfl) (hj : X.N[j]? = some y := by rfl) (hl : X.N[l]? = some z := by rfl) (hij : i ≠ j := by decide) (hil : i ≠ l := by decide) (hjl : j ≠ l := by decide)
    (hx : X.env.scope.names.lookup x = some .local := by rfl) (hy : X.env.scope.names.lookup y = some .local := by rfl) (hz : X.env.scope.names.lookup z = some .local := by rfl) (hc : X.calm = true := by rfl)
    (hw : swappedStores [.Tuple [.Name x px, .Name y py, .Name z pz] kt pt] (.Tuple [a, b, c] k2 pt2) X.env = pure (some [x, y, z]) := by rfl)
    (hs : swapsWithSole [.Tuple [.Name x px, .Name y py, .Name z pz] kt pt] (.Tuple [a, b, c] k2 pt2) pos.line X.env = pure false := by rfl) : DS X T n S (.Assign [.Tuple [.Name x px, .Name y py, .Name z pz] kt pt] (.Tuple [a, b, c] k2 pt2) pos) P :=
  weakS (L2.ps_par3 hc hN hi hj hl hij hil hjl hx hy hz ha hw hs) fun D σ H ⟨ad, F, hn, h0, q, _⟩ => ⟨ad, F, h0, fun vs H1 ad1 x1 h1 r1 => by
    match vs, r1 with
    | [u, v, w], r1 => exact ⟨u, v, w, rfl, q _ _ H1 ad1 (x1.s hn) (x1.le hn) (((h1.set r1.1 i).set r1.2.1 j).set r1.2.2.1 l) h⟩⟩
/-- targets = data -/
theorem ds_tup (he : DE X T S e (.dat d) S1) (hg : DG X T tg p) (ha : asgP p d S1.sl = some sl') (h : P.nx ⟨sl', S1.cs⟩) (hs : swapsWithSole [tg] e pos.line X.env = pure false := by rfl) (hw : swappedStores [tg] e X.env = pure none := by rfl)
    (h1 : (assignEach [tg] X.env).map (·.2) = [assign tg X.env] := by rfl) : DS X T n S (.Assign [tg] e pos) P :=
  weakS (ps_asg he hg hs hw h1) fun D σ H ⟨ad, F, hn, h0, q, _⟩ => ⟨ad, F, h0, fun v H1 ad1 x1 h1 r1 => ⟨ad1, F, S1, d, sl', h1, r1, ha, fun σ' _ h2 => q _ _ H1 ad1 (x1.s hn) (x1.le hn) h2 h⟩⟩
end

/-! ### while -/
section
variable {X : Cx} {T : Tab} {n : Nat} {S S1 : Sta} {c : Expr} {body : List Stmt} {pos : Pos} {P : Post}
theorem ds_while (I : Nat → Sta → Prop) (m0 : Nat) (h0 : I m0 S)
    (hs : ∀ m S, I m S → ∃ b S1, DT X T S c b S1 ∧ (b = true → DSs X T n S1 body { P with nx := fun S' => ∃ m', m' < m ∧ I m' S', ct := fun S' => ∃ m', m' < m ∧ I m' S', bk := P.nx }) ∧ (b = false → P.nx S1))
    (hp : PassesOwn (model X.prog X.w) X.A X.env X.xe := by exact PassesOwn.never) : DS X T n S (.While c body [] pos) P := by
  have hb : PSs X body (fun D σ H => ∃ S P, DSs X T n S body P ∧ tDS T X.K n S P D σ H) := ⟨fun pins s σ H D I ⟨S', P', hS, z⟩ => hS.run pins s σ H D I z⟩
  have hc : PT X c (fun σ H Q => ∃ S b S1, DT X T S c b S1 ∧ tDT T X.K S b S1 σ H Q) := ⟨fun pins s σ H Q I ⟨S', b, S1, hS, z⟩ => hS.run pins s σ H Q I z⟩
  refine weakS (ps_while hp hc hb) fun D σ H ⟨ad, F, hn, h1, q1, q2, q3, q4, q5⟩ => ?_
  refine ⟨fun m σ' H' => ∃ ad' S', n ≤ ad'.length ∧ Hold T X.K S' ad' F σ' H' ∧ ExtS n ad F H ad' H' ∧ I m S', ⟨m0, ad, S, hn, h1, .refl, h0⟩, ?_⟩
  rintro m σ' H' ⟨ad', S', hn', h', x', hI⟩
  obtain ⟨b, S1, hd, ht, hf⟩ := hs m S' hI
  refine ⟨S', b, S1, hd, ad', F, h', fun H2 ad2 x2 h2 => ?_⟩
  have x12 := x'.trans (x2.s hn')
  have hn2 := x2.le hn'
  cases b with
  | true =>
    refine iteT ⟨fun σ3 H3 => ∃ m', m' < m ∧ ∃ ad3 S3, n ≤ ad3.length ∧ Hold T X.K S3 ad3 F σ3 H3 ∧ ExtS n ad F H ad3 H3 ∧ I m' S3, fun σ3 H3 ⟨m', hm, z⟩ => ⟨m', hm, z⟩, _, _, ht rfl, ad2, F, hn2, h2, ?_, ?_, ?_, ?_, ?_⟩
    · exact fun S5 σ5 H5 ad5 x5 hn5 h5 ⟨m', hm, p5⟩ => ⟨m', hm, ad5, S5, hn5, h5, x12.trans x5, p5⟩
    · exact fun s cs5 v5 H5 ad5 x5 hn5 c5 r5 p5 => q2 s cs5 v5 H5 ad5 (x12.trans x5) hn5 c5 r5 p5
    · exact fun S5 σ5 H5 ad5 x5 hn5 h5 p5 => q1 S5 σ5 H5 ad5 (x12.trans x5) hn5 h5 p5
    · exact fun S5 σ5 H5 ad5 x5 hn5 h5 ⟨m', hm, p5⟩ => ⟨m', hm, ad5, S5, hn5, h5, x12.trans x5, p5⟩
    · exact fun z S5 cls d σ5 H5 ad5 x5 hn5 h5 r5 p5 => q5 z S5 cls d σ5 H5 ad5 (x12.trans x5) hn5 h5 r5 p5
  | false => exact iteF (q1 S1 σ' H2 ad2 x12 hn2 h2 (hf rfl))
end

/-! ### instances -/
def fIdx : List Str → Str → Option Nat
  | [], _ => none
  | g :: r, f => if f == g then some 0 else (fIdx r f).map (· + 1)
theorem fIdx_look : ∀ {fn : List Str} {f : Str} {j : Nat} {vs : List V}, fIdx fn f = some j → vs.length = fn.length → ∃ v, vs[j]? = some v ∧ (fn.zip vs).lookup f = some v
  | [], _, _, _, h, _ => nomatch h
  | g :: r, f, j, [], h, hl => by simp at hl
  | g :: r, f, j, v :: vs, h, hl => by
    unfold fIdx at h
    by_cases e : (f == g) = true
    · rw [if_pos e] at h
      cases h
      exact ⟨v, rfl, by rw [List.zip_cons_cons, List.lookup_cons, e]⟩
    · rw [if_neg e] at h
      cases q : fIdx r f with
      | none => rw [q] at h; cases h
      | some k =>
        rw [q] at h
        cases h
        obtain ⟨w, h1, h2⟩ := fIdx_look (vs := vs) q (by simpa using hl)
        exact ⟨w, by simpa using h1, by rw [List.zip_cons_cons, List.lookup_cons]; simp only [Bool.not_eq_true] at e; rw [e]; exact h2⟩
theorem fIdx_none : ∀ {fn : List Str} {f : Str} {vs : List V}, fIdx fn f = none → (fn.zip vs).lookup f = none
  | [], _, _, _ => rfl
  | g :: r, f, [], _ => rfl
  | g :: r, f, v :: vs, h => by
    unfold fIdx at h
    by_cases e : (f == g) = true
    · rw [if_pos e] at h; cases h
    · rw [if_neg e] at h
      have q : fIdx r f = none := by
        cases q : fIdx r f with
        | none => rfl
        | some k => rw [q] at h; cases h
      rw [List.zip_cons_cons, List.lookup_cons]
      simp only [Bool.not_eq_true] at e
      rw [e]
      exact fIdx_none q
theorem putF_new : ∀ {fn : List Str} {f : Str} {v : V} {vs : List V}, fIdx fn f = none → vs.length = fn.length → putF f v (fn.zip vs) = (fn ++ [f]).zip (vs ++ [v])
  | [], f, v, [], _, _ => rfl
  | [], _, _, _ :: _, _, hl => by simp at hl
  | g :: r, f, v, [], _, hl => by simp at hl
  | g :: r, f, v, w :: vs, h, hl => by
    unfold fIdx at h
    by_cases e : (f == g) = true
    · rw [if_pos e] at h; cases h
    · rw [if_neg e] at h
      have q : fIdx r f = none := by
        cases q : fIdx r f with
        | none => rfl
        | some k => rw [q] at h; cases h
      have ne : ¬ g = f := fun z => e (by rw [z]; exact beq_self_eq_true _)
      show (if g = f then _ else (g, w) :: putF f v (r.zip vs)) = _
      rw [if_neg ne, putF_new q (by simpa using hl)]
      rfl
section
variable {X : Cx} {T : Tab} {n : Nat} {S S1 S2 : Sta} {e o : Expr} {es : List Expr} {pos apos p' : Pos} {ds vs : List D} {d : D} {f m : Str} {C g : Addr} {fn : List Str} {c : Ct} {k j cn : Nat} {fd : FuncData} {ps : List Str} {P : Post} {s : Sl} {ss : List Sl} {c0 c1 : Cell}
theorem de_fld (hT : T cn = some (C, fn)) (hc : Cls X.K C) (hn : NoAttr X.K C f) (hf : fIdx fn f = some j) (he : DE X T S e (.dat (.obj cn ds)) S1) (hd : ds[j]? = some d) (hb : attributeBase e f X.env (eval e X.env) = eval e X.env := by rfl) : DE X T S (.Attribute e f pos) (.dat d) S1 :=
  weak (pe_fld he hb) fun σ H Q ⟨ad, F, h, q⟩ => ⟨ad, F, h, fun v H1 ad1 x1 h1 r1 => by
    cases r1 with
    | @obj a C' dx _ fn' vs _ ht na e1 hl r =>
      rw [hT] at ht
      cases ht
      obtain ⟨w, g1, g2⟩ := fIdx_look hf hl
      obtain ⟨d', g3, g4⟩ := r.getV g1
      rw [hd] at g3
      cases g3
      exact ⟨a, C, dx, _, w, rfl, e1, hc, hn, g2, q w H1 ad1 x1 h1 g4⟩⟩
/-- a property -/
theorem de_prop {pp : Addr} (hT : T cn = some (C, fn)) (hc : Cls X.K C) (hp : PropOf X.K C f pp g) (G : FnOk X.prog X.w X.K X.mg X.base CX0 k g fd ps (spC T X.K c)) (hr : Room (k + 1) X.A) (hb : Binds X.K fd ps []) (he : DE X T S e (.dat (.obj cn ds)) S1) (hq : c [.dat (.obj cn ds)] [] (.dat d) [])
    (hab : attributeBase e f X.env (eval e X.env) = eval e X.env := by rfl) : DE X T S (.Attribute e f pos) (.dat d) S1 :=
  weak (pe_prop he hc hp G hr hb .nil pass0 hab) fun σ H Q ⟨ad, F, h, q⟩ => ⟨ad, F, h, fun v H1 ad1 x1 h1 r1 => by
    have r0 := r1
    cases r1 with
    | @obj a C' dx _ fn' vs _ ht na e1 hl r =>
      rw [hT] at ht
      cases ht
      refine ⟨a, dx, _, rfl, e1, ?_⟩
      exact spC0 (ds := [.obj cn ds]) hq h1.hc ⟨r0, trivial⟩ fun v H' x2 c2 r2 => q v H' ad1 (x1.trans h1.hc x2) (h1.to x2 c2) r2⟩
/-- o.m(..) of an object that stays -/
theorem de_meth {pl : Sem Bool} (hT : T cn = some (C, fn)) (hc : Cls X.K C) (hm : Meth X.K C m g) (hf : fIdx fn m = none) (G : FnOk X.prog X.w X.K X.mg X.base CX0 k g fd ps (spC T X.K c)) (hr : Room k X.A) (hb : Binds X.K fd ps [])
    (he : DE X T S o (.dat (.obj cn ds)) S1) (ha : DA X T S1 (e :: es) (vs.map Sl.dat) S2) (hq : c ((D.obj cn ds :: vs).map Sl.dat) [] (.dat d) [])
    (hst : starEach (e :: es) X.env = (false, eval e X.env) :: starEach es X.env := by rfl) (hpl : (backTo pos (starEach es X.env)).any (·.1) = false := by rfl)
    (ht : eval (.Call (.Attribute o m apos) (e :: es) [] pos) X.env = (do
      let ov ← eval o X.env
      standAt apos.atName
      let (f, first) ← holding [ov] (getMethod ov m pl)
      callWith pos f first (backTo pos (starEach (e :: es) X.env)) (backToKw pos (keywordEach [] X.env))) := by rfl) : DE X T S (.Call (.Attribute o m apos) (e :: es) [] pos) (.dat d) S2 :=
  weak (pe_meth (pl := pl) he hc hm G hr hb .nil pass0 ha hst hpl ht) fun σ H Q ⟨ad, F, h, q⟩ => ⟨ad, F, h, fun v H1 ad1 x1 h1 r1 => by
    have r0 := r1
    cases r1 with
    | @obj a C' dx _ fn' vs' _ ht na e1 hl r =>
      rw [hT] at ht
      cases ht
      refine ⟨a, dx, _, rfl, e1, fIdx_none hf, ad1, F, h1, fun ws H2 ad2 x2 h2 r2 => ?_⟩
      show spC T X.K c (V.ref a :: (ws ++ [])) H2 Q E0
      rw [List.append_nil]
      exact spC0 (ds := .obj cn ds :: vs) hq h2.hc ⟨SlRep.ext (s := .dat (.obj cn ds)) x2 r0, r2⟩ fun v H' x3 c3 r3 => q v H' ad2 (x1.trans h1.hc (x2.trans h2.hc x3)) (h2.to x3 c3) r3⟩
theorem de_meth0 {pl : Sem Bool} (hT : T cn = some (C, fn)) (hc : Cls X.K C) (hm : Meth X.K C m g) (hf : fIdx fn m = none) (G : FnOk X.prog X.w X.K X.mg X.base CX0 k g fd ps (spC T X.K c)) (hr : Room k X.A) (hb : Binds X.K fd ps [])
    (he : DE X T S o (.dat (.obj cn ds)) S1) (hq : c [.dat (.obj cn ds)] [] (.dat d) [])
    (ht : eval (.Call (.Attribute o m apos) [] [] pos) X.env = (do
      let ov ← eval o X.env
      standAt apos.atName
      let (f, first) ← holding [ov] (getMethod ov m pl)
      callWith pos f first (backTo pos (starEach [] X.env)) (backToKw pos (keywordEach [] X.env))) := by rfl) : DE X T S (.Call (.Attribute o m apos) [] [] pos) (.dat d) S1 :=
  weak (pe_meth0 (pl := pl) he hc hm G hr hb .nil pass0 ht) fun σ H Q ⟨ad, F, h, q⟩ => ⟨ad, F, h, fun v H1 ad1 x1 h1 r1 => by
    have r0 := r1
    cases r1 with
    | @obj a C' dx _ fn' vs' _ ht na e1 hl r =>
      rw [hT] at ht
      cases ht
      refine ⟨a, dx, _, rfl, e1, fIdx_none hf, ?_⟩
      show spC T X.K c (V.ref a :: ([] ++ [])) H1 Q E0
      exact spC0 (ds := [.obj cn ds]) hq h1.hc ⟨r0, trivial⟩ fun v H' x2 c2 r2 => q v H' ad1 (x1.trans h1.hc x2) (h1.to x2 c2) r2⟩
/-- a new instance: __init__ gets it as a cell -/
theorem mk_then {K : PySem.W.Frag} {ad : List Addr} {F : Addr → Prop} {H : Hp} {cs : List Cell} {ws : List V} {args : List D} {Q : VK} {E : XK} {x dx : Addr} (hT : T cn = some (C, fn)) (h : HoldC T K ad F H cs) (r : Reps T K (Mm ad F) H ws args) (hx : H x = none) (hdx : H dx = none) (ne : dx ≠ x)
    (hq : c (.cel 0 :: args.map Sl.dat) [.ins cn []] (.dat .non) [.ins cn (fn.zip ds)]) (hl : ds.length = fn.length) (q : ∀ H', Ext ad F H ad H' → HoldC T K ad F H' cs → Rep T K (Mm ad F) H' (.ref x) (.obj cn ds) → Q (.ref x) H') :
    spC T K c (.ref x :: ws) (upd (upd H dx (.own x)) x (.ins C dx [])) (fun v H2 => v = .non ∧ Q (.ref x) H2) E := by
  obtain ⟨h1, x1⟩ := h.newo (o := .own x) hdx
  have hx1 : upd H dx (.own x) x = none := by rw [upd_ne ne.symm]; exact hx
  obtain ⟨h2, x2⟩ := h1.cell (c := .ins cn []) (o := .ins C dx []) hx1 ⟨C, fn, dx, [], hT, upd_same, rfl, .nil⟩
  have ha : (ad ++ [x])[ad.length]? = some x := by rw [List.getElem?_append_right (Nat.le_refl _)]; simp
  have hlen : cs.length = ad.length := h.ln.symm
  have x12 : Ext ad F H (ad ++ [x]) (upd (upd H dx (.own x)) x (.ins C dx [])) := x1.trans h1 x2
  have rr : SlReps T K (ad ++ [x]) F (upd (upd H dx (.own x)) x (.ins C dx [])) (.ref x :: ws) (.cel ad.length :: args.map Sl.dat) := ⟨⟨x, ha, rfl⟩, SlReps.of (r.kp x12.kp)⟩
  have ho : ∀ l : List D, (l.map Sl.dat).all (onlyCell ad.length) = true := fun l => by
    rw [List.all_map, List.all_eq_true]
    intro d _
    rfl
  have hm : (Sl.cel ad.length :: args.map Sl.dat).map low = .cel 0 :: args.map Sl.dat := by
    rw [List.map_cons, List.map_map]
    rfl
  refine spC1 (ss := .cel ad.length :: args.map Sl.dat) (c0 := .ins cn []) (c1 := .ins cn (fn.zip ds)) (d := .non) (j := ad.length) (by rw [← hlen, List.getElem?_append_right (Nat.le_refl _)]; simp) (by rw [List.all_cons, ho]; simp [onlyCell]) (by rw [hm]; exact hq) h2 rr fun v H' x3 c3 r3 => ?_
  cases r3
  refine ⟨rfl, ?_⟩
  have c4 := c3.take ad.length
  have e1 : (ad ++ [x]).take ad.length = ad := by rw [List.take_append_of_le_length (Nat.le_refl _), List.take_length]
  have e2 : ((cs ++ [Cell.ins cn []]).set ad.length (Cell.ins cn (fn.zip ds))).take ad.length = cs := by
    rw [List.take_set_of_le (Nat.le_refl _), ← hlen, List.take_append_of_le_length (Nat.le_refl _), List.take_length]
  rw [e1, e2] at c4
  have nx : ¬ Mm ad F x := h.new hx
  obtain ⟨C', fn', dx', vs, ht, ea, lv, rv⟩ := c3.ce ad.length x (.ins cn (fn.zip ds)) ha (by rw [List.getElem?_set_self (by simp [hlen])])
  rw [hT] at ht
  cases ht
  have z1 : (fn.zip ds).map (·.1) = fn := List.map_fst_zip (by omega)
  have z2 : (fn.zip ds).map (·.2) = ds := List.map_snd_zip (by omega)
  rw [z1] at ea
  rw [z2] at rv
  have kp : Kp (Mm (ad ++ [x]) F) H' (Mm ad F) H' := fun a o e n => ⟨e, fun z => n (z.imp (List.mem_append_left _) id)⟩
  have xf : Ext ad F H ad H' := by
    have x13 : Ext ad F H (ad ++ [x]) H' := x12.trans h2 x3
    exact ⟨⟨[], by simp, fun _ z => nomatch z⟩, x13.keep, x13.frm⟩
  refine q H' xf c4 (.obj hT nx ea ?_ (rv.kp kp))
  rw [List.length_zip] at lv
  omega
theorem de_make {x : Str} {p : Pos} {args : List D} (hT : T cn = some (C, fn)) (M : Mk X.K C g) (G : FnOk X.prog X.w X.K X.mg X.base CX0 k g fd ps (spC T X.K c)) (hr : Room (k + 1) X.A) (hm : X.mg x = some (.ref C)) (hb : Binds X.K fd ps [])
    (ha : DA X T S (e :: es) (args.map Sl.dat) S1) (hq : c (.cel 0 :: args.map Sl.dat) [.ins cn []] (.dat .non) [.ins cn (fn.zip ds)]) (hl : ds.length = fn.length) (hg : Gl X x := by rfl) (hdb : (x == ("__debug__" : Str)) = false := by decide)
    (he : starEach (e :: es) X.env = (false, eval e X.env) :: starEach es X.env := by rfl) (hpl : (backTo pos (starEach es X.env)).any (·.1) = false := by rfl) : DE X T S (.Call (.Name x p) (e :: es) [] pos) (.dat (.obj cn ds)) S1 :=
  weak (pe_make M G hr hg hm hb .nil pass0 ha hdb he hpl) fun σ H Q ⟨ad, F, h, q⟩ => ⟨ad, F, h, fun ws H1 ad1 x1 h1 r1 x dx hx hdx ne => by
    rw [List.append_nil]
    exact mk_then hT h1.hc r1.dats hx hdx ne hq hl fun H' x2 c2 r2 => q (.ref x) H' ad1 (x1.trans h1.hc x2) (h1.to x2 c2) r2⟩
/-- self.f = e in __init__ -/
theorem ds_fldN {fs : List (Str × D)} (hT : T cn = some (C, fn)) (hc : Cls X.K C) (hn : NoAttr X.K C f) (he : DE X T S e (.dat d) S1) (ho : DE X T S1 o (.cel j) S2) (hk : S2.cs[j]? = some (.ins cn fs)) (hf : fIdx (fs.map (·.1)) f = none) (hl : fs.length < 1000)
    (h : P.nx ⟨S2.sl, S2.cs.set j (.ins cn (fs ++ [(f, d)]))⟩) (hs : swapsWith e (some (.Attribute o f p')) pos.line X.env = pure false := by rfl) : DS X T n S (.Assign [.Attribute o f p'] e pos) P :=
  weakS (ps_fld ho he hs) fun D σ H ⟨ad, F, hn', h0, q, _⟩ => ⟨ad, F, h0, fun v H1 ad1 x1 h1 r1 => ⟨ad1, F, h1, fun w H2 ad2 x2 h2 r2 => by
    obtain ⟨a, ea, rfl⟩ := r2
    obtain ⟨C', fn', dx, vs, ht, e1, lv, rv⟩ := h2.hc.ce j a _ ea hk
    rw [hT] at ht
    cases ht
    have rd : Rep T X.K (Mm ad2 F) H2 v d := SlRep.ext (s := .dat d) x2 r1
    have lz : ((fs.map (·.1)).zip vs).length < 1000 := by rw [List.length_zip, List.length_map]; omega
    refine ⟨a, C, dx, _, rfl, e1, hc, hn, lz, ?_⟩
    rw [putF_new hf (by rw [lv, List.length_map])]
    have kp : Kp (Mm ad2 F) H2 (Mm ad2 F) (upd H2 a (.ins C dx ((fs.map (·.1) ++ [f]).zip (vs ++ [v])))) := fun b o e n => ⟨by rw [upd_ne (fun z => n (.inl (by rw [z]; exact List.mem_of_getElem? ea)))]; exact e, n⟩
    obtain ⟨c3, x3⟩ := h2.hc.setc (o := .ins C dx ((fs.map (·.1) ++ [f]).zip (vs ++ [v]))) (c := .ins cn (fs ++ [(f, d)])) ea
      ⟨C, fn, dx, vs ++ [v], hT, by rw [upd_same, List.map_append]; rfl, by simp [lv], by rw [List.map_append]; exact (rv.append (.cons rd .nil)).kp kp⟩
    have x : Ext ad F H ad2 _ := x1.trans h1.hc (x2.trans h2.hc x3)
    exact q _ _ _ ad2 (x.s hn') (x.le hn') (h2.to x3 c3) h⟩⟩
end
end Dl

namespace Dl
open PySem L2

/-! ### keywords -/
def DK (X : Cx) (T : Tab) (S : Sta) (kws : List Keyword) (ss : List Sl) (S' : Sta) : Prop := PK X kws (tDA T X.K S ss S')
theorem weakK {X : Cx} {e : List Keyword} {t t' : TA} (h : PK X e t) (q : ∀ σ H Q, t' σ H Q → t σ H Q) : PK X e t' := ⟨fun pos pins s σ H Q I z => h.run pos pins s σ H Q I (q σ H Q z)⟩
section
variable {X : Cx} {T : Tab} {S S1 S2 S3 : Sta} {e o : Expr} {es : List Expr} {kws : List Keyword} {nm : Option Str} {pos kpos p apos : Pos} {s : Sl} {ss : List Sl} {ds args kargs full : List D} {d : D} {x m : Str} {C g : Addr} {fn : List Str} {c : Ct} {k cn pn : Nat} {fd : FuncData} {ps ks : List Str}
  {gg : List Value → List Value → List Value} {gV : List V → List V → List V}
theorem dk_nil : DK X T S [] [] S := weakK pk_nil fun σ H Q ⟨ad, F, h, q⟩ => q [] H ad .refl h trivial
theorem dk_cons (ha : DE X T S e s S1) (hr : DK X T S1 kws ss S2) : DK X T S (⟨nm, e, kpos⟩ :: kws) (s :: ss) S2 :=
  weakK (pk_cons ha hr) fun σ H Q ⟨ad, F, h, q⟩ => ⟨ad, F, h, fun v H1 ad1 x1 h1 r1 => ⟨ad1, F, h1, fun vs H2 ad2 x2 h2 r2 => q _ H2 ad2 (x1.trans h1.hc x2) h2 ⟨r1.ext x2, r2⟩⟩⟩
/-- the values in the parameters' order, self ahead -/
def Put (K : PySem.W.Frag) (gV : List V → List V → List V) (args kargs full : List D) : Prop := ∀ (x : V) (ws zs : List V), ws.length = args.length → zs.length = kargs.length → ∃ us, gV (x :: ws) zs = x :: us ∧ ∀ T M H, Reps T K M H ws args → Reps T K M H zs kargs → Reps T K M H us full
theorem de_makeK (hT : T cn = some (C, fn)) (M : Mk X.K C g) (G : FnOk X.prog X.w X.K X.mg X.base CX0 k g fd ps (spC T X.K c)) (hr : Room (k + 1) X.A) (hm : X.mg x = some (.ref C)) (hb : KBn X.K fd ps (pn + 1) ks gg gV) (hp : Put X.K gV args kargs full)
    (ha : DA X T S (e :: es) (args.map Sl.dat) S1) (hkw : DK X T S1 kws (kargs.map Sl.dat) S2) (hq : c (.cel 0 :: full.map Sl.dat) [.ins cn []] (.dat .non) [.ins cn (fn.zip ds)]) (hl : ds.length = fn.length) (l1 : args.length = pn) (l2 : kargs.length = ks.length) (hg : Gl X x := by rfl)
    (hall : (backToKw pos (keywordEach kws X.env)).all (·.1.isSome) = true := by rfl) (hks : (backToKw pos (keywordEach kws X.env)).filterMap (·.1) = ks := by rfl) (hdb : (x == ("__debug__" : Str)) = false := by decide)
    (he : starEach (e :: es) X.env = (false, eval e X.env) :: starEach es X.env := by rfl) (hpl : ((backTo pos (starEach (e :: es) X.env)).any (·.1) || (backToKw pos (keywordEach kws X.env)).any (·.1.isNone)) = false := by rfl) :
    DE X T S (.Call (.Name x p) (e :: es) kws pos) (.dat (.obj cn ds)) S2 :=
  weak (pe_makeK M G hr hg hm hb pass0 ha hkw hall hks hdb he hpl) fun σ H Q ⟨ad, F, h, q⟩ => ⟨ad, F, h, fun ws H1 ad1 x1 h1 r1 => ⟨ad1, F, h1, fun zs H2 ad2 x2 h2 r2 => by
    have w1 := r1.dats
    have w2 := r2.dats
    refine ⟨by rw [w1.length]; exact l1, by rw [w2.length]; exact l2, fun x dx hx hdx ne => ?_⟩
    obtain ⟨us, e1, e2⟩ := hp (.ref x) ws zs w1.length w2.length
    rw [e1]
    exact mk_then hT h2.hc (e2 _ _ _ (w1.kp x2.kp) w2) hx hdx ne hq hl fun H' x3 c3 r3 => q (.ref x) H' ad2 (x1.trans h1.hc (x2.trans h2.hc x3)) (h2.to x3 c3) r3⟩⟩
theorem de_makeK0 (hT : T cn = some (C, fn)) (M : Mk X.K C g) (G : FnOk X.prog X.w X.K X.mg X.base CX0 k g fd ps (spC T X.K c)) (hr : Room (k + 1) X.A) (hm : X.mg x = some (.ref C)) (hb : KBn X.K fd ps 1 ks gg gV) (hp : Put X.K gV [] kargs full)
    (hkw : DK X T S kws (kargs.map Sl.dat) S2) (hq : c (.cel 0 :: full.map Sl.dat) [.ins cn []] (.dat .non) [.ins cn (fn.zip ds)]) (hl : ds.length = fn.length) (l2 : kargs.length = ks.length) (hg : Gl X x := by rfl)
    (hall : (backToKw pos (keywordEach kws X.env)).all (·.1.isSome) = true := by rfl) (hks : (backToKw pos (keywordEach kws X.env)).filterMap (·.1) = ks := by rfl) (hdb : (x == ("__debug__" : Str)) = false := by decide)
    (hpl : ((backTo pos (starEach [] X.env)).any (·.1) || (backToKw pos (keywordEach kws X.env)).any (·.1.isNone)) = false := by rfl) :
    DE X T S (.Call (.Name x p) [] kws pos) (.dat (.obj cn ds)) S2 :=
  weak (pe_makeK0 M G hr hg hm hb pass0 hkw hall hks hdb hpl) fun σ H Q ⟨ad, F, h, q⟩ => ⟨ad, F, h, fun zs H2 ad2 x2 h2 r2 => by
    have w2 := r2.dats
    refine ⟨rfl, by rw [w2.length]; exact l2, fun x dx hx hdx ne => ?_⟩
    obtain ⟨us, e1, e2⟩ := hp (.ref x) [] zs rfl w2.length
    rw [e1]
    exact mk_then hT h2.hc (e2 _ _ _ .nil w2) hx hdx ne hq hl fun H' x3 c3 r3 => q (.ref x) H' ad2 (x2.trans h2.hc x3) (h2.to x3 c3) r3⟩
/-! o.m(.., k = v, ..) -/
def tMethKw (C : Addr) (m : Str) (n : Nat) (j : Nat) (sp : Sp) (gV : List V → List V → List V) (E : XK) (ta : TE) (t tk : TA) : TE := fun σ H Q => ta σ H fun x H1 => ∃ a dx fs, x = .ref a ∧ H1 a = some (.ins C dx fs) ∧ fs.lookup m = none ∧
  t σ H1 fun vs H2 => tk σ H2 fun zs H3 => vs.length = n ∧ zs.length = j ∧ sp (gV (x :: vs) zs) H3 Q E
theorem run_methKw {sp : Sp} {pins : List (Addr × Obj)} {σ : St} {H : Hp} {sh : Shared} {Q : VK} {us ws : List Value} {vs zs : List V} (F : FnOk X.prog X.w X.K X.mg X.base CX0 k g fd ps sp) (hr : Room k X.A) (hb : KBn X.K fd ps pn ks gg gV)
    (I : Inv X pins σ H sh) (r : Vals vs us) (rz : Vals zs ws) (l1 : vs.length = pn) (l2 : zs.length = ks.length) (h : sp (gV vs zs) H Q E0) : wpAny (model X.prog X.w) X.A (call (.ref g) us (ks.zip ws)) (EP X pins σ Q) X.xe sh := by
  have r2 := hb.rel r rz
  refine wpAny_call (codeAny_mono (F.run X.A X.stack sh H ⟨us, ks.zip ws⟩ (gg us ws) (gV vs zs) Q E0 hr I.env0 (hb.to sh us ws I.kIn (r.length.symm.trans l1) (rz.length.symm.trans l2)) r2 h) fun r s' hq => ?_)
  cases r with
  | error e => exact False.elim hq
  | ok fl =>
    cases fl with
    | ret u => exact I.after hq
    | next => exact False.elim hq
    | brk => exact False.elim hq
    | cont => exact False.elim hq
theorem pe_methKw0 {sp : Sp} {pl : Sem Bool} {ta : TE} {tk : TA} (he : PE X o ta) (hc : Cls X.K C) (hm : Meth X.K C m g) (F : FnOk X.prog X.w X.K X.mg X.base CX0 k g fd ps sp) (hr : Room k X.A) (hb : KBn X.K fd ps 1 ks gg gV) (hkw : PK X kws tk)
    (hall : (backToKw pos (keywordEach kws X.env)).all (·.1.isSome) = true) (hks : (backToKw pos (keywordEach kws X.env)).filterMap (·.1) = ks)
    (hpl : ((backTo pos (starEach [] X.env)).any (·.1) || (backToKw pos (keywordEach kws X.env)).any (·.1.isNone)) = false)
    (ht : eval (.Call (.Attribute o m apos) [] kws pos) X.env = (do
      let ov ← eval o X.env
      standAt apos.atName
      let (f, first) ← holding [ov] (getMethod ov m pl)
      callWith pos f first (backTo pos (starEach [] X.env)) (backToKw pos (keywordEach kws X.env)))) : PE X (.Call (.Attribute o m apos) [] kws pos) (tMethKw C m 0 ks.length sp gV E0 ta tNil tk) := by
  refine ⟨fun pins s σ H Q I h => ?_⟩
  refine PySem.W.methodCall_KW (pl := pl) (thn (he.run pins s σ H _ I h) fun u s1 ⟨x, H1, I1, rx, a, dx, fs, ex, ea, l, q⟩ => ?_) ht
  subst ex
  obtain rfl : u = Value.ref a := rx
  refine getmeth_ok I1 ea hc hm l ?_
  refine PySem.W.callWith_KW0 (first := [.ref a]) (h₀ := X.base) I.ok.mod.kin hm.kp hall ?_ hpl
  refine thn (hkw.run pos pins s1 σ H1 _ I1 q) fun ws s2 ⟨zs, H2, I2, rz, l1, l2, q2⟩ => ⟨I2.kIn, ?_⟩
  rw [hks]
  exact run_methKw (us := [.ref a]) (vs := [.ref a]) F hr hb I2 (.cons rfl .nil) rz rfl l2 q2
theorem de_methK0 {pl : Sem Bool} (hT : T cn = some (C, fn)) (hc : Cls X.K C) (hm : Meth X.K C m g) (hf : fIdx fn m = none) (G : FnOk X.prog X.w X.K X.mg X.base CX0 k g fd ps (spC T X.K c)) (hr : Room k X.A) (hb : KBn X.K fd ps 1 ks gg gV) (hp : Put X.K gV [] kargs full)
    (he : DE X T S o (.dat (.obj cn ds)) S1) (hkw : DK X T S1 kws (kargs.map Sl.dat) S2) (hq : c ((D.obj cn ds :: full).map Sl.dat) [] (.dat d) []) (l2 : kargs.length = ks.length)
    (hall : (backToKw pos (keywordEach kws X.env)).all (·.1.isSome) = true := by rfl) (hks : (backToKw pos (keywordEach kws X.env)).filterMap (·.1) = ks := by rfl)
    (hpl : ((backTo pos (starEach [] X.env)).any (·.1) || (backToKw pos (keywordEach kws X.env)).any (·.1.isNone)) = false := by rfl)
    (ht : eval (.Call (.Attribute o m apos) [] kws pos) X.env = (do
      let ov ← eval o X.env
      standAt apos.atName
      let (f, first) ← holding [ov] (getMethod ov m pl)
      callWith pos f first (backTo pos (starEach [] X.env)) (backToKw pos (keywordEach kws X.env))) := by rfl) : DE X T S (.Call (.Attribute o m apos) [] kws pos) (.dat d) S2 :=
  weak (pe_methKw0 (pl := pl) he hc hm G hr hb hkw hall hks hpl ht) fun σ H Q ⟨ad, F, h, q⟩ => ⟨ad, F, h, fun v H1 ad1 x1 h1 r1 => by
    have r0 := r1
    cases r1 with
    | @obj a C' dx _ fn' vs' _ ht na e1 hl r =>
      rw [hT] at ht
      cases ht
      refine ⟨a, dx, _, rfl, e1, fIdx_none hf, ad1, F, h1, fun zs H2 ad2 x2 h2 r2 => ?_⟩
      have w2 := r2.dats
      obtain ⟨us, g1, g2⟩ := hp (.ref a) [] zs rfl w2.length
      refine ⟨rfl, by rw [w2.length]; exact l2, ?_⟩
      rw [g1]
      exact spC0 (ds := .obj cn ds :: full) hq h2.hc ⟨SlRep.ext (s := .dat (.obj cn ds)) x2 r0, SlReps.of (g2 _ _ _ .nil w2)⟩ fun v H' x3 c3 r3 => q v H' ad2 (x1.trans h1.hc (x2.trans h2.hc x3)) (h2.to x3 c3) r3⟩
end

/-! ### isinstance -/
/-- the built-in class of data that is no object -/
def tyD : D → Option String
  | .non => some "NoneType"
  | .bl _ => some "bool"
  | .int _ => some "int"
  | .str _ => some "str"
  | .tup _ => some "tuple"
  | .lst _ => some "list"
  | .scr _ => some "list"
  | .obj _ _ => none
  | .err _ _ _ _ => none
  | .cls _ => none
  | .dct _ _ => none
/-- what isinstance asks of the class at C -/
structure IsiC (K : PySem.W.Frag) (C : Addr) : Prop where
  cl : Cls K C
  ca : PySem.W.findIn K (.ref C) "__class__" = some (some (.builtin "object.__class__"))
  cn : PySem.W.specialIn K (.builtin "object.__class__") "__get__" = some (some (.builtin "getset_descriptor.__get__"))
  ct : PySem.W.takesIn K (.builtin "object.__class__") = some true
  cm : PySem.W.mroIn K C (.type "object") = some true
theorem tyx_of {T : Tab} {K : PySem.W.Frag} {M : Addr → Prop} {H : Hp} {v : V} {d : D} {t : String} (r : Rep T K M H v d) (h : tyD d = some t) : TyX K H v (.type t) := by
  cases r with
  | non => cases h; exact .base .non
  | bl => cases h; exact .base (.bl _)
  | int => cases h; exact .base (.int _)
  | str => cases h; exact .base (.str _)
  | tup h1 _ =>
    cases h
    rcases h1 with ⟨_, h1 | ⟨o, h1⟩⟩ | h1
    · exact .base (.tup h1)
    · exact .fTuple h1
    · rcases h1 with (z | ⟨_, z⟩) | ⟨o, its, n, e, c, _⟩
      · cases z
      · cases z
      · exact .kTuple e c
  | lst _ h1 _ => cases h; exact .base (.lst h1)
  | scr h1 _ =>
    cases h
    rcases h1 with ⟨_, o, h1⟩ | h1
    · exact .base (.frz h1)
    · rcases h1 with (z | ⟨_, z⟩) | ⟨o, its, n, e, c, _⟩
      · cases z
      · cases z
      · exact .kList e c
  | obj => cases h
  | err => cases h
  | cls => cases h
  | dct _ _ _ _ => cases h
section
variable {X : Cx} {T : Tab} {S S1 : Sta} {e : Expr} {pos p p2 : Pos} {d : D} {t u : String} {b : Bool} {x : Str} {C C2 : Addr} {cn : Nat} {fn : List Str} {ds : List D}
theorem de_isi (hi : X.mg "isinstance" = none) (hm : X.mg x = none) (hv : bootBuiltins x = some (.type u)) (he : DE X T S e (.dat d) S1) (ht : tyD d = some t) (hk : kitB t u = some b) (hg : Gl X "isinstance" := by rfl) (hg2 : Gl X x := by rfl) (hn : x ≠ "__name__" := by decide) (hdb : (x == ("__debug__" : Str)) = false := by decide)
    (hs1 : starEach [e, .Name x p2] X.env = (false, eval e X.env) :: starEach [.Name x p2] X.env := by rfl) (hs2 : starEach [.Name x p2] X.env = (false, eval (.Name x p2) X.env) :: starEach [] X.env := by rfl) (hpl : (backTo pos (starEach [.Name x p2] X.env)).any (·.1) = false := by rfl) :
    DE X T S (.Call (.Name "isinstance" p) [e, .Name x p2] [] pos) (.dat (.bl b)) S1 :=
  weak (pe_callB call_isi hg hi (by decide +kernel) (pa_cons he (pa_cons (pe_bltn (v := .ty u) hg2 hm hv rfl hn hdb) pa_nil hs2) hs1) (by decide) (by decide) hs1 hpl) fun σ H Q ⟨ad, F, h, q⟩ => ⟨ad, F, h, fun v H1 ad1 x1 h1 r1 =>
    ⟨v, .ty u, .type t, .type u, b, rfl, .ty u, tyx_of r1 ht, kit_ty hk, q _ H1 ad1 x1 h1 Rep.bl⟩⟩
/-- of an object, an own class -/
theorem de_isiO (hi : X.mg "isinstance" = none) (hT : T cn = some (C, fn)) (hI : IsiC X.K C) (hm : X.mg x = some (.ref C2)) (he : DE X T S e (.dat (.obj cn ds)) S1) (hk : PySem.W.kitOne X.K (.ref C) (.ref C2) = some b) (hg : Gl X "isinstance" := by rfl) (hg2 : Gl X x := by rfl) (hdb : (x == ("__debug__" : Str)) = false := by decide)
    (hs1 : starEach [e, .Name x p2] X.env = (false, eval e X.env) :: starEach [.Name x p2] X.env := by rfl) (hs2 : starEach [.Name x p2] X.env = (false, eval (.Name x p2) X.env) :: starEach [] X.env := by rfl) (hpl : (backTo pos (starEach [.Name x p2] X.env)).any (·.1) = false := by rfl) :
    DE X T S (.Call (.Name "isinstance" p) [e, .Name x p2] [] pos) (.dat (.bl b)) S1 :=
  weak (pe_callB call_isi hg hi (by decide +kernel) (pa_cons he (pa_cons (pe_glob (v := .ref C2) hg2 hm rfl hdb) pa_nil hs2) hs1) (by decide) (by decide) hs1 hpl) fun σ H Q ⟨ad, F, h, q⟩ => ⟨ad, F, h, fun v H1 ad1 x1 h1 r1 => by
    cases r1 with
    | @obj a C' dx _ fn' vs' _ ht na e1 hl r =>
      rw [hT] at ht
      cases ht
      exact ⟨_, .ref C2, .ref C, .ref C2, b, rfl, .own C2, .base (.ins e1 hI.cl hI.ca hI.cn hI.ct hI.cm), hk, q _ H1 ad1 x1 h1 Rep.bl⟩⟩
/-- of an object, a built-in class -/
theorem de_isiOB (hi : X.mg "isinstance" = none) (hT : T cn = some (C, fn)) (hI : IsiC X.K C) (hm : X.mg x = none) (hv : bootBuiltins x = some (.type u)) (he : DE X T S e (.dat (.obj cn ds)) S1) (hk : PySem.W.kitOne X.K (.ref C) (.type u) = some b) (hg : Gl X "isinstance" := by rfl) (hg2 : Gl X x := by rfl) (hn : x ≠ "__name__" := by decide) (hdb : (x == ("__debug__" : Str)) = false := by decide)
    (hs1 : starEach [e, .Name x p2] X.env = (false, eval e X.env) :: starEach [.Name x p2] X.env := by rfl) (hs2 : starEach [.Name x p2] X.env = (false, eval (.Name x p2) X.env) :: starEach [] X.env := by rfl) (hpl : (backTo pos (starEach [.Name x p2] X.env)).any (·.1) = false := by rfl) :
    DE X T S (.Call (.Name "isinstance" p) [e, .Name x p2] [] pos) (.dat (.bl b)) S1 :=
  weak (pe_callB call_isi hg hi (by decide +kernel) (pa_cons he (pa_cons (pe_bltn (v := .ty u) hg2 hm hv rfl hn hdb) pa_nil hs2) hs1) (by decide) (by decide) hs1 hpl) fun σ H Q ⟨ad, F, h, q⟩ => ⟨ad, F, h, fun v H1 ad1 x1 h1 r1 => by
    cases r1 with
    | @obj a C' dx _ fn' vs' _ ht na e1 hl r =>
      rw [hT] at ht
      cases ht
      exact ⟨_, .ty u, .ref C, .type u, b, rfl, .ty u, .base (.ins e1 hI.cl hI.ca hI.cn hI.ct hI.cm), hk, q _ H1 ad1 x1 h1 Rep.bl⟩⟩
/-- of other data, an own class -/
theorem de_isiD (hi : X.mg "isinstance" = none) (hm : X.mg x = some (.ref C2)) (he : DE X T S e (.dat d) S1) (ht : tyD d = some t) (hk : PySem.W.kitOne X.K (.type t) (.ref C2) = some b) (hg : Gl X "isinstance" := by rfl) (hg2 : Gl X x := by rfl) (hdb : (x == ("__debug__" : Str)) = false := by decide)
    (hs1 : starEach [e, .Name x p2] X.env = (false, eval e X.env) :: starEach [.Name x p2] X.env := by rfl) (hs2 : starEach [.Name x p2] X.env = (false, eval (.Name x p2) X.env) :: starEach [] X.env := by rfl) (hpl : (backTo pos (starEach [.Name x p2] X.env)).any (·.1) = false := by rfl) :
    DE X T S (.Call (.Name "isinstance" p) [e, .Name x p2] [] pos) (.dat (.bl b)) S1 :=
  weak (pe_callB call_isi hg hi (by decide +kernel) (pa_cons he (pa_cons (pe_glob (v := .ref C2) hg2 hm rfl hdb) pa_nil hs2) hs1) (by decide) (by decide) hs1 hpl) fun σ H Q ⟨ad, F, h, q⟩ => ⟨ad, F, h, fun v H1 ad1 x1 h1 r1 =>
    ⟨v, .ref C2, .type t, .ref C2, b, rfl, .own C2, tyx_of r1 ht, hk, q _ H1 ad1 x1 h1 Rep.bl⟩⟩
end

/-! ### operators of an own class -/
/-- the callee runs by values -/
theorem run_vals {X : Cx} {g : Addr} {fd : FuncData} {ps : List Str} {k : Nat} {sp : Sp} {pins : List (Addr × Obj)} {σ : St} {H : Hp} {s : Shared} {Q : VK} {us : List Value} {vs : List V} (F : FnOk X.prog X.w X.K X.mg X.base CX0 k g fd ps sp) (hr : Room k X.A) (hb : Binds X.K fd ps [])
    (I : Inv X pins σ H s) (r : Vals vs us) (h : sp vs H Q E0) : wpAny (model X.prog X.w) X.A (call (.ref g) us) (EP X pins σ Q) X.xe s :=
  run_fn F hr hb .nil pass0 I r (by rw [List.append_nil]; exact h)
theorem cmpb {X : Cx} {pins : List (Addr × Obj)} {σ : St} {Q : VK} {v : Value} {s : Shared} (h : EP X pins σ Q v s) : PySem.W.CmpBack (EP X pins σ Q) v s := by
  obtain ⟨z, H', I, r, q⟩ := id h
  cases z with
  | non => cases (show v = Value.none from r); exact h
  | bl b => cases (show v = Value.bool b from r); exact h
  | int i => obtain ⟨t, e⟩ := (show ∃ t, v = Value.int i t from r); cases e; exact h
  | str x => obtain ⟨t, e⟩ := (show ∃ t, v = Value.str x t from r); cases e; exact h
  | byt b => obtain ⟨t, e⟩ := (show ∃ t, v = Value.bytes b t from r); cases e; exact h
  | flt b => obtain ⟨t, e⟩ := (show ∃ t, v = Value.float b t from r); cases e; exact h
  | ref a => cases (show v = Value.ref a from r); exact h
  | ty n => cases (show v = Value.type n from r); exact h
section
variable {X : Cx} {T : Tab} {C g : Addr} {fd : FuncData} {ps : List Str} {k cn : Nat} {c : Ct} {fn : List Str} {op : Operator} {ds es : List D} {d : D} {cs : List Cell} {i : Int} {uop : UnaryOp}
/-- x op y, two instances of C -/
theorem op_own2 {sp : Sp} (G : FnOk X.prog X.w X.K X.mg X.base CX0 k g fd ps sp) (hr : Room k X.A) (hb : Binds X.K fd ps []) (hc : PySem.W.selfFirst X.K C = true) (hs : PySem.W.findIn X.K (.ref C) (PySem.dunder op.info.2) = some (some (.ref g))) (hf : PySem.W.isFn X.K (.ref g) = true) :
    OpR X (binaryOp op) (fun x y H Q => ∃ a b dx dy fs gs, x = .ref a ∧ y = .ref b ∧ H a = some (.ins C dx fs) ∧ H b = some (.ins C dy gs) ∧ sp [x, y] H Q E0) := by
  intro pins s σ H x y v u Q I rx ry h
  obtain ⟨a, b, dx, dy, fs, gs, rfl, rfl, ea, eb, hsp⟩ := h
  cases rx; cases ry
  obtain ⟨mA, J, _⟩ := ins_get I.hok ea
  obtain ⟨mB, J', _⟩ := ins_get I.hok eb
  obtain ⟨od, J, _⟩ := J.look
  obtain ⟨od', J', _⟩ := J'.look
  obtain ⟨m, hF⟩ := I.fr
  refine PySem.W.binop_K hF I.ok.mod.kin J J'.type hc hs hf (thn (run_vals (us := [.ref a, .ref b]) (vs := [.ref a, .ref b]) G hr hb I (.cons rfl (.cons rfl .nil)) hsp) fun _ _ z => cmpb z)
/-- x op i, an instance and an int -/
theorem op_ownI {sp : Sp} {fo ro rc : Option Value} (G : FnOk X.prog X.w X.K X.mg X.base CX0 k g fd ps sp) (hr : Room k X.A) (hb : Binds X.K fd ps []) (hc : PySem.W.selfFirst X.K C = true) (hs : PySem.W.findIn X.K (.ref C) (PySem.dunder op.info.2) = some (some (.ref g))) (hf : PySem.W.isFn X.K (.ref g) = true)
    (hrf : PySem.W.findIn X.K (.ref C) (dunderR op.info.2) = some rc) (hp : rc = none ∨ ∃ g : Addr, rc = some (.ref g)) (h1 : PySem.W.findIn X.K (.type "int") (PySem.dunder op.info.2) = some fo) (h2 : PySem.W.findIn X.K (.type "int") (dunderR op.info.2) = some ro) (hsub : PySem.W.subIn X.K (.type "int") (.ref C) = some false) :
    OpR X (binaryOp op) (fun x y H Q => ∃ a dx fs i, x = .ref a ∧ y = .int i ∧ H a = some (.ins C dx fs) ∧ sp [x, y] H Q E0) := by
  intro pins s σ H x y v u Q I rx ry h
  obtain ⟨a, dx, fs, i, rfl, rfl, ea, hsp⟩ := h
  cases rx
  obtain ⟨t, rfl⟩ := ry
  obtain ⟨mA, J, _⟩ := ins_get I.hok ea
  obtain ⟨od, J, _⟩ := J.look
  obtain ⟨m, hF⟩ := I.fr
  exact PySem.W.ksp_binT (T := "int") hF I.ok.mod.kin J rfl hc hs hf hrf hp h1 h2 hsub (thn (run_vals (us := [.ref a, .int i t]) (vs := [.ref a, .int i]) G hr hb I (.cons rfl (.cons ⟨t, rfl⟩ .nil)) hsp) fun _ _ z => cmpb z)
theorem un_own {sp : Sp} (G : FnOk X.prog X.w X.K X.mg X.base CX0 k g fd ps sp) (hr : Room k X.A) (hb : Binds X.K fd ps []) (hs : PySem.W.findIn X.K (.ref C) "__neg__" = some (some (.ref g))) (hf : PySem.W.isFn X.K (.ref g) = true) :
    UnR X (unaryOp .USub) (fun x H Q => ∃ a dx fs, x = .ref a ∧ H a = some (.ins C dx fs) ∧ sp [x] H Q E0) := by
  intro pins s σ H x v Q I rx h
  obtain ⟨a, dx, fs, rfl, ea, hsp⟩ := h
  cases rx
  obtain ⟨mA, J, _⟩ := ins_get I.hok ea
  obtain ⟨od, J, _⟩ := J.look
  obtain ⟨m, hF⟩ := I.fr
  exact PySem.W.ksp_neg hF I.ok.mod.kin J hs hf (run_vals (us := [.ref a]) (vs := [.ref a]) G hr hb I (.cons rfl .nil) hsp)
theorem un_ownInv {sp : Sp} (G : FnOk X.prog X.w X.K X.mg X.base CX0 k g fd ps sp) (hr : Room k X.A) (hb : Binds X.K fd ps []) (hs : PySem.W.findIn X.K (.ref C) "__invert__" = some (some (.ref g))) (hf : PySem.W.isFn X.K (.ref g) = true) :
    UnR X (unaryOp .Invert) (fun x H Q => ∃ a dx fs, x = .ref a ∧ H a = some (.ins C dx fs) ∧ sp [x] H Q E0) := by
  intro pins s σ H x v Q I rx h
  obtain ⟨a, dx, fs, rfl, ea, hsp⟩ := h
  cases rx
  obtain ⟨mA, J, _⟩ := ins_get I.hok ea
  obtain ⟨od, J, _⟩ := J.look
  obtain ⟨m, hF⟩ := I.fr
  exact PySem.W.ksp_inv hF I.ok.mod.kin J hs hf (run_vals (us := [.ref a]) (vs := [.ref a]) G hr hb I (.cons rfl .nil) hsp)
/-- by data -/
theorem bin_own2 (hT : T cn = some (C, fn)) (G : FnOk X.prog X.w X.K X.mg X.base CX0 k g fd ps (spC T X.K c)) (hr : Room k X.A) (hb : Binds X.K fd ps []) (hc : PySem.W.selfFirst X.K C = true) (hs : PySem.W.findIn X.K (.ref C) (PySem.dunder op.info.2) = some (some (.ref g))) (hf : PySem.W.isFn X.K (.ref g) = true)
    (hq : c [.dat (.obj cn ds), .dat (.obj cn es)] [] (.dat d) []) : BinD X T op (.dat (.obj cn ds)) (.dat (.obj cn es)) cs (.dat d) cs := ⟨_, op_own2 G hr hb hc hs hf, fun ad F H v w Q cc r1 r2 q => by
  have s1 := r1
  have s2 := r2
  cases r1 with
  | @obj a C' dx _ fn' vs' _ ht na e1 hl r =>
    rw [hT] at ht
    cases ht
    cases r2 with
    | @obj b C' dy _ fn' ws' _ ht nb e2 hl2 r' =>
      rw [hT] at ht
      cases ht
      exact ⟨a, b, dx, dy, _, _, rfl, rfl, e1, e2, spC0 (ds := [.obj cn ds, .obj cn es]) hq cc ⟨s1, s2, trivial⟩ fun v H' x2 c2 r2 => q v H' ad x2 c2 r2⟩⟩
theorem bin_ownI {fo ro rc : Option Value} (hT : T cn = some (C, fn)) (G : FnOk X.prog X.w X.K X.mg X.base CX0 k g fd ps (spC T X.K c)) (hr : Room k X.A) (hb : Binds X.K fd ps []) (hc : PySem.W.selfFirst X.K C = true) (hs : PySem.W.findIn X.K (.ref C) (PySem.dunder op.info.2) = some (some (.ref g))) (hf : PySem.W.isFn X.K (.ref g) = true)
    (hrf : PySem.W.findIn X.K (.ref C) (dunderR op.info.2) = some rc) (hp : rc = none ∨ ∃ g : Addr, rc = some (.ref g)) (h1 : PySem.W.findIn X.K (.type "int") (PySem.dunder op.info.2) = some fo) (h2 : PySem.W.findIn X.K (.type "int") (dunderR op.info.2) = some ro) (hsub : PySem.W.subIn X.K (.type "int") (.ref C) = some false)
    (hq : c [.dat (.obj cn ds), .dat (.int i)] [] (.dat d) []) : BinD X T op (.dat (.obj cn ds)) (.dat (.int i)) cs (.dat d) cs := ⟨_, op_ownI G hr hb hc hs hf hrf hp h1 h2 hsub, fun ad F H v w Q cc r1 r2 q => by
  have s1 := r1
  cases r2
  cases r1 with
  | @obj a C' dx _ fn' vs' _ ht na e1 hl r =>
    rw [hT] at ht
    cases ht
    exact ⟨a, dx, _, i, rfl, rfl, e1, spC0 (ds := [.obj cn ds, .int i]) hq cc ⟨s1, Rep.int, trivial⟩ fun v H' x2 c2 r2 => q v H' ad x2 c2 r2⟩⟩
theorem un_ownN (hT : T cn = some (C, fn)) (G : FnOk X.prog X.w X.K X.mg X.base CX0 k g fd ps (spC T X.K c)) (hr : Room k X.A) (hb : Binds X.K fd ps []) (hs : PySem.W.findIn X.K (.ref C) "__neg__" = some (some (.ref g))) (hf : PySem.W.isFn X.K (.ref g) = true)
    (hq : c [.dat (.obj cn ds)] [] (.dat d) []) : UnD X T .USub (.dat (.obj cn ds)) cs (.dat d) cs := ⟨_, un_own G hr hb hs hf, fun ad F H v Q cc r1 q => by
  have s1 := r1
  cases r1 with
  | @obj a C' dx _ fn' vs' _ ht na e1 hl r =>
    rw [hT] at ht
    cases ht
    exact ⟨a, dx, _, rfl, e1, spC0 (ds := [.obj cn ds]) hq cc ⟨s1, trivial⟩ fun v H' x2 c2 r2 => q v H' ad x2 c2 r2⟩⟩
end
end Dl

namespace Dl
open PySem L2

/-! ### int op instance: the instance's reflected method -/
section
open PySem.W
variable {prog : Program} {w : World} {A : Around} {E : Value → Shared → Prop} {s : Shared} {K : Frag} {x C f g : Addr} {ox : Obj} {od : Option Obj}
theorem int_ni {name : String} {F : Int → Int → Sem Fin} {i : Int} {t : Tok} {Q : Fin → Shared → Prop} (ho : s.heap.get? x = some ox) (hd : ∀ v, ox.data ≠ .prim v) (h : Q (.done (.ret .notImplemented)) s) :
    wpAny (model prog w) A (Builtin.Int.intBinary name F false ⟨[.int i t, .ref x], []⟩) Q E s := by
  unfold Builtin.Int.intBinary
  refine wpAny_bind (wpAny_of_eq (a := (Value.int i t, [Value.ref x])) rfl ?_)
  refine wpAny_bind (wpAny_of_eq (a := i) rfl ?_)
  show wpAny _ _ (asInt? (.ref x) >>= _) _ _ _
  unfold asInt?
  refine wpAny_bind (wpAny_bind (wpAny_load ho ?_))
  have e : (match ox.data with | .prim (.int i _) => pure (some i) | _ => pure none : Sem (Option Int)) = pure none := by
    split
    · rename_i z; exact absurd z (hd _)
    · rfl
  first
    | rw [e]
    | (show wpAny _ _ (match ox.data with | .prim (.int i _) => pure (some i) | _ => pure none : Sem (Option Int)) _ _ _; rw [e])
  exact wpAny_pure (wpAny_bind (wpAny_rule (wpAny_pure h)))
theorem refl_bin {op : Operator} {i : Int} {t : Tok} {fo ro : Option Value} {id : String} {name : String} {F : Int → Int → Sem Fin} {Q : Value → Shared → Prop} (X : K.In s.heap) (I : InstAt s.heap x ox C od) (hd : ∀ v, ox.data ≠ .prim v) (hc : selfFirst K C = true)
    (hs : findIn K (.ref C) (PySem.dunder op.info.2) = some (some (.ref f))) (hr : findIn K (.ref C) (dunderR op.info.2) = some (some (.ref g))) (hg : isFn K (.ref g) = true)
    (h1 : findIn K (.type "int") (PySem.dunder op.info.2) = some fo) (h2 : findIn K (.type "int") (dunderR op.info.2) = some ro) (hf : ((fo.isSome && !isSeqSlot fo) || (ro.isSome && !isSeqSlot ro)) = true) (hsub : subIn K (.ref C) (.type "int") = some false)
    (slot : Slot "int" (PySem.dunder op.info.2) id) (entry : entryFor table id = some (Builtin.Int.intBinary name F false)) (args : argsOk id ⟨[.int i t, .ref x], []⟩)
    (h : wpAny (model prog w) A (call (.ref g) [.ref x, .int i t]) (CmpBack Q) E s) : wpAny (model prog w) A (binaryOp op (.int i t) (.ref x)) Q E s := by
  obtain ⟨cd, rest, hcd, hm⟩ := ksp_first hc
  rcases hi : op.info with ⟨sym, nm'⟩
  rw [hi] at hs hr h1 h2 slot
  dsimp only at hs hr h1 h2 slot
  have two := ksp_try (b := .int i t) (name := dunderR nm') X I hr hg h
  have one : wpAny (model prog w) A (tryMethod (.int i t) (PySem.dunder nm') (.ref x)) (fun r s' => r = none ∧ s' = s) E s := by
    unfold tryMethod
    refine wpAny_bind (wpAny_callSpecial?_slot (typeIs_int s i t) slot (wpAny_call_entry slot (typeIs_int s i t) entry (int_ni I.at_ hd ⟨_, rfl, wpAny_pure ⟨rfl, rfl⟩⟩) args))
  obtain ⟨hh, gg, d, tt, os⟩ := s
  have L1 : Looks (model prog w) hh (typeOf (.int i t)) (.type "int") := Looks.of_pure rfl
  have L2 : Looks (model prog w) hh (typeOf (.ref x)) (.ref C) := I.type
  have L3 : Looks (model prog w) hh (fillsNumberSlot (.ref C) nm') true := fills_K X hcd hm hs
  have L4 : Looks (model prog w) hh (fillsNumberSlot (.type "int") nm') true := by have z := ksp_fillsT (M := model prog w) X h1 h2; rw [hf] at z; exact z
  have L5 : Looks (model prog w) hh (isSubtype (.ref C) (.type "int")) false := looks_subIn X hsub
  have L7 : Looks (model prog w) hh (numberSlotInPython (.type "int") nm') false := Looks.of_pure rfl
  have hne : (Value.type "int" == Value.ref C) = false := Bool.eq_false_iff.mpr fun q => by cases beq_iff_eq.mp q
  simp only [binaryOp, hi]
  refine wpAny_holding (wpAny_bind ?_)
  unfold binaryOp1
  refine wpAny_bind (L1.at (wpAny_bind (L2.at (wpAny_bind (L4.at ?_)))))
  simp only [hne, Bool.false_eq_true, if_false]
  ksp_lk
  refine wpAny_mono one (fun r s' hr' => ?_) fun _ _ e => e
  obtain ⟨rfl, rfl⟩ := hr'
  ksp_lk
  refine wpAny_mono two (fun r s' hr' => ?_) fun _ _ e => e
  obtain ⟨v, rfl, hq⟩ := hr'
  ksp_lk
  exact hq
/-- the op itself, ahead of what += and + do with it -/
theorem bin1_own2 {nm : String} {b : Value} {Q : Value → Shared → Prop} (X : K.In s.heap) (I : InstAt s.heap x ox C od) (hb : Looks (model prog w) s.heap (typeOf b) (.ref C)) (hc : selfFirst K C = true)
    (hs : findIn K (.ref C) (PySem.dunder nm) = some (some (.ref f))) (hf : isFn K (.ref f) = true) (h : wpAny (model prog w) A (call (.ref f) [.ref x, b]) (CmpBack Q) E s) : wpAny (model prog w) A (binaryOp1 nm (.ref x) b) (fun r s' => ∃ v, r = some v ∧ Q v s') E s := by
  obtain ⟨cd, rest, hcd, hm⟩ := ksp_first hc
  have one := ksp_try X I hs hf h
  obtain ⟨hh, g, d, tt, os⟩ := s
  have L1 : Looks (model prog w) hh (typeOf (.ref x)) (.ref C) := I.type
  have L3 : Looks (model prog w) hh (fillsNumberSlot (.ref C) nm) true := fills_K X hcd hm hs
  unfold binaryOp1
  refine wpAny_bind (L1.at (wpAny_bind (hb.at (wpAny_bind (L3.at ?_)))))
  simp only [beq_self_eq_true, if_true]
  ksp_lk
  refine wpAny_mono one (fun r s' hr' => ?_) fun _ _ e => e
  obtain ⟨v, rfl, hq⟩ := hr'
  ksp_lk
  exact ⟨v, rfl, hq⟩
theorem bin1_ownT {nm T : String} {b : Value} {fo ro rc : Option Value} {Q : Value → Shared → Prop} (X : K.In s.heap) (I : InstAt s.heap x ox C od) (hb : typeOf b = pure (.type T)) (hc : selfFirst K C = true)
    (hs : findIn K (.ref C) (PySem.dunder nm) = some (some (.ref f))) (hf : isFn K (.ref f) = true) (hr : findIn K (.ref C) (dunderR nm) = some rc) (hp : rc = none ∨ ∃ g : Addr, rc = some (.ref g))
    (h1 : findIn K (.type T) (PySem.dunder nm) = some fo) (h2 : findIn K (.type T) (dunderR nm) = some ro) (hsub : subIn K (.type T) (.ref C) = some false)
    (h : wpAny (model prog w) A (call (.ref f) [.ref x, b]) (CmpBack Q) E s) : wpAny (model prog w) A (binaryOp1 nm (.ref x) b) (fun r s' => ∃ v, r = some v ∧ Q v s') E s := by
  obtain ⟨cd, rest, hcd, hm⟩ := ksp_first hc
  have one := ksp_try X I hs hf h
  obtain ⟨hh, g, d, tt, os⟩ := s
  have L1 : Looks (model prog w) hh (typeOf (.ref x)) (.ref C) := I.type
  have L2 : Looks (model prog w) hh (typeOf b) (.type T) := Looks.of_pure hb
  have L3 : Looks (model prog w) hh (fillsNumberSlot (.ref C) nm) true := fills_K X hcd hm hs
  have L4 : Looks (model prog w) hh (fillsNumberSlot (.type T) nm) ((fo.isSome && !isSeqSlot fo) || (ro.isSome && !isSeqSlot ro)) := ksp_fillsT X h1 h2
  have L5 : Looks (model prog w) hh (isSubtype (.type T) (.ref C)) false := looks_subIn X hsub
  have L6 : Looks (model prog w) hh (numberSlotInPython (.ref C) nm) true := ksp_inPy X hs hr hp
  have L7 : Looks (model prog w) hh (numberSlotInPython (.type T) nm) false := Looks.of_pure rfl
  have L8 : Looks (model prog w) hh (typeLookup (.type T) (dunderR nm)) ro := looks_findIn X h2
  generalize ((fo.isSome && !isSeqSlot fo) || (ro.isSome && !isSeqSlot ro)) = right at L4
  have hne : (Value.ref C == Value.type T) = false := Bool.eq_false_iff.mpr fun q => by cases beq_iff_eq.mp q
  unfold binaryOp1
  refine wpAny_bind (L1.at (wpAny_bind (L2.at (wpAny_bind (L3.at ?_)))))
  simp only [hne, Bool.false_eq_true, if_false]
  cases right with
  | false =>
    ksp_lk
    refine wpAny_mono one (fun r s' hr' => ?_) fun _ _ e => e
    obtain ⟨v, rfl, hq⟩ := hr'
    ksp_lk
    exact ⟨v, rfl, hq⟩
  | true =>
    ksp_lk
    refine wpAny_mono one (fun r s' hr' => ?_) fun _ _ e => e
    obtain ⟨v, rfl, hq⟩ := hr'
    ksp_lk
    exact ⟨v, rfl, hq⟩
/-- no own += : the op's -/
theorem no_inp {M : Model} {nm : String} {add : Bool} {cd : ClassData} (X : K.In s.heap) (hc : clsIn K C = some cd) (hm : cd.mro = [.ref C, .type "object"]) (hs : findIn K (.ref C) (dunderI nm) = some none) (ho : findIn K (.type "object") (dunderI nm) = some none) : Looks M s.heap (fillsInplaceSlot (.ref C) nm add) false := by
  have Lm : Looks M s.heap (mroOf (.ref C)) cd.mro := (looks_clsIn X hc).andThen (f := fun cd => pure cd.mro) .now
  intro A Q E s2 k q
  have Lm' := Lm.keeps k
  obtain ⟨hh, g, d, tt, os⟩ := s2
  have X' : K.In hh := X.keeps k
  have L1 : Looks M hh (typeLookup (.ref C) (dunderI nm)) none := looks_findIn X' hs
  have L2 : Looks M hh (typeLookup (.type "object") (dunderI nm)) none := looks_findIn X' ho
  unfold fillsInplaceSlot
  refine wpAny_bind (Lm'.at ?_)
  rw [hm, List.anyM_cons, List.anyM_cons, List.anyM_nil]
  refine wpAny_bind ?_
  repeat lk
  exact q
theorem inp_own {op : Operator} {b : Value} {cd : ClassData} {Q : Value → Shared → Prop} (X : K.In s.heap) (I : InstAt s.heap x ox C od) (hc : clsIn K C = some cd) (hm : cd.mro = [.ref C, .type "object"]) (hs : findIn K (.ref C) (dunderI op.info.2) = some none) (ho : findIn K (.type "object") (dunderI op.info.2) = some none)
    (h : wpAny (model prog w) A (binaryOp1 op.info.2 (.ref x) b) (fun r s' => ∃ v, r = some v ∧ Q v s') E s) : wpAny (model prog w) A (inplaceOp op (.ref x) b) Q E s := by
  have L2 : Looks (model prog w) s.heap (fillsInplaceSlot (.ref C) op.info.2 (op == .Add)) false := no_inp X hc hm hs ho
  unfold inplaceOp
  refine wpAny_holding ?_
  refine wpAny_bind (I.type.here ?_)
  refine wpAny_bind (L2.here ?_)
  simp only [Bool.false_eq_true, if_false]
  refine wpAny_bind (wpAny_mono h (fun r s' hr => ?_) fun _ _ e => e)
  obtain ⟨v, rfl, hq⟩ := hr
  exact wpAny_pure hq
end
/-! #### by values, by data -/
theorem inst_data {C dx : Addr} (v : Value) : (PySem.W.instObj C dx).data ≠ .prim v := fun z => nomatch z
theorem inst_get {X : Cx} {pins : List (Addr × Obj)} {σ : St} {H : Hp} {s : Shared} {a C dx : Addr} {fs : List (Str × V)} (I : Inv X pins σ H s) (ea : H a = some (.ins C dx fs)) : ∃ od, PySem.W.InstAt s.heap a (PySem.W.instObj C dx) C (some od) := by
  obtain ⟨mA, J, _⟩ := ins_get I.hok ea
  obtain ⟨od, J, _⟩ := J.look
  exact ⟨od, J⟩
/-- what an operator's method of C is -/
structure OpC (K : PySem.W.Frag) (C : Addr) (op : Operator) (g : Addr) : Prop where
  sf : PySem.W.selfFirst K C = true
  at_ : PySem.W.findIn K (.ref C) (PySem.dunder op.info.2) = some (some (.ref g))
  fn : PySem.W.isFn K (.ref g) = true
  rc : ∃ rc, PySem.W.findIn K (.ref C) (dunderR op.info.2) = some rc ∧ (rc = none ∨ ∃ g : Addr, rc = some (.ref g))
  i1 : ∃ fo, PySem.W.findIn K (.type "int") (PySem.dunder op.info.2) = some fo
  i2 : ∃ ro, PySem.W.findIn K (.type "int") (dunderR op.info.2) = some ro
  su : PySem.W.subIn K (.type "int") (.ref C) = some false
/-- .. its reflected one -/
structure OpR' (K : PySem.W.Frag) (C : Addr) (op : Operator) (g : Addr) : Prop where
  sf : PySem.W.selfFirst K C = true
  lf : ∃ f : Addr, PySem.W.findIn K (.ref C) (PySem.dunder op.info.2) = some (some (.ref f))
  at_ : PySem.W.findIn K (.ref C) (dunderR op.info.2) = some (some (.ref g))
  fn : PySem.W.isFn K (.ref g) = true
  ii : ∃ fo ro, PySem.W.findIn K (.type "int") (PySem.dunder op.info.2) = some fo ∧ PySem.W.findIn K (.type "int") (dunderR op.info.2) = some ro ∧ ((fo.isSome && !isSeqSlot fo) || (ro.isSome && !isSeqSlot ro)) = true
  su : PySem.W.subIn K (.ref C) (.type "int") = some false
/-- no own += -/
structure NoIn (K : PySem.W.Frag) (C : Addr) (op : Operator) : Prop where
  cl : ∃ cd, PySem.W.clsIn K C = some cd ∧ cd.mro = [.ref C, .type "object"]
  at_ : PySem.W.findIn K (.ref C) (dunderI op.info.2) = some none
  ob : PySem.W.findIn K (.type "object") (dunderI op.info.2) = some none
/-- how int's own method answers an instance -/
structure IntNi (op : Operator) : Prop where
  ex : ∃ id name F, Slot "int" (PySem.dunder op.info.2) id ∧ entryFor table id = some (Builtin.Int.intBinary name F false) ∧ ∀ a b : Value, argsOk id ⟨[a, b], []⟩
theorem ni_add : IntNi .Add := ⟨_, _, _, F.slot_int_add, F.entry_int_add, fun a b => F.args_int_add_2 a b⟩
theorem ni_sub : IntNi .Sub := ⟨_, _, _, F.slot_int_sub, F.entry_int_sub, fun a b => F.args_int_sub_2 a b⟩
theorem ni_mul : IntNi .Mult := ⟨_, _, _, F.slot_int_mul, F.entry_int_mul, fun a b => F.args_int_mul_2 a b⟩
def IopD (X : Cx) (T : Tab) (op : Operator) (s1 s2 : Sl) (cs : List Cell) (s : Sl) (cs' : List Cell) : Prop := ∃ r, OpR X (inplaceOp op) r ∧ R2D T X.K r s1 s2 cs s cs'
section
variable {X : Cx} {T : Tab} {C g : Addr} {fd : FuncData} {ps : List Str} {k cn : Nat} {c : Ct} {fn : List Str} {op : Operator} {ds es : List D} {d : D} {cs : List Cell} {i j : Int}
theorem bin_ownR (hT : T cn = some (C, fn)) (hn : IntNi op) (O : OpR' X.K C op g) (G : FnOk X.prog X.w X.K X.mg X.base CX0 k g fd ps (spC T X.K c)) (hr : Room k X.A) (hb : Binds X.K fd ps [])
    (hq : c [.dat (.obj cn ds), .dat (.int i)] [] (.dat d) []) : BinD X T op (.dat (.int i)) (.dat (.obj cn ds)) cs (.dat d) cs := by
  obtain ⟨id, name, F, slot, entry, args⟩ := hn.ex
  obtain ⟨f, hf⟩ := O.lf
  obtain ⟨fo, ro, e1, e2, e3⟩ := O.ii
  refine ⟨fun x y H Q => ∃ a dx fs i, y = .ref a ∧ x = .int i ∧ H a = some (.ins C dx fs) ∧ spC T X.K c [y, x] H Q E0, ?_, fun ad F H v w Q cc r1 r2 q => ?_⟩
  · intro pins s σ H x y v u Q I rx ry h
    obtain ⟨a, dx, fs, i, rfl, rfl, ea, hsp⟩ := h
    cases ry
    obtain ⟨t, rfl⟩ := rx
    obtain ⟨od, J⟩ := inst_get I ea
    exact refl_bin I.kIn J inst_data O.sf hf O.at_ O.fn e1 e2 e3 O.su slot entry (args _ _) (thn (run_vals (us := [.ref a, .int i t]) (vs := [.ref a, .int i]) G hr hb I (.cons rfl (.cons ⟨t, rfl⟩ .nil)) hsp) fun _ _ z => cmpb z)
  · have s2 := r2
    cases r1
    cases r2 with
    | @obj a C' dx _ fn' vs' _ ht na e1 hl r =>
      rw [hT] at ht
      cases ht
      exact ⟨a, dx, _, i, rfl, rfl, e1, spC0 (ds := [.obj cn ds, .int i]) hq cc ⟨s2, Rep.int, trivial⟩ fun v H' x2 c2 r2 => q v H' ad x2 c2 r2⟩
theorem bin_o2 (hT : T cn = some (C, fn)) (O : OpC X.K C op g) (G : FnOk X.prog X.w X.K X.mg X.base CX0 k g fd ps (spC T X.K c)) (hr : Room k X.A) (hb : Binds X.K fd ps []) (hq : c [.dat (.obj cn ds), .dat (.obj cn es)] [] (.dat d) []) :
    BinD X T op (.dat (.obj cn ds)) (.dat (.obj cn es)) cs (.dat d) cs := bin_own2 hT G hr hb O.sf O.at_ O.fn hq
theorem bin_oI (hT : T cn = some (C, fn)) (O : OpC X.K C op g) (G : FnOk X.prog X.w X.K X.mg X.base CX0 k g fd ps (spC T X.K c)) (hr : Room k X.A) (hb : Binds X.K fd ps []) (hq : c [.dat (.obj cn ds), .dat (.int i)] [] (.dat d) []) :
    BinD X T op (.dat (.obj cn ds)) (.dat (.int i)) cs (.dat d) cs := by
  obtain ⟨rc, h1, h2⟩ := O.rc
  obtain ⟨fo, h3⟩ := O.i1
  obtain ⟨ro, h4⟩ := O.i2
  exact bin_ownI hT G hr hb O.sf O.at_ O.fn h1 h2 h3 h4 O.su hq
theorem iop_o2 (hT : T cn = some (C, fn)) (N : NoIn X.K C op) (O : OpC X.K C op g) (G : FnOk X.prog X.w X.K X.mg X.base CX0 k g fd ps (spC T X.K c)) (hr : Room k X.A) (hb : Binds X.K fd ps []) (hq : c [.dat (.obj cn ds), .dat (.obj cn es)] [] (.dat d) []) :
    IopD X T op (.dat (.obj cn ds)) (.dat (.obj cn es)) cs (.dat d) cs := by
  obtain ⟨cd, hcd, hm⟩ := N.cl
  refine ⟨fun x y H Q => ∃ a b dx dy fs gs, x = .ref a ∧ y = .ref b ∧ H a = some (.ins C dx fs) ∧ H b = some (.ins C dy gs) ∧ spC T X.K c [x, y] H Q E0, ?_, fun ad F H v w Q cc r1 r2 q => ?_⟩
  · intro pins s σ H x y v u Q I rx ry h
    obtain ⟨a, b, dx, dy, fs, gs, rfl, rfl, ea, eb, hsp⟩ := h
    cases rx; cases ry
    obtain ⟨od, J⟩ := inst_get I ea
    obtain ⟨od', J'⟩ := inst_get I eb
    exact inp_own I.kIn J hcd hm N.at_ N.ob (bin1_own2 I.kIn J J'.type O.sf O.at_ O.fn (thn (run_vals (us := [.ref a, .ref b]) (vs := [.ref a, .ref b]) G hr hb I (.cons rfl (.cons rfl .nil)) hsp) fun _ _ z => cmpb z))
  · have s1 := r1
    have s2 := r2
    cases r1 with
    | @obj a C' dx _ fn' vs' _ ht na e1 hl r =>
      rw [hT] at ht
      cases ht
      cases r2 with
      | @obj b C' dy _ fn' ws' _ ht nb e2 hl2 r' =>
        rw [hT] at ht
        cases ht
        exact ⟨a, b, dx, dy, _, _, rfl, rfl, e1, e2, spC0 (ds := [.obj cn ds, .obj cn es]) hq cc ⟨s1, s2, trivial⟩ fun v H' x2 c2 r2 => q v H' ad x2 c2 r2⟩
theorem iop_oI (hT : T cn = some (C, fn)) (N : NoIn X.K C op) (O : OpC X.K C op g) (G : FnOk X.prog X.w X.K X.mg X.base CX0 k g fd ps (spC T X.K c)) (hr : Room k X.A) (hb : Binds X.K fd ps []) (hq : c [.dat (.obj cn ds), .dat (.int i)] [] (.dat d) []) :
    IopD X T op (.dat (.obj cn ds)) (.dat (.int i)) cs (.dat d) cs := by
  obtain ⟨cd, hcd, hm⟩ := N.cl
  obtain ⟨rc, h1, h2⟩ := O.rc
  obtain ⟨fo, h3⟩ := O.i1
  obtain ⟨ro, h4⟩ := O.i2
  refine ⟨fun x y H Q => ∃ a dx fs i, x = .ref a ∧ y = .int i ∧ H a = some (.ins C dx fs) ∧ spC T X.K c [x, y] H Q E0, ?_, fun ad F H v w Q cc r1 r2 q => ?_⟩
  · intro pins s σ H x y v u Q I rx ry h
    obtain ⟨a, dx, fs, i, rfl, rfl, ea, hsp⟩ := h
    cases rx
    obtain ⟨t, rfl⟩ := ry
    obtain ⟨od, J⟩ := inst_get I ea
    exact inp_own I.kIn J hcd hm N.at_ N.ob (bin1_ownT (T := "int") I.kIn J rfl O.sf O.at_ O.fn h1 h2 h3 h4 O.su (thn (run_vals (us := [.ref a, .int i t]) (vs := [.ref a, .int i]) G hr hb I (.cons rfl (.cons ⟨t, rfl⟩ .nil)) hsp) fun _ _ z => cmpb z))
  · have s1 := r1
    cases r2
    cases r1 with
    | @obj a C' dx _ fn' vs' _ ht na e1 hl r =>
      rw [hT] at ht
      cases ht
      exact ⟨a, dx, _, i, rfl, rfl, e1, spC0 (ds := [.obj cn ds, .int i]) hq cc ⟨s1, Rep.int, trivial⟩ fun v H' x2 c2 r2 => q v H' ad x2 c2 r2⟩
theorem iop_add : IopD X T .Add (.dat (.int i)) (.dat (.int j)) cs (.dat (.int (i + j))) cs := ⟨_, L2.iop_add, r2_I0⟩
theorem iop_sub : IopD X T .Sub (.dat (.int i)) (.dat (.int j)) cs (.dat (.int (i - j))) cs := ⟨_, L2.iop_sub, r2_I0⟩
/-- x op= e -/
theorem ds_aug (v : Nat) {n : Nat} {S S1 : Sta} {e : Expr} {s1 s2 s : Sl} {P : Post} {x : Str} {pos p' : Pos} (hN : X.N.Nodup) (hs : S.sl[v]? = some (some s1)) (he : DE X T S e s2 S1) (h : IopD X T op s1 s2 S1.cs s S1.cs) (q : P.nx ⟨S1.sl.set v (some s), S1.cs⟩)
    (hi : X.N[v]? = some x := by rfl) (hx : Loc X.env.scope x := by first | exact Or.inl rfl | exact Or.inr rfl) (hf : X.fn x = true ∨ X.env.scope.names.lookup x = some .local := by first | exact .inl rfl | exact .inr rfl) : DS X T n S (.AugAssign (.Name x p') op e pos) P := by
  obtain ⟨r, ho, hr⟩ := h
  refine weakS (ps_aug hN hi hx he ho hf) fun D σ H ⟨ad, F, hn, h0, q1, _⟩ => ?_
  obtain ⟨w, hw, rw'⟩ := h0.sl v s1 hs
  refine ⟨w, hw, ad, F, h0, fun u H1 ad1 x1 h1 r1 => ?_⟩
  refine hr ad1 F H1 w u _ h1.hc (rw'.ext x1) r1 fun z H' ad' x2 c2 r2 => ?_
  have x12 := x1.trans h1.hc x2
  exact q1 _ _ H' ad' (x12.s hn) (x12.le hn) ((h1.to x2 c2).set r2 v) q
end
end Dl

namespace Dl
open PySem L2

/-! ### zip of three tuples -/
def It3 (K : PySem.W.Frag) (a b c : Addr) : It :=
  ⟨fun i H => ∃ (xs ys zs : List V) (x y z : V), (SqT K H a xs ∧ SqT K H b ys ∧ SqT K H c zs) ∧ xs[i]? = some x ∧ ys[i]? = some y ∧ zs[i]? = some z,
    fun i H v H' => ∃ T x y z, v = .ref T ∧ H T = none ∧ H' = upd H T (.tup [x, y, z]) ∧ (∀ l, SqT K H a l → l[i]? = some x) ∧ (∀ l, SqT K H b l → l[i]? = some y) ∧ ∀ l, SqT K H c l → l[i]? = some z,
    fun i H => ∃ xs ys zs : List V, (SqT K H a xs ∧ SqT K H b ys ∧ SqT K H c zs) ∧ (i ≤ xs.length ∧ i ≤ ys.length ∧ i ≤ zs.length) ∧ (i = xs.length ∨ i = ys.length ∨ i = zs.length)⟩

theorem turn3 {P : Program} {w : World} {K : PySem.W.Frag} {elts : List Expr} {kk : Nat} {tpos : Pos} {a b c z TI TO i1 i2 i3 : Addr} (D : ZipSep3 z TI TO i1 i2 i3 [i1, a] [i2, b] [i3, c])
    (n1 : a ≠ i1) (n2 : b ≠ i2) (n3 : c ≠ i3) :
    Turn P w K (.Tuple elts kk tpos) (It3 K a b c) [z, TI, TO, i1, i2, i3] z (fun i h => IsZip h z TI TO .none ∧ IsTupOf3 h TI (.ref i1) (.ref i2) (.ref i3) ∧ (∃ x y u, IsTupOf3 h TO x y u) ∧ h.IsTupleIter i1 a i ∧ h.IsTupleIter i2 b i ∧ h.IsTupleIter i3 c i) where
  mem := by simp
  obj := fun i h st q hq => by
    obtain ⟨hz, hTI, ⟨x, y, u, hTO⟩, ⟨o1, e1, _, d1⟩, ⟨o2, e2, _, d2⟩, ⟨o3, e3, _, d3⟩⟩ := st
    have e' : q = z ∨ q = TI ∨ q = TO ∨ q = i1 ∨ q = i2 ∨ q = i3 := by simpa using hq
    rcases e' with r | r | r | r | r | r
    · rw [r]; exact ⟨_, hz, fun v q => nomatch q⟩
    · rw [r]; exact ⟨_, hTI, fun v q => nomatch q⟩
    · rw [r]; exact ⟨_, hTO, fun v q => nomatch q⟩
    · rw [r]; exact ⟨o1, e1, fun v q => by rw [d1] at q; cases q⟩
    · rw [r]; exact ⟨o2, e2, fun v q => by rw [d2] at q; cases q⟩
    · rw [r]; exact ⟨o3, e3, fun v q => by rw [d3] at q; cases q⟩
  keep := fun i h h' st k => by
    obtain ⟨hz, hTI, ⟨x, y, u, hTO⟩, h1, h2, h3⟩ := st
    exact ⟨k z (by simp) _ hz, k TI (by simp) _ hTI, ⟨x, y, u, k TO (by simp) _ hTO⟩, h1.at fun o q => k i1 (by simp) o q, h2.at fun o q => k i2 (by simp) o q, h3.at fun o q => k i3 (by simp) o q⟩
  item := by
    intro X hP hw hK hc i pins s σ H E I hf st hg
    subst hP hw hK
    obtain ⟨hz, hTI, ⟨x0, y0, u0, hTO⟩, h1, h2, h3⟩ := st
    obtain ⟨xs, ys, zs, x, y, u, ⟨hqx, hqy, hqz⟩, hx, hy, hu'⟩ := hg
    obtain ⟨its, rv, p, _⟩ := I.tuple hqx
    obtain ⟨its2, rv2, p2, _⟩ := I.tuple hqy
    obtain ⟨its3, rv3, p3, _⟩ := I.tuple hqz
    obtain ⟨v1, hv1, r1⟩ := rv.get hx
    obtain ⟨v2, hv2, r2⟩ := rv2.get hy
    obtain ⟨v3, hv3, r3⟩ := rv3.get hu'
    have hd : X.A.in1.handled = none := I.ok.hd hc
    have hzl : z < s.heap.objs.size := Heap.lt_size hz
    have lt1 : i < its.toArray.size := by have := List.getElem?_eq_some_iff.mp hv1; simpa using this.1
    have lt2 : i < its2.toArray.size := by have := List.getElem?_eq_some_iff.mp hv2; simpa using this.1
    have lt3 : i < its3.toArray.size := by have := List.getElem?_eq_some_iff.mp hv3; simpa using this.1
    refine wpAny_pyNext_zipD3_item D (Draws.tuple hd i1 a n1 its.toArray) (Draws.tuple hd i2 b n2 its2.toArray) (Draws.tuple hd i3 c n3 its3.toArray) hz hTI hTO ⟨h1, p⟩ ⟨h2, p2⟩ ⟨h3, p3⟩ lt1 lt2 lt3
      fun y1 y2 y3 h' tk q1 q2 q3 z' TO' t1 t2 t3 hT hsz hk => ?_
    have w1 : y1 = v1 := Option.some.inj (q1.symm.trans (by simpa using hv1))
    have w2 : y2 = v2 := Option.some.inj (q2.symm.trans (by simpa using hv2))
    have w3 : y3 = v3 := Option.some.inj (q3.symm.trans (by simpa using hv3))
    subst w1 w2 w3
    refine ⟨_, rfl, wpAny_letOwnedTupleGo_zip (s := { s with heap := h', toks := tk }) z' fun h'' z'' sb => ?_⟩
    have hT2 : h''.get? s.heap.objs.size = some { cls := .type "tuple", data := .seq #[y1, y2, y3] } := (sb.2 _ (Nat.ne_of_gt hzl)).trans hT
    have new : ObjOk X.prog X.w (upd H s.heap.objs.size (.tup [x, y, u])) h'' s.heap.objs.size (.tup [x, y, u]) :=
      ⟨by show 3 ≤ sizeLine; decide, [y1, y2, y3], .cons r1 (.cons r2 (.cons r3 .nil)), ⟨_, hT2, rfl, _, rfl⟩⟩
    have I1 : Inv X pins σ (upd H s.heap.objs.size (.tup [x, y, u])) { s with heap := h'', toks := tk } :=
      I.turnedNew (t' := tk) (ch := [z, TI, TO, i1, i2, i3]) (fun c o hb q => (sb.2 c (fun q' => hb (by simp [q']))).trans (hk c o (fun q' => hb (by simp [q'])) (fun q' => hb (by simp [q'])) (fun q' => hb (by simp [q'])) (fun q' => hb (by simp [q'])) (fun q' => hb (by simp [q'])) q)) hf (Nat.le_refl _) new
    refine ⟨.ref s.heap.objs.size, _, I1, rfl, ⟨_, x, y, u, rfl, I.hok.fresh (Nat.le_refl _), rfl, fun l hl => by rw [I.tuple_inj hl hqx]; exact hx, fun l hl => by rw [I.tuple_inj hl hqy]; exact hy, fun l hl => by rw [I.tuple_inj hl hqz]; exact hu'⟩, ⟨z'', ?_, ⟨y1, y2, y3, ?_⟩, ?_, ?_, ?_⟩, fun q hcm => ?_⟩
    · exact (sb.2 _ D.TIz).trans (hk _ _ D.TIz D.TITO D.TIi1 D.TIi2 D.TIi3 hTI)
    · exact (sb.2 _ D.TOz).trans TO'
    · exact t1.1.at fun o q => (sb.2 _ D.zi1.symm).trans q
    · exact t2.1.at fun o q => (sb.2 _ D.zi2.symm).trans q
    · exact t3.1.at fun o q => (sb.2 _ D.zi3.symm).trans q
    · have hlt : q < s.heap.objs.size := by
        have e' : q = z ∨ q = TI ∨ q = TO ∨ q = i1 ∨ q = i2 ∨ q = i3 := by simpa using hcm
        rcases e' with r | r | r | r | r | r
        · rw [r]; exact hzl
        · rw [r]; exact Heap.lt_size hTI
        · rw [r]; exact Heap.lt_size hTO
        · rw [r]; obtain ⟨_, e1, _⟩ := h1; exact Heap.lt_size e1
        · rw [r]; obtain ⟨_, e2, _⟩ := h2; exact Heap.lt_size e2
        · rw [r]; obtain ⟨_, e3, _⟩ := h3; exact Heap.lt_size e3
      rw [upd_ne (Nat.ne_of_lt hlt)]
      exact (hf q hcm).1
  done := by
    intro X hP hw hK hc i pins s σ H E I hf st hg
    subst hP hw hK
    obtain ⟨hz, hTI, ⟨x0, y0, u0, hTO⟩, h1, h2, h3⟩ := st
    obtain ⟨xs, ys, zs, ⟨hqx, hqy, hqz⟩, hle, hend⟩ := hg
    obtain ⟨its, rv, p, _⟩ := I.tuple hqx
    obtain ⟨its2, rv2, p2, _⟩ := I.tuple hqy
    obtain ⟨its3, rv3, p3, _⟩ := I.tuple hqz
    have hd : X.A.in1.handled = none := I.ok.hd hc
    have l1 := rv.length
    have l2 := rv2.length
    have l3 := rv3.length
    have le1 : i ≤ its.toArray.size := by simp; omega
    have le2 : i ≤ its2.toArray.size := by simp; omega
    have le3 : i ≤ its3.toArray.size := by simp; omega
    have he : i = its.toArray.size ∨ i = its2.toArray.size ∨ i = its3.toArray.size := by simp; omega
    exact wpAny_pyNext_zipD3_end D (Draws.tuple hd i1 a n1 its.toArray) (Draws.tuple hd i2 b n2 its2.toArray) (Draws.tuple hd i3 c n3 its3.toArray) hz hTI hTO ⟨h1, p⟩ ⟨h2, p2⟩ ⟨h3, p3⟩ le1 le2 le3 he
      fun h' tk hk => ⟨rfl, I.turnedL (t' := tk) (ch := [z, TI, TO, i1, i2, i3]) (fun c o hb q =>
      hk c o (fun q' => hb (by simp [q'])) (fun q' => hb (by simp [q'])) (fun q' => hb (by simp [q'])) (fun q' => hb (by simp [q'])) (fun q' => hb (by simp [q'])) q) hf⟩
  self := fun A i s Q E st h => wpAny_pyIter_zip st.1 h

def iZip3 (K : PySem.W.Frag) (ta : TA) : TI := fun σ H R => ta σ H fun vs H1 => ∃ a b c xs ys zs, vs = [.ref a, .ref b, .ref c] ∧ (SqT K H1 a xs ∧ SqT K H1 b ys ∧ SqT K H1 c zs) ∧ R (It3 K a b c) H1
open PySem.Spec PyProof.Rows in
theorem pi_zip3 {X : Cx} {e e2 e3 : Expr} {ta : TA} {p pos tpos : Pos} {elts : List Expr} {kk : Nat} (hg : Gl X "zip") (hm : X.mg "zip" = none) (ha : PA X [e, e2, e3] ta)
    (hs : starEach [e, e2, e3] X.env = (false, eval e X.env) :: starEach [e2, e3] X.env := by rfl) (hpl : (backTo pos (starEach [e2, e3] X.env)).any (·.1) = false := by rfl) :
    PI X (.Tuple elts kk tpos) (.Call (.Name "zip" p) [e, e2, e3] [] pos) (iZip3 X.K ta) := by
  refine ⟨fun pins s σ H R I h => ?_⟩
  refine Call_ (ld_blt I hg hm PyProof.Rows.boot_zip (PyProof.Rows.callWith_type1 (thn (ha.run pos pins s σ H _ I h) fun us s1 ⟨vs, H1, I1, r1, q1⟩ => ?_) hs hpl))
  obtain ⟨a, b, c, xs, ys, zs, ex, ⟨hqx, hqy, hqz⟩, q⟩ := q1
  subst ex
  obtain ⟨v1, l1, rfl, s1', r1'⟩ : ∃ v l, us = v :: l ∧ RelV (.ref a) v ∧ Vals [.ref b, .ref c] l := by
    cases r1 with
    | cons r rr => exact ⟨_, _, rfl, r, rr⟩
  obtain ⟨v2, l2, rfl, r2, r2'⟩ : ∃ v l, l1 = v :: l ∧ RelV (.ref b) v ∧ Vals [.ref c] l := by
    cases r1' with
    | cons r rr => exact ⟨_, _, rfl, r, rr⟩
  obtain ⟨v3, rfl, r3⟩ := vals1 r2'
  cases (show v1 = Value.ref a from s1')
  cases (show v2 = Value.ref b from r2)
  cases (show v3 = Value.ref c from r3)
  obtain ⟨its, rv, p1, _⟩ := I1.tuple hqx
  obtain ⟨its2, rv2, p2, _⟩ := I1.tuple hqy
  obtain ⟨its3, rv3, p3, _⟩ := I1.tuple hqz
  obtain ⟨o1, ho1, _⟩ := id p1
  obtain ⟨o2, ho2, _⟩ := id p2
  obtain ⟨o3, ho3, _⟩ := id p3
  have L1 : a < s1.heap.objs.size := Heap.lt_size ho1
  have L2 : b < s1.heap.objs.size := Heap.lt_size ho2
  have L3 : c < s1.heap.objs.size := Heap.lt_size ho3
  refine zip_begins3 (begins_tuple a its.toArray) (begins_tuple b its2.toArray) (begins_tuple c its3.toArray) p1 p2 p3 fun h' hz hTI hTO h1 h2 h3 hsz hk => wpAny_pyIter_zip hz ?_
  have I2 : Inv X pins σ H1 { s1 with heap := h' } := I1.kept (t' := s1.toks) hk
  have D := zip_sep3 (N := s1.heap.objs.size) (fp1 := [a]) (fp2 := [b]) (fp3 := [c]) (by simpa using L1) (by simpa using L2) (by simpa using L3)
  have n1 : a ≠ s1.heap.objs.size := Nat.ne_of_lt L1
  have n2 : b ≠ s1.heap.objs.size + 1 := Nat.ne_of_lt (Nat.lt_succ_of_lt L2)
  have n3 : c ≠ s1.heap.objs.size + 2 := Nat.ne_of_lt (Nat.lt_succ_of_lt (Nat.lt_succ_of_lt L3))
  exact ⟨s1.heap.objs.size + 5, [s1.heap.objs.size + 5, s1.heap.objs.size + 3, s1.heap.objs.size + 4, s1.heap.objs.size, s1.heap.objs.size + 1, s1.heap.objs.size + 2], _, _, H1, rfl, I2, turn3 D n1 n2 n3, ⟨hz, hTI, ⟨_, _, _, hTO⟩, ⟨_, h1, rfl, rfl⟩, ⟨_, h2, rfl, rfl⟩, ⟨_, h3, rfl, rfl⟩⟩, fun q hcm => by
    have e' : q = s1.heap.objs.size + 5 ∨ q = s1.heap.objs.size + 3 ∨ q = s1.heap.objs.size + 4 ∨ q = s1.heap.objs.size ∨ q = s1.heap.objs.size + 1 ∨ q = s1.heap.objs.size + 2 := by simpa using hcm
    have hle : s1.heap.objs.size ≤ q := by
      rcases e' with z | z | z | z | z | z
      all_goals rw [z]
      all_goals first | exact Nat.le_add_right _ _ | exact Nat.le_refl _
    exact I1.fpOk hle (I1.hok.fresh hle), q⟩

def zip3D (ds es fs : List D) : List D := (ds.zip (es.zip fs)).map fun q => D.tup [q.1, q.2.1, q.2.2]
theorem zip3D_get {ds es fs : List D} {i : Nat} {d : D} (h : (zip3D ds es fs)[i]? = some d) : ∃ x y z, ds[i]? = some x ∧ es[i]? = some y ∧ fs[i]? = some z ∧ d = .tup [x, y, z] := by
  unfold zip3D at h
  rw [List.getElem?_map] at h
  cases q : (ds.zip (es.zip fs))[i]? with
  | none => rw [q] at h; cases h
  | some z =>
    rw [q] at h
    rw [List.getElem?_zip_eq_some] at q
    have q2 := q.2
    rw [List.getElem?_zip_eq_some] at q2
    exact ⟨z.1, z.2.1, z.2.2, q.1, q2.1, q2.2, (Option.some.inj h).symm⟩
theorem di_zip3 {X : Cx} {T : Tab} {S S1 : Sta} {e e2 e3 : Expr} {ds es fs : List D} {p pos tpos : Pos} {elts : List Expr} {kk : Nat} (h : DA X T S [e, e2, e3] [.dat (.tup ds), .dat (.tup es), .dat (.tup fs)] S1) (hm : X.mg "zip" = none) (hg : Gl X "zip" := by rfl)
    (hs : starEach [e, e2, e3] X.env = (false, eval e X.env) :: starEach [e2, e3] X.env := by rfl)
    (hpl : (backTo pos (starEach [e2, e3] X.env)).any (·.1) = false := by rfl) : DI X T S (.Tuple elts kk tpos) (.Call (.Name "zip" p) [e, e2, e3] [] pos) (zip3D ds es fs) S1 :=
  weakI (pi_zip3 hg hm h hs hpl) fun σ H R ⟨ad, F, h0, q⟩ => ⟨ad, F, h0, fun vs H1 ad1 x1 h1' r1 => by
    match vs, r1 with
    | [v, w, u], r1 =>
      have r3 := r1.2.2.1
      have r2 := r1.2.1
      have r1 := r1.1
      cases r1 with
      | @tup a xs _ e1 q1 =>
        cases r2 with
        | @tup b ys _ e2 q2 =>
          cases r3 with
          | @tup c zs _ e3 q3 =>
            refine ⟨a, b, c, xs, ys, zs, rfl, ⟨e1.sq, e2.sq, e3.sq⟩, q _ H1 ad1 x1 h1' fun F2 ad2 H2 cs2 c2 kp i => ⟨fun d hd => ?_, fun hi => ?_⟩⟩
            · obtain ⟨x, y, z, hx, hy, hz, rfl⟩ := zip3D_get hd
              obtain ⟨vx, gx, rx⟩ := (q1.kp kp).get hx
              obtain ⟨vy, gy, ry⟩ := (q2.kp kp).get hy
              obtain ⟨vz, gz, rz⟩ := (q3.kp kp).get hz
              refine ⟨⟨xs, ys, zs, vx, vy, vz, ⟨(e1.kp kp).sq, (e2.kp kp).sq, (e3.kp kp).sq⟩, gx, gy, gz⟩, fun u H3 z => ?_⟩
              obtain ⟨t, x', y', z', rfl, nt, rfl, f1, f2, f3⟩ := z
              have ex : x' = vx := Option.some.inj ((f1 _ (e1.kp kp).sq).symm.trans gx)
              have ey : y' = vy := Option.some.inj ((f2 _ (e2.kp kp).sq).symm.trans gy)
              have ez : z' = vz := Option.some.inj ((f3 _ (e3.kp kp).sq).symm.trans gz)
              subst ex ey ez
              obtain ⟨c3, x3⟩ := c2.newo (o := .tup [x', y', z']) nt
              exact ⟨fun a o ea => by rw [upd_ne (ne_of_none ea nt)]; exact ea, .tup (vs := [x', y', z']) (.inl ⟨c2.new nt, .inl upd_same⟩) (.cons (rx.kp x3.kp) (.cons (ry.kp x3.kp) (.cons (rz.kp x3.kp) .nil)))⟩
            · refine ⟨xs, ys, zs, ⟨(e1.kp kp).sq, (e2.kp kp).sq, (e3.kp kp).sq⟩, ?_⟩
              unfold zip3D at hi
              rw [List.length_map, List.length_zip, List.length_zip] at hi
              rw [q1.length, q2.length, q3.length]
              omega⟩
end Dl

namespace Dl
open PySem L2

/-! ### a, b, .. = a list -/
theorem ds_tupL {X : Cx} {T : Tab} {n m : Nat} {S S1 : Sta} {e : Expr} {es : List Expr} {k : Nat} {pos tpos : Pos} {s1 : Sl} {ds : List D} {P : Post} {ps : List Pat} {sl' : List (Option Sl)} (hc : X.calm = true) (he : DE X T S e s1 S1) (hL : isLst S1.cs ds s1) (hg : DGs X T es ps) (ha : asgPs ps ds S1.sl = some sl') (h : P.nx ⟨sl', S1.cs⟩)
    (hn : (assignEach es X.env).length = m := by rfl) (hp : ps.length = m := by rfl) (hst : (assignEach es X.env).findIdx? (·.1) = none := by rfl)
    (hs : swapsWithSole [.Tuple es k tpos] e pos.line X.env = pure false := by rfl) (hw : swappedStores [.Tuple es k tpos] e X.env = pure none := by rfl)
    (h1 : (assignEach [.Tuple es k tpos] X.env).map (·.2) = [assign (.Tuple es k tpos) X.env] := by rfl) : DS X T n S (.Assign [.Tuple es k tpos] e pos) P :=
  weakS (ps_asg he (pg_unl (n := m) hc hg hn hst) hs hw h1) fun D σ H ⟨ad, F, hn', h0, q, _⟩ => ⟨ad, F, h0, fun v H1 ad1 x1 h1 r1 => by
    obtain ⟨a, ws, rfl, e1, q1⟩ := rd_lst hL h1.hc r1
    exact ⟨a, ws, rfl, SqL.of e1, by rw [q1.length, ← hp]; exact asgPs_len ha, ad1, F, S1, ds, sl', h1, q1, ha, fun σ' _ h2 => q _ _ H1 ad1 (x1.s hn') (x1.le hn') h2 h⟩⟩

/-! ### defs with defaults -/
abbrev cxD (P : Program) (w : World) (K : PySem.W.Frag) (mg : Str → Option Value) (base : Heap) (N : List Str) (qual : Str) (scope : Scope) (f : Addr) (cdv : Value) (A : Around) (outer : List Env) (s : Shared) (H : Hp) (E : XK) : Cx := (cxOf CX0 P w K mg base N qual scope f cdv A outer s H E).nox
theorem fn_okD {T : Tab} {P : Program} {w : World} {K : PySem.W.Frag} {mg : Str → Option Value} {base : Heap} {x qual : Str} {st : Stmt} {dvs : List V} {kws : List (Str × V)} {f : Addr} {fd : FuncData} {N ps : List Str} {k : Nat} {c : Ct} (F : FunD K x qual (defArgs st) (defBody st) (defScope st) dvs kws f fd) (Sc : FnScope N ps (defScope st)) (len : ∀ args cs s cs', c args cs s cs' → args.length = ps.length)
    (body : ∀ cdv A outer sh H E, Room k (cx0 P w K mg base N qual st f cdv A outer sh H E).A → ∀ args cs s cs', c args cs s cs' →
      DSs (cx0 P w K mg base N qual st f cdv A outer sh H E) T cs.length (st0 N args cs) (defBody st) (endOf cs.length s cs')) : FnOk P w K mg base CX0 (k + 1) f fd ps (spC T K c) := by
  refine F.ok Sc (fun vs H Q E h => ?_) (fun cdv A outer s H vs Q E hr h => ?_)
  · obtain ⟨ad, F', args, cs, s, cs', _, r, hc, _⟩ := h
    rw [r.len, len _ _ _ _ hc]
  · obtain ⟨ad, F', args, cs, s0, cs', hc, r, h, q⟩ := h
    refine ⟨_, PSs.nox (body cdv A outer s H E hr args cs s0 cs' h), ad, F', Nat.le_of_eq hc.ln.symm, start_hold hc r, ?_, ?_, fun _ _ _ _ _ _ _ z => z.elim, fun _ _ _ _ _ _ _ z => z.elim, fun _ _ _ _ _ _ _ _ _ _ _ z => z.elim⟩
    · rintro S' σ' H' ad' x hn h' ⟨rfl, e⟩
      subst e
      refine q .non H' (ad'.take cs.length) ⟨by rw [List.take_take, Nat.min_self]; exact x.pre, fun a ha => x.sub a (List.mem_of_mem_take ha), x.keep, x.frm⟩ (by rw [List.length_take]; omega) (h'.hc.take _) Rep.non
    · rintro s2 cs2 v H' ad' x hn c2 r2 ⟨rfl, rfl⟩
      exact q v H' ad' x hn c2 r2

/-! ### comparisons of an own class -/
section
variable {X : Cx} {T : Tab} {C g : Addr} {fd : FuncData} {ps : List Str} {k cn : Nat} {c : Ct} {fn : List Str} {op : CmpOp} {ds es : List D} {d : D} {cs : List Cell}
/-- x op y, two instances of C -/
theorem cop_own2 {sp : Sp} (G : FnOk X.prog X.w X.K X.mg X.base CX0 k g fd ps sp) (hr : Room k X.A) (hb : Binds X.K fd ps []) (hs : PySem.W.findIn X.K (.ref C) (cmpInfo op).2.1 = some (some (.ref g))) (hf : PySem.W.isFn X.K (.ref g) = true) (ho : compareOp op = richCompare op) :
    OpR X (compareOp op) (fun x y H Q => ∃ a b dx dy fs gs, x = .ref a ∧ y = .ref b ∧ H a = some (.ins C dx fs) ∧ H b = some (.ins C dy gs) ∧ sp [x, y] H Q E0) := by
  intro pins s σ H x y v u Q I rx ry h
  obtain ⟨a, b, dx, dy, fs, gs, rfl, rfl, ea, eb, hsp⟩ := h
  cases rx; cases ry
  obtain ⟨mA, J, _⟩ := ins_get I.hok ea
  obtain ⟨mB, J', _⟩ := ins_get I.hok eb
  obtain ⟨od, J, _⟩ := J.look
  obtain ⟨od', J', _⟩ := J'.look
  obtain ⟨m, hF⟩ := I.fr
  rw [ho]
  exact PySem.W.cmp_K (tb := .ref C) hr.units0 hF I.ok.mod.kin J J'.type (by simp [PySem.W.notFirst]) hs hf (thn (run_vals (us := [.ref a, .ref b]) (vs := [.ref a, .ref b]) G hr hb I (.cons rfl (.cons rfl .nil)) hsp) fun _ _ z => cmpb z)
theorem cmp_own2 (hT : T cn = some (C, fn)) (G : FnOk X.prog X.w X.K X.mg X.base CX0 k g fd ps (spC T X.K c)) (hr : Room k X.A) (hb : Binds X.K fd ps []) (hs : PySem.W.findIn X.K (.ref C) (cmpInfo op).2.1 = some (some (.ref g))) (hf : PySem.W.isFn X.K (.ref g) = true)
    (hq : c [.dat (.obj cn ds), .dat (.obj cn es)] [] (.dat d) []) (ho : compareOp op = richCompare op := by rfl) : CmpD X T op (.dat (.obj cn ds)) (.dat (.obj cn es)) cs (.dat d) cs := ⟨_, cop_own2 G hr hb hs hf ho, fun ad F H v w Q cc r1 r2 q => by
  have s1 := r1
  have s2 := r2
  cases r1 with
  | @obj a C' dx _ fn' vs' _ ht na e1 hl r =>
    rw [hT] at ht
    cases ht
    cases r2 with
    | @obj b C' dy _ fn' ws' _ ht nb e2 hl2 r' =>
      rw [hT] at ht
      cases ht
      exact ⟨a, b, dx, dy, _, _, rfl, rfl, e1, e2, spC0 (ds := [.obj cn ds, .obj cn es]) hq cc ⟨s1, s2, trivial⟩ fun v H' x2 c2 r2 => q v H' ad x2 c2 r2⟩⟩
end

/-! ### x in a tuple or list of flat items -/
section
variable {X : Cx} {T : Tab} {ds : List D} {d : D} {cs : List Cell}
def fv : D → Option V
  | .non => some .non
  | .bl b => some (.bl b)
  | .int i => some (.int i)
  | .str x => some (.str x)
  | _ => none
def fvs : List D → Option (List V)
  | [] => some []
  | d :: ds => (fv d).bind fun v => (fvs ds).map (v :: ·)
theorem fv_rep {K : PySem.W.Frag} {M : Addr → Prop} {H : Hp} {v w : V} (r : Rep T K M H v d) (h : fv d = some w) : v = w ∧ flatV w = true := by
  cases r <;> first | (cases h; exact ⟨rfl, rfl⟩) | exact nomatch h
theorem fvs_reps {K : PySem.W.Frag} {M : Addr → Prop} {H : Hp} : ∀ {vs : List V} {ds : List D} {ws : List V}, Reps T K M H vs ds → fvs ds = some ws → vs = ws ∧ ws.all flatV = true
  | _, _, _, .nil, h => by cases h; exact ⟨rfl, rfl⟩
  | _, d :: ds, ws, .cons r rs, h => by
    cases e : fv d with
    | none => rw [fvs, e] at h; cases h
    | some v =>
      cases e2 : fvs ds with
      | none => rw [fvs, e, e2] at h; cases h
      | some l =>
        rw [fvs, e, e2] at h
        cases h
        obtain ⟨a, fa⟩ := fv_rep r e
        obtain ⟨b, fb⟩ := fvs_reps rs e2
        exact ⟨by rw [a, b], by rw [List.all_cons, fa, fb]; rfl⟩
theorem cmp_inT {v : V} {ws : List V} (h1 : fv d = some v) (h2 : fvs ds = some ws) : CmpD X T .In (.dat d) (.dat (.tup ds)) cs (.dat (.bl (inV v ws))) cs := ⟨_, op_in_seq, fun ad F H x y Q c r1 r2 q => by
  cases r2 with
  | @tup a xs _ e1 q1 =>
    obtain ⟨rfl, fx⟩ := fv_rep r1 h1
    obtain ⟨rfl, fs⟩ := fvs_reps q1 h2
    exact ⟨a, _, rfl, .inr e1.sq, fx, fs, q _ H ad .refl c Rep.bl⟩⟩
theorem cmp_ninT {v : V} {ws : List V} (h1 : fv d = some v) (h2 : fvs ds = some ws) : CmpD X T .NotIn (.dat d) (.dat (.tup ds)) cs (.dat (.bl (!inV v ws))) cs := ⟨_, op_notIn_seq, fun ad F H x y Q c r1 r2 q => by
  cases r2 with
  | @tup a xs _ e1 q1 =>
    obtain ⟨rfl, fx⟩ := fv_rep r1 h1
    obtain ⟨rfl, fs⟩ := fvs_reps q1 h2
    exact ⟨a, _, rfl, .inr e1.sq, fx, fs, q _ H ad .refl c Rep.bl⟩⟩
end

/-! ### small helps -/
theorem mul_l {i j : Int} (h1 : -(2 ^ 64) < i) (h2 : i < 2 ^ 64) : IntMulOk i j := CMul.ok (.inl ⟨h1, h2⟩)
theorem mul_r {i j : Int} (h1 : -(2 ^ 64) < j) (h2 : j < 2 ^ 64) : IntMulOk i j := CMul.ok (.inr ⟨h1, h2⟩)
end Dl

namespace Dl
open PySem L2
/-! ### the last cell becomes data -/
def frzS (m : Nat) (ds : List D) : Option Sl → Option Sl
  | some (.cel k) => if k = m then some (.dat (.lst ds)) else if k < m then some (.cel k) else none
  | x => x
theorem dss_freeze {X : Cx} {T : Tab} {n : Nat} {S : Sta} {P : Post} {sts : List Stmt} {ds : List D} (m : Nat) (hm : n ≤ m) (hc : S.cs[m]? = some (.lst ds)) (h : DSs X T n ⟨S.sl.map (frzS m ds), S.cs.take m⟩ sts P) : DSs X T n S sts P :=
  weakSs h fun D σ H ⟨ad, F, hn, h0, q1, q2, q3, q4, q5⟩ => by
    have kp : Kp (Mm ad F) H (Mm (ad.take m) F) H := fun a o e z => ⟨e, fun y => z (y.imp List.mem_of_mem_take id)⟩
    have x : ExtS n ad F H (ad.take m) H := ⟨by rw [List.take_take, Nat.min_eq_left hm], fun a ha => .inl (List.mem_of_mem_take ha), fun _ _ e _ => e, fun _ _ => rfl⟩
    have ml : m < ad.length := by rw [h0.hc.ln]; exact (List.getElem?_eq_some_iff.mp hc).1
    refine tDS.go (σ := σ) x (by rw [List.length_take]; omega) ⟨h0.hc.take m, by rw [h0.sz]; simp, fun i s e => ?_⟩ q1 q2 q3 q4 q5
    have e : (S.sl.map (frzS m ds))[i]? = some (some s) := e
    rw [List.getElem?_map] at e
    cases e0 : S.sl[i]? with
    | none => rw [e0] at e; cases e
    | some o =>
      rw [e0] at e
      have e : frzS m ds o = some s := Option.some.inj e
      cases o with
      | none => cases e
      | some s0 =>
        obtain ⟨v, hv, r⟩ := h0.sl i s0 e0
        refine ⟨v, hv, ?_⟩
        cases s0 with
        | dat d => cases e; exact Rep.kp kp r
        | cel k =>
          obtain ⟨a, ha, ev⟩ := r
          by_cases k1 : k = m
          · subst k1
            have e : some (Sl.dat (.lst ds)) = some s := by simpa [frzS] using e
            cases e
            obtain ⟨vs, e1, r1⟩ := h0.hc.ce k a _ ha hc
            have na : ¬ Mm (ad.take k) F a := fun y => by
              rcases y with y | y
              · obtain ⟨j, hj, ej⟩ := List.getElem_of_mem y
                have hj' : j < k := by rw [List.length_take] at hj; omega
                rw [List.getElem_take] at ej
                have hj2 : j < ad.length := by omega
                have := ix_inj (j := j) h0.hc.nd ha (by rw [List.getElem?_eq_getElem hj2, ej])
                omega
              · exact h0.hc.fr a (List.mem_of_getElem? ha) y
            rw [ev]
            exact Rep.lst na e1 (r1.kp kp)
          · by_cases k2 : k < m
            · have e : some (Sl.cel k) = some s := by simpa [frzS, k1, k2] using e
              cases e
              exact ⟨a, by rw [List.getElem?_take_of_lt k2]; exact ha, ev⟩
            · have e : (none : Option Sl) = some s := by simpa [frzS, k1, k2] using e
              cases e
/-! ### if c: o[i] = e -/
theorem ds_ifSet {X : Cx} {T : Tab} {n : Nat} {S : Sta} {P : Post} {c e o ix : Expr} {k : Bool} {d d0 d' : D} {j m : Nat} {i : Int} {ds : List D} {p1 p2 p3 : Pos} (hc : DT X T S c k S) (he : DE X T S e (.dat d) S) (ho : DE X T S o (.cel j) S) (hi : DE X T S ix (.dat (.int i)) S) (hk : S.cs[j]? = some (.lst ds)) (hj : ixN ds.length i = some m)
    (h0 : ds[m]? = some d0) (hd : (if k then d else d0) = d') (h : P.nx ⟨S.sl, S.cs.set j (.lst (ds.set m d'))⟩) (hs : swapsWithSole [.Subscript o ix p1] e p2.line X.env = pure false := by rfl) (hw : swappedStores [.Subscript o ix p1] e X.env = pure none := by rfl)
    (h1 : (assignEach [.Subscript o ix p1] X.env).map (·.2) = [assign (.Subscript o ix p1) X.env] := by rfl) (ha : ∀ v, assign (.Subscript o ix p1) X.env v = (do
      let ov ← holding [v] (eval o X.env)
      let iv ← holding [v, ov] (eval ix X.env)
      standAt p1
      holding [v, ov, iv] (setItem ov iv v)
      release [v, ov, iv] []) := by intro _; rfl) : DS X T n S (.If c [.Assign [.Subscript o ix p1] e p2] [] p3) P := by
  refine ds_if hc (fun hk' => ?_) (fun hk' => ?_)
  · subst hk'
    have hd : d = d' := hd
    subst hd
    exact dss_cons (ds_setL he ho hi hk hj (dss_nil h) (ha := ha) (hs := hs) (hw := hw) (h1 := h1))
  · subst hk'
    have hd : d0 = d' := hd
    subst hd
    refine dss_nil ?_
    have e1 : ds.set m d0 = ds := by
      obtain ⟨hm, e⟩ := List.getElem?_eq_some_iff.mp h0
      rw [← e]
      exact List.set_getElem_self hm
    have e2 : S.cs.set j (.lst ds) = S.cs := by
      obtain ⟨hm, e⟩ := List.getElem?_eq_some_iff.mp hk
      rw [← e]
      exact List.set_getElem_self hm
    rw [e1, e2] at h
    exact h
end Dl

namespace Dl
open PySem L2
/-! ### the law's end -/
def spL (K : PySem.W.Frag) : Sp := fun vs H Q _ => ∃ (a : Addr) (ns : List Int), vs = [.ref a] ∧ LAt K (fun _ => False) H a (ns.map V.int) ∧ ns.length ≤ 63 ∧ (∀ z ∈ ns, Builtin.Int.intBits z ≤ 1048576) ∧ ∀ H', Q (.bl true) H'
theorem spL_to {T : Tab} {K : PySem.W.Frag} {c : Ct} (h : ∀ ns : List Int, ns.length ≤ 63 → (∀ z ∈ ns, Builtin.Int.intBits z ≤ 1048576) → c [.dat (.scr (ns.map D.int))] [] (.dat (.bl true)) []) {vs : List V} {H : Hp} {Q : VK} {E : XK} (q : spL K vs H Q E) : spC T K c vs H Q E := by
  obtain ⟨a, ns, rfl, hl, hn, hb, hq⟩ := q
  refine ⟨[], fun _ => False, [.dat (.scr (ns.map D.int))], [], _, _, ⟨List.nodup_nil, fun _ z => (nomatch z), fun _ z => z.elim, rfl, fun _ _ _ e => nomatch e⟩, ⟨Rep.scr (vs := ns.map V.int) ?_ (Reps.ints ns), trivial⟩, h ns hn hb, ?_⟩
  · rcases hl with ⟨_, o, e⟩ | e
    · exact .inl ⟨fun z => z.elim (fun z => nomatch z) id, o, e⟩
    · exact .inr e
  · intro v H' ad' _ _ _ r
    cases r
    exact hq H'
theorem spL_of {K : PySem.W.Frag} (H : Hp) (a : Addr) (ns : List Int) (hl : ns.length ≤ 63) (hb : ∀ z ∈ ns, Builtin.Int.intBits z ≤ 1048576) (hO : Only H) (hS : SqL K H a (ns.map V.int)) : spL K [.ref a] H (fun v _ => v = .bl true) fun _ _ _ => False :=
  ⟨a, ns, rfl, LAt.of hO hS, hl, hb, fun _ => rfl⟩
/-- a def with defaults, out of the heap -/
theorem fd_mk {K : PySem.W.Frag} {x qual : Str} {st : Stmt} {f : Addr} {oc dV kV doc pm cdv ct : Value} {od an : Option Addr} {osl : Array (Option Value)} {dvs : List V} {kws : List (Str × V)} (l : K.lookup f = some ⟨oc, od, .func (PySem.W.fnOf x qual (defArgs st) (defBody st) (defScope st) dV kV doc pm an cdv ct), osl⟩)
    (c : PySem.W.codeIn K cdv qual = true) (k : PySem.W.keepIn K (.ref f) = true) (hd : DflV K dV dvs) (hk : KwdV K kV kws) : FunD K x qual (defArgs st) (defBody st) (defScope st) dvs kws f (PySem.W.fnOf x qual (defArgs st) (defBody st) (defScope st) dV kV doc pm an cdv ct) :=
  ⟨⟨oc, od, dV, kV, doc, pm, an, cdv, ct, osl, rfl, l, c, hd, hk⟩, k⟩
theorem dfl0 {K : PySem.W.Frag} : DflV K .none [] := .inl ⟨rfl, rfl⟩
theorem dfl1 {K : PySem.W.Frag} {T : Addr} {o : Obj} {v : V} {u : Value} {n : Nat} (l : K.lookup T = some o) (d : o.data = .seq #[u] n) (r : RelV v u) : DflV K (.ref T) [v] := .inr ⟨by simp, T, o, [u], n, rfl, l, d, .cons r .nil⟩
theorem kwd3 {K : PySem.W.Frag} {D : Addr} {a b c : Str} {x y z : V} {u v w : Value} (h1 : PySem.W.nsIn K D a = some (some u)) (h2 : PySem.W.nsIn K D b = some (some v)) (h3 : PySem.W.nsIn K D c = some (some w)) (r1 : RelV x u) (r2 : RelV y v) (r3 : RelV z w) : KwdV K (.ref D) [(a, x), (b, y), (c, z)] :=
  .inr ⟨D, rfl, List.forall_mem_cons.mpr ⟨⟨u, h1, r1⟩, List.forall_mem_cons.mpr ⟨⟨v, h2, r2⟩, List.forall_mem_cons.mpr ⟨⟨w, h3, r3⟩, fun _ z => nomatch z⟩⟩⟩⟩
theorem kit_self {K : PySem.W.Frag} {C : Addr} : PySem.W.kitOne K (.ref C) (.ref C) = some true := if_pos (beq_self_eq_true _)
theorem kit_sub {K : PySem.W.Frag} {C : Addr} {T : String} {b : Bool} (h : PySem.W.subIn K (.ref C) (.type T) = some b) (hm : PySem.W.kitMeta T = true) : PySem.W.kitOne K (.ref C) (.type T) = some b := by
  show (if (Value.ref C == Value.type T) = true then some true else PySem.W.kitCls K (.ref C) (.type T)) = some b
  rw [if_neg (by intro z; cases (beq_iff_eq.mp z))]
  show (if PySem.W.kitMeta T = true then PySem.W.subIn K (.ref C) (.type T) else none) = some b
  rw [if_pos hm]
  exact h
theorem km_int : PySem.W.kitMeta "int" = true := by decide +kernel
end Dl

namespace Dl
open PySem L2

/-! ### Base.__init__(self, ..), Base an own class over ValueError -/
structure CIn (K : PySem.W.Frag) (C : Addr) : Prop where
  ty : PySem.W.typeIn K (.ref C) = some (.type "type")
  rd : PySem.W.readsIn K C (.type "type") = true
  ga : PySem.W.specialIn K (.ref C) "__getattribute__" = some (some (.builtin "type.__getattribute__"))
  at_ : PySem.W.findCls K (.ref C) (.type "type") "__init__" = some (.val (.builtin "ValueError.__init__"))
open PySem.Spec PyProof.Rows in
theorem pe_cinit {X : Cx} {x : Str} {C0 : Addr} {e : Expr} {es : List Expr} {ta : TA} {p1 p2 pos : Pos} {pl : Sem Bool} (hg : Gl X x) (hm : X.mg x = some (.ref C0)) (c : CIn X.K C0) (ha : PA X (e :: es) ta) (hdb : (x == ("__debug__" : Str)) = false)
    (ht : eval (.Call (.Attribute (.Name x p1) "__init__" p2) (e :: es) [] pos) X.env = (do
      let ov ← eval (.Name x p1) X.env
      standAt p2.atName
      let (f, first) ← holding [ov] (getMethod ov "__init__" pl)
      callWith pos f first (backTo pos (starEach (e :: es) X.env)) (backToKw pos (keywordEach [] X.env))))
    (he : starEach (e :: es) X.env = (false, eval e X.env) :: starEach es X.env) (hpl : (backTo pos (starEach es X.env)).any (·.1) = false) :
    PE X (.Call (.Attribute (.Name x p1) "__init__" p2) (e :: es) [] pos) (tVeI X.K ta) := by
  constructor
  intro pins s σ H Q I h
  obtain ⟨m, fr⟩ := I.fr
  refine PySem.W.methodCall_KW (ld_glob I hg hm (PySem.W.method_of_cls fr I.ok.mod.kin c.ga (PySem.W.cls_val fr I.ok.mod.kin c.ty c.rd c.at_ (by decide +kernel) ?_)) hdb) ht
  show wpAny _ _ (callWith pos (Value.builtin "ValueError.__init__") [] (backTo pos (starEach (e :: es) X.env)) []) _ _ _
  refine PyProof.Rows.callWith_method1 (thn (ha.run pos pins _ σ H _ (I.tok _) h) fun us s1 z => ?_) he hpl
  obtain ⟨vs, H1, I1, r1, a, C, ws, ev, hl, T, ea, q⟩ := z
  subst ev
  cases r1 with
  | @cons _ u0 _ ur ra rw' =>
    cases (show u0 = Value.ref a from ra)
    exact oinit_ok T I1 ea (by rw [← Paired.length rw', sizeLine_eq]; omega) fun s' J => ⟨.non, H1, J, rfl, q⟩

/-! ### the class of a caught error, with or without a dict -/
open PySem.W PySem.Spec PySem.Calls PyProof.Rows in
theorem cls_exc {prog : Program} {w : World} {A : Around} {E : Value → Shared → Prop} {s : Shared} {K : Frag} {x D : Addr} {ox : Obj} {od : Option Obj} {Q : Option Value → Shared → Prop} (c : L2.ExcC K D) (X : K.In s.heap) (I : InstAt s.heap x ox D od) (h : Q (some (.ref D)) { s with toks := s.toks + 1 }) :
    wpAny (model prog w) A (getAttr? (.ref x) "__class__") Q E s := by
  have hf : findObj K D od "__class__" = some (.bind (.builtin "getset_descriptor.__get__") (.builtin "object.__class__")) := by
    obtain ⟨cd, hc, _⟩ := any_some c.hd
    unfold findObj
    rw [hc, Option.bind_some, c.ha, Option.bind_some]
    simp [c.hn, c.ht]
  obtain ⟨hp, g, d, t, os⟩ := s
  have T0 : Looks (model prog w) hp (typeOf (.ref x)) (.ref D) := I.type
  have T3 := looks_find (M := model prog w) X I hf
  have ne : (onTheHeap (Value.ref D) && Value.builtin "BaseException.__getattribute__" == Value.builtin "object.__getattribute__") = false := by
    rw [show (Value.builtin "BaseException.__getattribute__" == Value.builtin "object.__getattribute__") = false by decide +kernel]
    rfl
  unfold getAttr? getAttrBy? getAttrBy
  refine wpAny_bind (wpAny_mkText (wpAny_bind (wpAny_attempt (wpAny_holding (wpAny_bind (T0.at (wpAny_bind ((looks_findIn (M := model prog w) X c.hg).at ?_))))))))
  show wpAny _ _ (ite ((onTheHeap (Value.ref D) && Value.builtin "BaseException.__getattribute__" == Value.builtin "object.__getattribute__") = true) _ _) _ _ _
  rw [ne, if_neg Bool.false_ne_true]
  unfold getAttrByItsOwn hookBefore
  refine wpAny_bind ?_
  rw [if_pos (show onTheHeap (Value.ref D) = true from rfl)]
  refine (looks_findIn (M := model prog w) X c.hk).at (wpAny_bind (wpAny_attempt (wpAny_holding ?_)))
  unfold callGetattribute
  rw [show (false && onTheHeap (Value.builtin "BaseException.__getattribute__")) = false from rfl, if_neg Bool.false_ne_true]
  unfold boundAndCalled
  rw [PySem.F.excAttr_ValueError.ga.bind (.ref x)]
  refine wpAny_bind (wpAny_pure ?_)
  show wpAny _ _ (call (.builtin "BaseException.__getattribute__") [.ref x, .str "__class__" t]) _ _ _
  refine wpAny_call (codeAny_call_builtin PySem.F.excAttr_ValueError.ga.plain PySem.F.entry_bexc_ga ?_)
  refine @check_slot (model prog w) _ _ ⟨hp, g, d, t + 1, os⟩ "BaseException.__getattribute__" "BaseException" "__getattribute__" (.ref x) [.str "__class__" t] [] _ (by decide +kernel) (by decide +kernel) (T0.andThen (looks_subIn X c.hs)) (PySem.F.args_bexc_ga (.ref x) (.str "__class__" t)) ?_
  unfold Builtin.«object.__getattribute__»
  refine wpAny_bind (wpAny_of_eq (a := ((Value.ref x : Value), [Value.str "__class__" t])) (by first | rfl | (simp only [slotArgs]; rfl)) ?_)
  refine wpAny_bind (wpAny_pure (wpAny_bind (T0.at (wpAny_bind (T3.at ?_)))))
  show wpAny _ _ (holding [Value.builtin "object.__class__"] (call (.builtin "getset_descriptor.__get__") [.builtin "object.__class__", .ref x, .ref D]) >>= ret) _ _ _
  refine wpAny_bind (wpAny_holding (wpAny_call (class_get (s := ⟨hp, g, d, t + 1, os⟩) (ox := ox) (od := od) X I c.hm (wpAny_pure ?_))))
  show wpAny _ _ (handedOut (.ref D)) _ _ _
  rw [handedOut_of (v := .ref D) rfl]
  first
    | exact wpAny_pure (wpAny_pure h)
    | exact wpAny_pure h
    | exact wpAny_pure (wpAny_bind (wpAny_pure (wpAny_pure h)))
open PySem.W PySem.Spec PySem.Calls PyProof.Rows in
theorem kit_exc {K : Frag} {x D : Addr} {ox : Obj} {od : Option Obj} (c : L2.ExcC K D) : KitX K (.ref x) (.ref D) (fun h => InstAt h x ox D od) := by
  have q0 := handS_kitx_exc (K := K) (x := x) (D := D) (ox := ox) c.hg c.hk c.hs c.hd c.ha c.hn c.ht c.hm
  refine { ty := fun _ _ _ I => I.type, it := fun _ _ X _ => ?_, ne := q0.ne, ca := fun X I k => cls_exc c X I k }
  obtain ⟨cd, hc, _⟩ := any_some c.hd
  intro A' Q' E' s' k q
  unfold clsIn at hc
  split at hc
  · rename_i ho
    unfold isType loadHead
    exact wpAny_bind (wpAny_loadPart (k _ _ (X _ _ ho)) (wpAny_pure q))
  · cases hc

/-! ### in the suite: isinstance(e, ..), e.f -/
section
variable {X : Cx} {T : Tab} {a C Ce : Addr} {oe : Obj} {d : Option Addr} {pn : List (Addr × Obj)} {S S1 S2 : Sta} {e e2 : Expr} {pos p : Pos} {n : Nat} {fs : List D} {b : Bool} {fn : List Str} {x : Str}
theorem de_glob (hm : X.mg x = some (.ref C)) (hg : Gl X x := by rfl) (hd : (x == ("__debug__" : Str)) = false := by decide) : DE X T S (.Name x pos) (.dat (.cls C)) S := de_c (pe_glob (v := .ref C) hg hm rfl hd) fun _ _ _ => .cls
def rIsX (K : PySem.W.Frag) (Ce a : Addr) (d : Option Addr) : List V → Hp → VK → Prop := fun xs H Q => (d = none ∨ ∃ dd fs, d = some dd ∧ H dd = some (.xd fs)) ∧
  ((∃ C b, xs = [.ref a, .ref C] ∧ PySem.W.kitOne K (.ref Ce) (.ref C) = some b ∧ Q (.bl b) H) ∨ ∃ (tp : Addr) (cs : List Addr) (b : Bool), xs = [.ref a, .ref tp] ∧ SqT K H tp (cs.map V.ref) ∧ PySem.W.kitAny K (.ref Ce) (cs.map Value.ref) = some b ∧ Q (.bl b) H)
theorem refs_of : ∀ {cs : List Addr} {us : List Value}, Vals (cs.map V.ref) us → us = cs.map Value.ref
  | [], _, .nil => rfl
  | c :: cs, _, .cons r t => by
    rw [refs_of t]
    cases (show _ = Value.ref c from r)
    rfl
theorem call_isX (c : ExcC X.K Ce) (hz : Zc (.ref Ce) d oe) (hf : ∃ vs, oe.data = .fields vs) : CallR (X.suite a ((a, oe) :: pn)) (.builtin "isinstance") (rIsX X.K Ce a d) := by
  intro pins s σ H xs us Q I r h
  obtain ⟨hd, h⟩ := h
  obtain ⟨hget, _⟩ := I.pin (a, oe) (List.mem_append.mpr (.inl List.mem_cons_self))
  obtain ⟨vs, hv⟩ := hf
  have J : ∃ od, PySem.W.InstAt s.heap a oe Ce od := by
    rcases hd with rfl | ⟨dd, fs, rfl, e⟩
    · refine ⟨none, hget, hz.1, by unfold PySem.W.notCls; rw [hv] <;> rfl, ?_⟩
      rw [hz.2]
      trivial
    · obtain ⟨mA, hns, _⟩ : ObjOk X.prog X.w H s.heap dd (.xd fs) := I.hok dd _ e
      obtain ⟨od, ho, _⟩ := lookIn_ns hns
      exact ⟨some od, hget, hz.1, by unfold PySem.W.notCls; rw [hv] <;> rfl, by rw [hz.2]; exact ho⟩
  obtain ⟨od, J⟩ := J
  rcases h with ⟨C, b, rfl, e, q⟩ | ⟨tp, cs, b, rfl, ht, e, q⟩
  · obtain ⟨u1, u2, rfl, r1, r2⟩ := vals2 r
    cases (show u1 = Value.ref a from r1)
    cases (show u2 = Value.ref C from r2)
    exact PySem.W.kia_one (kit_exc c) I.kIn J e (fun z => nomatch z) fun tk => ⟨.bl b, H, I.tok tk, rfl, q⟩
  · obtain ⟨u1, u2, rfl, r1, r2⟩ := vals2 r
    cases (show u1 = Value.ref a from r1)
    cases (show u2 = Value.ref tp from r2)
    obtain ⟨its, rv, ⟨o, h1, h2, m, h3⟩, _⟩ := I.tuple ht
    have e3 := refs_of rv
    subst e3
    obtain ⟨oc, od', dt, sl⟩ := o
    simp only at h2 h3
    subst h2 h3
    exact PySem.W.kia_tup (kit_exc c) I.kIn J h1 e (fun z => nomatch z) fun tk => ⟨.bl b, H, I.tok tk, rfl, q⟩
/-- the error of the suite: its class, its dict -/
structure Err (X : Cx) (T : Tab) (n : Nat) (a : Addr) (d : Option Addr) (Ce : Addr) (oe : Obj) : Prop where
  ec : ExcC X.K Ce
  hz : Zc (.ref Ce) d oe
  hf : ∃ vs, oe.data = .fields vs
  ht : ∃ fn, T n = some (Ce, fn)
theorem xat_or {M : Addr → Prop} {H : Hp} {fn : List Str} {vs : List V} (h : XAt M H d fn vs) : d = none ∨ ∃ dd fs, d = some dd ∧ H dd = some (.xd fs) := by
  rcases h with ⟨_, _, h⟩ | ⟨dd, h1, _, h2, _⟩
  · exact .inl h
  · exact .inr ⟨dd, _, h1, h2⟩
theorem de_isiE (E : Err X T n a d Ce oe) (hi : X.mg "isinstance" = none) (he : DE (X.suite a ((a, oe) :: pn)) T S e (.dat (.err n a d fs)) S1) (hc : DE (X.suite a ((a, oe) :: pn)) T S1 e2 (.dat (.cls C)) S2) (hk : PySem.W.kitOne X.K (.ref Ce) (.ref C) = some b) (hg : Gl X "isinstance" := by rfl)
    (h1 : starEach [e, e2] X.env = (false, eval e X.env) :: starEach [e2] X.env := by rfl) (h2 : starEach [e2] X.env = (false, eval e2 X.env) :: starEach [] X.env := by rfl) (hpl : (backTo pos (starEach [e2] X.env)).any (·.1) = false := by rfl) :
    DE (X.suite a ((a, oe) :: pn)) T S (.Call (.Name "isinstance" p) [e, e2] [] pos) (.dat (.bl b)) S2 :=
  de_callB (X := X.suite a ((a, oe) :: pn)) (cs' := S2.cs) (call_isX E.ec E.hz E.hf) hi (by decide +kernel) (da_cons he (da_cons hc da_nil h2) h1) (fun ad F H vs Q c r q => by
    match vs, r with
    | [v, w], r =>
      obtain ⟨r1, r2, _⟩ := r
      cases r1 with
      | err ht hx _ =>
        cases r2
        exact ⟨xat_or hx, .inl ⟨C, b, rfl, hk, q _ H ad .refl c Rep.bl⟩⟩) hg (by decide) (by decide) h1 hpl
theorem cls_reps {K : PySem.W.Frag} {M : Addr → Prop} {H : Hp} : ∀ {cs : List Addr} {vs : List V}, Reps T K M H vs (cs.map D.cls) → vs = cs.map V.ref
  | [], _, .nil => rfl
  | c :: cs, _, .cons r t => by
    rw [cls_reps t]
    cases r
    rfl
theorem de_isiET {cs : List Addr} (E : Err X T n a d Ce oe) (hi : X.mg "isinstance" = none) (he : DE (X.suite a ((a, oe) :: pn)) T S e (.dat (.err n a d fs)) S1) (hc : DE (X.suite a ((a, oe) :: pn)) T S1 e2 (.dat (.tup (cs.map D.cls))) S2) (hk : PySem.W.kitAny X.K (.ref Ce) (cs.map Value.ref) = some b) (hg : Gl X "isinstance" := by rfl)
    (h1 : starEach [e, e2] X.env = (false, eval e X.env) :: starEach [e2] X.env := by rfl) (h2 : starEach [e2] X.env = (false, eval e2 X.env) :: starEach [] X.env := by rfl) (hpl : (backTo pos (starEach [e2] X.env)).any (·.1) = false := by rfl) :
    DE (X.suite a ((a, oe) :: pn)) T S (.Call (.Name "isinstance" p) [e, e2] [] pos) (.dat (.bl b)) S2 :=
  de_callB (X := X.suite a ((a, oe) :: pn)) (cs' := S2.cs) (call_isX E.ec E.hz E.hf) hi (by decide +kernel) (da_cons he (da_cons hc da_nil h2) h1) (fun ad F H vs Q c r q => by
    match vs, r with
    | [v, w], r =>
      obtain ⟨r1, r2, _⟩ := r
      cases r1 with
      | err ht hx _ =>
        cases r2 with
        | tup t1 t2 =>
          rw [cls_reps t2] at t1
          exact ⟨xat_or hx, .inr ⟨_, cs, b, rfl, t1.sq, hk, q _ H ad .refl c Rep.bl⟩⟩) hg (by decide) (by decide) h1 hpl
theorem de_xf {f : Str} {j : Nat} {v : D} (E : Err X T n a d Ce oe) (xc : XfC X.K Ce) (hno : PySem.W.findIn X.K (.ref Ce) f = some none) (hT : T n = some (Ce, fn)) (hf : fIdx fn f = some j) (he : DE (X.suite a ((a, oe) :: pn)) T S e (.dat (.err n a d fs)) S1) (hv : fs[j]? = some v) (hb : attributeBase e f X.env (eval e X.env) = eval e X.env := by rfl) :
    DE (X.suite a ((a, oe) :: pn)) T S (.Attribute e f pos) (.dat v) S1 :=
  weak (pe_xf xc hno E.hz E.hf he hb) fun σ H Q ⟨ad, F, h, q⟩ => ⟨ad, F, h, fun w H1 ad1 x1 h1 r1 => by
    cases r1 with
    | @err _ C' _ fn' _ vs _ ht hx r =>
      rw [hT] at ht
      cases ht
      rcases hx with ⟨z, _, _⟩ | ⟨dd, h2, _, h3, hl⟩
      · subst z
        cases hf
      · obtain ⟨u, hu, lk⟩ := fIdx_look (vs := vs) hf hl
        obtain ⟨u', hu', ru⟩ := r.get hv
        rw [hu] at hu'
        cases hu'
        exact ⟨rfl, rfl, dd, _, u, h2, h3, lk, q u H1 ad1 x1 h1 ru⟩⟩
end
end Dl

namespace Dl
open PySem L2

/-! ### raise C(e), C over ValueError with one attribute -/
/-- what __init__(self, v) does: the base's __init__, self.f = v -/
def spE1 (C : Addr) (f : Str) : Sp := fun vs H Q _ => ∃ (a : Addr) (v : V), vs = [.ref a, v] ∧ H a = some (exo a C none) ∧ ∀ dx, H dx = none → dx ≠ a → Q .non (upd (upd H dx (exd dx [(f, v)])) a (exo a C (some dx)))
theorem ds_raise1 {X : Cx} {T : Tab} {n m : Nat} {S S1 : Sta} {P : Post} {e : Expr} {x f g : Str} {C fI : Addr} {k : Nat} {fd : FuncData} {d : D} {p pos pos2 : Pos} (o : OexC X.K C) (iC : PySem.W.findIn X.K (.ref C) "__init__" = some (some (.ref fI))) (tI : PySem.W.typeIn X.K (.ref fI) = some (.type "function"))
    (F1 : FnOk X.prog X.w X.K X.mg X.base CX0 k fI fd ["self", g] (spE1 C f)) (hr : Room (k + 1) X.A) (hb : Binds X.K fd ["self", g] []) (hm : X.mg x = some (.ref C)) (hT : T m = some (C, [f])) (tk : Takes X P.W) (ha : DE X T S e (.dat d) S1) (h : P.ex ⟨m, [d]⟩ S1) (hc : X.calm = true := by rfl) (hg : Gl X x := by rfl)
    (hdb : (x == ("__debug__" : Str)) = false := by decide) (he : starEach [e] X.env = (false, eval e X.env) :: starEach [] X.env := by rfl) : DS X T n S (.Raise (some (.Call (.Name x p) [e] [] pos)) none pos2) P :=
  weakS (ps_raise hc tk (pmk_oex o iC tI F1 hr hb .nil pass0 hg hm (da_cons ha da_nil he) hdb he rfl)) fun D σ H ⟨ad, F, hn, h0, _, _, _, _, q5⟩ => ⟨ad, F, h0, fun vs H1 ad1 x1 h1 r1 => by
    match vs, r1 with
    | [v], r1 =>
      refine ⟨by show 1 ≤ 1000; decide, fun a na => ⟨a, v, rfl, upd_same, fun dx ndx ne => ⟨rfl, dx, [(f, v)], upd_same, ?_, ?_, ?_⟩⟩⟩
      · rw [upd_ne ne, upd_same]
      · rw [upd_ne ne] at ndx; exact ndx
      · have n1 : H1 dx = none := by rw [upd_ne ne] at ndx; exact ndx
        have eH : upd (del (upd (upd (upd H1 a (exo a C none)) dx (exd dx [(f, v)])) a (exo a C (some dx))) a) dx (.xd [(f, v)]) = upd H1 dx (.xd [(f, v)]) := by
          funext b
          by_cases hb : b = dx
          · rw [hb, upd_same, upd_same]
          · rw [upd_ne hb, upd_ne hb]
            by_cases hba : b = a
            · rw [hba, del_same, na]
            · rw [del_ne hba, upd_ne hba, upd_ne hb, upd_ne hba]
        rw [eH]
        obtain ⟨c3, x3⟩ := h1.hc.newo (o := .xd [(f, v)]) n1
        have hn1 := x1.le hn
        exact q5 ⟨m, [d]⟩ S1 (.ref C) (some dx) σ _ ad1 ((x1.trans h1.hc x3).s hn) hn1 (h1.to x3 c3) ⟨C, [f], hT, rfl, .inr ⟨dx, [v], rfl, h1.hc.new n1, upd_same, rfl, .cons (Rep.kp x3.kp r1.1) .nil⟩⟩ h⟩

/-! ### defs that may raise -/
abbrev CtX := List Sl → List Cell → Exc → List Cell → Prop
def spX (T : Tab) (K : PySem.W.Frag) (c : Ct) (cx : CtX) : Sp := fun vs H Q E => spC T K c vs H Q E ∨ ∃ ad F args cs x cs', HoldC T K ad F H cs ∧ SlReps T K ad F H vs args ∧ cx args cs x cs' ∧
  ∀ cls d H' ad', ExtS cs.length ad F H ad' H' → cs.length ≤ ad'.length → HoldC T K ad' F H' cs' → ExRep T K (Mm ad' F) H' cls d x → E cls d H'
/-- what is to be shown at the end of a def that raises -/
abbrev endX (n : Nat) (E : XK) (x : Exc) (cs' : List Cell) : Post := { nx := fun _ => False, rt := fun _ _ => False, ex := fun y S => y = x ∧ S.cs.take n = cs', W := fun cls d _ H => E cls d H }
abbrev cxX (P : Program) (w : World) (K : PySem.W.Frag) (mg : Str → Option Value) (base : Heap) (N : List Str) (qual : Str) (st : Stmt) (f : Addr) (cdv : Value) (A : Around) (outer : List Env) (s : Shared) (H : Hp) (E : XK) : Cx := cxOf (L2.CX P w) P w K mg base N qual (defScope st) f cdv A outer s H E
section
variable {T : Tab} {P : Program} {w : World} {K : PySem.W.Frag} {mg : Str → Option Value} {base : Heap}
theorem fn_okX {x qual : Str} {st : Stmt} {f : Addr} {fd : FuncData} {N ps : List Str} {k : Nat} {c : Ct} {cx : CtX} (F : Fun K x qual st f fd) (Sc : FnScope N ps (defScope st)) (len : ∀ args cs s cs', c args cs s cs' → args.length = ps.length) (lenX : ∀ args cs x cs', cx args cs x cs' → args.length = ps.length)
    (body : ∀ cdv A outer sh H E, Room k (cxX P w K mg base N qual st f cdv A outer sh H E).nox.A → ∀ args cs s cs', c args cs s cs' →
      DSs (cxX P w K mg base N qual st f cdv A outer sh H E).nox T cs.length (st0 N args cs) (defBody st) (endOf cs.length s cs'))
    (bodyX : ∀ cdv A outer sh H E, Room k (cxX P w K mg base N qual st f cdv A outer sh H E).A → Takes (cxX P w K mg base N qual st f cdv A outer sh H E) (fun cls d _ H => E cls d H) → ∀ args cs x cs', cx args cs x cs' →
      DSs (cxX P w K mg base N qual st f cdv A outer sh H E) T cs.length (st0 N args cs) (defBody st) (endX cs.length E x cs')) : FnOk P w K mg base (L2.CX P w) (k + 1) f fd ps (spX T K c cx) := by
  refine F.okX Sc (fun vs H Q E h => ?_) (fun cdv A outer s H vs Q E hr h => ?_)
  · rcases h with ⟨ad, F', args, cs, s, cs', _, r, hc, _⟩ | ⟨ad, F', args, cs, s, cs', _, r, hc, _⟩
    · rw [r.len, len _ _ _ _ hc]
    · rw [r.len, lenX _ _ _ _ hc]
  · rcases h with ⟨ad, F', args, cs, s0, cs', hc, r, h, q⟩ | ⟨ad, F', args, cs, x0, cs', hc, r, h, q⟩
    · refine ⟨_, PSs.nox (body cdv A outer s H E hr args cs s0 cs' h), ad, F', Nat.le_of_eq hc.ln.symm, start_hold hc r, ?_, ?_, fun _ _ _ _ _ _ _ z => z.elim, fun _ _ _ _ _ _ _ z => z.elim, fun _ _ _ _ _ _ _ _ _ _ _ z => z.elim⟩
      · rintro S' σ' H' ad' x hn h' ⟨rfl, e⟩
        subst e
        refine q .non H' (ad'.take cs.length) ⟨by rw [List.take_take, Nat.min_self]; exact x.pre, fun a ha => x.sub a (List.mem_of_mem_take ha), x.keep, x.frm⟩ (by rw [List.length_take]; omega) (h'.hc.take _) Rep.non
      · rintro s2 cs2 v H' ad' x hn c2 r2 ⟨rfl, rfl⟩
        exact q v H' ad' x hn c2 r2
    · have tk : Takes (cxX P w K mg base N qual st f cdv A outer s H E) (fun cls d _ H => E cls d H) := takes_of rfl rfl rfl rfl
      refine ⟨_, bodyX cdv A outer s H E hr tk args cs x0 cs' h, ad, F', Nat.le_of_eq hc.ln.symm, start_hold hc r, fun _ _ _ _ _ _ _ z => z.elim, fun _ _ _ _ _ _ _ _ _ z => z.elim, fun _ _ _ _ _ _ _ z => z.elim, fun _ _ _ _ _ _ _ z => z.elim, ?_⟩
      rintro y S' cls d σ' H' ad' x hn h' er ⟨rfl, e⟩
      subst e
      have kp : Kp (Mm ad' F') H' (Mm (ad'.take cs.length) F') H' := fun a o e z => ⟨e, fun y => z (y.imp List.mem_of_mem_take id)⟩
      refine q cls d H' (ad'.take cs.length) ⟨by rw [List.take_take, Nat.min_self]; exact x.pre, fun a ha => x.sub a (List.mem_of_mem_take ha), x.keep, x.frm⟩ (by rw [List.length_take]; omega) (h'.hc.take _) ?_
      obtain ⟨C, fn, e1, e2, er⟩ := er
      refine ⟨C, fn, e1, e2, er.imp id ?_⟩
      rintro ⟨dd, vs', a1, a2, a3, a4, a5⟩
      exact ⟨dd, vs', a1, (kp _ _ a3 a2).2, a3, a4, a5.kp kp⟩
end
end Dl

namespace Dl
open PySem L2

/-! ### a def that may raise, where it does not -/
theorem calm_of {T : Tab} {P : Program} {w : World} {K : PySem.W.Frag} {mg : Str → Option Value} {base : Heap} {f : Addr} {fd : FuncData} {ps : List Str} {k : Nat} {c : Ct} {cx : CtX} (F : FnOk P w K mg base (L2.CX P w) k f fd ps (spX T K c cx)) : FnOk P w K mg base CX0 k f fd ps (spC T K c) :=
  ⟨fun vs H Q E h => F.len vs H Q E (.inl h), fun A outer s H args us vs Q E hr he hb hv hs => codeAny_mono (F.run A outer s H args us vs Q (fun _ _ _ => False) hr he hb hv (.inl hs)) fun r s' q => by
    cases r with
    | error e =>
      obtain ⟨_, _, _, _, _, _, _, _, _, _, _, _, z⟩ := q
      exact z.elim
    | ok fl =>
      cases fl with
      | ret u => exact q
      | next => exact q
      | brk => exact q
      | cont => exact q⟩

/-! ### expressions that raise -/
def tDX (T : Tab) (K : PySem.W.Frag) (W : WX) (S : Sta) (x : Exc) (S' : Sta) : TE := fun σ H _ => ∃ ad F, Hold T K S ad F σ H ∧ ∀ cls d H' ad', Ext ad F H ad' H' → Hold T K S' ad' F σ H' → ExRep T K (Mm ad' F) H' cls d x → W cls d σ H'
def tDAX (T : Tab) (K : PySem.W.Frag) (W : WX) (S : Sta) (x : Exc) (S' : Sta) : TA := fun σ H _ => ∃ ad F, Hold T K S ad F σ H ∧ ∀ cls d H' ad', Ext ad F H ad' H' → Hold T K S' ad' F σ H' → ExRep T K (Mm ad' F) H' cls d x → W cls d σ H'
def DX (X : Cx) (T : Tab) (W : WX) (S : Sta) (e : Expr) (x : Exc) (S' : Sta) : Prop := PE X e (tDX T X.K W S x S')
def DAX (X : Cx) (T : Tab) (W : WX) (S : Sta) (es : List Expr) (x : Exc) (S' : Sta) : Prop := PA X es (tDAX T X.K W S x S')
theorem noA {X : Cx} {es : List Expr} : PA X es (fun _ _ _ => False) := ⟨fun _ _ _ _ _ _ _ z => z.elim⟩
section
variable {X : Cx} {T : Tab} {W : WX} {S S1 S2 : Sta} {e e2 o : Expr} {es : List Expr} {x : Exc} {s : Sl} {pos p apos : Pos} {n : Nat} {P : Post}
/-- the head raises -/
theorem dax_h (h : DX X T W S e x S1) (hs : starEach (e :: es) X.env = (false, eval e X.env) :: starEach es X.env := by rfl) : DAX X T W S (e :: es) x S1 := weakA (pa_cons h noA hs) fun σ H Q z => z
/-- a later one -/
theorem dax_t (h : DE X T S e s S1) (ht : DAX X T W S1 es x S2) (hs : starEach (e :: es) X.env = (false, eval e X.env) :: starEach es X.env := by rfl) : DAX X T W S (e :: es) x S2 :=
  weakA (pa_cons h ht hs) fun σ H Q ⟨ad, F, h0, q⟩ => ⟨ad, F, h0, fun v H1 ad1 x1 h1 r1 => ⟨ad1, F, h1, fun cls d H2 ad2 x2 h2 er => q cls d H2 ad2 (x1.trans h1.hc x2) h2 er⟩⟩
theorem dx_tup {x1 : Nat} (h : DAX X T W S es x S1) : DX X T W S (.Tuple es x1 pos) x S1 := weak (pe_tup h) fun σ H Q z => z
/-- f(..), an argument raises -/
theorem dx_callA {k : Nat} {f : Addr} {fd : FuncData} {ps : List Str} {c : Ct} {y : Str} (G : FnOk X.prog X.w X.K X.mg X.base CX0 k f fd ps (spC T X.K c)) (hr : Room k X.A) (hm : X.mg y = some (.ref f)) (hk : PySem.W.keepIn X.K (.ref f) = true) (hb : Binds X.K fd ps []) (ha : DAX X T W S (e :: es) x S1) (hg : Gl X y := by rfl) (hdb : (y == ("__debug__" : Str)) = false := by decide)
    (he : starEach (e :: es) X.env = (false, eval e X.env) :: starEach es X.env := by rfl) (hpl : (backTo pos (starEach es X.env)).any (·.1) = false := by rfl) : DX X T W S (.Call (.Name y p) (e :: es) [] pos) x S1 :=
  weak (pe_call G hr hg hm hk hb .nil pass0 ha hdb he hpl) fun σ H Q z => z
/-- f(..) raises -/
theorem spX_at {K : PySem.W.Frag} {ad : List Addr} {F : Addr → Prop} {H : Hp} {cs : List Cell} {vs : List V} {Q : VK} {E : XK} {c : Ct} {cx : CtX} {ds : List D} (hx : cx (ds.map Sl.dat) [] x []) (h : HoldC T K ad F H cs) (r : SlReps T K ad F H vs (ds.map Sl.dat))
    (q : ∀ cls d H' , Ext ad F H ad H' → HoldC T K ad F H' cs → ExRep T K (Mm ad F) H' cls d x → E cls d H') : spX T K c cx vs H Q E := by
  refine .inr ⟨[], Mm ad F, ds.map Sl.dat, [], x, [], frame0 h, SlReps.kp (M := Mm ad F) (kp_in h) r, hx, fun cls d H' ad' x2 _ c2 er => ?_⟩
  obtain ⟨c3, x3⟩ := back0 h x2
  refine q cls d H' x3 c3 ?_
  obtain ⟨C, fn, e1, e2, er⟩ := er
  refine ⟨C, fn, e1, e2, er.imp id ?_⟩
  rintro ⟨dd, vs', a1, a2, a3, a4, a5⟩
  exact ⟨dd, vs', a1, fun z => a2 (.inr z), a3, a4, a5.kp kp_out⟩
theorem dx_call {k : Nat} {f : Addr} {fd : FuncData} {ps : List Str} {c : Ct} {cx : CtX} {y : Str} {ds : List D} (G : FnOk X.prog X.w X.K X.mg X.base (L2.CX X.prog X.w) k f fd ps (spX T X.K c cx)) (hr : Room k X.A) (hm : X.mg y = some (.ref f)) (hk : PySem.W.keepIn X.K (.ref f) = true) (hb : Binds X.K fd ps []) (tk : Takes X W) (ha : DA X T S (e :: es) (ds.map Sl.dat) S1) (hx : cx (ds.map Sl.dat) [] x [])
    (hg : Gl X y := by rfl) (hdb : (y == ("__debug__" : Str)) = false := by decide) (he : starEach (e :: es) X.env = (false, eval e X.env) :: starEach es X.env := by rfl) (hpl : (backTo pos (starEach es X.env)).any (·.1) = false := by rfl) : DX X T W S (.Call (.Name y p) (e :: es) [] pos) x S1 :=
  weak (pe_callS (E := WE W) G hr hg hm hk hb (passAt tk) ha hdb he hpl) fun σ H Q ⟨ad, F, h0, q⟩ => ⟨ad, F, h0, fun vs H1 ad1 x1 h1 r1 => spX_at hx h1.hc r1 fun cls d H' x2 c2 er => q cls d H' ad1 (x1.trans h1.hc x2) (h1.to x2 c2) er⟩
/-- o.m(..) raises -/
def tMethS (C : Addr) (m : Str) (sp : Sp) (E : St → XK) (ta : TE) (t : TA) : TE := fun σ H Q => ta σ H fun x H1 => ∃ a dx fs, x = .ref a ∧ H1 a = some (.ins C dx fs) ∧ fs.lookup m = none ∧ t σ H1 fun vs H2 => sp (x :: vs) H2 Q (E σ)
theorem pe_methS {CX : CXT} {C f : Addr} {m : Str} {k : Nat} {fd : FuncData} {ps : List Str} {sp : Sp} {E : St → XK} {ta : TE} {t : TA} {pl : Sem Bool} (he : PE X o ta) (c : Cls X.K C) (hm : Meth X.K C m f) (F : FnOk X.prog X.w X.K X.mg X.base CX k f fd ps sp) (hr : Room k X.A) (hb : Binds X.K fd ps []) (hx : ∀ σ, PassesAt CX X σ (E σ)) (ha : PA X (e :: es) t)
    (h1 : starEach (e :: es) X.env = (false, eval e X.env) :: starEach es X.env) (h2 : (backTo pos (starEach es X.env)).any (·.1) = false)
    (h3 : eval (.Call (.Attribute o m apos) (e :: es) [] pos) X.env = (eval o X.env >>= fun ov => standAt apos.atName >>= fun _ => holding [ov] (getMethod ov m pl) >>= fun fb => callWith pos fb.1 fb.2 (backTo pos (starEach (e :: es) X.env)) (backToKw pos (keywordEach [] X.env)))) :
    PE X (.Call (.Attribute o m apos) (e :: es) [] pos) (tMethS C m sp E ta t) := by
  constructor
  intro pins s σ H Q I h
  refine PySem.W.methodCall_KW (pl := pl) (thn (he.run pins s σ H _ I h) fun u s1 z => ?_) h3
  obtain ⟨x, H1, I1, rx, a, dx, fs, ex, ea, l, q⟩ := z
  subst ex
  cases (show u = Value.ref a from rx)
  refine getmeth_ok I1 ea c hm l (PySem.W.callWith_K (first := [.ref a]) (h₀ := X.base) I.ok.mod.kin hm.kp (thn (ha.run pos pins s1 σ H1 _ I1 q) fun us s2 z => ?_) h1 h2)
  obtain ⟨vs, H2, I2, r, q2⟩ := z
  exact ⟨I2.kIn, run_fnS (us := .ref a :: us) (vs := .ref a :: vs) F hr hb (hx σ) I2 (.cons rfl r) q2⟩
theorem dx_meth {C f : Addr} {m : Str} {k cn : Nat} {fd : FuncData} {ps : List Str} {c : Ct} {cx : CtX} {fn : List Str} {ds vs : List D} {pl : Sem Bool} (hT : T cn = some (C, fn)) (hc : Cls X.K C) (hm : Meth X.K C m f) (hf : fIdx fn m = none) (G : FnOk X.prog X.w X.K X.mg X.base (L2.CX X.prog X.w) k f fd ps (spX T X.K c cx)) (hr : Room k X.A) (hb : Binds X.K fd ps []) (tk : Takes X W)
    (he : DE X T S o (.dat (.obj cn ds)) S1) (ha : DA X T S1 (e :: es) (vs.map Sl.dat) S2) (hx : cx ((D.obj cn ds :: vs).map Sl.dat) [] x [])
    (h1 : starEach (e :: es) X.env = (false, eval e X.env) :: starEach es X.env := by rfl) (h2 : (backTo pos (starEach es X.env)).any (·.1) = false := by rfl)
    (h3 : eval (.Call (.Attribute o m apos) (e :: es) [] pos) X.env = (eval o X.env >>= fun ov => standAt apos.atName >>= fun _ => holding [ov] (getMethod ov m pl) >>= fun fb => callWith pos fb.1 fb.2 (backTo pos (starEach (e :: es) X.env)) (backToKw pos (keywordEach [] X.env))) := by rfl) :
    DX X T W S (.Call (.Attribute o m apos) (e :: es) [] pos) x S2 :=
  weak (pe_methS (pl := pl) (E := WE W) he hc hm G hr hb (passAt tk) ha h1 h2 h3) fun σ H Q ⟨ad, F, h0, q⟩ => ⟨ad, F, h0, fun v H1 ad1 x1 h1 r1 => by
    have r0 := r1
    cases r1 with
    | @obj a C' dx _ fn' vs' _ ht na e1 hl r =>
      rw [hT] at ht
      cases ht
      refine ⟨a, dx, _, rfl, e1, fIdx_none hf, ad1, F, h1, fun ws H2 ad2 x2 h2 r2 => ?_⟩
      exact spX_at (ds := .obj cn ds :: vs) hx h2.hc ⟨SlRep.ext (s := .dat (.obj cn ds)) x2 r0, r2⟩ fun cls d H' x3 c3 er => q cls d H' ad2 (x1.trans h1.hc (x2.trans h2.hc x3)) (h2.to x3 c3) er⟩
/-! statements -/
theorem ds_asgX (i : Nat) {y : Str} {p' : Pos} (hN : X.N.Nodup) (he : DX X T P.W S e x S1) (h : P.ex x S1) (hi : X.N[i]? = some y := by rfl) (hx : Loc X.env.scope y := by first | exact Or.inl rfl | exact Or.inr rfl) (hf : X.fn y = true ∨ X.env.scope.names.lookup y = some .local := by first | exact .inl rfl | exact .inr rfl)
    (hs : swapsWithSole [.Name y p'] e pos.line X.env = pure false := by rfl) (hw : swappedStores [.Name y p'] e X.env = pure none := by rfl) (h1 : (assignEach [.Name y p'] X.env).map (·.2) = [assign (.Name y p') X.env] := by rfl) : DS X T n S (.Assign [.Name y p'] e pos) P :=
  weakS (ps_asg he (pg_name hN hi hx hf) hs hw h1) fun D σ H ⟨ad, F, hn, h0, _, _, _, _, q5⟩ => ⟨ad, F, h0, fun cls d H' ad' x1 h1 er => q5 x S1 cls d σ H' ad' (x1.s hn) (x1.le hn) h1 er h⟩
theorem ds_retX (he : DX X T P.W S e x S1) (h : P.ex x S1) : DS X T n S (.Return (some e) pos) P :=
  weakS (ps_ret he) fun D σ H ⟨ad, F, hn, h0, _, _, _, _, q5⟩ => ⟨ad, F, h0, fun cls d H' ad' x1 h1 er => q5 x S1 cls d σ H' ad' (x1.s hn) (x1.le hn) h1 er h⟩
theorem ds_exprX (he : DX X T P.W S e x S1) (h : P.ex x S1) (hs : swapsWith e none pos.line X.env = pure false := by rfl) : DS X T n S (.Expr e pos) P :=
  weakS (ps_expr he hs) fun D σ H ⟨ad, F, hn, h0, _, _, _, _, q5⟩ => ⟨ad, F, h0, fun cls d H' ad' x1 h1 er => q5 x S1 cls d σ H' ad' (x1.s hn) (x1.le hn) h1 er h⟩
end
end Dl

namespace Dl
open PySem L2
/-! ### try -/
section
variable {X : Cx} {T : Tab} {n : Nat} {S S1 : Sta} {P : Post} {body suite orelse : List Stmt} {b0 h0' : Stmt} {hs' : List ExceptHandler} {pos pos' np : Pos}
theorem Hold.unset {K : PySem.W.Frag} {ad : List Addr} {F : Addr → Prop} {σ : St} {H : Hp} (h : Hold T K S ad F σ H) (i : Nat) : Hold T K ⟨S.sl.set i none, S.cs⟩ ad F (σ.set i none) H := by
  refine ⟨h.hc, by simp [h.sz], fun j u e => ?_⟩
  have e : (S.sl.set i none)[j]? = some (some u) := e
  by_cases hj : i = j
  · subst hj
    rw [List.getElem?_set] at e
    split at e
    · split at e <;> cases e
    · exact absurd rfl ‹_›
  · rw [List.getElem?_set_ne hj] at e
    obtain ⟨v, hv, r⟩ := h.sl j u e
    exact ⟨v, by rw [List.getElem?_set_ne hj]; exact hv, r⟩
/-- nothing is raised -/
theorem ds_try0 {hd : ExceptHandler} (hb : DSs X.nox T n S body P) (hx : ∀ x S, ¬ P.ex x S) : DS X T n S (.Try body (hd :: hs') [] [] pos) P :=
  weakS (ps_try_thru0 hb) fun D σ H z => z
/-- what is raised is caught: except x as y -/
theorem ds_tryX {x y : Str} {c : Value} {i m : Nat} {Ce : Addr} {fn : List Str} {fs : List D} (hN : X.N.Nodup) (hc : Names X x c) (hT : T m = some (Ce, fn)) (hm : PySem.W.exmOne X.K (.ref Ce) c = some true)
    (hb : ∀ (W : WX) (pn : List (Addr × Obj)) (xe : Value → Shared → Prop), Takes (X.tr pn xe) W → DSs (X.tr pn xe) T n S body { nx := fun _ => False, rt := fun _ _ => False, ex := fun e S' => e = ⟨m, fs⟩ ∧ S' = S1, W := W })
    (hsu : ∀ (a : Addr) (oe : Obj) (d : Option Addr) (pn : List (Addr × Obj)), Zc (.ref Ce) d oe → (∃ vs, oe.data = .fields vs) →
      DSs (X.suite a ((a, oe) :: pn)) T n ⟨S1.sl.set i (some (.dat (.err m a d fs))), S1.cs⟩ (b0 :: suite) { nx := fun S' => P.nx ⟨S'.sl.set i none, S'.cs⟩, rt := P.rt, bk := fun S' => P.bk ⟨S'.sl.set i none, S'.cs⟩, ct := fun S' => P.ct ⟨S'.sl.set i none, S'.cs⟩ })
    (hs : X.stack = X.env :: X.outer := by rfl) (hf : X.env.frame = some X.env.locals := by rfl) (hi : X.N[i]? = some y := by rfl) (hln : X.env.kindOf y = some .local := by rfl) :
    DS X T n S (.Try body [.ExceptHandler (some (.Name x np)) (some y) (b0 :: suite) pos'] [] [] pos) P := by
  have tk : Takes X (fun _ _ _ _ => False) := fun u s' z => by
    obtain ⟨_, _, _, _, _, _, _, _, _, _, _, _, _, _, _, _, w⟩ := z
    exact w.elim
  let ts : Addr → Value → Option Addr → TS := fun a cls d D σ H => cls = .ref Ce ∧ tDS T X.K n ⟨S1.sl.set i (some (.dat (.err m a d fs))), S1.cs⟩ { nx := fun S' => P.nx ⟨S'.sl.set i none, S'.cs⟩, rt := P.rt, bk := fun S' => P.bk ⟨S'.sl.set i none, S'.cs⟩, ct := fun S' => P.ct ⟨S'.sl.set i none, S'.cs⟩ } D σ H
  have hsu' : ∀ (a : Addr) (oe : Obj) (cls : Value) (d : Option Addr) (pn : List (Addr × Obj)), Zc cls d oe → (∃ vs, oe.data = .fields vs) → PSs (X.suite a ((a, oe) :: pn)) (b0 :: suite) (ts a cls d) := fun a oe cls d pn hz hv => ⟨fun pins s σ H D I z => by
    obtain ⟨rfl, z⟩ := z
    exact (hsu a oe d pn hz hv).run pins s σ H D I z⟩
  refine weakS (ps_try_as (ts := ts) (tb := fun W => tDS T X.K n S { nx := fun _ => False, rt := fun _ _ => False, ex := fun e S' => e = ⟨m, fs⟩ ∧ S' = S1, W := W }) hs hf hN hi hln hc tk (fun W pn xe t _ => hb W pn xe t) hsu') fun D σ H ⟨ad, F, hn, h0, q1, q2, q3, q4, q5⟩ => ?_
  refine ⟨ad, F, hn, h0, fun _ _ _ _ _ _ _ z => z.elim, fun _ _ _ _ _ _ _ _ _ z => z.elim, fun _ _ _ _ _ _ _ z => z.elim, fun _ _ _ _ _ _ _ z => z.elim, ?_⟩
  rintro e0 S2 cls d σ' H' ad' x' hn' h' er ⟨rfl, rfl⟩
  obtain ⟨C, fn', e1, e2, er⟩ := er
  have e1 : T m = some (C, fn') := e1
  rw [hT] at e1
  cases e1
  refine ⟨true, by rw [e2]; exact hm, fun _ a na => ⟨e2, ?_⟩, fun z => nomatch z⟩
  have rp : Rep T X.K (Mm ad' F) H' (.ref a) (.err m a d fs) := by
    rcases er with ⟨f1, f2, f3⟩ | ⟨dd, vs, a1, a2, a3, a4, a5⟩
    · have f2 : fs = [] := f2
      subst f1 f2 f3
      exact .err (vs := []) hT (.inl ⟨rfl, rfl, rfl⟩) .nil
    · exact .err hT (.inr ⟨dd, a1, a2, a3, a4⟩) a5
  have hh := h'.set (s := .dat (.err m a d fs)) rp i
  refine ⟨ad', F, hn', hh, ?_, ?_, ?_, ?_, fun _ _ _ _ _ _ _ _ _ _ _ z => z.elim⟩
  · exact fun S3 σ3 H3 ad3 x3 hn3 h3 p => q1 _ _ H3 ad3 (x'.trans x3) hn3 (h3.unset i) p
  · exact fun s cs3 v H3 ad3 x3 hn3 c3 r3 p => q2 s cs3 v H3 ad3 (x'.trans x3) hn3 c3 r3 p
  · exact fun S3 σ3 H3 ad3 x3 hn3 h3 p => q3 _ _ H3 ad3 (x'.trans x3) hn3 (h3.unset i) p
  · exact fun S3 σ3 H3 ad3 x3 hn3 h3 p => q4 _ _ H3 ad3 (x'.trans x3) hn3 (h3.unset i) p
end
end Dl

namespace Dl
open PySem L2
/-! ### abs(x), x of an own class -/
section
variable {X : Cx} {T : Tab} {C g : Addr} {fd : FuncData} {ps : List Str} {k cn : Nat} {c : Ct} {fn : List Str} {ds : List D} {d : D} {cs : List Cell}
/-- the callee runs one unit deeper -/
theorem run_in1 {pins : List (Addr × Obj)} {σ : St} {H : Hp} {s : Shared} {Q : VK} {us : List Value} {vs : List V} {sp : Sp} (F : FnOk X.prog X.w X.K X.mg X.base CX0 k g fd ps sp) (hr : Room (k + 1) X.A) (hb : Binds X.K fd ps [])
    (I : Inv X pins σ H s) (r : Vals vs us) (h : sp vs H Q E0) : wpAny (model X.prog X.w) X.A.in1 (call (.ref g) us) (EP X pins σ Q) X.xe s := by
  have hl : us.length = ps.length := by rw [← r.length]; exact F.len _ _ _ _ h
  have b := hb s us I.kIn (by rw [List.append_nil]; exact hl)
  rw [List.append_nil] at b
  have e := I.env0
  refine wpAny_call (codeAny_mono (F.run X.A.in1 X.stack s H ⟨us, []⟩ us vs Q E0 hr.in1 ⟨e.frames, e.mod, e.bs, e.bsz, e.funs, e.frf, e.hok, e.bare⟩ b r h) fun r s' hq => ?_)
  cases r with
  | error e => exact False.elim hq
  | ok fl =>
    cases fl with
    | ret u => exact I.after hq
    | next => exact False.elim hq
    | brk => exact False.elim hq
    | cont => exact False.elim hq
open PySem.Calls PySem.W in
theorem call_absO {sp : Sp} (G : FnOk X.prog X.w X.K X.mg X.base CX0 k g fd ps sp) (hr : Room (k + 1) X.A) (hb : Binds X.K fd ps []) (hs : findIn X.K (.ref C) "__abs__" = some (some (.ref g))) (hf : isFn X.K (.ref g) = true) :
    CallR X (.builtin "abs") (fun xs H Q => ∃ a dx fs, xs = [.ref a] ∧ H a = some (.ins C dx fs) ∧ sp [.ref a] H Q E0) := by
  intro pins s σ H xs us Q I r h
  obtain ⟨a, dx, fs, rfl, ea, hsp⟩ := h
  obtain ⟨u, rfl, ru⟩ := vals1 r
  cases (show u = Value.ref a from ru)
  obtain ⟨od, J⟩ := inst_get I ea
  refine call_function_entry PyProof.Rows.kind_abs PyProof.Rows.plain_abs PyProof.Rows.entry_abs (PyProof.Rows.args_abs _) ?_
  unfold Builtin.«abs»
  refine wpAny_bind (m := oneArg "abs" _) (wpAny_pure ?_)
  refine wpAny_bind (special_fn I.kIn J hs (beq_iff_eq.mp hf) (wpAny_mono (run_in1 (us := [.ref a]) (vs := [.ref a]) G hr hb I (.cons rfl .nil) hsp) (fun v s' z => ?_) fun _ _ z => z))
  exact wpAny_pure ⟨v, rfl, z⟩
theorem cb_absO (hT : T cn = some (C, fn)) (G : FnOk X.prog X.w X.K X.mg X.base CX0 k g fd ps (spC T X.K c)) (hr : Room (k + 1) X.A) (hb : Binds X.K fd ps []) (hs : PySem.W.findIn X.K (.ref C) "__abs__" = some (some (.ref g))) (hf : PySem.W.isFn X.K (.ref g) = true) (hq : c [.dat (.obj cn ds)] [] (.dat d) []) :
    CalB X T "abs" [.dat (.obj cn ds)] cs (.dat d) cs := ⟨_, _, by decide +kernel, .inl ⟨_, rfl⟩, call_absO G hr hb hs hf, fun ad F H vs Q cc r q => by
  match vs, r with
  | [v], r =>
    have r1 := r.1
    cases r1 with
    | @obj a C' dx _ fn' vs' _ ht na e1 hl r2 =>
      rw [hT] at ht
      cases ht
      exact ⟨a, dx, _, rfl, e1, spC0 (ds := [.obj cn ds]) hq cc ⟨r.1, trivial⟩ fun v H' x2 c2 r2 => q v H' ad x2 c2 r2⟩⟩
end
end Dl

namespace Dl
open PySem L2
/-! ### text * n, int(text) -/
section
variable {X : Cx} {T : Tab} {cs : List Cell}
def repS (x : Str) (n : Int) : Str := if n < 1 then Str.empty else if (n == 1 || x.length == 0) = true then x else ⟨(List.replicate n.toNat x.cps).foldl (· ++ ·) #[]⟩
theorem op_mulS : OpR X (binaryOp .Mult) (fun x y H Q => ∃ (z : Str) (n : Int), x = .str z ∧ y = .int n ∧ z.length ≤ 1000 ∧ (-1000 ≤ n ∧ n ≤ 1000) ∧ (repS z n).length ≤ sizeLine ∧ Q (.str (repS z n)) H) := by
  intro pins s σ H x y v u Q I rx ry h
  obtain ⟨z, n, rfl, rfl, hz, ⟨h1, h2⟩, hl, q⟩ := h
  obtain ⟨t, rfl⟩ := rx
  obtain ⟨t2, rfl⟩ := ry
  refine PySem.P.mul_str ?_ (fun a _ => ?_) (fun a _ => ?_) ?_
  · rw [decide_eq_false (by omega), decide_eq_false (by omega)]; rfl
  · have e : (z.length : Int) * n ≤ 1000 * 1000 := Int.mul_le_mul (by omega) h2 (by omega) (by decide)
    have e2 : (z.length : Int) ≤ (2 ^ 63 - 1) / n := (Int.le_ediv_iff_mul_le (by omega)).mpr (by omega)
    omega
  · have e : z.length * n.toNat ≤ 1000 * 1000 := Nat.mul_le_mul hz (by omega)
    have e3 : sizeLine = 16777216 := sizeLine_eq
    exact decide_eq_false (by omega)
  · unfold repS at q hl
    split
    · rename_i h
      rw [if_pos h] at q hl
      exact ⟨hl, .str _, H, I.tok _, ⟨_, rfl⟩, q⟩
    · rename_i h
      rw [if_neg h] at q hl
      split
      · rename_i h'
        rw [if_pos h'] at q hl
        exact ⟨.str _, H, I, ⟨_, rfl⟩, q⟩
      · rename_i h'
        rw [if_neg h'] at q hl
        exact ⟨hl, .str _, H, I.tok _, ⟨_, rfl⟩, q⟩
theorem bin_mulS {x : Str} {n : Int} (h1 : x.length ≤ 1000) (h2 : -1000 ≤ n ∧ n ≤ 1000) (hl : (repS x n).length ≤ sizeLine) : BinD X T .Mult (.dat (.str x)) (.dat (.int n)) cs (.dat (.str (repS x n))) cs := ⟨_, op_mulS, fun ad F H v w Q c r1 r2 q => by
  cases r1
  cases r2
  exact ⟨x, n, rfl, rfl, h1, h2, hl, q _ H ad .refl c Rep.str⟩⟩
theorem cb_intS {x : Str} {n : Int} (h : PySem.intText? x = some n) (hl : x.length ≤ 640) : CalB X T "int" [.dat (.str x)] cs (.dat (.int n)) cs := ⟨_, _, by decide +kernel, .inr ⟨_, rfl⟩, call_int_str, fun ad F H vs Q c r q => by
  match vs, r with
  | [v], r =>
    have r1 := r.1
    cases r1
    exact ⟨x, n, rfl, h, hl, q _ H ad .refl c Rep.int⟩⟩
end
end Dl

/-! J: readings of syntax by data. An expression has a reading w: from slots and cells, what must hold so that R holds of its value and the cells behind it, or RX of what it raises. -/
namespace Dl
open PySem L2
abbrev Sls := List (Option Sl)
abbrev RV := Sl → List Cell → Prop
abbrev RB := Bool → List Cell → Prop
abbrev RA := List Sl → List Cell → Prop
abbrev RX := Exc → List Cell → Prop
abbrev WpE := Sls → List Cell → RV → RX → Prop
abbrev WpT := Sls → List Cell → RB → RX → Prop
abbrev WpA := Sls → List Cell → RA → RX → Prop
abbrev WpS := Sta → Post → Prop
/-- a branch -/
structure Br (b : Bool) (p q : Prop) : Prop where
  t : b = true → p
  f : b = false → q
def noX : RX := fun _ _ => False
def W0 : WX := fun _ _ _ _ => False
theorem tk0 {X : Cx} : Takes X W0 := fun u s' ⟨_, _, _, _, _, _, _, _, _, _, _, _, _, _, _, _, w⟩ => w.elim
/-- what is done with what comes of it -/
def Raz (T : Tab) (K : PySem.W.Frag) (W : WX) (σ : St) (ad : List Addr) (F : Addr → Prop) (H : Hp) (sl : Sls) (Rx : RX) : Prop := ∀ x c cls d H' ad', Rx x c → Ext ad F H ad' H' → Hold T K ⟨sl, c⟩ ad' F σ H' → ExRep T K (Mm ad' F) H' cls d x → W cls d σ H'
theorem Raz.on {T : Tab} {K : PySem.W.Frag} {W : WX} {σ : St} {ad ad1 : List Addr} {F : Addr → Prop} {H H1 : Hp} {sl : Sls} {Rx : RX} {S : Sta} (q : Raz T K W σ ad F H sl Rx) (x1 : Ext ad F H ad1 H1) (h1 : Hold T K S ad1 F σ H1) : Raz T K W σ ad1 F H1 sl Rx := fun x c cls d H' ad' hx x2 h2 er => q x c cls d H' ad' hx (x1.trans h1.hc x2) h2 er
theorem Raz.no {T : Tab} {K : PySem.W.Frag} {W : WX} {σ : St} {ad : List Addr} {F : Addr → Prop} {H : Hp} {sl : Sls} : Raz T K W σ ad F H sl noX := fun _ _ _ _ _ _ z => z.elim
def tJ (T : Tab) (K : PySem.W.Frag) (W : WX) (w : WpE) : TE := fun σ H Q => ∃ ad F sl cs R Rx, Hold T K ⟨sl, cs⟩ ad F σ H ∧ w sl cs R Rx ∧
  (∀ s c v H' ad', R s c → Ext ad F H ad' H' → Hold T K ⟨sl, c⟩ ad' F σ H' → SlRep T K ad' F H' v s → Q v H') ∧ Raz T K W σ ad F H sl Rx
def tJT (T : Tab) (K : PySem.W.Frag) (W : WX) (w : WpT) : TT := fun σ H Q => ∃ ad F sl cs R Rx, Hold T K ⟨sl, cs⟩ ad F σ H ∧ w sl cs R Rx ∧
  (∀ b c H' ad', R b c → Ext ad F H ad' H' → Hold T K ⟨sl, c⟩ ad' F σ H' → Q b H') ∧ Raz T K W σ ad F H sl Rx
def tJA (T : Tab) (K : PySem.W.Frag) (W : WX) (w : WpA) : TA := fun σ H Q => ∃ ad F sl cs R Rx, Hold T K ⟨sl, cs⟩ ad F σ H ∧ w sl cs R Rx ∧
  (∀ ss c vs H' ad', R ss c → Ext ad F H ad' H' → Hold T K ⟨sl, c⟩ ad' F σ H' → SlReps T K ad' F H' vs ss → Q vs H') ∧ Raz T K W σ ad F H sl Rx
def JE (X : Cx) (T : Tab) (W : WX) (e : Expr) (w : WpE) : Prop := PE X e (tJ T X.K W w)
def JT (X : Cx) (T : Tab) (W : WX) (e : Expr) (w : WpT) : Prop := PT X e (tJT T X.K W w)
def JW (X : Cx) (T : Tab) (W : WX) (e : Expr) (w : WpT) : Prop := PW X e (tJT T X.K W w)
def JA (X : Cx) (T : Tab) (W : WX) (es : List Expr) (w : WpA) : Prop := PA X es (tJA T X.K W w)
/-! ### operators -/
abbrev W2 := Sl → Sl → List Cell → RV → Prop
abbrev W1 := Sl → List Cell → RV → Prop
def JBin (X : Cx) (T : Tab) (op : Operator) (w : W2) : Prop := ∀ s1 s2 cs R, w s1 s2 cs R → ∃ s cs', BinD X T op s1 s2 cs s cs' ∧ R s cs'
def JIop (X : Cx) (T : Tab) (op : Operator) (w : W2) : Prop := ∀ s1 s2 cs R, w s1 s2 cs R → ∃ s cs', IopD X T op s1 s2 cs s cs' ∧ R s cs'
def JCmp (X : Cx) (T : Tab) (op : CmpOp) (w : W2) : Prop := ∀ s1 s2 cs R, w s1 s2 cs R → ∃ s cs', CmpD X T op s1 s2 cs s cs' ∧ R s cs'
def JIx (X : Cx) (T : Tab) (w : W2) : Prop := ∀ s1 s2 cs R, w s1 s2 cs R → ∃ s cs', IxD X T s1 s2 cs s cs' ∧ R s cs'
def JUn (X : Cx) (T : Tab) (op : UnaryOp) (w : W1) : Prop := ∀ s1 cs R, w s1 cs R → ∃ s cs', UnD X T op s1 cs s cs' ∧ R s cs'
section
variable {X : Cx} {T : Tab}
/-- all are data -/
def dats : List Sl → Option (List D)
  | [] => some []
  | .dat d :: r => (dats r).map (d :: ·)
  | .cel _ :: _ => none
theorem dats_eq : ∀ {ss : List Sl} {ds : List D}, dats ss = some ds → ss = ds.map Sl.dat
  | [], ds, h => by cases h; rfl
  | .dat d :: r, ds, h => by
    cases q : dats r with
    | none => simp [dats, q] at h
    | some l =>
      simp [dats, q] at h
      subst h
      rw [dats_eq q]
      rfl
  | .cel _ :: _, _, h => nomatch h
def wDats (ss : List Sl) (k : List D → Prop) : Prop := match dats ss with
  | some ds => k ds
  | none => False
theorem wDats_of {ss : List Sl} {k : List D → Prop} (h : wDats ss k) : ∃ ds, ss = ds.map Sl.dat ∧ k ds := by
  unfold wDats at h
  split at h
  · rename_i ds e
    exact ⟨ds, dats_eq e, h⟩
  · exact h.elim
def isB (s : Sl) (k : Bool → Prop) : Prop := match s with
  | .dat (.bl b) => k b
  | _ => False
theorem isB_of {s : Sl} {k : Bool → Prop} (h : isB s k) : ∃ b, s = .dat (.bl b) ∧ k b := by
  unfold isB at h
  split at h
  · exact ⟨_, rfl, h⟩
  · exact h.elim
/-! ### truth -/
def truW (s : Sl) (cs : List Cell) (k : Bool → Prop) : Prop := match s with
  | .dat (.bl b) => k b
  | .dat (.int i) => k (i != 0)
  | .dat .non => k false
  | .dat (.lst ds) => k (!ds.isEmpty)
  | .dat (.tup ds) => k (!ds.isEmpty)
  | .dat (.str x) => x.length ≤ sizeLine ∧ k ((x.length : Int) != 0)
  | .cel j => match cs[j]? with
    | some (.lst ds) => k (!ds.isEmpty)
    | some (.dct kvs) => k (!kvs.isEmpty)
    | _ => False
  | _ => False
def TruS (T : Tab) (K : PySem.W.Frag) (s : Sl) (cs : List Cell) (k : Bool) : Prop := ∀ ad F H v, HoldC T K ad F H cs → SlRep T K ad F H v s → TruV K v H k
theorem truW_of {K : PySem.W.Frag} {s : Sl} {cs : List Cell} {k : Bool → Prop} (h : truW s cs k) : ∃ b, TruS T K s cs b ∧ k b := by
  have lst : ∀ {M : Addr → Prop} {H : Hp} {vs : List V} {ds : List D}, Reps T K M H vs ds → vs.isEmpty = ds.isEmpty := fun r => by cases r <;> rfl
  unfold truW at h
  split at h
  · exact ⟨_, fun ad F H v c r => by cases r; exact rfl, h⟩
  · exact ⟨_, fun ad F H v c r => by cases r; exact rfl, h⟩
  · exact ⟨_, fun ad F H v c r => by cases r; exact rfl, h⟩
  · exact ⟨_, fun ad F H v c r => by
      cases r with
      | lst n e r => exact .inl ⟨_, .inl (.inl e), by rw [lst r]⟩, h⟩
  · exact ⟨_, fun ad F H v c r => by
      cases r with
      | tup e r => exact .inr (.inl ⟨_, e.sq, by rw [lst r]⟩), h⟩
  · exact ⟨_, fun ad F H v c r => by cases r; exact ⟨h.1, rfl⟩, h.2⟩
  · rename_i j
    split at h
    · rename_i ds e
      exact ⟨_, fun ad F H v c r => by
        obtain ⟨a, ha, rfl⟩ := r
        obtain ⟨vs, e1, r1⟩ := c.ce j a _ ha e
        exact .inl ⟨_, .inl (.inl e1), by rw [lst r1]⟩, h⟩
    · rename_i kvs e
      exact ⟨_, fun ad F H v c r => by
        obtain ⟨a, ha, rfl⟩ := r
        obtain ⟨vs, e1, hl, r1⟩ := c.ce j a _ ha e
        refine .inr (.inr ⟨_, e1, ?_⟩)
        cases kvs with
        | nil =>
          cases vs with
          | nil => rfl
          | cons v vs => cases hl
        | cons q r =>
          cases vs with
          | nil => cases hl
          | cons v vs => rfl, h⟩
    · exact h.elim
  · exact h.elim
/-! ### the operators of ints, texts, lists, tuples -/
def lstOf (cs : List Cell) : Sl → Option (List D)
  | .dat (.lst ds) => some ds
  | .cel k => match cs[k]? with
    | some (.lst ds) => some ds
    | _ => none
  | _ => none
theorem lstOf_is {cs : List Cell} {s : Sl} {ds : List D} (h : lstOf cs s = some ds) : isLst cs ds s := by
  unfold lstOf at h
  split at h
  · cases h; exact rfl
  · split at h
    · rename_i e
      cases h; exact e
    · cases h
  · cases h
def wL (cs : List Cell) (s : Sl) (k : List D → Prop) : Prop := match lstOf cs s with
  | some ds => k ds
  | none => False
theorem wL_of {cs : List Cell} {s : Sl} {k : List D → Prop} (h : wL cs s k) : ∃ ds, isLst cs ds s ∧ k ds := by
  unfold wL at h
  split at h
  · rename_i ds e
    exact ⟨ds, lstOf_is e, h⟩
  · exact h.elim
def addW : W2 := fun s1 s2 cs R => match s1, s2 with
  | .dat (.int i), .dat (.int j) => R (.dat (.int (i + j))) cs
  | .dat (.str x), .dat (.str y) => x.length + y.length ≤ sizeLine ∧ R (.dat (.str (x ++ y))) cs
  | .dat (.tup ds), .dat (.tup es) => ds.length + es.length ≤ sizeLine ∧ R (.dat (.tup (ds ++ es))) cs
  | s1, s2 => wL cs s1 fun ds => wL cs s2 fun es => ds.length + es.length ≤ sizeLine ∧ R (.dat (.lst (ds ++ es))) cs
theorem jb_add : JBin X T .Add addW := fun s1 s2 cs R h => by
  unfold addW at h
  split at h
  · exact ⟨_, _, bin_add, h⟩
  · exact ⟨_, _, bin_addS h.1, h.2⟩
  · exact ⟨_, _, bin_addT h.1, h.2⟩
  · obtain ⟨ds, h1, h⟩ := wL_of h
    obtain ⟨es, h2, h⟩ := wL_of h
    exact ⟨_, _, bin_addL h1 h2 h.1, h.2⟩
/-- a new list that will be changed -/
def addWC : W2 := fun s1 s2 cs R => wL cs s1 fun ds => wL cs s2 fun es => ds.length + es.length ≤ sizeLine ∧ R (.cel cs.length) (cs ++ [.lst (ds ++ es)])
theorem jb_addC : JBin X T .Add addWC := fun s1 s2 cs R h => by
  obtain ⟨ds, h1, h⟩ := wL_of h
  obtain ⟨es, h2, h⟩ := wL_of h
  exact ⟨_, _, bin_addLC h1 h2 h.1, h.2⟩
def intW (C : Int → Int → Prop) (g : Int → Int → D) : W2 := fun s1 s2 cs R => match s1, s2 with
  | .dat (.int i), .dat (.int j) => C i j ∧ R (.dat (g i j)) cs
  | _, _ => False
def intW0 (g : Int → Int → D) : W2 := fun s1 s2 cs R => match s1, s2 with
  | .dat (.int i), .dat (.int j) => R (.dat (g i j)) cs
  | _, _ => False
def subW : W2 := intW0 fun i j => .int (i - j)
theorem jb_sub : JBin X T .Sub subW := fun s1 s2 cs R h => by
  unfold subW intW0 at h
  split at h
  · exact ⟨_, _, bin_sub, h⟩
  · exact h.elim
def MulC (i j : Int) : Prop := IntMulOk i j
def mulW : W2 := fun s1 s2 cs R => match s1, s2 with
  | .dat (.int i), .dat (.int j) => MulC i j ∧ R (.dat (.int (i * j))) cs
  | .dat (.str x), .dat (.int n) => x.length ≤ 1000 ∧ (-1000 ≤ n ∧ n ≤ 1000) ∧ (repS x n).length ≤ sizeLine ∧ R (.dat (.str (repS x n))) cs
  | s1, .dat (.int j) => wL cs s1 fun ds => (-(2 ^ 63) ≤ j ∧ j < 2 ^ 63 ∧ ds.length * j.toNat ≤ sizeLine) ∧ R (.dat (.lst (List.replicate j.toNat ds).flatten)) cs
  | _, _ => False
theorem jb_mul : JBin X T .Mult mulW := fun s1 s2 cs R h => by
  unfold mulW at h
  split at h
  · exact ⟨_, _, bin_mul h.1, h.2⟩
  · exact ⟨_, _, bin_mulS h.1 h.2.1 h.2.2.1, h.2.2.2⟩
  · obtain ⟨ds, h1, ⟨h2, h3, h4⟩, h⟩ := wL_of h
    exact ⟨_, _, bin_repL h1 h2 h3 h4, h⟩
  · exact h.elim
def DivC (i j : Int) : Prop := CDivW i j
def fdivW : W2 := intW DivC fun i j => .int (i / j)
theorem jb_fdiv : JBin X T .FloorDiv fdivW := fun s1 s2 cs R h => by
  unfold fdivW intW at h
  split at h
  · exact ⟨_, _, bin_fdiv h.1, h.2⟩
  · exact h.elim
def ModC (_ j : Int) : Prop := 0 < j
def modW : W2 := intW ModC fun i j => .int (i % j)
theorem jb_mod : JBin X T .Mod modW := fun s1 s2 cs R h => by
  unfold modW intW at h
  split at h
  · exact ⟨_, _, bin_mod h.1, h.2⟩
  · exact h.elim
def PowC (i j : Int) : Prop := CPow i j
def powW : W2 := intW PowC fun i j => .int (i ^ j.toNat)
theorem jb_pow : JBin X T .Pow powW := fun s1 s2 cs R h => by
  unfold powW intW at h
  split at h
  · exact ⟨_, _, bin_pow h.1, h.2⟩
  · exact h.elim
def negW : W1 := fun s1 cs R => match s1 with
  | .dat (.int i) => R (.dat (.int (-i))) cs
  | _ => False
theorem ju_neg : JUn X T .USub negW := fun s1 cs R h => by
  unfold negW at h
  split at h
  · exact ⟨_, _, un_negD, h⟩
  · exact h.elim
def ltW : W2 := intW0 fun i j => .bl (decide (i < j))
def leW : W2 := intW0 fun i j => .bl (decide (i ≤ j))
def gtW : W2 := intW0 fun i j => .bl (decide (j < i))
def geW : W2 := intW0 fun i j => .bl (decide (j ≤ i))
theorem jc_lt : JCmp X T .Lt ltW := fun s1 s2 cs R h => by
  unfold ltW intW0 at h
  split at h
  · exact ⟨_, _, cmp_lt, h⟩
  · exact h.elim
theorem jc_le : JCmp X T .LtE leW := fun s1 s2 cs R h => by
  unfold leW intW0 at h
  split at h
  · exact ⟨_, _, cmp_le, h⟩
  · exact h.elim
theorem jc_gt : JCmp X T .Gt gtW := fun s1 s2 cs R h => by
  unfold gtW intW0 at h
  split at h
  · exact ⟨_, _, cmp_gt, h⟩
  · exact h.elim
theorem jc_ge : JCmp X T .GtE geW := fun s1 s2 cs R h => by
  unfold geW intW0 at h
  split at h
  · exact ⟨_, _, cmp_ge, h⟩
  · exact h.elim
/-- data of a cell, as it stands -/
def datOf (cs : List Cell) : Sl → Option D
  | .dat d => some d
  | .cel _ => none
def eqW (neg : Bool) : W2 := fun s1 s2 cs R => match s1, s2 with
  | .dat (.int i), .dat (.int j) => R (.dat (.bl (neg.xor (decide (i = j))))) cs
  | .dat (.str i), .dat (.str j) => R (.dat (.bl (neg.xor (decide (i = j))))) cs
  | .dat (.bl i), .dat (.bl j) => R (.dat (.bl (neg.xor (i == j)))) cs
  | .dat d1, .dat d2 => okD d1 = true ∧ okD d2 = true ∧ R (.dat (.bl (neg.xor (eqD d1 d2)))) cs
  | _, _ => False
theorem jc_eq (hu : X.A.units + 64 < cLine) : JCmp X T .Eq (eqW false) := fun s1 s2 cs R h => by
  unfold eqW at h
  split at h
  · exact ⟨_, _, cmp_eqI, by simpa using h⟩
  · exact ⟨_, _, cmp_eqS, by simpa using h⟩
  · exact ⟨_, _, cmp_eqB, by simpa using h⟩
  · exact ⟨_, _, cmp_eqD hu h.1 h.2.1, by simpa using h.2.2⟩
  · exact h.elim
theorem jc_ne (hu : X.A.units + 64 < cLine) : JCmp X T .NotEq (eqW true) := fun s1 s2 cs R h => by
  unfold eqW at h
  split at h
  · exact ⟨_, _, cmp_neI, by simpa using h⟩
  · exact ⟨_, _, cmp_neS, by simpa using h⟩
  · exact ⟨_, _, cmp_neB, by simpa using h⟩
  · exact ⟨_, _, cmp_neD hu h.1 h.2.1, by simpa using h.2.2⟩
  · exact h.elim
def isW (neg : Bool) : W2 := fun s1 s2 cs R => match s1, s2 with
  | .dat d, .dat .non => R (.dat (.bl (neg.xor (isNon d)))) cs
  | _, _ => False
theorem jc_is : JCmp X T .Is (isW false) := fun s1 s2 cs R h => by
  unfold isW at h
  split at h
  · exact ⟨_, _, cmp_isN, by simpa using h⟩
  · exact h.elim
theorem jc_isnot : JCmp X T .IsNot (isW true) := fun s1 s2 cs R h => by
  unfold isW at h
  split at h
  · exact ⟨_, _, cmp_notN, by simpa using h⟩
  · exact h.elim
def inW' (neg : Bool) : W2 := fun s1 s2 cs R => match s1, s2 with
  | .dat d, .dat (.tup ds) => match fv d, fvs ds with
    | some v, some ws => R (.dat (.bl (neg.xor (inV v ws)))) cs
    | _, _ => False
  | _, _ => False
theorem jc_in : JCmp X T .In (inW' false) := fun s1 s2 cs R h => by
  unfold inW' at h
  split at h
  · split at h
    · rename_i h1 h2
      exact ⟨_, _, cmp_inT h1 h2, by simpa using h⟩
    · exact h.elim
  · exact h.elim
theorem jc_notin : JCmp X T .NotIn (inW' true) := fun s1 s2 cs R h => by
  unfold inW' at h
  split at h
  · split at h
    · rename_i h1 h2
      exact ⟨_, _, cmp_ninT h1 h2, by simpa using h⟩
    · exact h.elim
  · exact h.elim
/-! ### subscripts -/
def atW (ds : List D) (i : Int) (k : D → Prop) : Prop := match atI ds i with
  | some d => k d
  | none => False
theorem atW_of {ds : List D} {i : Int} {k : D → Prop} (h : atW ds i k) : ∃ d, atI ds i = some d ∧ k d := by
  unfold atW at h
  split at h
  · exact ⟨_, ‹_›, h⟩
  · exact h.elim
theorem atW_i {ds : List D} {i : Int} {k : D → Prop} {d : D} (e : atI ds i = some d) (h : k d) : atW ds i k := by
  unfold atW
  rw [e]
  exact h
def ixW : W2 := fun s1 s2 cs R => match s1, s2 with
  | .dat (.lst ds), .dat (.int i) => atW ds i fun d => R (.dat d) cs
  | .dat (.tup ds), .dat (.int i) => atW ds i fun d => R (.dat d) cs
  | .dat (.scr ds), .dat (.int i) => atW ds i fun d => R (.dat d) cs
  | .dat (.str x), .dat (.int i) => x.length ≤ sizeLine ∧ ∃ c, atI x.cps.toList i = some c ∧ R (.dat (.str ⟨#[c]⟩)) cs
  | .cel k, .dat (.int i) => match cs[k]? with
    | some (.lst ds) => atW ds i fun d => R (.dat d) cs
    | _ => False
  | _, _ => False
theorem ji_ix : JIx X T ixW := fun s1 s2 cs R h => by
  unfold ixW at h
  split at h
  · obtain ⟨d, e, h⟩ := atW_of h; exact ⟨_, _, ix_L e, h⟩
  · obtain ⟨d, e, h⟩ := atW_of h; exact ⟨_, _, ix_T e, h⟩
  · obtain ⟨d, e, h⟩ := atW_of h; exact ⟨_, _, ix_R e, h⟩
  · obtain ⟨hl, c, e, h⟩ := h; exact ⟨_, _, ix_S hl e, h⟩
  · split at h
    · rename_i e
      obtain ⟨d, e1, h⟩ := atW_of h; exact ⟨_, _, ix_C e e1, h⟩
    · exact h.elim
  · exact h.elim
def slcW (s1 : Sl) (l u : Option Int) (cs : List Cell) (R : RV) : Prop := match s1 with
  | .dat (.tup ds) => R (.dat (.tup (cutD ds l u))) cs
  | s1 => wL cs s1 fun ds => R (.dat (.lst (cutD ds l u))) cs
abbrev WC := List Sl → List Cell → RV → Prop
structure JCall (X : Cx) (T : Tab) (x : Str) (w : WC) : Prop where
  bo : ∃ u, bootBuiltins x = some u ∧ ((∃ id, u = .builtin id) ∨ ∃ id, u = .type id)
  run : ∀ ss cs R, w ss cs R → ∃ s cs', CalB X T x ss cs s cs' ∧ R s cs'
def lenW : WC := fun ss cs R => match ss with
  | [.dat (.tup ds)] => R (.dat (.int ds.length)) cs
  | [.dat (.scr ds)] => R (.dat (.int ds.length)) cs
  | [.dat (.str x)] => x.length ≤ sizeLine ∧ R (.dat (.int x.length)) cs
  | [s] => wL cs s fun ds => R (.dat (.int ds.length)) cs
  | _ => False
theorem jc_len : JCall X T "len" lenW := ⟨⟨_, PySem.boot_len, .inl ⟨_, rfl⟩⟩, fun ss cs R h => by
  unfold lenW at h
  split at h
  · exact ⟨_, _, cb_lenT, h⟩
  · exact ⟨_, _, cb_lenR, h⟩
  · exact ⟨_, _, cb_lenS h.1, h.2⟩
  · obtain ⟨ds, h1, h⟩ := wL_of h
    exact ⟨_, _, cb_len h1, h⟩
  · exact h.elim⟩
def intW1 : WC := fun ss cs R => match ss with
  | [.dat (.int i)] => R (.dat (.int i)) cs
  | [.dat (.bl k)] => R (.dat (.int (if k then 1 else 0))) cs
  | [.dat (.str x)] => x.length ≤ 640 ∧ ∃ n, PySem.intText? x = some n ∧ R (.dat (.int n)) cs
  | _ => False
theorem jc_int : JCall X T "int" intW1 := ⟨⟨.type "int", by decide +kernel, .inr ⟨_, rfl⟩⟩, fun ss cs R h => by
  unfold intW1 at h
  split at h
  · exact ⟨_, _, cb_int, h⟩
  · exact ⟨_, _, cb_intB, h⟩
  · obtain ⟨hl, n, e, h⟩ := h; exact ⟨_, _, cb_intS e hl, h⟩
  · exact h.elim⟩
def boolW : WC := fun ss cs R => match ss with
  | [.dat (.bl k)] => R (.dat (.bl k)) cs
  | _ => False
theorem jc_bool : JCall X T "bool" boolW := ⟨⟨.type "bool", by decide +kernel, .inr ⟨_, rfl⟩⟩, fun ss cs R h => by
  unfold boolW at h
  split at h
  · exact ⟨_, _, cb_boolB, h⟩
  · exact h.elim⟩
def absW : WC := fun ss cs R => match ss with
  | [.dat (.int i)] => R (.dat (.int (if i < 0 then -i else i))) cs
  | _ => False
theorem jc_abs : JCall X T "abs" absW := ⟨⟨.builtin "abs", by decide +kernel, .inl ⟨_, rfl⟩⟩, fun ss cs R h => by
  unfold absW at h
  split at h
  · exact ⟨_, _, cb_abs, h⟩
  · exact h.elim⟩
def maxW : WC := fun ss cs R => match ss with
  | [.dat (.int i), .dat (.int j)] => R (.dat (.int (if j > i then j else i))) cs
  | _ => False
theorem jc_max (hc : X.calm = true) : JCall X T "max" maxW := ⟨⟨.builtin "max", by decide +kernel, .inl ⟨_, rfl⟩⟩, fun ss cs R h => by
  unfold maxW at h
  split at h
  · exact ⟨_, _, cb_max hc, h⟩
  · exact h.elim⟩
def minW : WC := fun ss cs R => match ss with
  | [.dat (.int i), .dat (.int j)] => R (.dat (.int (if j < i then j else i))) cs
  | _ => False
theorem jc_min (hc : X.calm = true) : JCall X T "min" minW := ⟨⟨.builtin "min", by decide +kernel, .inl ⟨_, rfl⟩⟩, fun ss cs R h => by
  unfold minW at h
  split at h
  · exact ⟨_, _, cb_min hc, h⟩
  · exact h.elim⟩
def tupleW : WC := fun ss cs R => match ss with
  | [.dat (.tup ds)] => R (.dat (.tup ds)) cs
  | [s] => wL cs s fun ds => R (.dat (.tup ds)) cs
  | _ => False
theorem jc_tuple : JCall X T "tuple" tupleW := ⟨⟨.type "tuple", by decide +kernel, .inr ⟨_, rfl⟩⟩, fun ss cs R h => by
  unfold tupleW at h
  split at h
  · exact ⟨_, _, cb_tupT, h⟩
  · obtain ⟨ds, h1, h⟩ := wL_of h
    exact ⟨_, _, cb_tupL h1, h⟩
  · exact h.elim⟩
def listW : WC := fun ss cs R => match ss with
  | [.dat (.tup ds)] => R (.dat (.lst ds)) cs
  | [s] => wL cs s fun ds => R (.dat (.lst ds)) cs
  | _ => False
theorem jc_list : JCall X T "list" listW := ⟨⟨.type "list", by decide +kernel, .inr ⟨_, rfl⟩⟩, fun ss cs R h => by
  unfold listW at h
  split at h
  · exact ⟨_, _, cb_lstT, h⟩
  · obtain ⟨ds, h1, h⟩ := wL_of h
    exact ⟨_, _, cb_lstL h1, h⟩
  · exact h.elim⟩
def listWC : WC := fun ss cs R => match ss with
  | [.dat (.tup ds)] => R (.cel cs.length) (cs ++ [.lst ds])
  | [s] => wL cs s fun ds => R (.cel cs.length) (cs ++ [.lst ds])
  | _ => False
theorem jc_listC : JCall X T "list" listWC := ⟨⟨.type "list", by decide +kernel, .inr ⟨_, rfl⟩⟩, fun ss cs R h => by
  unfold listWC at h
  split at h
  · exact ⟨_, _, cb_lstTC, h⟩
  · obtain ⟨ds, h1, h⟩ := wL_of h
    exact ⟨_, _, cb_lstLC h1, h⟩
  · exact h.elim⟩
end
end Dl

namespace Dl
open PySem L2
section
variable {X : Cx} {T : Tab} {W : WX} {a b c e o : Expr} {es : List Expr} {pos p p2 : Pos} {wa wb w : WpE} {wt wt1 wt2 : WpT} {wA : WpA} {i : Int} {rest : List Expr} {lo hi : Option Expr}
/-- out of a value that is known -/
theorem je_of (h : ∀ sl cs (R : RV) Rx, w sl cs R Rx → ∃ s cs', DE X T ⟨sl, cs⟩ e s ⟨sl, cs'⟩ ∧ R s cs') : JE X T W e w := ⟨fun pins s σ H Q I ⟨ad, F, sl, cs, R, Rx, h0, hw, q, qx⟩ => by
  obtain ⟨s, cs', d, hR⟩ := h sl cs R Rx hw
  exact d.run pins _ σ H Q I ⟨ad, F, h0, fun v H' ad' x1 h1 r1 => q s cs' v H' ad' hR x1 h1 r1⟩⟩
/-! ### names, constants -/
def wName (i : Nat) : WpE := fun sl cs R _ => match sl[i]? with
  | some (some s) => R s cs
  | _ => False
theorem je_name (i : Nat) {x : Str} (hN : X.N[i]? = some x := by rfl) (hv : Vis X.env.scope x := by first | exact Or.inl rfl | exact Or.inr (Or.inl rfl) | exact Or.inr (Or.inr rfl)) (hd : (x == ("__debug__" : Str)) = false := by decide)
    (hcd : (x == ("__classdict__" : Str)) = false := by decide) : JE X T W (.Name x pos) (wName i) := je_of fun sl cs R Rx h => by
  unfold wName at h
  split at h
  · rename_i s e
    exact ⟨s, cs, de_name i e hN hv hd hcd, h⟩
  · exact h.elim
def wCon (d : D) : WpE := fun _ cs R _ => R (.dat d) cs
theorem je_int {k : Nat} : JE X T W (.Constant (.int i) k pos) (wCon (.int i)) := je_of fun sl cs R Rx h => ⟨_, cs, de_int, h⟩
theorem je_bl {b : Bool} {k : Nat} : JE X T W (.Constant (.bool b) k pos) (wCon (.bl b)) := je_of fun sl cs R Rx h => ⟨_, cs, de_bl, h⟩
theorem je_non {k : Nat} : JE X T W (.Constant .none k pos) (wCon .non) := je_of fun sl cs R Rx h => ⟨_, cs, de_non, h⟩
theorem je_str {x : Str} {k : Nat} : JE X T W (.Constant (.str x) k pos) (wCon (.str x)) := je_of fun sl cs R Rx h => ⟨_, cs, de_str, h⟩
/-- a class, by its name -/
theorem je_cls {x : Str} {C : Addr} (hm : X.mg x = some (.ref C)) (hg : Gl X x := by rfl) (hd : (x == ("__debug__" : Str)) = false := by decide) : JE X T W (.Name x pos) (wCon (.cls C)) := je_of fun sl cs R Rx h => ⟨_, cs, de_glob hm hg hd, h⟩
/-! ### operators -/
theorem opAll {f : Value → Value → Sem Value} : OpR X f (fun x y H Q => ∃ r, OpR X f r ∧ r x y H Q) := fun pins s σ H x y v u Q I rx ry ⟨r, o, h⟩ => o pins s σ H x y v u Q I rx ry h
theorem unAll {f : Value → Sem Value} : UnR X f (fun x H Q => ∃ r, UnR X f r ∧ r x H Q) := fun pins s σ H x v Q I rx ⟨r, o, h⟩ => o pins s σ H x v Q I rx h
theorem ixAll : IxR X (fun x y H Q => ∃ r, IxR X r ∧ r x y H Q) := fun v1 v2 pins s σ H x y v u Q I rx ry ⟨r, o, h⟩ => o v1 v2 pins s σ H x y v u Q I rx ry h
theorem callAll {f : Value} : CallR X f (fun xs H Q => ∃ r, CallR X f r ∧ r xs H Q) := fun pins s σ H xs us Q I rx ⟨r, o, h⟩ => o pins s σ H xs us Q I rx h
def wTwo (wa wb : WpE) (o : W2) : WpE := fun sl cs R Rx => wa sl cs (fun s1 c1 => wb sl c1 (fun s2 c2 => o s1 s2 c2 R) Rx) Rx
def wOne (wa : WpE) (o : W1) : WpE := fun sl cs R Rx => wa sl cs (fun s1 c1 => o s1 c1 R) Rx
theorem je_bin {op : Operator} {ow : W2} (ho : JBin X T op ow) (ha : JE X T W a wa) (hb : JE X T W b wb) : JE X T W (.BinOp a op b pos) (wTwo wa wb ow) :=
  weak (pe_op opAll ha hb) fun σ H Q ⟨ad, F, sl, cs, R, Rx, h0, hw, q, qx⟩ => ⟨ad, F, sl, cs, _, Rx, h0, hw, fun s1 c1 v H1 ad1 hw1 x1 h1 r1 => ⟨ad1, F, sl, c1, _, Rx, h1, hw1, fun s2 c2 v2 H2 ad2 hw2 x2 h2 r2 => by
    obtain ⟨s, c3, ⟨r, o1, o2⟩, hR⟩ := ho _ _ _ _ hw2
    exact ⟨r, o1, o2 ad2 F H2 v v2 Q h2.hc (r1.ext x2) r2 fun z H3 ad3 x3 k3 r3 => q s c3 z H3 ad3 hR (x1.trans h1.hc (x2.trans h2.hc x3)) (h2.to x3 k3) r3⟩, qx.on x1 h1⟩, qx⟩
theorem je_cmp {op : CmpOp} {ow : W2} (ho : JCmp X T op ow) (ha : JE X T W a wa) (hb : JE X T W b wb) (hm : behindInMarks op b = false := by first | exact nomark _ | rfl) : JE X T W (.Compare a [op] [b] pos) (wTwo wa wb ow) :=
  weak (pe_cmpR opAll ha hb hm) fun σ H Q ⟨ad, F, sl, cs, R, Rx, h0, hw, q, qx⟩ => ⟨ad, F, sl, cs, _, Rx, h0, hw, fun s1 c1 v H1 ad1 hw1 x1 h1 r1 => ⟨ad1, F, sl, c1, _, Rx, h1, hw1, fun s2 c2 v2 H2 ad2 hw2 x2 h2 r2 => by
    obtain ⟨s, c3, ⟨r, o1, o2⟩, hR⟩ := ho _ _ _ _ hw2
    exact ⟨r, o1, o2 ad2 F H2 v v2 Q h2.hc (r1.ext x2) r2 fun z H3 ad3 x3 k3 r3 => q s c3 z H3 ad3 hR (x1.trans h1.hc (x2.trans h2.hc x3)) (h2.to x3 k3) r3⟩, qx.on x1 h1⟩, qx⟩
theorem je_sub {ow : W2} (ho : JIx X T ow) (ha : JE X T W a wa) (hb : JE X T W b wb) (hp : PlainIx b := by intro _ _; rfl) : JE X T W (.Subscript a b pos) (wTwo wa wb ow) :=
  weak (pe_ix ixAll ha hb hp) fun σ H Q ⟨ad, F, sl, cs, R, Rx, h0, hw, q, qx⟩ => ⟨ad, F, sl, cs, _, Rx, h0, hw, fun s1 c1 v H1 ad1 hw1 x1 h1 r1 => ⟨ad1, F, sl, c1, _, Rx, h1, hw1, fun s2 c2 v2 H2 ad2 hw2 x2 h2 r2 => by
    obtain ⟨s, c3, ⟨r, o1, o2⟩, hR⟩ := ho _ _ _ _ hw2
    exact ⟨r, o1, o2 ad2 F H2 v v2 Q h2.hc (r1.ext x2) r2 fun z H3 ad3 x3 k3 r3 => q s c3 z H3 ad3 hR (x1.trans h1.hc (x2.trans h2.hc x3)) (h2.to x3 k3) r3⟩, qx.on x1 h1⟩, qx⟩
theorem je_un {op : UnaryOp} {ow : W1} (ho : JUn X T op ow) (ha : JE X T W a wa) : JE X T W (.UnaryOp op a pos) (wOne wa ow) :=
  weak (pe_un unAll ha) fun σ H Q ⟨ad, F, sl, cs, R, Rx, h0, hw, q, qx⟩ => ⟨ad, F, sl, cs, _, Rx, h0, hw, fun s1 c1 v H1 ad1 hw1 x1 h1 r1 => by
    obtain ⟨s, c3, ⟨r, o1, o2⟩, hR⟩ := ho _ _ _ hw1
    exact ⟨r, o1, o2 ad1 F H1 v Q h1.hc r1 fun z H3 ad3 x3 k3 r3 => q s c3 z H3 ad3 hR (x1.trans h1.hc x3) (h1.to x3 k3) r3⟩, qx⟩
/-! ### arguments, displays -/
def wNil : WpA := fun sl cs R _ => R [] cs
def wCons (wa : WpE) (wA : WpA) : WpA := fun sl cs R Rx => wa sl cs (fun s c1 => wA sl c1 (fun ss c2 => R (s :: ss) c2) Rx) Rx
theorem ja_nil : JA X T W [] wNil := weakA pa_nil fun σ H Q ⟨ad, F, sl, cs, R, Rx, h0, hw, q, qx⟩ => q [] cs [] H ad hw .refl h0 trivial
theorem ja_cons (ha : JE X T W e w) (hr : JA X T W es wA) (hs : starEach (e :: es) X.env = (false, eval e X.env) :: starEach es X.env := by rfl) : JA X T W (e :: es) (wCons w wA) :=
  weakA (pa_cons ha hr hs) fun σ H Q ⟨ad, F, sl, cs, R, Rx, h0, hw, q, qx⟩ => ⟨ad, F, sl, cs, _, Rx, h0, hw, fun s1 c1 v H1 ad1 hw1 x1 h1 r1 => ⟨ad1, F, sl, c1, _, Rx, h1, hw1, fun ss c2 vs H2 ad2 hw2 x2 h2 r2 => q _ c2 _ H2 ad2 hw2 (x1.trans h1.hc x2) h2 ⟨r1.ext x2, r2⟩, qx.on x1 h1⟩, qx⟩
def wTup (wA : WpA) : WpE := fun sl cs R Rx => wA sl cs (fun ss c1 => wDats ss fun ds => ds.length ≤ sizeLine ∧ R (.dat (.tup ds)) c1) Rx
theorem je_tup {k : Nat} (ha : JA X T W es wA) : JE X T W (.Tuple es k pos) (wTup wA) :=
  weak (pe_tup ha) fun σ H Q ⟨ad, F, sl, cs, R, Rx, h0, hw, q, qx⟩ => ⟨ad, F, sl, cs, _, Rx, h0, hw, fun ss c1 vs H1 ad1 hw1 x1 h1 r1 => by
    obtain ⟨ds, rfl, hl, hR⟩ := wDats_of hw1
    refine ⟨by rw [r1.dats.length]; exact hl, fun p hp => ?_⟩
    obtain ⟨c, x2⟩ := h1.hc.newo (o := .tup vs) hp
    exact q _ c1 _ _ ad1 hR (x1.trans h1.hc x2) (h1.to x2 c) (.tup (vs := vs) (.inl ⟨h1.hc.new hp, .inl upd_same⟩) (r1.dats.kp x2.kp)), qx⟩
def wLst (wA : WpA) : WpE := fun sl cs R Rx => wA sl cs (fun ss c1 => wDats ss fun ds => ds.length ≤ sizeLine ∧ R (.dat (.lst ds)) c1) Rx
theorem je_lst (ha : JA X T W es wA) : JE X T W (.List es pos) (wLst wA) :=
  weak (pe_lst ha) fun σ H Q ⟨ad, F, sl, cs, R, Rx, h0, hw, q, qx⟩ => ⟨ad, F, sl, cs, _, Rx, h0, hw, fun ss c1 vs H1 ad1 hw1 x1 h1 r1 => by
    obtain ⟨ds, rfl, hl, hR⟩ := wDats_of hw1
    exact ⟨by rw [r1.dats.length]; exact hl, fun p hp => new_lst h1.hc r1.dats (fun z H' ad' x2 k2 r2 => q _ c1 z H' ad' hR (x1.trans h1.hc x2) (h1.to x2 k2) r2) hp⟩, qx⟩
/-- a list that will be changed -/
def wLstC (wA : WpA) : WpE := fun sl cs R Rx => wA sl cs (fun ss c1 => wDats ss fun ds => ds.length ≤ sizeLine ∧ R (.cel c1.length) (c1 ++ [.lst ds])) Rx
theorem je_lstC (ha : JA X T W es wA) : JE X T W (.List es pos) (wLstC wA) :=
  weak (pe_lst ha) fun σ H Q ⟨ad, F, sl, cs, R, Rx, h0, hw, q, qx⟩ => ⟨ad, F, sl, cs, _, Rx, h0, hw, fun ss c1 vs H1 ad1 hw1 x1 h1 r1 => by
    obtain ⟨ds, rfl, hl, hR⟩ := wDats_of hw1
    exact ⟨by rw [r1.dats.length]; exact hl, fun p hp => new_lstC h1.hc r1.dats (fun z H' ad' x2 k2 r2 => q _ _ z H' ad' hR (x1.trans h1.hc x2) (h1.to x2 k2) r2) hp⟩, qx⟩
/-! ### tests -/
def wTru (w : WpE) : WpT := fun sl cs R Rx => w sl cs (fun s c => truW s c fun b => R b c) Rx
theorem jt_val (h : JE X T W e w) (he : ∀ whole, isTrue e X.env whole = (do let v ← whole; standAt e.pos; holding [v] (truthy v)) := by intro _; rfl) : JT X T W e (wTru w) :=
  weakT (pt_truth h he) fun σ H Q ⟨ad, F, sl, cs, R, Rx, h0, hw, q, qx⟩ => ⟨ad, F, sl, cs, _, Rx, h0, hw, fun s1 c1 v H1 ad1 hw1 x1 h1 r1 => by
    obtain ⟨b, tb, hR⟩ := truW_of (T := T) (K := X.K) hw1
    exact ⟨b, tb ad1 F H1 v h1.hc r1, q b c1 H1 ad1 hR x1 h1⟩, qx⟩
def wBl (w : WpE) : WpT := fun sl cs R Rx => w sl cs (fun s c => isB s fun b => R b c) Rx
theorem jt_cmp {op : CmpOp} {ow : W2} (ho : JCmp X T op ow) (ha : JE X T W a wa) (hb : JE X T W b wb) (hm : behindInMarks op b = false := by first | exact nomark _ | rfl) : JT X T W (.Compare a [op] [b] pos) (wBl (wTwo wa wb ow)) :=
  weakT (pt_cmpR opAll ha hb hm) fun σ H Q ⟨ad, F, sl, cs, R, Rx, h0, hw, q, qx⟩ => ⟨ad, F, sl, cs, _, Rx, h0, hw, fun s1 c1 v H1 ad1 hw1 x1 h1 r1 => ⟨ad1, F, sl, c1, _, Rx, h1, hw1, fun s2 c2 v2 H2 ad2 hw2 x2 h2 r2 => by
    obtain ⟨s, c3, ⟨r, o1, o2⟩, hR⟩ := ho _ _ _ _ hw2
    obtain ⟨k, rfl, hR⟩ := isB_of hR
    refine ⟨r, o1, o2 ad2 F H2 v v2 _ h2.hc (r1.ext x2) r2 fun z H3 ad3 x3 k3 r3 => ?_⟩
    cases r3
    exact ⟨k, rfl, q k c3 H3 ad3 hR (x1.trans h1.hc (x2.trans h2.hc x3)) (h2.to x3 k3)⟩, qx.on x1 h1⟩, qx⟩
def wNotT (wt : WpT) : WpT := fun sl cs R Rx => wt sl cs (fun b c => R (!b) c) Rx
theorem jt_not (h : JT X T W a wt) : JT X T W (.UnaryOp .Not a pos) (wNotT wt) := weakT (pt_not h) fun σ H Q ⟨ad, F, sl, cs, R, Rx, h0, hw, q, qx⟩ => ⟨ad, F, sl, cs, _, Rx, h0, hw, fun b c1 H1 ad1 hw1 x1 h1 => q _ c1 H1 ad1 hw1 x1 h1, qx⟩
theorem JW.jt (h : JW X T W e wt) : JT X T W e wt := PW.pt h
theorem jw_and1 (h : JT X T W a wt) : JW X T W (.BoolOp .And [a] pos) wt := pw_and1 h
theorem jw_or1 (h : JT X T W a wt) : JW X T W (.BoolOp .Or [a] pos) wt := pw_or1 h
def wAndT (w1 w2 : WpT) : WpT := fun sl cs R Rx => w1 sl cs (fun k c => Br k (w2 sl c R Rx) (R false c)) Rx
def wOrT (w1 w2 : WpT) : WpT := fun sl cs R Rx => w1 sl cs (fun k c => Br k (R true c) (w2 sl c R Rx)) Rx
theorem jw_and (ha : JT X T W a wt1) (hb : JW X T W (.BoolOp .And (b :: rest) pos) wt2) : JW X T W (.BoolOp .And (a :: b :: rest) pos) (wAndT wt1 wt2) :=
  weakW (pw_and ha hb) fun σ H Q ⟨ad, F, sl, cs, R, Rx, h0, hw, q, qx⟩ => ⟨ad, F, sl, cs, _, Rx, h0, hw, fun k c1 H1 ad1 hw1 x1 h1 => by
    cases k with
    | true => exact iteT ⟨ad1, F, sl, c1, _, Rx, h1, hw1.t rfl, fun k c2 H2 ad2 hw2 x2 h2 => q k c2 H2 ad2 hw2 (x1.trans h1.hc x2) h2, qx.on x1 h1⟩
    | false => exact iteF (q false c1 H1 ad1 (hw1.f rfl) x1 h1), qx⟩
theorem jw_or (ha : JT X T W a wt1) (hb : JW X T W (.BoolOp .Or (b :: rest) pos) wt2) : JW X T W (.BoolOp .Or (a :: b :: rest) pos) (wOrT wt1 wt2) :=
  weakW (pw_or ha hb) fun σ H Q ⟨ad, F, sl, cs, R, Rx, h0, hw, q, qx⟩ => ⟨ad, F, sl, cs, _, Rx, h0, hw, fun k c1 H1 ad1 hw1 x1 h1 => by
    cases k with
    | false => exact iteF ⟨ad1, F, sl, c1, _, Rx, h1, hw1.f rfl, fun k c2 H2 ad2 hw2 x2 h2 => q k c2 H2 ad2 hw2 (x1.trans h1.hc x2) h2, qx.on x1 h1⟩
    | true => exact iteT (q true c1 H1 ad1 (hw1.t rfl) x1 h1), qx⟩
/-! ### and, or, not, if as values -/
theorem je_one {op} (h : JE X T W a w) : JE X T W (.BoolOp op [a] pos) w := pe_one h
def wAndV (w1 w2 : WpE) : WpE := fun sl cs R Rx => w1 sl cs (fun s c => isB s fun k => Br k (w2 sl c R Rx) (R (.dat (.bl false)) c)) Rx
def wOrV (w1 w2 : WpE) : WpE := fun sl cs R Rx => w1 sl cs (fun s c => isB s fun k => Br k (R (.dat (.bl true)) c) (w2 sl c R Rx)) Rx
theorem je_and (ha : JE X T W a wa) (hb : JE X T W (.BoolOp .And (b :: rest) pos) wb) : JE X T W (.BoolOp .And (a :: b :: rest) pos) (wAndV wa wb) :=
  weak (pe_and ha hb) fun σ H Q ⟨ad, F, sl, cs, R, Rx, h0, hw, q, qx⟩ => ⟨ad, F, sl, cs, _, Rx, h0, hw, fun s1 c1 v H1 ad1 hw1 x1 h1 r1 => by
    have hw2 := isB_of hw1
    clear hw1
    obtain ⟨k, e0, hw1⟩ := hw2
    subst e0
    cases r1
    refine ⟨k, rfl, ?_⟩
    cases k with
    | true => exact iteT ⟨ad1, F, sl, c1, _, Rx, h1, hw1.t rfl, fun s2 c2 v2 H2 ad2 hw2 x2 h2 r2 => q s2 c2 v2 H2 ad2 hw2 (x1.trans h1.hc x2) h2 r2, qx.on x1 h1⟩
    | false => exact iteF (q _ c1 _ H1 ad1 (hw1.f rfl) x1 h1 Rep.bl), qx⟩
theorem je_or (ha : JE X T W a wa) (hb : JE X T W (.BoolOp .Or (b :: rest) pos) wb) : JE X T W (.BoolOp .Or (a :: b :: rest) pos) (wOrV wa wb) :=
  weak (pe_or ha hb) fun σ H Q ⟨ad, F, sl, cs, R, Rx, h0, hw, q, qx⟩ => ⟨ad, F, sl, cs, _, Rx, h0, hw, fun s1 c1 v H1 ad1 hw1 x1 h1 r1 => by
    have hw2 := isB_of hw1
    clear hw1
    obtain ⟨k, e0, hw1⟩ := hw2
    subst e0
    cases r1
    refine ⟨k, rfl, ?_⟩
    cases k with
    | false => exact iteF ⟨ad1, F, sl, c1, _, Rx, h1, hw1.f rfl, fun s2 c2 v2 H2 ad2 hw2 x2 h2 r2 => q s2 c2 v2 H2 ad2 hw2 (x1.trans h1.hc x2) h2 r2, qx.on x1 h1⟩
    | true => exact iteT (q _ c1 _ H1 ad1 (hw1.t rfl) x1 h1 Rep.bl), qx⟩
def wNotV (w : WpE) : WpE := fun sl cs R Rx => w sl cs (fun s c => truW s c fun k => R (.dat (.bl (!k))) c) Rx
theorem je_not (ha : JE X T W a wa) : JE X T W (.UnaryOp .Not a pos) (wNotV wa) :=
  weak (pe_notT ha) fun σ H Q ⟨ad, F, sl, cs, R, Rx, h0, hw, q, qx⟩ => ⟨ad, F, sl, cs, _, Rx, h0, hw, fun s1 c1 v H1 ad1 hw1 x1 h1 r1 => by
    obtain ⟨k, tb, hR⟩ := truW_of (T := T) (K := X.K) hw1
    exact ⟨k, tb ad1 F H1 v h1.hc r1, q _ c1 _ H1 ad1 hR x1 h1 Rep.bl⟩, qx⟩
def wIf (wt : WpT) (wa wb : WpE) : WpE := fun sl cs R Rx => wt sl cs (fun k c => Br k (wa sl c R Rx) (wb sl c R Rx)) Rx
theorem je_if (hc : JT X T W c wt) (ha : JE X T W a wa) (hb : JE X T W b wb) : JE X T W (.IfExp c a b pos) (wIf wt wa wb) :=
  weak (pe_ifExp hc ha hb) fun σ H Q ⟨ad, F, sl, cs, R, Rx, h0, hw, q, qx⟩ => ⟨ad, F, sl, cs, _, Rx, h0, hw, fun k c1 H1 ad1 hw1 x1 h1 => by
    cases k with
    | true => exact iteT ⟨ad1, F, sl, c1, _, Rx, h1, hw1.t rfl, fun s2 c2 v2 H2 ad2 hw2 x2 h2 r2 => q s2 c2 v2 H2 ad2 hw2 (x1.trans h1.hc x2) h2 r2, qx.on x1 h1⟩
    | false => exact iteF ⟨ad1, F, sl, c1, _, Rx, h1, hw1.f rfl, fun s2 c2 v2 H2 ad2 hw2 x2 h2 r2 => q s2 c2 v2 H2 ad2 hw2 (x1.trans h1.hc x2) h2 r2, qx.on x1 h1⟩, qx⟩
/-! ### slices -/
abbrev WpO := Sls → List Cell → (Option Int → List Cell → Prop) → RX → Prop
def tJO (T : Tab) (K : PySem.W.Frag) (W : WX) (w : WpO) : TO := fun σ H Q => ∃ ad F sl cs R Rx, Hold T K ⟨sl, cs⟩ ad F σ H ∧ w sl cs R Rx ∧ (∀ o c H' ad', R o c → Ext ad F H ad' H' → Hold T K ⟨sl, c⟩ ad' F σ H' → Q o H') ∧ Raz T K W σ ad F H sl Rx
def JO (X : Cx) (T : Tab) (W : WX) (e : Option Expr) (w : WpO) : Prop := PO X e (tJO T X.K W w)
def wO0 : WpO := fun _ cs R _ => R none cs
def wO1 (w : WpE) : WpO := fun sl cs R Rx => w sl cs (fun s c => match s with
  | .dat (.int i) => R (some i) c
  | _ => False) Rx
theorem jo_none : JO X T W none wO0 := weakO po_none fun σ H Q ⟨ad, F, sl, cs, R, Rx, h0, hw, q, qx⟩ => q none cs H ad hw .refl h0
theorem jo_some (he : JE X T W e w) : JO X T W (some e) (wO1 w) := weakO (po_some he) fun σ H Q ⟨ad, F, sl, cs, R, Rx, h0, hw, q, qx⟩ => ⟨ad, F, sl, cs, _, Rx, h0, hw, fun s1 c1 v H1 ad1 hw1 x1 h1 r1 => by
    split at hw1
    · cases r1
      exact ⟨_, rfl, q _ c1 H1 ad1 hw1 x1 h1⟩
    · exact hw1.elim, qx⟩
theorem slAll : SlR X (fun x l u H Q => ∃ r, SlR X r ∧ r x l u H Q) := fun pins s σ H x v vl vu l u sl Q I rx h1 h2 h3 ⟨r, o, h⟩ => o pins s σ H x v vl vu l u sl Q I rx h1 h2 h3 h
def wSlc (wa : WpE) (wl wu : WpO) : WpE := fun sl cs R Rx => wa sl cs (fun s1 c1 => wl sl c1 (fun l c2 => wu sl c2 (fun u c3 => slcW s1 l u c3 R) Rx) Rx) Rx
theorem slcW_of {s1 : Sl} {l u : Option Int} {cs : List Cell} {R : RV} (h : slcW s1 l u cs R) : ∃ s, SlcD X T s1 l u cs s cs ∧ R s cs := by
  unfold slcW at h
  split at h
  · exact ⟨_, slc_T, h⟩
  · obtain ⟨ds, h1, h⟩ := wL_of h
    exact ⟨_, slc_L h1, h⟩
theorem je_slice {wl wu : WpO} (ha : JE X T W e wa) (hl : JO X T W lo wl) (hu : JO X T W hi wu) : JE X T W (.Subscript e (.Slice lo hi none p2) pos) (wSlc wa wl wu) :=
  weak (pe_slice slAll ha hl hu) fun σ H Q ⟨ad, F, sl, cs, R, Rx, h0, hw, q, qx⟩ => ⟨ad, F, sl, cs, _, Rx, h0, hw, fun s1 c1 v H1 ad1 hw1 x1 h1 r1 => ⟨ad1, F, sl, c1, _, Rx, h1, hw1, fun l c2 H2 ad2 hw2 x2 h2 => ⟨ad2, F, sl, c2, _, Rx, h2, hw2, fun u c3 H3 ad3 hw3 x3 h3 => by
    obtain ⟨s, ⟨r, o1, o2⟩, hR⟩ := slcW_of (X := X) (T := T) hw3
    exact ⟨r, o1, o2 ad3 F H3 v Q h3.hc ((r1.ext x2).ext x3) fun z H4 ad4 x4 k4 r4 => q s c3 z H4 ad4 hR (x1.trans h1.hc (x2.trans h2.hc (x3.trans h3.hc x4))) (h3.to x4 k4) r4⟩, (qx.on x1 h1).on x2 h2⟩, qx.on x1 h1⟩, qx⟩
/-! ### calls of builtins -/
def wCb (wA : WpA) (cw : WC) : WpE := fun sl cs R Rx => wA sl cs (fun ss c1 => cw ss c1 R) Rx
theorem cb_then {x : Str} {cw : WC} {u : Value} (hJ : JCall X T x cw) (hu : bootBuiltins x = some u) {σ : St} {H : Hp} {Q : VK} (h : tJ T X.K W (wCb wA cw) σ H Q) : tCB (fun xs H Q => ∃ r, CallR X u r ∧ r xs H Q) (tJA T X.K W wA) σ H Q := by
  obtain ⟨ad, F, sl, cs, R, Rx, h0, hw, q, qx⟩ := h
  refine ⟨ad, F, sl, cs, _, Rx, h0, hw, fun ss c1 vs H1 ad1 hw1 x1 h1 r1 => ?_, qx⟩
  obtain ⟨s, c2, ⟨u', r, e1, _, o1, o2⟩, hR⟩ := hJ.run _ _ _ hw1
  rw [hu] at e1
  cases e1
  exact ⟨r, o1, o2 ad1 F H1 vs Q h1.hc r1 fun z H3 ad3 x3 k3 r3 => q s c2 z H3 ad3 hR (x1.trans h1.hc x3) (h1.to x3 k3) r3⟩
theorem je_cb {x : Str} {cw : WC} (hm : X.mg x = none) (hJ : JCall X T x cw) (ha : JA X T W (e :: es) wA) (hg : Gl X x := by rfl) (hn : x ≠ "__name__" := by decide) (hdb : (x == ("__debug__" : Str)) = false := by decide)
    (he : starEach (e :: es) X.env = (false, eval e X.env) :: starEach es X.env := by rfl) (hpl : (backTo pos (starEach es X.env)).any (·.1) = false := by rfl) : JE X T W (.Call (.Name x p) (e :: es) [] pos) (wCb wA cw) := by
  obtain ⟨u, hv, ⟨id, rfl⟩ | ⟨id, rfl⟩⟩ := hJ.bo
  · exact weak (pe_callB callAll hg hm hv ha hn hdb he hpl) fun σ H Q z => cb_then hJ hv z
  · exact weak (pe_callTy callAll hg hm hv ha hn hdb he hpl) fun σ H Q z => cb_then hJ hv z
end
end Dl

namespace Dl
open PySem L2
/-- one of two readings -/
theorem je_alt {X : Cx} {T : Tab} {W : WX} {e : Expr} {v w : WpE} (h1 : JE X T W e v) (h2 : JE X T W e w) : JE X T W e (fun sl cs R Rx => v sl cs R Rx ∨ w sl cs R Rx) := ⟨fun pins s σ H Q I ⟨ad, F, sl, cs, R, Rx, h0, hw, q, qx⟩ => hw.elim (fun hw => h1.run pins s σ H Q I ⟨ad, F, sl, cs, R, Rx, h0, hw, q, qx⟩) fun hw => h2.run pins s σ H Q I ⟨ad, F, sl, cs, R, Rx, h0, hw, q, qx⟩⟩
/-! ### calls of defs -/
def cells1 : List Sl → Option (Option Nat)
  | [] => some none
  | .dat _ :: r => cells1 r
  | .cel k :: r => match cells1 r with
    | some none => some (some k)
    | some (some j) => if j == k then some (some k) else none
    | none => none
theorem cells1_none : ∀ {ss : List Sl}, cells1 ss = some none → ∃ ds : List D, ss = ds.map Sl.dat
  | [], _ => ⟨[], rfl⟩
  | .dat d :: r, h => let ⟨ds, e⟩ := cells1_none (ss := r) h; ⟨d :: ds, by rw [e]; rfl⟩
  | .cel k :: r, h => by
    unfold cells1 at h
    split at h
    · cases h
    · split at h <;> cases h
    · cases h
theorem cells1_dat (k : Nat) : ∀ {ss : List Sl}, cells1 ss = some none → ss.all (onlyCell k) = true
  | [], _ => rfl
  | .dat d :: r, h => by rw [List.all_cons, cells1_dat k (ss := r) h]; rfl
  | .cel k :: r, h => by
    unfold cells1 at h
    split at h
    · cases h
    · split at h <;> cases h
    · cases h
theorem cells1_some {k : Nat} : ∀ {ss : List Sl}, cells1 ss = some (some k) → ss.all (onlyCell k) = true
  | .dat d :: r, h => by rw [List.all_cons, cells1_some (ss := r) h]; rfl
  | .cel j :: r, h => by
    rw [List.all_cons]
    unfold cells1 at h
    split at h
    · rename_i e
      cases h
      rw [cells1_dat k e]
      simp [onlyCell]
    · rename_i m e
      split at h
      · rename_i q
        cases h
        have q := beq_iff_eq.mp q
        subst q
        rw [cells1_some (ss := r) e]
        simp [onlyCell]
      · cases h
    · cases h
/-- what a call leaves: data, or a new cell -/
def aft (s : Sl) (cs0 cs : List Cell) (R : RV) : Prop := match s, cs0 with
  | .dat d, [] => R (.dat d) cs
  | .cel 0, [c0] => R (.cel cs.length) (cs ++ [c0])
  | _, _ => False
/-- a call by its contract: no cell is handed in, or one -/
def callW (c : Ct) (ss : List Sl) (cs : List Cell) (R : RV) : Prop := match cells1 ss with
  | some none => ∃ s cs0, c ss [] s cs0 ∧ aft s cs0 cs R
  | some (some k) => match cs[k]? with
    | some c0 => ∃ d c1, c (ss.map low) [c0] (.dat d) [c1] ∧ R (.dat d) (cs.set k c1)
    | none => False
  | none => False
def callXW (c : Ct) (cx : CtX) (ss : List Sl) (cs : List Cell) (R : RV) (Rx : RX) : Prop := callW c ss cs R ∨ (cells1 ss = some none ∧ ∃ x, cx ss [] x [] ∧ Rx x cs)
section
variable {X : Cx} {T : Tab} {W : WX} {a b e o : Expr} {es : List Expr} {kws : List Keyword} {pos p apos : Pos} {wa wb w wo : WpE} {wA wB : WpA} {c : Ct} {cx : CtX} {k : Nat} {f : Addr} {fd : FuncData} {ps ks : List Str} {y m : Str} {C g : Addr} {fn : List Str} {cn : Nat}
theorem callW_then {K : PySem.W.Frag} {ad : List Addr} {F : Addr → Prop} {H : Hp} {cs : List Cell} {vs : List V} {ss : List Sl} {R : RV} {Q : VK} {E : XK} (h : HoldC T K ad F H cs) (r : SlReps T K ad F H vs ss) (hw : callW c ss cs R)
    (q : ∀ s c' v H' ad', R s c' → Ext ad F H ad' H' → HoldC T K ad' F H' c' → SlRep T K ad' F H' v s → Q v H') : spC T K c vs H Q E := by
  unfold callW at hw
  split at hw
  · rename_i q1
    obtain ⟨ds, rfl⟩ := cells1_none q1
    obtain ⟨s, cs0, hc, hw⟩ := hw
    unfold aft at hw
    split at hw
    · exact spC0 hc h r fun v H' x2 c2 r2 => q _ _ v H' ad hw x2 c2 r2
    · exact spCN hc h r fun v H' a x2 c2 e => q _ _ v H' _ hw x2 c2 ⟨a, by rw [← h.ln, List.getElem?_append_right (Nat.le_refl _), Nat.sub_self]; rfl, e⟩
    · exact hw.elim
  · rename_i j q1
    split at hw
    · rename_i c0 e0
      obtain ⟨d, cc, hc, hw⟩ := hw
      exact spC1 e0 (cells1_some q1) hc h r fun v H' x2 c2 r2 => q _ _ v H' ad hw x2 c2 r2
    · exact hw.elim
  · exact hw.elim
theorem callXW_then {K : PySem.W.Frag} {ad : List Addr} {F : Addr → Prop} {H : Hp} {cs : List Cell} {vs : List V} {ss : List Sl} {R : RV} {Rx : RX} {Q : VK} {E : XK} (h : HoldC T K ad F H cs) (r : SlReps T K ad F H vs ss) (hw : callXW c cx ss cs R Rx)
    (q : ∀ s c' v H' ad', R s c' → Ext ad F H ad' H' → HoldC T K ad' F H' c' → SlRep T K ad' F H' v s → Q v H') (qx : ∀ x c' cls d H' ad', Rx x c' → Ext ad F H ad' H' → HoldC T K ad' F H' c' → ExRep T K (Mm ad' F) H' cls d x → E cls d H') : spX T K c cx vs H Q E := by
  rcases hw with hw | ⟨q1, x, hx, hw⟩
  · exact .inl (callW_then h r hw q)
  · obtain ⟨ds, rfl⟩ := cells1_none q1
    exact spX_at hx h r fun cls d H' x2 c2 er => qx x cs cls d H' ad hw x2 c2 er
def wFn (c : Ct) (wA : WpA) : WpE := fun sl cs R Rx => wA sl cs (fun ss c1 => callW c ss c1 R) Rx
def wFnX (c : Ct) (cx : CtX) (wA : WpA) : WpE := fun sl cs R Rx => wA sl cs (fun ss c1 => callXW c cx ss c1 R Rx) Rx
theorem je_call (G : FnOk X.prog X.w X.K X.mg X.base CX0 k f fd ps (spC T X.K c)) (hr : Room k X.A) (hm : X.mg y = some (.ref f)) (hk : PySem.W.keepIn X.K (.ref f) = true) (hb : Binds X.K fd ps []) (ha : JA X T W (e :: es) wA) (hg : Gl X y := by rfl) (hdb : (y == ("__debug__" : Str)) = false := by decide)
    (he : starEach (e :: es) X.env = (false, eval e X.env) :: starEach es X.env := by rfl) (hpl : (backTo pos (starEach es X.env)).any (·.1) = false := by rfl) : JE X T W (.Call (.Name y p) (e :: es) [] pos) (wFn c wA) :=
  weak (pe_call G hr hg hm hk hb .nil pass0 ha hdb he hpl) fun σ H Q ⟨ad, F, sl, cs, R, Rx, h0, hw, q, qx⟩ => ⟨ad, F, sl, cs, _, Rx, h0, hw, fun ss c1 vs H1 ad1 hw1 x1 h1 r1 => by
    show spC T X.K c (vs ++ []) H1 Q E0
    rw [List.append_nil]
    exact callW_then h1.hc r1 hw1 fun s c' v H' ad' hR x2 k2 r2 => q s c' v H' ad' hR (x1.trans h1.hc x2) (h1.to x2 k2) r2, qx⟩
theorem je_callX (tk : Takes X W) (G : FnOk X.prog X.w X.K X.mg X.base (L2.CX X.prog X.w) k f fd ps (spX T X.K c cx)) (hr : Room k X.A) (hm : X.mg y = some (.ref f)) (hk : PySem.W.keepIn X.K (.ref f) = true) (hb : Binds X.K fd ps []) (ha : JA X T W (e :: es) wA) (hg : Gl X y := by rfl) (hdb : (y == ("__debug__" : Str)) = false := by decide)
    (he : starEach (e :: es) X.env = (false, eval e X.env) :: starEach es X.env := by rfl) (hpl : (backTo pos (starEach es X.env)).any (·.1) = false := by rfl) : JE X T W (.Call (.Name y p) (e :: es) [] pos) (wFnX c cx wA) :=
  weak (pe_callS (E := WE W) G hr hg hm hk hb (passAt tk) ha hdb he hpl) fun σ H Q ⟨ad, F, sl, cs, R, Rx, h0, hw, q, qx⟩ => ⟨ad, F, sl, cs, _, Rx, h0, hw, fun ss c1 vs H1 ad1 hw1 x1 h1 r1 =>
    callXW_then h1.hc r1 hw1 (fun s c' v H' ad' hR x2 k2 r2 => q s c' v H' ad' hR (x1.trans h1.hc x2) (h1.to x2 k2) r2) (fun x c' cls d H' ad' hR x2 k2 er => qx x c' cls d H' ad' hR (x1.trans h1.hc x2) (h1.to x2 k2) er), qx⟩
/-! ### attributes -/
/-- the instance of class cn, and its attribute -/
def fldW (cn : Nat) (fn : List Str) (m : Str) (s : Sl) (cs : List Cell) (k : D → Prop) : Prop := match s with
  | .dat (.obj n ds) => n = cn ∧ match fIdx fn m with
    | some j => match ds[j]? with
      | some d => k d
      | none => False
    | none => False
  | .cel i => match cs[i]? with
    | some (.ins n fs) => n = cn ∧ match fs.lookup m with
      | some d => k d
      | none => False
    | _ => False
  | _ => False
theorem look_zip {K : PySem.W.Frag} {M : Addr → Prop} {H : Hp} {d : D} : ∀ {fs : List (Str × D)} {vs : List V}, fs.lookup m = some d → Reps T K M H vs (fs.map (·.2)) → ∃ v, ((fs.map (·.1)).zip vs).lookup m = some v ∧ Rep T K M H v d
  | [], _, h, _ => nomatch h
  | (g, d') :: fs, _, h, .cons (v := v) (vs := vs) r rs => by
    rw [List.lookup_cons] at h
    show ∃ w, ((g, v) :: (fs.map (·.1)).zip vs).lookup m = some w ∧ _
    rw [List.lookup_cons]
    cases q : m == g with
    | true =>
      rw [q] at h
      cases h
      exact ⟨v, rfl, r⟩
    | false =>
      rw [q] at h
      exact look_zip h rs
def wFld (cn : Nat) (fn : List Str) (m : Str) (w : WpE) : WpE := fun sl cs R Rx => w sl cs (fun s c => fldW cn fn m s c fun d => R (.dat d) c) Rx
theorem je_fld (hT : T cn = some (C, fn)) (hc : Cls X.K C) (hn : NoAttr X.K C m) (he : JE X T W e w) (hb : attributeBase e m X.env (eval e X.env) = eval e X.env := by rfl) : JE X T W (.Attribute e m pos) (wFld cn fn m w) :=
  weak (pe_fld he hb) fun σ H Q ⟨ad, F, sl, cs, R, Rx, h0, hw, q, qx⟩ => ⟨ad, F, sl, cs, _, Rx, h0, hw, fun s c1 v H1 ad1 hw1 x1 h1 r1 => by
    unfold fldW at hw1
    split at hw1
    · obtain ⟨rfl, hw1⟩ := hw1
      split at hw1
      · rename_i j hf
        split at hw1
        · rename_i d hd
          cases r1 with
          | @obj a C' dx _ fn' vs _ ht na e1 hl r =>
            rw [hT] at ht
            cases ht
            obtain ⟨w, g1, g2⟩ := fIdx_look hf hl
            obtain ⟨d', g3, g4⟩ := r.getV g1
            rw [hd] at g3
            cases g3
            exact ⟨a, C, dx, _, w, rfl, e1, hc, hn, g2, q _ c1 w H1 ad1 hw1 x1 h1 g4⟩
        · exact hw1.elim
      · exact hw1.elim
    · split at hw1
      · rename_i i _ n fs e0
        obtain ⟨rfl, hw1⟩ := hw1
        split at hw1
        · rename_i d hd
          obtain ⟨a, ha, rfl⟩ := r1
          obtain ⟨C', fn', dx, vs, ht, e1, hl, rr⟩ := h1.hc.ce i a _ ha e0
          rw [hT] at ht
          cases ht
          obtain ⟨v, g1, g2⟩ := look_zip hd rr
          exact ⟨a, C, dx, _, v, rfl, e1, hc, hn, g1, q _ c1 v H1 ad1 hw1 x1 h1 g2⟩
        · exact hw1.elim
      · exact hw1.elim
    · exact hw1.elim, qx⟩
/-! ### methods -/
/-- an instance of class cn that has no attribute m of its own -/
def recvW (cn : Nat) (m : Str) (s : Sl) (cs : List Cell) : Prop := match s with
  | .dat (.obj n _) => n = cn
  | .cel i => match cs[i]? with
    | some (.ins n fs) => n = cn ∧ fIdx (fs.map (·.1)) m = none
    | _ => False
  | _ => False
theorem recvW_of {K : PySem.W.Frag} {ad : List Addr} {F : Addr → Prop} {H : Hp} {cs : List Cell} {v : V} {s : Sl} (hT : T cn = some (C, fn)) (hf : fIdx fn m = none) (h : HoldC T K ad F H cs) (r : SlRep T K ad F H v s) (hw : recvW cn m s cs) : ∃ a dx fs, v = .ref a ∧ H a = some (.ins C dx fs) ∧ fs.lookup m = none := by
  unfold recvW at hw
  split at hw
  · subst hw
    cases r with
    | @obj a C' dx _ fn' vs _ ht na e1 hl r =>
      rw [hT] at ht
      cases ht
      exact ⟨a, dx, _, rfl, e1, fIdx_none hf⟩
  · split at hw
    · rename_i i _ n fs e0
      obtain ⟨rfl, hw⟩ := hw
      obtain ⟨a, ha, rfl⟩ := r
      obtain ⟨C', fn', dx, vs, ht, e1, hl, rr⟩ := h.ce i a _ ha e0
      rw [hT] at ht
      cases ht
      exact ⟨a, dx, _, rfl, e1, fIdx_none hw⟩
    · exact hw.elim
  · exact hw.elim
def wMeth (cn : Nat) (m : Str) (c : Ct) (wo : WpE) (wA : WpA) : WpE := fun sl cs R Rx => wo sl cs (fun s c1 => recvW cn m s c1 ∧ wA sl c1 (fun ss c2 => callW c (s :: ss) c2 R) Rx) Rx
theorem je_meth {pl : Sem Bool} (hT : T cn = some (C, fn)) (hc : Cls X.K C) (hm : Meth X.K C m g) (hf : fIdx fn m = none) (G : FnOk X.prog X.w X.K X.mg X.base CX0 k g fd ps (spC T X.K c)) (hr : Room k X.A) (hb : Binds X.K fd ps [])
    (he : JE X T W o wo) (ha : JA X T W (e :: es) wA)
    (hst : starEach (e :: es) X.env = (false, eval e X.env) :: starEach es X.env := by rfl) (hpl : (backTo pos (starEach es X.env)).any (·.1) = false := by rfl)
    (ht : eval (.Call (.Attribute o m apos) (e :: es) [] pos) X.env = (do
      let ov ← eval o X.env
      standAt apos.atName
      let (f, first) ← holding [ov] (getMethod ov m pl)
      callWith pos f first (backTo pos (starEach (e :: es) X.env)) (backToKw pos (keywordEach [] X.env))) := by rfl) : JE X T W (.Call (.Attribute o m apos) (e :: es) [] pos) (wMeth cn m c wo wA) :=
  weak (pe_meth (pl := pl) he hc hm G hr hb .nil pass0 ha hst hpl ht) fun σ H Q ⟨ad, F, sl, cs, R, Rx, h0, hw, q, qx⟩ => ⟨ad, F, sl, cs, _, Rx, h0, hw, fun s c1 v H1 ad1 hw1 x1 h1 r1 => by
    obtain ⟨a, dx, fs, rfl, e1, e2⟩ := recvW_of hT hf h1.hc r1 hw1.1
    refine ⟨a, dx, fs, rfl, e1, e2, ad1, F, sl, c1, _, Rx, h1, hw1.2, fun ss c2 vs H2 ad2 hw2 x2 h2 r2 => ?_, qx.on x1 h1⟩
    show spC T X.K c (V.ref a :: (vs ++ [])) H2 Q E0
    rw [List.append_nil]
    exact callW_then (ss := s :: ss) h2.hc ⟨r1.ext x2, r2⟩ hw2 fun s' c' v H' ad' hR x3 k3 r3 => q s' c' v H' ad' hR (x1.trans h1.hc (x2.trans h2.hc x3)) (h2.to x3 k3) r3, qx⟩
def wMeth0 (cn : Nat) (m : Str) (c : Ct) (wo : WpE) : WpE := fun sl cs R Rx => wo sl cs (fun s c1 => recvW cn m s c1 ∧ callW c [s] c1 R) Rx
theorem je_meth0 {pl : Sem Bool} (hT : T cn = some (C, fn)) (hc : Cls X.K C) (hm : Meth X.K C m g) (hf : fIdx fn m = none) (G : FnOk X.prog X.w X.K X.mg X.base CX0 k g fd ps (spC T X.K c)) (hr : Room k X.A) (hb : Binds X.K fd ps [])
    (he : JE X T W o wo)
    (ht : eval (.Call (.Attribute o m apos) [] [] pos) X.env = (do
      let ov ← eval o X.env
      standAt apos.atName
      let (f, first) ← holding [ov] (getMethod ov m pl)
      callWith pos f first (backTo pos (starEach [] X.env)) (backToKw pos (keywordEach [] X.env))) := by rfl) : JE X T W (.Call (.Attribute o m apos) [] [] pos) (wMeth0 cn m c wo) :=
  weak (pe_meth0 (pl := pl) he hc hm G hr hb .nil pass0 ht) fun σ H Q ⟨ad, F, sl, cs, R, Rx, h0, hw, q, qx⟩ => ⟨ad, F, sl, cs, _, Rx, h0, hw, fun s c1 v H1 ad1 hw1 x1 h1 r1 => by
    obtain ⟨a, dx, fs, rfl, e1, e2⟩ := recvW_of hT hf h1.hc r1 hw1.1
    refine ⟨a, dx, fs, rfl, e1, e2, ?_⟩
    exact callW_then (E := E0) (ss := [s]) h1.hc ⟨r1, trivial⟩ hw1.2 fun s' c' v H' ad' hR x3 k3 r3 => q s' c' v H' ad' hR (x1.trans h1.hc x3) (h1.to x3 k3) r3, qx⟩
/-- a method that may raise -/
def wMethX (cn : Nat) (m : Str) (c : Ct) (cx : CtX) (wo : WpE) (wA : WpA) : WpE := fun sl cs R Rx => wo sl cs (fun s c1 => recvW cn m s c1 ∧ wA sl c1 (fun ss c2 => callXW c cx (s :: ss) c2 R Rx) Rx) Rx
theorem je_methX (tk : Takes X W) {pl : Sem Bool} (hT : T cn = some (C, fn)) (hc : Cls X.K C) (hm : Meth X.K C m g) (hf : fIdx fn m = none) (G : FnOk X.prog X.w X.K X.mg X.base (L2.CX X.prog X.w) k g fd ps (spX T X.K c cx)) (hr : Room k X.A) (hb : Binds X.K fd ps [])
    (he : JE X T W o wo) (ha : JA X T W (e :: es) wA)
    (hst : starEach (e :: es) X.env = (false, eval e X.env) :: starEach es X.env := by rfl) (hpl : (backTo pos (starEach es X.env)).any (·.1) = false := by rfl)
    (ht : eval (.Call (.Attribute o m apos) (e :: es) [] pos) X.env = (eval o X.env >>= fun ov => standAt apos.atName >>= fun _ => holding [ov] (getMethod ov m pl) >>= fun fb => callWith pos fb.1 fb.2 (backTo pos (starEach (e :: es) X.env)) (backToKw pos (keywordEach [] X.env))) := by rfl) : JE X T W (.Call (.Attribute o m apos) (e :: es) [] pos) (wMethX cn m c cx wo wA) :=
  weak (pe_methS (pl := pl) (E := WE W) he hc hm G hr hb (passAt tk) ha hst hpl ht) fun σ H Q ⟨ad, F, sl, cs, R, Rx, h0, hw, q, qx⟩ => ⟨ad, F, sl, cs, _, Rx, h0, hw, fun s c1 v H1 ad1 hw1 x1 h1 r1 => by
    obtain ⟨a, dx, fs, rfl, e1, e2⟩ := recvW_of hT hf h1.hc r1 hw1.1
    refine ⟨a, dx, fs, rfl, e1, e2, ad1, F, sl, c1, _, Rx, h1, hw1.2, fun ss c2 vs H2 ad2 hw2 x2 h2 r2 => ?_, qx.on x1 h1⟩
    exact callXW_then (ss := s :: ss) h2.hc ⟨r1.ext x2, r2⟩ hw2 (fun s' c' v H' ad' hR x3 k3 r3 => q s' c' v H' ad' hR (x1.trans h1.hc (x2.trans h2.hc x3)) (h2.to x3 k3) r3) (fun x c' cls d H' ad' hR x3 k3 er => qx x c' cls d H' ad' hR (x1.trans h1.hc (x2.trans h2.hc x3)) (h2.to x3 k3) er), qx⟩
/-- a property -/
def instW (cn : Nat) (s : Sl) (cs : List Cell) : Prop := match s with
  | .dat (.obj n _) => n = cn
  | .cel i => match cs[i]? with
    | some (.ins n fs) => n = cn
    | _ => False
  | _ => False
theorem instW_of {K : PySem.W.Frag} {ad : List Addr} {F : Addr → Prop} {H : Hp} {cs : List Cell} {v : V} {s : Sl} (hT : T cn = some (C, fn)) (h : HoldC T K ad F H cs) (r : SlRep T K ad F H v s) (hw : instW cn s cs) : ∃ a dx fs, v = .ref a ∧ H a = some (.ins C dx fs) := by
  unfold instW at hw
  split at hw
  · subst hw
    cases r with
    | @obj a C' dx _ fn' vs _ ht na e1 hl r =>
      rw [hT] at ht
      cases ht
      exact ⟨a, dx, _, rfl, e1⟩
  · split at hw
    · rename_i i _ n fs e0
      subst hw
      obtain ⟨a, ha, rfl⟩ := r
      obtain ⟨C', fn', dx, vs, ht, e1, hl, rr⟩ := h.ce i a _ ha e0
      rw [hT] at ht
      cases ht
      exact ⟨a, dx, _, rfl, e1⟩
    · exact hw.elim
  · exact hw.elim
def wPro (cn : Nat) (c : Ct) (w : WpE) : WpE := fun sl cs R Rx => w sl cs (fun s c1 => instW cn s c1 ∧ callW c [s] c1 R) Rx
theorem je_prop {pp : Addr} (hT : T cn = some (C, fn)) (hc : Cls X.K C) (hp : PropOf X.K C m pp g) (G : FnOk X.prog X.w X.K X.mg X.base CX0 k g fd ps (spC T X.K c)) (hr : Room (k + 1) X.A) (hb : Binds X.K fd ps []) (he : JE X T W e w) (hab : attributeBase e m X.env (eval e X.env) = eval e X.env := by rfl) :
    JE X T W (.Attribute e m pos) (wPro cn c w) :=
  weak (pe_prop he hc hp G hr hb .nil pass0 hab) fun σ H Q ⟨ad, F, sl, cs, R, Rx, h0, hw, q, qx⟩ => ⟨ad, F, sl, cs, _, Rx, h0, hw, fun s c1 v H1 ad1 hw1 x1 h1 r1 => by
    obtain ⟨a, dx, fs, rfl, e1⟩ := instW_of hT h1.hc r1 hw1.1
    refine ⟨a, dx, fs, rfl, e1, ?_⟩
    exact callW_then (E := E0) (ss := [s]) h1.hc ⟨r1, trivial⟩ hw1.2 fun s' c' v H' ad' hR x3 k3 r3 => q s' c' v H' ad' hR (x1.trans h1.hc x3) (h1.to x3 k3) r3, qx⟩
/-! ### new instances that stay as they are made -/
def makeW (cn : Nat) (fn : List Str) (c : Ct) (args : List D) (cs : List Cell) (R : RV) : Prop := ∃ ds : List D, c (.cel 0 :: args.map Sl.dat) [.ins cn []] (.dat .non) [.ins cn (fn.zip ds)] ∧ ds.length = fn.length ∧ R (.dat (.obj cn ds)) cs
def wMake (cn : Nat) (fn : List Str) (c : Ct) (wA : WpA) : WpE := fun sl cs R Rx => wA sl cs (fun ss c1 => wDats ss fun vs => makeW cn fn c vs c1 R) Rx
theorem je_make (hT : T cn = some (C, fn)) (M : Mk X.K C g) (G : FnOk X.prog X.w X.K X.mg X.base CX0 k g fd ps (spC T X.K c)) (hr : Room (k + 1) X.A) (hm : X.mg y = some (.ref C)) (hb : Binds X.K fd ps []) (ha : JA X T W (e :: es) wA) (hg : Gl X y := by rfl) (hdb : (y == ("__debug__" : Str)) = false := by decide)
    (he : starEach (e :: es) X.env = (false, eval e X.env) :: starEach es X.env := by rfl) (hpl : (backTo pos (starEach es X.env)).any (·.1) = false := by rfl) : JE X T W (.Call (.Name y p) (e :: es) [] pos) (wMake cn fn c wA) :=
  weak (pe_make M G hr hg hm hb .nil pass0 ha hdb he hpl) fun σ H Q ⟨ad, F, sl, cs, R, Rx, h0, hw, q, qx⟩ => ⟨ad, F, sl, cs, _, Rx, h0, hw, fun ss c1 ws H1 ad1 hw1 x1 h1 r1 => by
    obtain ⟨args, rfl, ds, hq, hl, hR⟩ := wDats_of hw1
    intro x dx hx hdx ne
    show spC T X.K c (V.ref x :: (ws ++ [])) _ _ E0
    rw [List.append_nil]
    exact mk_then hT h1.hc r1.dats hx hdx ne hq hl fun H' x3 c3 r3 => q _ c1 (.ref x) H' ad1 hR (x1.trans h1.hc x3) (h1.to x3 c3) r3, qx⟩
/-! ### keywords -/
def JK (X : Cx) (T : Tab) (W : WX) (kws : List Keyword) (w : WpA) : Prop := PK X kws (tJA T X.K W w)
theorem jk_nil : JK X T W [] wNil := weakK pk_nil fun σ H Q ⟨ad, F, sl, cs, R, Rx, h0, hw, q, qx⟩ => q [] cs [] H ad hw .refl h0 trivial
theorem jk_cons {nm : Option Str} {kpos : Pos} (ha : JE X T W e w) (hr : JK X T W kws wA) : JK X T W (⟨nm, e, kpos⟩ :: kws) (wCons w wA) :=
  weakK (pk_cons ha hr) fun σ H Q ⟨ad, F, sl, cs, R, Rx, h0, hw, q, qx⟩ => ⟨ad, F, sl, cs, _, Rx, h0, hw, fun s1 c1 v H1 ad1 hw1 x1 h1 r1 => ⟨ad1, F, sl, c1, _, Rx, h1, hw1, fun ss c2 vs H2 ad2 hw2 x2 h2 r2 => q _ c2 _ H2 ad2 hw2 (x1.trans h1.hc x2) h2 ⟨r1.ext x2, r2⟩, qx.on x1 h1⟩, qx⟩
def wMakeK (cn : Nat) (fn : List Str) (c : Ct) (pn kn : Nat) (fu : List D → List D → List D) (wA wK : WpA) : WpE := fun sl cs R Rx => wA sl cs (fun ss c1 => wDats ss fun vs => wK sl c1 (fun zz c2 => wDats zz fun zs => vs.length = pn ∧ zs.length = kn ∧ makeW cn fn c (fu vs zs) c2 R) Rx) Rx
theorem je_makeK {pn : Nat} {gV : List V → List V → List V} {fu : List D → List D → List D} {wK : WpA} (hT : T cn = some (C, fn)) (M : Mk X.K C g) (G : FnOk X.prog X.w X.K X.mg X.base CX0 k g fd ps (spC T X.K c)) (hr : Room (k + 1) X.A) (hm : X.mg y = some (.ref C)) (hb : ∃ gg, KBn X.K fd ps (pn + 1) ks gg gV)
    (hp : ∀ vs zs : List D, vs.length = pn → zs.length = ks.length → Put X.K gV vs zs (fu vs zs))
    (ha : JA X T W (e :: es) wA) (hkw : JK X T W kws wK) (hg : Gl X y := by rfl)
    (hall : (backToKw pos (keywordEach kws X.env)).all (·.1.isSome) = true := by rfl) (hks : (backToKw pos (keywordEach kws X.env)).filterMap (·.1) = ks := by rfl) (hdb : (y == ("__debug__" : Str)) = false := by decide)
    (he : starEach (e :: es) X.env = (false, eval e X.env) :: starEach es X.env := by rfl) (hpl : ((backTo pos (starEach (e :: es) X.env)).any (·.1) || (backToKw pos (keywordEach kws X.env)).any (·.1.isNone)) = false := by rfl) :
    JE X T W (.Call (.Name y p) (e :: es) kws pos) (wMakeK cn fn c pn ks.length fu wA wK) := by
  obtain ⟨gg, hb⟩ := hb
  exact weak (pe_makeK M G hr hg hm hb pass0 ha hkw hall hks hdb he hpl) fun σ H Q ⟨ad, F, sl, cs, R, Rx, h0, hw, q, qx⟩ => ⟨ad, F, sl, cs, _, Rx, h0, hw, fun ss c1 ws H1 ad1 hw1 x1 h1 r1 => by
    have hw1' := wDats_of hw1
    clear hw1
    obtain ⟨args, e0, hw1⟩ := hw1'
    subst e0
    refine ⟨ad1, F, sl, c1, _, Rx, h1, hw1, fun zz c2 zs H2 ad2 hw2 x2 h2 r2 => ?_, qx.on x1 h1⟩
    obtain ⟨kargs, rfl, l1, l2, ds, hq, hl, hR⟩ := wDats_of hw2
    have w1 := r1.dats
    have w2 := r2.dats
    refine ⟨by rw [w1.length]; exact l1, by rw [w2.length]; exact l2, fun x dx hx hdx ne => ?_⟩
    obtain ⟨us, e1, e2⟩ := hp args kargs l1 l2 (.ref x) ws zs w1.length w2.length
    rw [e1]
    exact mk_then hT h2.hc (e2 _ _ _ (w1.kp x2.kp) w2) hx hdx ne hq hl fun H' x3 c3 r3 => q _ c2 (.ref x) H' ad2 hR (x1.trans h1.hc (x2.trans h2.hc x3)) (h2.to x3 c3) r3, qx⟩
/-! ### operators of an own class -/
def isO (cn : Nat) : Sl → Bool
  | .dat (.obj n _) => n == cn
  | _ => false
def isI : Sl → Bool
  | .dat (.int _) => true
  | _ => false
/-- the one table where P holds, the other elsewhere -/
def selW (P : Sl → Sl → Bool) (v w : W2) : W2 := fun s1 s2 cs R => match P s1 s2 with
  | true => v s1 s2 cs R
  | false => w s1 s2 cs R
theorem jb_sel {op : Operator} {P : Sl → Sl → Bool} {v w : W2} (h1 : ∀ s1 s2 cs R, P s1 s2 = true → v s1 s2 cs R → ∃ s cs', BinD X T op s1 s2 cs s cs' ∧ R s cs') (h2 : JBin X T op w) : JBin X T op (selW P v w) := fun s1 s2 cs R h => by
  unfold selW at h
  split at h
  · exact h1 s1 s2 cs R ‹_› h
  · exact h2 s1 s2 cs R h
theorem ji_sel {op : Operator} {P : Sl → Sl → Bool} {v w : W2} (h1 : ∀ s1 s2 cs R, P s1 s2 = true → v s1 s2 cs R → ∃ s cs', IopD X T op s1 s2 cs s cs' ∧ R s cs') (h2 : JIop X T op w) : JIop X T op (selW P v w) := fun s1 s2 cs R h => by
  unfold selW at h
  split at h
  · exact h1 s1 s2 cs R ‹_› h
  · exact h2 s1 s2 cs R h
theorem jc_sel {op : CmpOp} {P : Sl → Sl → Bool} {v w : W2} (h1 : ∀ s1 s2 cs R, P s1 s2 = true → v s1 s2 cs R → ∃ s cs', CmpD X T op s1 s2 cs s cs' ∧ R s cs') (h2 : JCmp X T op w) : JCmp X T op (selW P v w) := fun s1 s2 cs R h => by
  unfold selW at h
  split at h
  · exact h1 s1 s2 cs R ‹_› h
  · exact h2 s1 s2 cs R h
def ownW (c : Ct) : W2 := fun s1 s2 cs R => ∃ d, c [s1, s2] [] (.dat d) [] ∧ R (.dat d) cs
def ownWR (c : Ct) : W2 := fun s1 s2 cs R => ∃ d, c [s2, s1] [] (.dat d) [] ∧ R (.dat d) cs
theorem isO_of {s : Sl} (h : isO cn s = true) : ∃ ds, s = .dat (.obj cn ds) := by
  unfold isO at h
  split at h
  · exact ⟨_, by rw [beq_iff_eq.mp h]⟩
  · cases h
theorem isI_of {s : Sl} (h : isI s = true) : ∃ i, s = .dat (.int i) := by
  unfold isI at h
  split at h
  · exact ⟨_, rfl⟩
  · cases h
def P2 (cn : Nat) (s1 s2 : Sl) : Bool := isO cn s1 && isO cn s2
def PI' (cn : Nat) (s1 s2 : Sl) : Bool := isO cn s1 && isI s2
def PR' (cn : Nat) (s1 s2 : Sl) : Bool := isI s1 && isO cn s2
variable {op : Operator} {w2 : W2}
theorem jb_o2 (hT : T cn = some (C, fn)) (O : OpC X.K C op g) (G : FnOk X.prog X.w X.K X.mg X.base CX0 k g fd ps (spC T X.K c)) (hr : Room k X.A) (hb : Binds X.K fd ps []) (h : JBin X T op w2) : JBin X T op (selW (P2 cn) (ownW c) w2) := jb_sel (fun s1 s2 cs R hP ⟨d, hq, hR⟩ => by
  obtain ⟨h1, h2⟩ := Bool.and_eq_true_iff.mp hP
  obtain ⟨ds, rfl⟩ := isO_of h1
  obtain ⟨es, rfl⟩ := isO_of h2
  exact ⟨_, _, bin_o2 hT O G hr hb hq, hR⟩) h
theorem jb_oI (hT : T cn = some (C, fn)) (O : OpC X.K C op g) (G : FnOk X.prog X.w X.K X.mg X.base CX0 k g fd ps (spC T X.K c)) (hr : Room k X.A) (hb : Binds X.K fd ps []) (h : JBin X T op w2) : JBin X T op (selW (PI' cn) (ownW c) w2) := jb_sel (fun s1 s2 cs R hP ⟨d, hq, hR⟩ => by
  obtain ⟨h1, h2⟩ := Bool.and_eq_true_iff.mp hP
  obtain ⟨ds, rfl⟩ := isO_of h1
  obtain ⟨i, rfl⟩ := isI_of h2
  exact ⟨_, _, bin_oI hT O G hr hb hq, hR⟩) h
theorem jb_oR (hT : T cn = some (C, fn)) (hn : IntNi op) (O : OpR' X.K C op g) (G : FnOk X.prog X.w X.K X.mg X.base CX0 k g fd ps (spC T X.K c)) (hr : Room k X.A) (hb : Binds X.K fd ps []) (h : JBin X T op w2) : JBin X T op (selW (PR' cn) (ownWR c) w2) := jb_sel (fun s1 s2 cs R hP ⟨d, hq, hR⟩ => by
  obtain ⟨h1, h2⟩ := Bool.and_eq_true_iff.mp hP
  obtain ⟨i, rfl⟩ := isI_of h1
  obtain ⟨ds, rfl⟩ := isO_of h2
  exact ⟨_, _, bin_ownR hT hn O G hr hb hq, hR⟩) h
theorem ji_o2 (hT : T cn = some (C, fn)) (N : NoIn X.K C op) (O : OpC X.K C op g) (G : FnOk X.prog X.w X.K X.mg X.base CX0 k g fd ps (spC T X.K c)) (hr : Room k X.A) (hb : Binds X.K fd ps []) (h : JIop X T op w2) : JIop X T op (selW (P2 cn) (ownW c) w2) := ji_sel (fun s1 s2 cs R hP ⟨d, hq, hR⟩ => by
  obtain ⟨h1, h2⟩ := Bool.and_eq_true_iff.mp hP
  obtain ⟨ds, rfl⟩ := isO_of h1
  obtain ⟨es, rfl⟩ := isO_of h2
  exact ⟨_, _, iop_o2 hT N O G hr hb hq, hR⟩) h
theorem ji_oI (hT : T cn = some (C, fn)) (N : NoIn X.K C op) (O : OpC X.K C op g) (G : FnOk X.prog X.w X.K X.mg X.base CX0 k g fd ps (spC T X.K c)) (hr : Room k X.A) (hb : Binds X.K fd ps []) (h : JIop X T op w2) : JIop X T op (selW (PI' cn) (ownW c) w2) := ji_sel (fun s1 s2 cs R hP ⟨d, hq, hR⟩ => by
  obtain ⟨h1, h2⟩ := Bool.and_eq_true_iff.mp hP
  obtain ⟨ds, rfl⟩ := isO_of h1
  obtain ⟨i, rfl⟩ := isI_of h2
  exact ⟨_, _, iop_oI hT N O G hr hb hq, hR⟩) h
theorem ji_add : JIop X T .Add (intW0 fun i j => .int (i + j)) := fun s1 s2 cs R h => by
  unfold intW0 at h
  split at h
  · exact ⟨_, _, iop_add, h⟩
  · exact h.elim
theorem ji_sub : JIop X T .Sub (intW0 fun i j => .int (i - j)) := fun s1 s2 cs R h => by
  unfold intW0 at h
  split at h
  · exact ⟨_, _, iop_sub, h⟩
  · exact h.elim
theorem ji_no {op : Operator} : JIop X T op (fun _ _ _ _ => False) := fun s1 s2 cs R h => h.elim
theorem jb_no {op : Operator} : JBin X T op (fun _ _ _ _ => False) := fun s1 s2 cs R h => h.elim
theorem jc_no {op : CmpOp} : JCmp X T op (fun _ _ _ _ => False) := fun s1 s2 cs R h => h.elim
theorem jc_o2 {op : CmpOp} (hT : T cn = some (C, fn)) (G : FnOk X.prog X.w X.K X.mg X.base CX0 k g fd ps (spC T X.K c)) (hr : Room k X.A) (hb : Binds X.K fd ps []) (hs : PySem.W.findIn X.K (.ref C) (cmpInfo op).2.1 = some (some (.ref g))) (hf : PySem.W.isFn X.K (.ref g) = true) (h : JCmp X T op w2) (ho : compareOp op = richCompare op := by rfl) : JCmp X T op (selW (P2 cn) (ownW c) w2) := jc_sel (fun s1 s2 cs R hP ⟨d, hq, hR⟩ => by
  obtain ⟨h1, h2⟩ := Bool.and_eq_true_iff.mp hP
  obtain ⟨ds, rfl⟩ := isO_of h1
  obtain ⟨es, rfl⟩ := isO_of h2
  exact ⟨_, _, cmp_own2 hT G hr hb hs hf hq ho, hR⟩) h
def selW1 (P : Sl → Bool) (v w : W1) : W1 := fun s1 cs R => match P s1 with
  | true => v s1 cs R
  | false => w s1 cs R
def ownW1 (c : Ct) : W1 := fun s1 cs R => ∃ d, c [s1] [] (.dat d) [] ∧ R (.dat d) cs
theorem ju_oN {w1 : W1} (hT : T cn = some (C, fn)) (G : FnOk X.prog X.w X.K X.mg X.base CX0 k g fd ps (spC T X.K c)) (hr : Room k X.A) (hb : Binds X.K fd ps []) (hs : PySem.W.findIn X.K (.ref C) "__neg__" = some (some (.ref g))) (hf : PySem.W.isFn X.K (.ref g) = true) (h : JUn X T .USub w1) : JUn X T .USub (selW1 (isO cn) (ownW1 c) w1) := fun s1 cs R hw => by
  unfold selW1 at hw
  split at hw
  · obtain ⟨ds, rfl⟩ := isO_of ‹_›
    obtain ⟨d, hq, hR⟩ := hw
    exact ⟨_, _, un_ownN hT G hr hb hs hf hq, hR⟩
  · exact h _ _ _ hw
theorem jc_absO {w1 : WC} (hT : T cn = some (C, fn)) (G : FnOk X.prog X.w X.K X.mg X.base CX0 k g fd ps (spC T X.K c)) (hr : Room (k + 1) X.A) (hb : Binds X.K fd ps []) (hs : PySem.W.findIn X.K (.ref C) "__abs__" = some (some (.ref g))) (hf : PySem.W.isFn X.K (.ref g) = true) : JCall X T "abs" (fun ss cs R => match ss with
    | [s] => match isO cn s with
      | true => ∃ d, c [s] [] (.dat d) [] ∧ R (.dat d) cs
      | false => absW ss cs R
    | _ => False) := ⟨jc_abs.bo (X := X) (T := T), fun ss cs R h => by
  split at h
  · split at h
    · obtain ⟨ds, rfl⟩ := isO_of ‹_›
      obtain ⟨d, hq, hR⟩ := h
      exact ⟨_, _, cb_absO hT G hr hb hs hf hq, hR⟩
    · exact jc_abs.run _ _ _ h
  · exact h.elim⟩
end
end Dl

namespace Dl
open PySem L2
/-! ### what a loop walks -/
abbrev WpI := Sls → List Cell → (List D → List Cell → Prop) → RX → Prop
def tJI (T : Tab) (K : PySem.W.Frag) (W : WX) (w : WpI) : TI := fun σ H Q => ∃ ad F sl cs R Rx, Hold T K ⟨sl, cs⟩ ad F σ H ∧ w sl cs R Rx ∧
  (∀ items c J H' ad', R items c → Ext ad F H ad' H' → Hold T K ⟨sl, c⟩ ad' F σ H' → ItOk T K F J items ad' H' → Q J H') ∧ Raz T K W σ ad F H sl Rx
def JI (X : Cx) (T : Tab) (W : WX) (tg it : Expr) (w : WpI) : Prop := PI X tg it (tJI T X.K W w)
section
variable {X : Cx} {tg : Expr}
def iVal (K : PySem.W.Frag) (tl : TE) : TI := fun σ H R => tl σ H fun x H1 => (∃ a xs, x = .ref a ∧ SqL K H1 a xs ∧ R (Itl K a) H1) ∨ (∃ a xs, x = .ref a ∧ SqT K H1 a xs ∧ R (Itt K a) H1)
open PySem.Spec PyProof.Rows in
theorem pi_val {l : Expr} {tl : TE} (hl : PE X l tl) : PI X tg l (iVal X.K tl) := by
  refine ⟨fun pins s σ H R I h => ?_⟩
  refine thn (hl.run pins s σ H _ I h) fun v s1 ⟨x, H1, I1, r1, q1⟩ => ?_
  rcases q1 with ⟨a, xs, e, hq, q⟩ | ⟨a, xs, e, hq, q⟩
  · subst e
    cases r1
    obtain ⟨its, rv, p, hz⟩ := I1.list hq
    refine wpAny_pyIter_list p.isList ?_
    refine ⟨s1.heap.objs.size, [s1.heap.objs.size], _, _, H1, rfl, I1.kept (t' := s1.toks) fun b o e => Heap.get?_push_of_some _ e, turn_list a _, ⟨_, Heap.get?_push_size _ rfl, rfl, rfl⟩, fun b hb => ?_, q⟩
    have e : b = s1.heap.objs.size := by simpa using hb
    subst e
    exact I1.fpOk (Nat.le_refl _) (I1.hok.fresh (Nat.le_refl _))
  · subst e
    cases r1
    obtain ⟨its, rv, p, hz⟩ := I1.tuple hq
    refine wpAny_pyIter_tuple (show s1.heap.IsTuple a its.toArray from p) ?_
    refine ⟨s1.heap.objs.size, [s1.heap.objs.size], _, _, H1, rfl, I1.kept (t' := s1.toks) fun b o e => Heap.get?_push_of_some _ e, turn_tuple a _, ⟨_, Heap.get?_push_size _ rfl, rfl, rfl⟩, fun b hb => ?_, q⟩
    have e : b = s1.heap.objs.size := by simpa using hb
    subst e
    exact I1.fpOk (Nat.le_refl _) (I1.hok.fresh (Nat.le_refl _))
end
section
variable {T : Tab} {K : PySem.W.Frag} {F : Addr → Prop} {ad : List Addr} {H : Hp} {a : Addr} {vs : List V} {ds : List D}
theorem itl_ok (n : ¬ Mm ad F a) (e1 : H a = some (.lst vs)) (r : Reps T K (Mm ad F) H vs ds) : ItOk T K F (Itl K a) ds ad H := fun F2 ad2 H2 cs2 c2 kp i => ⟨fun d hd => by
    obtain ⟨e2, n2⟩ := kp a _ e1 n
    obtain ⟨v, hv, rv⟩ := (r.kp kp).get hd
    refine ⟨⟨vs, v, SqL.of e2, hv⟩, fun w H3 y => ?_⟩
    obtain ⟨rfl, y⟩ := y
    have := y vs (SqL.of e2)
    rw [hv] at this
    cases this
    exact ⟨fun _ _ z => z, rv⟩, fun hi => ⟨vs, SqL.of (kp a _ e1 n).1, by rw [r.length]; omega⟩⟩
theorem itr_ok' (e1 : LAt K (Mm ad F) H a vs) (r : Reps T K (Mm ad F) H vs ds) : ItOk T K F (Itl K a) ds ad H := fun F2 ad2 H2 cs2 c2 kp i => ⟨fun d hd => by
    have e2 := (e1.kp kp).sq
    obtain ⟨v, hv, rv⟩ := (r.kp kp).get hd
    refine ⟨⟨vs, v, e2, hv⟩, fun w H3 y => ?_⟩
    obtain ⟨rfl, y⟩ := y
    have := y vs e2
    rw [hv] at this
    cases this
    exact ⟨fun _ _ z => z, rv⟩, fun hi => ⟨vs, (e1.kp kp).sq, by rw [r.length]; omega⟩⟩
theorem itt_ok (e1 : TAt K (Mm ad F) H a vs) (r : Reps T K (Mm ad F) H vs ds) : ItOk T K F (Itt K a) ds ad H := fun F2 ad2 H2 cs2 c2 kp i => ⟨fun d hd => by
    have e2 := (e1.kp kp).sq
    obtain ⟨v, hv, rv⟩ := (r.kp kp).get hd
    refine ⟨⟨vs, v, e2, hv⟩, fun w H3 y => ?_⟩
    obtain ⟨rfl, y⟩ := y
    have := y vs e2
    rw [hv] at this
    cases this
    exact ⟨fun _ _ z => z, rv⟩, fun hi => ⟨vs, (e1.kp kp).sq, by rw [r.length]; omega⟩⟩
end
def itemsW (s : Sl) (k : List D → Prop) : Prop := match s with
  | .dat (.lst ds) => k ds
  | .dat (.tup ds) => k ds
  | .dat (.scr ds) => k ds
  | _ => False
section
variable {X : Cx} {T : Tab} {W : WX} {tg e e2 e3 : Expr} {w : WpE} {wA : WpA} {p pos tpos : Pos} {elts : List Expr} {kk : Nat}
def wItems (w : WpE) : WpI := fun sl cs R Rx => w sl cs (fun s c => itemsW s fun ds => R ds c) Rx
theorem ji_val (he : JE X T W e w) : JI X T W tg e (wItems w) := weakI (pi_val he) fun σ H Q ⟨ad, F, sl, cs, R, Rx, h0, hw, q, qx⟩ => ⟨ad, F, sl, cs, _, Rx, h0, hw, fun s c1 v H1 ad1 hw1 x1 h1 r1 => by
  unfold itemsW at hw1
  split at hw1
  · cases r1 with
    | @lst a vs _ n e1 r => exact .inl ⟨a, vs, rfl, SqL.of e1, q _ c1 _ H1 ad1 hw1 x1 h1 (itl_ok n e1 r)⟩
  · cases r1 with
    | @tup a vs _ e1 r => exact .inr ⟨a, vs, rfl, e1.sq, q _ c1 _ H1 ad1 hw1 x1 h1 (itt_ok e1 r)⟩
  · cases r1 with
    | @scr a vs _ e1 r => exact .inl ⟨a, vs, rfl, e1.sq, q _ c1 _ H1 ad1 hw1 x1 h1 (itr_ok' e1 r)⟩
  · exact hw1.elim, qx⟩
def SmI (i : Int) : Prop := -(2 ^ 62) ≤ i ∧ i < 2 ^ 62
def rng1W (ss : List Sl) (k : List D → Prop) : Prop := match ss with
  | [.dat (.int j)] => SmI j ∧ k (rangeD 0 j.toNat)
  | _ => False
def wRng1 (wA : WpA) : WpI := fun sl cs R Rx => wA sl cs (fun ss c => rng1W ss fun ds => R ds c) Rx
theorem ji_range1 (hm : X.mg "range" = none) (ha : JA X T W [e] wA) (hg : Gl X "range" := by rfl) (hs : starEach [e] X.env = [(false, eval e X.env)] := by rfl) : JI X T W tg (.Call (.Name "range" p) [e] [] pos) (wRng1 wA) :=
  weakI (pi_range1 hg hm ha hs) fun σ H Q ⟨ad, F, sl, cs, R, Rx, h0, hw, q, qx⟩ => ⟨ad, F, sl, cs, _, Rx, h0, hw, fun ss c1 vs H1 ad1 hw1 x1 h1 r1 => by
    unfold rng1W at hw1
    split at hw1
    · match vs, r1 with
      | [v], r1 =>
        have r1 := r1.1
        cases r1
        exact ⟨_, rfl, hw1.1.1, hw1.1.2, q _ c1 _ H1 ad1 hw1.2 x1 h1 itr_ok⟩
    · exact hw1.elim, qx⟩
def rng2W (ss : List Sl) (k : List D → Prop) : Prop := match ss with
  | [.dat (.int i), .dat (.int j)] => (SmI i ∧ SmI j) ∧ k (rangeD i (j - i).toNat)
  | _ => False
def wRng2 (wA : WpA) : WpI := fun sl cs R Rx => wA sl cs (fun ss c => rng2W ss fun ds => R ds c) Rx
theorem ji_range2 (hm : X.mg "range" = none) (ha : JA X T W [e, e2] wA) (hg : Gl X "range" := by rfl) (hs : starEach [e, e2] X.env = [(false, eval e X.env), (false, eval e2 X.env)] := by rfl) (hs2 : starEach [e2] X.env = [(false, eval e2 X.env)] := by rfl) : JI X T W tg (.Call (.Name "range" p) [e, e2] [] pos) (wRng2 wA) :=
  weakI (pi_range2 hg hm ha hs hs2) fun σ H Q ⟨ad, F, sl, cs, R, Rx, h0, hw, q, qx⟩ => ⟨ad, F, sl, cs, _, Rx, h0, hw, fun ss c1 vs H1 ad1 hw1 x1 h1 r1 => by
    unfold rng2W at hw1
    split at hw1
    · match vs, r1 with
      | [v, w], r1 =>
        have r2 := r1.2.1
        have r1 := r1.1
        cases r1
        cases r2
        exact ⟨_, _, rfl, ⟨hw1.1.1.1, hw1.1.1.2, hw1.1.2.1, hw1.1.2.2⟩, q _ c1 _ H1 ad1 hw1.2 x1 h1 itr_ok⟩
    · exact hw1.elim, qx⟩
/-! zip -/
def zip2W (ss : List Sl) (k : List D → Prop) : Prop := match ss with
  | [.dat (.lst ds), .dat (.lst es)] => k (zipD ds es)
  | [.dat (.tup ds), .dat (.tup es)] => k (zipD ds es)
  | _ => False
def wZip2 (wA : WpA) : WpI := fun sl cs R Rx => wA sl cs (fun ss c => zip2W ss fun ds => R ds c) Rx
theorem itz_ok {K : PySem.W.Frag} {F : Addr → Prop} {ad : List Addr} {H : Hp} {a b : Addr} {xs ys : List V} {ds es : List D} (n1 : ¬ Mm ad F a) (e1 : H a = some (.lst xs)) (q1 : Reps T K (Mm ad F) H xs ds) (n2 : ¬ Mm ad F b) (e2 : H b = some (.lst ys)) (q2 : Reps T K (Mm ad F) H ys es) : ItOk T K F (Itz K a b) (zipD ds es) ad H := fun F2 ad2 H2 cs2 c2 kp i => ⟨fun d hd => by
    obtain ⟨x, y, hx, hy, rfl⟩ := zipD_get hd
    obtain ⟨vx, gx, rx⟩ := (q1.kp kp).get hx
    obtain ⟨vy, gy, ry⟩ := (q2.kp kp).get hy
    have a1 := SqL.of (K := K) (kp a _ e1 n1).1
    have a2 := SqL.of (K := K) (kp b _ e2 n2).1
    refine ⟨⟨xs, ys, vx, vy, a1, a2, gx, gy⟩, fun v H3 yy => ?_⟩
    obtain ⟨Tt, x', y', rfl, hT, rfl, g1, g2⟩ := yy
    have g1 := g1 xs a1
    have g2 := g2 ys a2
    rw [gx] at g1
    rw [gy] at g2
    cases g1
    cases g2
    obtain ⟨c3, x3⟩ := c2.newo (o := .tup [vx, vy]) hT
    refine ⟨fun b o e => by rw [upd_ne (ne_of_none e hT)]; exact e, .tup (vs := [vx, vy]) (.inl ⟨c2.new hT, .inl upd_same⟩) (.cons (rx.kp x3.kp) (.cons (ry.kp x3.kp) .nil))⟩, fun hi => by
    rw [zipD_len] at hi
    refine ⟨xs, ys, SqL.of (kp a _ e1 n1).1, SqL.of (kp b _ e2 n2).1, ?_⟩
    rw [q1.length, q2.length]
    omega⟩
theorem itzT_ok {K : PySem.W.Frag} {F : Addr → Prop} {ad : List Addr} {H : Hp} {a b : Addr} {xs ys : List V} {ds es : List D} (e1 : TAt K (Mm ad F) H a xs) (q1 : Reps T K (Mm ad F) H xs ds) (e2 : TAt K (Mm ad F) H b ys) (q2 : Reps T K (Mm ad F) H ys es) : ItOk T K F (RZ.ItzT K a b) (zipD ds es) ad H := fun F2 ad2 H2 cs2 c2 kp i => ⟨fun d hd => by
    obtain ⟨x, y, hx, hy, rfl⟩ := zipD_get hd
    obtain ⟨vx, gx, rx⟩ := (q1.kp kp).get hx
    obtain ⟨vy, gy, ry⟩ := (q2.kp kp).get hy
    have a1 := (e1.kp kp).sq
    have a2 := (e2.kp kp).sq
    refine ⟨⟨xs, ys, vx, vy, a1, a2, gx, gy⟩, fun v H3 yy => ?_⟩
    obtain ⟨Tt, x', y', rfl, hT, rfl, g1, g2⟩ := yy
    have g1 := g1 xs a1
    have g2 := g2 ys a2
    rw [gx] at g1
    rw [gy] at g2
    cases g1
    cases g2
    obtain ⟨c3, x3⟩ := c2.newo (o := .tup [vx, vy]) hT
    refine ⟨fun b o e => by rw [upd_ne (ne_of_none e hT)]; exact e, .tup (vs := [vx, vy]) (.inl ⟨c2.new hT, .inl upd_same⟩) (.cons (rx.kp x3.kp) (.cons (ry.kp x3.kp) .nil))⟩, fun hi => by
    rw [zipD_len] at hi
    refine ⟨xs, ys, (e1.kp kp).sq, (e2.kp kp).sq, ?_⟩
    rw [q1.length, q2.length]
    omega⟩
theorem ji_zip (hm : X.mg "zip" = none) (ha : JA X T W [e, e2] wA) (hg : Gl X "zip" := by rfl) (hs : starEach [e, e2] X.env = (false, eval e X.env) :: starEach [e2] X.env := by rfl) (hpl : (backTo pos (starEach [e2] X.env)).any (·.1) = false := by rfl) :
    JI X T W (.Tuple elts kk tpos) (.Call (.Name "zip" p) [e, e2] [] pos) (wZip2 wA) :=
  weakI (RZ.pi_zipA hg hm ha hs hpl) fun σ H Q ⟨ad, F, sl, cs, R, Rx, h0, hw, q, qx⟩ => ⟨ad, F, sl, cs, _, Rx, h0, hw, fun ss c1 vs H1 ad1 hw1 x1 h1 r1 => by
    unfold zip2W at hw1
    split at hw1
    · match vs, r1 with
      | [v, w], r1 =>
        have r2 := r1.2.1
        have r1 := r1.1
        cases r1 with
        | @lst a xs _ n1 e1 q1 =>
          cases r2 with
          | @lst b ys _ n2 e2 q2 => exact ⟨a, b, xs, ys, rfl, .inl ⟨SqL.of e1, SqL.of e2, q _ c1 _ H1 ad1 hw1 x1 h1 (itz_ok n1 e1 q1 n2 e2 q2)⟩⟩
    · match vs, r1 with
      | [v, w], r1 =>
        have r2 := r1.2.1
        have r1 := r1.1
        cases r1 with
        | @tup a xs _ e1 q1 =>
          cases r2 with
          | @tup b ys _ e2 q2 => exact ⟨a, b, xs, ys, rfl, .inr ⟨e1.sq, e2.sq, q _ c1 _ H1 ad1 hw1 x1 h1 (itzT_ok e1 q1 e2 q2)⟩⟩
    · exact hw1.elim, qx⟩
end
/-! ### comprehensions -/
def asgW (p : Pat) (d : D) (sl : Sls) (k : Sls → Prop) : Prop := match asgP p d sl with
  | some sl' => k sl'
  | none => False
theorem asgW_of {p : Pat} {d : D} {sl : Sls} {k : Sls → Prop} (h : asgW p d sl k) : ∃ sl', asgP p d sl = some sl' ∧ k sl' := by
  unfold asgW at h
  split at h
  · exact ⟨_, ‹_›, h⟩
  · exact h.elim
def isDat (s : Sl) (k : D → Prop) : Prop := match s with
  | .dat d => k d
  | .cel _ => False
theorem isDat_of {s : Sl} {k : D → Prop} (h : isDat s k) : ∃ d, s = .dat d ∧ k d := by
  unfold isDat at h
  split at h
  · exact ⟨_, rfl, h⟩
  · exact h.elim
def lcW (p : Pat) (wt : WpT) (we : WpE) (sl : Sls) : List D → List Cell → (List D → List Cell → Prop) → Prop
  | [], cs, R => R [] cs
  | d :: ds, cs, R => asgW p d sl fun sl' => wt sl' cs (fun b c1 => Br b (we sl' c1 (fun s c2 => isDat s fun e => lcW p wt we sl ds c2 fun acc c3 => R (e :: acc) c3) noX) (lcW p wt we sl ds c1 R)) noX
def JTs (X : Cx) (T : Tab) (W : WX) (ifs : List Expr) (w : WpT) : Prop := PTs X ifs (tJT T X.K W w)
def wYes : WpT := fun _ cs R _ => R true cs
theorem jts_nil {X : Cx} {T : Tab} {W : WX} : JTs X T W [] wYes := weakTs pts_nil fun σ H Q ⟨ad, F, sl, cs, R, Rx, h0, hw, q, qx⟩ => q true cs H ad hw .refl h0
theorem jts_one {X : Cx} {T : Tab} {W : WX} {c : Expr} {w : WpT} (h : JT X T W c w) : JTs X T W [c] w := weakTs (pts_one h) fun σ H Q z => z
/-- in the block's contexts -/
def wLc (wi : WpI) (p : Pat) (wt : WpT) (we : WpE) (own : List Nat) : WpE := fun sl cs R Rx => wi sl cs (fun items c => items.length < sizeLine ∧ lcW p wt we (wipeS sl own) items c fun acc c' => R (.dat (.lst acc)) c') Rx
def wLcC (wi : WpI) (p : Pat) (wt : WpT) (we : WpE) (own : List Nat) : WpE := fun sl cs R Rx => wi sl cs (fun items c => items.length < sizeLine ∧ lcW p wt we (wipeS sl own) items c fun acc c' => R (.cel c'.length) (c' ++ [.lst acc])) Rx
section
variable {T : Tab} {K : PySem.W.Frag} {W : WX} {p : Pat} {wi : WpI} {wt : WpT} {we : WpE} {own : List Nat}
theorem lc_core {sl : Sls} {items : List D} {cs : List Cell} {Rf : List D → List Cell → Prop} {σ : St} {H1 : Hp} {ad1 : List Addr} {F : Addr → Prop} {Q : VK} {J : It} (hp : ∀ i ∈ slotsP p, i ∈ own) (h1 : Hold T K ⟨sl, cs⟩ ad1 F σ H1) (okI : ItOk T K F J items ad1 H1) (hl : items.length < sizeLine)
    (h : lcW p wt we (wipeS sl own) items cs Rf) {Dl : Addr} (hD : H1 Dl = none)
    (q : ∀ accV accD ci ad' H', Ext ad1 F H1 ad' H' → HoldC T K ad' (fun a => F a ∨ a = Dl) H' ci → H' Dl = some (.lst accV) → Reps T K (Mm ad' fun a => F a ∨ a = Dl) H' accV accD → Rf accD ci → Q (.ref Dl) H') :
    ∃ (Inv' : Nat → Nat → Hp → Prop), (∃ m0, Inv' 0 m0 (upd H1 Dl (.lst []))) ∧ ∀ i m H', Inv' i m H' → (J.stop i H' ∧ Q (.ref Dl) H') ∨ (J.go i H' ∧ ∃ I2 : Hp → Prop, (∀ H2, I2 H2 → ∃ m', m' < m ∧ Inv' (i + 1) m' H2) ∧ ∀ v H3, J.yld i H' v H3 →
      tDG T K p v (wipe σ own) H3 fun σ' H4 => wipe σ' own = wipe σ own ∧ tJT T K W0 wt σ' H4 fun b H5 => if b = true then tJ T K W0 we σ' H5 fun w H6 => ∃ acc, H6 Dl = some (.lst acc) ∧ acc.length < sizeLine ∧ I2 (upd H6 Dl (.lst (acc ++ [w]))) else I2 H5) := by
  let vs := own
  have nD := h1.hc.new hD
  let F' : Addr → Prop := fun a => F a ∨ a = Dl
  have neD : ∀ a o, H1 a = some o → a ≠ Dl := fun a o e => ne_of_none e hD
  have slots : ∀ {ad' : List Addr} {H' : Hp} {cs : List Cell}, Ext ad1 F H1 ad' H' → HoldC T K ad' F' H' cs → Hold T K ⟨wipeS sl vs, cs⟩ ad' F' (wipe σ vs) H' := fun {ad' H' cs} x c => by
    refine ⟨c, by rw [wipe_length, wipeS_len]; exact h1.sz, fun i s e => ?_⟩
    obtain ⟨e1, e2⟩ := wipeS_some e
    obtain ⟨v, hv, r⟩ := h1.sl i s e1
    refine ⟨v, by rw [wipe_out e2]; exact hv, ?_⟩
    cases s with
    | dat d => exact Rep.kp (fun a o e n => ⟨x.keep a o e n, fun z => (x.kp a o e n).2 (z.imp id fun z => z.resolve_right (neD a o e))⟩) r
    | cel k =>
      have r' := SlRep.ext x r
      exact r'
  have h1' : HoldC T K ad1 F' (upd H1 Dl (.lst [])) cs := by
    obtain ⟨c2, x2⟩ := h1.hc.newo (o := .lst []) hD
    have kp : Kp (Mm ad1 F) H1 (Mm ad1 F') (upd H1 Dl (.lst [])) := fun a o e n => ⟨by rw [upd_ne (neD a o e)]; exact e, fun z => n (z.imp id fun z => z.resolve_right (neD a o e))⟩
    refine ⟨h1.hc.nd, fun a ha z => z.elim (h1.hc.fr a ha) fun z => nD (.inl (z ▸ ha)), fun a z => ?_, h1.hc.ln, fun k a c e1 e2 => ?_⟩
    · rcases z with z | z
      · exact c2.al a z
      · rw [z]; exact ⟨_, upd_same⟩
    · have qc := h1.hc.ce k a c e1 e2
      obtain ⟨o, e⟩ := qc.some
      exact qc.kp kp (upd_ne (neD a o e))
  have x1' : Ext ad1 F H1 ad1 (upd H1 Dl (.lst [])) := (h1.hc.newo hD).2
  refine ⟨fun i m H' => ∃ ad' accV accD ci, i ≤ items.length ∧ m = items.length - i ∧ Ext ad1 F H1 ad' H' ∧ HoldC T K ad' F' H' ci ∧ H' Dl = some (.lst accV) ∧ Reps T K (Mm ad' F') H' accV accD ∧ accD.length ≤ i ∧
    lcW p wt we (wipeS sl vs) (items.drop i) ci (fun acc c => Rf (accD ++ acc) c), ⟨items.length, ad1, [], [], cs, Nat.zero_le _, rfl, x1', h1', upd_same, .nil, Nat.le_refl _, h⟩, ?_⟩
  rintro i m H' ⟨ad', accV, accD, ci, hi', rfl, x', c', eD, rA, lA, hL⟩
  have kpI : Kp (Mm ad1 F) H1 (Mm ad' F') H' := fun a o e n => ⟨x'.keep a o e n, fun z => (x'.kp a o e n).2 (z.imp id fun z => z.resolve_right (neD a o e))⟩
  obtain ⟨ok1, ok2⟩ := okI F' ad' H' ci c' kpI i
  by_cases hlt : i < items.length
  · have hd : items[i]? = some items[i] := List.getElem?_eq_getElem hlt
    obtain ⟨g1, g2⟩ := ok1 _ hd
    rw [List.drop_eq_getElem_cons hlt] at hL
    obtain ⟨sl', eas, hL⟩ := asgW_of hL
    refine .inr ⟨g1, fun H2 => ∃ m', m' < items.length - i ∧ ∃ ad' accV accD ci, i + 1 ≤ items.length ∧ m' = items.length - (i + 1) ∧ Ext ad1 F H1 ad' H2 ∧ HoldC T K ad' F' H2 ci ∧ H2 Dl = some (.lst accV) ∧ Reps T K (Mm ad' F') H2 accV accD ∧ accD.length ≤ i + 1 ∧
      lcW p wt we (wipeS sl vs) (items.drop (i + 1)) ci (fun acc c => Rf (accD ++ acc) c), fun H2 ⟨m', hm, z⟩ => ⟨m', hm, z⟩, fun v H3 y => ?_⟩
    obtain ⟨gr, rv⟩ := g2 v H3 y
    obtain ⟨c3, x3⟩ := grow c' gr
    have x13 : Ext ad1 F H1 ad' H3 := ⟨x'.pre, fun a o e n => gr a o (x'.keep a o e n), fun a fa => by
      obtain ⟨o, e⟩ := h1.hc.al a fa
      have e' : H' a = some o := by rw [x'.frm a fa]; exact e
      rw [gr a o e', e]⟩
    have cvt : ∀ {ad6 : List Addr} {H6 : Hp}, Ext ad' F' H3 ad6 H6 → Ext ad1 F H1 ad6 H6 := fun {ad6 H6} x6 => by
      obtain ⟨t, e, ht⟩ := x13.pre
      obtain ⟨t2, e2, ht2⟩ := x6.pre
      refine ⟨⟨t ++ t2, by rw [e2, e, List.append_assoc], fun a ha => ?_⟩, fun a o e n => ?_, fun a fa => ?_⟩
      · rcases List.mem_append.mp ha with z | z
        · exact ht a z
        · cases q1 : H1 a with
          | none => rfl
          | some o =>
            exfalso
            have hz := ht2 a z
            by_cases n : Mm ad1 F a
            · rcases n with n | n
              · obtain ⟨o', e'⟩ := c3.mem (a := a) (by rw [e]; exact List.mem_append_left _ n)
                rw [e'] at hz; cases hz
              · rw [x13.frm a n, q1] at hz; cases hz
            · rw [x13.keep a o q1 n] at hz; cases hz
      · have n3 : ¬ Mm ad' F' a := fun z => (x13.kp a o e n).2 (z.imp id fun z => z.resolve_right (neD a o e))
        exact x6.keep a o (x13.keep a o e n) n3
      · rw [x6.frm a (.inl fa), x13.frm a fa]
    have eD3 : H3 Dl = some (.lst accV) := gr _ _ eD
    have rA3 : Reps T K (Mm ad' F') H3 accV accD := rA.kp x3.kp
    refine ⟨ad', F', ⟨wipeS sl vs, ci⟩, items[i], sl', slots x13 c3, rv, eas, fun σ4 a4 h4 => ⟨wipe_asis a4 hp, ad', F', sl', ci, _, noX, h4, hL, fun b c1 H5 ad5 hb x5 h5 => ?_, Raz.no⟩⟩
    cases b with
    | true =>
      refine iteT ⟨ad5, F', sl', c1, _, noX, h5, hb.t rfl, fun s c2 w H6 ad6 hs x6 h6 r6 => ?_, Raz.no⟩
      obtain ⟨d', rfl, hL2⟩ := isDat_of hs
      refine ⟨accV, ?_, ?_, ?_⟩
      · rw [x6.frm Dl (.inr rfl), x5.frm Dl (.inr rfl)]; exact eD3
      · have := rA3.length
        omega
      · have x36 : Ext ad' F' H3 ad6 H6 := x5.trans h5.hc x6
        have x16 := cvt x36
        have hDa : Dl ∉ ad6 := fun z => h6.hc.fr Dl z (.inr rfl)
        have kpU : Kp (Mm ad6 F') H6 (Mm ad6 F') (upd H6 Dl (.lst (accV ++ [w]))) := fun a o e n => ⟨by rw [upd_ne (fun z => n (.inr (.inr z)))]; exact e, n⟩
        refine ⟨_, by omega, ad6, accV ++ [w], accD ++ [d'], c2, hlt, rfl, ?_, ?_, upd_same, ((rA3.kp x36.kp).append (.cons r6 .nil)).kp kpU, by rw [List.length_append]; simp; omega, ?_⟩
        · exact ⟨x16.pre, fun a o e n => by rw [upd_ne (neD a o e)]; exact x16.keep a o e n, fun a fa => by
            obtain ⟨o, e⟩ := h1.hc.al a fa
            rw [upd_ne (neD a o e)]; exact x16.frm a fa⟩
        · refine ⟨h6.hc.nd, h6.hc.fr, fun a z => ?_, h6.hc.ln, fun k a c e1 e2 => ?_⟩
          · by_cases e : a = Dl
            · rw [e]; exact ⟨_, upd_same⟩
            · rw [upd_ne e]; exact h6.hc.al a z
          · exact (h6.hc.ce k a c e1 e2).kp kpU (upd_ne fun z => hDa (z ▸ List.mem_of_getElem? e1))
        · have e : (fun acc c => Rf (accD ++ [d'] ++ acc) c) = fun acc c => Rf (accD ++ (d' :: acc)) c := by
            funext acc c
            rw [List.append_assoc]
            rfl
          rw [e]
          exact hL2
    | false => exact iteF ⟨_, by omega, ad5, accV, accD, c1, hlt, rfl, cvt x5, h5.hc, by rw [x5.frm Dl (.inr rfl)]; exact eD3, rA3.kp x5.kp, by omega, hb.f rfl⟩
  · have e : i = items.length := by omega
    subst e
    rw [List.drop_length] at hL
    have hL : Rf (accD ++ []) ci := hL
    rw [List.append_nil] at hL
    exact .inl ⟨ok2 rfl, q accV accD ci ad' H' x' c' eD rA hL⟩
theorem lc_then {σ : St} {H : Hp} {Q : VK} (hp : ∀ i ∈ slotsP p, i ∈ own) (h : tJ T K W (wLc wi p wt we own) σ H Q) : tLc (tJI T K W wi) (tDG T K p) (tJT T K W0 wt) (tJ T K W0 we) own σ H Q := by
  obtain ⟨ad, F, sl, cs, R, Rx, h0, hw, q, qx⟩ := h
  refine ⟨ad, F, sl, cs, _, Rx, h0, hw, fun items c J H1 ad1 hw1 x1 h1 ok Dl hD => ?_, qx⟩
  refine lc_core hp h1 ok hw1.1 hw1.2 hD fun accV accD ci ad' H' x' c' eD rA hR => ?_
  have nD := h1.hc.new hD
  have kpF : Kp (Mm ad' fun a => F a ∨ a = Dl) H' (Mm ad' F) H' := fun a o e n => ⟨e, fun z => n (z.imp id .inl)⟩
  have cF : HoldC T K ad' F H' ci := ⟨c'.nd, fun a ha z => c'.fr a ha (.inl z), fun a z => c'.al a (.inl z), c'.ln, fun k a c e1 e2 => (c'.ce k a c e1 e2).kp kpF rfl⟩
  have nD' : ¬ Mm ad' F Dl := fun z => z.elim (fun z => c'.fr Dl z (.inr rfl)) fun z => nD (.inr z)
  exact q _ ci (.ref Dl) H' ad' hR (x1.trans h1.hc x') (h1.to x' cF) (Rep.lst nD' eD (rA.kp kpF))
theorem lcC_then {σ : St} {H : Hp} {Q : VK} (hp : ∀ i ∈ slotsP p, i ∈ own) (h : tJ T K W (wLcC wi p wt we own) σ H Q) : tLc (tJI T K W wi) (tDG T K p) (tJT T K W0 wt) (tJ T K W0 we) own σ H Q := by
  obtain ⟨ad, F, sl, cs, R, Rx, h0, hw, q, qx⟩ := h
  refine ⟨ad, F, sl, cs, _, Rx, h0, hw, fun items c J H1 ad1 hw1 x1 h1 ok Dl hD => ?_, qx⟩
  refine lc_core hp h1 ok hw1.1 hw1.2 hD fun accV accD ci ad' H' x' c' eD rA hR => ?_
  have nD := h1.hc.new hD
  have mm : ∀ a, Mm (ad' ++ [Dl]) F a → Mm ad' (fun a => F a ∨ a = Dl) a := fun a z => z.elim (fun z => (List.mem_append.mp z).elim .inl fun z => .inr (.inr (by simpa using z))) fun z => .inr (.inl z)
  have nDa : Dl ∉ ad' := fun z => c'.fr Dl z (.inr rfl)
  have kpF : Kp (Mm ad' fun a => F a ∨ a = Dl) H' (Mm (ad' ++ [Dl]) F) H' := fun a o e n => ⟨e, fun z => n (mm a z)⟩
  have cF : HoldC T K (ad' ++ [Dl]) F H' (ci ++ [.lst accD]) := by
    refine ⟨?_, fun a ha z => ?_, fun a z => c'.al a (.inl z), by rw [List.length_append, List.length_append, c'.ln]; rfl, fun k a c e1 e2 => ?_⟩
    · refine List.nodup_append.mpr ⟨c'.nd, by simp, fun a ha b hb => ?_⟩
      have hb : b = Dl := by simpa using hb
      subst hb
      exact fun z => nDa (z ▸ ha)
    · rcases List.mem_append.mp ha with ha | ha
      · exact c'.fr a ha (.inl z)
      · have ha : a = Dl := by simpa using ha
        subst ha
        exact nD (.inr z)
    · by_cases hk : k < ad'.length
      · rw [List.getElem?_append_left hk] at e1
        rw [List.getElem?_append_left (by rw [← c'.ln]; exact hk)] at e2
        exact (c'.ce k a c e1 e2).kp kpF rfl
      · have hk2 : k < (ad' ++ [Dl]).length := by
          rcases Nat.lt_or_ge k (ad' ++ [Dl]).length with h | h
          · exact h
          · rw [List.getElem?_eq_none h] at e1
            cases e1
        have ek : k = ad'.length := by rw [List.length_append] at hk2; simp at hk2; omega
        subst ek
        rw [List.getElem?_append_right (Nat.le_refl _), Nat.sub_self] at e1
        rw [c'.ln, List.getElem?_append_right (Nat.le_refl _), Nat.sub_self] at e2
        cases e1
        cases e2
        exact ⟨accV, eD, rA.kp kpF⟩
  have x2 : Ext ad1 F H1 (ad' ++ [Dl]) H' := by
    obtain ⟨t, e, ht⟩ := x'.pre
    refine ⟨⟨t ++ [Dl], by rw [e, List.append_assoc], fun a ha => ?_⟩, x'.keep, x'.frm⟩
    rcases List.mem_append.mp ha with ha | ha
    · exact ht a ha
    · have ha : a = Dl := by simpa using ha
      subst ha
      exact hD
  exact q _ _ (.ref Dl) H' (ad' ++ [Dl]) hR (x1.trans h1.hc x2) (h1.to x2 cF) ⟨Dl, by rw [← c'.ln, List.getElem?_append_right (Nat.le_refl _), Nat.sub_self]; rfl, rfl⟩
end
section
variable {X : Cx} {T : Tab} {W : WX} {elt tg iter : Expr} {ifs : List Expr} {scope : Scope} {own : List (Str × Nat)} {p : Pat} {wi : WpI} {wt : WpT} {we : WpE} {pos : Pos}
structure JLC (X : Cx) (T : Tab) (W : WX) (elt tg iter : Expr) (ifs : List Expr) (scope : Scope) (own : List (Str × Nat)) (wi : WpI) (p : Pat) (wt : WpT) (we : WpE) : Prop where
  hi : JI X T W tg iter wi
  ok : BlkOk X.N X.env.scope scope own
  hg : InB X scope fun X' => DG X' T tg p
  ht : InB X scope fun X' => JTs X' T W0 ifs wt
  he : InB X scope fun X' => JE X' T W0 elt we
  hp : ∀ i ∈ slotsP p, i ∈ own.map (·.2)
theorem je_lc {vs : List Nat} (hN : X.N.Nodup) (h : JLC X T W elt tg iter ifs scope own wi p wt we) (hv : own.map (·.2) = vs := by rfl) (hc : X.calm = true := by rfl) (hs : ∀ x, foldedSetIterable iter X.env x = pure x := by intro _; rfl) : JE X T W (.ListComp elt [⟨tg, iter, ifs, 0⟩] scope pos) (wLc wi p wt we vs) := by
  subst hv
  exact weak (pe_lc (g := tDG T X.K p) (tt := tJT T X.K W0 wt) (te := tJ T X.K W0 we) hc hN h.hi h.ok h.hg h.ht h.he hs) fun σ H Q z => lc_then h.hp z
theorem je_lcC {vs : List Nat} (hN : X.N.Nodup) (h : JLC X T W elt tg iter ifs scope own wi p wt we) (hv : own.map (·.2) = vs := by rfl) (hc : X.calm = true := by rfl) (hs : ∀ x, foldedSetIterable iter X.env x = pure x := by intro _; rfl) : JE X T W (.ListComp elt [⟨tg, iter, ifs, 0⟩] scope pos) (wLcC wi p wt we vs) := by
  subst hv
  exact weak (pe_lc (g := tDG T X.K p) (tt := tJT T X.K W0 wt) (te := tJ T X.K W0 we) hc hN h.hi h.ok h.hg h.ht h.he hs) fun σ H Q z => lcC_then h.hp z
end
end Dl

namespace Dl
open PySem L2
/-! ### statements -/
structure PJ where
  nx : Sta → Prop
  rt : Sl → List Cell → Prop
  bk : Sta → Prop := fun _ => False
  ct : Sta → Prop := fun _ => False
  ex : Exc → Sta → Prop := fun _ _ => False
abbrev PJ.to (P : PJ) (W : WX) : Post := { nx := P.nx, rt := P.rt, bk := P.bk, ct := P.ct, ex := P.ex, W := W }
abbrev WS := Sta → PJ → Prop
def JS (X : Cx) (T : Tab) (W : WX) (n : Nat) (st : Stmt) (w : WS) : Prop := ∀ (S : Sta) (P : PJ), w S P → DS X T n S st (P.to W)
def JSs (X : Cx) (T : Tab) (W : WX) (n : Nat) (sts : List Stmt) (w : WS) : Prop := ∀ (S : Sta) (P : PJ), w S P → DSs X T n S sts (P.to W)
theorem noS {X : Cx} {st : Stmt} : PS X st (fun _ _ _ => False) := ⟨fun _ _ _ _ _ _ h => h.elim⟩
section
variable {X : Cx} {T : Tab} {W : WX} {n : Nat} {a b c e o ix it tg : Expr} {es : List Expr} {pos p p' px py pz pt pt2 : Pos} {wa wb we wo wx w : WpE} {wt : WpT} {wA : WpA} {wi : WpI} {st : Stmt} {rest body els : List Stmt} {w1 w2 : WS} {x y z : Str} {i j l kt k2 : Nat} {pa : Pat}
theorem ds_len {S : Sta} {P : Post} (h : n ≤ S.cs.length → DS X T n S st P) : DS X T n S st P := by
  by_cases hn : n ≤ S.cs.length
  · exact h hn
  · exact weakS noS fun D σ H ⟨ad, F, hl, hh, _⟩ => hn (hh.hc.ln ▸ hl)
/-- the post for what is raised -/
theorem raz_of {K : PySem.W.Frag} {S : Sta} {P : PJ} {ad : List Addr} {F : Addr → Prop} {σ : St} {H : Hp} (hn : n ≤ ad.length) (q5 : ∀ x S' cls d σ' H' ad', ExtS n ad F H ad' H' → n ≤ ad'.length → Hold T K S' ad' F σ' H' → ExRep T K (Mm ad' F) H' cls d x → P.ex x S' → W cls d σ' H') :
    Raz T K W σ ad F H S.sl (fun x c => P.ex x ⟨S.sl, c⟩) := fun x c cls d H' ad' hx x1 h1 er => q5 x ⟨S.sl, c⟩ cls d σ H' ad' (x1.s hn) (x1.le hn) h1 er hx
def wNilS : WS := fun S P => P.nx S
def wConsS (w1 w2 : WS) : WS := fun S P => w1 S { P with nx := fun S' => w2 S' P }
theorem jss_nil : JSs X T W n [] wNilS := fun S P h => dss_nil h
theorem jss_cons (h1 : JS X T W n st w1) (h2 : JSs X T W n rest w2) : JSs X T W n (st :: rest) (wConsS w1 w2) := fun S P h =>
  dss_cons (ds_mono (h1 S { P with nx := fun S' => w2 S' P } h) (fun S' q => h2 S' P q) (fun _ _ q => q) (fun _ q => q) (fun _ q => q) (fun _ _ q => q) rfl)
def wPass : WS := fun S P => P.nx S
theorem js_pass : JS X T W n (.Pass pos) wPass := fun S P h => ds_pass h
def wBrk : WS := fun S P => P.bk S
theorem js_break : JS X T W n (.Break pos) wBrk := fun S P h => ds_break h
def wCnt : WS := fun S P => P.ct S
theorem js_continue : JS X T W n (.Continue pos) wCnt := fun S P h => ds_continue h
def wAsg (i : Nat) (w : WpE) : WS := fun S P => w S.sl S.cs (fun s c => P.nx ⟨S.sl.set i (some s), c⟩) (fun x c => P.ex x ⟨S.sl, c⟩)
theorem js_asg (i : Nat) (hN : X.N.Nodup) (he : JE X T W e w) (hi : X.N[i]? = some x := by rfl) (hx : Loc X.env.scope x := by first | exact Or.inl rfl | exact Or.inr rfl)
    (hs : swapsWith e (some (.Name x p')) pos.line X.env = pure false := by rfl) (hf : X.fn x = true ∨ X.env.scope.names.lookup x = some .local := by first | exact .inl rfl | exact .inr rfl) : JS X T W n (.Assign [.Name x p'] e pos) (wAsg i w) := fun S P h =>
  weakS (ps_set hN hi hx he hs hf) fun D σ H ⟨ad, F, hn, h0, q1, q2, q3, q4, q5⟩ => ⟨ad, F, S.sl, S.cs, _, _, h0, h, fun s c v H1 ad1 hR x1 h1 r1 => q1 _ _ H1 ad1 (x1.s hn) (x1.le hn) (h1.set r1 i) hR, raz_of hn q5⟩
/-- y = [..] -/
theorem js_lc (i : Nat) {vs : List Nat} {elt tg iter : Expr} {ifs : List Expr} {scope : Scope} {own : List (Str × Nat)} {p : Pat} {wi : WpI} {wt : WpT} {we : WpE} {py spos : Pos} (hN : X.N.Nodup) (h : JLC X T W elt tg iter ifs scope own wi p wt we) (hv : own.map (·.2) = vs := by rfl) (hy : X.N[i]? = some y := by rfl) (hyl : X.env.scope.names.lookup y = some .local := by rfl)
    (hsw : swapsWith (.ListComp elt [⟨tg, iter, ifs, 0⟩] scope pos) (some (.Name y py)) spos.line X.env = pure true := by exact sw_true rfl rfl rfl (by decide +kernel)) (hc : X.calm = true := by rfl) (hs : ∀ x, foldedSetIterable iter X.env x = pure x := by intro _; rfl) :
    JS X T W n (.Assign [.Name y py] (.ListComp elt [⟨tg, iter, ifs, 0⟩] scope pos) spos) (wAsg i (wLc wi p wt we vs)) := fun S P hw => by
  subst hv
  exact weakS (ps_setLc (g := tDG T X.K p) (tt := tJT T X.K W0 wt) (te := tJ T X.K W0 we) hc hN hy hyl hsw h.hi h.ok h.hg h.ht h.he hs) fun D σ H ⟨ad, F, hn, h0, q1, q2, q3, q4, q5⟩ =>
    lc_then (W := W) h.hp ⟨ad, F, S.sl, S.cs, _, _, h0, hw, fun s c v H1 ad1 hR x1 h1 r1 => q1 _ _ H1 ad1 (x1.s hn) (x1.le hn) (h1.set r1 i) hR, raz_of hn q5⟩
theorem js_lcC (i : Nat) {vs : List Nat} {elt tg iter : Expr} {ifs : List Expr} {scope : Scope} {own : List (Str × Nat)} {p : Pat} {wi : WpI} {wt : WpT} {we : WpE} {py spos : Pos} (hN : X.N.Nodup) (h : JLC X T W elt tg iter ifs scope own wi p wt we) (hv : own.map (·.2) = vs := by rfl) (hy : X.N[i]? = some y := by rfl) (hyl : X.env.scope.names.lookup y = some .local := by rfl)
    (hsw : swapsWith (.ListComp elt [⟨tg, iter, ifs, 0⟩] scope pos) (some (.Name y py)) spos.line X.env = pure true := by exact sw_true rfl rfl rfl (by decide +kernel)) (hc : X.calm = true := by rfl) (hs : ∀ x, foldedSetIterable iter X.env x = pure x := by intro _; rfl) :
    JS X T W n (.Assign [.Name y py] (.ListComp elt [⟨tg, iter, ifs, 0⟩] scope pos) spos) (wAsg i (wLcC wi p wt we vs)) := fun S P hw => by
  subst hv
  exact weakS (ps_setLc (g := tDG T X.K p) (tt := tJT T X.K W0 wt) (te := tJ T X.K W0 we) hc hN hy hyl hsw h.hi h.ok h.hg h.ht h.he hs) fun D σ H ⟨ad, F, hn, h0, q1, q2, q3, q4, q5⟩ =>
    lcC_then (W := W) h.hp ⟨ad, F, S.sl, S.cs, _, _, h0, hw, fun s c v H1 ad1 hR x1 h1 r1 => q1 _ _ H1 ad1 (x1.s hn) (x1.le hn) (h1.set r1 i) hR, raz_of hn q5⟩
def wExpr (w : WpE) : WS := fun S P => w S.sl S.cs (fun _ c => P.nx ⟨S.sl, c⟩) (fun x c => P.ex x ⟨S.sl, c⟩)
theorem js_expr (he : JE X T W e w) (hs : swapsWith e none pos.line X.env = pure false := by rfl) : JS X T W n (.Expr e pos) (wExpr w) := fun S P h =>
  weakS (ps_expr he hs) fun D σ H ⟨ad, F, hn, h0, q1, q2, q3, q4, q5⟩ => ⟨ad, F, S.sl, S.cs, _, _, h0, h, fun s c v H1 ad1 hR x1 h1 r1 => q1 _ _ H1 ad1 (x1.s hn) (x1.le hn) h1 hR, raz_of hn q5⟩
/-- what is returned: data, a cell of the def's own as data -/
def retW (n : Nat) (P : PJ) (s : Sl) (c : List Cell) : Prop := match s with
  | .dat d => P.rt (.dat d) (c.take n)
  | .cel k => n ≤ k ∧ match c[k]? with
    | some (.lst ds) => P.rt (.dat (.lst ds)) (c.take n)
    | _ => False
def wRet (n : Nat) (w : WpE) : WS := fun S P => w S.sl S.cs (fun s c => retW n P s c) (fun x c => P.ex x ⟨S.sl, c⟩)
/-- fewer cells, by extension -/
theorem ext_take {ad ad1 : List Addr} {F : Addr → Prop} {H H1 : Hp} (xs : ExtS n ad F H ad1 H1) : ExtS n ad F H (ad1.take n) H1 := ⟨by rw [List.take_take, Nat.min_self]; exact xs.pre, fun a ha => xs.sub a (List.mem_of_mem_take ha), xs.keep, xs.frm⟩
theorem js_ret (he : JE X T W e w) : JS X T W n (.Return (some e) pos) (wRet n w) := fun S P h =>
  weakS (ps_ret he) fun D σ H ⟨ad, F, hn, h0, q1, q2, q3, q4, q5⟩ => ⟨ad, F, S.sl, S.cs, _, _, h0, h, fun s c v H1 ad1 hR x1 h1 r1 => by
    have xs := x1.s hn
    have hn1 := x1.le hn
    have kp : Kp (Mm ad1 F) H1 (Mm (ad1.take n) F) H1 := fun a o e m => ⟨e, fun z => m (z.imp List.mem_of_mem_take id)⟩
    have hl : n ≤ (ad1.take n).length := by rw [List.length_take]; omega
    unfold retW at hR
    split at hR
    · exact q2 (.dat _) _ v H1 (ad1.take n) (ext_take xs) hl (h1.hc.take n) (Rep.kp kp r1) hR
    · obtain ⟨hk, hR⟩ := hR
      split at hR
      · rename_i k _ ds hc
        obtain ⟨a, ha, rfl⟩ := r1
        obtain ⟨vs, e1, rv⟩ := h1.hc.ce k a _ ha hc
        have na : ¬ Mm (ad1.take n) F a := fun z => z.elim (fun z => by
          obtain ⟨j, hj, ej⟩ := List.getElem_of_mem z
          have hj' : (ad1.take n)[j]? = some a := by rw [List.getElem?_eq_getElem hj, ej]
          have hjn : j < n := by rw [List.length_take] at hj; omega
          rw [List.getElem?_take, if_pos hjn] at hj'
          have := ix_inj h1.hc.nd ha hj'
          omega) fun z => h1.hc.fr a (List.mem_of_getElem? ha) z
        exact q2 (.dat _) _ (.ref a) H1 (ad1.take n) (ext_take xs) hl (h1.hc.take n) (Rep.lst na e1 (rv.kp kp)) hR
      · exact hR.elim, raz_of hn q5⟩
/-- a new cell is returned -/
def wRetC (n : Nat) (w : WpE) : WS := fun S P => w S.sl S.cs (fun s c => match s with
  | .cel k => k = n ∧ P.rt (.cel n) (c.take (n + 1))
  | _ => False) (fun x c => P.ex x ⟨S.sl, c⟩)
theorem js_retC (he : JE X T W e w) : JS X T W n (.Return (some e) pos) (wRetC n w) := fun S P h =>
  weakS (ps_ret he) fun D σ H ⟨ad, F, hn, h0, q1, q2, q3, q4, q5⟩ => ⟨ad, F, S.sl, S.cs, _, _, h0, h, fun s c v H1 ad1 hR x1 h1 r1 => by
    have xs := x1.s hn
    have hn1 := x1.le hn
    split at hR
    · obtain ⟨rfl, hR⟩ := hR
      obtain ⟨a, ha, rfl⟩ := r1
      rename_i k _
      have hl : k < ad1.length := by
        rcases Nat.lt_or_ge k ad1.length with z | z
        · exact z
        · rw [List.getElem?_eq_none z] at ha; cases ha
      refine q2 (.cel k) _ (.ref a) H1 (ad1.take (k + 1)) ⟨?_, fun b hb => xs.sub b (List.mem_of_mem_take hb), xs.keep, xs.frm⟩ ?_ (h1.hc.take _) ⟨a, ?_, rfl⟩ hR
      · rw [List.take_take, Nat.min_eq_left (Nat.le_succ k)]; exact xs.pre
      · rw [List.length_take]; omega
      · rw [List.getElem?_take, if_pos (Nat.lt_succ_self k)]; exact ha
    · exact hR.elim, raz_of hn q5⟩
def wRetN (n : Nat) : WS := fun S P => P.rt (.dat .non) (S.cs.take n)
theorem js_retN : JS X T W n (.Return none pos) (wRetN n) := fun S P h => ds_retN h
def wIfS (wt : WpT) (w1 w2 : WS) : WS := fun S P => wt S.sl S.cs (fun b c => Br b (w1 ⟨S.sl, c⟩ P) (w2 ⟨S.sl, c⟩ P)) (fun x c => P.ex x ⟨S.sl, c⟩)
theorem js_if (hc : JT X T W c wt) (h1 : JSs X T W n body w1) (h2 : JSs X T W n els w2) : JS X T W n (.If c body els pos) (wIfS wt w1 w2) := fun S P h => by
  have b1 : PSs X body (fun D σ H => ∃ S P, DSs X T n S body P ∧ tDS T X.K n S P D σ H) := ⟨fun pins s σ H D I ⟨S', P', hS, z⟩ => hS.run pins s σ H D I z⟩
  have b2 : PSs X els (fun D σ H => ∃ S P, DSs X T n S els P ∧ tDS T X.K n S P D σ H) := ⟨fun pins s σ H D I ⟨S', P', hS, z⟩ => hS.run pins s σ H D I z⟩
  exact weakS (ps_if hc b1 b2) fun D σ H ⟨ad, F, hn, h0, q1, q2, q3, q4, q5⟩ => ⟨ad, F, S.sl, S.cs, _, _, h0, h, fun k c H1 ad1 hR x1 h1' => by
    cases k with
    | true => exact iteT ⟨⟨S.sl, c⟩, P.to W, h1 _ P (hR.t rfl), tDS.go (σ := σ) (x1.s hn) (x1.le hn) h1' q1 q2 q3 q4 q5⟩
    | false => exact iteF ⟨⟨S.sl, c⟩, P.to W, h2 _ P (hR.f rfl), tDS.go (σ := σ) (x1.s hn) (x1.le hn) h1' q1 q2 q3 q4 q5⟩, raz_of hn q5⟩
/-! ### for -/
def forW (p : Pat) (wb : WS) : List D → Sta → PJ → Prop
  | [], S, P => P.nx S
  | d :: ds, S, P => asgW p d S.sl fun sl' => wb ⟨sl', S.cs⟩ { P with nx := fun S' => forW p wb ds S' P, ct := fun S' => forW p wb ds S' P, bk := P.nx }
theorem for_of {wb : WS} (hb : JSs X T W n body wb) : ∀ {items : List D} {S : Sta} {P : PJ}, forW pa wb items S P → DFor X T n pa body items S (P.to W)
  | [], S, P, h => h
  | d :: ds, S, P, h => by
    obtain ⟨sl', e, h⟩ := asgW_of h
    exact ⟨sl', e, dss_mono (hb _ _ h) (fun S' q => for_of hb q) (fun _ _ q => q) (fun _ q => q) (fun S' q => for_of hb q) (fun _ _ q => q) rfl⟩
theorem for_core {items : List D} {S S1 : Sta} {P : Post} {D : Ends} {σ : St} {H H1 : Hp} {ad ad1 : List Addr} {F : Addr → Prop} {J : It} (x1 : Ext ad F H ad1 H1) (hn : n ≤ ad.length) (h1 : Hold T X.K S1 ad1 F σ H1) (ok : ItOk T X.K F J items ad1 H1) (h : DFor X T n pa body items S1 P)
    (q1 : ∀ S' σ' H' ad', ExtS n ad F H ad' H' → n ≤ ad'.length → Hold T X.K S' ad' F σ' H' → P.nx S' → D.nx σ' H')
    (q2 : ∀ s cs' v H' ad', ExtS n ad F H ad' H' → n ≤ ad'.length → HoldC T X.K ad' F H' cs' → SlRep T X.K ad' F H' v s → P.rt s cs' → D.rt v H')
    (q5 : ∀ x S' cls d σ' H' ad', ExtS n ad F H ad' H' → n ≤ ad'.length → Hold T X.K S' ad' F σ' H' → ExRep T X.K (Mm ad' F) H' cls d x → P.ex x S' → P.W cls d σ' H') :
    ∃ Wl : Nat → Nat → St → Hp → Prop, (∃ m, Wl 0 m σ H1) ∧ ∀ i m σ H, Wl i m σ H →
      (J.stop i H ∧ D.nx σ H) ∨ (J.go i H ∧ ∃ N : St → Hp → Prop, (∀ σ' H', N σ' H' → ∃ m', m' < m ∧ Wl (i + 1) m' σ' H') ∧ ∀ x H', J.yld i H x H' → tDG T X.K pa x σ H' fun σ2 H2 => (fun D σ H => ∃ S P, DSs X T n S body P ∧ tDS T X.K n S P D σ H) { D with nx := N, ct := N, bk := D.nx } σ2 H2) := by
  have xs1 := x1.s hn
  have hn1 := x1.le hn
  refine ⟨fun i m σ' H' => ∃ ad' S', n ≤ ad'.length ∧ Hold T X.K S' ad' F σ' H' ∧ ExtS n ad1 F H1 ad' H' ∧ i ≤ items.length ∧ m = items.length - i ∧ DFor X T n pa body (items.drop i) S' P, ⟨items.length, ad1, S1, hn1, h1, .refl, Nat.zero_le _, rfl, h⟩, ?_⟩
  rintro i m σ' H' ⟨ad', S', hn', h', x', hi', rfl, hf⟩
  obtain ⟨ok1, ok2⟩ := ok F ad' H' S'.cs h'.hc x'.kp i
  by_cases hlt : i < items.length
  · have hd : items[i]? = some items[i] := List.getElem?_eq_getElem hlt
    obtain ⟨g1, g2⟩ := ok1 _ hd
    rw [List.drop_eq_getElem_cons hlt] at hf
    obtain ⟨sl', e, hf⟩ := hf
    refine .inr ⟨g1, fun σ2 H2 => ∃ ad2 S2, n ≤ ad2.length ∧ Hold T X.K S2 ad2 F σ2 H2 ∧ ExtS n ad1 F H1 ad2 H2 ∧ DFor X T n pa body (items.drop (i + 1)) S2 P, fun σ2 H2 ⟨ad2, S2, hn2, h2, x2, hf2⟩ => ⟨items.length - (i + 1), by omega, ad2, S2, hn2, h2, x2, hlt, rfl, hf2⟩, fun v H3 y => ?_⟩
    obtain ⟨gr, rv⟩ := g2 v H3 y
    obtain ⟨c3, x3⟩ := grow h'.hc gr
    refine ⟨ad', F, S', items[i], sl', h'.to x3 c3, rv, e, fun σ4 _ h4 => ⟨_, _, hf, ad', F, hn', h4, ?_, ?_, ?_, ?_, ?_⟩⟩
    · exact fun S5 σ5 H5 ad5 x5 hn5 h5 p5 => ⟨ad5, S5, hn5, h5, x'.trans ((x3.s hn').trans x5), p5⟩
    · exact fun s cs5 v5 H5 ad5 x5 hn5 c5 r5 p5 => q2 s cs5 v5 H5 ad5 (xs1.trans (x'.trans ((x3.s hn').trans x5))) hn5 c5 r5 p5
    · exact fun S5 σ5 H5 ad5 x5 hn5 h5 p5 => q1 S5 σ5 H5 ad5 (xs1.trans (x'.trans ((x3.s hn').trans x5))) hn5 h5 p5
    · exact fun S5 σ5 H5 ad5 x5 hn5 h5 p5 => ⟨ad5, S5, hn5, h5, x'.trans ((x3.s hn').trans x5), p5⟩
    · exact fun z S5 cls d σ5 H5 ad5 x5 hn5 h5 r5 p5 => q5 z S5 cls d σ5 H5 ad5 (xs1.trans (x'.trans ((x3.s hn').trans x5))) hn5 h5 r5 p5
  · have e : i = items.length := by omega
    subst e
    rw [List.drop_length] at hf
    exact .inl ⟨ok2 rfl, q1 S' σ' H' ad' (xs1.trans x') hn' h' hf⟩
def wFor (wi : WpI) (p : Pat) (wb : WS) : WS := fun S P => wi S.sl S.cs (fun items c => forW p wb items ⟨S.sl, c⟩ P) (fun x c => P.ex x ⟨S.sl, c⟩)
theorem js_for {wb : WS} (hp : PassesOwn (model X.prog X.w) X.A X.env X.xe) (hi : JI X T W tg it wi) (hg : DG X T tg pa) (hb : JSs X T W n body wb) (hc : X.calm = true := by rfl) (hs : ∀ x, foldedSetIterable it X.env x = pure x := by intro _; rfl) : JS X T W n (.For tg it body [] pos) (wFor wi pa wb) := fun S P h => by
  have b1 : PSs X body (fun D σ H => ∃ S P, DSs X T n S body P ∧ tDS T X.K n S P D σ H) := ⟨fun pins s σ H D I ⟨S', P', hS, z⟩ => hS.run pins s σ H D I z⟩
  exact weakS (ps_for hp hc hi hg b1 hs) fun D σ H ⟨ad, F, hn, h0, q1, q2, q3, q4, q5⟩ => ⟨ad, F, S.sl, S.cs, _, _, h0, h, fun items c J H1 ad1 hR x1 h1 ok => for_core (S := S) (P := P.to W) x1 hn h1 ok (for_of hb hR) q1 q2 q5, raz_of hn q5⟩
/-! ### while -/
def wWhile (wt : WpT) (wb : WS) : WS := fun S P => ∃ (I : Nat → Sta → Prop) (m0 : Nat), I m0 S ∧ ∀ m S, I m S → wt S.sl S.cs (fun b c => Br b (wb ⟨S.sl, c⟩ { P with nx := fun S' => ∃ m', m' < m ∧ I m' S', ct := fun S' => ∃ m', m' < m ∧ I m' S', bk := P.nx }) (P.nx ⟨S.sl, c⟩)) (fun x c => P.ex x ⟨S.sl, c⟩)
theorem js_while {wb : WS} (hp : PassesOwn (model X.prog X.w) X.A X.env X.xe) (hc : JT X T W c wt) (hb : JSs X T W n body wb) : JS X T W n (.While c body [] pos) (wWhile wt wb) := fun S P ⟨I, m0, hI, hs⟩ => by
  have b1 : PSs X body (fun D σ H => ∃ S P, DSs X T n S body P ∧ tDS T X.K n S P D σ H) := ⟨fun pins s σ H D I ⟨S', P', hS, z⟩ => hS.run pins s σ H D I z⟩
  refine weakS (ps_while hp hc b1) fun D σ H ⟨ad, F, hn, h1, q1, q2, q3, q4, q5⟩ => ?_
  refine ⟨fun m σ' H' => ∃ ad' S', n ≤ ad'.length ∧ Hold T X.K S' ad' F σ' H' ∧ ExtS n ad F H ad' H' ∧ I m S', ⟨m0, ad, S, hn, h1, .refl, hI⟩, ?_⟩
  rintro m σ' H' ⟨ad', S', hn', h', x', hI'⟩
  refine ⟨ad', F, S'.sl, S'.cs, _, _, h', hs m S' hI', fun b c H2 ad2 hR x2 h2 => ?_, fun x c cls d H2 ad2 hx x2 h2 er => q5 x _ cls d σ' H2 ad2 (x'.trans (x2.s hn')) (x2.le hn') h2 er hx⟩
  have x12 := x'.trans (x2.s hn')
  have hn2 := x2.le hn'
  cases b with
  | true =>
    refine iteT ⟨fun σ3 H3 => ∃ m', m' < m ∧ ∃ ad3 S3, n ≤ ad3.length ∧ Hold T X.K S3 ad3 F σ3 H3 ∧ ExtS n ad F H ad3 H3 ∧ I m' S3, fun σ3 H3 ⟨m', hm, z⟩ => ⟨m', hm, z⟩, _, _, hb _ _ (hR.t rfl), ad2, F, hn2, h2, ?_, ?_, ?_, ?_, ?_⟩
    · exact fun S5 σ5 H5 ad5 x5 hn5 h5 ⟨m', hm, p5⟩ => ⟨m', hm, ad5, S5, hn5, h5, x12.trans x5, p5⟩
    · exact fun s cs5 v5 H5 ad5 x5 hn5 c5 r5 p5 => q2 s cs5 v5 H5 ad5 (x12.trans x5) hn5 c5 r5 p5
    · exact fun S5 σ5 H5 ad5 x5 hn5 h5 p5 => q1 S5 σ5 H5 ad5 (x12.trans x5) hn5 h5 p5
    · exact fun S5 σ5 H5 ad5 x5 hn5 h5 ⟨m', hm, p5⟩ => ⟨m', hm, ad5, S5, hn5, h5, x12.trans x5, p5⟩
    · exact fun z S5 cls d σ5 H5 ad5 x5 hn5 h5 r5 p5 => q5 z S5 cls d σ5 H5 ad5 (x12.trans x5) hn5 h5 r5 p5
  | false => exact iteF (q1 _ _ H2 ad2 x12 hn2 h2 (hR.f rfl))
/-! ### a, b = .. -/
def par2 (i j : Nat) (ss : List Sl) (sl : Sls) (k : Sls → Prop) : Prop := match ss with
  | [s1, s2] => k ((sl.set i (some s1)).set j (some s2))
  | _ => False
def wPar2 (i j : Nat) (wA : WpA) : WS := fun S P => wA S.sl S.cs (fun ss c => par2 i j ss S.sl fun sl' => P.nx ⟨sl', c⟩) (fun x c => P.ex x ⟨S.sl, c⟩)
theorem js_par2 (i j : Nat) (hN : X.N.Nodup) (ha : JA X T W [a, b] wA) (hi : X.N[i]? = some x := by rfl) (hj : X.N[j]? = some y := by rfl) (hij : i ≠ j := by decide)
    (hx : X.env.scope.names.lookup x = some .local := by rfl) (hy : X.env.scope.names.lookup y = some .local := by rfl) (hc : X.calm = true := by rfl)
    (hw : swappedStores [.Tuple [.Name x px, .Name y py] kt pt] (.Tuple [a, b] k2 pt2) X.env = pure (some [x, y]) := by rfl)
    (hs : swapsWithSole [.Tuple [.Name x px, .Name y py] kt pt] (.Tuple [a, b] k2 pt2) pos.line X.env = pure false := by rfl) : JS X T W n (.Assign [.Tuple [.Name x px, .Name y py] kt pt] (.Tuple [a, b] k2 pt2) pos) (wPar2 i j wA) := fun S P h =>
  weakS (ps_par hc hN hi hj hij hx hy ha hw hs) fun D σ H ⟨ad, F, hn, h0, q1, q2, q3, q4, q5⟩ => ⟨ad, F, S.sl, S.cs, _, _, h0, h, fun ss c vs H1 ad1 hR x1 h1 r1 => by
    unfold par2 at hR
    split at hR
    · match vs, r1 with
      | [v, w], r1 => exact ⟨v, w, rfl, q1 _ _ H1 ad1 (x1.s hn) (x1.le hn) ((h1.set r1.1 i).set r1.2.1 j) hR⟩
    · exact hR.elim, raz_of hn q5⟩
def par3 (i j l : Nat) (ss : List Sl) (sl : Sls) (k : Sls → Prop) : Prop := match ss with
  | [s1, s2, s3] => k (((sl.set i (some s1)).set j (some s2)).set l (some s3))
  | _ => False
def wPar3 (i j l : Nat) (wA : WpA) : WS := fun S P => wA S.sl S.cs (fun ss c => par3 i j l ss S.sl fun sl' => P.nx ⟨sl', c⟩) (fun x c => P.ex x ⟨S.sl, c⟩)
theorem js_par3 (i j l : Nat) (hN : X.N.Nodup) (ha : JA X T W [a, b, c] wA) (hi : X.N[i]? = some x := by rfl) (hj : X.N[j]? = some y := by rfl) (hl : X.N[l]? = some z := by rfl) (hij : i ≠ j := by decide) (hil : i ≠ l := by decide) (hjl : j ≠ l := by decide)
    (hx : X.env.scope.names.lookup x = some .local := by rfl) (hy : X.env.scope.names.lookup y = some .local := by rfl) (hz : X.env.scope.names.lookup z = some .local := by rfl) (hc : X.calm = true := by rfl)
    (hw : swappedStores [.Tuple [.Name x px, .Name y py, .Name z pz] kt pt] (.Tuple [a, b, c] k2 pt2) X.env = pure (some [x, y, z]) := by rfl)
    (hs : swapsWithSole [.Tuple [.Name x px, .Name y py, .Name z pz] kt pt] (.Tuple [a, b, c] k2 pt2) pos.line X.env = pure false := by rfl) : JS X T W n (.Assign [.Tuple [.Name x px, .Name y py, .Name z pz] kt pt] (.Tuple [a, b, c] k2 pt2) pos) (wPar3 i j l wA) := fun S P h =>
  weakS (L2.ps_par3 hc hN hi hj hl hij hil hjl hx hy hz ha hw hs) fun D σ H ⟨ad, F, hn, h0, q1, q2, q3, q4, q5⟩ => ⟨ad, F, S.sl, S.cs, _, _, h0, h, fun ss c vs H1 ad1 hR x1 h1 r1 => by
    unfold par3 at hR
    split at hR
    · match vs, r1 with
      | [u, v, w], r1 => exact ⟨u, v, w, rfl, q1 _ _ H1 ad1 (x1.s hn) (x1.le hn) (((h1.set r1.1 i).set r1.2.1 j).set r1.2.2.1 l) hR⟩
    · exact hR.elim, raz_of hn q5⟩
/-- targets = a tuple or a list -/
def unpW (ps : List Pat) (s : Sl) (cs : List Cell) (sl : Sls) (k : Sls → Prop) : Prop := match s with
  | .dat (.tup ds) => asgW (.tp ps) (.tup ds) sl k
  | s => wL cs s fun ds => asgW (.tp ps) (.tup ds) sl k
theorem pg_or {t1 t2 : TG} (h1 : PG X tg t1) (h2 : PG X tg t2) : PG X tg (fun v σ H Q => t1 v σ H Q ∨ t2 v σ H Q) := ⟨fun pins s σ H v u Q I r h => h.elim (h1.run pins s σ H v u Q I r) (h2.run pins s σ H v u Q I r)⟩
def wTupS (ps : List Pat) (w : WpE) : WS := fun S P => w S.sl S.cs (fun s c => unpW ps s c S.sl fun sl' => P.nx ⟨sl', c⟩) (fun x c => P.ex x ⟨S.sl, c⟩)
theorem js_tup {ps : List Pat} {k m : Nat} {tpos : Pos} (he : JE X T W e w) (hg : DGs X T es ps) (hn : (assignEach es X.env).length = m := by rfl) (hp : ps.length = m := by rfl) (hst : (assignEach es X.env).findIdx? (·.1) = none := by rfl) (hc : X.calm = true := by rfl)
    (hs : swapsWithSole [.Tuple es k tpos] e pos.line X.env = pure false := by rfl) (hw : swappedStores [.Tuple es k tpos] e X.env = pure none := by rfl)
    (h1 : (assignEach [.Tuple es k tpos] X.env).map (·.2) = [assign (.Tuple es k tpos) X.env] := by rfl) : JS X T W n (.Assign [.Tuple es k tpos] e pos) (wTupS ps w) := fun S P h =>
  weakS (ps_asg he (pg_or (dg_tup hc hg hn hp hst) (pg_unl (n := m) hc hg hn hst)) hs hw h1) fun D σ H ⟨ad, F, hn', h0, q1, q2, q3, q4, q5⟩ => ⟨ad, F, S.sl, S.cs, _, _, h0, h, fun s c v H1 ad1 hR x1 h1 r1 => by
    unfold unpW at hR
    split at hR
    · obtain ⟨sl', ha, hR⟩ := asgW_of hR
      exact .inl ⟨ad1, F, ⟨S.sl, c⟩, _, sl', h1, r1, ha, fun σ' _ h2 => q1 _ _ H1 ad1 (x1.s hn') (x1.le hn') h2 hR⟩
    · obtain ⟨ds, hL, hR⟩ := wL_of hR
      obtain ⟨sl', ha, hR⟩ := asgW_of hR
      have ha : asgPs ps ds S.sl = some sl' := ha
      obtain ⟨a, ws, rfl, e1, q0⟩ := rd_lst hL h1.hc r1
      exact .inr ⟨a, ws, rfl, SqL.of e1, by rw [q0.length, ← hp]; exact asgPs_len ha, ad1, F, ⟨S.sl, c⟩, ds, sl', h1, q0, ha, fun σ' _ h2 => q1 _ _ H1 ad1 (x1.s hn') (x1.le hn') h2 hR⟩, raz_of hn' q5⟩
/-! ### x op= e -/
def wAug (v : Nat) (w : WpE) (ow : W2) : WS := fun S P => match S.sl[v]? with
  | some (some s1) => w S.sl S.cs (fun s2 c => ow s1 s2 c fun s c' => P.nx ⟨S.sl.set v (some s), c'⟩) (fun x c => P.ex x ⟨S.sl, c⟩)
  | _ => False
theorem js_aug (v : Nat) {op : Operator} {ow : W2} (hN : X.N.Nodup) (ho : JIop X T op ow) (he : JE X T W e w) (hi : X.N[v]? = some x := by rfl) (hx : Loc X.env.scope x := by first | exact Or.inl rfl | exact Or.inr rfl) (hf : X.fn x = true ∨ X.env.scope.names.lookup x = some .local := by first | exact .inl rfl | exact .inr rfl) : JS X T W n (.AugAssign (.Name x p') op e pos) (wAug v w ow) := fun S P h => by
  unfold wAug at h
  split at h
  · rename_i s1 hs
    refine weakS (ps_aug hN hi hx he opAll hf) fun D σ H ⟨ad, F, hn, h0, q1, q2, q3, q4, q5⟩ => ?_
    obtain ⟨u, hu, ru⟩ := h0.sl v s1 hs
    refine ⟨u, hu, ad, F, S.sl, S.cs, _, _, h0, h, fun s2 c v2 H1 ad1 hR x1 h1 r1 => ?_, raz_of hn q5⟩
    obtain ⟨s, c', ⟨r, o1, o2⟩, hR⟩ := ho _ _ _ _ hR
    refine ⟨r, o1, o2 ad1 F H1 u v2 _ h1.hc (ru.ext x1) r1 fun z H' ad' x2 k2 r2 => ?_⟩
    have x12 := x1.trans h1.hc x2
    exact q1 _ _ H' ad' (x12.s hn) (x12.le hn) ((h1.to x2 k2).set r2 v) hR
  · exact h.elim
/-! ### o[i] = e -/
def setLW (s : Sl) (i : Sl) (d : Sl) (cs : List Cell) (k : List Cell → Prop) : Prop := match s, i, d with
  | .cel j, .dat (.int i), .dat d => match cs[j]? with
    | some (.lst ds) => match ixN ds.length i with
      | some m => k (cs.set j (.lst (ds.set m d)))
      | none => False
    | _ => False
  | _, _, _ => False
def wSetL (we wo wx : WpE) : WS := fun S P => we S.sl S.cs (fun d c1 => wo S.sl c1 (fun s c2 => wx S.sl c2 (fun i c3 => setLW s i d c3 fun c4 => P.nx ⟨S.sl, c4⟩) (fun x c => P.ex x ⟨S.sl, c⟩)) (fun x c => P.ex x ⟨S.sl, c⟩)) (fun x c => P.ex x ⟨S.sl, c⟩)
theorem js_setL (he : JE X T W e we) (ho : JE X T W o wo) (hx : JE X T W ix wx)
    (ha : ∀ v, assign (.Subscript o ix p') X.env v = (do
      let ov ← holding [v] (eval o X.env)
      let iv ← holding [v, ov] (eval ix X.env)
      standAt p'
      holding [v, ov, iv] (setItem ov iv v)
      release [v, ov, iv] []) := by intro _; rfl)
    (hs : swapsWithSole [.Subscript o ix p'] e pos.line X.env = pure false := by rfl) (hw : swappedStores [.Subscript o ix p'] e X.env = pure none := by rfl)
    (h1 : (assignEach [.Subscript o ix p'] X.env).map (·.2) = [assign (.Subscript o ix p') X.env] := by rfl) : JS X T W n (.Assign [.Subscript o ix p'] e pos) (wSetL we wo wx) := fun S P h =>
  weakS (ps_asg he (pg_sub ho hx set_list ha) hs hw h1) fun D σ H ⟨ad, F, hn, h0, q1, q2, q3, q4, q5⟩ => ⟨ad, F, S.sl, S.cs, _, _, h0, h, fun d c1 v H1 ad1 hR1 x1 h1 r1 => ⟨ad1, F, S.sl, c1, _, _, h1, hR1, fun s c2 w H2 ad2 hR2 x2 h2 r2 => ⟨ad2, F, S.sl, c2, _, _, h2, hR2, fun i c3 z H3 ad3 hR3 x3 h3 r3 => by
    unfold setLW at hR3
    split at hR3
    · rename_i j ii dd
      split at hR3
      · rename_i ds hk
        split at hR3
        · rename_i m hm
          cases r3
          have r2' := SlRep.ext x3 r2
          obtain ⟨a, ea, rfl⟩ := r2'
          obtain ⟨vs, e1, q0⟩ := h3.hc.ce j a _ ea hk
          have rd : Rep T X.K (Mm ad3 F) H3 v dd := SlRep.ext (s := .dat dd) x3 (SlRep.ext (s := .dat dd) x2 r1)
          refine ⟨a, vs, ii, m, rfl, rfl, e1, by rw [q0.length]; exact hm, ?_⟩
          have kp : Kp (Mm ad3 F) H3 (Mm ad3 F) (upd H3 a (.lst (vs.set m v))) := fun b o e nn => ⟨by rw [upd_ne (fun z => nn (.inl (by rw [z]; exact List.mem_of_getElem? ea)))]; exact e, nn⟩
          obtain ⟨k4, x4⟩ := h3.hc.setc (o := .lst (vs.set m v)) (c := .lst (ds.set m dd)) ea ⟨_, upd_same, (q0.set rd m).kp kp⟩
          have x := x1.trans h1.hc (x2.trans h2.hc (x3.trans h3.hc x4))
          exact q1 _ _ _ ad3 (x.s hn) (x.le hn) (h3.to x4 k4) hR3
        · exact hR3.elim
      · exact hR3.elim
    · exact hR3.elim, ((raz_of hn q5).on x1 h1).on x2 h2⟩, (raz_of hn q5).on x1 h1⟩, raz_of hn q5⟩
/-! ### o.f = e -/
def setFW (cn : Nat) (f : Str) (s d : Sl) (cs : List Cell) (k : List Cell → Prop) : Prop := match s, d with
  | .cel j, .dat d => match cs[j]? with
    | some (.ins m fs) => m = cn ∧ fIdx (fs.map (·.1)) f = none ∧ fs.length < 1000 ∧ k (cs.set j (.ins cn (fs ++ [(f, d)])))
    | _ => False
  | _, _ => False
def wSetF (cn : Nat) (f : Str) (we wo : WpE) : WS := fun S P => we S.sl S.cs (fun d c1 => wo S.sl c1 (fun s c2 => setFW cn f s d c2 fun c3 => P.nx ⟨S.sl, c3⟩) (fun x c => P.ex x ⟨S.sl, c⟩)) (fun x c => P.ex x ⟨S.sl, c⟩)
theorem js_fld {cn : Nat} {C : Addr} {fn : List Str} {f : Str} (hT : T cn = some (C, fn)) (hc : Cls X.K C) (hn : NoAttr X.K C f) (he : JE X T W e we) (ho : JE X T W o wo) (hs : swapsWith e (some (.Attribute o f p')) pos.line X.env = pure false := by rfl) : JS X T W n (.Assign [.Attribute o f p'] e pos) (wSetF cn f we wo) := fun S P h =>
  weakS (ps_fld ho he hs) fun D σ H ⟨ad, F, hn', h0, q1, q2, q3, q4, q5⟩ => ⟨ad, F, S.sl, S.cs, _, _, h0, h, fun d c1 v H1 ad1 hR1 x1 h1 r1 => ⟨ad1, F, S.sl, c1, _, _, h1, hR1, fun s c2 w H2 ad2 hR2 x2 h2 r2 => by
    unfold setFW at hR2
    split at hR2
    · rename_i j dd
      split at hR2
      · rename_i m fs hk
        obtain ⟨rfl, hf, hl, hR2⟩ := hR2
        obtain ⟨a, ea, rfl⟩ := r2
        obtain ⟨C', fn', dx, vs, ht, e1, lv, rv⟩ := h2.hc.ce j a _ ea hk
        rw [hT] at ht
        cases ht
        have rd : Rep T X.K (Mm ad2 F) H2 v dd := SlRep.ext (s := .dat dd) x2 r1
        have lz : ((fs.map (·.1)).zip vs).length < 1000 := by rw [List.length_zip, List.length_map]; omega
        refine ⟨a, C, dx, _, rfl, e1, hc, hn, lz, ?_⟩
        rw [putF_new hf (by rw [lv, List.length_map])]
        have kp : Kp (Mm ad2 F) H2 (Mm ad2 F) (upd H2 a (.ins C dx ((fs.map (·.1) ++ [f]).zip (vs ++ [v])))) := fun b o e n => ⟨by rw [upd_ne (fun z => n (.inl (by rw [z]; exact List.mem_of_getElem? ea)))]; exact e, n⟩
        obtain ⟨c3, x3⟩ := h2.hc.setc (o := .ins C dx ((fs.map (·.1) ++ [f]).zip (vs ++ [v]))) (c := .ins m (fs ++ [(f, dd)])) ea
          ⟨C, fn, dx, vs ++ [v], hT, by rw [upd_same, List.map_append]; rfl, by simp [lv], by rw [List.map_append]; exact (rv.append (.cons rd .nil)).kp kp⟩
        have x : Ext ad F H ad2 _ := x1.trans h1.hc (x2.trans h2.hc x3)
        exact q1 _ _ _ ad2 (x.s hn') (x.le hn') (h2.to x3 c3) hR2
      · exact hR2.elim
    · exact hR2.elim, (raz_of hn' q5).on x1 h1⟩, raz_of hn' q5⟩
/-! ### xs.append(e) -/
def appW (s d : Sl) (cs : List Cell) (R : RV) : Prop := match s, d with
  | .cel j, .dat d => match cs[j]? with
    | some (.lst ds) => ds.length < sizeLine ∧ R (.dat .non) (cs.set j (.lst (ds ++ [d])))
    | _ => False
  | _, _ => False
def wApp (wo we : WpE) : WpE := fun sl cs R Rx => wo sl cs (fun s c1 => (match s with
  | .cel j => match c1[j]? with
    | some (.lst _) => True
    | _ => False
  | _ => False) ∧ we sl c1 (fun d c2 => appW s d c2 R) Rx) Rx
/-! ### the last cell becomes data -/
def frzW (i n : Nat) (S : Sta) (k : Sta → Prop) : Prop := match S.sl[i]? with
  | some (some (.cel m)) => n ≤ m ∧ match S.cs[m]? with
    | some (.lst ds) => k ⟨S.sl.map (frzS m ds), S.cs.take m⟩
    | _ => False
  | _ => False
theorem jss_frz (i : Nat) {sts : List Stmt} {w : WS} (h : JSs X T W n sts w) : JSs X T W n sts (fun S P => frzW i n S fun S' => w S' P) := fun S P hw => by
  have hw : frzW i n S fun S' => w S' P := hw
  unfold frzW at hw
  split at hw
  · obtain ⟨hm, hw⟩ := hw
    split at hw
    · rename_i ds hc
      exact dss_freeze _ hm hc (h _ P hw)
    · exact hw.elim
  · exact hw.elim
end
/-! ### defs -/
def endJ (n : Nat) (s : Sl) (cs' : List Cell) : PJ := { nx := fun S => s = .dat .non ∧ S.cs.take n = cs', rt := fun r c => r = s ∧ c = cs' }
def endJX (n : Nat) (x : Exc) (cs' : List Cell) : PJ := { nx := fun _ => False, rt := fun _ _ => False, ex := fun y S => y = x ∧ S.cs.take n = cs' }
/-- the contract that a def's reading is -/
def ctOf (N ps : List Str) (w : Nat → WS) : Ct := fun args cs s cs' => args.length = ps.length ∧ w cs.length (st0 N args cs) (endJ cs.length s cs')
def ctXOf (N ps : List Str) (w : Nat → WS) : CtX := fun args cs x cs' => args.length = ps.length ∧ w cs.length (st0 N args cs) (endJX cs.length x cs')
section
variable {T : Tab} {P : Program} {w : World} {K : PySem.W.Frag} {mg : Str → Option Value} {base : Heap} {x qual : Str} {st : Stmt} {f : Addr} {fd : FuncData} {N ps : List Str} {k : Nat} {ws : Nat → WS}
theorem fn_J (F : Fun K x qual st f fd) (Sc : FnScope N ps (defScope st))
    (body : ∀ cdv A outer sh H E, Room k (cx0 P w K mg base N qual st f cdv A outer sh H E).A → ∀ n, JSs (cx0 P w K mg base N qual st f cdv A outer sh H E) T W0 n (defBody st) (ws n)) : FnOk P w K mg base CX0 (k + 1) f fd ps (spC T K (ctOf N ps ws)) :=
  fn_ok F Sc (fun _ _ _ _ h => h.1) fun cdv A outer sh H E hr args cs s cs' h => body cdv A outer sh H E hr _ _ _ h.2
theorem fn_JD {dvs : List V} {kws : List (Str × V)} (F : FunD K x qual (defArgs st) (defBody st) (defScope st) dvs kws f fd) (Sc : FnScope N ps (defScope st))
    (body : ∀ cdv A outer sh H E, Room k (cx0 P w K mg base N qual st f cdv A outer sh H E).A → ∀ n, JSs (cx0 P w K mg base N qual st f cdv A outer sh H E) T W0 n (defBody st) (ws n)) : FnOk P w K mg base CX0 (k + 1) f fd ps (spC T K (ctOf N ps ws)) :=
  fn_okD F Sc (fun _ _ _ _ h => h.1) fun cdv A outer sh H E hr args cs s cs' h => body cdv A outer sh H E hr _ _ _ h.2
theorem fn_JX (F : Fun K x qual st f fd) (Sc : FnScope N ps (defScope st))
    (body : ∀ cdv A outer sh H E, Room k (cxX P w K mg base N qual st f cdv A outer sh H E).nox.A → ∀ n, JSs (cxX P w K mg base N qual st f cdv A outer sh H E).nox T W0 n (defBody st) (ws n))
    (bodyX : ∀ cdv A outer sh H E, Room k (cxX P w K mg base N qual st f cdv A outer sh H E).A → Takes (cxX P w K mg base N qual st f cdv A outer sh H E) (fun cls d _ H => E cls d H) → ∀ n, JSs (cxX P w K mg base N qual st f cdv A outer sh H E) T (fun cls d _ H => E cls d H) n (defBody st) (ws n)) :
    FnOk P w K mg base (L2.CX P w) (k + 1) f fd ps (spX T K (ctOf N ps ws) (ctXOf N ps ws)) :=
  fn_okX F Sc (fun _ _ _ _ h => h.1) (fun _ _ _ _ h => h.1) (fun cdv A outer sh H E hr args cs s cs' h => body cdv A outer sh H E hr _ _ _ h.2) fun cdv A outer sh H E hr tk args cs x cs' h => bodyX cdv A outer sh H E hr tk _ _ _ h.2
end
end Dl

namespace Dl
open PySem L2
def optW (o : Option Bool) (k : Bool → Prop) : Prop := match o with
  | some b => k b
  | none => False
theorem optW_of {o : Option Bool} {k : Bool → Prop} (h : optW o k) : ∃ b, o = some b ∧ k b := by
  unfold optW at h
  split at h
  · exact ⟨_, rfl, h⟩
  · exact h.elim
section
variable {X : Cx} {T : Tab} {W : WX} {n : Nat} {a b c e e2 o ix it tg : Expr} {es : List Expr} {pos apos p p2 p' : Pos} {wa wb we wo wx w : WpE} {wt : WpT} {wA : WpA} {x y z : Str} {u : String} {C2 : Addr}
/-! ### xs.append(e) -/
theorem je_app (ho : JE X T W o wo) (he : JE X T W e we) (hb : attributeBase o "append" X.env (eval o X.env) = eval o X.env := by rfl) (hfew : ((backTo pos (starEach [e] X.env)).all (fun x => !x.1) && (backToKw pos (keywordEach [] X.env)).all (fun x => x.1.isSome) && decide (([e] : List Expr).length + ([] : List Keyword).length + (if ([] : List Keyword).isEmpty then 0 else 1) < 30)) = true := by rfl)
    (hl : (apos.endLine == pos.line) = true := by rfl) (hs : starEach [e] X.env = (false, eval e X.env) :: starEach [] X.env := by rfl) (hpl : (backTo pos (starEach [] X.env)).any (·.1) = false := by rfl) : JE X T W (.Call (.Attribute o "append" apos) [e] [] pos) (wApp wo we) :=
  weak (pe_bm PySem.F.plainAttrs_list PySem.F.slot_list_append PySem.F.type_list_append mt_append ho (ja_cons he ja_nil hs) hb hfew hl hs hpl) fun σ H Q ⟨ad, F, sl, cs, R, Rx, h0, hw, q, qx⟩ => ⟨ad, F, sl, cs, _, Rx, h0, hw, fun s c1 v H1 ad1 hw1 x1 h1 r1 => by
    obtain ⟨hs1, hw1⟩ := hw1
    split at hs1
    · rename_i j
      split at hs1
      · rename_i ds0 hk0
        have r1' := r1
        obtain ⟨l, el, rfl⟩ := r1
        obtain ⟨vs0, e0, q0⟩ := h1.hc.ce j l _ el hk0
        refine ⟨.inl ⟨rfl, vs0, SqL.of e0⟩, ad1, F, sl, c1, (fun ss c2 => match ss with
          | [d] => appW (.cel j) d c2 R
          | _ => False), Rx, h1, hw1, fun ss c2 ws H2 ad2 hw2 x2 h2 r2 => ?_, qx.on x1 h1⟩
        match ss, ws, r2 with
        | [s2], [y], r2 =>
          have hw2 : appW (.cel j) s2 c2 R := hw2
          match s2, r2, hw2 with
          | .dat d, r2, hw2 =>
            have hw2 : (match c2[j]? with
              | some (.lst ds) => ds.length < sizeLine ∧ R (.dat .non) (c2.set j (.lst (ds ++ [d])))
              | _ => False) := hw2
            split at hw2
            · rename_i ds hk
              have el2 : ad2[j]? = some l := by
                obtain ⟨l', el', e⟩ := SlRep.ext (s := .cel j) x2 r1'
                cases e
                exact el'
              obtain ⟨vs, e1, q1⟩ := h2.hc.ce j l _ el2 hk
              refine ⟨l, vs, y, rfl, rfl, e1, by rw [q1.length]; exact hw2.1, ?_⟩
              have kp : Kp (Mm ad2 F) H2 (Mm ad2 F) (upd H2 l (.lst (vs ++ [y]))) := fun b o e nn => ⟨by rw [upd_ne (fun z => nn (.inl (by rw [z]; exact List.mem_of_getElem? el2)))]; exact e, nn⟩
              obtain ⟨k4, x4⟩ := h2.hc.setc (o := .lst (vs ++ [y])) (c := .lst (ds ++ [d])) el2 ⟨_, upd_same, (q1.append (.cons r2.1 .nil)).kp kp⟩
              exact q _ _ .non _ ad2 hw2.2 (x1.trans h1.hc (x2.trans h2.hc x4)) (h2.to x4 k4) Rep.non
            · exact hw2.elim
          | .cel _, _, hw2 => exact hw2.elim
      · exact hs1.elim
    · exact hs1.elim, qx⟩
/-! ### isinstance(e, C) -/
def isiW (tb : String → Option Bool) (ob : Nat → Option Bool) (s : Sl) (k : Bool → Prop) : Prop := match s with
  | .dat (.obj n _) => optW (ob n) k
  | .dat d => match tyD d with
    | some t => optW (tb t) k
    | none => False
  | _ => False
def wIsi (tb : String → Option Bool) (ob : Nat → Option Bool) (w : WpE) : WpE := fun sl cs R Rx => w sl cs (fun s c => isiW tb ob s fun b => R (.dat (.bl b)) c) Rx
/-- what is known of the objects' classes against the value c -/
def ObIs (K : PySem.W.Frag) (T : Tab) (c : Value) (ob : Nat → Option Bool) : Prop := ∀ n b, ob n = some b → ∃ C fn, T n = some (C, fn) ∧ IsiC K C ∧ PySem.W.kitOne K (.ref C) c = some b
theorem je_isiB {ob : Nat → Option Bool} (hi : X.mg "isinstance" = none) (hm : X.mg x = none) (hv : bootBuiltins x = some (.type u)) (hob : ObIs X.K T (.type u) ob) (he : JE X T W e w) (hg : Gl X "isinstance" := by rfl) (hg2 : Gl X x := by rfl) (hn : x ≠ "__name__" := by decide) (hdb : (x == ("__debug__" : Str)) = false := by decide)
    (hs1 : starEach [e, .Name x p2] X.env = (false, eval e X.env) :: starEach [.Name x p2] X.env := by rfl) (hs2 : starEach [.Name x p2] X.env = (false, eval (.Name x p2) X.env) :: starEach [] X.env := by rfl) (hpl : (backTo pos (starEach [.Name x p2] X.env)).any (·.1) = false := by rfl) :
    JE X T W (.Call (.Name "isinstance" p) [e, .Name x p2] [] pos) (wIsi (fun t => kitB t u) ob w) :=
  weak (pe_callB call_isi hg hi (by decide +kernel) (pa_cons he (pa_cons (pe_bltn (v := .ty u) hg2 hm hv rfl hn hdb) pa_nil hs2) hs1) (by decide) (by decide) hs1 hpl) fun σ H Q ⟨ad, F, sl, cs, R, Rx, h0, hw, q, qx⟩ => ⟨ad, F, sl, cs, _, Rx, h0, hw, fun s c1 v H1 ad1 hw1 x1 h1 r1 => by
    unfold isiW at hw1
    split at hw1
    · obtain ⟨k, hk, hR⟩ := optW_of hw1
      obtain ⟨C, fn, hT, hI, hk⟩ := hob _ _ hk
      cases r1 with
      | @obj a C' dx _ fn' vs' _ ht na e1 hl r =>
        rw [hT] at ht
        cases ht
        exact ⟨_, .ty u, .ref C, .type u, k, rfl, .ty u, .base (.ins e1 hI.cl hI.ca hI.cn hI.ct hI.cm), hk, q _ c1 _ H1 ad1 hR x1 h1 Rep.bl⟩
    · split at hw1
      · rename_i ht
        obtain ⟨k, hk, hR⟩ := optW_of hw1
        exact ⟨v, .ty u, .type _, .type u, k, rfl, .ty u, tyx_of r1 ht, kit_ty hk, q _ c1 _ H1 ad1 hR x1 h1 Rep.bl⟩
      · exact hw1.elim
    · exact hw1.elim, qx⟩
theorem je_isiC {tb : String → Option Bool} {ob : Nat → Option Bool} (hi : X.mg "isinstance" = none) (hm : X.mg x = some (.ref C2)) (htb : ∀ t b, tb t = some b → PySem.W.kitOne X.K (.type t) (.ref C2) = some b) (hob : ObIs X.K T (.ref C2) ob) (he : JE X T W e w) (hg : Gl X "isinstance" := by rfl) (hg2 : Gl X x := by rfl) (hdb : (x == ("__debug__" : Str)) = false := by decide)
    (hs1 : starEach [e, .Name x p2] X.env = (false, eval e X.env) :: starEach [.Name x p2] X.env := by rfl) (hs2 : starEach [.Name x p2] X.env = (false, eval (.Name x p2) X.env) :: starEach [] X.env := by rfl) (hpl : (backTo pos (starEach [.Name x p2] X.env)).any (·.1) = false := by rfl) :
    JE X T W (.Call (.Name "isinstance" p) [e, .Name x p2] [] pos) (wIsi tb ob w) :=
  weak (pe_callB call_isi hg hi (by decide +kernel) (pa_cons he (pa_cons (pe_glob (v := .ref C2) hg2 hm rfl hdb) pa_nil hs2) hs1) (by decide) (by decide) hs1 hpl) fun σ H Q ⟨ad, F, sl, cs, R, Rx, h0, hw, q, qx⟩ => ⟨ad, F, sl, cs, _, Rx, h0, hw, fun s c1 v H1 ad1 hw1 x1 h1 r1 => by
    unfold isiW at hw1
    split at hw1
    · obtain ⟨k, hk, hR⟩ := optW_of hw1
      obtain ⟨C, fn, hT, hI, hk⟩ := hob _ _ hk
      cases r1 with
      | @obj a C' dx _ fn' vs' _ ht na e1 hl r =>
        rw [hT] at ht
        cases ht
        exact ⟨_, .ref C2, .ref C, .ref C2, k, rfl, .own C2, .base (.ins e1 hI.cl hI.ca hI.cn hI.ct hI.cm), hk, q _ c1 _ H1 ad1 hR x1 h1 Rep.bl⟩
    · split at hw1
      · rename_i ht
        obtain ⟨k, hk, hR⟩ := optW_of hw1
        exact ⟨v, .ref C2, .type _, .ref C2, k, rfl, .own C2, tyx_of r1 ht, htb _ _ hk, q _ c1 _ H1 ad1 hR x1 h1 Rep.bl⟩
      · exact hw1.elim
    · exact hw1.elim, qx⟩
/-! ### raise C(e) -/
def wRaise1 (m : Nat) (w : WpE) : WS := fun S P => w S.sl S.cs (fun s c => isDat s fun d => P.ex ⟨m, [d]⟩ ⟨S.sl, c⟩) (fun x c => P.ex x ⟨S.sl, c⟩)
theorem js_raise1 {m k : Nat} {f g : Str} {C fI : Addr} {fd : FuncData} {pos2 : Pos} (tk : Takes X W) (oc : OexC X.K C) (iC : PySem.W.findIn X.K (.ref C) "__init__" = some (some (.ref fI))) (tI : PySem.W.typeIn X.K (.ref fI) = some (.type "function"))
    (F1 : FnOk X.prog X.w X.K X.mg X.base CX0 k fI fd ["self", g] (spE1 C f)) (hr : Room (k + 1) X.A) (hb : Binds X.K fd ["self", g] []) (hm : X.mg x = some (.ref C)) (hT : T m = some (C, [f])) (ha : JE X T W e w) (hc : X.calm = true := by rfl) (hg : Gl X x := by rfl)
    (hdb : (x == ("__debug__" : Str)) = false := by decide) (he : starEach [e] X.env = (false, eval e X.env) :: starEach [] X.env := by rfl) : JS X T W n (.Raise (some (.Call (.Name x p) [e] [] pos)) none pos2) (wRaise1 m w) := fun S P h =>
  weakS (ps_raise hc tk (pmk_oex oc iC tI F1 hr hb .nil pass0 hg hm (ja_cons ha ja_nil he) hdb he rfl)) fun D σ H ⟨ad, F, hn, h0, q1, q2, q3, q4, q5⟩ => ⟨ad, F, S.sl, S.cs, (fun ss c => match ss with
      | [s] => isDat s fun d => P.ex ⟨m, [d]⟩ ⟨S.sl, c⟩
      | _ => False), (fun x c => P.ex x ⟨S.sl, c⟩), h0, h, fun ss c1 vs H1 ad1 hR x1 h1 r1 => by
    match ss, vs, r1 with
    | [s], [v], r1 =>
      have hR' := isDat_of (s := s) hR
      clear hR
      obtain ⟨d, e0, hR⟩ := hR'
      subst e0
      refine ⟨by show 1 ≤ 1000; decide, fun a na => ⟨a, v, rfl, upd_same, fun dx ndx ne => ⟨rfl, dx, [(f, v)], upd_same, ?_, ?_, ?_⟩⟩⟩
      · rw [upd_ne ne, upd_same]
      · rw [upd_ne ne] at ndx; exact ndx
      · have n1 : H1 dx = none := by rw [upd_ne ne] at ndx; exact ndx
        have eH : upd (del (upd (upd (upd H1 a (exo a C none)) dx (exd dx [(f, v)])) a (exo a C (some dx))) a) dx (.xd [(f, v)]) = upd H1 dx (.xd [(f, v)]) := by
          funext b
          by_cases hb : b = dx
          · rw [hb, upd_same, upd_same]
          · rw [upd_ne hb, upd_ne hb]
            by_cases hba : b = a
            · rw [hba, del_same, na]
            · rw [del_ne hba, upd_ne hba, upd_ne hb, upd_ne hba]
        rw [eH]
        obtain ⟨c3, x3⟩ := h1.hc.newo (o := .xd [(f, v)]) n1
        have hn1 := x1.le hn
        exact q5 ⟨m, [d]⟩ ⟨S.sl, c1⟩ (.ref C) (some dx) σ _ ad1 ((x1.trans h1.hc x3).s hn) hn1 (h1.to x3 c3) ⟨C, [f], hT, rfl, .inr ⟨dx, [v], rfl, h1.hc.new n1, upd_same, rfl, .cons (Rep.kp x3.kp r1.1) .nil⟩⟩ hR, raz_of hn q5⟩
/-! ### try -/
def errS (m : Nat) (a : Addr) (d : Option Addr) (fs : List D) : Sl := .dat (.err m a d fs)
/-- the post of the clause's suite: its name is gone behind it -/
def sufJ (i : Nat) (P : PJ) : PJ := { nx := fun S' => P.nx ⟨S'.sl.set i none, S'.cs⟩, rt := P.rt, bk := fun S' => P.bk ⟨S'.sl.set i none, S'.cs⟩, ct := fun S' => P.ct ⟨S'.sl.set i none, S'.cs⟩ }
def wTry (mt : Nat → Option Bool) (i : Nat) (wb : WS) (ws : Nat → Addr → Option Addr → WS) : WS := fun S P => wb S { P with ex := fun x S' => match mt x.n with
  | some true => ∀ a d, ws x.n a d ⟨S'.sl.set i (some (.dat (.err x.n a d x.fs))), S'.cs⟩ (sufJ i P)
  | some false => P.ex x S'
  | none => False }
theorem js_try {body suite : List Stmt} {b0 : Stmt} {pos' np : Pos} {i : Nat} {cv : Value} {mt : Nat → Option Bool} {wb : WS} {ws : Nat → Addr → Option Addr → WS} (tk : Takes X W) (hN : X.N.Nodup) (hc : Names X x cv)
    (hmt : ∀ m b, mt m = some b → ∀ C fn, T m = some (C, fn) → PySem.W.exmOne X.K (.ref C) cv = some b)
    (hb : ∀ (V : WX) (pn : List (Addr × Obj)) (xe : Value → Shared → Prop), Takes (X.tr pn xe) V → PassesOwn (model X.prog X.w) X.A X.env xe → JSs (X.tr pn xe) T V n body wb)
    (hsu : ∀ (m : Nat) (a : Addr) (oe : Obj) (d : Option Addr) (C : Addr) (fn : List Str) (pn : List (Addr × Obj)), mt m = some true → T m = some (C, fn) → Zc (.ref C) d oe → (∃ vs, oe.data = .fields vs) → JSs (X.suite a ((a, oe) :: pn)) T W0 n (b0 :: suite) (ws m a d))
    (hs : X.stack = X.env :: X.outer := by rfl) (hf : X.env.frame = some X.env.locals := by rfl) (hi : X.N[i]? = some y := by rfl) (hln : X.env.kindOf y = some .local := by rfl) :
    JS X T W n (.Try body [.ExceptHandler (some (.Name x np)) (some y) (b0 :: suite) pos'] [] [] pos) (wTry mt i wb ws) := fun S P h => by
  let ts : Addr → Value → Option Addr → TS := fun a cls d D σ H => ∃ m C fn S1 P1, cls = .ref C ∧ mt m = some true ∧ T m = some (C, fn) ∧ ws m a d S1 P1 ∧ tDS T X.K n S1 (P1.to W0) D σ H
  have hsu' : ∀ (a : Addr) (oe : Obj) (cls : Value) (d : Option Addr) (pn : List (Addr × Obj)), Zc cls d oe → (∃ vs, oe.data = .fields vs) → PSs (X.suite a ((a, oe) :: pn)) (b0 :: suite) (ts a cls d) := fun a oe cls d pn hz hv => ⟨fun pins s σ H D I z => by
    obtain ⟨m, C, fn, S1, P1, rfl, h1, h2, h3, z⟩ := z
    exact (hsu m a oe d C fn pn h1 h2 hz hv S1 P1 h3).run pins s σ H D I z⟩
  let tb : WX → TS := fun V D σ H => ∃ S1 P1, wb S1 P1 ∧ tDS T X.K n S1 (P1.to V) D σ H
  have hb' : ∀ (V : WX) (pn : List (Addr × Obj)) (xe : Value → Shared → Prop), Takes (X.tr pn xe) V → PassesOwn (model X.prog X.w) X.A X.env xe → PSs (X.tr pn xe) body (tb V) := fun V pn xe t po => ⟨fun pins s σ H D I z => by
    obtain ⟨S1, P1, h1, z⟩ := z
    exact (hb V pn xe t po S1 P1 h1).run pins s σ H D I z⟩
  refine weakS (ps_try_as (ts := ts) (tb := tb) hs hf hN hi hln hc tk hb' hsu') fun D σ H ⟨ad, F, hn, h0, q1, q2, q3, q4, q5⟩ => ?_
  refine ⟨S, _, h, ad, F, hn, h0, q1, q2, q3, q4, ?_⟩
  intro x0 S2 cls d σ' H' ad' x' hn' h' er hx
  obtain ⟨C, fn, e1, e2, er'⟩ := id er
  have hx : match mt x0.n with
    | some true => ∀ a d, ws x0.n a d ⟨S2.sl.set i (some (.dat (.err x0.n a d x0.fs))), S2.cs⟩ (sufJ i P)
    | some false => P.ex x0 S2
    | none => False := hx
  split at hx
  · rename_i hm
    refine ⟨true, by rw [e2]; exact hmt _ _ hm C fn e1, fun _ a na => ⟨x0.n, C, fn, _, sufJ i P, e2, hm, e1, hx a d, ?_⟩, fun z => nomatch z⟩
    have rp : Rep T X.K (Mm ad' F) H' (.ref a) (.err x0.n a d x0.fs) := by
      rcases er' with ⟨f1, f2, f3⟩ | ⟨dd, vs, a1, a2, a3, a4, a5⟩
      · rw [f2, f3]
        subst f1
        exact .err (vs := []) e1 (.inl ⟨rfl, rfl, rfl⟩) .nil
      · exact .err e1 (.inr ⟨dd, a1, a2, a3, a4⟩) a5
    have hh := h'.set (s := .dat (.err x0.n a d x0.fs)) rp i
    refine ⟨ad', F, hn', hh, ?_, ?_, ?_, ?_, fun _ _ _ _ _ _ _ _ _ _ _ z => z.elim⟩
    · exact fun S3 σ3 H3 ad3 x3 hn3 h3 p => q1 _ _ H3 ad3 (x'.trans x3) hn3 (h3.unset i) p
    · exact fun s cs3 v H3 ad3 x3 hn3 c3 r3 p => q2 s cs3 v H3 ad3 (x'.trans x3) hn3 c3 r3 p
    · exact fun S3 σ3 H3 ad3 x3 hn3 h3 p => q3 _ _ H3 ad3 (x'.trans x3) hn3 (h3.unset i) p
    · exact fun S3 σ3 H3 ad3 x3 hn3 h3 p => q4 _ _ H3 ad3 (x'.trans x3) hn3 (h3.unset i) p
  · rename_i hm
    exact ⟨false, by rw [e2]; exact hmt _ _ hm C fn e1, (fun z => nomatch z), fun _ => q5 x0 S2 cls d σ' H' ad' x' hn' h' er hx⟩
  · exact hx.elim
end
/-! ### in the suite -/
section
variable {X : Cx} {T : Tab} {a C Ce : Addr} {oe : Obj} {d : Option Addr} {pn : List (Addr × Obj)} {e e2 : Expr} {pos p : Pos} {m : Nat} {fn : List Str} {w w2 : WpE} {f : Str}
/-- the caught error -/
def errW (m : Nat) (a : Addr) (d : Option Addr) (s : Sl) (k : List D → Prop) : Prop := match s with
  | .dat (.err m' a' d' fs) => (m' = m ∧ a' = a ∧ d' = d) ∧ k fs
  | _ => False
theorem errW_of {s : Sl} {k : List D → Prop} (h : errW m a d s k) : ∃ fs, s = .dat (.err m a d fs) ∧ k fs := by
  unfold errW at h
  split at h
  · obtain ⟨⟨rfl, rfl, rfl⟩, h⟩ := h
    exact ⟨_, rfl, h⟩
  · exact h.elim
/-- isinstance(e, C) and isinstance(e, (C, ..)) of the caught error -/
def isiEW (m : Nat) (a : Addr) (d : Option Addr) (b : Option Bool) (ss : List Sl) (k : Bool → Prop) : Prop := match ss with
  | [s, .dat (.cls _)] => errW m a d s fun _ => optW b k
  | [s, .dat (.tup _)] => errW m a d s fun _ => optW b k
  | _ => False
def wIsiE (m : Nat) (a : Addr) (d : Option Addr) (b : Option Bool) (w : WpE) : WpE := fun sl cs R Rx => w sl cs (fun s c => errW m a d s fun _ => optW b fun k => R (.dat (.bl k)) c) Rx
theorem je_isiE {kb : Option Bool} {x : Str} {p2 : Pos} (E : Err X T m a d Ce oe) (hi : X.mg "isinstance" = none) (hm : X.mg x = some (.ref C)) (hk : ∀ b, kb = some b → PySem.W.kitOne X.K (.ref Ce) (.ref C) = some b) (he : JE (X.suite a ((a, oe) :: pn)) T W0 e w) (hg : Gl X "isinstance" := by rfl) (hg2 : Gl X x := by rfl) (hdb : (x == ("__debug__" : Str)) = false := by decide)
    (h1 : starEach [e, .Name x p2] X.env = (false, eval e X.env) :: starEach [.Name x p2] X.env := by rfl) (h2 : starEach [.Name x p2] X.env = (false, eval (.Name x p2) X.env) :: starEach [] X.env := by rfl) (hpl : (backTo pos (starEach [.Name x p2] X.env)).any (·.1) = false := by rfl) :
    JE (X.suite a ((a, oe) :: pn)) T W0 (.Call (.Name "isinstance" p) [e, .Name x p2] [] pos) (wIsiE m a d kb w) :=
  weak (pe_callB (X := X.suite a ((a, oe) :: pn)) (call_isX E.ec E.hz E.hf) hg hi (by decide +kernel) (pa_cons he (pa_cons (pe_glob (X := X.suite a ((a, oe) :: pn)) (v := .ref C) hg2 hm rfl hdb) pa_nil h2) h1) (by decide) (by decide) h1 hpl) fun σ H Q ⟨ad, F, sl, cs, R, Rx, h0, hw, q, qx⟩ => ⟨ad, F, sl, cs, _, Rx, h0, hw, fun s c1 v H1 ad1 hw1 x1 h1 r1 => by
    have hw1' := errW_of hw1
    clear hw1
    obtain ⟨fs, e0, hw1⟩ := hw1'
    subst e0
    obtain ⟨k, hkb, hR⟩ := optW_of hw1
    cases r1 with
    | err ht hx _ => exact ⟨xat_or hx, .inl ⟨C, k, rfl, hk _ hkb, q _ c1 _ H1 ad1 hR x1 h1 Rep.bl⟩⟩, qx⟩
def clsS : List Sl → Option (List Addr)
  | [] => some []
  | .dat (.cls c) :: r => (clsS r).map (c :: ·)
  | _ => none
/-- e.f -/
def wXf (m : Nat) (a : Addr) (d : Option Addr) (fn : Nat → List Str) (f : Str) (w : WpE) : WpE := fun sl cs R Rx => w sl cs (fun s c => errW m a d s fun fs => match fIdx (fn m) f with
  | some j => match fs[j]? with
    | some v => R (.dat v) c
    | none => False
  | none => False) Rx
theorem je_xf {fnT : Nat → List Str} (E : Err X T m a d Ce oe) (xc : XfC X.K Ce) (hno : PySem.W.findIn X.K (.ref Ce) f = some none) (hT : T m = some (Ce, fnT m)) (he : JE (X.suite a ((a, oe) :: pn)) T W0 e w) (hb : attributeBase e f X.env (eval e X.env) = eval e X.env := by rfl) :
    JE (X.suite a ((a, oe) :: pn)) T W0 (.Attribute e f pos) (wXf m a d fnT f w) :=
  weak (pe_xf xc hno E.hz E.hf he hb) fun σ H Q ⟨ad, F, sl, cs, R, Rx, h0, hw, q, qx⟩ => ⟨ad, F, sl, cs, _, Rx, h0, hw, fun s c1 v H1 ad1 hw1 x1 h1 r1 => by
    have hw1' := errW_of hw1
    clear hw1
    obtain ⟨fs, e0, hw1⟩ := hw1'
    subst e0
    split at hw1
    · rename_i j hf
      split at hw1
      · rename_i v hv
        cases r1 with
        | @err _ C' _ fn' _ vs _ ht hx r =>
          rw [hT] at ht
          cases ht
          rcases hx with ⟨z, _, _⟩ | ⟨dd, h2, _, h3, hl⟩
          · rw [z] at hf
            cases hf
          · obtain ⟨u, hu, lk⟩ := fIdx_look (vs := vs) hf hl
            obtain ⟨u', hu', ru⟩ := r.get hv
            rw [hu] at hu'
            cases hu'
            exact ⟨rfl, rfl, dd, _, u, h2, h3, lk, q _ c1 u H1 ad1 hw1 x1 h1 ru⟩
      · exact hw1.elim
    · exact hw1.elim, qx⟩
end
end Dl

namespace Dl
open PySem L2
def wNo : WS := fun _ _ => False
theorem js_no {X : Cx} {T : Tab} {W : WX} {n : Nat} {st : Stmt} : JS X T W n st wNo := fun _ _ h => h.elim
def wNoE : WpE := fun _ _ _ _ => False
theorem je_no {X : Cx} {T : Tab} {W : WX} {e : Expr} : JE X T W e wNoE := weak noE fun σ H Q ⟨ad, F, sl, cs, R, Rx, h0, hw, q, qx⟩ => hw
def wFrz (i n : Nat) (w : WS) : WS := fun S P => frzW i n S fun S' => w S' P
def absOW (cn : Nat) (c : Ct) : WC := fun ss cs R => match ss with
  | [s] => match isO cn s with
    | true => ∃ d, c [s] [] (.dat d) [] ∧ R (.dat d) cs
    | false => absW ss cs R
  | _ => False
open PySem.W in
theorem kit_cls {K : Frag} {C : Addr} {t : Value} {b : Bool} (hne : (t == .ref C) = false) (hd : hasDictIn K C = true) (ht : typeIn K (.ref C) = some (.type "type")) (h4 : subIn K t (.ref C) = some b) : kitOne K t (.ref C) = some b := by
  obtain ⟨cd, hc, _⟩ := any_some hd
  have e2 : ((clsIn K C).isSome && typeIn K (.ref C) == some (.type "type")) = true := by rw [hc, ht] <;> rfl
  show (if (t == .ref C) = true then some true else (if ((clsIn K C).isSome && typeIn K (.ref C) == some (.type "type")) = true then subIn K t (.ref C) else none)) = some b
  rw [hne, if_neg (by decide), if_pos e2]
  exact h4
/-! ### isinstance(e, (C, ..)) of the caught error -/
def tCs (Cs : List Addr) : TA := fun _ H Q => Q (Cs.map V.ref) H
section
variable {X : Cx} {T : Tab} {a C Ce : Addr} {oe : Obj} {d : Option Addr} {pn : List (Addr × Obj)} {e : Expr} {es : List Expr} {pos p tp q : Pos} {m : Nat} {w : WpE} {x : Str} {Cs : List Addr}
theorem pa_cs0 : PA X [] (tCs []) := weakA pa_nil fun σ H Q h => h
theorem pa_cs (hm : X.mg x = some (.ref C)) (h : PA X es (tCs Cs)) (hg : Gl X x := by rfl) (hdb : (x == ("__debug__" : Str)) = false := by decide) (hs : starEach (.Name x q :: es) X.env = (false, eval (.Name x q) X.env) :: starEach es X.env := by rfl) : PA X (.Name x q :: es) (tCs (C :: Cs)) :=
  weakA (pa_cons (pe_glob (v := .ref C) hg hm rfl hdb) h hs) fun σ H Q h => h
theorem je_isiET {kb : Option Bool} {kk : Nat} (E : Err X T m a d Ce oe) (hi : X.mg "isinstance" = none) (hcs : PA (X.suite a ((a, oe) :: pn)) es (tCs Cs)) (hk : ∀ b, kb = some b → PySem.W.kitAny X.K (.ref Ce) (Cs.map Value.ref) = some b) (hl : Cs.length ≤ sizeLine) (he : JE (X.suite a ((a, oe) :: pn)) T W0 e w) (hg : Gl X "isinstance" := by rfl)
    (h1 : starEach [e, .Tuple es kk tp] X.env = (false, eval e X.env) :: starEach [.Tuple es kk tp] X.env := by rfl) (h2 : starEach [.Tuple es kk tp] X.env = (false, eval (.Tuple es kk tp) X.env) :: starEach [] X.env := by rfl) (hpl : (backTo pos (starEach [.Tuple es kk tp] X.env)).any (·.1) = false := by rfl) :
    JE (X.suite a ((a, oe) :: pn)) T W0 (.Call (.Name "isinstance" p) [e, .Tuple es kk tp] [] pos) (wIsiE m a d kb w) :=
  weak (pe_callB (X := X.suite a ((a, oe) :: pn)) (call_isX E.ec E.hz E.hf) hg hi (by decide +kernel) (pa_cons he (pa_cons (pe_tup hcs) pa_nil h2) h1) (by decide) (by decide) h1 hpl) fun σ H Q ⟨ad, F, sl, cs, R, Rx, h0, hw, q, qx⟩ => ⟨ad, F, sl, cs, _, Rx, h0, hw, fun s c1 v H1 ad1 hw1 x1 h1 r1 => by
    have hw1' := errW_of hw1
    clear hw1
    obtain ⟨fs, e0, hw1⟩ := hw1'
    subst e0
    obtain ⟨k, hkb, hR⟩ := optW_of hw1
    cases r1 with
    | err ht hx _ =>
      refine ⟨by rw [List.length_map]; exact hl, fun tp' hp => ?_⟩
      obtain ⟨c2, x2⟩ := h1.hc.newo (o := .tup (Cs.map V.ref)) hp
      exact ⟨xat_or (hx.kp x2.kp), .inr ⟨tp', Cs, k, rfl, .inl (.inl upd_same), hk _ hkb, q _ c1 _ _ ad1 hR (x1.trans h1.hc x2) (h1.to x2 c2) Rep.bl⟩⟩, qx⟩
end
end Dl

namespace Dl
open PySem L2
/-! ### helps for the plain part -/
theorem call_ {α β : Type} {c Q : α → β → Prop} {x : α} {y : β} (h : c x y) (q : Q x y) : ∃ x y, c x y ∧ Q x y := ⟨x, y, h, q⟩
theorem call1 {α : Type} {c Q : α → Prop} {x : α} (h : c x) (q : Q x) : ∃ x, c x ∧ Q x := ⟨x, h, q⟩
theorem make_ {cn : Nat} {fn : List Str} {c : Ct} {args : List D} {cs : List Cell} {R : RV} {ds : List D} (h : c (.cel 0 :: args.map Sl.dat) [.ins cn []] (.dat .non) [.ins cn (fn.zip ds)]) (hl : ds.length = fn.length) (q : R (.dat (.obj cn ds)) cs) : makeW cn fn c args cs R := ⟨ds, h, hl, q⟩
theorem Br.tt {b : Bool} {p q : Prop} (h : b = true) (hp : p) : Br b p q := ⟨fun _ => hp, fun z => by rw [h] at z; cases z⟩
theorem Br.ff {b : Bool} {p q : Prop} (h : b = false) (hq : q) : Br b p q := ⟨fun z => (by rw [h] at z; cases z), fun _ => hq⟩
theorem Br.dec {c : Prop} [Decidable c] {p q : Prop} (h1 : c → p) (h2 : ¬ c → q) : Br (decide c) p q := ⟨fun h => h1 (of_decide_eq_true h), fun h => h2 (of_decide_eq_false h)⟩
theorem Br.ndec {c : Prop} [Decidable c] {p q : Prop} (h1 : ¬ c → p) (h2 : c → q) : Br (!decide c) p q := ⟨fun h => h1 (by simpa using h), fun h => h2 (by simpa using h)⟩
theorem Br.xf {c : Prop} [Decidable c] {p q : Prop} (h1 : c → p) (h2 : ¬ c → q) : Br (false.xor (decide c)) p q := ⟨fun h => h1 (by simpa using h), fun h => h2 (by simpa using h)⟩
theorem Br.xt {c : Prop} [Decidable c] {p q : Prop} (h1 : ¬ c → p) (h2 : c → q) : Br (true.xor (decide c)) p q := ⟨fun h => h1 (by simpa using h), fun h => h2 (by simpa using h)⟩
theorem eqD_t {d e : D} (h : d = e) (ok : okD e = true) : eqD d e = true := by subst h; exact eqD_refl ok
theorem Br.ne {d e : D} {p q : Prop} (h : d = e) (ok : okD e = true) (hq : q) : Br (true.xor (eqD d e)) p q := Br.ff (by rw [eqD_t h ok]; rfl) hq
/-! what is not needed any more -/
def fgtS (m : Nat) : Option Sl → Option Sl
  | some (.cel k) => if k < m then some (.cel k) else none
  | x => x
def keepS (ks : List Nat) (m : Nat) : Nat → Sls → Sls
  | _, [] => []
  | i, x :: r => (match ks.contains i with
    | true => fgtS m x
    | false => none) :: keepS ks m (i + 1) r
theorem keepS_len {ks : List Nat} {m : Nat} : ∀ {i : Nat} {sl : Sls}, (keepS ks m i sl).length = sl.length
  | _, [] => rfl
  | _, _ :: r => by rw [keepS, List.length_cons, keepS_len (sl := r), List.length_cons]
theorem keepS_at {ks : List Nat} {m : Nat} {s : Sl} : ∀ {i j : Nat} {sl : Sls}, (keepS ks m i sl)[j]? = some (some s) → sl[j]? = some (some s) ∧ ∀ k, s = .cel k → k < m
  | i, 0, x :: r, h => by
    have h : (match ks.contains i with
      | true => fgtS m x
      | false => none) = some s := by simpa [keepS] using h
    split at h
    · unfold fgtS at h
      split at h
      · split at h
        · cases h
          exact ⟨rfl, fun k e => by cases e; assumption⟩
        · cases h
      · subst h
        rename_i hx
        exact ⟨rfl, fun k e => (hx k (by rw [e])).elim⟩
    · cases h
  | i, j + 1, x :: r, h => by
    have h : (keepS ks m (i + 1) r)[j]? = some (some s) := by simpa [keepS] using h
    simpa using keepS_at h
def wFgt (ks : List Nat) (m n : Nat) (w : WS) : WS := fun S P => n ≤ m ∧ w ⟨keepS ks m 0 S.sl, S.cs.take m⟩ P
theorem jss_fgt (ks : List Nat) (m : Nat) {X : Cx} {T : Tab} {W : WX} {n : Nat} {sts : List Stmt} {w : WS} (h : JSs X T W n sts w) : JSs X T W n sts (wFgt ks m n w) := fun S P hw => dss_forget m (h _ P hw.2) hw.1 keepS_len fun i s e => keepS_at e
theorem pos_ {i j : Int} (h : 0 < j) : ModC i j := h
theorem szk (n : Nat) (h : n ≤ 16777216 := by decide) : n ≤ sizeLine := h
theorem sz {n : Nat} (h : n ≤ 16777216) : n ≤ sizeLine := h
theorem mul_w {i j : Int} (h1 : i.natAbs < 2 ^ 1000) (h2 : j.natAbs < 2 ^ 1000) : IntMulOk i j := by
  refine CMulW.ok ?_
  have l : ∀ n : Nat, n < 2 ^ 1000 → n.log2 < 1000 := fun n h => by
    by_cases z : n = 0
    · rw [z]; decide
    · exact (Nat.log2_lt z).mpr h
  have := l _ h1
  have := l _ h2
  show i.natAbs.log2 + j.natAbs.log2 < 1000000
  omega
/-! loops -/
theorem asgW_i {p : Pat} {d : D} {sl sl' : Sls} {k : Sls → Prop} (e : asgP p d sl = some sl') (h : k sl') : asgW p d sl k := by unfold asgW; rw [e]; exact h
/-- [f(x) for x in ..] -/
theorem lcW_map {p : Pat} {we : WpE} {sl : Sls} {α : Type} (g f : α → D) {cs : List Cell} : ∀ {xs : List α} {R : List D → List Cell → Prop},
    (∀ x ∈ xs, ∃ sl', asgP p (g x) sl = some sl' ∧ ∀ R' : RV, R' (.dat (f x)) cs → we sl' cs R' noX) → R (xs.map f) cs → lcW p wYes we sl (xs.map g) cs R
  | [], R, _, h => h
  | x :: xs, R, hx, h => by
    obtain ⟨sl', e, h1⟩ := hx x List.mem_cons_self
    exact asgW_i e ⟨fun _ => h1 _ (lcW_map (xs := xs) g f (fun y hy => hx y (List.mem_cons_of_mem _ hy)) h), fun z => nomatch z⟩
/-- [f(x) for x in .. if c(x)] -/
theorem lcW_filter {p : Pat} {wt : WpT} {we : WpE} {sl : Sls} {α : Type} (g : α → D) (f : α → D) (c : α → Bool) {cs : List Cell} : ∀ {xs : List α} {R : List D → List Cell → Prop},
    (∀ x ∈ xs, ∃ sl', asgP p (g x) sl = some sl' ∧ (∀ R' : RB, R' (c x) cs → wt sl' cs R' noX) ∧ (c x = true → ∀ R' : RV, R' (.dat (f x)) cs → we sl' cs R' noX)) → R ((xs.filter c).map f) cs → lcW p wt we sl (xs.map g) cs R
  | [], R, _, h => h
  | x :: xs, R, hx, h => by
    obtain ⟨sl', e, h1, h2⟩ := hx x List.mem_cons_self
    refine asgW_i e (h1 _ ⟨fun z => ?_, fun z => ?_⟩)
    · rw [List.filter_cons_of_pos z] at h
      exact h2 z _ (lcW_filter (xs := xs) g f c (fun y hy => hx y (List.mem_cons_of_mem _ hy)) h)
    · rw [List.filter_cons_of_neg (by rw [z]; decide)] at h
      exact lcW_filter (xs := xs) g f c (fun y hy => hx y (List.mem_cons_of_mem _ hy)) h
/-- a for loop by an invariant of the states between its turns -/
theorem forW_ind {p : Pat} {wb : WS} {P : PJ} (I : Sta → Prop) : ∀ (items : List D), (∀ d ∈ items, ∀ S, I S → ∀ nx' : Sta → Prop, (∀ S', I S' → nx' S') → asgW p d S.sl fun sl' => wb ⟨sl', S.cs⟩ { P with nx := nx', ct := nx', bk := P.nx }) → (∀ S, I S → P.nx S) → ∀ S, I S → forW p wb items S P
  | [], _, hd, S, hI => hd S hI
  | d :: ds, hs, hd, S, hI => hs d List.mem_cons_self S hI _ fun S' h' => forW_ind I ds (fun e he => hs e (List.mem_cons_of_mem _ he)) hd S' h'
/-- a for loop by an invariant that knows the items taken and those to come -/
theorem forW_at {p : Pat} {wb : WS} {P : PJ} {α : Type} (g : α → D) (I : List α → List α → Sta → Prop) : ∀ (pre post : List α), (∀ pre x post S, I pre (x :: post) S → ∀ nx' : Sta → Prop, (∀ S', I (pre ++ [x]) post S' → nx' S') → asgW p (g x) S.sl fun sl' => wb ⟨sl', S.cs⟩ { P with nx := nx', ct := nx', bk := P.nx }) → (∀ pre S, I pre [] S → P.nx S) → ∀ S, I pre post S → forW p wb (post.map g) S P
  | pre, [], _, hd, S, hI => hd pre S hI
  | pre, x :: post, hs, hd, S, hI => hs pre x post S hI _ fun S' h' => forW_at g I (pre ++ [x]) post hs hd S' h'
theorem mem_range {lo : Int} {n : Nat} {d : D} (h : d ∈ rangeD lo n) : ∃ i : Nat, i < n ∧ d = .int (lo + i) := by
  unfold rangeD at h
  obtain ⟨i, hi, rfl⟩ := List.mem_map.mp h
  exact ⟨i, List.mem_range.mp hi, rfl⟩
/-! ### the box of drawn numbers -/
abbrev B := Int × Int
abbrev bx (b : B) : Cell := .lst [.int b.1, .int b.2]
def tk (b : B) (m : Int) : Int := if 0 < b.1 then b.1 % m else ((b.2 * 69623 % 2147483647) * 2147483647 + (((b.2 * 69623 % 2147483647) * 48271 + 30103) % 2147483629 + 1)) / 8191 % m
def nx (b : B) (m : Int) : B := if 0 < b.1 then (b.1 / m, b.2) else (b.1, ((b.2 * 69623 % 2147483647) * 48271 + 30103) % 2147483629 + 1)
def Ok (b : B) : Prop := 0 ≤ b.2 ∧ b.2 < 2 ^ 32
theorem tk_p {b : B} {m : Int} (h : 0 < b.1) : tk b m = b.1 % m := if_pos h
theorem tk_n {b : B} {m : Int} (h : ¬ 0 < b.1) : tk b m = ((b.2 * 69623 % 2147483647) * 2147483647 + (((b.2 * 69623 % 2147483647) * 48271 + 30103) % 2147483629 + 1)) / 8191 % m := if_neg h
theorem nx_p {b : B} {m : Int} (h : 0 < b.1) : nx b m = (b.1 / m, b.2) := if_pos h
theorem nx_n {b : B} {m : Int} (h : ¬ 0 < b.1) : nx b m = (b.1, ((b.2 * 69623 % 2147483647) * 48271 + 30103) % 2147483629 + 1) := if_neg h
theorem Ok.nx {b : B} (h : Ok b) (m : Int) : Ok (nx b m) := by
  by_cases hp : 0 < b.1
  · rw [nx_p hp]; exact h
  · rw [nx_n hp]; constructor <;> dsimp only <;> omega
theorem tk_lo {b : B} {m : Int} (h : 0 < m) : 0 ≤ tk b m := by
  by_cases hp : 0 < b.1
  · rw [tk_p hp]; exact Int.emod_nonneg _ (by omega)
  · rw [tk_n hp]; exact Int.emod_nonneg _ (by omega)
theorem tk_hi {b : B} {m : Int} (h : 0 < m) : tk b m < m := by
  by_cases hp : 0 < b.1
  · rw [tk_p hp]; exact Int.emod_lt_of_pos _ h
  · rw [tk_n hp]; exact Int.emod_lt_of_pos _ h
theorem lg {m : Int} (h0 : 0 < m) (h : m < 2 ^ 200) : m.natAbs.log2 < 9000 := by
  rw [Nat.log2_lt (by omega)]
  have : m.natAbs < 2 ^ 200 := by omega
  exact Nat.lt_of_lt_of_le this (Nat.pow_le_pow_right (by decide) (by omega))
/-- a script's cell -/
def feedC (ns : List Int) (k : Nat) : Int := if k < ns.length then ns.getD k 0 else if 0 < ns.length then 7919 * (k : Int) + 11 + ns.getD (k % ns.length) 0 % 2147483629 * 69623 else 7919 * (k : Int) + 11
def feedB (ns : List Int) (k : Nat) : B := (if 10 ^ 18 ≤ feedC ns k then feedC ns k else 0, (feedC ns k % 2147483629 + 104729 * (k : Int) + 1) ^ 5 % 2147483647 % 2147483646 + 1)
theorem feedB_ok (ns : List Int) (k : Nat) : Ok (feedB ns k) := by
  unfold Ok feedB
  constructor <;> dsimp only <;> omega
abbrev scD (ns : List Int) : D := .scr (ns.map D.int)
theorem atI_scr {ns : List Int} {k : Nat} (h : k < ns.length) : atI (ns.map D.int) (k : Int) = some (.int (ns.getD k 0)) := by
  refine atI_nat (j := k) ?_
  rw [List.getElem?_map, List.getElem?_eq_getElem h, List.getD_eq_getElem?_getD, List.getElem?_eq_getElem h]
  rfl
end Dl

namespace Dl
open PySem L2
/-! ### sum, all, any -/
def intsD : List D → Option (List Int)
  | [] => some []
  | .int i :: r => (intsD r).map (i :: ·)
  | _ => none
def boolsD : List D → Option (List Bool)
  | [] => some []
  | .bl i :: r => (boolsD r).map (i :: ·)
  | _ => none
theorem ints_map : ∀ (ns : List Int), intsD (ns.map D.int) = some ns
  | [] => rfl
  | n :: ns => by rw [List.map_cons, intsD, ints_map ns]; rfl
theorem bools_map : ∀ (ns : List Bool), boolsD (ns.map D.bl) = some ns
  | [] => rfl
  | n :: ns => by rw [List.map_cons, boolsD, bools_map ns]; rfl
theorem ints_of : ∀ {ds : List D} {ns : List Int}, intsD ds = some ns → ds = ns.map D.int
  | [], ns, h => by cases h; rfl
  | .int i :: r, ns, h => by
    cases q : intsD r with
    | none => simp [intsD, q] at h
    | some l =>
      simp [intsD, q] at h
      subst h
      rw [ints_of q]
      rfl
  | .non :: _, _, h => nomatch h
  | .bl _ :: _, _, h => nomatch h
  | .str _ :: _, _, h => nomatch h
  | .tup _ :: _, _, h => nomatch h
  | .lst _ :: _, _, h => nomatch h
  | .obj _ _ :: _, _, h => nomatch h
  | .scr _ :: _, _, h => nomatch h
  | .err _ _ _ _ :: _, _, h => nomatch h
  | .cls _ :: _, _, h => nomatch h
  | .dct _ _ :: _, _, h => nomatch h
theorem bools_of : ∀ {ds : List D} {ns : List Bool}, boolsD ds = some ns → ds = ns.map D.bl
  | [], ns, h => by cases h; rfl
  | .bl i :: r, ns, h => by
    cases q : boolsD r with
    | none => simp [boolsD, q] at h
    | some l =>
      simp [boolsD, q] at h
      subst h
      rw [bools_of q]
      rfl
  | .non :: _, _, h => nomatch h
  | .int _ :: _, _, h => nomatch h
  | .str _ :: _, _, h => nomatch h
  | .tup _ :: _, _, h => nomatch h
  | .lst _ :: _, _, h => nomatch h
  | .obj _ _ :: _, _, h => nomatch h
  | .scr _ :: _, _, h => nomatch h
  | .err _ _ _ _ :: _, _, h => nomatch h
  | .cls _ :: _, _, h => nomatch h
  | .dct _ _ :: _, _, h => nomatch h
theorem reps_bls {T : Tab} {K : PySem.W.Frag} {M : Addr → Prop} {H : Hp} : ∀ {ns : List Bool} {vs : List V}, Reps T K M H vs (ns.map D.bl) → vs = ns.map V.bl
  | [], _, .nil => rfl
  | n :: ns, _, .cons r t => by
    cases r
    rw [reps_bls t]
    rfl
section
variable {X : Cx} {T : Tab} {cs : List Cell} {s1 : Sl} {ds : List D}
theorem cb_sum (hc : X.calm = true) {ns : List Int} (h : isLst cs (ns.map D.int) s1) : CalB X T "sum" [s1] cs (.dat (.int ns.sum)) cs := ⟨.builtin "sum", _, by decide +kernel, .inl ⟨_, rfl⟩, cr_sum hc, fun ad F H vs Q c r q => by
  match vs, r with
  | [v], r =>
    obtain ⟨a, ws, rfl, e1, q1⟩ := rd_lst h c r.1
    have := Reps.of_ints q1
    subst this
    exact ⟨a, ns, rfl, SqL.of e1, q _ H ad .refl c Rep.int⟩⟩
theorem cb_all (hc : X.calm = true) {ns : List Bool} (h : isLst cs (ns.map D.bl) s1) : CalB X T "all" [s1] cs (.dat (.bl (ns.all id))) cs := ⟨.builtin "all", _, by decide +kernel, .inl ⟨_, rfl⟩, cr_all hc, fun ad F H vs Q c r q => by
  match vs, r with
  | [v], r =>
    obtain ⟨a, ws, rfl, e1, q1⟩ := rd_lst h c r.1
    have := reps_bls q1
    subst this
    exact ⟨a, ns, rfl, SqL.of e1, q _ H ad .refl c Rep.bl⟩⟩
theorem cb_any (hc : X.calm = true) {ns : List Bool} (h : isLst cs (ns.map D.bl) s1) : CalB X T "any" [s1] cs (.dat (.bl (ns.any id))) cs := ⟨.builtin "any", _, by decide +kernel, .inl ⟨_, rfl⟩, cr_any hc, fun ad F H vs Q c r q => by
  match vs, r with
  | [v], r =>
    obtain ⟨a, ws, rfl, e1, q1⟩ := rd_lst h c r.1
    have := reps_bls q1
    subst this
    exact ⟨a, ns, rfl, SqL.of e1, q _ H ad .refl c Rep.bl⟩⟩
def intsW (ds : List D) (k : List Int → Prop) : Prop := match intsD ds with
  | some ns => k ns
  | none => False
def blsW (ds : List D) (k : List Bool → Prop) : Prop := match boolsD ds with
  | some ns => k ns
  | none => False
theorem intsW_i {ns : List Int} {k : List Int → Prop} (h : k ns) : intsW (ns.map D.int) k := by unfold intsW; rw [ints_map]; exact h
theorem blsW_i {ns : List Bool} {k : List Bool → Prop} (h : k ns) : blsW (ns.map D.bl) k := by unfold blsW; rw [bools_map]; exact h
def sumW : WC := fun ss cs R => match ss with
  | [s] => wL cs s fun ds => intsW ds fun ns => R (.dat (.int ns.sum)) cs
  | _ => False
def allW : WC := fun ss cs R => match ss with
  | [s] => wL cs s fun ds => blsW ds fun ns => R (.dat (.bl (ns.all id))) cs
  | _ => False
def anyW : WC := fun ss cs R => match ss with
  | [s] => wL cs s fun ds => blsW ds fun ns => R (.dat (.bl (ns.any id))) cs
  | _ => False
theorem jc_sum (hc : X.calm = true) : JCall X T "sum" sumW := ⟨⟨.builtin "sum", by decide +kernel, .inl ⟨_, rfl⟩⟩, fun ss cs R h => by
  unfold sumW at h
  split at h
  · obtain ⟨ds, h1, h⟩ := wL_of h
    unfold intsW at h
    split at h
    · rename_i e
      rw [ints_of e] at h1
      exact ⟨_, _, cb_sum hc h1, h⟩
    · exact h.elim
  · exact h.elim⟩
theorem jc_all (hc : X.calm = true) : JCall X T "all" allW := ⟨⟨.builtin "all", by decide +kernel, .inl ⟨_, rfl⟩⟩, fun ss cs R h => by
  unfold allW at h
  split at h
  · obtain ⟨ds, h1, h⟩ := wL_of h
    unfold blsW at h
    split at h
    · rename_i e
      rw [bools_of e] at h1
      exact ⟨_, _, cb_all hc h1, h⟩
    · exact h.elim
  · exact h.elim⟩
theorem jc_any (hc : X.calm = true) : JCall X T "any" anyW := ⟨⟨.builtin "any", by decide +kernel, .inl ⟨_, rfl⟩⟩, fun ss cs R h => by
  unfold anyW at h
  split at h
  · obtain ⟨ds, h1, h⟩ := wL_of h
    unfold blsW at h
    split at h
    · rename_i e
      rw [bools_of e] at h1
      exact ⟨_, _, cb_any hc h1, h⟩
    · exact h.elim
  · exact h.elim⟩
/-! ### // by any divisor -/
def DivG (_ j : Int) : Prop := j ≠ 0 ∧ j.natAbs.log2 < 9000
theorem op_fdivG : OpR X (binaryOp .FloorDiv) (rI DivG fun i j => .int (i.fdiv j)) := fun pins s σ H x y v u Q I rx ry ⟨i, j, ex, ey, hc, q⟩ => by
  subst ex ey
  obtain ⟨t1, rfl⟩ := rx
  obtain ⟨t2, rfl⟩ := ry
  exact PyProof.Rows.floordiv_int hc.1 ⟨.int (i.fdiv j), H, I.tok _, ⟨_, rfl⟩, q⟩ (.inl (PyProof.noPylong_of_log2 hc.2))
theorem bin_fdivG {i j : Int} (h : DivG i j) : BinD X T .FloorDiv (.dat (.int i)) (.dat (.int j)) cs (.dat (.int (i.fdiv j))) cs := ⟨_, op_fdivG, r2_I (g := fun i j => i.fdiv j) h⟩
def fdivGW : W2 := intW DivG fun i j => .int (i.fdiv j)
theorem jb_fdivG : JBin X T .FloorDiv fdivGW := fun s1 s2 cs R h => by
  unfold fdivGW intW at h
  split at h
  · exact ⟨_, _, bin_fdivG h.1, h.2⟩
  · exact h.elim
/-! ### tuple * n -/
theorem bin_repT {j : Int} (h0 : ds ≠ []) (h1 : 2 ≤ j) (h2 : j ≤ 1000) (h3 : ds.length ≤ 1000) : BinD X T .Mult (.dat (.tup ds)) (.dat (.int j)) cs (.dat (.tup (List.replicate j.toNat ds).flatten)) cs := ⟨_, op_repT, fun ad F H v w Q c r1 r2 q => by
  cases r2
  cases r1 with
  | @tup a vs _ e r =>
    refine ⟨a, j, vs, rfl, rfl, e.sq, ?_, h1, h2, by rw [r.length]; exact h3, fun p hp => new_tup c (reps_rep r j.toNat) q hp⟩
    intro z
    subst z
    cases r
    exact h0 rfl⟩
def mulTW : W2 := fun s1 s2 cs R => match s1, s2 with
  | .dat (.tup ds), .dat (.int j) => (ds ≠ [] ∧ 2 ≤ j ∧ j ≤ 1000 ∧ ds.length ≤ 1000) ∧ R (.dat (.tup (List.replicate j.toNat ds).flatten)) cs
  | s1, s2 => mulW s1 s2 cs R
theorem jb_mulT : JBin X T .Mult mulTW := fun s1 s2 cs R h => by
  unfold mulTW at h
  split at h
  · exact ⟨_, _, bin_repT h.1.1 h.1.2.1 h.1.2.2.1 h.1.2.2.2, h.2⟩
  · exact jb_mul _ _ _ _ h
end
/-! ### xs.extend(ys) -/
section
variable {X : Cx} {T : Tab} {W : WX} {o e : Expr} {wo we : WpE} {pos apos : Pos}
def extW (s d : Sl) (cs : List Cell) (R : RV) : Prop := match s, d with
  | .cel j, .dat (.lst es) => match cs[j]? with
    | some (.lst ds) => ds.length + es.length ≤ sizeLine ∧ R (.dat .non) (cs.set j (.lst (ds ++ es)))
    | _ => False
  | _, _ => False
def wExtd (wo we : WpE) : WpE := fun sl cs R Rx => wo sl cs (fun s c1 => (match s with
  | .cel j => match c1[j]? with
    | some (.lst _) => True
    | _ => False
  | _ => False) ∧ we sl c1 (fun d c2 => extW s d c2 R) Rx) Rx
theorem je_ext (ho : JE X T W o wo) (he : JE X T W e we) (hb : attributeBase o "extend" X.env (eval o X.env) = eval o X.env := by rfl) (hfew : ((backTo pos (starEach [e] X.env)).all (fun x => !x.1) && (backToKw pos (keywordEach [] X.env)).all (fun x => x.1.isSome) && decide (([e] : List Expr).length + ([] : List Keyword).length + (if ([] : List Keyword).isEmpty then 0 else 1) < 30)) = true := by rfl)
    (hl : (apos.endLine == pos.line) = true := by rfl) (hs : starEach [e] X.env = (false, eval e X.env) :: starEach [] X.env := by rfl) (hpl : (backTo pos (starEach [] X.env)).any (·.1) = false := by rfl) : JE X T W (.Call (.Attribute o "extend" apos) [e] [] pos) (wExtd wo we) :=
  weak (pe_bm PySem.F.plainAttrs_list PySem.F.slot_list_extend PySem.F.type_list_extend mt_extend ho (ja_cons he ja_nil hs) hb hfew hl hs hpl) fun σ H Q ⟨ad, F, sl, cs, R, Rx, h0, hw, q, qx⟩ => ⟨ad, F, sl, cs, _, Rx, h0, hw, fun s c1 v H1 ad1 hw1 x1 h1 r1 => by
    obtain ⟨hs1, hw1⟩ := hw1
    split at hs1
    · rename_i j
      split at hs1
      · rename_i ds0 hk0
        have r1' := r1
        obtain ⟨l, el, rfl⟩ := r1
        obtain ⟨vs0, e0, q0⟩ := h1.hc.ce j l _ el hk0
        refine ⟨.inl ⟨rfl, vs0, SqL.of e0⟩, ad1, F, sl, c1, (fun ss c2 => match ss with
          | [d] => extW (.cel j) d c2 R
          | _ => False), Rx, h1, hw1, fun ss c2 ws H2 ad2 hw2 x2 h2 r2 => ?_, qx.on x1 h1⟩
        match ss, ws, r2 with
        | [s2], [y], r2 =>
          have hw2 : extW (.cel j) s2 c2 R := hw2
          match s2, r2, hw2 with
          | .dat (.lst es), r2, hw2 =>
            have hw2 : (match c2[j]? with
              | some (.lst ds) => ds.length + es.length ≤ sizeLine ∧ R (.dat .non) (c2.set j (.lst (ds ++ es)))
              | _ => False) := hw2
            split at hw2
            · rename_i ds hk
              have el2 : ad2[j]? = some l := by
                obtain ⟨l', el', e⟩ := SlRep.ext (s := .cel j) x2 r1'
                cases e
                exact el'
              obtain ⟨vs, e1, q1⟩ := h2.hc.ce j l _ el2 hk
              obtain ⟨b, zs, rfl, e2, q2⟩ := rd_lst (ds := es) (s := .dat (.lst es)) rfl h2.hc r2.1
              refine ⟨l, b, vs, zs, rfl, rfl, e1, e2, by rw [q1.length, q2.length]; exact hw2.1, ?_⟩
              have kp : Kp (Mm ad2 F) H2 (Mm ad2 F) (upd H2 l (.lst (vs ++ zs))) := fun b o e nn => ⟨by rw [upd_ne (fun z => nn (.inl (by rw [z]; exact List.mem_of_getElem? el2)))]; exact e, nn⟩
              obtain ⟨k4, x4⟩ := h2.hc.setc (o := .lst (vs ++ zs)) (c := .lst (ds ++ es)) el2 ⟨_, upd_same, (q1.append q2).kp kp⟩
              exact q _ _ .non _ ad2 hw2.2 (x1.trans h1.hc (x2.trans h2.hc x4)) (h2.to x4 k4) Rep.non
            · exact hw2.elim
      · exact hs1.elim
    · exact hs1.elim, qx⟩
end
end Dl

/-! ### enumerate(t), t a tuple -/
namespace PySem
abbrev tupIterO (t : Addr) : Obj := { cls := .type "tuple_iterator", data := .fields #[.ref t, .int 0 0] }
abbrev enumO (it : Addr) : Obj := { cls := .type "enumerate", data := .fields #[.none, .bool false, .ref it, rawInt 0, .none, .none] }
open Sem (wp) in
theorem meets_enumT1 (t : Addr) (items : Array Value) : Meets (Builtin.«enumerate.__new__» ⟨[.type "enumerate", .ref t], []⟩) (fun _ R s => s.heap.IsTuple t items ∧
      R (.ok (.ret (.ref (s.heap.push (tupIterO t)).objs.size))) { s with heap := (s.heap.push (tupIterO t)).push (enumO s.heap.objs.size) }) :=
  .of_wp fun prog w A R s z => by
    obtain ⟨hp, g, d, tk, os⟩ := s
    obtain ⟨ht, z⟩ := z
    have hsub := sub_enumerate
    have it : ∀ {A' : Around} {E : Value → Shared → Prop} {Q : Value → Shared → Prop}, Q (.ref hp.objs.size) ⟨hp.push (tupIterO t), g, d, tk, os⟩ → wpAny (model prog w) A' (pyIter (.ref t)) Q E ⟨hp, g, d, tk, os⟩ := fun q => wpAny_pyIter_tuple ht q
    wp_walk using it
    refine wpAny_stack_any fun st => wpAny_pure ?_
    split
    · rename_i c _ _ _ _ _
      cases (c == Value.type "enumerate")
      · wp_walk using it
        exact ⟨_, rfl, z⟩
      · wp_walk using it
        exact ⟨_, rfl, z⟩
    · wp_walk using it
      exact ⟨_, rfl, z⟩
end PySem
namespace PySem
theorem call_enumT1 {prog : Program} {w : World} {A : Around} {E : Value → Shared → Prop} {s : Shared} {t : Addr} {items : Array Value} {Q : Value → Shared → Prop} (ht : s.heap.IsTuple t items)
    (h : ∀ h', IsEnum h' (s.heap.objs.size + 1) s.heap.objs.size 0 .none → h'.IsTupleIter s.heap.objs.size t 0 → h'.objs.size = s.heap.objs.size + 2 → (∀ b o, s.heap.get? b = some o → h'.get? b = some o) → Q (.ref (s.heap.objs.size + 1)) { s with heap := h' }) :
    wpAny (model prog w) A (call (.type "enumerate") [.ref t]) Q E s := by
  refine callType_new F.called_enumerate (by decide) (F.typeCall_enumerate_1 _) (F.newCall_enumerate_1 _) (fun obj => F.args_object_init_2 obj _) F.entry_enumerate_new (meets_enumT1 t items) ⟨ht, ?_⟩
  have z1 : (s.heap.push (tupIterO t)).objs.size = s.heap.objs.size + 1 := Heap.size_push ..
  show _ ∧ _
  rw [z1]
  have he : IsEnum ((s.heap.push (tupIterO t)).push (enumO s.heap.objs.size)) (s.heap.objs.size + 1) s.heap.objs.size 0 .none := by
    have z2 := Heap.get?_push_size (s.heap.push (tupIterO t)) (o := enumO s.heap.objs.size) rfl
    rw [z1] at z2
    exact z2
  exact ⟨⟨_, he, rfl⟩, h _ he ⟨_, Heap.get?_push_of_some _ (Heap.get?_push_size _ rfl), rfl, rfl⟩ (by rw [Heap.size_push, z1]) fun b o q => Heap.get?_push_of_some _ (Heap.get?_push_of_some _ q)⟩
end PySem
namespace Dl
open PySem L2
/-- the tuple at a, each item in a new pair -/
def IteT (K : PySem.W.Frag) (a : Addr) : It :=
  ⟨fun i H => ∃ (xs : List V) (x : V), SqT K H a xs ∧ xs[i]? = some x, fun i H v H' => ∃ T x, v = .ref T ∧ H T = none ∧ H' = upd H T (.tup [.int (i : Nat), x]) ∧ ∀ xs, SqT K H a xs → xs[i]? = some x,
    fun i H => ∃ xs : List V, SqT K H a xs ∧ xs.length = i⟩
theorem turn_enumT {P : Program} {w : World} {K : PySem.W.Frag} {elts : List Expr} {kk : Nat} {tpos : Pos} {a e it : Addr} (ne : e ≠ it) (na : a ≠ it) (nea : e ≠ a) :
    Turn P w K (.Tuple elts kk tpos) (IteT K a) [e, it] e (fun i h => (∃ old, IsEnum h e it ((i : Nat) : Int) old) ∧ h.IsTupleIter it a i) where
  mem := by simp
  obj := fun i h st b hb => by
    obtain ⟨⟨old, he⟩, o, ho, hc, hd⟩ := st
    have e' : b = e ∨ b = it := by simpa using hb
    rcases e' with z | z
    · rw [z]; exact ⟨_, he, fun v q => nomatch q⟩
    · rw [z]; exact ⟨o, ho, fun v q => by rw [hd] at q; cases q⟩
  keep := fun i h h' st k => ⟨st.1.imp fun old he => k e (by simp) _ he, st.2.at fun o q => k it (by simp) o q⟩
  item := by
    intro X hP hw hK hc i pins s σ H E I hf st hg
    subst hP hw hK
    obtain ⟨⟨old, he⟩, hit⟩ := st
    obtain ⟨xs, x, hq, hx⟩ := hg
    obtain ⟨its, rv, p, _⟩ := I.tuple hq
    obtain ⟨v, hv, ru⟩ := rv.get hx
    have hd : X.A.in1.handled = none := I.ok.hd hc
    have hel : e < s.heap.objs.size := Heap.lt_size he
    have hil : it < s.heap.objs.size := by obtain ⟨_, q, _⟩ := hit; exact Heap.lt_size q
    have lt1 : i < its.toArray.size := by have := List.getElem?_eq_some_iff.mp hv; simpa using this.1
    have nf : e ∉ [it, a] := by simp [ne, nea]
    refine wpAny_pyNext_enum_itemD (Draws.tuple hd it a na its.toArray) he ⟨hit, p⟩ lt1 ne nf fun y h' tk q1 ho hs' hT hsz hk => ?_
    have w1 : y = v := Option.some.inj (q1.symm.trans (by simpa using hv))
    subst w1
    refine ⟨_, rfl, wpAny_letOwnedTupleGo_enum (s := { s with heap := h', toks := tk + 1 }) ho fun h'' he' sb => ?_⟩
    have hT2 : h''.get? s.heap.objs.size = some { cls := .type "tuple", data := .seq #[.int i tk, y] } := (sb.2 _ (Nat.ne_of_gt hel)).trans hT
    have new : ObjOk X.prog X.w (upd H s.heap.objs.size (.tup [.int (i : Nat), x])) h'' s.heap.objs.size (.tup [.int (i : Nat), x]) :=
      ⟨by show 2 ≤ sizeLine; decide, [.int i tk, y], .cons ⟨_, rfl⟩ (.cons ru .nil), ⟨_, hT2, rfl, _, rfl⟩⟩
    have I1 : Inv X pins σ (upd H s.heap.objs.size (.tup [.int (i : Nat), x])) { s with heap := h'', toks := tk + 1 } :=
      I.turnedNew (t' := tk + 1) (ch := [e, it]) (fun b ob hb q => (sb.2 b (fun z => hb (by simp [z]))).trans (hk b ob (fun z => hb (by simp [z])) (fun z => hb (by simp [z])) q)) hf (Nat.le_refl _) new
    refine ⟨.ref s.heap.objs.size, _, I1, rfl, ⟨_, x, rfl, I.hok.fresh (Nat.le_refl _), rfl, fun ys hy => by rw [I.tuple_inj hy hq]; exact hx⟩, ⟨⟨y, ?_⟩, hs'.1.at fun o q => (sb.2 it (Ne.symm ne)).trans q⟩, fun b hb => ?_⟩
    · have e1 : ((i + 1 : Nat) : Int) = (i : Int) + 1 := by omega
      rw [e1]; exact he'
    · have hb' : b < s.heap.objs.size := by
        have e' : b = e ∨ b = it := by simpa using hb
        rcases e' with z | z
        · rw [z]; exact hel
        · rw [z]; exact hil
      rw [upd_ne (Nat.ne_of_lt hb')]
      exact (hf b hb).1
  done := by
    intro X hP hw hK hc i pins s σ H E I hf st hg
    subst hP hw hK
    obtain ⟨⟨old, he⟩, hit⟩ := st
    obtain ⟨xs, hq, hx⟩ := hg
    obtain ⟨its, rv, p, _⟩ := I.tuple hq
    have hd : X.A.in1.handled = none := I.ok.hd hc
    have e1 : i = its.toArray.size := by have := rv.length; simp; omega
    subst e1
    exact wpAny_pyNext_enum_endD (Draws.tuple hd it a na its.toArray) he ⟨hit, p⟩ fun h' hx' => ⟨rfl, I.turnedL (t' := s.toks) (ch := [e, it]) (fun b o hb q => hx' b o (fun z => hb (by simp [z])) q) hf⟩
  self := fun A i s Q E st h => let ⟨⟨_, he⟩, _⟩ := st; wpAny_pyIter_enum he h
def iEnumA (K : PySem.W.Frag) (ta : TA) : TI := fun σ H R => ta σ H fun vs H1 => ∃ a xs, vs = [.ref a] ∧ ((SqL K H1 a xs ∧ R (Ite K a) H1) ∨ (SqT K H1 a xs ∧ R (IteT K a) H1))
open PySem.Spec PyProof.Rows in
theorem pi_enumA {X : Cx} {e : Expr} {ta : TA} {p pos tpos : Pos} {elts : List Expr} {kk : Nat} (hg : Gl X "enumerate") (hm : X.mg "enumerate" = none) (ha : PA X [e] ta) (hs : starEach [e] X.env = [(false, eval e X.env)] := by rfl) :
    PI X (.Tuple elts kk tpos) (.Call (.Name "enumerate" p) [e] [] pos) (iEnumA X.K ta) := by
  constructor
  intro pins s σ H R I h
  refine Call_ (ld_blt I hg hm boot_enumerate (PyProof.Rows.callWith_type1 (thn (ha.run pos pins s σ H _ I h) fun us s1 z => ?_) hs rfl))
  obtain ⟨vs, H1, I1, r1, a, xs, ex, q1⟩ := z
  subst ex
  obtain ⟨u, rfl, ru⟩ : ∃ u, us = [u] ∧ RelV (.ref a) u := by
    cases r1 with
    | cons r rr => cases rr; exact ⟨_, rfl, r⟩
  cases ru
  have fp : ∀ b ∈ [s1.heap.objs.size + 1, s1.heap.objs.size], FpOk X pins H1 b := fun b hb => by
    have e' : b = s1.heap.objs.size + 1 ∨ b = s1.heap.objs.size := by simpa using hb
    have hle : s1.heap.objs.size ≤ b := by
      rcases e' with z | z
      · rw [z]; exact Nat.le_add_right _ _
      · rw [z]; exact Nat.le_refl _
    exact I1.fpOk hle (I1.hok.fresh hle)
  rcases q1 with ⟨hq, q⟩ | ⟨hq, q⟩
  · obtain ⟨its, rv, p', hz⟩ := I1.list hq
    exact call_enumerate_list p'.isList fun h' he hit hsz hk => wpAny_pyIter_enum he ⟨s1.heap.objs.size + 1, _, _, _, H1, rfl, I1.kept (t' := s1.toks) hk, turn_enum a (s1.heap.objs.size + 1) s1.heap.objs.size, ⟨⟨.none, he⟩, hit, Nat.succ_ne_self _⟩, fp, q⟩
  · obtain ⟨its, rv, p', hz⟩ := I1.tuple hq
    obtain ⟨ot, hot, _⟩ := id p'
    have hlt : a < s1.heap.objs.size := Heap.lt_size hot
    exact call_enumT1 (show s1.heap.IsTuple a its.toArray from p') fun h' he hit hsz hk => wpAny_pyIter_enum he ⟨s1.heap.objs.size + 1, _, _, _, H1, rfl, I1.kept (t' := s1.toks) hk, turn_enumT (Nat.succ_ne_self _) (Nat.ne_of_lt hlt) (Nat.ne_of_gt (Nat.lt_succ_of_lt hlt)), ⟨⟨.none, he⟩, hit⟩, fp, q⟩
def enumD : Nat → List D → List D
  | _, [] => []
  | i, d :: ds => .tup [.int i, d] :: enumD (i + 1) ds
theorem enumD_get : ∀ {ds : List D} {k i : Nat} {d : D}, (enumD k ds)[i]? = some d → ∃ x, ds[i]? = some x ∧ d = .tup [.int ((k + i : Nat) : Int), x]
  | x :: ds, k, 0, d, h => by
    have h : some (D.tup [.int k, x]) = some d := by simpa [enumD] using h
    cases h
    exact ⟨x, rfl, rfl⟩
  | x :: ds, k, i + 1, d, h => by
    have h : (enumD (k + 1) ds)[i]? = some d := by simpa [enumD] using h
    obtain ⟨y, h1, h2⟩ := enumD_get h
    refine ⟨y, by simpa using h1, ?_⟩
    rw [h2, show k + 1 + i = k + (i + 1) from by omega]
theorem enumD_len : ∀ {ds : List D} {k : Nat}, (enumD k ds).length = ds.length
  | [], _ => rfl
  | _ :: ds, k => by rw [enumD, List.length_cons, enumD_len (ds := ds), List.length_cons]
section
variable {X : Cx} {T : Tab} {W : WX} {e : Expr} {wA : WpA} {p pos tpos : Pos} {elts : List Expr} {kk : Nat}
def enumW (ss : List Sl) (k : List D → Prop) : Prop := match ss with
  | [.dat (.lst ds)] => k (enumD 0 ds)
  | [.dat (.tup ds)] => k (enumD 0 ds)
  | _ => False
def wEnum (wA : WpA) : WpI := fun sl cs R Rx => wA sl cs (fun ss c => enumW ss fun ds => R ds c) Rx
theorem ite_ok {K : PySem.W.Frag} {F : Addr → Prop} {ad : List Addr} {H : Hp} {a : Addr} {xs : List V} {ds : List D} (n1 : ¬ Mm ad F a) (e1 : H a = some (.lst xs)) (q1 : Reps T K (Mm ad F) H xs ds) : ItOk T K F (Ite K a) (enumD 0 ds) ad H := fun F2 ad2 H2 cs2 c2 kp i => ⟨fun d hd => by
    obtain ⟨x, hx, rfl⟩ := enumD_get hd
    obtain ⟨vx, gx, rx⟩ := (q1.kp kp).get hx
    have a1 := SqL.of (K := K) (kp a _ e1 n1).1
    refine ⟨⟨xs, vx, a1, gx⟩, fun v H3 yy => ?_⟩
    obtain ⟨Tt, x', rfl, hT, rfl, g1⟩ := yy
    have g1 := g1 xs a1
    rw [gx] at g1
    cases g1
    obtain ⟨c3, x3⟩ := c2.newo (o := .tup [.int (i : Nat), vx]) hT
    refine ⟨fun b o e => by rw [upd_ne (ne_of_none e hT)]; exact e, ?_⟩
    rw [Nat.zero_add]
    exact .tup (vs := [.int (i : Nat), vx]) (.inl ⟨c2.new hT, .inl upd_same⟩) (.cons Rep.int (.cons (rx.kp x3.kp) .nil)), fun hi => by
    rw [enumD_len] at hi
    exact ⟨xs, SqL.of (kp a _ e1 n1).1, by rw [q1.length]; omega⟩⟩
theorem iteT_ok {K : PySem.W.Frag} {F : Addr → Prop} {ad : List Addr} {H : Hp} {a : Addr} {xs : List V} {ds : List D} (e1 : TAt K (Mm ad F) H a xs) (q1 : Reps T K (Mm ad F) H xs ds) : ItOk T K F (IteT K a) (enumD 0 ds) ad H := fun F2 ad2 H2 cs2 c2 kp i => ⟨fun d hd => by
    obtain ⟨x, hx, rfl⟩ := enumD_get hd
    obtain ⟨vx, gx, rx⟩ := (q1.kp kp).get hx
    have a1 := (e1.kp kp).sq
    refine ⟨⟨xs, vx, a1, gx⟩, fun v H3 yy => ?_⟩
    obtain ⟨Tt, x', rfl, hT, rfl, g1⟩ := yy
    have g1 := g1 xs a1
    rw [gx] at g1
    cases g1
    obtain ⟨c3, x3⟩ := c2.newo (o := .tup [.int (i : Nat), vx]) hT
    refine ⟨fun b o e => by rw [upd_ne (ne_of_none e hT)]; exact e, ?_⟩
    rw [Nat.zero_add]
    exact .tup (vs := [.int (i : Nat), vx]) (.inl ⟨c2.new hT, .inl upd_same⟩) (.cons Rep.int (.cons (rx.kp x3.kp) .nil)), fun hi => by
    rw [enumD_len] at hi
    exact ⟨xs, (e1.kp kp).sq, by rw [q1.length]; omega⟩⟩
theorem ji_enum (hm : X.mg "enumerate" = none) (ha : JA X T W [e] wA) (hg : Gl X "enumerate" := by rfl) (hs : starEach [e] X.env = [(false, eval e X.env)] := by rfl) : JI X T W (.Tuple elts kk tpos) (.Call (.Name "enumerate" p) [e] [] pos) (wEnum wA) :=
  weakI (pi_enumA hg hm ha hs) fun σ H Q ⟨ad, F, sl, cs, R, Rx, h0, hw, q, qx⟩ => ⟨ad, F, sl, cs, _, Rx, h0, hw, fun ss c1 vs H1 ad1 hw1 x1 h1 r1 => by
    unfold enumW at hw1
    split at hw1
    · match vs, r1 with
      | [v], r1 =>
        have r1 := r1.1
        cases r1 with
        | @lst a xs _ n1 e1 q1 => exact ⟨a, xs, rfl, .inl ⟨SqL.of e1, q _ c1 _ H1 ad1 hw1 x1 h1 (ite_ok n1 e1 q1)⟩⟩
    · match vs, r1 with
      | [v], r1 =>
        have r1 := r1.1
        cases r1 with
        | @tup a xs _ e1 q1 => exact ⟨a, xs, rfl, .inr ⟨e1.sq, q _ c1 _ H1 ad1 hw1 x1 h1 (iteT_ok e1 q1)⟩⟩
    · exact hw1.elim, qx⟩
end
end Dl

namespace Dl
open PySem L2
/-! ### methods by keywords and with defaults -/
section
variable {X : Cx} {T : Tab} {W : WX} {e o : Expr} {es : List Expr} {kws : List Keyword} {pos apos p : Pos} {wo : WpE} {wA wK : WpA} {c : Ct} {cx : CtX} {k cn pn : Nat} {fd : FuncData} {ps ks : List Str} {m y : Str} {C g : Addr} {fn : List Str} {gg : List Value → List Value → List Value} {gV : List V → List V → List V} {fu : List D → List D → List D}
theorem run_kwS {CX : CXT} {sp : Sp} {E : St → XK} {pins : List (Addr × Obj)} {σ : St} {H : Hp} {sh : Shared} {Q : VK} {us ws : List Value} {vs zs : List V} (G : FnOk X.prog X.w X.K X.mg X.base CX k g fd ps sp) (hr : Room k X.A) (hb : KBn X.K fd ps pn ks gg gV) (hx : PassesAt CX X σ (E σ))
    (I : Inv X pins σ H sh) (r : Vals vs us) (rz : Vals zs ws) (l1 : vs.length = pn) (l2 : zs.length = ks.length) (h : sp (gV vs zs) H Q (E σ)) : wpAny (model X.prog X.w) X.A (call (.ref g) us (ks.zip ws)) (EP X pins σ Q) X.xe sh := by
  refine wpAny_call (codeAny_mono (G.run X.A X.stack sh H ⟨us, ks.zip ws⟩ _ (gV vs zs) Q (E σ) hr I.env0 (hb.to sh us ws I.kIn (r.length.symm.trans l1) (rz.length.symm.trans l2)) (hb.rel r rz) h) fun z s' hq => ?_)
  match z, hq with
  | .error e, hq => exact hx pins H sh e s' I hq
  | .ok (.ret u), hq => exact I.after hq
def tMethKS (C : Addr) (m : Str) (n j : Nat) (sp : Sp) (gV : List V → List V → List V) (E : St → XK) (ta : TE) (t tk : TA) : TE := fun σ H Q => ta σ H fun x H1 => ∃ a dx fs, x = .ref a ∧ H1 a = some (.ins C dx fs) ∧ fs.lookup m = none ∧
  t σ H1 fun vs H2 => tk σ H2 fun zs H3 => vs.length = n ∧ zs.length = j ∧ sp (gV (x :: vs) zs) H3 Q (E σ)
theorem pe_methKS {CX : CXT} {sp : Sp} {E : St → XK} {pl : Sem Bool} {ta : TE} {t tk : TA} (he : PE X o ta) (hc : Cls X.K C) (hm : Meth X.K C m g) (G : FnOk X.prog X.w X.K X.mg X.base CX k g fd ps sp) (hr : Room k X.A) (hb : KBn X.K fd ps (pn + 1) ks gg gV) (hx : ∀ σ, PassesAt CX X σ (E σ)) (ha : PA X (e :: es) t) (hkw : PK X kws tk)
    (hall : (backToKw pos (keywordEach kws X.env)).all (·.1.isSome) = true) (hks : (backToKw pos (keywordEach kws X.env)).filterMap (·.1) = ks) (hst : starEach (e :: es) X.env = (false, eval e X.env) :: starEach es X.env)
    (hpl : ((backTo pos (starEach (e :: es) X.env)).any (·.1) || (backToKw pos (keywordEach kws X.env)).any (·.1.isNone)) = false)
    (ht : eval (.Call (.Attribute o m apos) (e :: es) kws pos) X.env = (eval o X.env >>= fun ov => standAt apos.atName >>= fun _ => holding [ov] (getMethod ov m pl) >>= fun fb => callWith pos fb.1 fb.2 (backTo pos (starEach (e :: es) X.env)) (backToKw pos (keywordEach kws X.env)))) :
    PE X (.Call (.Attribute o m apos) (e :: es) kws pos) (tMethKS C m pn ks.length sp gV E ta t tk) := by
  constructor
  intro pins s σ H Q I h
  refine PySem.W.methodCall_KW (pl := pl) (thn (he.run pins s σ H _ I h) fun u s1 z => ?_) ht
  obtain ⟨x, H1, I1, rx, a, dx, fs, ex, ea, l, q⟩ := z
  subst ex
  cases (show u = Value.ref a from rx)
  refine getmeth_ok I1 ea hc hm l (PySem.W.callWith_KW (first := [.ref a]) (h₀ := X.base) I.ok.mod.kin hm.kp hall (thn (ha.run pos pins s1 σ H1 _ I1 q) fun us s2 z => ?_) hpl hst)
  obtain ⟨vs, H2, I2, r, q2⟩ := z
  refine thn (hkw.run pos pins s2 σ H2 _ I2 q2) fun ws s3 z => ?_
  obtain ⟨zs, H3, I3, rz, l1, l2, q3⟩ := z
  refine ⟨I3.kIn, ?_⟩
  rw [hks]
  exact run_kwS (us := .ref a :: us) (vs := .ref a :: vs) G hr hb (hx σ) I3 (.cons rfl r) rz (by rw [List.length_cons, l1]) l2 q3
theorem pe_methKS0 {CX : CXT} {sp : Sp} {E : St → XK} {pl : Sem Bool} {ta : TE} {tk : TA} (he : PE X o ta) (hc : Cls X.K C) (hm : Meth X.K C m g) (G : FnOk X.prog X.w X.K X.mg X.base CX k g fd ps sp) (hr : Room k X.A) (hb : KBn X.K fd ps 1 ks gg gV) (hx : ∀ σ, PassesAt CX X σ (E σ)) (hkw : PK X kws tk)
    (hall : (backToKw pos (keywordEach kws X.env)).all (·.1.isSome) = true) (hks : (backToKw pos (keywordEach kws X.env)).filterMap (·.1) = ks)
    (hpl : ((backTo pos (starEach [] X.env)).any (·.1) || (backToKw pos (keywordEach kws X.env)).any (·.1.isNone)) = false)
    (ht : eval (.Call (.Attribute o m apos) [] kws pos) X.env = (eval o X.env >>= fun ov => standAt apos.atName >>= fun _ => holding [ov] (getMethod ov m pl) >>= fun fb => callWith pos fb.1 fb.2 (backTo pos (starEach [] X.env)) (backToKw pos (keywordEach kws X.env)))) :
    PE X (.Call (.Attribute o m apos) [] kws pos) (tMethKS C m 0 ks.length sp gV E ta tNil tk) := by
  constructor
  intro pins s σ H Q I h
  refine PySem.W.methodCall_KW (pl := pl) (thn (he.run pins s σ H _ I h) fun u s1 z => ?_) ht
  obtain ⟨x, H1, I1, rx, a, dx, fs, ex, ea, l, q⟩ := z
  subst ex
  cases (show u = Value.ref a from rx)
  refine getmeth_ok I1 ea hc hm l (PySem.W.callWith_KW0 (first := [.ref a]) (h₀ := X.base) I.ok.mod.kin hm.kp hall ?_ hpl)
  refine thn (hkw.run pos pins s1 σ H1 _ I1 q) fun ws s3 z => ?_
  obtain ⟨zs, H3, I3, rz, l1, l2, q3⟩ := z
  refine ⟨I3.kIn, ?_⟩
  rw [hks]
  exact run_kwS (us := [.ref a]) (vs := [.ref a]) G hr hb (hx σ) I3 (.cons rfl .nil) rz rfl l2 q3
theorem pass_no {σ : St} : PassesAt CX0 X σ E0 := fun _ _ _ _ _ _ z => z.elim
def wMethK (cn : Nat) (m : Str) (c : Ct) (pn kn : Nat) (fu : List D → List D → List D) (wo : WpE) (wA wK : WpA) : WpE := fun sl cs R Rx => wo sl cs (fun s c1 => recvW cn m s c1 ∧ wA sl c1 (fun ss c2 => wDats ss fun vs => wK sl c2 (fun zz c3 => wDats zz fun zs => vs.length = pn ∧ zs.length = kn ∧ callW c (s :: (fu vs zs).map Sl.dat) c3 R) Rx) Rx) Rx
def wMethKX (cn : Nat) (m : Str) (c : Ct) (cx : CtX) (pn kn : Nat) (fu : List D → List D → List D) (wo : WpE) (wA wK : WpA) : WpE := fun sl cs R Rx => wo sl cs (fun s c1 => recvW cn m s c1 ∧ wA sl c1 (fun ss c2 => wDats ss fun vs => wK sl c2 (fun zz c3 => wDats zz fun zs => vs.length = pn ∧ zs.length = kn ∧ callXW c cx (s :: (fu vs zs).map Sl.dat) c3 R Rx) Rx) Rx) Rx
theorem je_methK {pl : Sem Bool} (hT : T cn = some (C, fn)) (hc : Cls X.K C) (hm : Meth X.K C m g) (hf : fIdx fn m = none) (G : FnOk X.prog X.w X.K X.mg X.base CX0 k g fd ps (spC T X.K c)) (hr : Room k X.A) (hb : ∃ gg, KBn X.K fd ps (pn + 1) ks gg gV)
    (hp : ∀ vs zs : List D, vs.length = pn → zs.length = ks.length → Put X.K gV vs zs (fu vs zs)) (he : JE X T W o wo) (ha : JA X T W (e :: es) wA) (hkw : JK X T W kws wK)
    (hall : (backToKw pos (keywordEach kws X.env)).all (·.1.isSome) = true := by rfl) (hks : (backToKw pos (keywordEach kws X.env)).filterMap (·.1) = ks := by rfl) (hst : starEach (e :: es) X.env = (false, eval e X.env) :: starEach es X.env := by rfl)
    (hpl : ((backTo pos (starEach (e :: es) X.env)).any (·.1) || (backToKw pos (keywordEach kws X.env)).any (·.1.isNone)) = false := by rfl)
    (ht : eval (.Call (.Attribute o m apos) (e :: es) kws pos) X.env = (eval o X.env >>= fun ov => standAt apos.atName >>= fun _ => holding [ov] (getMethod ov m pl) >>= fun fb => callWith pos fb.1 fb.2 (backTo pos (starEach (e :: es) X.env)) (backToKw pos (keywordEach kws X.env))) := by rfl) :
    JE X T W (.Call (.Attribute o m apos) (e :: es) kws pos) (wMethK cn m c pn ks.length fu wo wA wK) := by
  obtain ⟨gg, hb⟩ := hb
  exact weak (pe_methKS (E := fun _ => E0) (pl := pl) he hc hm G hr hb (fun σ => pass_no) ha hkw hall hks hst hpl ht) fun σ H Q ⟨ad, F, sl, cs, R, Rx, h0, hw, q, qx⟩ => ⟨ad, F, sl, cs, _, Rx, h0, hw, fun s c1 v H1 ad1 hw1 x1 h1 r1 => by
    obtain ⟨a, dx, fs, rfl, e1, e2⟩ := recvW_of hT hf h1.hc r1 hw1.1
    refine ⟨a, dx, fs, rfl, e1, e2, ad1, F, sl, c1, _, Rx, h1, hw1.2, fun ss c2 vs H2 ad2 hw2 x2 h2 r2 => ?_, qx.on x1 h1⟩
    have hw2' := wDats_of hw2
    clear hw2
    obtain ⟨args, e0, hw2⟩ := hw2'
    subst e0
    refine ⟨ad2, F, sl, c2, _, Rx, h2, hw2, fun zz c3 zs H3 ad3 hw3 x3 h3 r3 => ?_, (qx.on x1 h1).on x2 h2⟩
    obtain ⟨kargs, rfl, l1, l2, hw3⟩ := wDats_of hw3
    have w1 := r2.dats
    have w2 := r3.dats
    obtain ⟨us, e3, e4⟩ := hp args kargs l1 l2 (.ref a) vs zs w1.length w2.length
    refine ⟨by rw [w1.length]; exact l1, by rw [w2.length]; exact l2, ?_⟩
    rw [e3]
    exact callW_then (ss := s :: (fu args kargs).map Sl.dat) h3.hc ⟨(r1.ext x2).ext x3, SlReps.of (e4 _ _ _ (w1.kp x3.kp) w2)⟩ hw3 fun s' c' v H' ad' hR x4 k4 r4 => q s' c' v H' ad' hR (x1.trans h1.hc (x2.trans h2.hc (x3.trans h3.hc x4))) (h3.to x4 k4) r4, qx⟩
theorem je_methKX (tk : Takes X W) {pl : Sem Bool} (hT : T cn = some (C, fn)) (hc : Cls X.K C) (hm : Meth X.K C m g) (hf : fIdx fn m = none) (G : FnOk X.prog X.w X.K X.mg X.base (L2.CX X.prog X.w) k g fd ps (spX T X.K c cx)) (hr : Room k X.A) (hb : ∃ gg, KBn X.K fd ps (pn + 1) ks gg gV)
    (hp : ∀ vs zs : List D, vs.length = pn → zs.length = ks.length → Put X.K gV vs zs (fu vs zs)) (he : JE X T W o wo) (ha : JA X T W (e :: es) wA) (hkw : JK X T W kws wK)
    (hall : (backToKw pos (keywordEach kws X.env)).all (·.1.isSome) = true := by rfl) (hks : (backToKw pos (keywordEach kws X.env)).filterMap (·.1) = ks := by rfl) (hst : starEach (e :: es) X.env = (false, eval e X.env) :: starEach es X.env := by rfl)
    (hpl : ((backTo pos (starEach (e :: es) X.env)).any (·.1) || (backToKw pos (keywordEach kws X.env)).any (·.1.isNone)) = false := by rfl)
    (ht : eval (.Call (.Attribute o m apos) (e :: es) kws pos) X.env = (eval o X.env >>= fun ov => standAt apos.atName >>= fun _ => holding [ov] (getMethod ov m pl) >>= fun fb => callWith pos fb.1 fb.2 (backTo pos (starEach (e :: es) X.env)) (backToKw pos (keywordEach kws X.env))) := by rfl) :
    JE X T W (.Call (.Attribute o m apos) (e :: es) kws pos) (wMethKX cn m c cx pn ks.length fu wo wA wK) := by
  obtain ⟨gg, hb⟩ := hb
  exact weak (pe_methKS (E := WE W) (pl := pl) he hc hm G hr hb (passAt tk) ha hkw hall hks hst hpl ht) fun σ H Q ⟨ad, F, sl, cs, R, Rx, h0, hw, q, qx⟩ => ⟨ad, F, sl, cs, _, Rx, h0, hw, fun s c1 v H1 ad1 hw1 x1 h1 r1 => by
    obtain ⟨a, dx, fs, rfl, e1, e2⟩ := recvW_of hT hf h1.hc r1 hw1.1
    refine ⟨a, dx, fs, rfl, e1, e2, ad1, F, sl, c1, _, Rx, h1, hw1.2, fun ss c2 vs H2 ad2 hw2 x2 h2 r2 => ?_, qx.on x1 h1⟩
    have hw2' := wDats_of hw2
    clear hw2
    obtain ⟨args, e0, hw2⟩ := hw2'
    subst e0
    refine ⟨ad2, F, sl, c2, _, Rx, h2, hw2, fun zz c3 zs H3 ad3 hw3 x3 h3 r3 => ?_, (qx.on x1 h1).on x2 h2⟩
    obtain ⟨kargs, rfl, l1, l2, hw3⟩ := wDats_of hw3
    have w1 := r2.dats
    have w2 := r3.dats
    obtain ⟨us, e3, e4⟩ := hp args kargs l1 l2 (.ref a) vs zs w1.length w2.length
    refine ⟨by rw [w1.length]; exact l1, by rw [w2.length]; exact l2, ?_⟩
    rw [e3]
    have x13 := x1.trans h1.hc (x2.trans h2.hc x3)
    exact callXW_then (ss := s :: (fu args kargs).map Sl.dat) h3.hc ⟨(r1.ext x2).ext x3, SlReps.of (e4 _ _ _ (w1.kp x3.kp) w2)⟩ hw3 (fun s' c' v H' ad' hR x4 k4 r4 => q s' c' v H' ad' hR (x13.trans h3.hc x4) (h3.to x4 k4) r4) (fun x c' cls d H' ad' hR x4 k4 er => qx x c' cls d H' ad' hR (x13.trans h3.hc x4) (h3.to x4 k4) er), qx⟩
end
/-! ### defs with defaults that may raise -/
section
variable {T : Tab} {P : Program} {w : World} {K : PySem.W.Frag} {mg : Str → Option Value} {base : Heap} {x qual : Str} {st : Stmt} {f : Addr} {fd : FuncData} {N ps : List Str} {k : Nat} {ws : Nat → WS}
theorem fn_okXD {dvs : List V} {kws : List (Str × V)} {c : Ct} {cx : CtX} (F : FunD K x qual (defArgs st) (defBody st) (defScope st) dvs kws f fd) (Sc : FnScope N ps (defScope st)) (len : ∀ args cs s cs', c args cs s cs' → args.length = ps.length) (lenX : ∀ args cs x cs', cx args cs x cs' → args.length = ps.length)
    (body : ∀ cdv A outer sh H E, Room k (cxX P w K mg base N qual st f cdv A outer sh H E).nox.A → ∀ args cs s cs', c args cs s cs' → DSs (cxX P w K mg base N qual st f cdv A outer sh H E).nox T cs.length (st0 N args cs) (defBody st) (endOf cs.length s cs'))
    (bodyX : ∀ cdv A outer sh H E, Room k (cxX P w K mg base N qual st f cdv A outer sh H E).A → Takes (cxX P w K mg base N qual st f cdv A outer sh H E) (fun cls d _ H => E cls d H) → ∀ args cs x cs', cx args cs x cs' → DSs (cxX P w K mg base N qual st f cdv A outer sh H E) T cs.length (st0 N args cs) (defBody st) (endX cs.length E x cs')) :
    FnOk P w K mg base (L2.CX P w) (k + 1) f fd ps (spX T K c cx) := by
  refine F.ok Sc (fun vs H Q E h => ?_) (fun cdv A outer s H vs Q E hr h => ?_)
  · rcases h with ⟨ad, F', args, cs, s, cs', _, r, hc, _⟩ | ⟨ad, F', args, cs, s, cs', _, r, hc, _⟩
    · rw [r.len, len _ _ _ _ hc]
    · rw [r.len, lenX _ _ _ _ hc]
  · rcases h with ⟨ad, F', args, cs, s0, cs', hc, r, h, q⟩ | ⟨ad, F', args, cs, x0, cs', hc, r, h, q⟩
    · refine ⟨_, PSs.nox (body cdv A outer s H E hr args cs s0 cs' h), ad, F', Nat.le_of_eq hc.ln.symm, start_hold hc r, ?_, ?_, fun _ _ _ _ _ _ _ z => z.elim, fun _ _ _ _ _ _ _ z => z.elim, fun _ _ _ _ _ _ _ _ _ _ _ z => z.elim⟩
      · rintro S' σ' H' ad' x hn h' ⟨rfl, e⟩
        subst e
        refine q .non H' (ad'.take cs.length) ⟨by rw [List.take_take, Nat.min_self]; exact x.pre, fun a ha => x.sub a (List.mem_of_mem_take ha), x.keep, x.frm⟩ (by rw [List.length_take]; omega) (h'.hc.take _) Rep.non
      · rintro s2 cs2 v H' ad' x hn c2 r2 ⟨rfl, rfl⟩
        exact q v H' ad' x hn c2 r2
    · have tk : Takes (cxX P w K mg base N qual st f cdv A outer s H E) (fun cls d _ H => E cls d H) := takes_of rfl rfl rfl rfl
      refine ⟨_, bodyX cdv A outer s H E hr tk args cs x0 cs' h, ad, F', Nat.le_of_eq hc.ln.symm, start_hold hc r, fun _ _ _ _ _ _ _ z => z.elim, fun _ _ _ _ _ _ _ _ _ z => z.elim, fun _ _ _ _ _ _ _ z => z.elim, fun _ _ _ _ _ _ _ z => z.elim, ?_⟩
      rintro y S' cls d σ' H' ad' x hn h' er ⟨rfl, e⟩
      subst e
      have kp : Kp (Mm ad' F') H' (Mm (ad'.take cs.length) F') H' := fun a o e m => ⟨e, fun z => m (z.imp List.mem_of_mem_take id)⟩
      refine q cls d H' (ad'.take cs.length) ⟨by rw [List.take_take, Nat.min_self]; exact x.pre, fun a ha => x.sub a (List.mem_of_mem_take ha), x.keep, x.frm⟩ (by rw [List.length_take]; omega) (h'.hc.take _) ?_
      obtain ⟨C, fn, e1, e2, er⟩ := er
      refine ⟨C, fn, e1, e2, er.imp id ?_⟩
      rintro ⟨dd, vs', a1, a2, a3, a4, a5⟩
      exact ⟨dd, vs', a1, fun z => a2 (z.imp List.mem_of_mem_take id), a3, a4, a5.kp kp⟩
theorem fn_JXD {dvs : List V} {kws : List (Str × V)} (F : FunD K x qual (defArgs st) (defBody st) (defScope st) dvs kws f fd) (Sc : FnScope N ps (defScope st))
    (body : ∀ cdv A outer sh H E, Room k (cxX P w K mg base N qual st f cdv A outer sh H E).nox.A → ∀ n, JSs (cxX P w K mg base N qual st f cdv A outer sh H E).nox T W0 n (defBody st) (ws n))
    (bodyX : ∀ cdv A outer sh H E, Room k (cxX P w K mg base N qual st f cdv A outer sh H E).A → Takes (cxX P w K mg base N qual st f cdv A outer sh H E) (fun cls d _ H => E cls d H) → ∀ n, JSs (cxX P w K mg base N qual st f cdv A outer sh H E) T (fun cls d _ H => E cls d H) n (defBody st) (ws n)) :
    FnOk P w K mg base (L2.CX P w) (k + 1) f fd ps (spX T K (ctOf N ps ws) (ctXOf N ps ws)) :=
  fn_okXD F Sc (fun _ _ _ _ h => h.1) (fun _ _ _ _ h => h.1) (fun cdv A outer sh H E hr args cs s cs' h => body cdv A outer sh H E hr _ _ _ h.2) fun cdv A outer sh H E hr tk args cs x cs' h => bodyX cdv A outer sh H E hr tk _ _ _ h.2
end
end Dl

namespace Dl
open PySem L2
section
variable {X : Cx} {T : Tab} {cs : List Cell}
/-! ### x is True -/
theorem cmp_isBl {a b : Bool} : CmpD X T .Is (.dat (.bl a)) (.dat (.bl b)) cs (.dat (.bl (decide (a = b)))) cs := ⟨_, op_is_bl, fun ad F H v w Q c r1 r2 q => by
  cases r1
  cases r2
  exact ⟨_, _, rfl, rfl, q _ H ad .refl c Rep.bl⟩⟩
theorem cmp_isntBl {a b : Bool} : CmpD X T .IsNot (.dat (.bl a)) (.dat (.bl b)) cs (.dat (.bl (!decide (a = b)))) cs := ⟨_, op_isnot_bl, fun ad F H v w Q c r1 r2 q => by
  cases r1
  cases r2
  exact ⟨_, _, rfl, rfl, q _ H ad .refl c Rep.bl⟩⟩
def isBW (neg : Bool) : W2 := fun s1 s2 cs R => match s1, s2 with
  | .dat (.bl a), .dat (.bl b) => R (.dat (.bl (neg.xor (decide (a = b))))) cs
  | _, _ => False
theorem jc_isB : JCmp X T .Is (isBW false) := fun s1 s2 cs R h => by
  unfold isBW at h
  split at h
  · exact ⟨_, _, cmp_isBl, by simpa using h⟩
  · exact h.elim
theorem jc_isntB : JCmp X T .IsNot (isBW true) := fun s1 s2 cs R h => by
  unfold isBW at h
  split at h
  · exact ⟨_, _, cmp_isntBl, by simpa using h⟩
  · exact h.elim
end
end Dl

namespace Dl
open PySem L2
/-! ### x != y by an own == -/
section
open PySem.W
variable {M : Model} {prog : Program} {w : World} {A : Around} {E : Value → Shared → Prop} {s : Shared} {K : PySem.W.Frag} {x C f : Addr} {ox : Obj} {od : Option Obj} {b : Value}
theorem ifBound_objNe {args : List Value} {Q : Option Value → Shared → Prop} (X : K.In s.heap) (I : PySem.W.InstAt s.heap x ox C od) (hs : PySem.W.findIn K (.ref C) "__ne__" = some (some (.builtin "object.__ne__")))
    (h : wpAny M A (call (.builtin "object.__ne__") (.ref x :: args)) (fun v => Q (some v)) E s) : wpAny M A (callSpecialIfBound? (.ref x) "__ne__" args) Q E s := by
  simp only [callSpecialIfBound?, bindSpecialIfBound?]
  refine wpAny_holding (wpAny_bind (wpAny_bind (wpAny_bind (I.type.here ((PySem.W.looks_findIn X hs).here ?_)))))
  refine wpAny_bind (wpAny_askSetting (wpAny_ite ?_))
  have fin : wpAny M A (call (.builtin "object.__ne__") ([.ref x] ++ args) >>= fun v => pure (some v)) Q E s := wpAny_bind (wpAny_mono h (fun v s' h' => wpAny_pure h') fun _ _ h' => h')
  split
  · exact wpAny_bind (wpAny_of_eq (F.cmp_object.ne.bind _) (wpAny_pure (by exact fin)))
  · exact wpAny_tryCatch (wpAny_bind (wpAny_of_eq (F.cmp_object.ne.bind _) (wpAny_pure (by exact fin))))
theorem entry_objNe {Q : Fin → Shared → Prop} (hu : A.units < cLine) (X : K.In s.heap) (I : PySem.W.InstAt s.heap x ox C od) (hs : PySem.W.findIn K (.ref C) "__eq__" = some (some (.ref f))) (hf : PySem.W.isFn K (.ref f) = true)
    (hcall : wpAny M A (call (.ref f) [.ref x, b]) (fun v s' => ∃ k, v = .bool k ∧ Q (.done (.ret (.bool (!k)))) s') E s) : wpAny M A (Builtin.«object.__ne__» ⟨[.ref x, b], []⟩) Q E s := by
  unfold Builtin.«object.__ne__»
  repeat (first
    | with_reducible refine wpAny_cRoomFor hu ?_
    | (refine wpAny_bind (m := callSpecialIfBound? (.ref x) (Str.ofString "__eq__") [b])
        (ifBound_K X I hs hf (wpAny_mono hcall (fun r s' hr => by
          obtain ⟨k, rfl, hq⟩ := hr
          repeat (first | exact hq | exact wpAny_pure hq | exact wpAny_truthy_bool hq | (refine wpAny_bind (m := truthy (.bool _)) (wpAny_truthy_bool ?_)) | wp_step)) fun _ _ e => e)))
    | wp_step)
theorem ne_K {Q : Value → Shared → Prop} (hu : A.units + 1 < cLine) (X : K.In s.heap) (I : InstAt s.heap x ox C od) (hb : Looks (model prog w) s.heap (typeOf b) (.ref C)) (hm : mroIn K C (.type "object") = some true)
    (hn : findIn K (.ref C) "__ne__" = some (some (.builtin "object.__ne__"))) (hs : findIn K (.ref C) "__eq__" = some (some (.ref f))) (hf : isFn K (.ref f) = true)
    (h : wpAny (model prog w) A.in1 (call (.ref f) [.ref x, b]) (fun v s' => ∃ k, v = .bool k ∧ Q (.bool (!k)) s') E s) : wpAny (model prog w) A (richCompare .NotEq (.ref x) b) Q E s := by
  have one : wpAny (model prog w) A (tryCompare (.ref x) "__ne__" b) (fun r s' => ∃ v, r = some v ∧ Q v s') E s := by
    unfold tryCompare
    refine wpAny_bind (ifBound_objNe X I hn (wpAny_call (codeAny_call_builtin F.cmp_object.ne.plain F.cmpEntry_ne (PySem.W.check_slot F.cmpKind_ne F.cmpSplit_ne (I.type.andThen (PySem.W.looks_mroIn X hm)) (F.cmpArgs_ne _ _) (entry_objNe (A := A.in1) hu X I hs hf (wpAny_mono h (fun v s' hv => ?_) fun _ _ e => e))))))
    obtain ⟨k, rfl, hq⟩ := hv
    exact ⟨k, rfl, wpAny_pure ⟨_, rfl, hq⟩⟩
  unfold richCompare
  simp only [oneThing_ref]
  refine wpAny_holding (wpAny_bind (wpAny_cRoomFor (Nat.lt_of_succ_lt hu) ?_))
  rw [cmpInfo_NotEq]
  dsimp only
  refine wpAny_bind (I.type.here (wpAny_bind (hb.here ?_)))
  split
  · rename_i q
    exact absurd q (by simp)
  · refine wpAny_bind (wpAny_pure ?_)
    simp only [Bool.false_eq_true, if_false]
    refine wpAny_bind (wpAny_mono one (fun r s' z => ?_) fun _ _ e => e)
    obtain ⟨v, rfl, hq⟩ := z
    exact wpAny_pure hq
end
end Dl

namespace Dl
open PySem L2
/-- an own class whose != is object's -/
structure NeC (K : PySem.W.Frag) (C : Addr) : Prop where
  mr : PySem.W.mroIn K C (.type "object") = some true
  ne : PySem.W.findIn K (.ref C) "__ne__" = some (some (.builtin "object.__ne__"))
section
variable {X : Cx} {T : Tab} {C g : Addr} {fd : FuncData} {ps : List Str} {k cn : Nat} {c : Ct} {fn : List Str} {ds es : List D} {d : D} {cs : List Cell} {w2 : W2}
theorem cop_ownNe {sp : Sp} (N : NeC X.K C) (G : FnOk X.prog X.w X.K X.mg X.base CX0 k g fd ps sp) (hr : Room (k + 1) X.A) (hb : Binds X.K fd ps []) (hs : PySem.W.findIn X.K (.ref C) "__eq__" = some (some (.ref g))) (hf : PySem.W.isFn X.K (.ref g) = true) :
    OpR X (compareOp .NotEq) (fun x y H Q => ∃ a b dx dy fs gs, x = .ref a ∧ y = .ref b ∧ H a = some (.ins C dx fs) ∧ H b = some (.ins C dy gs) ∧ sp [x, y] H (fun v H' => ∃ b, v = .bl b ∧ Q (.bl (!b)) H') E0) := by
  intro pins s σ H x y v u Q I rx ry h
  obtain ⟨a, b, dx, dy, fs, gs, rfl, rfl, ea, eb, hsp⟩ := h
  cases rx; cases ry
  obtain ⟨mA, J, _⟩ := ins_get I.hok ea
  obtain ⟨mB, J', _⟩ := ins_get I.hok eb
  obtain ⟨od, J, _⟩ := J.look
  obtain ⟨od', J', _⟩ := J'.look
  have hu : X.A.units + 1 < cLine := by
    have := hr.in1.units0
    exact this
  show wpAny _ _ (richCompare .NotEq (.ref a) (.ref b)) _ _ _
  refine ne_K hu I.kIn J J'.type N.mr N.ne hs hf (thn (run_in1 (us := [.ref a, .ref b]) (vs := [.ref a, .ref b]) G hr hb I (.cons rfl (.cons rfl .nil)) hsp) fun u s' z => ?_)
  obtain ⟨v, H', I', r, b', rfl, q⟩ := z
  cases (show u = Value.bool b' from r)
  exact ⟨b', rfl, .bl (!b'), H', I', rfl, q⟩
theorem cmp_ownNe (hT : T cn = some (C, fn)) (N : NeC X.K C) (G : FnOk X.prog X.w X.K X.mg X.base CX0 k g fd ps (spC T X.K c)) (hr : Room (k + 1) X.A) (hb : Binds X.K fd ps []) (hs : PySem.W.findIn X.K (.ref C) "__eq__" = some (some (.ref g))) (hf : PySem.W.isFn X.K (.ref g) = true)
    {b : Bool} (hq : c [.dat (.obj cn ds), .dat (.obj cn es)] [] (.dat (.bl b)) []) : CmpD X T .NotEq (.dat (.obj cn ds)) (.dat (.obj cn es)) cs (.dat (.bl (!b))) cs := ⟨_, cop_ownNe N G hr hb hs hf, fun ad F H v w Q cc r1 r2 q => by
  have s1 := r1
  have s2 := r2
  cases r1 with
  | @obj a C' dx _ fn' vs' _ ht na e1 hl r =>
    rw [hT] at ht
    cases ht
    cases r2 with
    | @obj b' C' dy _ fn' ws' _ ht nb e2 hl2 r' =>
      rw [hT] at ht
      cases ht
      refine ⟨a, b', dx, dy, _, _, rfl, rfl, e1, e2, spC0 (ds := [.obj cn ds, .obj cn es]) hq cc ⟨s1, s2, trivial⟩ fun v H' x2 c2 r2 => ?_⟩
      cases r2
      exact ⟨b, rfl, q _ H' ad x2 c2 Rep.bl⟩⟩
/-- x != y: not (x == y) -/
def ownNeW (c : Ct) : W2 := fun s1 s2 cs R => ∃ b, c [s1, s2] [] (.dat (.bl b)) [] ∧ R (.dat (.bl (!b))) cs
theorem jc_oNe (hT : T cn = some (C, fn)) (N : NeC X.K C) (G : FnOk X.prog X.w X.K X.mg X.base CX0 k g fd ps (spC T X.K c)) (hr : Room (k + 1) X.A) (hb : Binds X.K fd ps []) (hs : PySem.W.findIn X.K (.ref C) "__eq__" = some (some (.ref g))) (hf : PySem.W.isFn X.K (.ref g) = true) (h : JCmp X T .NotEq w2) :
    JCmp X T .NotEq (selW (P2 cn) (ownNeW c) w2) := jc_sel (fun s1 s2 cs R hP ⟨b, hq, hR⟩ => by
  obtain ⟨h1, h2⟩ := Bool.and_eq_true_iff.mp hP
  obtain ⟨ds, rfl⟩ := isO_of h1
  obtain ⟨es, rfl⟩ := isO_of h2
  exact ⟨_, _, cmp_ownNe hT N G hr hb hs hf hq, hR⟩) h
/-! ### x in y, y of an own class -/
theorem cop_ownIn {sp : Sp} (neg : Bool) (G : FnOk X.prog X.w X.K X.mg X.base CX0 k g fd ps sp) (hr : Room k X.A) (hb : Binds X.K fd ps []) (hs : PySem.W.findIn X.K (.ref C) "__contains__" = some (some (.ref g))) (hf : PySem.W.isFn X.K (.ref g) = true) :
    OpR X (compareOp (if neg then .NotIn else .In)) (fun x y H Q => ∃ b dy gs, y = .ref b ∧ H b = some (.ins C dy gs) ∧ sp [y, x] H (fun v H' => ∃ b, v = .bl b ∧ Q (.bl (neg.xor b)) H') E0) := by
  intro pins s σ H x y v u Q I rx ry h
  obtain ⟨b, dy, gs, rfl, eb, hsp⟩ := h
  cases ry
  obtain ⟨mB, J', _⟩ := ins_get I.hok eb
  obtain ⟨od', J', _⟩ := J'.look
  obtain ⟨m, hF⟩ := I.fr
  have run := run_vals (us := [.ref b, v]) (vs := [.ref b, x]) G hr hb I (.cons rfl (.cons rx .nil)) hsp
  cases neg with
  | true =>
    refine PySem.W.notIn_K hF I.ok.mod.kin J' hs hf (thn run fun u s' z => ?_)
    obtain ⟨w, H', I', r, b', rfl, q⟩ := z
    cases (show u = Value.bool b' from r)
    exact wpAny_truthy_bool ⟨.bl _, H', I', rfl, by simpa using q⟩
  | false =>
    refine PySem.W.in_K hF I.ok.mod.kin J' hs hf (thn run fun u s' z => ?_)
    obtain ⟨w, H', I', r, b', rfl, q⟩ := z
    cases (show u = Value.bool b' from r)
    exact wpAny_truthy_bool ⟨.bl _, H', I', rfl, by simpa using q⟩
theorem cmp_ownIn (neg : Bool) (hT : T cn = some (C, fn)) (G : FnOk X.prog X.w X.K X.mg X.base CX0 k g fd ps (spC T X.K c)) (hr : Room k X.A) (hb : Binds X.K fd ps []) (hs : PySem.W.findIn X.K (.ref C) "__contains__" = some (some (.ref g))) (hf : PySem.W.isFn X.K (.ref g) = true)
    {b : Bool} (hq : c [.dat (.obj cn es), .dat d] [] (.dat (.bl b)) []) : CmpD X T (if neg then .NotIn else .In) (.dat d) (.dat (.obj cn es)) cs (.dat (.bl (neg.xor b))) cs := ⟨_, cop_ownIn neg G hr hb hs hf, fun ad F H v w Q cc r1 r2 q => by
  have s2 := r2
  cases r2 with
  | @obj b' C' dy _ fn' ws' _ ht nb e2 hl2 r' =>
    rw [hT] at ht
    cases ht
    refine ⟨b', dy, _, rfl, e2, spC0 (ds := [.obj cn es, d]) hq cc ⟨s2, r1, trivial⟩ fun v H' x2 c2 r2 => ?_⟩
    cases r2
    exact ⟨b, rfl, q _ H' ad x2 c2 Rep.bl⟩⟩
def isDt : Sl → Bool
  | .dat _ => true
  | .cel _ => false
def PIn (cn : Nat) (s1 s2 : Sl) : Bool := isDt s1 && isO cn s2
def ownInW (neg : Bool) (c : Ct) : W2 := fun s1 s2 cs R => ∃ b, c [s2, s1] [] (.dat (.bl b)) [] ∧ R (.dat (.bl (neg.xor b))) cs
theorem jc_oIn (neg : Bool) (hT : T cn = some (C, fn)) (G : FnOk X.prog X.w X.K X.mg X.base CX0 k g fd ps (spC T X.K c)) (hr : Room k X.A) (hb : Binds X.K fd ps []) (hs : PySem.W.findIn X.K (.ref C) "__contains__" = some (some (.ref g))) (hf : PySem.W.isFn X.K (.ref g) = true) (h : JCmp X T (if neg then .NotIn else .In) w2) :
    JCmp X T (if neg then .NotIn else .In) (selW (PIn cn) (ownInW neg c) w2) := jc_sel (fun s1 s2 cs R hP ⟨b, hq, hR⟩ => by
  obtain ⟨h1, h2⟩ := Bool.and_eq_true_iff.mp hP
  obtain ⟨es, rfl⟩ := isO_of h2
  cases s1 with
  | cel _ => cases h1
  | dat d => exact ⟨_, _, cmp_ownIn neg hT G hr hb hs hf hq, hR⟩) h
/-! ### len(x), x of an own class -/
theorem call_lenO {sp : Sp} (G : FnOk X.prog X.w X.K X.mg X.base CX0 k g fd ps sp) (hr : Room (k + 1) X.A) (hb : Binds X.K fd ps []) (hs : PySem.W.findIn X.K (.ref C) "__len__" = some (some (.ref g))) (hf : PySem.W.isFn X.K (.ref g) = true) :
    CallR X (.builtin "len") (fun xs H Q => ∃ a dx fs, xs = [.ref a] ∧ H a = some (.ins C dx fs) ∧ sp [.ref a] H (fun v H' => ∃ n, v = .int n ∧ (0 ≤ n ∧ n < 2 ^ 63) ∧ Q (.int n) H') E0) := by
  intro pins s σ H xs us Q I r h
  obtain ⟨a, dx, fs, rfl, ea, hsp⟩ := h
  obtain ⟨u, rfl, ru⟩ := vals1 r
  cases (show u = Value.ref a from ru)
  obtain ⟨od, J⟩ := inst_get I ea
  obtain ⟨m, hF⟩ := I.fr
  refine PySem.W.len_K hF I.ok.mod.kin J hs hf (thn (run_in1 (us := [.ref a]) (vs := [.ref a]) G hr hb I (.cons rfl .nil) hsp) fun u s' z => ?_)
  obtain ⟨v, H', I', r, n, rfl, hn, q⟩ := z
  obtain ⟨t, e⟩ := (show ∃ t, u = Value.int n t from r)
  subst e
  exact ⟨hn, .int n, H', I'.kept (t' := s'.toks + 1) (fun b ob z => z), ⟨_, rfl⟩, q⟩
theorem cb_lenO (hT : T cn = some (C, fn)) (G : FnOk X.prog X.w X.K X.mg X.base CX0 k g fd ps (spC T X.K c)) (hr : Room (k + 1) X.A) (hb : Binds X.K fd ps []) (hs : PySem.W.findIn X.K (.ref C) "__len__" = some (some (.ref g))) (hf : PySem.W.isFn X.K (.ref g) = true) {n : Int} (hn : 0 ≤ n ∧ n < 2 ^ 63) (hq : c [.dat (.obj cn ds)] [] (.dat (.int n)) []) :
    CalB X T "len" [.dat (.obj cn ds)] cs (.dat (.int n)) cs := ⟨_, _, PySem.boot_len, .inl ⟨_, rfl⟩, call_lenO G hr hb hs hf, fun ad F H vs Q cc r q => by
  match vs, r with
  | [v], r =>
    have r1 := r.1
    cases r1 with
    | @obj a C' dx _ fn' vs' _ ht na e1 hl r2 =>
      rw [hT] at ht
      cases ht
      refine ⟨a, dx, _, rfl, e1, spC0 (ds := [.obj cn ds]) hq cc ⟨r.1, trivial⟩ fun v H' x2 c2 r2 => ?_⟩
      cases r2
      exact ⟨n, rfl, hn, q _ H' ad x2 c2 Rep.int⟩⟩
def lenOW (cn : Nat) (c : Ct) : WC := fun ss cs R => match ss with
  | [s] => match isO cn s with
    | true => ∃ n, c [s] [] (.dat (.int n)) [] ∧ (0 ≤ n ∧ n < 2 ^ 63) ∧ R (.dat (.int n)) cs
    | false => lenW ss cs R
  | _ => False
theorem jc_lenO (hT : T cn = some (C, fn)) (G : FnOk X.prog X.w X.K X.mg X.base CX0 k g fd ps (spC T X.K c)) (hr : Room (k + 1) X.A) (hb : Binds X.K fd ps []) (hs : PySem.W.findIn X.K (.ref C) "__len__" = some (some (.ref g))) (hf : PySem.W.isFn X.K (.ref g) = true) : JCall X T "len" (lenOW cn c) := ⟨jc_len.bo (X := X) (T := T), fun ss cs R h => by
  unfold lenOW at h
  split at h
  · split at h
    · obtain ⟨ds, rfl⟩ := isO_of ‹_›
      obtain ⟨n, hq, hn, hR⟩ := h
      exact ⟨_, _, cb_lenO hT G hr hb hs hf hn hq, hR⟩
    · exact jc_len.run _ _ _ h
  · exact h.elim⟩
end
end Dl

namespace Dl
open PySem L2
/-! ### methods by keywords alone -/
section
variable {X : Cx} {T : Tab} {W : WX} {o : Expr} {kws : List Keyword} {pos apos p : Pos} {wo : WpE} {wK : WpA} {c : Ct} {cx : CtX} {k cn : Nat} {fd : FuncData} {ps ks : List Str} {m y : Str} {C g : Addr} {fn : List Str} {gV : List V → List V → List V} {fu : List D → List D → List D}
theorem je_methK0 {pl : Sem Bool} (hT : T cn = some (C, fn)) (hc : Cls X.K C) (hm : Meth X.K C m g) (hf : fIdx fn m = none) (G : FnOk X.prog X.w X.K X.mg X.base CX0 k g fd ps (spC T X.K c)) (hr : Room k X.A) (hb : ∃ gg, KBn X.K fd ps (0 + 1) ks gg gV)
    (hp : ∀ vs zs : List D, vs.length = 0 → zs.length = ks.length → Put X.K gV vs zs (fu vs zs)) (he : JE X T W o wo) (hkw : JK X T W kws wK)
    (hall : (backToKw pos (keywordEach kws X.env)).all (·.1.isSome) = true := by rfl) (hks : (backToKw pos (keywordEach kws X.env)).filterMap (·.1) = ks := by rfl)
    (hpl : ((backTo pos (starEach [] X.env)).any (·.1) || (backToKw pos (keywordEach kws X.env)).any (·.1.isNone)) = false := by rfl)
    (ht : eval (.Call (.Attribute o m apos) [] kws pos) X.env = (eval o X.env >>= fun ov => standAt apos.atName >>= fun _ => holding [ov] (getMethod ov m pl) >>= fun fb => callWith pos fb.1 fb.2 (backTo pos (starEach [] X.env)) (backToKw pos (keywordEach kws X.env))) := by rfl) :
    JE X T W (.Call (.Attribute o m apos) [] kws pos) (wMethK cn m c 0 ks.length fu wo wNil wK) := by
  obtain ⟨gg, hb⟩ := hb
  exact weak (pe_methKS0 (E := fun _ => E0) (pl := pl) he hc hm G hr hb (fun σ => pass_no) hkw hall hks hpl ht) fun σ H Q ⟨ad, F, sl, cs, R, Rx, h0, hw, q, qx⟩ => ⟨ad, F, sl, cs, _, Rx, h0, hw, fun s c1 v H1 ad1 hw1 x1 h1 r1 => by
    obtain ⟨a, dx, fs, rfl, e1, e2⟩ := recvW_of hT hf h1.hc r1 hw1.1
    refine ⟨a, dx, fs, rfl, e1, e2, ?_⟩
    have hw2 : wK sl c1 (fun zz c3 => wDats zz fun zs => ([] : List D).length = 0 ∧ zs.length = ks.length ∧ callW c (s :: (fu [] zs).map Sl.dat) c3 R) Rx := hw1.2
    refine ⟨ad1, F, sl, c1, _, Rx, h1, hw2, fun zz c3 zs H3 ad3 hw3 x3 h3 r3 => ?_, qx.on x1 h1⟩
    obtain ⟨kargs, rfl, l1, l2, hw3⟩ := wDats_of hw3
    have w2 := r3.dats
    obtain ⟨us, e3, e4⟩ := hp [] kargs l1 l2 (.ref a) [] zs rfl w2.length
    refine ⟨rfl, by rw [w2.length]; exact l2, ?_⟩
    rw [e3]
    exact callW_then (ss := s :: (fu [] kargs).map Sl.dat) h3.hc ⟨r1.ext x3, SlReps.of (e4 _ _ _ .nil w2)⟩ hw3 fun s' c' v H' ad' hR x4 k4 r4 => q s' c' v H' ad' hR (x1.trans h1.hc (x3.trans h3.hc x4)) (h3.to x4 k4) r4, qx⟩
end
/-! ### zip of three tuples -/
section
variable {X : Cx} {T : Tab} {W : WX} {e e2 e3 : Expr} {wA : WpA} {p pos tpos : Pos} {elts : List Expr} {kk : Nat}
def zip3W (ss : List Sl) (k : List D → Prop) : Prop := match ss with
  | [.dat (.tup ds), .dat (.tup es), .dat (.tup fs)] => k (zip3D ds es fs)
  | _ => False
def wZip3 (wA : WpA) : WpI := fun sl cs R Rx => wA sl cs (fun ss c => zip3W ss fun ds => R ds c) Rx
theorem ji_zip3 (hm : X.mg "zip" = none) (ha : JA X T W [e, e2, e3] wA) (hg : Gl X "zip" := by rfl) (hs : starEach [e, e2, e3] X.env = (false, eval e X.env) :: starEach [e2, e3] X.env := by rfl) (hpl : (backTo pos (starEach [e2, e3] X.env)).any (·.1) = false := by rfl) :
    JI X T W (.Tuple elts kk tpos) (.Call (.Name "zip" p) [e, e2, e3] [] pos) (wZip3 wA) :=
  weakI (pi_zip3 hg hm ha hs hpl) fun σ H Q ⟨ad, F, sl, cs, R, Rx, h0, hw, q, qx⟩ => ⟨ad, F, sl, cs, _, Rx, h0, hw, fun ss c1 vs H1 ad1 hw1 x1 h1 r1 => by
    unfold zip3W at hw1
    split at hw1
    · match vs, r1 with
      | [v, w, u], r1 =>
        have r3 := r1.2.2.1
        have r2 := r1.2.1
        have r1 := r1.1
        cases r1 with
        | @tup a xs _ e1 q1 =>
          cases r2 with
          | @tup b ys _ e2 q2 =>
            cases r3 with
            | @tup c zs _ e3 q3 =>
              refine ⟨a, b, c, xs, ys, zs, rfl, ⟨e1.sq, e2.sq, e3.sq⟩, q _ c1 _ H1 ad1 hw1 x1 h1 fun F2 ad2 H2 cs2 c2 kp i => ⟨fun d hd => ?_, fun hi => ?_⟩⟩
              · obtain ⟨x, y, z, hx, hy, hz, rfl⟩ := zip3D_get hd
                obtain ⟨vx, gx, rx⟩ := (q1.kp kp).get hx
                obtain ⟨vy, gy, ry⟩ := (q2.kp kp).get hy
                obtain ⟨vz, gz, rz⟩ := (q3.kp kp).get hz
                refine ⟨⟨xs, ys, zs, vx, vy, vz, ⟨(e1.kp kp).sq, (e2.kp kp).sq, (e3.kp kp).sq⟩, gx, gy, gz⟩, fun u H3 z => ?_⟩
                obtain ⟨t, x', y', z', rfl, nt, rfl, f1, f2, f3⟩ := z
                have ex : x' = vx := Option.some.inj ((f1 _ (e1.kp kp).sq).symm.trans gx)
                have ey : y' = vy := Option.some.inj ((f2 _ (e2.kp kp).sq).symm.trans gy)
                have ez : z' = vz := Option.some.inj ((f3 _ (e3.kp kp).sq).symm.trans gz)
                subst ex ey ez
                obtain ⟨c3, x3⟩ := c2.newo (o := .tup [x', y', z']) nt
                exact ⟨fun a o ea => by rw [upd_ne (ne_of_none ea nt)]; exact ea, .tup (vs := [x', y', z']) (.inl ⟨c2.new nt, .inl upd_same⟩) (.cons (rx.kp x3.kp) (.cons (ry.kp x3.kp) (.cons (rz.kp x3.kp) .nil)))⟩
              · refine ⟨xs, ys, zs, ⟨(e1.kp kp).sq, (e2.kp kp).sq, (e3.kp kp).sq⟩, ?_⟩
                unfold zip3D at hi
                rw [List.length_map, List.length_zip, List.length_zip] at hi
                rw [q1.length, q2.length, q3.length]
                omega
    · exact hw1.elim, qx⟩
end
end Dl

namespace Dl
open PySem L2
/-! ### x, y = a, b by a tuple (names that a block uses) -/
section
variable {X : Cx} {T : Tab} {W : WX} {n : Nat} {a b : Expr} {wA : WpA} {x y : Str} {px py pt pt2 pos : Pos} {kt k2 : Nat}
theorem js_par2T (i j : Nat) (hN : X.N.Nodup) (ha : JA X T W [a, b] wA) (hi : X.N[i]? = some x := by rfl) (hj : X.N[j]? = some y := by rfl)
    (hx : Loc X.env.scope x := by first | exact Or.inl rfl | exact Or.inr rfl) (hfx : X.fn x = true ∨ X.env.scope.names.lookup x = some .local := by first | exact .inl rfl | exact .inr rfl)
    (hy : Loc X.env.scope y := by first | exact Or.inl rfl | exact Or.inr rfl) (hfy : X.fn y = true ∨ X.env.scope.names.lookup y = some .local := by first | exact .inl rfl | exact .inr rfl) (hc : X.calm = true := by rfl)
    (ho1 : (assignEach [.Name x px, .Name y py] X.env).map (·.2) = assign (.Name x px) X.env :: (assignEach [.Name y py] X.env).map (·.2) := by rfl) (ho2 : (assignEach [.Name y py] X.env).map (·.2) = assign (.Name y py) X.env :: (assignEach [] X.env).map (·.2) := by rfl)
    (hn : (assignEach [.Name x px, .Name y py] X.env).length = 2 := by rfl) (hst : (assignEach [.Name x px, .Name y py] X.env).findIdx? (·.1) = none := by rfl)
    (hs : swapsWithSole [.Tuple [.Name x px, .Name y py] kt pt] (.Tuple [a, b] k2 pt2) pos.line X.env = pure false := by rfl) (hw : swappedStores [.Tuple [.Name x px, .Name y py] kt pt] (.Tuple [a, b] k2 pt2) X.env = pure none := by rfl)
    (h1 : (assignEach [.Tuple [.Name x px, .Name y py] kt pt] X.env).map (·.2) = [assign (.Tuple [.Name x px, .Name y py] kt pt) X.env] := by rfl) : JS X T W n (.Assign [.Tuple [.Name x px, .Name y py] kt pt] (.Tuple [a, b] k2 pt2) pos) (wPar2 i j wA) := fun S P h =>
  weakS (ps_asg (pe_tup ha) (pg_tup (n := 2) hc (pgs_cons (pg_name hN hi hx hfx) (pgs_cons (pg_name hN hj hy hfy) pgs_nil ho2) ho1) hn hst) hs hw h1) fun D σ H ⟨ad, F, hn, h0, q1, q2, q3, q4, q5⟩ => ⟨ad, F, S.sl, S.cs, _, _, h0, h, fun ss c vs H1 ad1 hR x1 h1 r1 => by
    unfold par2 at hR
    split at hR
    · match vs, r1 with
      | [v, w], r1 =>
        refine ⟨show (2 : Nat) ≤ sizeLine by decide, fun p hp => ?_⟩
        obtain ⟨c2, x2⟩ := h1.hc.newo (o := .tup [v, w]) hp
        have x12 := x1.trans h1.hc x2
        exact ⟨p, [v, w], rfl, .inl (.inl upd_same), rfl, v, [w], rfl, w, [], rfl, rfl, q1 _ _ _ ad1 (x12.s hn) (x12.le hn) (((h1.to x2 c2).set (r1.1.ext x2) i).set (r1.2.1.ext x2) j) hR⟩
    · exact hR.elim, raz_of hn q5⟩
end
end Dl

namespace Dl
open PySem L2
/-! ### x == y, x != y; x of an own class, y of a built-in one -/
structure OthC (K : PySem.W.Frag) (C : Addr) : Prop where
  a1 : PySem.W.subIn K (.type "NoneType") (.ref C) = some false
  a2 : PySem.W.subIn K (.type "bool") (.ref C) = some false
  a3 : PySem.W.subIn K (.type "int") (.ref C) = some false
  a4 : PySem.W.subIn K (.type "str") (.ref C) = some false
  a5 : PySem.W.subIn K (.type "tuple") (.ref C) = some false
  a6 : PySem.W.subIn K (.type "list") (.ref C) = some false
theorem OthC.of {K : PySem.W.Frag} {C : Addr} (h : OthC K C) {d : D} {t : String} (e : tyD d = some t) : PySem.W.subIn K (.type t) (.ref C) = some false := by
  cases d with
  | non => cases e; exact h.a1
  | bl _ => cases e; exact h.a2
  | int _ => cases e; exact h.a3
  | str _ => cases e; exact h.a4
  | tup _ => cases e; exact h.a5
  | lst _ => cases e; exact h.a6
  | scr _ => cases e; exact h.a6
  | obj _ _ => cases e
  | err _ _ _ _ => cases e
  | cls _ => cases e
  | dct _ _ => cases e
section
open PySem.W
variable {prog : Program} {w : World} {A : Around} {E : Value → Shared → Prop} {s : Shared} {K : PySem.W.Frag} {x C f : Addr} {ox : Obj} {od : Option Obj} {b tb : Value}
theorem ne_KT {Q : Value → Shared → Prop} (hu : A.units + 1 < cLine) (X : K.In s.heap) (I : InstAt s.heap x ox C od) (hb : Looks (model prog w) s.heap (typeOf b) tb) (hsub : subIn K tb (.ref C) = some false) (hm : mroIn K C (.type "object") = some true)
    (hn : findIn K (.ref C) "__ne__" = some (some (.builtin "object.__ne__"))) (hs : findIn K (.ref C) "__eq__" = some (some (.ref f))) (hf : isFn K (.ref f) = true)
    (h : wpAny (model prog w) A.in1 (call (.ref f) [.ref x, b]) (fun v s' => ∃ k, v = .bool k ∧ Q (.bool (!k)) s') E s) : wpAny (model prog w) A (richCompare .NotEq (.ref x) b) Q E s := by
  have one : wpAny (model prog w) A (tryCompare (.ref x) "__ne__" b) (fun r s' => ∃ v, r = some v ∧ Q v s') E s := by
    unfold tryCompare
    refine wpAny_bind (ifBound_objNe X I hn (wpAny_call (codeAny_call_builtin F.cmp_object.ne.plain F.cmpEntry_ne (PySem.W.check_slot F.cmpKind_ne F.cmpSplit_ne (I.type.andThen (PySem.W.looks_mroIn X hm)) (F.cmpArgs_ne _ _) (entry_objNe (A := A.in1) hu X I hs hf (wpAny_mono h (fun v s' hv => ?_) fun _ _ e => e))))))
    obtain ⟨k, rfl, hq⟩ := hv
    exact ⟨k, rfl, wpAny_pure ⟨_, rfl, hq⟩⟩
  unfold richCompare
  simp only [oneThing_ref]
  refine wpAny_holding (wpAny_bind (wpAny_cRoomFor (Nat.lt_of_succ_lt hu) ?_))
  rw [cmpInfo_NotEq]
  dsimp only
  refine wpAny_bind (I.type.here (wpAny_bind (hb.here ?_)))
  split
  · refine wpAny_bind ((looks_subIn X hsub).here ?_)
    simp only [Bool.false_eq_true, if_false]
    refine wpAny_bind (wpAny_mono one (fun r s' z => ?_) fun _ _ e => e)
    obtain ⟨v, rfl, hq⟩ := z
    exact wpAny_pure hq
  · refine wpAny_bind (wpAny_pure ?_)
    simp only [Bool.false_eq_true, if_false]
    refine wpAny_bind (wpAny_mono one (fun r s' z => ?_) fun _ _ e => e)
    obtain ⟨v, rfl, hq⟩ := z
    exact wpAny_pure hq
end
section
variable {X : Cx} {T : Tab} {C g : Addr} {fd : FuncData} {ps : List Str} {k cn : Nat} {c : Ct} {fn : List Str} {ds es : List D} {d : D} {cs : List Cell} {w2 : W2} {t : String}
theorem cop_ownEqD {sp : Sp} (O : OthC X.K C) (G : FnOk X.prog X.w X.K X.mg X.base CX0 k g fd ps sp) (hr : Room k X.A) (hb : Binds X.K fd ps []) (hs : PySem.W.findIn X.K (.ref C) "__eq__" = some (some (.ref g))) (hf : PySem.W.isFn X.K (.ref g) = true) :
    OpR X (compareOp .Eq) (fun x y H Q => ∃ a dx fs t, x = .ref a ∧ H a = some (.ins C dx fs) ∧ TyX X.K H y (.type t) ∧ PySem.W.subIn X.K (.type t) (.ref C) = some false ∧ sp [x, y] H Q E0) := by
  intro pins s σ H x y v u Q I rx ry h
  obtain ⟨a, dx, fs, t, rfl, ea, ty, hsub, hsp⟩ := h
  cases rx
  obtain ⟨mA, J, _⟩ := ins_get I.hok ea
  obtain ⟨od, J, _⟩ := J.look
  obtain ⟨Pk, kx, pk, _⟩ := kit_of I ry ty
  obtain ⟨m, hF⟩ := I.fr
  exact PySem.W.cmp_K (op := .Eq) (tb := .type t) hr.units0 hF I.ok.mod.kin J (kx.ty _ _ I.kIn pk) (by simp [PySem.W.notFirst, hsub]) hs hf (thn (run_vals (us := [.ref a, u]) (vs := [.ref a, y]) G hr hb I (.cons rfl (.cons ry .nil)) hsp) fun _ _ z => cmpb z)
theorem cop_ownNeD {sp : Sp} (N : NeC X.K C) (G : FnOk X.prog X.w X.K X.mg X.base CX0 k g fd ps sp) (hr : Room (k + 1) X.A) (hb : Binds X.K fd ps []) (hs : PySem.W.findIn X.K (.ref C) "__eq__" = some (some (.ref g))) (hf : PySem.W.isFn X.K (.ref g) = true) :
    OpR X (compareOp .NotEq) (fun x y H Q => ∃ a dx fs t, x = .ref a ∧ H a = some (.ins C dx fs) ∧ TyX X.K H y (.type t) ∧ PySem.W.subIn X.K (.type t) (.ref C) = some false ∧ sp [x, y] H (fun v H' => ∃ b, v = .bl b ∧ Q (.bl (!b)) H') E0) := by
  intro pins s σ H x y v u Q I rx ry h
  obtain ⟨a, dx, fs, t, rfl, ea, ty, hsub, hsp⟩ := h
  cases rx
  obtain ⟨mA, J, _⟩ := ins_get I.hok ea
  obtain ⟨od, J, _⟩ := J.look
  obtain ⟨Pk, kx, pk, _⟩ := kit_of I ry ty
  have hu : X.A.units + 1 < cLine := hr.in1.units0
  show wpAny _ _ (richCompare .NotEq (.ref a) u) _ _ _
  refine ne_KT hu I.kIn J (kx.ty _ _ I.kIn pk) hsub N.mr N.ne hs hf (thn (run_in1 (us := [.ref a, u]) (vs := [.ref a, y]) G hr hb I (.cons rfl (.cons ry .nil)) hsp) fun u s' z => ?_)
  obtain ⟨v, H', I', r, b', rfl, q⟩ := z
  cases (show u = Value.bool b' from r)
  exact ⟨b', rfl, .bl (!b'), H', I', rfl, q⟩
theorem cmp_ownEqD (hT : T cn = some (C, fn)) (O : OthC X.K C) (G : FnOk X.prog X.w X.K X.mg X.base CX0 k g fd ps (spC T X.K c)) (hr : Room k X.A) (hb : Binds X.K fd ps []) (hs : PySem.W.findIn X.K (.ref C) "__eq__" = some (some (.ref g))) (hf : PySem.W.isFn X.K (.ref g) = true)
    {e : D} (ht : tyD e = some t) (hq : c [.dat (.obj cn ds), .dat e] [] (.dat d) []) : CmpD X T .Eq (.dat (.obj cn ds)) (.dat e) cs (.dat d) cs := ⟨_, cop_ownEqD O G hr hb hs hf, fun ad F H v w Q cc r1 r2 q => by
  have s1 := r1
  have s2 := r2
  cases r1 with
  | @obj a C' dx _ fn' vs' _ ht' na e1 hl r =>
    rw [hT] at ht'
    cases ht'
    exact ⟨a, dx, _, t, rfl, e1, tyx_of r2 ht, O.of ht, spC0 (ds := [.obj cn ds, e]) hq cc ⟨s1, s2, trivial⟩ fun v H' x2 c2 r2 => q v H' ad x2 c2 r2⟩⟩
theorem cmp_ownNeD (hT : T cn = some (C, fn)) (N : NeC X.K C) (O : OthC X.K C) (G : FnOk X.prog X.w X.K X.mg X.base CX0 k g fd ps (spC T X.K c)) (hr : Room (k + 1) X.A) (hb : Binds X.K fd ps []) (hs : PySem.W.findIn X.K (.ref C) "__eq__" = some (some (.ref g))) (hf : PySem.W.isFn X.K (.ref g) = true)
    {e : D} {b : Bool} (ht : tyD e = some t) (hq : c [.dat (.obj cn ds), .dat e] [] (.dat (.bl b)) []) : CmpD X T .NotEq (.dat (.obj cn ds)) (.dat e) cs (.dat (.bl (!b))) cs := ⟨_, cop_ownNeD N G hr hb hs hf, fun ad F H v w Q cc r1 r2 q => by
  have s1 := r1
  have s2 := r2
  cases r1 with
  | @obj a C' dx _ fn' vs' _ ht' na e1 hl r =>
    rw [hT] at ht'
    cases ht'
    refine ⟨a, dx, _, t, rfl, e1, tyx_of r2 ht, O.of ht, spC0 (ds := [.obj cn ds, e]) hq cc ⟨s1, s2, trivial⟩ fun v H' x2 c2 r2 => ?_⟩
    cases r2
    exact ⟨b, rfl, q _ H' ad x2 c2 Rep.bl⟩⟩
def isOth : Sl → Bool
  | .dat d => (tyD d).isSome
  | .cel _ => false
def PD (cn : Nat) (s1 s2 : Sl) : Bool := isO cn s1 && isOth s2
theorem isOth_of {s : Sl} (h : isOth s = true) : ∃ d t, s = .dat d ∧ tyD d = some t := by
  cases s with
  | cel _ => cases h
  | dat d => exact ⟨d, (tyD d).get h, rfl, (Option.some_get h).symm⟩
theorem jc_oEqD (hT : T cn = some (C, fn)) (O : OthC X.K C) (G : FnOk X.prog X.w X.K X.mg X.base CX0 k g fd ps (spC T X.K c)) (hr : Room k X.A) (hb : Binds X.K fd ps []) (hs : PySem.W.findIn X.K (.ref C) "__eq__" = some (some (.ref g))) (hf : PySem.W.isFn X.K (.ref g) = true) (h : JCmp X T .Eq w2) :
    JCmp X T .Eq (selW (PD cn) (ownW c) w2) := jc_sel (fun s1 s2 cs R hP ⟨d, hq, hR⟩ => by
  obtain ⟨h1, h2⟩ := Bool.and_eq_true_iff.mp hP
  obtain ⟨ds, rfl⟩ := isO_of h1
  obtain ⟨e, t, rfl, ht⟩ := isOth_of h2
  exact ⟨_, _, cmp_ownEqD hT O G hr hb hs hf ht hq, hR⟩) h
theorem jc_oNeD (hT : T cn = some (C, fn)) (N : NeC X.K C) (O : OthC X.K C) (G : FnOk X.prog X.w X.K X.mg X.base CX0 k g fd ps (spC T X.K c)) (hr : Room (k + 1) X.A) (hb : Binds X.K fd ps []) (hs : PySem.W.findIn X.K (.ref C) "__eq__" = some (some (.ref g))) (hf : PySem.W.isFn X.K (.ref g) = true) (h : JCmp X T .NotEq w2) :
    JCmp X T .NotEq (selW (PD cn) (ownNeW c) w2) := jc_sel (fun s1 s2 cs R hP ⟨b, hq, hR⟩ => by
  obtain ⟨h1, h2⟩ := Bool.and_eq_true_iff.mp hP
  obtain ⟨ds, rfl⟩ := isO_of h1
  obtain ⟨e, t, rfl, ht⟩ := isOth_of h2
  exact ⟨_, _, cmp_ownNeD hT N O G hr hb hs hf ht hq, hR⟩) h
end
/-! ### xs[::-1] of a list -/
section
variable {X : Cx} {T : Tab} {W : WX} {e : Expr} {wa : WpE} {pos p1 p2 p3 : Pos} {k : Nat}
def wRev (wa : WpE) : WpE := fun sl cs R Rx => wa sl cs (fun s c1 => wL c1 s fun ds => R (.dat (.lst ds.reverse)) c1) Rx
theorem je_rev (ha : JE X T W e wa) : JE X T W (.Subscript e (.Slice none none (some (.UnaryOp .USub (.Constant (.int 1) k p1) p2)) p3) pos) (wRev wa) :=
  weak (pe_revL ha) fun σ H Q ⟨ad, F, sl, cs, R, Rx, h0, hw, q, qx⟩ => ⟨ad, F, sl, cs, _, Rx, h0, hw, fun s1 c1 v H1 ad1 hw1 x1 h1 r1 => by
    obtain ⟨ds, hL, hR⟩ := wL_of hw1
    obtain ⟨a, ws, rfl, e1, q0⟩ := rd_lst hL h1.hc r1
    exact ⟨a, ws, rfl, SqL.of e1, fun p hp => new_lst h1.hc q0.rev (fun z H' ad' x2 k2 r2 => q _ c1 z H' ad' hR (x1.trans h1.hc x2) (h1.to x2 k2) r2) hp⟩, qx⟩
end
end Dl

namespace Dl
open PySem L2
/-! ### data without lists -/
mutual
def noL : D → Bool
  | .lst _ => false
  | .tup xs => noLs xs
  | .scr xs => noLs xs
  | .obj _ xs => noLs xs
  | .err _ _ _ xs => noLs xs
  | .dct _ xs => noLs xs
  | _ => true
def noLs : List D → Bool
  | [] => true
  | x :: xs => noL x && noLs xs
end
theorem noLs_all : ∀ {xs : List D}, (∀ d ∈ xs, noL d = true) → noLs xs = true
  | [], _ => rfl
  | x :: xs, h => Bool.and_eq_true_iff.mpr ⟨h x List.mem_cons_self, noLs_all fun d hd => h d (List.mem_cons_of_mem _ hd)⟩
section
variable {T : Tab} {K : PySem.W.Frag} {M M' : Addr → Prop} {H : Hp} {a : Addr} {xs : List V}
mutual
theorem Rep.lift (hM : ∀ b, M' b → M b ∨ b = a) (ha : H a = some (.lst xs)) {v : V} {d : D} (h : Rep T K M H v d) (hd : noL d = true) : Rep T K M' H v d :=
  match h with
  | .non => .non
  | .bl => .bl
  | .int => .int
  | .str => .str
  | .tup h1 h2 => .tup (by
      rcases h1 with ⟨n, h1⟩ | h1
      · refine .inl ⟨fun z => (hM _ z).elim n fun e => ?_, h1⟩
        subst e
        rcases h1 with h1 | ⟨o, h1⟩ <;> rw [ha] at h1 <;> cases h1
      · exact .inr h1) (Reps.lift hM ha h2 hd)
  | .lst _ _ _ => nomatch hd
  | .scr h1 h2 => .scr (by
      rcases h1 with ⟨n, o, h1⟩ | h1
      · refine .inl ⟨fun z => (hM _ z).elim n fun e => ?_, o, h1⟩
        subst e
        rw [ha] at h1
        cases h1
      · exact .inr h1) (Reps.lift hM ha h2 hd)
  | .obj ht hm h1 hl h2 => .obj ht (fun z => (hM _ z).elim hm fun e => by subst e; rw [ha] at h1; cases h1) h1 hl (Reps.lift hM ha h2 hd)
  | .err ht h1 h2 => .err ht (by
      rcases h1 with h1 | ⟨d, e, n, h1, h2⟩
      · exact .inl h1
      · refine .inr ⟨d, e, fun z => (hM _ z).elim n fun e' => ?_, h1, h2⟩
        subst e'
        rw [ha] at h1
        cases h1) (Reps.lift hM ha h2 hd)
  | .cls => .cls
  | .dct n h1 hl h2 => .dct (fun z => (hM _ z).elim n fun e => by subst e; rw [ha] at h1; cases h1) h1 hl (Reps.lift hM ha h2 hd)
theorem Reps.lift (hM : ∀ b, M' b → M b ∨ b = a) (ha : H a = some (.lst xs)) {vs : List V} {ds : List D} (h : Reps T K M H vs ds) (hd : noLs ds = true) : Reps T K M' H vs ds :=
  match h with
  | .nil => .nil
  | .cons h1 h2 => .cons (Rep.lift hM ha h1 (Bool.and_eq_true_iff.mp hd).1) (Reps.lift hM ha h2 (Bool.and_eq_true_iff.mp hd).2)
end
end
/-! ### C(xs), xs a list that will be changed: read there, not kept -/
section
variable {X : Cx} {T : Tab} {W : WX} {e : Expr} {we : WpE} {pos p : Pos} {c : Ct} {k : Nat} {fd : FuncData} {ps : List Str} {y : Str} {C g : Addr} {fn : List Str} {cn : Nat}
theorem mk_thenF {K : PySem.W.Frag} {ad : List Addr} {F : Addr → Prop} {H : Hp} {cs : List Cell} {Q : VK} {E : XK} {x dx a : Addr} {j : Nat} {es ds : List D} (hT : T cn = some (C, fn)) (h : HoldC T K ad F H cs) (ha : ad[j]? = some a) (hj : cs[j]? = some (.lst es)) (hx : H x = none) (hdx : H dx = none) (ne : dx ≠ x)
    (hq : c (.cel 0 :: [Sl.dat (.lst es)]) [.ins cn []] (.dat .non) [.ins cn (fn.zip ds)]) (hl : ds.length = fn.length) (hn : noLs ds = true) (q : ∀ H', Ext ad F H ad H' → HoldC T K ad F H' cs → Rep T K (Mm ad F) H' (.ref x) (.obj cn ds) → Q (.ref x) H') :
    spC T K c [.ref x, .ref a] (upd (upd H dx (.own x)) x (.ins C dx [])) (fun v H2 => v = .non ∧ Q (.ref x) H2) E := by
  obtain ⟨vs, e1, rv⟩ := h.ce j a _ ha hj
  have ma : a ∈ ad := List.mem_of_getElem? ha
  have na : ¬ Mm [] (Fk ad F a) a := fun z => by
    rcases z with z | z | z
    · cases z
    · exact h.fr a ma z
    · exact z.2 rfl
  have sub : ∀ b, Mm [] (Fk ad F a) b → Mm ad F b := fun b z => by
    rcases z with z | z | z
    · cases z
    · exact .inr z
    · exact .inl z.1
  have kp0 : Kp (Mm ad F) H (Mm [] (Fk ad F a)) H := fun b o e n => ⟨e, fun z => n (sub b z)⟩
  have h0 : HoldC T K [] (Fk ad F a) H [] := ⟨List.nodup_nil, (fun _ z => nomatch z), fun b z => by
    rcases z with z | z
    · exact h.al b z
    · exact h.mem z.1, rfl, (fun _ _ _ e => nomatch e)⟩
  have r0 : Reps T K (Mm [] (Fk ad F a)) H [.ref a] [.lst es] := .cons (.lst na e1 (rv.kp kp0)) .nil
  refine mk_then (args := [.lst es]) hT h0 r0 hx hdx ne hq hl fun H' x1 c1 r1 => ?_
  have ea : H' a = some (.lst vs) := x1.keep a _ e1 na
  have kp1 : Kp (Mm ad F) H (Mm ad F) H' := fun b o e n => ⟨x1.keep b o e fun z => n (sub b z), n⟩
  have same : ∀ b ∈ ad, H' b = H b := fun b hb => by
    by_cases z : b = a
    · subst z
      rw [ea, e1]
    · exact x1.frm b (.inr ⟨hb, z⟩)
  have x2 : Ext ad F H ad H' := ⟨⟨[], by simp, (fun _ z => nomatch z)⟩, fun b o e n => (kp1 b o e n).1, fun b fb => x1.frm b (.inl fb)⟩
  have c2 : HoldC T K ad F H' cs := ⟨h.nd, h.fr, fun b fb => by
    obtain ⟨o, e⟩ := h.al b fb
    exact ⟨o, by rw [x1.frm b (.inl fb)]; exact e⟩, h.ln, fun i b cc i1 i2 => (h.ce i b cc i1 i2).kp kp1 (same b (List.mem_of_getElem? i1))⟩
  refine q H' x2 c2 (Rep.lift (a := a) (xs := vs) (fun b z => ?_) ea r1 hn)
  rcases z with z | z
  · by_cases e : b = a
    · exact .inr e
    · exact .inl (.inr (.inr ⟨z, e⟩))
  · exact .inl (.inr (.inl z))
def makeFW (cn : Nat) (fn : List Str) (c : Ct) (s : Sl) (cs : List Cell) (R : RV) : Prop := match s with
  | .dat d => makeW cn fn c [d] cs R
  | .cel j => match cs[j]? with
    | some (.lst es) => ∃ ds : List D, c (.cel 0 :: [Sl.dat (.lst es)]) [.ins cn []] (.dat .non) [.ins cn (fn.zip ds)] ∧ ds.length = fn.length ∧ noLs ds = true ∧ R (.dat (.obj cn ds)) cs
    | _ => False
def wMakeF (cn : Nat) (fn : List Str) (c : Ct) (we : WpE) : WpE := fun sl cs R Rx => we sl cs (fun s c1 => makeFW cn fn c s c1 R) Rx
theorem je_makeF (hT : T cn = some (C, fn)) (M : Mk X.K C g) (G : FnOk X.prog X.w X.K X.mg X.base CX0 k g fd ps (spC T X.K c)) (hr : Room (k + 1) X.A) (hm : X.mg y = some (.ref C)) (hb : Binds X.K fd ps []) (he : JE X T W e we) (hg : Gl X y := by rfl) (hdb : (y == ("__debug__" : Str)) = false := by decide)
    (hs : starEach [e] X.env = (false, eval e X.env) :: starEach [] X.env := by rfl) (hpl : (backTo pos (starEach [] X.env)).any (·.1) = false := by rfl) : JE X T W (.Call (.Name y p) [e] [] pos) (wMakeF cn fn c we) :=
  weak (pe_make M G hr hg hm hb .nil pass0 (ja_cons he ja_nil hs) hdb hs hpl) fun σ H Q ⟨ad, F, sl, cs, R, Rx, h0, hw, q, qx⟩ => ⟨ad, F, sl, cs, (fun ss c1 => match ss with
      | [s] => makeFW cn fn c s c1 R
      | _ => False), Rx, h0, hw, fun ss c1 ws H1 ad1 hw1 x1 h1 r1 => by
    match ss, ws, r1, hw1 with
    | [s], [v], r1, hw1 =>
      have hw1 : makeFW cn fn c s c1 R := hw1
      intro x dx hx hdx ne
      show spC T X.K c (V.ref x :: ([v] ++ [])) _ _ E0
      rw [List.append_nil]
      match s, r1, hw1 with
      | .dat d, r1, hw1 =>
        obtain ⟨ds, hq, hl, hR⟩ := hw1
        exact mk_then (args := [d]) hT h1.hc (.cons r1.1 .nil) hx hdx ne hq hl fun H' x3 c3 r3 => q _ c1 (.ref x) H' ad1 hR (x1.trans h1.hc x3) (h1.to x3 c3) r3
      | .cel j, r1, hw1 =>
        have hw1 : (match c1[j]? with
          | some (.lst es) => ∃ ds : List D, c (.cel 0 :: [Sl.dat (.lst es)]) [.ins cn []] (.dat .non) [.ins cn (fn.zip ds)] ∧ ds.length = fn.length ∧ noLs ds = true ∧ R (.dat (.obj cn ds)) c1
          | _ => False) := hw1
        split at hw1
        · rename_i es hj
          obtain ⟨ds, hq, hl, hn, hR⟩ := hw1
          obtain ⟨a, ha, rfl⟩ := r1.1
          exact mk_thenF hT h1.hc ha hj hx hdx ne hq hl hn fun H' x3 c3 r3 => q _ c1 (.ref x) H' ad1 hR (x1.trans h1.hc x3) (h1.to x3 c3) r3
        · exact hw1.elim, qx⟩
end
/-! ### xs.clear() -/
section
variable {X : Cx} {T : Tab} {W : WX} {o : Expr} {wo : WpE} {pos apos : Pos}
def clrW (s : Sl) (cs : List Cell) (R : RV) : Prop := match s with
  | .cel j => match cs[j]? with
    | some (.lst _) => R (.dat .non) (cs.set j (.lst []))
    | _ => False
  | _ => False
def wClr (wo : WpE) : WpE := fun sl cs R Rx => wo sl cs (fun s c1 => clrW s c1 R) Rx
theorem je_clear (ho : JE X T W o wo) (hb : attributeBase o "clear" X.env (eval o X.env) = eval o X.env := by rfl) (hl : (apos.endLine == pos.line) = true := by rfl) : JE X T W (.Call (.Attribute o "clear" apos) [] [] pos) (wClr wo) :=
  weak (pe_bm0 PySem.F.plainAttrs_list PySem.F.slot_list_clear PySem.F.type_list_clear mt_clear ho hb hl) fun σ H Q ⟨ad, F, sl, cs, R, Rx, h0, hw, q, qx⟩ => ⟨ad, F, sl, cs, _, Rx, h0, hw, fun s c1 v H1 ad1 hw1 x1 h1 r1 => by
    unfold clrW at hw1
    split at hw1
    · rename_i j
      split at hw1
      · rename_i ds hk
        obtain ⟨l, el, rfl⟩ := r1
        obtain ⟨vs0, e0, q0⟩ := h1.hc.ce j l _ el hk
        refine ⟨.inl ⟨rfl, vs0, SqL.of e0⟩, l, vs0, rfl, rfl, e0, ?_⟩
        obtain ⟨k4, x4⟩ := h1.hc.setc (o := .lst []) (c := .lst []) el ⟨[], upd_same, .nil⟩
        exact q _ _ .non _ ad1 hw1 (x1.trans h1.hc x4) (h1.to x4 k4) Rep.non
      · exact hw1.elim
    · exact hw1.elim, qx⟩
end
end Dl

namespace Dl
open PySem L2
/-! ### a test in which the last cell, a list, is only read -/
def noLc : Cell → Bool
  | .lst ds => noLs ds
  | _ => false
section
variable {X : Cx} {T : Tab} {W : WX} {e : Expr} {wt : WpT}
theorem hold_frz {K : PySem.W.Frag} {S : Sta} {ad : List Addr} {F : Addr → Prop} {σ : St} {H : Hp} {m : Nat} {ds : List D} (h0 : Hold T K S ad F σ H) (hc : S.cs[m]? = some (.lst ds)) : Hold T K ⟨S.sl.map (frzS m ds), S.cs.take m⟩ (ad.take m) F σ H := by
  have kp : Kp (Mm ad F) H (Mm (ad.take m) F) H := fun a o e z => ⟨e, fun y => z (y.imp List.mem_of_mem_take id)⟩
  have ml : m < ad.length := by rw [h0.hc.ln]; exact (List.getElem?_eq_some_iff.mp hc).1
  refine ⟨h0.hc.take m, by rw [h0.sz]; simp, fun i s e => ?_⟩
  have e : (S.sl.map (frzS m ds))[i]? = some (some s) := e
  rw [List.getElem?_map] at e
  cases e1 : S.sl[i]? with
  | none => rw [e1] at e; cases e
  | some o =>
    rw [e1] at e
    have e : frzS m ds o = some s := by simpa using e
    cases o with
    | none => cases e
    | some s0 =>
      obtain ⟨v, hv, r⟩ := h0.sl i s0 e1
      cases s0 with
      | dat d =>
        cases e
        exact ⟨v, hv, Rep.kp kp r⟩
      | cel k =>
        obtain ⟨a, ha, rfl⟩ := r
        have e : (if k = m then some (Sl.dat (.lst ds)) else if k < m then some (.cel k) else none) = some s := e
        by_cases z : k = m
        · rw [if_pos z] at e
          cases e
          subst z
          obtain ⟨vs, e2, rv⟩ := h0.hc.ce k a _ ha hc
          refine ⟨_, hv, Rep.lst (fun y => ?_) e2 (rv.kp kp)⟩
          rcases y with y | y
          · obtain ⟨j, hj, ej⟩ := List.getElem_of_mem y
            have hj' : (ad.take k)[j]? = some a := by rw [List.getElem?_eq_getElem hj, ej]
            have hjn : j < k := by rw [List.length_take] at hj; omega
            rw [List.getElem?_take, if_pos hjn] at hj'
            have := ix_inj h0.hc.nd ha hj'
            omega
          · exact h0.hc.fr a (List.mem_of_getElem? ha) y
        · rw [if_neg z] at e
          by_cases y : k < m
          · rw [if_pos y] at e
            cases e
            exact ⟨_, hv, a, by rw [List.getElem?_take, if_pos y]; exact ha, rfl⟩
          · rw [if_neg y] at e
            cases e
def borW (i : Nat) (sl : Sls) (cs : List Cell) (k : Nat → List D → Prop) : Prop := match sl[i]? with
  | some (some (.cel m)) => m + 1 = cs.length ∧ match cs[m]? with
    | some (.lst ds) => k m ds
    | _ => False
  | _ => False
def wBorT (i : Nat) (wt : WpT) : WpT := fun sl cs R _ => borW i sl cs fun m ds => wt (sl.map (frzS m ds)) (cs.take m) (fun b c => c.length = m ∧ c.all noLc = true ∧ R b (c ++ [.lst ds])) noX
theorem jt_bor (i : Nat) (h : JT X T W e wt) : JT X T W e (wBorT i wt) :=
  weakT h fun σ H Q ⟨ad, F, sl, cs, R, Rx, h0, hw, q, qx⟩ => by
    have hw : borW i sl cs fun m ds => wt (sl.map (frzS m ds)) (cs.take m) (fun b c => c.length = m ∧ c.all noLc = true ∧ R b (c ++ [.lst ds])) noX := hw
    unfold borW at hw
    split at hw
    · rename_i m hm
      obtain ⟨hlen, hw⟩ := hw
      split at hw
      · rename_i ds hc
        have h1 := hold_frz (m := m) (ds := ds) h0 hc
        have ml : m < ad.length := by rw [h0.hc.ln]; exact (List.getElem?_eq_some_iff.mp hc).1
        have ha : ad[m]? = some ad[m] := List.getElem?_eq_getElem ml
        obtain ⟨vs, e1, rv⟩ := h0.hc.ce m ad[m] _ ha hc
        have adl : ad.length = m + 1 := by rw [h0.hc.ln]; exact hlen.symm
        have ads : ad = ad.take m ++ [ad[m]] := by
          conv => lhs; rw [← List.take_append_drop m ad]
          rw [List.drop_eq_getElem_cons ml, List.drop_of_length_le (by omega)]
        have nin : ¬ Mm (ad.take m) F ad[m] := fun y => by
          rcases y with y | y
          · obtain ⟨j, hj, ej⟩ := List.getElem_of_mem y
            have hj' : (ad.take m)[j]? = some ad[m] := by rw [List.getElem?_eq_getElem hj, ej]
            have hjn : j < m := by rw [List.length_take] at hj; omega
            rw [List.getElem?_take, if_pos hjn] at hj'
            have := ix_inj h0.hc.nd ha hj'
            omega
          · exact h0.hc.fr _ (List.mem_of_getElem? ha) y
        refine ⟨ad.take m, F, _, _, _, noX, h1, hw, fun b c1 H1 ad1 hR x1 h2 => ?_, Raz.no⟩
        obtain ⟨l1, l2, hR⟩ := hR
        obtain ⟨t, et, _⟩ := x1.pre
        have ad1e : ad1 = ad.take m := by
          have n1 : ad1.length = m := by rw [h2.hc.ln]; exact l1
          have n2 := congrArg List.length et
          rw [List.length_append, List.length_take, n1] at n2
          have : t = [] := List.eq_nil_of_length_eq_zero (by omega)
          rw [et, this, List.append_nil]
        subst ad1e
        have sub : ∀ b, Mm (ad.take m) F b → Mm ad F b := fun b z => z.imp List.mem_of_mem_take id
        have ea : H1 ad[m] = some (.lst vs) := x1.keep _ _ e1 nin
        have kp1 : Kp (Mm ad F) H (Mm ad F) H1 := fun b o e n => ⟨x1.keep b o e fun z => n (sub b z), n⟩
        have lft : ∀ b, Mm ad F b → Mm (ad.take m) F b ∨ b = ad[m] := fun b z => by
          rcases z with z | z
          · rw [ads] at z
            rcases List.mem_append.mp z with z | z
            · exact .inl (.inl z)
            · exact .inr (by simpa using z)
          · exact .inl (.inr z)
        have x2 : Ext ad F H ad H1 := ⟨⟨[], by simp, (fun _ z => nomatch z)⟩, fun b o e n => (kp1 b o e n).1, x1.frm⟩
        have c2 : HoldC T X.K ad F H1 (c1 ++ [.lst ds]) := by
          refine ⟨h0.hc.nd, h0.hc.fr, fun b fb => ?_, by rw [adl, List.length_append, l1]; rfl, fun j b cc i1 i2 => ?_⟩
          · obtain ⟨o, eo⟩ := h0.hc.al b fb
            exact ⟨o, by rw [x1.frm b fb]; exact eo⟩
          · by_cases jm : j < m
            · rw [List.getElem?_append_left (by rw [l1]; exact jm)] at i2
              have i1' : (ad.take m)[j]? = some b := by rw [List.getElem?_take, if_pos jm]; exact i1
              have ce := h2.hc.ce j b cc i1' i2
              have nc : noLc cc = true := List.all_eq_true.mp l2 cc (List.mem_of_getElem? i2)
              cases cc with
              | lst es =>
                obtain ⟨ws, f1, f2⟩ := ce
                exact ⟨ws, f1, Reps.lift lft ea f2 nc⟩
              | dct _ => cases nc
              | ins _ _ => cases nc
            · have jl : j < m + 1 := by rw [← adl]; exact (List.getElem?_eq_some_iff.mp i1).1
              have jm : j = m := by omega
              subst jm
              rw [List.getElem?_append_right (by rw [l1]; exact Nat.le_refl _), l1, Nat.sub_self] at i2
              cases i2
              rw [ha] at i1
              cases i1
              exact ⟨vs, ea, rv.kp kp1⟩
        exact q b _ H1 ad hR x2 (h0.to x2 c2)
      · exact hw.elim
    · exact hw.elim
end
end Dl

namespace Dl
open PySem L2
/-! ### x(e, ..), x an instance of an own class -/
section
open PySem.W PySem.Calls
variable {M : Model} {A : Around} {E : Value → Shared → Prop} {s : Shared} {pos : Pos} {x C : Addr} {ox : Obj} {Q : Value → Shared → Prop} {env : Env} {e : Expr} {rest : List Expr}
theorem callWith_obj0 {args : List (Bool × Sem Value)} (hp : args.any (·.1) = false) (hd : ox.data = .plain)
    (h : wpAny M A (evalArgs (.ref x) true args []) (fun b s1 => (∃ od, InstAt s1.heap x ox C od) ∧ wpAny M A (call (.ref x) b.pos b.kw) Q E s1) E s) : wpAny M A (callWith pos (.ref x) [] args []) Q E s := by
  unfold callWith
  have pl : (args.any (·.1) || ([] : List (Option Str × Sem Value)).any (·.1.isNone)) = false := by rw [hp]; rfl
  refine wpAny_bind (wpAny_holding (wpAny_mono h (fun b s1 hb => ?_) (fun _ _ z => z)))
  obtain ⟨⟨od, J⟩, hc⟩ := hb
  refine wpAny_bind (wpAny_standAt ?_)
  simp only [pl]
  refine wpAny_bind ((kco_keeper (M := M) J hd).here (wpAny_bind (wpAny_mono (wpAny_operateT (by simpa using hc)) (fun r s2 hr => ?_) (fun _ _ z => z))))
  exact wpAny_bind (wpAny_holding (wpAny_point (wpAny_pure hr)))
end
section
variable {X : Cx} {x : Str} {p pos : Pos} {e : Expr} {es : List Expr}
def tCallO (C : Addr) (sp : Sp) (E : St → XK) (to : TE) (t : TA) : TE := fun σ H Q => to σ H fun v H1 => ∃ a dx fs, v = .ref a ∧ H1 a = some (.ins C dx fs) ∧ t σ H1 fun vs H2 => (∃ fs', H2 a = some (.ins C dx fs')) ∧ sp (.ref a :: vs) H2 Q (E σ)
theorem pe_callO {CX : CXT} {C g : Addr} {k : Nat} {fd : FuncData} {ps : List Str} {sp : Sp} {E : St → XK} {to : TE} {t : TA} (ho : PE X (.Name x p) to) (hs : PySem.W.findIn X.K (.ref C) "__call__" = some (some (.ref g))) (hf : PySem.W.isFn X.K (.ref g) = true) (hfn : PySem.W.fnIn X.K g = true)
    (G : FnOk X.prog X.w X.K X.mg X.base CX k g fd ps sp) (hr : Room k X.A) (hb : Binds X.K fd ps []) (hx : ∀ σ, PassesAt CX X σ (E σ)) (ha : PA X (e :: es) t) (h1 : starEach (e :: es) X.env = (false, eval e X.env) :: starEach es X.env) (h2 : (backTo pos (starEach es X.env)).any (·.1) = false) :
    PE X (.Call (.Name x p) (e :: es) [] pos) (tCallO C sp E to t) := ⟨fun pins s σ H Q I h => by
  refine wpAny_Call_Name_kw (thn (ho.run pins s σ H _ I h) fun u s1 z => ?_)
  obtain ⟨v, H1, I1, rv, a, dx, fs, ev, ea, q⟩ := z
  subst ev
  cases (show u = Value.ref a from rv)
  have e1 : backTo pos (starEach (e :: es) X.env) = (false, eval e X.env) :: backTo pos (starEach es X.env) := by rw [h1]; rfl
  show wpAny _ _ (callWith pos (.ref a) [] (backTo pos (starEach (e :: es) X.env)) []) _ _ _
  have ev := thn (ha.run pos pins s1 σ H1 _ I1 q) fun us s2 z => (show (∃ od, PySem.W.InstAt s2.heap a (PySem.W.instObj C dx) C od) ∧ wpAny (model X.prog X.w) X.A (call (.ref a) us) (EP X pins σ Q) X.xe s2 from by
    obtain ⟨vs, H2, I2, r, ⟨fs', e2⟩, q2⟩ := z
    obtain ⟨mA, O, _⟩ := ins_get I2.hok e2
    obtain ⟨od, J, _⟩ := O.look
    refine ⟨⟨_, J⟩, ?_⟩
    have r2 : Vals (.ref a :: vs) (.ref a :: us) := .cons rfl r
    have hl : (Value.ref a :: us).length = ps.length := by rw [← r2.length]; exact G.len _ _ _ _ q2
    have bt := hb s2 (.ref a :: us) I2.kIn (by rw [List.append_nil]; exact hl)
    rw [List.append_nil] at bt
    refine wpAny_call (PySem.W.kco_code I2.kIn J rfl hs hf hfn (codeAny_mono (G.run X.A X.stack s2 H2 ⟨.ref a :: us, []⟩ (.ref a :: us) (.ref a :: vs) Q (E σ) hr I2.env0 bt r2 q2) fun rr s3 hq => ?_))
    match rr, hq with
    | .error er, hq => exact hx σ pins H2 s2 er s3 I2 hq
    | .ok (.ret u), hq => exact I2.after hq
    | .ok .next, hq => exact hq.elim
    | .ok .brk, hq => exact hq.elim
    | .ok .cont, hq => exact hq.elim)
  rw [e1] at ev ⊢
  exact callWith_obj0 (C := C) (by show (false || _) = false; rw [h2]; rfl) rfl (PySem.Calls.evalArgs_plain ev)⟩
end
section
variable {X : Cx} {T : Tab} {W : WX} {x : Str} {p pos : Pos} {e : Expr} {es : List Expr} {wo : WpE} {wA : WpA} {C g : Addr} {k cn : Nat} {fd : FuncData} {ps : List Str} {c : Ct} {cx : CtX} {fn : List Str}
/-- x(..): x data -/
def objW (cn : Nat) (s : Sl) (k : Prop) : Prop := match s with
  | .dat (.obj n _) => n = cn ∧ k
  | _ => False
def wCallO (cn : Nat) (c : Ct) (wo : WpE) (wA : WpA) : WpE := fun sl cs R Rx => wo sl cs (fun s c1 => objW cn s (wA sl c1 (fun ss c2 => callW c (s :: ss) c2 R) Rx)) Rx
def wCallOX (cn : Nat) (c : Ct) (cx : CtX) (wo : WpE) (wA : WpA) : WpE := fun sl cs R Rx => wo sl cs (fun s c1 => objW cn s (wA sl c1 (fun ss c2 => callXW c cx (s :: ss) c2 R Rx) Rx)) Rx
theorem objW_of {s : Sl} {k : Prop} (h : objW cn s k) : ∃ ds, s = .dat (.obj cn ds) ∧ k := by
  unfold objW at h
  split at h
  · obtain ⟨rfl, h⟩ := h
    exact ⟨_, rfl, h⟩
  · exact h.elim
theorem je_callO (hT : T cn = some (C, fn)) (hs : PySem.W.findIn X.K (.ref C) "__call__" = some (some (.ref g))) (hf : PySem.W.isFn X.K (.ref g) = true) (hfn : PySem.W.fnIn X.K g = true) (G : FnOk X.prog X.w X.K X.mg X.base CX0 k g fd ps (spC T X.K c)) (hr : Room k X.A) (hb : Binds X.K fd ps []) (he : JE X T W (.Name x p) wo) (ha : JA X T W (e :: es) wA)
    (h1 : starEach (e :: es) X.env = (false, eval e X.env) :: starEach es X.env := by rfl) (h2 : (backTo pos (starEach es X.env)).any (·.1) = false := by rfl) : JE X T W (.Call (.Name x p) (e :: es) [] pos) (wCallO cn c wo wA) :=
  weak (pe_callO (E := fun _ => E0) he hs hf hfn G hr hb (fun σ => pass_no) ha h1 h2) fun σ H Q ⟨ad, F, sl, cs, R, Rx, h0, hw, q, qx⟩ => ⟨ad, F, sl, cs, _, Rx, h0, hw, fun s c1 v H1 ad1 hw1 x1 h1 r1 => by
    obtain ⟨ds, rfl, hw1⟩ := objW_of hw1
    have r0 := r1
    cases r1 with
    | @obj a C' dx _ fn' vs' _ ht na e1 hl r =>
      rw [hT] at ht
      cases ht
      refine ⟨a, dx, _, rfl, e1, ad1, F, sl, c1, _, Rx, h1, hw1, fun ss c2 vs H2 ad2 hw2 x2 h2 r2 => ⟨⟨_, (x2.kp a _ e1 na).1⟩, ?_⟩, qx.on x1 h1⟩
      exact callW_then (ss := .dat (.obj cn ds) :: ss) h2.hc ⟨SlRep.ext (s := .dat (.obj cn ds)) x2 r0, r2⟩ hw2 fun s' c' v H' ad' hR x3 k3 r3 => q s' c' v H' ad' hR (x1.trans h1.hc (x2.trans h2.hc x3)) (h2.to x3 k3) r3, qx⟩
theorem je_callOX (tk : Takes X W) (hT : T cn = some (C, fn)) (hs : PySem.W.findIn X.K (.ref C) "__call__" = some (some (.ref g))) (hf : PySem.W.isFn X.K (.ref g) = true) (hfn : PySem.W.fnIn X.K g = true) (G : FnOk X.prog X.w X.K X.mg X.base (L2.CX X.prog X.w) k g fd ps (spX T X.K c cx)) (hr : Room k X.A) (hb : Binds X.K fd ps []) (he : JE X T W (.Name x p) wo) (ha : JA X T W (e :: es) wA)
    (h1 : starEach (e :: es) X.env = (false, eval e X.env) :: starEach es X.env := by rfl) (h2 : (backTo pos (starEach es X.env)).any (·.1) = false := by rfl) : JE X T W (.Call (.Name x p) (e :: es) [] pos) (wCallOX cn c cx wo wA) :=
  weak (pe_callO (E := WE W) he hs hf hfn G hr hb (passAt tk) ha h1 h2) fun σ H Q ⟨ad, F, sl, cs, R, Rx, h0, hw, q, qx⟩ => ⟨ad, F, sl, cs, _, Rx, h0, hw, fun s c1 v H1 ad1 hw1 x1 h1 r1 => by
    obtain ⟨ds, rfl, hw1⟩ := objW_of hw1
    have r0 := r1
    cases r1 with
    | @obj a C' dx _ fn' vs' _ ht na e1 hl r =>
      rw [hT] at ht
      cases ht
      refine ⟨a, dx, _, rfl, e1, ad1, F, sl, c1, _, Rx, h1, hw1, fun ss c2 vs H2 ad2 hw2 x2 h2 r2 => ⟨⟨_, (x2.kp a _ e1 na).1⟩, ?_⟩, qx.on x1 h1⟩
      exact callXW_then (ss := .dat (.obj cn ds) :: ss) h2.hc ⟨SlRep.ext (s := .dat (.obj cn ds)) x2 r0, r2⟩ hw2 (fun s' c' v H' ad' hR x3 k3 r3 => q s' c' v H' ad' hR (x1.trans h1.hc (x2.trans h2.hc x3)) (h2.to x3 k3) r3) (fun x c' cls d H' ad' hR x3 k3 er => qx x c' cls d H' ad' hR (x1.trans h1.hc (x2.trans h2.hc x3)) (h2.to x3 k3) er), qx⟩
end
end Dl

namespace Dl
open PySem L2
/-! ### repr of an int -/
section
variable {X : Cx} {T : Tab}
theorem cb_reprI {i : Int} {cs : List Cell} (h : i.natAbs.log2 < 1920) : CalB X T "repr" [.dat (.int i)] cs (.dat (.str (toString i))) cs := ⟨_, _, by decide +kernel, .inl ⟨_, rfl⟩, SkE.call_repr_int, fun ad F H vs Q c r q => by
  match vs, r with
  | [v], r =>
    have r1 := r.1
    cases r1
    exact ⟨i, rfl, h, q _ H ad .refl c Rep.str⟩⟩
def reprIW : WC := fun ss cs R => match ss with
  | [.dat (.int i)] => i.natAbs.log2 < 1920 ∧ R (.dat (.str (toString i))) cs
  | _ => False
theorem jc_reprI : JCall X T "repr" reprIW := ⟨⟨.builtin "repr", by decide +kernel, .inl ⟨_, rfl⟩⟩, fun ss cs R h => by
  unfold reprIW at h
  split at h
  · exact ⟨_, _, cb_reprI h.1, h.2⟩
  · exact h.elim⟩
end
/-! ### list(range(a, b)) -/
section
variable {X : Cx} {T : Tab} {W : WX} {a b : Expr} {wA : WpA} {p p2 pos pos2 : Pos}
def rgD (i j : Int) : List D := (List.range (j - i).toNat).map fun n => D.int (i + (n : Nat))
theorem reps_rg {K : PySem.W.Frag} {M : Addr → Prop} {H : Hp} (i j : Int) : Reps T K M H (rgV i j) (rgD i j) := by
  unfold rgV rgD
  induction List.range (j - i).toNat with
  | nil => exact .nil
  | cons n l ih => exact .cons .int ih
def lrgW (cell : Bool) (ss : List Sl) (cs : List Cell) (R : RV) : Prop := match ss with
  | [.dat (.int i), .dat (.int j)] => RgOk i j ∧ (match cell with
    | true => R (.cel cs.length) (cs ++ [.lst (rgD i j)])
    | false => R (.dat (.lst (rgD i j))) cs)
  | _ => False
def wLrg (cell : Bool) (wA : WpA) : WpE := fun sl cs R Rx => wA sl cs (fun ss c1 => lrgW cell ss c1 R) Rx
theorem je_lrg (cell : Bool) {wa wb : WpE} (hm : X.mg "list" = none) (hm2 : X.mg "range" = none) (ha : JE X T W a wa) (hb : JE X T W b wb) (hc : X.calm = true := by rfl) (hg : Gl X "list" := by rfl) (hg2 : Gl X "range" := by rfl)
    (hs : starEach [.Call (.Name "range" p2) [a, b] [] pos2] X.env = (false, eval (.Call (.Name "range" p2) [a, b] [] pos2) X.env) :: starEach [] X.env := by rfl)
    (hs1 : starEach [a, b] X.env = (false, eval a X.env) :: starEach [b] X.env := by rfl) (hs2 : starEach [b] X.env = (false, eval b X.env) :: starEach [] X.env := by rfl) (hs3 : (backTo pos2 (starEach [b] X.env)).any (·.1) = false := by rfl) :
    JE X T W (.Call (.Name "list" p) [.Call (.Name "range" p2) [a, b] [] pos2] [] pos) (wLrg cell (wCons wa (wCons wb wNil))) :=
  weak (pe_listRg hc hg hm (prg_2 hg2 hm2 ha hb hs1 hs2 hs3) hs) fun σ H Q ⟨ad, F, sl, cs, R, Rx, h0, hw, q, qx⟩ => ⟨ad, F, sl, cs, _, Rx, h0, hw, fun s1 c1 v1 H1 ad1 hw1 x1 h1 r1 => ⟨ad1, F, sl, c1, _, Rx, h1, hw1, fun s2 c2 v2 H2 ad2 hw2 x2 h2 r2 => by
    have hw2 : lrgW cell [s1, s2] c2 R := hw2
    unfold lrgW at hw2
    split at hw2
    · rename_i ii jj heq
      cases heq
      obtain ⟨ok, hR⟩ := hw2
      have r1' : v1 = .int ii := by cases r1; rfl
      have r2' : v2 = .int jj := by cases r2; rfl
      subst r1' r2'
      refine ⟨ii, jj, rfl, rfl, ok, fun p hp => ?_⟩
      have x12 := x1.trans h1.hc x2
      cases cell with
      | true => exact new_lstC h2.hc (reps_rg _ _) (fun z H' ad' x3 k3 r3 => q _ _ z H' ad' hR (x12.trans h2.hc x3) (h2.to x3 k3) r3) hp
      | false => exact new_lst h2.hc (reps_rg _ _) (fun z H' ad' x3 k3 r3 => q _ _ z H' ad' hR (x12.trans h2.hc x3) (h2.to x3 k3) r3) hp
    · exact hw2.elim, qx.on x1 h1⟩, qx⟩
end
end Dl

/-! ### t[::-1] of a tuple -/
namespace HT
open PySem PySem.Spec PyProof.Rows
section
variable {prog : Program} {w : World} {A : Around} {E : Value → Shared → Prop} {s : Shared}
theorem adjustR (n : Nat) : Builtin.Slice.sliceAdjust none none (-1) (n : Int) = ((n : Int) - 1, -1) := by
  have h1 : ((-1 : Int) < 0) := by omega
  unfold Builtin.Slice.sliceAdjust
  simp only [h1, if_true]
theorem placesR (n : Nat) : Builtin.Slice.slicePlaces ((n : Int) - 1) (-1) (-1) = n := by
  unfold Builtin.Slice.slicePlaces
  simp
  try omega
theorem appliedR {sl : Addr} {vl vu vs : Value} {n : Nat} {Q : Int × Int × Nat → Shared → Prop} (hs : s.heap.IsSliceOf sl vl vu vs) (q1 : IsPart vl none) (q2 : IsPart vu none) (q3 : IsPart vs (some (-1))) (h : Q ((n : Int) - 1, -1, n) s) :
    wpAny (model prog w) A (Builtin.Slice.sliceApplied (.ref sl) (pure (n : Int))) Q E s := by
  obtain ⟨os, o1, o2, o3⟩ := id hs
  unfold Builtin.Slice.sliceApplied; unfold Builtin.Slice.sliceFields
  refine wpAny_bind (wpAny_bind (wpAny_field o1 o3 (x := vl) rfl (wpAny_bind (wpAny_field o1 o3 (x := vu) rfl (wpAny_bind (wpAny_field o1 o3 (x := vs) rfl (wpAny_pure ?_)))))))
  refine wpAny_bind (slicePart_ q3 ?_)
  show wpAny _ _ (if (((-1 : Int)) == 0) = true then _ else _) _ _ s
  rw [if_neg (by decide)]
  refine wpAny_bind (slicePart_ q1 (wpAny_bind (slicePart_ q2 (wpAny_bind (wpAny_pure ?_)))))
  show wpAny _ _ (match Builtin.Slice.sliceAdjust none none (-1) (n : Int) with | (l1, h1) => pure (l1, (-1 : Int), Builtin.Slice.slicePlaces l1 h1 (-1))) _ _ s
  rw [adjustR n]
  show wpAny _ _ (pure ((n : Int) - 1, (-1 : Int), Builtin.Slice.slicePlaces ((n : Int) - 1) (-1) (-1))) _ _ s
  rw [placesR]
  exact wpAny_pure h
theorem pickR (xs : Array Value) : ((List.range xs.size).filterMap fun (m : Nat) => xs[(((xs.size : Int) - 1) + (m : Int) * (-1)).toNat]?).toArray = xs.toList.reverse.toArray := by
  congr 1
  have e : ∀ m, m ∈ List.range xs.size → xs[(((xs.size : Int) - 1) + (m : Int) * (-1)).toNat]? = some (xs.toList.reverse[m]?.getD .none) := fun m hm => by
    have hm := List.mem_range.mp hm
    have i : (((xs.size : Int) - 1) + (m : Int) * (-1)).toNat = xs.size - 1 - m := by omega
    rw [i, List.getElem?_reverse (by rw [Array.length_toList]; exact hm), Array.length_toList]
    have k : xs.size - 1 - m < xs.size := by omega
    rw [Array.getElem?_eq_getElem k, List.getElem?_eq_getElem (by rw [Array.length_toList]; exact k)]
    rfl
  have f : ∀ (l : List Nat) (g : Nat → Option Value) (h : Nat → Value), (∀ m ∈ l, g m = some (h m)) → l.filterMap g = l.map h := fun l g h => by
    induction l with
    | nil => intro _; rfl
    | cons x l ih =>
      intro hx
      rw [List.filterMap_cons, hx x List.mem_cons_self, List.map_cons, ih fun m hm => hx m (List.mem_cons_of_mem _ hm)]
  rw [f _ _ _ e]
  apply List.ext_getElem?
  intro m
  rw [List.getElem?_map]
  by_cases hm : m < xs.size
  · rw [List.getElem?_range hm]
    have : m < xs.toList.reverse.length := by rw [List.length_reverse, Array.length_toList]; exact hm
    show some (xs.toList.reverse[m]?.getD .none) = _
    rw [List.getElem?_eq_getElem this]
    rfl
  · rw [List.getElem?_eq_none (by rw [List.length_range]; omega), List.getElem?_eq_none (by rw [List.length_reverse, Array.length_toList]; omega)]
    rfl
theorem getItem_tuple_rev {tt sl : Addr} {items : Array Value} {vl vu vs : Value} {Q : Value → Shared → Prop} (ht : IsTup s.heap tt items) (hs : s.heap.IsSliceOf sl vl vu vs) (q1 : IsPart vl none) (q2 : IsPart vu none) (q3 : IsPart vs (some (-1)))
    (h : Q (.ref s.heap.objs.size) { s with heap := s.heap.push { cls := .type "tuple", data := .seq items.toList.reverse.toArray } }) (hsz : items.size ≤ sizeLine) : wpAny (model prog w) A (getItem (.ref tt) (.ref sl)) Q E s := by
  have ok : sizeOk (.seq items.toList.reverse.toArray) := by
    show items.toList.reverse.toArray.size ≤ sizeLine
    rw [List.size_toArray, List.length_reverse, Array.length_toList]
    exact hsz
  obtain ⟨os, o1, o2, o3⟩ := id hs
  have tS : s.TypeIs (.ref sl) "slice" := ⟨os, o1, o2⟩
  unfold getItem
  (try with_reducible refine wpAny_holding ?_); (try refine wpAny_bind (wpAny_pure ?_))
  refine wpAny_bind (wpAny_sequenceKey ht.typeIs (by decide) (wpAny_bind (wpAny_callSpecial?_slot (name := Str.ofString "__getitem__") ht.typeIs PyProof.Rows.slot_tuple_getitem (wpAny_call_entry PyProof.Rows.slot_tuple_getitem ht.typeIs entry_tuple_getitem ?_ (args_tuple_getitem _ _)))))
  show wpAny _ _ (Builtin.Tuple.tupleItemsOf (.ref tt) >>= _) _ _ s
  refine wpAny_bind (tupleItemsOf_ ht (wpAny_bind (wpAny_typeOf tS ?_)))
  rw [if_pos (by decide)]
  refine wpAny_bind (appliedR (n := items.size) hs q1 q2 q3 ?_)
  show wpAny _ _ (if ((((items.size : Int) - 1) == 0 && (-1 : Int) == 1 && items.size == items.size) = true) then _ else _) _ _ s
  rw [if_neg (by simp), pickR]
  first
    | exact wpAny_bind (m := Builtin.Tuple.tupleExact _) (wpAny_newObj_type (wpAny_pure ⟨_, rfl, wpAny_pure h⟩) ok)
    | exact wpAny_bind (wpAny_bind (m := Builtin.Tuple.tupleExact _) (wpAny_newObj_type (wpAny_pure (wpAny_pure ⟨_, rfl, wpAny_pure h⟩)) ok))
    | exact wpAny_bind (wpAny_bind (m := Builtin.Tuple.tupleExact _) (wpAny_newObj_type (wpAny_pure ⟨_, rfl, wpAny_pure h⟩) ok))
end
end HT
namespace Dl
open PySem L2 PySem.Spec PyProof.Rows
section
variable {X : Cx} {T : Tab} {W : WX} {e : Expr} {wa : WpE} {pos p1 p2 p3 : Pos} {k : Nat}
def tRevT (K : PySem.W.Frag) (te : TE) : TE := fun σ H Q => te σ H fun x H1 => ∃ a xs, x = .ref a ∧ SqT K H1 a xs ∧ ∀ p, H1 p = none → Q (.ref p) (L2.upd H1 p (.tup xs.reverse))
theorem pe_revT {te : TE} (he : PE X e te) : PE X (.Subscript e (.Slice none none (some (.UnaryOp .USub (.Constant (.int 1) k p1) p2)) p3) pos) (tRevT X.K te) := ⟨fun pins s σ H Q I h => by
  refine Subscript_ (thn (he.run pins s σ H _ I h) fun v s1 z => ?_)
  obtain ⟨x, H1, I1, r1, a, xs, ex, hx, q⟩ := z
  subst ex
  cases r1
  have st : PO X (some (.UnaryOp .USub (.Constant (.int 1) k p1) p2)) (tPart (tUn (rU fun i => .int (-i)) (tC (.int 1)))) := po_some (pe_un un_neg pe_int)
  refine wpAny_Slice (thn (po_none.run pins s1 σ H1 (fun o H2 => o = none ∧ H2 = H1) I1 ⟨rfl, rfl⟩) fun v1 s2 z => ?_)
  obtain ⟨l, H2, I2, q1, e1, e2⟩ := z
  subst e1 e2
  refine thn (po_none.run pins s2 σ H2 (fun o H3 => o = none ∧ H3 = H2) I2 ⟨rfl, rfl⟩) fun v2 s3 z => ?_
  obtain ⟨u, H3, I3, q2, e1, e3⟩ := z
  subst e1 e3
  refine thn (st.run pins s3 σ H3 (fun o H4 => o = some (-1) ∧ H4 = H3) I3 ⟨1, rfl, -1, rfl, rfl, rfl⟩) fun v3 s4 z => ?_
  obtain ⟨o, H4, I4, q3, e1, e4⟩ := z
  subst e1 e4
  have I5 : Inv X pins σ H4 { s4 with heap := s4.heap.push { cls := .type "slice", data := .fields #[v1, v2, v3] } } := I4.kept (t' := s4.toks) fun b ob z => Heap.get?_push_of_some _ z
  obtain ⟨its, r, ht, hz⟩ := I5.tuple hx
  have hlen := r.length
  show wpAny (model X.prog X.w) X.A (subscriptTail e (.Slice none none (some (.UnaryOp .USub (.Constant (.int 1) k p1) p2)) p3) (.ref a) (.ref s4.heap.objs.size)) (EP X pins σ Q) X.xe _
  refine tail_any (ops := [.ref a, .ref s4.heap.objs.size]) ht.typeIs (PyProof.Rows.slot_tuple_getitem.lookup) ?_ (by with_unfolding_all rfl)
  refine HT.getItem_tuple_rev ht (Heap.IsSliceOf.new _ v1 v2 v3) q1 q2 q3 ?_ (by rw [List.size_toArray]; omega)
  refine ⟨.ref _, _, I5.laid (t' := s4.toks) (o := .tup xs.reverse) (fun b ob z => Heap.get?_push_of_some _ z) (Nat.le_refl _) ?_, rfl, q _ (I5.hok.fresh (Nat.le_refl _))⟩
  exact ⟨by rw [List.length_reverse]; exact hz, _, r.reverse, IsTup.new _ _⟩⟩
def wRevT (wa : WpE) : WpE := fun sl cs R Rx => wa sl cs (fun s c1 => match s with
  | .dat (.tup ds) => R (.dat (.tup ds.reverse)) c1
  | _ => False) Rx
theorem je_revT (ha : JE X T W e wa) : JE X T W (.Subscript e (.Slice none none (some (.UnaryOp .USub (.Constant (.int 1) k p1) p2)) p3) pos) (wRevT wa) :=
  weak (pe_revT ha) fun σ H Q ⟨ad, F, sl, cs, R, Rx, h0, hw, q, qx⟩ => ⟨ad, F, sl, cs, _, Rx, h0, hw, fun s1 c1 v H1 ad1 hw1 x1 h1 r1 => by
    split at hw1
    · cases r1 with
      | @tup a vs _ e1 r => exact ⟨a, vs, rfl, e1.sq, fun p hp => new_tup h1.hc r.rev (fun z H' ad' x2 k2 r2 => q _ c1 z H' ad' hw1 (x1.trans h1.hc x2) (h1.to x2 k2) r2) hp⟩
    · exact hw1.elim, qx⟩
end
end Dl

namespace Dl
open PySem L2
/-! ### an int of the module, by its name -/
section
variable {X : Cx} {T : Tab} {W : WX} {x : Str} {pos : Pos} {i : Int}
theorem je_gint (hm : ∃ t, X.mg x = some (.int i t)) (hg : Gl X x := by rfl) (hd : (x == ("__debug__" : Str)) = false := by decide) : JE X T W (.Name x pos) (wCon (.int i)) := by
  obtain ⟨t, hm⟩ := hm
  exact weak (pe_glob (v := .int i) hg hm ⟨t, rfl⟩ hd) fun σ H Q ⟨ad, F, sl, cs, R, Rx, h0, hw, q, qx⟩ => q _ cs _ H ad hw .refl h0 Rep.int
end
end Dl

namespace Dl
open PySem L2
/-! ### constructors that may raise -/
section
variable {X : Cx} {T : Tab} {W : WX} {e : Expr} {es : List Expr} {kws : List Keyword} {pos p : Pos} {wA wK : WpA} {c : Ct} {cx : CtX} {k pn : Nat} {fd : FuncData} {ps ks : List Str} {y : Str} {C g : Addr} {fn : List Str} {cn : Nat} {gg : List Value → List Value → List Value} {gV : List V → List V → List V} {fu : List D → List D → List D}
/-- __init__ with the slots at hand: what it raises may be told by them -/
theorem run_mkS {CX : CXT} {sp : Sp} {E : XK} {pins : List (Addr × Obj)} {σ : St} {H : Hp} {sh : Shared} {Q : VK} {us ws : List Value} {vs zs : List V} (M : Mk X.K C g) (G : FnOk X.prog X.w X.K X.mg X.base CX k g fd ps sp) (hr : Room (k + 1) X.A) (hb : KBn X.K fd ps (pn + 1) ks gg gV) (hx : PassesAt CX X σ E)
    (I : Inv X pins σ H sh) (r : Vals vs us) (rz : Vals zs ws) (l1 : vs.length = pn) (l2 : zs.length = ks.length)
    (h : ∀ a b, H a = none → H b = none → b ≠ a → sp (gV (.ref a :: vs) zs) (upd (upd H b (.own a)) a (.ins C b [])) (fun v H2 => v = .non ∧ Q (.ref a) H2) E) :
    wpAny (model X.prog X.w) X.A (call (.ref C) us (ks.zip ws)) (EP X pins σ Q) X.xe sh := by
  let n := sh.heap.objs.size
  have J := Inv.made (C := C) I
  have hs := h (n + 1) n (I.hok.fresh (Nat.le_succ n)) (I.hok.fresh (Nat.le_refl n)) (Nat.ne_of_lt (Nat.lt_succ_self n))
  have rs := hb.rel (show Vals (V.ref (n + 1) :: vs) (Value.ref (n + 1) :: us) from .cons rfl r) rz
  have bt := hb.to _ (Value.ref (n + 1) :: us) ws J.kIn (by rw [List.length_cons, ← r.length, l1]) (by rw [← rz.length]; exact l2)
  have run := G.run _ X.stack _ _ ⟨Value.ref (n + 1) :: us, ks.zip ws⟩ _ _ _ E (hr.make C us (ks.zip ws)) (J.env0.make C us (ks.zip ws)) bt rs hs
  refine wpAny_call (make_map (f := g) I.kIn M.makes M.init (beq_iff_eq.mp M.fn) (codeAny_mono run fun o s' z => ?_))
  match o, z with
  | .error v, z => exact hx pins _ _ v s' J z
  | .ok (.ret u), z =>
    obtain ⟨v, H', J', rv, rfl, q⟩ := J.after z
    exact ⟨rv, V.ref (n + 1), H', J', rfl, q⟩
  | .ok .next, z => exact z.elim
  | .ok .brk, z => exact z.elim
  | .ok .cont, z => exact z.elim
def tMkS (C : Addr) (n m : Nat) (sp : Sp) (gV : List V → List V → List V) (E : St → XK) (t tk : TA) : TE := fun σ H Q => t σ H fun vs H1 => tk σ H1 fun zs H2 => vs.length = n ∧ zs.length = m ∧ ∀ a b, H2 a = none → H2 b = none → b ≠ a →
  sp (gV (.ref a :: vs) zs) (upd (upd H2 b (.own a)) a (.ins C b [])) (fun v H3 => v = .non ∧ Q (.ref a) H3) (E σ)
theorem pe_mkS {CX : CXT} {sp : Sp} {E : St → XK} {t tk : TA} (M : Mk X.K C g) (G : FnOk X.prog X.w X.K X.mg X.base CX k g fd ps sp) (hr : Room (k + 1) X.A) (hg : Gl X y) (hm : X.mg y = some (.ref C)) (hb : KBn X.K fd ps (pn + 1) ks gg gV) (hx : ∀ σ, PassesAt CX X σ (E σ)) (ha : PA X (e :: es) t) (hkw : PK X kws tk)
    (hall : (backToKw pos (keywordEach kws X.env)).all (·.1.isSome) = true) (hks : (backToKw pos (keywordEach kws X.env)).filterMap (·.1) = ks) (hdb : (y == ("__debug__" : Str)) = false)
    (he : starEach (e :: es) X.env = (false, eval e X.env) :: starEach es X.env) (hpl : ((backTo pos (starEach (e :: es) X.env)).any (·.1) || (backToKw pos (keywordEach kws X.env)).any (·.1.isNone)) = false) :
    PE X (.Call (.Name y p) (e :: es) kws pos) (tMkS C pn ks.length sp gV E t tk) := by
  constructor
  intro pins sh σ H Q I h
  refine wpAny_Call_Name_kw (ld_glob I hg hm (PySem.W.callWith_KW (h₀ := X.base) I.ok.mod.kin M.kp hall (thn (ha.run pos pins sh σ H _ I h) fun us s1 z1 => ?_) hpl he) hdb)
  obtain ⟨vs, H1, I1, r1, q1⟩ := z1
  refine thn (hkw.run pos pins s1 σ H1 _ I1 q1) fun ws s2 z2 => ?_
  obtain ⟨zs, H2, I2, r2, l1, l2, q2⟩ := z2
  exact ⟨I2.kIn, by rw [hks]; exact run_mkS M G hr hb (hx σ) I2 r1 r2 l1 l2 q2⟩
/-- the call of __init__ raises: the instance is lost -/
theorem mkX_then {K : PySem.W.Frag} {ad : List Addr} {F : Addr → Prop} {H : Hp} {cs : List Cell} {ws : List V} {args : List D} {Q : VK} {E : XK} {x : Exc} {a b : Addr} {c1 : Cell} (hT : T cn = some (C, fn)) (h : HoldC T K ad F H cs) (r : Reps T K (Mm ad F) H ws args) (ha : H a = none) (hb : H b = none) (ne : b ≠ a)
    (hq : cx (.cel 0 :: args.map Sl.dat) [.ins cn []] x [c1]) (q : ∀ cls d H', Ext ad F H ad H' → HoldC T K ad F H' cs → ExRep T K (Mm ad F) H' cls d x → E cls d H') :
    spX T K c cx (.ref a :: ws) (upd (upd H b (.own a)) a (.ins C b [])) Q E := by
  obtain ⟨h1, x1⟩ := h.newo (o := .own a) hb
  have ha1 : upd H b (.own a) a = none := by rw [upd_ne ne.symm]; exact ha
  obtain ⟨h2, x2⟩ := h1.cell (c := .ins cn []) (o := .ins C b []) ha1 ⟨C, fn, b, [], hT, upd_same, rfl, .nil⟩
  have x12 := x1.trans h1 x2
  have hlen : cs.length = ad.length := h.ln.symm
  have ia : (ad ++ [a])[ad.length]? = some a := by rw [List.getElem?_append_right (Nat.le_refl _)]; simp
  have ic : (cs ++ [Cell.ins cn []])[ad.length]? = some (.ins cn []) := by rw [← hlen, List.getElem?_append_right (Nat.le_refl _)]; simp
  have rr : SlReps T K (ad ++ [a]) F (upd (upd H b (.own a)) a (.ins C b [])) (.ref a :: ws) (.cel ad.length :: args.map Sl.dat) := ⟨⟨a, ia, rfl⟩, SlReps.of (r.kp x12.kp)⟩
  have ho : (Sl.cel ad.length :: args.map Sl.dat).all (onlyCell ad.length) = true := by
    rw [List.all_cons, List.all_map]
    simp [onlyCell]
  have hm : (Sl.cel ad.length :: args.map Sl.dat).map low = .cel 0 :: args.map Sl.dat := by
    rw [List.map_cons, List.map_map]
    rfl
  have lr := low_reps ia ho rr
  rw [hm] at lr
  refine .inr ⟨[a], Fk (ad ++ [a]) F a, _, [.ins cn []], x, [c1], frame1 h2 ia ic, lr, hq, fun cls d H' ad' xe hn c3 er => ?_⟩
  have e : ad' = [a] := by
    have z1 : ad'.length = 1 := c3.ln
    have z2 : ad'.take 1 = [a] := xe.pre
    rw [List.take_of_length_le (by omega)] at z2
    exact z2
  subst e
  obtain ⟨c4, x4⟩ := back1 h2 ia xe c3
  have c5 := c4.take ad.length
  have e1 : (ad ++ [a]).take ad.length = ad := by rw [List.take_append_of_le_length (Nat.le_refl _), List.take_length]
  have e2 : ((cs ++ [Cell.ins cn []]).set ad.length c1).take ad.length = cs := by
    rw [List.take_set_of_le (Nat.le_refl _), ← hlen, List.take_append_of_le_length (Nat.le_refl _), List.take_length]
  rw [e1, e2] at c5
  have x14 := x12.trans h2 x4
  refine q cls d H' ⟨⟨[], by simp, fun _ z => nomatch z⟩, x14.keep, x14.frm⟩ c5 ?_
  have out : ∀ z, ¬ Mm [a] (Fk (ad ++ [a]) F a) z → ¬ Mm ad F z := fun z n m => n ((mm_k (List.mem_of_getElem? ia) z).mpr (m.imp (List.mem_append_left _) id))
  obtain ⟨C', fn', t1, t2, er⟩ := er
  refine ⟨C', fn', t1, t2, er.imp id ?_⟩
  rintro ⟨dd, vs', a1, a2, a3, a4, a5⟩
  exact ⟨dd, vs', a1, out dd a2, a3, a4, a5.kp fun z o e n => ⟨e, out z n⟩⟩
def makeXW (cn : Nat) (fn : List Str) (c : Ct) (cx : CtX) (args : List D) (cs : List Cell) (R : RV) (Rx : RX) : Prop := makeW cn fn c args cs R ∨ ∃ x c1, cx (.cel 0 :: args.map Sl.dat) [.ins cn []] x [c1] ∧ Rx x cs
def wMakeKX (cn : Nat) (fn : List Str) (c : Ct) (cx : CtX) (pn kn : Nat) (fu : List D → List D → List D) (wA wK : WpA) : WpE := fun sl cs R Rx => wA sl cs (fun ss c1 => wDats ss fun vs => wK sl c1 (fun zz c2 => wDats zz fun zs => vs.length = pn ∧ zs.length = kn ∧ makeXW cn fn c cx (fu vs zs) c2 R Rx) Rx) Rx
theorem je_makeKX (tk : Takes X W) (hT : T cn = some (C, fn)) (M : Mk X.K C g) (G : FnOk X.prog X.w X.K X.mg X.base (L2.CX X.prog X.w) k g fd ps (spX T X.K c cx)) (hr : Room (k + 1) X.A) (hm : X.mg y = some (.ref C)) (hb : ∃ gg, KBn X.K fd ps (pn + 1) ks gg gV)
    (hp : ∀ vs zs : List D, vs.length = pn → zs.length = ks.length → Put X.K gV vs zs (fu vs zs))
    (ha : JA X T W (e :: es) wA) (hkw : JK X T W kws wK) (hg : Gl X y := by rfl)
    (hall : (backToKw pos (keywordEach kws X.env)).all (·.1.isSome) = true := by rfl) (hks : (backToKw pos (keywordEach kws X.env)).filterMap (·.1) = ks := by rfl) (hdb : (y == ("__debug__" : Str)) = false := by decide)
    (he : starEach (e :: es) X.env = (false, eval e X.env) :: starEach es X.env := by rfl) (hpl : ((backTo pos (starEach (e :: es) X.env)).any (·.1) || (backToKw pos (keywordEach kws X.env)).any (·.1.isNone)) = false := by rfl) :
    JE X T W (.Call (.Name y p) (e :: es) kws pos) (wMakeKX cn fn c cx pn ks.length fu wA wK) := by
  obtain ⟨gg, hb⟩ := hb
  exact weak (pe_mkS (E := WE W) M G hr hg hm hb (passAt tk) ha hkw hall hks hdb he hpl) fun σ H Q ⟨ad, F, sl, cs, R, Rx, h0, hw, q, qx⟩ => ⟨ad, F, sl, cs, _, Rx, h0, hw, fun ss c1 ws H1 ad1 hw1 x1 h1 r1 => by
    have hw1' := wDats_of hw1
    clear hw1
    obtain ⟨args, e0, hw1⟩ := hw1'
    subst e0
    refine ⟨ad1, F, sl, c1, _, Rx, h1, hw1, fun zz c2 zs H2 ad2 hw2 x2 h2 r2 => ?_, qx.on x1 h1⟩
    obtain ⟨kargs, rfl, l1, l2, hw2⟩ := wDats_of hw2
    have w1 := r1.dats
    have w2 := r2.dats
    refine ⟨by rw [w1.length]; exact l1, by rw [w2.length]; exact l2, fun a b ha hb ne => ?_⟩
    obtain ⟨us, e1, e2⟩ := hp args kargs l1 l2 (.ref a) ws zs w1.length w2.length
    rw [e1]
    have rr := e2 _ _ _ (w1.kp x2.kp) w2
    rcases hw2 with ⟨ds, hq, hl, hR⟩ | ⟨x, c3, hq, hR⟩
    · exact .inl (mk_then hT h2.hc rr ha hb ne hq hl fun H' x3 c3 r3 => q _ c2 (.ref a) H' ad2 hR (x1.trans h1.hc (x2.trans h2.hc x3)) (h2.to x3 c3) r3)
    · exact mkX_then hT h2.hc rr ha hb ne hq fun cls d H' x3 c4 er => qx x c2 cls d H' ad2 hR (x1.trans h1.hc (x2.trans h2.hc x3)) (h2.to x3 c4) er, qx⟩
end
end Dl

namespace Dl
open PySem L2 PySem.Spec PyProof.Rows
/-! ### defs that are called while no repr is under way -/
/-- a def's promise where no container's repr is under way -/
structure FnG (P : Program) (w : World) (K : PySem.W.Frag) (mg : Str → Option Value) (base : Heap) (C : CXT) (k : Nat) (f : Addr) (fd : FuncData) (ps : List Str) (sp : Sp) : Prop where
  ln : ∀ {vs : List V} {H : Hp} {Q : VK} {E : XK}, sp vs H Q E → vs.length = ps.length
  go : ∀ {A : Around} {fs : List Env} {s : Shared} {H : Hp} {as : Args} {us : List Value} {vs : List V} {Q : VK} {E : XK}, A.guards = some [] → Room k A → Env0 P w K mg base A fs s H → BindsTo s fd as (ps.zip us) → Vals vs us → sp vs H Q E →
    codeAny (model P w) A (.call (.ref f) as) (CR C fs P w H s Q E) s
section
variable {P : Program} {w : World} {K : PySem.W.Frag} {mg : Str → Option Value} {base : Heap} {C : CXT} {k : Nat} {f : Addr} {fd : FuncData} {ps N : List Str} {sp sp' : Sp}
theorem FnG.of (F : FnOk P w K mg base C k f fd ps sp) : FnG P w K mg base C k f fd ps sp := ⟨fun h => F.len _ _ _ _ h, fun _ hr e b v h => F.run _ _ _ _ _ _ _ _ _ hr e b v h⟩
theorem FnG.to (F : FnG P w K mg base C k f fd ps sp) (h : ∀ vs H Q E, sp' vs H Q E → sp vs H Q E) : FnG P w K mg base C k f fd ps sp' := ⟨fun q => F.ln (h _ _ _ _ q), fun g hr e b v q => F.go g hr e b v (h _ _ _ _ q)⟩
theorem fn_g {nm qual : Str} {pa : Arguments} {body : List Stmt} {scope : Scope} {dV kV doc pm cdv ct oc : Value} {an od : Option Addr} {osl : Array (Option Value)} (l1 : K.lookup f = some ⟨oc, od, .func (PySem.W.fnOf nm qual pa body scope dV kV doc pm an cdv ct), osl⟩) (l2 : PySem.W.codeIn K cdv qual = true) (Sc : FnScope N ps scope)
    (ln : ∀ {vs : List V} {H : Hp} {Q : VK} {E : XK}, sp vs H Q E → vs.length = ps.length)
    (hb : ∀ (A : Around) (fs : List Env) (s : Shared) (H : Hp) (vs : List V) (Q : VK) (E : XK), A.guards = some [] → Room k (A.deeper (envOfC qual scope s.heap.objs.size f cdv)) → sp vs H Q E → ∃ t, PSs (cxOf C P w K mg base N qual scope f cdv A fs s H E) body t ∧ t { nx := fun _ H' => Q .non H', rt := Q } (L2.start N vs) H) :
    FnG P w K mg base C (k + 1) f (PySem.W.fnOf nm qual pa body scope dV kV doc pm an cdv ct) ps sp := ⟨ln, fun {A fs s H as us vs Q E} g hr e b v h => by
  have ok := e.mod.kin.keeps fun a o z => (e.bs a o z).1
  refine codeAny_call_function hr.depth (ok _ _ l1) rfl Sc.co Sc.gen rfl (PySem.W.codeRec_of ok l2) (b _ _ _ _ ?_)
  refine wpAny_newFunctionEnv_cells Sc.kind (fun y hy => (Sc.par y.1 (List.of_mem_zip (a := y.1) (b := y.2) hy).1).imp id fun q => ⟨q, PySem.W.cellsFrom_some _ _ _ (.inl q)⟩) fun env he s1 x => ?_
  cases he
  refine ⟨(e.mod.nolimit.keeps fun a o z => (e.bs a o z).1).keeps x.toInCall.keep, codeAny_func ?_⟩
  obtain ⟨t, ht, hq⟩ := hb A fs s H vs Q E g (hr.deeper _) h
  refine wpAny_mono (ht.run [] s1 (L2.start N vs) H _ (inv_start Sc hr.hd e (ln h) v x) hq) (fun fl s' z => ?_) fun _ _ z => z
  match fl, z with
  | .ret u, ⟨v, _, H', J, rv, q⟩ => exact ⟨v, H', J.os, J.bare, J.base, J.hok, rv, q⟩
  | .next, ⟨_, H', J, q⟩ => exact ⟨.non, H', J.os, J.bare, J.base, J.hok, rfl, q⟩
  | .brk, ⟨_, _, _, q⟩ => exact q.elim
  | .cont, ⟨_, _, _, q⟩ => exact q.elim⟩
end
section
variable {T : Tab} {P : Program} {w : World} {K : PySem.W.Frag} {mg : Str → Option Value} {base : Heap} {x qual : Str} {st : Stmt} {f : Addr} {fd : FuncData} {N ps : List Str} {k : Nat} {ws : Nat → WS}
theorem fn_JG (F : Fun K x qual st f fd) (Sc : FnScope N ps (defScope st))
    (body : ∀ cdv A outer sh H E, A.guards = some [] → Room k (cx0 P w K mg base N qual st f cdv A outer sh H E).A → ∀ n, JSs (cx0 P w K mg base N qual st f cdv A outer sh H E) T W0 n (defBody st) (ws n)) : FnG P w K mg base CX0 (k + 1) f fd ps (spC T K (ctOf N ps ws)) := by
  obtain ⟨oc, od, kV, doc, pm, an, cdv, ct, osl, rfl, l1, l2⟩ := F.ex
  refine fn_g l1 l2 Sc (fun h => ?_) fun A fs s H vs Q E g hr h => ?_
  · obtain ⟨ad, F', args, cs, s, cs', _, r, hc, _⟩ := h
    rw [r.len, hc.1]
  · obtain ⟨ad, F', args, cs, s0, cs', hc, r, h, q⟩ := h
    have bd : DSs (cx0 P w K mg base N qual st f cdv A fs s H E) T cs.length (st0 N args cs) (defBody st) ((endJ cs.length s0 cs').to W0) := body cdv A fs s H E g hr _ _ _ h.2
    refine ⟨_, PSs.nox bd, ad, F', Nat.le_of_eq hc.ln.symm, start_hold hc r, ?_, ?_, fun _ _ _ _ _ _ _ z => z.elim, fun _ _ _ _ _ _ _ z => z.elim, fun _ _ _ _ _ _ _ _ _ _ _ z => z.elim⟩
    · rintro S' σ' H' ad' x hn h' ⟨rfl, e⟩
      subst e
      exact q .non H' (ad'.take cs.length) (ext_take x) (by rw [List.length_take]; omega) (h'.hc.take _) Rep.non
    · rintro s2 cs2 v H' ad' x hn c2 r2 ⟨rfl, rfl⟩
      exact q v H' ad' x hn c2 r2
end
/-! ### calls of such defs -/
section
variable {X : Cx} {T : Tab} {W : WX} {e : Expr} {es : List Expr} {pos p : Pos} {wA : WpA} {c : Ct} {k : Nat} {f : Addr} {fd : FuncData} {ps : List Str} {y : Str} {sp : Sp} {E : XK}
theorem run_g {C : CXT} {pins : List (Addr × Obj)} {σ : L2.St} {H : Hp} {s : Shared} {Q : VK} {us : List Value} {vs : List V} (F : FnG X.prog X.w X.K X.mg X.base C k f fd ps sp) (hG : X.A.guards = some []) (hr : Room k X.A) (hb : Binds X.K fd ps []) (hx : Passes C X E)
    (I : Inv X pins σ H s) (r : Vals vs us) (h : sp vs H Q E) : wpAny (model X.prog X.w) X.A (call (.ref f) us) (EP X pins σ Q) X.xe s := by
  have b := hb s us I.kIn (by rw [List.append_nil, ← r.length]; exact F.ln h)
  rw [List.append_nil] at b
  refine wpAny_call (codeAny_mono (F.go hG hr I.env0 b r h) fun z s' q => ?_)
  match z, q with
  | .error e, q => exact hx pins σ H s e s' I q
  | .ok (.ret u), q => exact I.after q
  | .ok .next, q => exact q.elim
  | .ok .brk, q => exact q.elim
  | .ok .cont, q => exact q.elim
theorem pe_callG {C : CXT} {t : TA} (F : FnG X.prog X.w X.K X.mg X.base C k f fd ps sp) (hG : X.A.guards = some []) (hr : Room k X.A) (hg : Gl X y) (hm : X.mg y = some (.ref f)) (hk : PySem.W.keepIn X.K (.ref f) = true) (hb : Binds X.K fd ps []) (hx : Passes C X E) (ha : PA X (e :: es) t)
    (hd : (y == ("__debug__" : Str)) = false) (he : starEach (e :: es) X.env = (false, eval e X.env) :: starEach es X.env) (hp : (backTo pos (starEach es X.env)).any (·.1) = false) : PE X (.Call (.Name y p) (e :: es) [] pos) (fun σ H Q => t σ H fun vs H1 => sp vs H1 Q E) := ⟨fun pins s σ H Q I h =>
  wpAny_Call_Name_kw (ld_glob I hg hm (PySem.W.callWith_K (h₀ := X.base) I.ok.mod.kin hk (thn (ha.run pos pins s σ H _ I h) fun us s1 ⟨vs, H1, I1, r, q⟩ => ⟨I1.kIn, run_g F hG hr hb hx I1 r q⟩) he hp) hd)⟩
theorem je_callG (G : FnG X.prog X.w X.K X.mg X.base CX0 k f fd ps (spC T X.K c)) (hG : X.A.guards = some []) (hr : Room k X.A) (hm : X.mg y = some (.ref f)) (hk : PySem.W.keepIn X.K (.ref f) = true) (hb : Binds X.K fd ps []) (ha : JA X T W (e :: es) wA) (hg : Gl X y := by rfl) (hdb : (y == ("__debug__" : Str)) = false := by decide)
    (he : starEach (e :: es) X.env = (false, eval e X.env) :: starEach es X.env := by rfl) (hpl : (backTo pos (starEach es X.env)).any (·.1) = false := by rfl) : JE X T W (.Call (.Name y p) (e :: es) [] pos) (wFn c wA) :=
  weak (pe_callG (E := E0) G hG hr hg hm hk hb pass0 ha hdb he hpl) fun σ H Q ⟨ad, F, sl, cs, R, Rx, h0, hw, q, qx⟩ => ⟨ad, F, sl, cs, _, Rx, h0, hw, fun ss c1 vs H1 ad1 hw1 x1 h1 r1 =>
    callW_then h1.hc r1 hw1 fun s c2 v H2 ad2 hR x2 h2 r2 => q s c2 v H2 ad2 hR (x1.trans h1.hc x2) (h1.to x2 h2) r2, qx⟩
end
/-! ### repr of data -/
section
variable {X : Cx} {T : Tab}
theorem call_reprD (hG : X.A.guards = some []) (hu : X.A.units + 64 < cLine) : CallR X (.builtin "repr") (fun xs H Q => ∃ v d, xs = [v] ∧ Dp X.K H v d ∧ PyProof.Rows.isDisplay d = true ∧ d.showable = true ∧ d.hasDict = false ∧ d.depth ≤ 60 ∧ d.shown.length ≤ sizeLine ∧ Q (.str d.shown) H) := by
  intro pins s σ H xs us Q I r h
  obtain ⟨v, d, rfl, hd, h1, h2, h3, h4, h5, q⟩ := h
  obtain ⟨u, rfl, ru⟩ := vals1 r
  obtain ⟨as, rd⟩ := Dp.reads I d v u hd ru
  obtain ⟨a, rfl⟩ := PyProof.Rows.isRef_of_reads rd h1
  exact repr_of_reads' rd h2 (PyData.noDict_hsm h3) hG (by omega) (fun _ _ z => z) (fun h' t tk hk => ⟨.str d.shown, H, I.kept hk, ⟨t, rfl⟩, q⟩) h5
def okR (d : D) : Bool := d.plain && d.py.showable && !d.py.hasDict && decide (d.py.depth ≤ 60)
def rprD (d : D) : Str := d.py.shown
theorem cb_reprD {d : D} {cs : List Cell} (hG : X.A.guards = some []) (hu : X.A.units + 64 < cLine) (hd : PyProof.Rows.isDisplay d.py = true) (ho : okR d = true) (hl : (rprD d).length ≤ sizeLine) : CalB X T "repr" [.dat d] cs (.dat (.str (rprD d))) cs := ⟨_, _, by decide +kernel, .inl ⟨_, rfl⟩, call_reprD hG hu, fun ad F H vs Q c r q => by
  match vs, r with
  | [v], r =>
    unfold okR at ho
    simp only [Bool.and_eq_true, Bool.not_eq_true', decide_eq_true_eq] at ho
    exact ⟨v, d.py, rfl, Rep.dp r.1 ho.1.1.1, hd, ho.1.1.2, ho.1.2, ho.2, hl, q _ H ad .refl c Rep.str⟩⟩
/-- repr of an int, a tuple, a list -/
def reprW : WC := fun ss cs R => match ss with
  | [.dat (.int i)] => i.natAbs.log2 < 1920 ∧ R (.dat (.str (toString i))) cs
  | [.dat (.tup ds)] => okR (.tup ds) = true ∧ (rprD (.tup ds)).length ≤ sizeLine ∧ R (.dat (.str (rprD (.tup ds)))) cs
  | [.dat (.lst ds)] => okR (.lst ds) = true ∧ (rprD (.lst ds)).length ≤ sizeLine ∧ R (.dat (.str (rprD (.lst ds)))) cs
  | _ => False
theorem jc_repr (hG : X.A.guards = some []) (hu : X.A.units + 64 < cLine) : JCall X T "repr" reprW := ⟨⟨.builtin "repr", by decide +kernel, .inl ⟨_, rfl⟩⟩, fun ss cs R h => by
  unfold reprW at h
  split at h
  · exact ⟨_, _, cb_reprI h.1, h.2⟩
  · exact ⟨_, _, cb_reprD hG hu rfl h.1 h.2.1, h.2.2⟩
  · exact ⟨_, _, cb_reprD hG hu rfl h.1 h.2.1, h.2.2⟩
  · exact h.elim⟩
end
end Dl

namespace Dl
open PySem L2 PySem.Spec PyProof.Rows
/-! ### the law's own call, where the law's def is one of those of J25 -/
section
variable {P : Program} {w : World} {K : PySem.W.Frag} {mg mb : Str → Option Value} {a : Addr} {s : Shared} {vs : List Value} {H : Hp}
/-- the abstract heap holds the script at most: the rest of the heap serves as the base -/
theorem top_env (KX : K.In s.heap) (n1 : s.heap.Ns mainGlobals mg) (n2 : s.heap.Ns builtinsNs mb) (n3 : ∀ x : Str, x ≠ "__name__" → mb x = bootBuiltins x) (n4 : s.heap.NoLimit) (n5 : s.gens = #[])
    (ha : s.heap.get? a = some { cls := .type "list", data := .seq vs.toArray }) (hok : HOk P w H s.heap) (one : ∀ b, b = a ∨ H b = none) (out : H a = none ∨ K.lookup a = none) :
    ∃ base : Heap, K.In base ∧ base.Ns mainGlobals mg ∧ Env0 P w K mg base callerA [] s H := by
  have ns : ∀ {b : Addr} {m : Str → Option Value}, s.heap.Ns b m → (hidT s.heap H).Ns b m := by
    rintro b m ⟨o, es, ep, e, d, r⟩
    refine ⟨o, es, ep, hidT_get e ((one b).resolve_left fun z => ?_), d, r⟩
    rw [z, ha] at e
    cases e
    exact nomatch (show Data.seq vs.toArray _ = Data.dict es ep from d)
  have kin : K.In (hidT s.heap H) := by
    intro b o e
    refine hidT_get (KX b o e) ?_
    rcases one b with z | z
    · rw [z] at e ⊢
      exact out.resolve_right fun y => by rw [y] at e; cases e
    · exact z
  obtain ⟨mc, l1, l2⟩ := n4
  exact ⟨_, kin, ns n1, rfl, ⟨kin, ns n1, ⟨mb, ns n2, n3⟩, ⟨mc, ns l1, l2⟩⟩, fun _ _ e => of_hidT e, Nat.le_of_eq (hidT_size _ _), trivial, (fun _ z => nomatch z), hok, .of_eq n5⟩
/-- what the law's end says of the heap -/
theorem top_end {s' : Shared} {r : Result} {E : XK} (only : Only H) (hok : HOk P w H s.heap) (h : CR CX0 [] P w H s (fun v _ => v = .bl true) E r s') : r = .ok (.ret (.bool true)) ∧ OldK s.heap s'.heap ∧ s'.os = s.os ∧ AllBare s'.gens := by
  match r, h with
  | .error _, z => exact False.elim z
  | .ok .next, z => exact z.elim
  | .ok .brk, z => exact z.elim
  | .ok .cont, z => exact z.elim
  | .ok (.ret u), ⟨v, H', h1, h2, un, hok', rv, q⟩ =>
    cases (show v = .bl true from q)
    cases (show u = Value.bool true from rv)
    refine ⟨rfl, OldK.of_keep fun b o e => ?_, h1, h2⟩
    rcases only b with z | ⟨ob, xs, z⟩
    · exact un.keep b o e z (fun y => nomatch y) (fun y => nomatch y)
    · have e1 := (hok b _ z).1
      rw [e] at e1
      rw [(hok' b _ (un.frzs b ob _ z)).1, e1]
theorem law_g {k : Nat} {fa : Addr} {fd : FuncData} {x : Str} {sp : Sp} {is : List Int} (KX : K.In s.heap) (n1 : s.heap.Ns mainGlobals mg) (n2 : s.heap.Ns builtinsNs mb) (n3 : ∀ x : Str, x ≠ "__name__" → mb x = bootBuiltins x) (n4 : s.heap.NoLimit) (n5 : s.gens = #[])
    (ha : s.heap.get? a = some { cls := .type "list", data := .seq vs.toArray }) (hi : IntsAre vs is) (hl : is.length ≤ sizeLine) (hr : Room k callerA) (F : ∀ base : Heap, K.In base → base.Ns mainGlobals mg → FnG P w K mg base CX0 k fa fd [x] sp)
    (hb : ∀ (s : Shared) (u : Value), BindsTo s fd ⟨[u], []⟩ [(x, u)]) (hs : ∀ H : Hp, Only H → SqL K H a (is.map V.int) → sp [.ref a] H (fun v _ => v = .bl true) fun _ _ _ => False) :
    codeAny (model P w) callerA (.call (.ref fa) ⟨[.ref a], []⟩) (fun r s' => r = .ok (.ret (.bool true)) ∧ OldK s.heap s'.heap ∧ s'.os = s.os ∧ AllBare s'.gens) s := by
  have fin : ∀ H : Hp, Only H → SqL K H a (is.map V.int) → HOk P w H s.heap → (∀ b, b = a ∨ H b = none) → (H a = none ∨ K.lookup a = none) → codeAny (model P w) callerA (.call (.ref fa) ⟨[.ref a], []⟩) (fun r s' => r = .ok (.ret (.bool true)) ∧ OldK s.heap s'.heap ∧ s'.os = s.os ∧ AllBare s'.gens) s := fun H o1 o2 o3 o4 o5 => by
    obtain ⟨base, b1, b2, b3⟩ := top_env KX n1 n2 n3 n4 n5 ha o3 o4 o5
    exact codeAny_mono ((F base b1 b2).go (us := [.ref a]) (vs := [.ref a]) rfl hr b3 (hb s (.ref a)) (.cons rfl .nil) (hs H o1 o2)) fun r s' z => top_end o1 o3 z
  have rv := vals_ints hi
  cases hk : K.lookup a with
  | some o =>
    have e := KX a o hk
    rw [ha] at e
    cases e
    exact fin (fun _ => none) (fun _ => .inl rfl) (.inr ⟨_, vs.toArray, _, hk, rfl, rfl, rfl, by rw [List.size_toArray, hi.length]; exact hl, by simpa using rv⟩) (fun _ _ z => nomatch (show (none : Option HO) = some _ from z)) (fun _ => .inr rfl) (.inl rfl)
  | none =>
    let H1 : Hp := upd (fun _ => none) a (.frz { cls := .type "list", data := .seq vs.toArray } (.lst (is.map V.int)))
    have no : ∀ b, b ≠ a → H1 b = none := fun b hb => upd_ne hb
    refine fin H1 (fun b => ?_) (.inl (.inr ⟨_, upd_same⟩)) (fun b u z => ?_) (fun b => ?_) (.inr hk)
    · rcases Classical.em (b = a) with h | h
      · exact .inr ⟨_, _, by rw [h]; exact upd_same⟩
      · exact .inl (no b h)
    · rcases Classical.em (b = a) with h | h
      · subst h
        have z' : some _ = some u := upd_same.symm.trans z
        cases z'
        exact ⟨ha, by rw [List.length_map]; exact hl, vs, _, rv, ha⟩
      · rw [no b h] at z
        cases z
    · rcases Classical.em (b = a) with h | h
      · exact .inl h
      · exact .inr (no b h)
end
theorem walk_g {l : PySem.W.OpenLaw} {n k : Nat} {q : Program} {loose : List Str} {XP : (Str → Option Value) → Heap → Prop} {YP : World → Heap → Prop} {d : DefRec} {K : Params → PySem.W.Frag} {sp : World → Sp} {x : Str} (hn : l.most = some n) (hn2 : n ≤ sizeLine) (hdf : d.params.defaults = [])
    (hr : Room k callerA) (hY : ∀ (w : World) (h : Heap), YP w h → (K w.params).In h)
    (F : ∀ (w : World) (mg : Str → Option Value) (fa : Addr) (h : Heap), (K w.params).In h → h.Ns mainGlobals mg → mg d.name = some (.ref fa) → ∃ fd : FuncData, (∀ (s : Shared) (u : Value), BindsTo s fd ⟨[u], []⟩ [(x, u)]) ∧ ∀ base : Heap, (K w.params).In base → base.Ns mainGlobals mg → FnG l.prog w (K w.params) mg base CX0 k fa fd [x] (sp w))
    (hs : ∀ (w : World) (H : Hp) (a : Addr) (ns : List Int), ns.length ≤ n → (∀ z ∈ ns, Builtin.Int.intBits z ≤ 1048576) → Only H → SqL (K w.params) H a (ns.map V.int) → sp w [.ref a] H (fun v _ => v = .bl true) fun _ _ _ => False) :
    PySem.W.WalkO q loose XP YP l.row.toRowW d [] (fun f vs => PySem.call f vs) :=
  Att.attach_callB hn hdf fun w s₀ s₁ mg mb fa o pm cd doc a vs ns G Y ho hd hcd hmg h1 h2 h3 h4 h5 => by
    obtain ⟨fd, hb, hF⟩ := F w mg fa _ (hY w _ Y) G.T.g hmg
    exact law_g (hY w _ Y) G.T.g G.T.b G.T.builtins G.T.nolimit h5 h1 h2 (Nat.le_trans h3 hn2) hr hF hb fun H hO hS => hs w H a ns h3 h4 hO hS
end Dl

namespace Dl
open PySem L2
/-! ### bool(x) -/
section
variable {prog : Program} {w : World} {A : Around} {E : Value → Shared → Prop} {s : Shared}
theorem call_boolT {x : Value} {Q : Value → Shared → Prop} (h : wpAny (model prog w) A.in1.in1 (truthy x) (fun b s' => Q (.bool b) s') E s) : wpAny (model prog w) A (call (.type "bool") [x]) Q E s :=
  PySem.callType_newIn F.called_bool F.newNe_bool (F.typeCall_bool_1 x) (F.newCall_bool_1 x) (fun obj => F.args_object_init_2 obj x) F.entry_bool_new
    (S := fun A R s => wpAny (model prog w) A.in1 (truthy x) (fun b s' => R (.ok (.ret (.bool b))) s') (fun e s' => R (.error e) s') s)
    (MeetsIn.of_wp fun A R s hs => by
      have f1 := F.conv_sub_bool
      repeat (any_goals (first | assumption | (with_reducible refine wpAny_mono hs (fun b s' hb => ?_) fun e s' he => ?_) | wp_step))
      all_goals first | exact ⟨_, rfl, hb⟩ | exact hb | exact he | skip)
    (wpAny_mono h (fun b s' hq => ⟨rfl, hq⟩) fun _ _ z => z)
end
section
variable {X : Cx} {T : Tab} {C g : Addr} {fd : FuncData} {ps : List Str} {k cn : Nat} {c : Ct} {fn : List Str} {ds : List D} {d : D} {cs : List Cell}
theorem run_in2 {pins : List (Addr × Obj)} {σ : St} {H : Hp} {s : Shared} {Q : VK} {us : List Value} {vs : List V} {sp : Sp} (F : FnOk X.prog X.w X.K X.mg X.base CX0 k g fd ps sp) (hr : Room (k + 2) X.A) (hb : Binds X.K fd ps [])
    (I : Inv X pins σ H s) (r : Vals vs us) (h : sp vs H Q E0) : wpAny (model X.prog X.w) X.A.in1.in1 (call (.ref g) us) (EP X pins σ Q) X.xe s := by
  have b := hb s us I.kIn (by rw [List.append_nil, ← r.length]; exact F.len _ _ _ _ h)
  rw [List.append_nil] at b
  have e := I.env0
  refine wpAny_call (codeAny_mono (F.run X.A.in1.in1 X.stack s H ⟨us, []⟩ us vs Q E0 hr.in1.in1 ⟨e.frames, e.mod, e.bs, e.bsz, e.funs, e.frf, e.hok, e.bare⟩ b r h) fun r s' hq => ?_)
  match r, hq with
  | .error _, q => exact False.elim q
  | .ok (.ret u), q => exact I.after q
  | .ok .next, q => exact q.elim
  | .ok .brk, q => exact q.elim
  | .ok .cont, q => exact q.elim
/-- x.__bool__() within a test, two units deeper or none -/
theorem tru_in2 {sp : Sp} (G : FnOk X.prog X.w X.K X.mg X.base CX0 k g fd ps sp) (hr : Room (k + 2) X.A) (hb : Binds X.K fd ps []) (hs : PySem.W.findIn X.K (.ref C) "__bool__" = some (some (.ref g))) (hf : PySem.W.isFn X.K (.ref g) = true) :
    CallR X (.type "bool") (fun xs H Q => ∃ a dx fs, xs = [.ref a] ∧ H a = some (.ins C dx fs) ∧ sp [.ref a] H (fun v H' => ∃ b, v = .bl b ∧ Q (.bl b) H') E0) := by
  intro pins s σ H xs us Q I r h
  obtain ⟨a, dx, fs, rfl, ea, hsp⟩ := h
  obtain ⟨u, rfl, ru⟩ := vals1 r
  cases (show u = Value.ref a from ru)
  obtain ⟨od, J⟩ := inst_get I ea
  obtain ⟨m, hF⟩ := I.fr
  refine call_boolT (PySem.W.truthy_K hF I.ok.mod.kin J hs hf (thn (run_in2 (us := [.ref a]) (vs := [.ref a]) G hr hb I (.cons rfl .nil) hsp) fun u s' z => ?_))
  obtain ⟨v, H', I', r, b, rfl, q⟩ := z
  cases (show u = Value.bool b from r)
  exact ⟨.bl b, H', I', rfl, q⟩
theorem call_boolTup : CallR X (.type "bool") (fun xs H Q => ∃ a zs, xs = [.ref a] ∧ SqT X.K H a zs ∧ Q (.bl (!zs.isEmpty)) H) := by
  intro pins s σ H xs us Q I r h
  obtain ⟨a, zs, rfl, hx, q⟩ := h
  obtain ⟨u, rfl, ru⟩ := vals1 r
  cases (show u = Value.ref a from ru)
  obtain ⟨its, r, pl, hz⟩ := I.tuple hx
  have hl := line63
  have hn := r.length
  exact call_boolT (PyProof.Rows.truthy_tuple pl (by simp only [List.size_toArray]; omega) ⟨.bl _, H, I.tok _, rfl, by rw [isEmpty_of r]; exact q⟩)
theorem cb_boolTup : CalB X T "bool" [.dat (.tup ds)] cs (.dat (.bl (!ds.isEmpty))) cs := ⟨_, _, by decide +kernel, .inr ⟨_, rfl⟩, call_boolTup, fun ad F H vs Q cc r q => by
  match vs, r with
  | [v], r =>
    have r1 := r.1
    cases r1 with
    | @tup a vs _ e1 q1 =>
      have e : vs.isEmpty = ds.isEmpty := by cases q1 <;> rfl
      exact ⟨a, vs, rfl, e1.sq, by rw [e]; exact q _ H ad .refl cc Rep.bl⟩⟩
theorem cb_boolO (hT : T cn = some (C, fn)) (G : FnOk X.prog X.w X.K X.mg X.base CX0 k g fd ps (spC T X.K c)) (hr : Room (k + 2) X.A) (hb : Binds X.K fd ps []) (hs : PySem.W.findIn X.K (.ref C) "__bool__" = some (some (.ref g))) (hf : PySem.W.isFn X.K (.ref g) = true) {b : Bool} (hq : c [.dat (.obj cn ds)] [] (.dat (.bl b)) []) :
    CalB X T "bool" [.dat (.obj cn ds)] cs (.dat (.bl b)) cs := ⟨_, _, by decide +kernel, .inr ⟨_, rfl⟩, tru_in2 G hr hb hs hf, fun ad F H vs Q cc r q => by
  match vs, r with
  | [v], r =>
    have r1 := r.1
    cases r1 with
    | @obj a C' dx _ fn' vs' _ ht na e1 hl r2 =>
      rw [hT] at ht
      cases ht
      refine ⟨a, dx, _, rfl, e1, spC0 (ds := [.obj cn ds]) hq cc ⟨r.1, trivial⟩ fun v H' x2 c2 r2 => ?_⟩
      cases r2
      exact ⟨b, rfl, q _ H' ad x2 c2 Rep.bl⟩⟩
def boolW2 : WC := fun ss cs R => match ss with
  | [.dat (.bl k)] => R (.dat (.bl k)) cs
  | [.dat (.tup ds)] => R (.dat (.bl (!ds.isEmpty))) cs
  | _ => False
theorem jc_bool2 : JCall X T "bool" boolW2 := ⟨⟨.type "bool", by decide +kernel, .inr ⟨_, rfl⟩⟩, fun ss cs R h => by
  unfold boolW2 at h
  split at h
  · exact ⟨_, _, cb_boolB, h⟩
  · exact ⟨_, _, cb_boolTup, h⟩
  · exact h.elim⟩
def boolOW (cn : Nat) (c : Ct) : WC := fun ss cs R => match ss with
  | [s] => match isO cn s with
    | true => ∃ b, c [s] [] (.dat (.bl b)) [] ∧ R (.dat (.bl b)) cs
    | false => boolW2 ss cs R
  | _ => False
theorem jc_boolO (hT : T cn = some (C, fn)) (G : FnOk X.prog X.w X.K X.mg X.base CX0 k g fd ps (spC T X.K c)) (hr : Room (k + 2) X.A) (hb : Binds X.K fd ps []) (hs : PySem.W.findIn X.K (.ref C) "__bool__" = some (some (.ref g))) (hf : PySem.W.isFn X.K (.ref g) = true) : JCall X T "bool" (boolOW cn c) := ⟨⟨.type "bool", by decide +kernel, .inr ⟨_, rfl⟩⟩, fun ss cs R h => by
  unfold boolOW at h
  split at h
  · split at h
    · obtain ⟨ds, rfl⟩ := isO_of ‹_›
      obtain ⟨b, hq, hR⟩ := h
      exact ⟨_, _, cb_boolO hT G hr hb hs hf hq, hR⟩
    · exact jc_bool2.run _ _ _ h
  · exact h.elim⟩
end
end Dl

namespace Dl
open PySem L2
/-! ### C(k = v, ..): no argument by its place -/
section
variable {X : Cx} {T : Tab} {W : WX} {kws : List Keyword} {pos p : Pos} {wK : WpA} {c : Ct} {k : Nat} {fd : FuncData} {ps ks : List Str} {y : Str} {C g : Addr} {fn : List Str} {cn : Nat} {gV : List V → List V → List V} {fu : List D → List D → List D}
theorem je_makeK0 (hT : T cn = some (C, fn)) (M : Mk X.K C g) (G : FnOk X.prog X.w X.K X.mg X.base CX0 k g fd ps (spC T X.K c)) (hr : Room (k + 1) X.A) (hm : X.mg y = some (.ref C)) (hb : ∃ gg, KBn X.K fd ps 1 ks gg gV)
    (hp : ∀ vs zs : List D, vs.length = 0 → zs.length = ks.length → Put X.K gV vs zs (fu vs zs)) (hkw : JK X T W kws wK) (hg : Gl X y := by rfl)
    (hall : (backToKw pos (keywordEach kws X.env)).all (·.1.isSome) = true := by rfl) (hks : (backToKw pos (keywordEach kws X.env)).filterMap (·.1) = ks := by rfl) (hdb : (y == ("__debug__" : Str)) = false := by decide)
    (hpl : ((backTo pos (starEach [] X.env)).any (·.1) || (backToKw pos (keywordEach kws X.env)).any (·.1.isNone)) = false := by rfl) : JE X T W (.Call (.Name y p) [] kws pos) (wMakeK cn fn c 0 ks.length fu wNil wK) := by
  obtain ⟨gg, hb⟩ := hb
  exact weak (pe_makeK0 M G hr hg hm hb pass0 hkw hall hks hdb hpl) fun σ H Q ⟨ad, F, sl, cs, R, Rx, h0, hw, q, qx⟩ => ⟨ad, F, sl, cs, _, Rx, h0, hw, fun zz c2 zs H2 ad2 hw2 x2 h2 r2 => by
    obtain ⟨kargs, rfl, l1, l2, ds, hq, hl, hR⟩ := wDats_of hw2
    have w2 := r2.dats
    refine ⟨rfl, by rw [w2.length]; exact l2, fun x dx hx hdx ne => ?_⟩
    obtain ⟨us, e1, e2⟩ := hp [] kargs rfl l2 (.ref x) [] zs rfl w2.length
    rw [e1]
    exact mk_then hT h2.hc (e2 _ _ _ .nil w2) hx hdx ne hq hl fun H' x3 c3 r3 => q _ c2 (.ref x) H' ad2 hR (x2.trans h2.hc x3) (h2.to x3 c3) r3, qx⟩
end
end Dl

namespace Dl
open PySem L2
/-! ### how long a repr is -/
mutual
def wtD : D → Nat
  | .int i => i.natAbs.log2 + 3
  | .tup xs => wtDs xs + 3
  | .lst xs => wtDs xs + 3
  | .scr xs => wtDs xs + 3
  | .str x => (PySem.reprText x).length
  | _ => 5
def wtDs : List D → Nat
  | [] => 0
  | x :: xs => wtD x + 2 + wtDs xs
end
theorem lenText (i : Int) : (Str.ofString (toString i)).length ≤ i.natAbs.log2 + 3 := by
  have pos : ∀ v : Int, 0 ≤ v → (Str.ofString (toString v)).length ≤ v.natAbs.log2 + 1 := fun v hv => by
    refine PyProof.Rows.toString_length_le hv (Nat.succ_pos _) ?_
    have h1 : v.natAbs < 2 ^ (v.natAbs.log2 + 1) := Nat.lt_log2_self
    have h2 : 2 ^ (v.natAbs.log2 + 1) ≤ 10 ^ (v.natAbs.log2 + 1) := Nat.pow_le_pow_left (by decide) _
    have h3 : v.natAbs < 10 ^ (v.natAbs.log2 + 1) := Nat.lt_of_lt_of_le h1 h2
    have h4 : ((v.natAbs : Nat) : Int) < ((10 ^ (v.natAbs.log2 + 1) : Nat) : Int) := Int.ofNat_lt.mpr h3
    rw [Int.natCast_pow] at h4
    have h5 : ((v.natAbs : Nat) : Int) = v := by omega
    rw [h5] at h4
    exact h4
  rcases Int.lt_or_le i 0 with h | h
  · have := pos (0 - i) (by omega)
    rw [PyProof.Rows.len_text_neg h]
    have e : (0 - i).natAbs = i.natAbs := by omega
    rw [e] at this
    omega
  · have := pos i h
    omega
theorem piled_cons (t : Str) (ts : List Str) : PySem.piled (t :: ts) = t.length + 2 + PySem.piled ts := by simp [PySem.piled]
theorem textFrom_le : ∀ (ts : List Str) (k : Nat) (acc : Str), (PySem.textFrom k acc ts).length ≤ acc.length + PySem.piled ts
  | [], k, acc => by simp [PySem.textFrom]
  | t :: ts, k, acc => by
    have h := textFrom_le ts (k + 1) (acc ++ (if k > 0 then ", " else "" : String) ++ t)
    have e1 : (Str.ofString ", ").length = 2 := by decide
    have e2 : (Str.ofString "").length = 0 := by decide
    rw [piled_cons]
    refine Nat.le_trans h ?_
    have e3 : (acc ++ Str.ofString (if k > 0 then ", " else "" : String) ++ t).length ≤ acc.length + 2 + t.length := by
      rw [Str.length_append, Str.length_append]
      split <;> omega
    have e3' : (acc ++ (if k > 0 then ", " else "" : String) ++ t).length ≤ acc.length + 2 + t.length := e3
    omega
mutual
theorem shown_wt : ∀ d : D, d.py.shown.length ≤ wtD d
  | .non => by decide
  | .bl true => by decide
  | .bl false => by decide
  | .int i => lenText i
  | .str x => Nat.le_refl _
  | .tup xs => by
    have h := showns_wt xs
    have e1 : (Str.ofString "(").length = 1 := by decide
    have e2 : (Str.ofString ",)").length = 2 := by decide
    have e3 : (Str.ofString ")").length = 1 := by decide
    show (PySem.tupleText (PyData.shownAll (D.pys xs))).length ≤ wtDs xs + 3
    cases hx : PyData.shownAll (D.pys xs) with
    | nil => show (PySem.tupleText []).length ≤ _; exact Nat.le_trans (by decide : (PySem.tupleText []).length ≤ 3) (by omega)
    | cons t ts =>
      have hj := PySem.join_length_add (t :: ts) (by simp)
      rw [hx] at h
      unfold PySem.tupleText
      have e4 : (Str.ofString (if (t :: ts).length == 1 then ",)" else ")" : String)).length ≤ 2 := by split <;> omega
      have e5 : (Str.ofString "(" ++ Str.join (Str.ofString ", ") (t :: ts) ++ Str.ofString (if (t :: ts).length == 1 then ",)" else ")" : String)).length ≤ wtDs xs + 3 := by
        rw [Str.length_append, Str.length_append]
        have hj' : (Str.join (Str.ofString ", ") (t :: ts)).length + 2 = PySem.piled (t :: ts) := hj
        omega
      exact e5
  | .lst xs => by
    have h := showns_wt xs
    have h2 := textFrom_le (PyData.shownAll (D.pys xs)) 0 (Str.ofString "[")
    have e1 : (Str.ofString "[").length = 1 := by decide
    have e2 : (Str.ofString "]").length = 1 := by decide
    have e3 : (PySem.textFrom 0 (Str.ofString "[") (PyData.shownAll (D.pys xs)) ++ Str.ofString "]").length ≤ wtDs xs + 3 := by
      rw [Str.length_append]
      omega
    exact e3
  | .scr xs => by
    have h := showns_wt xs
    have h2 := textFrom_le (PyData.shownAll (D.pys xs)) 0 (Str.ofString "[")
    have e1 : (Str.ofString "[").length = 1 := by decide
    have e2 : (Str.ofString "]").length = 1 := by decide
    have e3 : (PySem.textFrom 0 (Str.ofString "[") (PyData.shownAll (D.pys xs)) ++ Str.ofString "]").length ≤ wtDs xs + 3 := by
      rw [Str.length_append]
      omega
    exact e3
  | .obj _ _ => by show (PyData.shown .none).length ≤ 5; decide
  | .err _ _ _ _ => by show (PyData.shown .none).length ≤ 5; decide
  | .cls _ => by show (PyData.shown .none).length ≤ 5; decide
  | .dct _ _ => by show (PyData.shown .none).length ≤ 5; decide
theorem showns_wt : ∀ ds : List D, PySem.piled (PyData.shownAll (D.pys ds)) ≤ wtDs ds
  | [] => Nat.le_refl _
  | d :: ds => by
    have h1 := shown_wt d
    have h2 := showns_wt ds
    show PySem.piled (d.py.shown :: PyData.shownAll (D.pys ds)) ≤ wtD d + 2 + wtDs ds
    rw [piled_cons]
    omega
end
/-- data whose repr is told: depth at most k, length at most w -/
structure RN (k w : Nat) (d : D) : Prop where
  pl : d.plain = true
  sh : d.py.showable = true
  nd : d.py.hasDict = false
  dp : d.py.depth ≤ k
  wt : wtD d ≤ w
theorem RN.mono {k k' w w' : Nat} {d : D} (h : RN k w d) (hk : k ≤ k') (hw : w ≤ w') : RN k' w' d := ⟨h.pl, h.sh, h.nd, Nat.le_trans h.dp hk, Nat.le_trans h.wt hw⟩
theorem RN.int {i : Int} {n : Nat} (h : i.natAbs < 2 ^ n) (hn : n ≤ 1920) : RN 0 (n + 3) (.int i) := by
  have hl : i.natAbs.log2 < n ∨ i.natAbs = 0 := by
    rcases Nat.eq_zero_or_pos i.natAbs with z | z
    · exact .inr z
    · exact .inl ((Nat.log2_lt (by omega)).mpr h)
  have hl' : i.natAbs.log2 ≤ n ∧ i.natAbs.log2 < 1920 := by
    rcases hl with z | z
    · omega
    · rw [z]; exact ⟨Nat.zero_le _, by decide⟩
  exact ⟨rfl, decide_eq_true hl'.2, rfl, Nat.le_refl _, Nat.add_le_add_right hl'.1 3⟩
theorem rns {k w : Nat} : ∀ {xs : List D}, (∀ d ∈ xs, RN k w d) → D.plains xs = true ∧ PyData.showableAll (D.pys xs) = true ∧ PyData.hasDictAll (D.pys xs) = false ∧ PyData.depthAll (D.pys xs) ≤ k ∧ wtDs xs ≤ xs.length * (w + 2)
  | [], _ => ⟨rfl, rfl, rfl, Nat.zero_le _, Nat.zero_le _⟩
  | x :: xs, h => by
    obtain ⟨h1, h2, h3, h4, h5⟩ := rns (xs := xs) fun d hd => h d (List.mem_cons_of_mem _ hd)
    have hx := h x List.mem_cons_self
    refine ⟨?_, ?_, ?_, ?_, ?_⟩
    · show (x.plain && D.plains xs) = true
      rw [hx.pl, h1]; rfl
    · show (x.py.showable && PyData.showableAll (D.pys xs)) = true
      rw [hx.sh, h2]; rfl
    · show (x.py.hasDict || PyData.hasDictAll (D.pys xs)) = false
      rw [hx.nd, h3]; rfl
    · show max x.py.depth (PyData.depthAll (D.pys xs)) ≤ k
      exact Nat.max_le.mpr ⟨hx.dp, h4⟩
    · show wtD x + 2 + wtDs xs ≤ (xs.length + 1) * (w + 2)
      have := hx.wt
      rw [Nat.add_mul]
      omega
theorem RN.tup {k w m : Nat} {xs : List D} (h : ∀ d ∈ xs, RN k w d) (hm : xs.length ≤ m) : RN (k + 1) (m * (w + 2) + 3) (.tup xs) := by
  obtain ⟨h1, h2, h3, h4, h5⟩ := rns h
  exact ⟨h1, h2, h3, Nat.add_le_add_right h4 1, Nat.add_le_add_right (Nat.le_trans h5 (Nat.mul_le_mul_right _ hm)) 3⟩
theorem RN.lst {k w m : Nat} {xs : List D} (h : ∀ d ∈ xs, RN k w d) (hm : xs.length ≤ m) : RN (k + 1) (m * (w + 2) + 3) (.lst xs) := by
  obtain ⟨h1, h2, h3, h4, h5⟩ := rns h
  exact ⟨h1, h2, h3, Nat.add_le_add_right h4 1, Nat.add_le_add_right (Nat.le_trans h5 (Nat.mul_le_mul_right _ hm)) 3⟩
theorem RN.ok {k w : Nat} {d : D} (h : RN k w d) (hk : k ≤ 60) : okR d = true := by
  have := h.dp
  unfold okR
  rw [h.pl, h.sh, h.nd, decide_eq_true (show d.py.depth ≤ 60 by omega)]
  rfl
theorem RN.len {k w : Nat} {d : D} (h : RN k w d) (hw : w ≤ 16777216) : (rprD d).length ≤ sizeLine := Nat.le_trans (shown_wt d) (Nat.le_trans h.wt hw)
end Dl

namespace Dl
open PySem L2
/-! ### a thing is locked for good -/
section
variable {X : Cx}
theorem pe_lockV {e : Expr} {t : TE} (h : PE X e t) : PE X e (fun σ H Q => t σ H fun x H1 => ∃ d u, x = .ref d ∧ H1 d = some u ∧ Mut (some u) ∧ ∀ od, Q x (upd H1 d (.frz od u))) := ⟨fun pins s σ H Q I hw => thn (h.run pins s σ H _ I hw) fun v s1 ⟨x, H1, I1, r, d, u, ex, hd, mu, q⟩ => by
  obtain ⟨od, I2⟩ := I1.lock hd mu
  exact ⟨x, _, I2, r, q od⟩⟩
theorem pss_lockV {sts : List Stmt} {t : TS} (h : PSs X sts t) : PSs X sts (fun D σ H => ∃ d u, H d = some u ∧ Mut (some u) ∧ ∀ od, t D σ (upd H d (.frz od u))) := ⟨fun pins s σ H D I ⟨d, u, hd, mu, hw⟩ => by
  obtain ⟨od, I2⟩ := I.lock hd mu
  exact h.run pins s σ _ D I2 (hw od)⟩
end
/-! ### tables as data -/
section
variable {T : Tab} {K : PySem.W.Frag} {M M' : Addr → Prop} {H H' : Hp} {kvs kvs2 : List (Key × V)} {kds kds2 : List (Key × D)} {k : Key} {v : V} {d : D}
def KR (T : Tab) (K : PySem.W.Frag) (M : Addr → Prop) (H : Hp) (kvs : List (Key × V)) (kds : List (Key × D)) : Prop := kvs.map (·.1) = kds.map (·.1) ∧ Reps T K M H (kvs.map (·.2)) (kds.map (·.2))
theorem KR.kp (x : Kp M H M' H') (h : KR T K M H kvs kds) : KR T K M' H' kvs kds := ⟨h.1, h.2.kp x⟩
def hasK (kds : List (Key × D)) (k : Key) : Bool := kds.any fun p => decide (p.1 = k)
def getK (kds : List (Key × D)) (k : Key) : Option D := (kds.find? fun p => decide (p.1 = k)).map (·.2)
def putD (kds : List (Key × D)) (k : Key) (d : D) : List (Key × D) := if hasK kds k = true then kds.map (fun p => if p.1 = k then (p.1, d) else p) else kds ++ [(k, d)]
theorem KR.nil : KR T K M H [] [] := ⟨rfl, .nil⟩
theorem KR.inv {p : Key × V} (h : KR T K M H (p :: kvs) kds) : ∃ d r, kds = (p.1, d) :: r ∧ Rep T K M H p.2 d ∧ KR T K M H kvs r := by
  obtain ⟨h1, h2⟩ := h
  match kds, h1, h2 with
  | (j, d) :: r, h1, .cons a b =>
    have e : p.1 = j ∧ kvs.map (·.1) = r.map (·.1) := by simpa using h1
    exact ⟨d, r, by rw [e.1], a, e.2, b⟩
theorem KR.inv0 (h : KR T K M H [] kds) : kds = [] := by
  obtain ⟨h1, _⟩ := h
  cases kds with
  | nil => rfl
  | cons p r => cases h1
theorem KR.cons (r : Rep T K M H v d) (h : KR T K M H kvs kds) : KR T K M H ((k, v) :: kvs) ((k, d) :: kds) := ⟨by rw [List.map_cons, List.map_cons, h.1], .cons r h.2⟩
theorem KR.app (h : KR T K M H kvs kds) (h2 : KR T K M H kvs2 kds2) : KR T K M H (kvs ++ kvs2) (kds ++ kds2) := ⟨by rw [List.map_append, List.map_append, h.1, h2.1], by rw [List.map_append, List.map_append]; exact h.2.append h2.2⟩
theorem KR.len (h : KR T K M H kvs kds) : kvs.length = kds.length := by have := h.2.length; rw [List.length_map, List.length_map] at this; exact this
theorem KR.any (h : KR T K M H kvs kds) : (kvs.any fun p => decide (p.1 = k)) = hasK kds k := by
  have e1 : (kvs.any fun p => decide (p.1 = k)) = (kvs.map (·.1)).any fun j => decide (j = k) := by rw [List.any_map]; rfl
  have e2 : hasK kds k = (kds.map (·.1)).any fun j => decide (j = k) := by unfold hasK; rw [List.any_map]; rfl
  rw [e1, e2, h.1]
theorem KR.rep (r : Rep T K M H v d) : ∀ {kvs : List (Key × V)} {kds : List (Key × D)}, KR T K M H kvs kds → KR T K M H (kvs.map fun p => if p.1 = k then (p.1, v) else p) (kds.map fun p => if p.1 = k then (p.1, d) else p)
  | [], kds, h => by cases h.inv0; exact .nil
  | p :: kvs, kds, h => by
    obtain ⟨d', r', rfl, a, b⟩ := h.inv
    rw [List.map_cons, List.map_cons]
    by_cases e : p.1 = k
    · rw [if_pos e, if_pos (show ((p.1, d') : Key × D).1 = k from e)]
      exact .cons r (KR.rep r b)
    · rw [if_neg e, if_neg (show ¬ ((p.1, d') : Key × D).1 = k from e)]
      exact .cons (k := p.1) (v := p.2) a (KR.rep r b)
theorem KR.put (r : Rep T K M H v d) (h : KR T K M H kvs kds) : KR T K M H (putK kvs k v) (putD kds k d) := by
  unfold putK putD
  rw [h.any]
  split
  · exact h.rep r
  · exact h.app (.cons r .nil)
theorem KR.val : ∀ {kvs : List (Key × V)} {kds : List (Key × D)}, KR T K M H kvs kds → (getK kds k = none → valV kvs k = none) ∧ ∀ d, getK kds k = some d → ∃ v, valV kvs k = some v ∧ Rep T K M H v d
  | [], kds, h => by cases h.inv0; exact ⟨fun _ => rfl, fun d z => nomatch z⟩
  | p :: kvs, kds, h => by
    obtain ⟨d', r', rfl, a, b⟩ := h.inv
    obtain ⟨i1, i2⟩ := KR.val b
    by_cases e : p.1 = k
    · have g : getK ((p.1, d') :: r') k = some d' := by simp [getK, List.find?_cons, e]
      rw [g]
      exact ⟨(fun z => nomatch z), fun d z => by cases z; exact ⟨p.2, valV_pos e, a⟩⟩
    · have g : getK ((p.1, d') :: r') k = getK r' k := by simp [getK, List.find?_cons, e]
      rw [g, valV_neg e]
      exact ⟨i1, i2⟩
theorem getK_has (kds : List (Key × D)) (k : Key) : (getK kds k).isSome = hasK kds k := by
  induction kds with
  | nil => rfl
  | cons p r ih =>
    by_cases e : p.1 = k
    · simp [getK, hasK, e]
    · simp only [getK, hasK, List.find?_cons, List.any_cons, decide_eq_false e, Bool.false_or]
      exact ih
theorem KR.some (h : KR T K M H kvs kds) : (valV kvs k).isSome = hasK kds k := by rw [← valV_any, h.any]
def keyD : D → Option Key
  | .int i => some (.inl i)
  | .str x => some (.inr x)
  | _ => none
theorem key_rep (r : Rep T K M H v d) (h : keyD d = some k) : v = kV k := by
  cases r <;> first | (cases h; rfl) | exact nomatch h
abbrev dctD (kds : List (Key × D)) : D := .dct (kds.map (·.1)) (kds.map (·.2))
/-- a dict that is only read, or a cell -/
def kdOf (cs : List Cell) : Sl → Option (List (Key × D))
  | .dat (.dct ks xs) => some (ks.zip xs)
  | .cel j => match cs[j]? with
    | some (.dct kds) => some kds
    | _ => none
  | _ => none
theorem KR.zip {ks : List Key} {xs : List D} (h1 : kvs.map (·.1) = ks) (h2 : Reps T K M H (kvs.map (·.2)) xs) : KR T K M H kvs (ks.zip xs) := by
  have hl : ks.length = xs.length := by rw [← h2.length, ← h1, List.length_map, List.length_map]
  exact ⟨by rw [List.map_fst_zip (by omega)]; exact h1, by rw [List.map_snd_zip (by omega)]; exact h2⟩
theorem rd_dct {ad : List Addr} {F : Addr → Prop} {cs : List Cell} {s : Sl} (h : kdOf cs s = some kds) (c : HoldC T K ad F H cs) (r : SlRep T K ad F H v s) : ∃ a kvs, v = .ref a ∧ Rd H a (.dK kvs) ∧ KR T K (Mm ad F) H kvs kds := by
  unfold kdOf at h
  split at h
  · cases h
    cases r with
    | @dct a o kvs ks ds n e1 e2 q => exact ⟨a, kvs, rfl, .inr ⟨o, e1⟩, KR.zip e2 q⟩
  · split at h
    · rename_i kds' hj
      cases h
      obtain ⟨a, ha, rfl⟩ := r
      obtain ⟨kvs, e1, e2, q⟩ := c.ce _ a _ ha hj
      exact ⟨a, kvs, rfl, .inl e1, e2, q⟩
    · cases h
  · cases h
def wD (cs : List Cell) (s : Sl) (k : List (Key × D) → Prop) : Prop := match kdOf cs s with
  | some kds => k kds
  | none => False
theorem wD_of {cs : List Cell} {s : Sl} {k : List (Key × D) → Prop} (h : wD cs s k) : ∃ kds, kdOf cs s = some kds ∧ k kds := by
  unfold wD at h
  split at h
  · exact ⟨_, ‹_›, h⟩
  · exact h.elim
def isKey (s : Sl) (k : Key → Prop) : Prop := match s with
  | .dat d => match keyD d with
    | some x => k x
    | none => False
  | .cel _ => False
theorem isKey_of {s : Sl} {k : Key → Prop} (h : isKey s k) : ∃ d x, s = .dat d ∧ keyD d = some x ∧ k x := by
  unfold isKey at h
  split at h
  · split at h
    · exact ⟨_, _, rfl, ‹_›, h⟩
    · exact h.elim
  · exact h.elim
end
/-! ### k in d -/
section
variable {X : Cx} {T : Tab} {cs : List Cell}
theorem op_dinV (neg : Bool) (hu : X.A.units + 1 < cLine) : OpR X (compareOp (if neg then .NotIn else .In)) (fun x y H Q => ∃ a o, y = .ref a ∧ DGet H a x o ∧ Q (.bl (neg.xor o.isSome)) H) := by
  intro pins s σ H x y v u Q I rx ry h
  obtain ⟨a, o, rfl, g, q⟩ := h
  cases (show u = Value.ref a from ry)
  cases neg with
  | true => exact d_notIn hu I g rx fun s3 I3 => ⟨.bl (!o.isSome), H, I3, rfl, by simpa using q⟩
  | false => exact d_in hu I g rx fun s3 I3 => ⟨.bl o.isSome, H, I3, rfl, by simpa using q⟩
def inDW (neg : Bool) : W2 := fun s1 s2 cs R => isKey s1 fun k => wD cs s2 fun kds => R (.dat (.bl (neg.xor (hasK kds k)))) cs
def PDc (_ s2 : Sl) : Bool := match s2 with
  | .dat (.dct _ _) => true
  | .cel _ => true
  | _ => false
theorem jc_inD (neg : Bool) {w : W2} (hu : X.A.units + 64 < cLine) (h : JCmp X T (if neg then .NotIn else .In) w) : JCmp X T (if neg then .NotIn else .In) (selW PDc (inDW neg) w) := jc_sel (fun s1 s2 cs R _ hw => by
  obtain ⟨d, k, rfl, hk, hw⟩ := isKey_of hw
  obtain ⟨kds, hd, hR⟩ := wD_of hw
  refine ⟨_, _, ⟨_, op_dinV neg (by omega), fun ad F H v w Q c r1 r2 q => ?_⟩, hR⟩
  obtain ⟨a, kvs, rfl, e1, e2⟩ := rd_dct hd c r2
  cases key_rep r1 hk
  exact ⟨a, valV kvs k, rfl, .inl ⟨kvs, k, e1, rfl, rfl⟩, by rw [e2.some]; exact q _ H ad .refl c Rep.bl⟩) h
end
/-! ### d[k], d.get(k, x), d[k] = v, {} -/
section
variable {X : Cx} {T : Tab} {W : WX} {n : Nat} {e o i f ix : Expr} {pos p' apos cpos : Pos} {we wo wi wx wf : WpE}
def dgetW (s i : Sl) (cs : List Cell) (R : RV) : Prop := isKey i fun k => wD cs s fun kds => match getK kds k with
  | some d => R (.dat d) cs
  | none => False
def wDget (wo wi : WpE) : WpE := fun sl cs R Rx => wo sl cs (fun s c1 => wi sl c1 (fun i c2 => dgetW s i c2 R) Rx) Rx
theorem je_dget (hu : X.A.units + 64 < cLine) (ho : JE X T W o wo) (hi : JE X T W i wi) (hs : NoSl i := by first | exact fun _ _ _ _ h => nomatch h | (intro; nofun) | rfl) : JE X T W (.Subscript o i pos) (wDget wo wi) :=
  weak (pe_dget (by omega) ho hi hs) fun σ H Q ⟨ad, F, sl, cs, R, Rx, h0, hw, q, qx⟩ => ⟨ad, F, sl, cs, _, Rx, h0, hw, fun s c1 v H1 ad1 hw1 x1 h1 r1 => ⟨ad1, F, sl, c1, _, Rx, h1, hw1, fun t c2 v2 H2 ad2 hw2 x2 h2 r2 => by
    obtain ⟨d, k, rfl, hk, hw2⟩ := isKey_of hw2
    obtain ⟨kds, hd, hw2⟩ := wD_of hw2
    split at hw2
    · rename_i z hz
      obtain ⟨a, kvs, rfl, e1, e2⟩ := rd_dct hd h2.hc (r1.ext x2)
      cases key_rep r2 hk
      obtain ⟨w, hv, rw'⟩ := e2.val.2 z hz
      exact ⟨a, w, rfl, .inl ⟨kvs, k, e1, rfl, hv.symm⟩, q _ c2 w H2 ad2 hw2 (x1.trans h1.hc x2) h2 rw'⟩
    · exact hw2.elim, qx.on x1 h1⟩, qx⟩
def wDget2 (wo wi wf : WpE) : WpE := fun sl cs R Rx => wo sl cs (fun s c1 => (kdOf c1 s).isSome = true ∧ wi sl c1 (fun i c2 => wf sl c2 (fun z c3 => isKey i fun k => isDat z fun d => wD c3 s fun kds => R (.dat ((getK kds k).getD d)) c3) Rx) Rx) Rx
theorem je_dget2 (hu : X.A.units + 64 < cLine) (ho : JE X T W o wo) (hi : JE X T W e wi) (hf : JE X T W f wf) (hb : attributeBase o "get" X.env (eval o X.env) = eval o X.env := by rfl)
    (hfw : ((backTo cpos (starEach [e, f] X.env)).all (fun x => !x.1) && (backToKw cpos (keywordEach [] X.env)).all (fun x => x.1.isSome) && decide (([e, f] : List Expr).length + ([] : List Keyword).length + (if ([] : List Keyword).isEmpty then 0 else 1) < 30)) = true := by rfl)
    (hln : (apos.endLine == cpos.line) = true := by rfl) (htr : backTo cpos (starEach [e, f] X.env) = [(false, eval e X.env), (false, eval f X.env)] := by rfl) : JE X T W (.Call (.Attribute o "get" apos) [e, f] [] cpos) (wDget2 wo wi wf) :=
  weak (pe_dget2 (by omega) ho hi hf ⟨hb, hfw, hln, htr⟩) fun σ H Q ⟨ad, F, sl, cs, R, Rx, h0, hw, q, qx⟩ => ⟨ad, F, sl, cs, _, Rx, h0, hw, fun s c1 v H1 ad1 hw1 x1 h1 r1 => by
    obtain ⟨hs, hw1⟩ := hw1
    obtain ⟨kds0, hk0⟩ := Option.isSome_iff_exists.mp hs
    obtain ⟨a, kvs0, rfl, e0, _⟩ := rd_dct hk0 h1.hc r1
    refine ⟨a, rfl, .inl ⟨kvs0, e0⟩, ad1, F, sl, c1, _, Rx, h1, hw1, fun t c2 v2 H2 ad2 hw2 x2 h2 r2 => ⟨ad2, F, sl, c2, _, Rx, h2, hw2, fun z c3 v3 H3 ad3 hw3 x3 h3 r3 => ?_, (qx.on x1 h1).on x2 h2⟩, qx.on x1 h1⟩
    obtain ⟨d, k, rfl, hk, hw3⟩ := isKey_of hw3
    obtain ⟨dz, rfl, hw3⟩ := isDat_of hw3
    obtain ⟨kds, hd, hw3⟩ := wD_of hw3
    obtain ⟨a', kvs, ea, e1, e2⟩ := rd_dct hd h3.hc ((r1.ext x2).ext x3)
    cases ea
    cases key_rep (SlRep.ext (s := .dat d) x3 r2) hk
    refine ⟨valV kvs k, .inl ⟨kvs, k, e1, rfl, rfl⟩, ?_⟩
    have x := x1.trans h1.hc (x2.trans h2.hc x3)
    cases hg : getK kds k with
    | none =>
      rw [e2.val.1 hg]
      rw [hg] at hw3
      exact q _ c3 v3 H3 ad3 hw3 x h3 r3
    | some w =>
      obtain ⟨vw, hv, rw'⟩ := e2.val.2 w hg
      rw [hv]
      rw [hg] at hw3
      exact q _ c3 vw H3 ad3 hw3 x h3 rw', qx⟩
def setDW (s i d : Sl) (cs : List Cell) (k : List Cell → Prop) : Prop := match s with
  | .cel j => match cs[j]? with
    | some (.dct kds) => kds.length < sizeLine ∧ isKey i fun x => isDat d fun d => k (cs.set j (.dct (putD kds x d)))
    | _ => False
  | _ => False
def wSetD (we wo wx : WpE) : WS := fun S P => we S.sl S.cs (fun d c1 => wo S.sl c1 (fun s c2 => wx S.sl c2 (fun i c3 => setDW s i d c3 fun c4 => P.nx ⟨S.sl, c4⟩) (fun x c => P.ex x ⟨S.sl, c⟩)) (fun x c => P.ex x ⟨S.sl, c⟩)) (fun x c => P.ex x ⟨S.sl, c⟩)
theorem js_setD (hu : X.A.units + 64 < cLine) (he : JE X T W e we) (ho : JE X T W o wo) (hx : JE X T W ix wx)
    (ha : ∀ v, assign (.Subscript o ix p') X.env v = (do
      let ov ← holding [v] (eval o X.env)
      let iv ← holding [v, ov] (eval ix X.env)
      standAt p'
      holding [v, ov, iv] (setItem ov iv v)
      release [v, ov, iv] []) := by intro _; rfl)
    (hs : swapsWithSole [.Subscript o ix p'] e pos.line X.env = pure false := by rfl) (hw : swappedStores [.Subscript o ix p'] e X.env = pure none := by rfl)
    (h1 : (assignEach [.Subscript o ix p'] X.env).map (·.2) = [assign (.Subscript o ix p') X.env] := by rfl) : JS X T W n (.Assign [.Subscript o ix p'] e pos) (wSetD we wo wx) := fun S P h =>
  weakS (ps_asg he (pg_sub ho hx (set_dict (by omega)) ha) hs hw h1) fun D σ H ⟨ad, F, hn, h0, q1, q2, q3, q4, q5⟩ => ⟨ad, F, S.sl, S.cs, _, _, h0, h, fun d c1 v H1 ad1 hR1 x1 h1 r1 => ⟨ad1, F, S.sl, c1, _, _, h1, hR1, fun s c2 w H2 ad2 hR2 x2 h2 r2 => ⟨ad2, F, S.sl, c2, _, _, h2, hR2, fun i c3 z H3 ad3 hR3 x3 h3 r3 => by
    unfold setDW at hR3
    split at hR3
    · rename_i j
      split at hR3
      · rename_i kds hj
        obtain ⟨hl, hR3⟩ := hR3
        obtain ⟨di, k, rfl, hk, hR3⟩ := isKey_of hR3
        obtain ⟨dd, rfl, hR3⟩ := isDat_of hR3
        have r2' := SlRep.ext x3 r2
        obtain ⟨a, ea, rfl⟩ := r2'
        obtain ⟨kvs, e1, e2⟩ := h3.hc.ce j a _ ea hj
        cases key_rep r3 hk
        have e2 : KR T X.K (Mm ad3 F) H3 kvs kds := e2
        have rd : Rep T X.K (Mm ad3 F) H3 v dd := SlRep.ext (s := .dat dd) x3 (SlRep.ext (s := .dat dd) x2 r1)
        refine ⟨a, upd H3 a (.dK (putK kvs k v)), rfl, .inl ⟨kvs, k, e1, rfl, by rw [e2.len]; exact hl, rfl⟩, ?_⟩
        have kp : Kp (Mm ad3 F) H3 (Mm ad3 F) (upd H3 a (.dK (putK kvs k v))) := fun b o e nn => ⟨by rw [upd_ne (fun z => nn (.inl (by rw [z]; exact List.mem_of_getElem? ea)))]; exact e, nn⟩
        obtain ⟨k4, x4⟩ := h3.hc.setc (o := .dK (putK kvs k v)) (c := .dct (putD kds k dd)) ea ⟨_, upd_same, (e2.put rd).kp kp⟩
        have x := x1.trans h1.hc (x2.trans h2.hc (x3.trans h3.hc x4))
        exact q1 _ _ _ ad3 (x.s hn) (x.le hn) (h3.to x4 k4) hR3
      · exact hR3.elim
    · exact hR3.elim, ((raz_of hn q5).on x1 h1).on x2 h2⟩, (raz_of hn q5).on x1 h1⟩, raz_of hn q5⟩
def wDnew : WpE := fun _ cs R _ => R (.cel cs.length) (cs ++ [.dct []])
theorem je_dnew : JE X T W (.Dict [] [] pos) wDnew := weak pe_dnewK fun σ H Q ⟨ad, F, sl, cs, R, Rx, h0, hw, q, qx⟩ p hp => by
  obtain ⟨c2, x2⟩ := h0.hc.cell (c := .dct []) (o := .dK []) hp ⟨[], upd_same, rfl, .nil⟩
  exact q _ _ (.ref p) _ (ad ++ [p]) hw x2 (h0.to x2 c2) ⟨p, by rw [← h0.hc.ln, List.getElem?_append_right (Nat.le_refl _), Nat.sub_self]; rfl, rfl⟩
end
/-! ### the last cell, a dict, becomes data -/
section
variable {X : Cx} {T : Tab} {W : WX} {n : Nat}
def frzV (m : Nat) (d : D) : Option Sl → Option Sl
  | some (.cel k) => if k = m then some (.dat d) else if k < m then some (.cel k) else none
  | x => x
theorem dss_freezeD {S : Sta} {P : Post} {sts : List Stmt} {kds : List (Key × D)} (m : Nat) (hm : n ≤ m) (hc : S.cs[m]? = some (.dct kds)) (h : DSs X T n ⟨S.sl.map (frzV m (dctD kds)), S.cs.take m⟩ sts P) : DSs X T n S sts P :=
  weakSs (pss_lockV h) fun D σ H ⟨ad, F, hn, h0, q1, q2, q3, q4, q5⟩ => by
    have ml : m < ad.length := by rw [h0.hc.ln]; exact (List.getElem?_eq_some_iff.mp hc).1
    obtain ⟨a, ha⟩ : ∃ a, ad[m]? = some a := ⟨ad[m], List.getElem?_eq_getElem ml⟩
    obtain ⟨kvs, e1, e2⟩ := h0.hc.ce m a _ ha hc
    have e2 : KR T X.K (Mm ad F) H kvs kds := e2
    have ma : a ∈ ad := List.mem_of_getElem? ha
    refine ⟨a, _, e1, trivial, fun od => ?_⟩
    have nt : a ∉ ad.take m := fun z => by
      obtain ⟨j, hj, ej⟩ := List.getElem_of_mem z
      have hj' : (ad.take m)[j]? = some a := by rw [List.getElem?_eq_getElem hj, ej]
      have hjm : j < m := by rw [List.length_take] at hj; omega
      rw [List.getElem?_take, if_pos hjm] at hj'
      have := ix_inj h0.hc.nd ha hj'
      omega
    have ne : ∀ b, ¬ Mm ad F b → b ≠ a := fun b z y => z (.inl (by rw [y]; exact ma))
    have kp : Kp (Mm ad F) H (Mm (ad.take m) F) (upd H a (.frz od (.dK kvs))) := fun b o e z => ⟨by rw [upd_ne (ne b z)]; exact e, fun y => z (y.imp List.mem_of_mem_take id)⟩
    have nF : ∀ b, F b → b ≠ a := fun b z y => h0.hc.fr a ma (by rw [← y]; exact z)
    have x : ExtS n ad F H (ad.take m) (upd H a (.frz od (.dK kvs))) := ⟨by rw [List.take_take, Nat.min_eq_left hm], fun b hb => .inl (List.mem_of_mem_take hb), fun b o e z => (kp b o e z).1, fun b z => upd_ne (nF b z)⟩
    have hcT : HoldC T X.K (ad.take m) F (upd H a (.frz od (.dK kvs))) (S.cs.take m) := by
      have t := h0.hc.take m
      refine ⟨t.nd, t.fr, fun b z => ?_, t.ln, fun j b c e3 e4 => ?_⟩
      · rw [upd_ne (nF b z)]; exact h0.hc.al b z
      · have jm : j < m := by
          rcases Nat.lt_or_ge j m with z | z
          · exact z
          · rw [List.getElem?_take, if_neg (by omega)] at e3; cases e3
        rw [List.getElem?_take, if_pos jm] at e3 e4
        refine (h0.hc.ce j b c e3 e4).kp kp (upd_ne fun y => ?_)
        subst y
        have := ix_inj h0.hc.nd ha e3
        omega
    refine tDS.go (σ := σ) x (by rw [List.length_take]; omega) ⟨hcT, by rw [h0.sz]; simp, fun i s e => ?_⟩ q1 q2 q3 q4 q5
    have e : (S.sl.map (frzV m (dctD kds)))[i]? = some (some s) := e
    rw [List.getElem?_map] at e
    cases e0 : S.sl[i]? with
    | none => rw [e0] at e; cases e
    | some o =>
      rw [e0] at e
      have e : frzV m (dctD kds) o = some s := Option.some.inj e
      cases o with
      | none => cases e
      | some s0 =>
        obtain ⟨v, hv, r⟩ := h0.sl i s0 e0
        refine ⟨v, hv, ?_⟩
        cases s0 with
        | dat d => cases e; exact Rep.kp kp r
        | cel k =>
          obtain ⟨b, hb, ev⟩ := r
          by_cases k1 : k = m
          · subst k1
            have e : some (Sl.dat (dctD kds)) = some s := by simpa [frzV] using e
            cases e
            rw [ha] at hb
            cases hb
            rw [ev]
            exact Rep.dct (fun y => y.elim nt fun y => h0.hc.fr a ma y) upd_same e2.1 (e2.2.kp kp)
          · by_cases k2 : k < m
            · have e : some (Sl.cel k) = some s := by simpa [frzV, k1, k2] using e
              cases e
              exact ⟨b, by rw [List.getElem?_take_of_lt k2]; exact hb, ev⟩
            · have e : (none : Option Sl) = some s := by simpa [frzV, k1, k2] using e
              cases e
def frzDW (i n : Nat) (S : Sta) (k : Sta → Prop) : Prop := match S.sl[i]? with
  | some (some (.cel m)) => n ≤ m ∧ match S.cs[m]? with
    | some (.dct kds) => k ⟨S.sl.map (frzV m (dctD kds)), S.cs.take m⟩
    | _ => False
  | _ => False
def wFrzD (i n : Nat) (w : WS) : WS := fun S P => frzDW i n S fun S' => w S' P
theorem jss_frzD (i : Nat) {sts : List Stmt} {w : WS} (h : JSs X T W n sts w) : JSs X T W n sts (wFrzD i n w) := fun S P hw => by
  have hw : frzDW i n S fun S' => w S' P := hw
  unfold frzDW at hw
  split at hw
  · obtain ⟨hm, hw⟩ := hw
    split at hw
    · rename_i kds hc
      exact dss_freezeD _ hm hc (h _ P hw)
    · exact hw.elim
  · exact hw.elim
end
end Dl

namespace Dl
open PySem L2
/-! ### walks over a dict that is only read -/
def keyOf : Key → D
  | .inl i => .int i
  | .inr x => .str x
section
variable {T : Tab} {K : PySem.W.Frag} {F : Addr → Prop} {ad : List Addr} {H : Hp} {a : Addr} {o : Obj} {kvs : List (Key × V)}
theorem itk_ok (n : ¬ Mm ad F a) (e1 : H a = some (.frz o (.dK kvs))) : ItOk T K F (Itk a o kvs) ((kvs.map (·.1)).map keyOf) ad H := fun F2 ad2 H2 cs2 c2 kp i => ⟨fun d hd => by
    obtain ⟨e2, n2⟩ := kp a _ e1 n
    rw [List.map_map, List.getElem?_map] at hd
    cases hk : kvs[i]? with
    | none => rw [hk] at hd; cases hd
    | some p =>
      rw [hk] at hd
      have hd : keyOf p.1 = d := Option.some.inj hd
      subst hd
      refine ⟨⟨e2, (List.getElem?_eq_some_iff.mp hk).1⟩, fun w H3 y => ?_⟩
      obtain ⟨rfl, k, v, hv, rfl⟩ := y
      rw [hk] at hv
      cases hv
      refine ⟨fun _ _ z => z, ?_⟩
      cases k with
      | inl i => exact Rep.int
      | inr x => exact Rep.str, fun hi => ⟨(kp a _ e1 n).1, by rw [hi, List.length_map, List.length_map]; exact Nat.le_refl _⟩⟩
end
section
variable {X : Cx} {tg : Expr}
def iValD (K : PySem.W.Frag) (tl : TE) : TI := fun σ H R => tl σ H fun x H1 => (∃ a xs, x = .ref a ∧ SqL K H1 a xs ∧ R (Itl K a) H1) ∨ (∃ a xs, x = .ref a ∧ SqT K H1 a xs ∧ R (Itt K a) H1) ∨ ∃ a o kvs, x = .ref a ∧ H1 a = some (.frz o (.dK kvs)) ∧ R (Itk a o kvs) H1
open PySem.Spec PyProof.Rows in
theorem pi_valD {l : Expr} {tl : TE} (hl : PE X l tl) : PI X tg l (iValD X.K tl) := by
  refine ⟨fun pins s σ H R I h => ?_⟩
  refine thn (hl.run pins s σ H _ I h) fun v s1 ⟨x, H1, I1, r1, q1⟩ => ?_
  rcases q1 with ⟨a, xs, e, hq, q⟩ | ⟨a, xs, e, hq, q⟩ | ⟨a, o, kvs, e, hq, q⟩
  · subst e
    cases r1
    obtain ⟨its, rv, p, hz⟩ := I1.list hq
    refine wpAny_pyIter_list p.isList ?_
    refine ⟨s1.heap.objs.size, [s1.heap.objs.size], _, _, H1, rfl, I1.kept (t' := s1.toks) fun b o e => Heap.get?_push_of_some _ e, turn_list a _, ⟨_, Heap.get?_push_size _ rfl, rfl, rfl⟩, fun b hb => ?_, q⟩
    have e : b = s1.heap.objs.size := by simpa using hb
    subst e
    exact I1.fpOk (Nat.le_refl _) (I1.hok.fresh (Nat.le_refl _))
  · subst e
    cases r1
    obtain ⟨its, rv, p, hz⟩ := I1.tuple hq
    refine wpAny_pyIter_tuple (show s1.heap.IsTuple a its.toArray from p) ?_
    refine ⟨s1.heap.objs.size, [s1.heap.objs.size], _, _, H1, rfl, I1.kept (t' := s1.toks) fun b o e => Heap.get?_push_of_some _ e, turn_tuple a _, ⟨_, Heap.get?_push_size _ rfl, rfl, rfl⟩, fun b hb => ?_, q⟩
    have e : b = s1.heap.objs.size := by simpa using hb
    subst e
    exact I1.fpOk (Nat.le_refl _) (I1.hok.fresh (Nat.le_refl _))
  · subst e
    cases r1
    obtain ⟨z1, z2, z3, es, ep, vs, z4, z5, z6, z7⟩ := I1.frzK hq
    refine iter_keys z1 z2 z3 z4 (pi_one (tk := s1.toks) I1 _ (turn_keys _ z4) ⟨_, Heap.get?_push_size _ rfl, rfl, ?_⟩ q)
    first
      | (rw [z5]; done)
      | (rw [z5]; rfl)
end
def itemsDW (s : Sl) (k : List D → Prop) : Prop := match s with
  | .dat (.lst ds) => k ds
  | .dat (.tup ds) => k ds
  | .dat (.scr ds) => k ds
  | .dat (.dct ks _) => k (ks.map keyOf)
  | _ => False
section
variable {X : Cx} {T : Tab} {W : WX} {tg e : Expr} {w : WpE}
def wItemsD (w : WpE) : WpI := fun sl cs R Rx => w sl cs (fun s c => itemsDW s fun ds => R ds c) Rx
theorem ji_valD (he : JE X T W e w) : JI X T W tg e (wItemsD w) := weakI (pi_valD he) fun σ H Q ⟨ad, F, sl, cs, R, Rx, h0, hw, q, qx⟩ => ⟨ad, F, sl, cs, _, Rx, h0, hw, fun s c1 v H1 ad1 hw1 x1 h1 r1 => by
  unfold itemsDW at hw1
  split at hw1
  · cases r1 with
    | @lst a vs _ n e1 r => exact .inl ⟨a, vs, rfl, SqL.of e1, q _ c1 _ H1 ad1 hw1 x1 h1 (itl_ok n e1 r)⟩
  · cases r1 with
    | @tup a vs _ e1 r => exact .inr (.inl ⟨a, vs, rfl, e1.sq, q _ c1 _ H1 ad1 hw1 x1 h1 (itt_ok e1 r)⟩)
  · cases r1 with
    | @scr a vs _ e1 r => exact .inl ⟨a, vs, rfl, e1.sq, q _ c1 _ H1 ad1 hw1 x1 h1 (itr_ok' e1 r)⟩
  · cases r1 with
    | @dct a o kvs ks ds n e1 e2 r => exact .inr (.inr ⟨a, o, kvs, rfl, e1, q _ c1 _ H1 ad1 hw1 x1 h1 (by rw [← e2]; exact itk_ok n e1)⟩)
  · exact hw1.elim, qx⟩
end
/-! ### {k: v for .. in .. if ..} -/
def dcW (p : Pat) (wt : WpT) (wk wv : WpE) (sl : Sls) : List D → List (Key × D) → List Cell → (List (Key × D) → List Cell → Prop) → Prop
  | [], acc, cs, R => R acc cs
  | d :: ds, acc, cs, R => asgW p d sl fun sl' => wt sl' cs (fun b c1 => Br b (wk sl' c1 (fun s1 c2 => wv sl' c2 (fun s2 c3 => isKey s1 fun k => isDat s2 fun e => dcW p wt wk wv sl ds (putD acc k e) c3 R) noX) noX) (dcW p wt wk wv sl ds acc c1 R)) noX
def wDc (wi : WpI) (p : Pat) (wt : WpT) (wk wv : WpE) (own : List Nat) : WpE := fun sl cs R Rx => wi sl cs (fun items c => items.length < sizeLine ∧ dcW p wt wk wv (wipeS sl own) items [] c fun acc c' => R (.dat (dctD acc)) c') Rx
theorem putD_len (kds : List (Key × D)) (k : Key) (d : D) : (putD kds k d).length ≤ kds.length + 1 := by
  unfold putD
  split
  · rw [List.length_map]; omega
  · rw [List.length_append]; exact Nat.le_refl _
section
variable {T : Tab} {K : PySem.W.Frag} {W : WX} {p : Pat} {wi : WpI} {wt : WpT} {wk wv : WpE} {own : List Nat}
theorem dc_coreD {sl : Sls} {items : List D} {cs : List Cell} {Rf : List (Key × D) → List Cell → Prop} {σ : St} {H1 : Hp} {ad1 : List Addr} {F : Addr → Prop} {Q : VK} {J : It} (hp : ∀ i ∈ slotsP p, i ∈ own) (h1 : Hold T K ⟨sl, cs⟩ ad1 F σ H1) (okI : ItOk T K F J items ad1 H1) (hl : items.length < sizeLine)
    (h : dcW p wt wk wv (wipeS sl own) items [] cs Rf) {Dl : Addr} (hD : H1 Dl = none)
    (q : ∀ accV accD ci ad' H', Ext ad1 F H1 ad' H' → HoldC T K ad' (fun a => F a ∨ a = Dl) H' ci → H' Dl = some (.dK accV) → KR T K (Mm ad' fun a => F a ∨ a = Dl) H' accV accD → Rf accD ci → Q (.ref Dl) H') :
    ∃ (Inv' : Nat → Nat → Hp → Prop), (∃ m0, Inv' 0 m0 (upd H1 Dl (.dK []))) ∧ ∀ i m H', Inv' i m H' → (J.stop i H' ∧ Q (.ref Dl) H') ∨ (J.go i H' ∧ ∃ I2 : Hp → Prop, (∀ H2, I2 H2 → ∃ m', m' < m ∧ Inv' (i + 1) m' H2) ∧ ∀ v H3, J.yld i H' v H3 →
      tDG T K p v (wipe σ own) H3 fun σ' H4 => wipe σ' own = wipe σ own ∧ tJT T K W0 wt σ' H4 fun b H5 => if b = true then tJ T K W0 wk σ' H5 fun y H6 => tJ T K W0 wv σ' H6 fun z H7 => ∃ kvs k, y = kV k ∧ H7 Dl = some (.dK kvs) ∧ kvs.length < sizeLine ∧ I2 (upd H7 Dl (.dK (putK kvs k z))) else I2 H5) := by
  let vs := own
  have nD := h1.hc.new hD
  let F' : Addr → Prop := fun a => F a ∨ a = Dl
  have neD : ∀ a o, H1 a = some o → a ≠ Dl := fun a o e => ne_of_none e hD
  have slots : ∀ {ad' : List Addr} {H' : Hp} {cs : List Cell}, Ext ad1 F H1 ad' H' → HoldC T K ad' F' H' cs → Hold T K ⟨wipeS sl vs, cs⟩ ad' F' (wipe σ vs) H' := fun {ad' H' cs} x c => by
    refine ⟨c, by rw [wipe_length, wipeS_len]; exact h1.sz, fun i s e => ?_⟩
    obtain ⟨e1, e2⟩ := wipeS_some e
    obtain ⟨v, hv, r⟩ := h1.sl i s e1
    refine ⟨v, by rw [wipe_out e2]; exact hv, ?_⟩
    cases s with
    | dat d => exact Rep.kp (fun a o e n => ⟨x.keep a o e n, fun z => (x.kp a o e n).2 (z.imp id fun z => z.resolve_right (neD a o e))⟩) r
    | cel k =>
      have r' := SlRep.ext x r
      exact r'
  have h1' : HoldC T K ad1 F' (upd H1 Dl (.dK [])) cs := by
    obtain ⟨c2, x2⟩ := h1.hc.newo (o := .dK []) hD
    have kp : Kp (Mm ad1 F) H1 (Mm ad1 F') (upd H1 Dl (.dK [])) := fun a o e n => ⟨by rw [upd_ne (neD a o e)]; exact e, fun z => n (z.imp id fun z => z.resolve_right (neD a o e))⟩
    refine ⟨h1.hc.nd, fun a ha z => z.elim (h1.hc.fr a ha) fun z => nD (.inl (z ▸ ha)), fun a z => ?_, h1.hc.ln, fun k a c e1 e2 => ?_⟩
    · rcases z with z | z
      · exact c2.al a z
      · rw [z]; exact ⟨_, upd_same⟩
    · have qc := h1.hc.ce k a c e1 e2
      obtain ⟨o, e⟩ := qc.some
      exact qc.kp kp (upd_ne (neD a o e))
  have x1' : Ext ad1 F H1 ad1 (upd H1 Dl (.dK [])) := (h1.hc.newo hD).2
  refine ⟨fun i m H' => ∃ ad' accV accD ci, i ≤ items.length ∧ m = items.length - i ∧ Ext ad1 F H1 ad' H' ∧ HoldC T K ad' F' H' ci ∧ H' Dl = some (.dK accV) ∧ KR T K (Mm ad' F') H' accV accD ∧ accD.length ≤ i ∧
    dcW p wt wk wv (wipeS sl vs) (items.drop i) accD ci Rf, ⟨items.length, ad1, [], [], cs, Nat.zero_le _, rfl, x1', h1', upd_same, .nil, Nat.le_refl _, h⟩, ?_⟩
  rintro i m H' ⟨ad', accV, accD, ci, hi', rfl, x', c', eD, rA, lA, hL⟩
  have kpI : Kp (Mm ad1 F) H1 (Mm ad' F') H' := fun a o e n => ⟨x'.keep a o e n, fun z => (x'.kp a o e n).2 (z.imp id fun z => z.resolve_right (neD a o e))⟩
  obtain ⟨ok1, ok2⟩ := okI F' ad' H' ci c' kpI i
  by_cases hlt : i < items.length
  · have hd : items[i]? = some items[i] := List.getElem?_eq_getElem hlt
    obtain ⟨g1, g2⟩ := ok1 _ hd
    rw [List.drop_eq_getElem_cons hlt] at hL
    obtain ⟨sl', eas, hL⟩ := asgW_of hL
    refine .inr ⟨g1, fun H2 => ∃ m', m' < items.length - i ∧ ∃ ad' accV accD ci, i + 1 ≤ items.length ∧ m' = items.length - (i + 1) ∧ Ext ad1 F H1 ad' H2 ∧ HoldC T K ad' F' H2 ci ∧ H2 Dl = some (.dK accV) ∧ KR T K (Mm ad' F') H2 accV accD ∧ accD.length ≤ i + 1 ∧
      dcW p wt wk wv (wipeS sl vs) (items.drop (i + 1)) accD ci Rf, fun H2 ⟨m', hm, z⟩ => ⟨m', hm, z⟩, fun v H3 y => ?_⟩
    obtain ⟨gr, rv⟩ := g2 v H3 y
    obtain ⟨c3, x3⟩ := grow c' gr
    have x13 : Ext ad1 F H1 ad' H3 := ⟨x'.pre, fun a o e n => gr a o (x'.keep a o e n), fun a fa => by
      obtain ⟨o, e⟩ := h1.hc.al a fa
      have e' : H' a = some o := by rw [x'.frm a fa]; exact e
      rw [gr a o e', e]⟩
    have cvt : ∀ {ad6 : List Addr} {H6 : Hp}, Ext ad' F' H3 ad6 H6 → Ext ad1 F H1 ad6 H6 := fun {ad6 H6} x6 => by
      obtain ⟨t, e, ht⟩ := x13.pre
      obtain ⟨t2, e2, ht2⟩ := x6.pre
      refine ⟨⟨t ++ t2, by rw [e2, e, List.append_assoc], fun a ha => ?_⟩, fun a o e n => ?_, fun a fa => ?_⟩
      · rcases List.mem_append.mp ha with z | z
        · exact ht a z
        · cases q1 : H1 a with
          | none => rfl
          | some o =>
            exfalso
            have hz := ht2 a z
            by_cases n : Mm ad1 F a
            · rcases n with n | n
              · obtain ⟨o', e'⟩ := c3.mem (a := a) (by rw [e]; exact List.mem_append_left _ n)
                rw [e'] at hz; cases hz
              · rw [x13.frm a n, q1] at hz; cases hz
            · rw [x13.keep a o q1 n] at hz; cases hz
      · have n3 : ¬ Mm ad' F' a := fun z => (x13.kp a o e n).2 (z.imp id fun z => z.resolve_right (neD a o e))
        exact x6.keep a o (x13.keep a o e n) n3
      · rw [x6.frm a (.inl fa), x13.frm a fa]
    have eD3 : H3 Dl = some (.dK accV) := gr _ _ eD
    have rA3 : KR T K (Mm ad' F') H3 accV accD := rA.kp x3.kp
    refine ⟨ad', F', ⟨wipeS sl vs, ci⟩, items[i], sl', slots x13 c3, rv, eas, fun σ4 a4 h4 => ⟨wipe_asis a4 hp, ad', F', sl', ci, _, noX, h4, hL, fun b c1 H5 ad5 hb x5 h5 => ?_, Raz.no⟩⟩
    cases b with
    | true =>
      refine iteT ⟨ad5, F', sl', c1, _, noX, h5, hb.t rfl, fun s1 c2 y H6 ad6 hs1 x6 h6 r6 => ⟨ad6, F', sl', c2, _, noX, h6, hs1, fun s2 c3' z H7 ad7 hs2 x7 h7 r7 => ?_, Raz.no⟩, Raz.no⟩
      obtain ⟨dk, k, rfl, hk, hs2⟩ := isKey_of hs2
      obtain ⟨d', rfl, hL2⟩ := isDat_of hs2
      have x36 : Ext ad' F' H3 ad7 H7 := x5.trans h5.hc (x6.trans h6.hc x7)
      have x16 := cvt x36
      refine ⟨accV, k, key_rep r6 hk, ?_, ?_, ?_⟩
      · rw [x36.frm Dl (.inr rfl)]; exact eD3
      · have := rA3.len
        omega
      · have hDa : Dl ∉ ad7 := fun z => h7.hc.fr Dl z (.inr rfl)
        have kpU : Kp (Mm ad7 F') H7 (Mm ad7 F') (upd H7 Dl (.dK (putK accV k z))) := fun a o e n => ⟨by rw [upd_ne (fun z => n (.inr (.inr z)))]; exact e, n⟩
        refine ⟨_, by omega, ad7, putK accV k z, putD accD k d', c3', hlt, rfl, ?_, ?_, upd_same, ((rA3.kp x36.kp).put r7).kp kpU, Nat.le_trans (putD_len _ _ _) (by omega), hL2⟩
        · exact ⟨x16.pre, fun a o e n => by rw [upd_ne (neD a o e)]; exact x16.keep a o e n, fun a fa => by
            obtain ⟨o, e⟩ := h1.hc.al a fa
            rw [upd_ne (neD a o e)]; exact x16.frm a fa⟩
        · refine ⟨h7.hc.nd, h7.hc.fr, fun a z => ?_, h7.hc.ln, fun k a c e1 e2 => ?_⟩
          · by_cases e : a = Dl
            · rw [e]; exact ⟨_, upd_same⟩
            · rw [upd_ne e]; exact h7.hc.al a z
          · exact (h7.hc.ce k a c e1 e2).kp kpU (upd_ne fun z => hDa (z ▸ List.mem_of_getElem? e1))
    | false => exact iteF ⟨_, by omega, ad5, accV, accD, c1, hlt, rfl, cvt x5, h5.hc, by rw [x5.frm Dl (.inr rfl)]; exact eD3, rA3.kp x5.kp, by omega, hb.f rfl⟩
  · have e : i = items.length := by omega
    subst e
    rw [List.drop_length] at hL
    exact .inl ⟨ok2 rfl, q accV accD ci ad' H' x' c' eD rA hL⟩
/-- the new dict, locked, is data -/
theorem dc_then {σ : St} {H : Hp} {Q : VK} (hp : ∀ i ∈ slotsP p, i ∈ own) (h : tJ T K W (wDc wi p wt wk wv own) σ H Q) :
    tDc (tJI T K W wi) (tDG T K p) (tJT T K W0 wt) (tJ T K W0 wk) (tJ T K W0 wv) own σ H (fun x H1 => ∃ d u, x = .ref d ∧ H1 d = some u ∧ Mut (some u) ∧ ∀ od, Q x (upd H1 d (.frz od u))) := by
  obtain ⟨ad, F, sl, cs, R, Rx, h0, hw, q, qx⟩ := h
  refine ⟨ad, F, sl, cs, _, Rx, h0, hw, fun items c J H1 ad1 hw1 x1 h1 ok Dl hD => ?_, qx⟩
  refine dc_coreD (Q := fun x H1 => ∃ d u, x = .ref d ∧ H1 d = some u ∧ Mut (some u) ∧ ∀ od, Q x (upd H1 d (.frz od u))) hp h1 ok hw1.1 hw1.2 hD fun accV accD ci ad' H' x' c' eD rA hR => ⟨Dl, _, rfl, eD, trivial, fun od => ?_⟩
  have nD := h1.hc.new hD
  have nm : ∀ b, ¬ Mm ad' (fun a => F a ∨ a = Dl) b → b ≠ Dl := fun b z y => z (.inr (.inr y))
  have kpF : Kp (Mm ad' fun a => F a ∨ a = Dl) H' (Mm ad' F) (upd H' Dl (.frz od (.dK accV))) := fun a o e n => ⟨by rw [upd_ne (nm a n)]; exact e, fun z => n (z.imp id .inl)⟩
  have nDa : Dl ∉ ad' := fun z => c'.fr Dl z (.inr rfl)
  have nFD : ∀ b, F b → b ≠ Dl := fun b z y => nD (.inr (by rw [← y]; exact z))
  have cF : HoldC T K ad' F (upd H' Dl (.frz od (.dK accV))) ci := ⟨c'.nd, fun a ha z => c'.fr a ha (.inl z), fun a z => by rw [upd_ne (nFD a z)]; exact c'.al a (.inl z), c'.ln, fun k a c e1 e2 => (c'.ce k a c e1 e2).kp kpF (upd_ne fun y => nDa (by rw [← y]; exact List.mem_of_getElem? e1))⟩
  have nD' : ¬ Mm ad' F Dl := fun z => z.elim nDa fun z => nD (.inr z)
  have x2 : Ext ad1 F H1 ad' (upd H' Dl (.frz od (.dK accV))) := ⟨x'.pre, fun a o e n => by rw [upd_ne (ne_of_none e hD)]; exact x'.keep a o e n, fun a z => by rw [upd_ne (nFD a z)]; exact x'.frm a z⟩
  exact q _ ci (.ref Dl) _ ad' hR (x1.trans h1.hc x2) (h1.to x2 cF) (Rep.dct nD' upd_same rA.1 (rA.2.kp kpF))
end
section
variable {X : Cx} {T : Tab} {W : WX} {n : Nat} {kx vx tg iter : Expr} {ifs : List Expr} {scope : Scope} {own : List (Str × Nat)} {p : Pat} {wi : WpI} {wt : WpT} {wk wv : WpE} {pos : Pos} {y : Str}
structure JDC (X : Cx) (T : Tab) (W : WX) (kx vx tg iter : Expr) (ifs : List Expr) (scope : Scope) (own : List (Str × Nat)) (wi : WpI) (p : Pat) (wt : WpT) (wk wv : WpE) : Prop where
  hi : JI X T W tg iter wi
  ok : BlkOk X.N X.env.scope scope own
  hg : InB X scope fun X' => DG X' T tg p
  ht : InB X scope fun X' => JTs X' T W0 ifs wt
  hk : InB X scope fun X' => JE X' T W0 kx wk
  he : InB X scope fun X' => JE X' T W0 vx wv
  hp : ∀ i ∈ slotsP p, i ∈ own.map (·.2)
theorem je_dc {vs : List Nat} (hN : X.N.Nodup) (h : JDC X T W kx vx tg iter ifs scope own wi p wt wk wv) (hv : own.map (·.2) = vs := by rfl) (hc : X.calm = true := by rfl) (hs : ∀ x, foldedSetIterable iter X.env x = pure x := by intro _; rfl) : JE X T W (.DictComp kx vx [⟨tg, iter, ifs, 0⟩] scope pos) (wDc wi p wt wk wv vs) := by
  subst hv
  exact weak (pe_lockV (pe_dc (g := tDG T X.K p) (tt := tJT T X.K W0 wt) (tk := tJ T X.K W0 wk) (tv := tJ T X.K W0 wv) hc hN h.hi h.ok h.hg h.ht h.hk h.he hs)) fun σ H Q z => dc_then h.hp z
/-- y = {..}: the value is stored by the comprehension itself -/
theorem ps_setDc {i : Nat} {py spos : Pos} {wi : TI} {g : TG} {tt : TT} {tk tv : TE} (hc : X.calm = true) (hN : X.N.Nodup) (hy : X.N[i]? = some y) (hyl : X.env.scope.names.lookup y = some .local) (hsw : swapsWith (.DictComp kx vx [⟨tg, iter, ifs, 0⟩] scope pos) (some (.Name y py)) spos.line X.env = pure true)
    (hi : PI X tg iter wi) (ok : BlkOk X.N X.env.scope scope own) (hg : InB X scope fun X' => PG X' tg g) (ht : InB X scope fun X' => PTs X' ifs tt) (hk : InB X scope fun X' => PE X' kx tk) (he : InB X scope fun X' => PE X' vx tv) (hs : ∀ x, foldedSetIterable iter X.env x = pure x) :
    PS X (.Assign [.Name y py] (.DictComp kx vx [⟨tg, iter, ifs, 0⟩] scope pos) spos) (tAsg (fun σ H Q => tDc wi g tt tk tv (own.map (·.2)) σ H (fun x H1 => ∃ d u, x = .ref d ∧ H1 d = some u ∧ Mut (some u) ∧ ∀ od, Q x (upd H1 d (.frz od u)))) (gName i)) := by
  refine ⟨fun pins s σ H D I h => ?_⟩
  rw [exec_Assign_Name_used _ _ _ _ hsw]
  refine wpAny_bind (wpAny_standAt (wpAny_bind ?_))
  have h : tDc wi g tt tk tv (own.map (·.2)) σ H (fun x H1 => ∃ d u, x = .ref d ∧ H1 d = some u ∧ Mut (some u) ∧ ∀ od, gName i x σ (upd H1 d (.frz od u)) D.nx) := h
  refine wpAny_bind (thn (L2.dc_core (Qf := fun _ s' => SP X pins D .next s') hc hN I hi ok hg ht hk he hs h fun L C s' m H' I' q hn f => ?_) fun _ s' hq => wpAny_pure (wpAny_pure hq))
  obtain ⟨d, u, ex, hd, mu, q⟩ := q
  cases ex
  obtain ⟨od, I''⟩ := I'.lock hd mu
  have q := q od
  refine wpAny_assign_Name (store_ok2 (v := V.ref L) I'' hN hy (.inl hyl) rfl (fun s2 I2 z => ?_) (.inr hyl))
  obtain ⟨a, sb, ha⟩ := z
  obtain ⟨f0, f1, f2, f3, f4, f5⟩ := f
  have hC : C ≠ a := ha.elim (fun z => by rw [z]; exact f1) fun z e => f4 y a z e.symm
  have fD : (upd H' L (.frz od u)) C = none := by
    rw [upd_ne (fun hb => by rw [hb, hd] at f0; cases f0)]
    exact f0
  refine ⟨m, hn.sameBut sb hC, fun h3 sb3 => ?_⟩
  exact ⟨_, _, I2.turned (t' := s2.toks) (fun b o hb e => (sb3.2 b hb).trans e) fD f1 f3 f4 f5, q⟩
end
end Dl

namespace Dl
open PySem L2
section
variable {X : Cx} {T : Tab} {W : WX} {n : Nat} {kx vx tg iter : Expr} {ifs : List Expr} {scope : Scope} {own : List (Str × Nat)} {p : Pat} {wi : WpI} {wt : WpT} {wk wv : WpE} {pos py : Pos} {y : Str}
theorem sw_dc {gs : List Comprehension} {l : Nat} {env : Env} (hk : env.scope.kind = .function) (hy : env.scope.names.lookup y = some .local) (hl : (py.line == pos.line) = true) (ha : (scope.names.any fun (n, k) => n == y && (k == .local || k == .cell)) = false) :
    swapsWith (.DictComp kx vx gs scope pos) (some (.Name y py)) l env = pure true := by
  have h1 : env.kindOf y = some .local := hy
  have h2 : env.blockKind = .function := by unfold Env.blockKind; rw [hk]; rfl
  unfold swapsWith
  simp only [h2, h1, ha, Expr.pos, hl]
  rfl
/-- y = {..} -/
theorem js_dc (i : Nat) {vs : List Nat} {spos : Pos} (hN : X.N.Nodup) (h : JDC X T W kx vx tg iter ifs scope own wi p wt wk wv) (hv : own.map (·.2) = vs := by rfl) (hy : X.N[i]? = some y := by rfl) (hyl : X.env.scope.names.lookup y = some .local := by rfl)
    (hsw : swapsWith (.DictComp kx vx [⟨tg, iter, ifs, 0⟩] scope pos) (some (.Name y py)) spos.line X.env = pure true := by exact sw_dc rfl rfl rfl (by decide +kernel)) (hc : X.calm = true := by rfl) (hs : ∀ x, foldedSetIterable iter X.env x = pure x := by intro _; rfl) :
    JS X T W n (.Assign [.Name y py] (.DictComp kx vx [⟨tg, iter, ifs, 0⟩] scope pos) spos) (wAsg i (wDc wi p wt wk wv vs)) := fun S P hw => by
  subst hv
  exact weakS (ps_setDc (g := tDG T X.K p) (tt := tJT T X.K W0 wt) (tk := tJ T X.K W0 wk) (tv := tJ T X.K W0 wv) hc hN hy hyl hsw h.hi h.ok h.hg h.ht h.hk h.he hs) fun D σ H ⟨ad, F, hn, h0, q1, q2, q3, q4, q5⟩ =>
    dc_then (W := W) (Q := fun x H1 => gName i x σ H1 D.nx) h.hp ⟨ad, F, S.sl, S.cs, _, _, h0, hw, fun s c v H1 ad1 hR x1 h1 r1 => q1 _ _ H1 ad1 (x1.s hn) (x1.le hn) (h1.set r1 i) hR, raz_of hn q5⟩
end
/-! ### sorted, max, min of lists of ints -/
def leB (a b : Int) : Bool := decide (a ≤ b)
def sortI (ns : List Int) : List Int := ns.mergeSort leB
theorem sortI_perm (ns : List Int) : (sortI ns).Perm ns := List.mergeSort_perm ns leB
theorem sortI_le (ns : List Int) : (sortI ns).Pairwise (· ≤ ·) := (List.pairwise_mergeSort (le := leB) (fun a b c h1 h2 => decide_eq_true (Int.le_trans (of_decide_eq_true h1) (of_decide_eq_true h2))) (fun a b => by
  unfold leB
  rcases Int.le_total a b with h | h
  · rw [decide_eq_true h]; rfl
  · rw [decide_eq_true h, Bool.or_true]) ns).imp fun h => of_decide_eq_true h
theorem sortI_eq {ns ms : List Int} (h1 : ms.Perm ns) (h2 : ms.Pairwise (· ≤ ·)) : ms = sortI ns := List.Perm.eq_of_pairwise (fun a b _ _ h h' => Int.le_antisymm h h') h2 (sortI_le ns) (h1.trans (sortI_perm ns).symm)
section
variable {X : Cx} {T : Tab} {cs : List Cell} {s1 : Sl}
theorem cb_sorted {ns : List Int} (h : isLst cs (ns.map D.int) s1) : CalB X T "sorted" [s1] cs (.dat (.lst ((sortI ns).map D.int))) cs := ⟨.builtin "sorted", _, by decide +kernel, .inl ⟨_, rfl⟩, cr_sortedI, fun ad F H vs Q c r q => by
  match vs, r with
  | [v], r =>
    obtain ⟨a, ws, rfl, e1, q1⟩ := rd_lst h c r.1
    have := Reps.of_ints q1
    subst this
    refine ⟨a, ns, rfl, SqL.of e1, fun ms p h1 h2 hp => ?_⟩
    rw [sortI_eq h1 h2]
    exact new_lst c (Reps.ints _) q hp⟩
def sortW : WC := fun ss cs R => match ss with
  | [s] => wL cs s fun ds => intsW ds fun ns => R (.dat (.lst ((sortI ns).map D.int))) cs
  | _ => False
theorem intsW_of {ds : List D} {k : List Int → Prop} (h : intsW ds k) : ∃ ns, ds = ns.map D.int ∧ k ns := by
  unfold intsW at h
  split at h
  · exact ⟨_, ints_of ‹_›, h⟩
  · exact h.elim
theorem jc_sorted : JCall X T "sorted" sortW := ⟨⟨.builtin "sorted", by decide +kernel, .inl ⟨_, rfl⟩⟩, fun ss cs R h => by
  unfold sortW at h
  split at h
  · obtain ⟨ds, h1, h⟩ := wL_of h
    obtain ⟨ns, e, h2⟩ := intsW_of h
    subst e
    exact ⟨_, _, cb_sorted h1, h2⟩
  · exact h.elim⟩
/-- the greatest, the least -/
def maxI : Int → List Int → Int
  | a, [] => a
  | a, b :: l => maxI (if a < b then b else a) l
def minI : Int → List Int → Int
  | a, [] => a
  | a, b :: l => minI (if b < a then b else a) l
theorem maxI_in : ∀ (l : List Int) (a : Int), maxI a l ∈ a :: l ∧ ∀ y ∈ a :: l, y ≤ maxI a l
  | [], a => ⟨List.mem_cons_self, fun y hy => by simp at hy; subst hy; exact Int.le_refl _⟩
  | b :: l, a => by
    obtain ⟨h1, h2⟩ := maxI_in l (if a < b then b else a)
    unfold maxI
    have hc : a ≤ (if a < b then b else a) ∧ b ≤ (if a < b then b else a) := by split <;> omega
    have h0 := h2 _ List.mem_cons_self
    refine ⟨?_, fun y hy => ?_⟩
    · rcases List.mem_cons.mp h1 with h | h
      · rw [h]
        split
        · exact List.mem_cons_of_mem _ List.mem_cons_self
        · exact List.mem_cons_self
      · exact List.mem_cons_of_mem _ (List.mem_cons_of_mem _ h)
    · rcases List.mem_cons.mp hy with rfl | hy
      · omega
      · rcases List.mem_cons.mp hy with rfl | hy
        · omega
        · exact h2 y (List.mem_cons_of_mem _ hy)
theorem minI_in : ∀ (l : List Int) (a : Int), minI a l ∈ a :: l ∧ ∀ y ∈ a :: l, minI a l ≤ y
  | [], a => ⟨List.mem_cons_self, fun y hy => by simp at hy; subst hy; exact Int.le_refl _⟩
  | b :: l, a => by
    obtain ⟨h1, h2⟩ := minI_in l (if b < a then b else a)
    unfold minI
    have hc : (if b < a then b else a) ≤ a ∧ (if b < a then b else a) ≤ b := by split <;> omega
    have h0 := h2 _ List.mem_cons_self
    refine ⟨?_, fun y hy => ?_⟩
    · rcases List.mem_cons.mp h1 with h | h
      · rw [h]
        split
        · exact List.mem_cons_of_mem _ List.mem_cons_self
        · exact List.mem_cons_self
      · exact List.mem_cons_of_mem _ (List.mem_cons_of_mem _ h)
    · rcases List.mem_cons.mp hy with rfl | hy
      · omega
      · rcases List.mem_cons.mp hy with rfl | hy
        · omega
        · exact h2 y (List.mem_cons_of_mem _ hy)
theorem cb_maxL (hc : X.calm = true) {a : Int} {ns : List Int} (h : isLst cs ((a :: ns).map D.int) s1) : CalB X T "max" [s1] cs (.dat (.int (maxI a ns))) cs := ⟨.builtin "max", _, by decide +kernel, .inl ⟨_, rfl⟩, cr_max hc, fun ad F H vs Q c r q => by
  match vs, r with
  | [v], r =>
    obtain ⟨p, ws, rfl, e1, q1⟩ := rd_lst h c r.1
    have := Reps.of_ints q1
    subst this
    refine ⟨p, a :: ns, rfl, SqL.of e1, Nat.succ_pos _, fun m h1 h2 => ?_⟩
    obtain ⟨g1, g2⟩ := maxI_in ns a
    cases Int.le_antisymm (g2 m h1) (h2 _ g1)
    exact q _ H ad .refl c Rep.int⟩
theorem cb_minL (hc : X.calm = true) {a : Int} {ns : List Int} (h : isLst cs ((a :: ns).map D.int) s1) : CalB X T "min" [s1] cs (.dat (.int (minI a ns))) cs := ⟨.builtin "min", _, by decide +kernel, .inl ⟨_, rfl⟩, cr_min hc, fun ad F H vs Q c r q => by
  match vs, r with
  | [v], r =>
    obtain ⟨p, ws, rfl, e1, q1⟩ := rd_lst h c r.1
    have := Reps.of_ints q1
    subst this
    refine ⟨p, a :: ns, rfl, SqL.of e1, Nat.succ_pos _, fun m h1 h2 => ?_⟩
    obtain ⟨g1, g2⟩ := minI_in ns a
    cases Int.le_antisymm (h2 _ g1) (g2 m h1)
    exact q _ H ad .refl c Rep.int⟩
def maxW2 : WC := fun ss cs R => match ss with
  | [.dat (.int i), .dat (.int j)] => R (.dat (.int (if j > i then j else i))) cs
  | [s] => wL cs s fun ds => intsW ds fun ns => match ns with
    | a :: l => R (.dat (.int (maxI a l))) cs
    | [] => False
  | _ => False
theorem jc_max2 (hc : X.calm = true) : JCall X T "max" maxW2 := ⟨⟨.builtin "max", by decide +kernel, .inl ⟨_, rfl⟩⟩, fun ss cs R h => by
  unfold maxW2 at h
  split at h
  · exact ⟨_, _, cb_max hc, h⟩
  · obtain ⟨ds, h1, h⟩ := wL_of h
    obtain ⟨ns, e, h2⟩ := intsW_of h
    subst e
    split at h2
    · exact ⟨_, _, cb_maxL hc h1, h2⟩
    · exact h2.elim
  · exact h.elim⟩
def minW2 : WC := fun ss cs R => match ss with
  | [.dat (.int i), .dat (.int j)] => R (.dat (.int (if j < i then j else i))) cs
  | [s] => wL cs s fun ds => intsW ds fun ns => match ns with
    | a :: l => R (.dat (.int (minI a l))) cs
    | [] => False
  | _ => False
theorem jc_min2 (hc : X.calm = true) : JCall X T "min" minW2 := ⟨⟨.builtin "min", by decide +kernel, .inl ⟨_, rfl⟩⟩, fun ss cs R h => by
  unfold minW2 at h
  split at h
  · exact ⟨_, _, cb_min hc, h⟩
  · obtain ⟨ds, h1, h⟩ := wL_of h
    obtain ⟨ns, e, h2⟩ := intsW_of h
    subst e
    split at h2
    · exact ⟨_, _, cb_minL hc h1, h2⟩
    · exact h2.elim
  · exact h.elim⟩
end
end Dl

namespace Dl
open PySem L2
/-! ### o.f, o.g = a pair -/
section
variable {X : Cx} {T : Tab} {W : WX} {n cn : Nat} {C : Addr} {fn : List Str} {e o o1 o2 : Expr} {f g : Str} {pos p1 p2 tpos : Pos} {we wo1 wo2 : WpE} {ta : TE}
theorem reps2 {K : PySem.W.Frag} {M : Addr → Prop} {H : Hp} {vs : List V} {d1 d2 : D} (h : Reps T K M H vs [d1, d2]) : ∃ v1 v2, vs = [v1, v2] ∧ Rep T K M H v1 d1 ∧ Rep T K M H v2 d2 := by
  cases h with
  | cons a h =>
    cases h with
    | cons b h =>
      cases h
      exact ⟨_, _, rfl, a, b⟩
theorem tup2 {K : PySem.W.Frag} {M : Addr → Prop} {H : Hp} {v : V} {d1 d2 : D} (h : Rep T K M H v (.tup [d1, d2])) : ∃ a v1 v2, v = .ref a ∧ SqT K H a [v1, v2] ∧ Rep T K M H v1 d1 ∧ Rep T K M H v2 d2 := by
  cases h with
  | tup e1 rs =>
    obtain ⟨v1, v2, rfl, ra, rb⟩ := reps2 rs
    exact ⟨_, v1, v2, rfl, e1.sq, ra, rb⟩
theorem pg_at (ho : PE X o ta) (ha : ∀ v, assign (.Attribute o f p1) X.env v = (do
      let ov ← holding [v] (eval o X.env)
      standAt p1.atName
      holding [v, ov] (setAttr ov f v)
      release [v, ov] []) := by intro _; rfl) : PG X (.Attribute o f p1) (fun v σ H Q => ta σ H fun x H1 => ∃ a C dx fs, x = .ref a ∧ H1 a = some (.ins C dx fs) ∧ Cls X.K C ∧ NoAttr X.K C f ∧ fs.length < 1000 ∧ Q σ (upd H1 a (.ins C dx (putF f v fs)))) := ⟨fun pins s σ H v u Q I r h => by
  rw [ha]
  refine wpAny_bind (wpAny_holding (thn (ho.run pins s σ H _ I h) fun ov s1 z => ?_))
  obtain ⟨x, H1, I1, r1, a, C, dx, fs, rfl, ea, hc, hn, hl, q⟩ := z
  cases (show ov = Value.ref a from r1)
  exact wpAny_bind (wpAny_standAt (wpAny_bind (wpAny_holding (setattr_ok I1 ea hc hn hl r fun s3 I3 => wpAny_release ⟨σ, _, I3, q⟩))))⟩
theorem setF_then {K : PySem.W.Frag} {ad : List Addr} {F : Addr → Prop} {H : Hp} {cs : List Cell} {s : Sl} {d : D} {v w : V} {k : List Cell → Prop} (hT : T cn = some (C, fn)) (hc : Cls K C) (hn : NoAttr K C f) (h : HoldC T K ad F H cs) (r : SlRep T K ad F H w s) (rd : Rep T K (Mm ad F) H v d) (hw : setFW cn f s (.dat d) cs k) :
    ∃ a dx fs, w = .ref a ∧ H a = some (.ins C dx fs) ∧ fs.length < 1000 ∧ ∃ cs', k cs' ∧ HoldC T K ad F (upd H a (.ins C dx (putF f v fs))) cs' ∧ Ext ad F H ad (upd H a (.ins C dx (putF f v fs))) := by
  unfold setFW at hw
  split at hw
  · rename_i j dd heq
    cases heq
    split at hw
    · rename_i m fs hk
      obtain ⟨rfl, hf, hl, hw⟩ := hw
      obtain ⟨a, ea, rfl⟩ := r
      obtain ⟨C', fn', dx, vs, ht, e1, lv, rv⟩ := h.ce j a _ ea hk
      rw [hT] at ht
      cases ht
      have lz : ((fs.map (·.1)).zip vs).length < 1000 := by rw [List.length_zip, List.length_map]; omega
      refine ⟨a, dx, _, rfl, e1, lz, _, hw, ?_⟩
      rw [putF_new hf (by rw [lv, List.length_map])]
      have kp : Kp (Mm ad F) H (Mm ad F) (upd H a (.ins C dx ((fs.map (·.1) ++ [f]).zip (vs ++ [v])))) := fun b o e n => ⟨by rw [upd_ne (fun z => n (.inl (by rw [z]; exact List.mem_of_getElem? ea)))]; exact e, n⟩
      exact h.setc (o := .ins C dx ((fs.map (·.1) ++ [f]).zip (vs ++ [v]))) (c := .ins m (fs ++ [(f, d)])) ea ⟨C, fn, dx, vs ++ [v], hT, by rw [upd_same, List.map_append]; rfl, by simp [lv], by rw [List.map_append]; exact (rv.append (.cons rd .nil)).kp kp⟩
    · exact hw.elim
  · exact hw.elim
def wTupF (cn : Nat) (f g : Str) (we wo1 wo2 : WpE) : WS := fun S P => we S.sl S.cs (fun s c => match s with
  | .dat (.tup [d1, d2]) => wo1 S.sl c (fun s1 c1 => setFW cn f s1 (.dat d1) c1 fun c2 => wo2 S.sl c2 (fun s2 c3 => setFW cn g s2 (.dat d2) c3 fun c4 => P.nx ⟨S.sl, c4⟩) (fun x c => P.ex x ⟨S.sl, c⟩)) (fun x c => P.ex x ⟨S.sl, c⟩)
  | _ => False) (fun x c => P.ex x ⟨S.sl, c⟩)
theorem js_tupF {k : Nat} (hT : T cn = some (C, fn)) (hc : Cls X.K C) (hn1 : NoAttr X.K C f) (hn2 : NoAttr X.K C g) (he : JE X T W e we) (h1 : JE X T W o1 wo1) (h2 : JE X T W o2 wo2) (hcm : X.calm = true := by rfl)
    (hln : (assignEach [.Attribute o1 f p1, .Attribute o2 g p2] X.env).length = 2 := by rfl) (hst : (assignEach [.Attribute o1 f p1, .Attribute o2 g p2] X.env).findIdx? (·.1) = none := by rfl)
    (ha1 : ∀ v, assign (.Attribute o1 f p1) X.env v = (do
      let ov ← holding [v] (eval o1 X.env)
      standAt p1.atName
      holding [v, ov] (setAttr ov f v)
      release [v, ov] []) := by intro _; rfl)
    (ha2 : ∀ v, assign (.Attribute o2 g p2) X.env v = (do
      let ov ← holding [v] (eval o2 X.env)
      standAt p2.atName
      holding [v, ov] (setAttr ov g v)
      release [v, ov] []) := by intro _; rfl)
    (hs1 : (assignEach [.Attribute o1 f p1, .Attribute o2 g p2] X.env) = (false, assign (.Attribute o1 f p1) X.env) :: assignEach [.Attribute o2 g p2] X.env := by rfl) (hs2 : (assignEach [.Attribute o2 g p2] X.env) = (false, assign (.Attribute o2 g p2) X.env) :: assignEach [] X.env := by rfl)
    (hs : swapsWithSole [.Tuple [.Attribute o1 f p1, .Attribute o2 g p2] k tpos] e pos.line X.env = pure false := by rfl) (hw : swappedStores [.Tuple [.Attribute o1 f p1, .Attribute o2 g p2] k tpos] e X.env = pure none := by rfl)
    (hh : (assignEach [.Tuple [.Attribute o1 f p1, .Attribute o2 g p2] k tpos] X.env).map (·.2) = [assign (.Tuple [.Attribute o1 f p1, .Attribute o2 g p2] k tpos) X.env] := by rfl) :
    JS X T W n (.Assign [.Tuple [.Attribute o1 f p1, .Attribute o2 g p2] k tpos] e pos) (wTupF cn f g we wo1 wo2) := fun S P h =>
  weakS (ps_asg he (pg_tup (n := 2) hcm (pgs_cons (pg_at h1 ha1) (pgs_cons (pg_at h2 ha2) pgs_nil)) hln hst) hs hw hh) fun D σ H ⟨ad, F, hn, h0, q1, q2, q3, q4, q5⟩ => ⟨ad, F, S.sl, S.cs, _, _, h0, h, fun s c v H1 ad1 hR x1 h1' r1 => by
    split at hR
    · rename_i d1 d2
      obtain ⟨a, v1, v2, rfl, sq, ra, rb⟩ := tup2 r1
      refine ⟨a, [v1, v2], rfl, sq, rfl, v1, [v2], rfl, ad1, F, S.sl, c, _, _, h1', hR, fun s1 c1 w1 H2 ad2 hR2 x2 h2' r2 => ?_, (raz_of hn q5).on x1 h1'⟩
      obtain ⟨b1, dx1, fs1, rfl, g1, g2, c2, hR3, hc3, x3⟩ := setF_then hT hc hn1 h2'.hc r2 (Rep.kp x2.kp ra) hR2
      have h3 := h2'.to x3 hc3
      have x23 := x2.trans h2'.hc x3
      have x13 := x1.trans h1'.hc x23
      refine ⟨b1, C, dx1, fs1, rfl, g1, hc, hn1, g2, v2, [], rfl, ad2, F, S.sl, c2, _, _, h3, hR3, fun s2 c3 w2 H4 ad4 hR4 x4 h4 r4 => ?_, (raz_of hn q5).on x13 h3⟩
      obtain ⟨b2, dx2, fs2, rfl, g3, g4, c5, hR5, hc5, x5⟩ := setF_then hT hc hn2 h4.hc r4 (Rep.kp x4.kp (Rep.kp x23.kp rb)) hR4
      have x15 := x13.trans hc3 (x4.trans h4.hc x5)
      exact ⟨b2, C, dx2, fs2, rfl, g3, hc, hn2, g4, rfl, q1 _ _ _ ad4 (x15.s hn) (x15.le hn) (h4.to x5 hc5) hR5⟩
    · exact hR.elim, raz_of hn q5⟩
end
end Dl

namespace Dl
open PySem L2
/-! ### repr of a bool, None -/
section
variable {X : Cx} {T : Tab} {cs : List Cell}
def blS (b : Bool) : Str := if b then Str.ofString "True" else Str.ofString "False"
theorem call_reprB : CallR X (.builtin "repr") (fun xs H Q => ∃ b, xs = [.bl b] ∧ Q (.str (blS b)) H) := by
  intro pins s σ H xs us Q I r h
  obtain ⟨b, rfl, q⟩ := h
  obtain ⟨u, rfl, ru⟩ := vals1 r
  cases (show u = Value.bool b from ru)
  exact PySem.P.repr_of_bool ⟨.str (blS b), H, I.tok _, ⟨_, rfl⟩, q⟩
theorem cb_reprB {b : Bool} : CalB X T "repr" [.dat (.bl b)] cs (.dat (.str (blS b))) cs := ⟨_, _, by decide +kernel, .inl ⟨_, rfl⟩, call_reprB, fun ad F H vs Q c r q => by
  match vs, r with
  | [v], r =>
    have r1 := r.1
    cases r1
    exact ⟨b, rfl, q _ H ad .refl c Rep.str⟩⟩
theorem call_reprN : CallR X (.builtin "repr") (fun xs H Q => xs = [.non] ∧ Q (.str (Str.ofString "None")) H) := by
  intro pins s σ H xs us Q I r h
  obtain ⟨rfl, q⟩ := h
  obtain ⟨u, rfl, ru⟩ := vals1 r
  cases (show u = Value.none from ru)
  exact PySem.P.repr_of_none ⟨.str _, H, I.tok _, ⟨_, rfl⟩, q⟩
theorem cb_reprN : CalB X T "repr" [.dat .non] cs (.dat (.str (Str.ofString "None"))) cs := ⟨_, _, by decide +kernel, .inl ⟨_, rfl⟩, call_reprN, fun ad F H vs Q c r q => by
  match vs, r with
  | [v], r =>
    have r1 := r.1
    cases r1
    exact ⟨rfl, q _ H ad .refl c Rep.str⟩⟩
def reprW2 : WC := fun ss cs R => match ss with
  | [.dat (.bl b)] => R (.dat (.str (blS b))) cs
  | [.dat .non] => R (.dat (.str (Str.ofString "None"))) cs
  | ss => reprW ss cs R
theorem jc_repr2 (hG : X.A.guards = some []) (hu : X.A.units + 64 < cLine) : JCall X T "repr" reprW2 := ⟨⟨.builtin "repr", by decide +kernel, .inl ⟨_, rfl⟩⟩, fun ss cs R h => by
  unfold reprW2 at h
  split at h
  · exact ⟨_, _, cb_reprB, h⟩
  · exact ⟨_, _, cb_reprN, h⟩
  · exact (jc_repr hG hu).run _ _ _ h⟩
end
/-! ### {k: v ..} in plain proofs -/
theorem hasK_app (a b : List (Key × D)) (k : Key) : hasK (a ++ b) k = (hasK a k || hasK b k) := by unfold hasK; rw [List.any_append]
/-- {g(x): f(x) for x in .. if c(x)}, the keys are new -/
theorem dcW_filter {p : Pat} {wt : WpT} {wk wv : WpE} {sl : Sls} {α : Type} (g : α → D) (kf : α → Key) (f : α → D) (c : α → Bool) {cs : List Cell} : ∀ {xs : List α} {acc : List (Key × D)} {R : List (Key × D) → List Cell → Prop},
    (∀ x ∈ xs, ∃ sl', asgP p (g x) sl = some sl' ∧ (∀ R' : RB, R' (c x) cs → wt sl' cs R' noX) ∧ (c x = true → (∃ d, keyD d = some (kf x) ∧ ∀ R' : RV, R' (.dat d) cs → wk sl' cs R' noX) ∧ ∀ R' : RV, R' (.dat (f x)) cs → wv sl' cs R' noX)) →
    (∀ x ∈ xs, hasK acc (kf x) = false) → xs.Pairwise (fun x y => kf x ≠ kf y) → R (acc ++ (xs.filter c).map fun x => (kf x, f x)) cs → dcW p wt wk wv sl (xs.map g) acc cs R
  | [], acc, R, _, _, _, h => by
    have h : R (acc ++ []) cs := h
    rw [List.append_nil] at h
    exact h
  | x :: xs, acc, R, hx, ha, nd, h => by
    obtain ⟨sl', e, h1, h2⟩ := hx x List.mem_cons_self
    obtain ⟨n1, n2⟩ := List.pairwise_cons.mp nd
    refine asgW_i e (h1 _ ⟨fun z => ?_, fun z => ?_⟩)
    · obtain ⟨⟨d, hd, hk⟩, hv⟩ := h2 z
      refine hk _ (hv _ ?_)
      show isKey (.dat d) fun k => isDat (.dat (f x)) fun e => dcW p wt wk wv sl (xs.map g) (putD acc k e) cs R
      have ek : ∀ K : Key → Prop, K (kf x) → isKey (.dat d) K := fun K hK => by
        show (match keyD d with
          | some x => K x
          | none => False)
        rw [hd]
        exact hK
      refine ek _ ?_
      have ep : putD acc (kf x) (f x) = acc ++ [(kf x, f x)] := by unfold putD; rw [ha x List.mem_cons_self]; rfl
      show dcW p wt wk wv sl (xs.map g) (putD acc (kf x) (f x)) cs R
      rw [ep]
      refine dcW_filter (xs := xs) g kf f c (fun y hy => hx y (List.mem_cons_of_mem _ hy)) (fun y hy => ?_) n2 ?_
      · rw [hasK_app, ha y (List.mem_cons_of_mem _ hy)]
        show (false || hasK [(kf x, f x)] (kf y)) = false
        simp [hasK, n1 y hy]
      · rw [List.filter_cons_of_pos z] at h
        rw [List.append_assoc]
        exact h
    · rw [List.filter_cons_of_neg (by rw [z]; decide)] at h
      exact dcW_filter (xs := xs) g kf f c (fun y hy => hx y (List.mem_cons_of_mem _ hy)) (fun y hy => ha y (List.mem_cons_of_mem _ hy)) n2 h
end Dl

namespace Dl
open PySem L2
/-! ### C.m(..), m a static method of an own class -/
structure SmC (K : PySem.W.Frag) (C : Addr) (m : Str) (p f : Addr) : Prop where
  ga : PySem.W.specialIn K (.ref C) "__getattribute__" = some (some (.builtin "type.__getattribute__"))
  ty : PySem.W.typeIn K (.ref C) = some (.type "type")
  rd : PySem.W.readsIn K C (.type "type") = true
  fd : PySem.W.findCls K (.ref C) (.type "type") m = some (.get (.builtin "staticmethod.__get__") (.ref p) .none (.ref C))
  rc : ∃ rest, PySem.W.recIn K p "staticmethod" = some (.ref f :: rest)
/-- all arguments by their names, in order -/
def KwAll (fd : FuncData) (ps : List Str) : Prop := ∀ (s : Shared) (ws : List Value), ws.length = ps.length → BindsTo s fd ⟨[], ps.zip ws⟩ (ps.zip ws)
theorem Fun.kwAll {K : PySem.W.Frag} {x qual : Str} {st : Stmt} {f : Addr} {fd : FuncData} {ps : List Str} (F : L2.Fun K x qual st f fd)
    (h : ∀ (kV doc pm : Value) (an : Option Addr) (cdv ct : Value) (us : List Value), us.length = ps.length → bindArgs (PySem.W.fnOf x qual (defArgs st) (defBody st) (defScope st) .none kV doc pm an cdv ct) ⟨[], ps.zip us⟩ = pure (ps.zip us)) : KwAll fd ps := by
  obtain ⟨oc, od, kV, doc, pm, an, cdv, ct, osl, rfl, lk, hcd⟩ := F.ex
  exact fun s ws l => .of_eq (h kV doc pm an cdv ct ws l)
section
variable {X : Cx} {x m : Str} {p1 p2 pos : Pos} {e : Expr} {es : List Expr} {kws : List Keyword} {C q f : Addr} {k : Nat} {fd : FuncData} {ps : List Str} {sp : Sp} {E : St → XK} {t tk : TA} {pl : Sem Bool} {CX : CXT}
theorem getsm_ok {pins : List (Addr × Obj)} {σ : St} {H : Hp} {s : Shared} {Q : Value × List Value → Shared → Prop} (I : Inv X pins σ H s) (c : SmC X.K C m q f) (h : Q (.ref f, []) { s with toks := s.toks + 1 }) : wpAny (model X.prog X.w) X.A (getMethod (.ref C) m pl) Q X.xe s := by
  obtain ⟨mm, fr⟩ := I.fr
  obtain ⟨rest, rc⟩ := c.rc
  exact PySem.W.method_of_cls fr I.ok.mod.kin c.ga (PySem.W.cls_sm fr I.ok.mod.kin c.ty c.rd c.fd rc rfl h)
def tSm (sp : Sp) (E : St → XK) (t : TA) : TE := fun σ H Q => t σ H fun vs H1 => sp vs H1 Q (E σ)
theorem run_sm {pins : List (Addr × Obj)} {σ : St} {H : Hp} {s : Shared} {Q : VK} {us : List Value} {vs : List V} (G : FnOk X.prog X.w X.K X.mg X.base CX k f fd ps sp) (hr : Room k X.A) (hb : Binds X.K fd ps []) (hx : PassesAt CX X σ (E σ)) (I : Inv X pins σ H s) (r : Vals vs us) (h : sp vs H Q (E σ)) :
    wpAny (model X.prog X.w) X.A (call (.ref f) us) (EP X pins σ Q) X.xe s := by
  have hl : us.length = ps.length := by rw [← r.length]; exact G.len _ _ _ _ h
  have bt := hb s us I.kIn (by rw [List.append_nil]; exact hl)
  rw [List.append_nil] at bt
  refine wpAny_call (codeAny_mono (G.run X.A X.stack s H ⟨us, []⟩ us vs Q (E σ) hr I.env0 bt r h) fun z s' hq => ?_)
  match z, hq with
  | .error e, hq => exact hx pins H s e s' I hq
  | .ok (.ret u), hq => exact I.after hq
theorem pe_sm (hg : Gl X x) (hm : X.mg x = some (.ref C)) (c : SmC X.K C m q f) (hk : PySem.W.keepIn X.K (.ref f) = true) (G : FnOk X.prog X.w X.K X.mg X.base CX k f fd ps sp) (hr : Room k X.A) (hb : Binds X.K fd ps []) (hx : ∀ σ, PassesAt CX X σ (E σ)) (ha : PA X (e :: es) t) (hdb : (x == ("__debug__" : Str)) = false)
    (ht : eval (.Call (.Attribute (.Name x p1) m p2) (e :: es) [] pos) X.env = (eval (.Name x p1) X.env >>= fun ov => standAt p2.atName >>= fun _ => holding [ov] (getMethod ov m pl) >>= fun fb => callWith pos fb.1 fb.2 (backTo pos (starEach (e :: es) X.env)) (backToKw pos (keywordEach [] X.env))))
    (he : starEach (e :: es) X.env = (false, eval e X.env) :: starEach es X.env) (hpl : (backTo pos (starEach es X.env)).any (·.1) = false) :
    PE X (.Call (.Attribute (.Name x p1) m p2) (e :: es) [] pos) (tSm sp E t) := ⟨fun pins s σ H Q I h => by
  refine PySem.W.methodCall_KW (pl := pl) (ld_glob I hg hm (getsm_ok I c ?_) hdb) ht
  show wpAny _ _ (callWith pos (Value.ref f) [] (backTo pos (starEach (e :: es) X.env)) []) _ _ _
  refine PySem.W.callWith_K (h₀ := X.base) I.ok.mod.kin hk (thn (ha.run pos pins _ σ H _ (I.tok _) h) fun us s1 ⟨vs, H1, I1, r, q⟩ => ⟨I1.kIn, ?_⟩) he hpl
  exact run_sm G hr hb (hx σ) I1 r q⟩
theorem pe_sm0 (hg : Gl X x) (hm : X.mg x = some (.ref C)) (c : SmC X.K C m q f) (hk : PySem.W.keepIn X.K (.ref f) = true) (G : FnOk X.prog X.w X.K X.mg X.base CX k f fd ps sp) (hr : Room k X.A) (hb : Binds X.K fd ps []) (hx : ∀ σ, PassesAt CX X σ (E σ)) (hdb : (x == ("__debug__" : Str)) = false)
    (ht : eval (.Call (.Attribute (.Name x p1) m p2) [] [] pos) X.env = (eval (.Name x p1) X.env >>= fun ov => standAt p2.atName >>= fun _ => holding [ov] (getMethod ov m pl) >>= fun fb => callWith pos fb.1 fb.2 (backTo pos (starEach [] X.env)) (backToKw pos (keywordEach [] X.env)))) :
    PE X (.Call (.Attribute (.Name x p1) m p2) [] [] pos) (tSm sp E tNil) := ⟨fun pins s σ H Q I h => by
  refine PySem.W.methodCall_KW (pl := pl) (ld_glob I hg hm (getsm_ok I c ?_) hdb) ht
  show wpAny _ _ (callWith pos (Value.ref f) [] (backTo pos (starEach [] X.env)) []) _ _ _
  exact PySem.W.callWith_K0 (I.tok _).kIn hk (run_sm (us := []) (vs := []) G hr hb (hx σ) (I.tok _) .nil h)⟩
theorem pe_smK (hg : Gl X x) (hm : X.mg x = some (.ref C)) (c : SmC X.K C m q f) (hk : PySem.W.keepIn X.K (.ref f) = true) (G : FnOk X.prog X.w X.K X.mg X.base CX k f fd ps sp) (hr : Room k X.A) (hb : KwAll fd ps) (hx : ∀ σ, PassesAt CX X σ (E σ)) (hkw : PK X kws tk) (hdb : (x == ("__debug__" : Str)) = false)
    (ht : eval (.Call (.Attribute (.Name x p1) m p2) [] kws pos) X.env = (eval (.Name x p1) X.env >>= fun ov => standAt p2.atName >>= fun _ => holding [ov] (getMethod ov m pl) >>= fun fb => callWith pos fb.1 fb.2 (backTo pos (starEach [] X.env)) (backToKw pos (keywordEach kws X.env))))
    (hall : (backToKw pos (keywordEach kws X.env)).all (·.1.isSome) = true) (hks : (backToKw pos (keywordEach kws X.env)).filterMap (·.1) = ps) (hpl : ((backTo pos (starEach [] X.env)).any (·.1) || (backToKw pos (keywordEach kws X.env)).any (·.1.isNone)) = false) :
    PE X (.Call (.Attribute (.Name x p1) m p2) [] kws pos) (tSm sp E tk) := ⟨fun pins s σ H Q I h => by
  refine PySem.W.methodCall_KW (pl := pl) (ld_glob I hg hm (getsm_ok I c ?_) hdb) ht
  refine PySem.W.callWith_KW0 (first := []) (h₀ := X.base) I.ok.mod.kin hk hall (thn (hkw.run pos pins _ σ H _ (I.tok _) h) fun ws s1 z => ?_) hpl
  obtain ⟨zs, H1, I1, r, q1⟩ := z
  refine ⟨I1.kIn, ?_⟩
  rw [hks]
  have hl : ws.length = ps.length := by rw [← r.length]; exact G.len _ _ _ _ q1
  refine wpAny_call (codeAny_mono (G.run X.A X.stack s1 H1 ⟨[], ps.zip ws⟩ ws zs Q (E σ) hr I1.env0 (hb s1 ws hl) r q1) fun z s' hq => ?_)
  match z, hq with
  | .error e, hq => exact hx σ pins H1 s1 e s' I1 hq
  | .ok (.ret u), hq => exact I1.after hq⟩
end
section
variable {X : Cx} {T : Tab} {W : WX} {e : Expr} {es : List Expr} {kws : List Keyword} {pos p1 p2 : Pos} {wA wK : WpA} {c : Ct} {cx : CtX} {k : Nat} {fd : FuncData} {ps : List Str} {m y : Str} {C q f : Addr} {pl : Sem Bool}
theorem je_sm (hm : X.mg y = some (.ref C)) (s : SmC X.K C m q f) (hk : PySem.W.keepIn X.K (.ref f) = true) (G : FnOk X.prog X.w X.K X.mg X.base CX0 k f fd ps (spC T X.K c)) (hr : Room k X.A) (hb : Binds X.K fd ps []) (ha : JA X T W (e :: es) wA) (hg : Gl X y := by rfl) (hdb : (y == ("__debug__" : Str)) = false := by decide)
    (ht : eval (.Call (.Attribute (.Name y p1) m p2) (e :: es) [] pos) X.env = (eval (.Name y p1) X.env >>= fun ov => standAt p2.atName >>= fun _ => holding [ov] (getMethod ov m pl) >>= fun fb => callWith pos fb.1 fb.2 (backTo pos (starEach (e :: es) X.env)) (backToKw pos (keywordEach [] X.env))) := by rfl)
    (he : starEach (e :: es) X.env = (false, eval e X.env) :: starEach es X.env := by rfl) (hpl : (backTo pos (starEach es X.env)).any (·.1) = false := by rfl) : JE X T W (.Call (.Attribute (.Name y p1) m p2) (e :: es) [] pos) (wFn c wA) :=
  weak (pe_sm (E := fun _ => E0) hg hm s hk G hr hb (fun σ => pass_no) ha hdb ht he hpl) fun σ H Q ⟨ad, F, sl, cs, R, Rx, h0, hw, q, qx⟩ => ⟨ad, F, sl, cs, _, Rx, h0, hw, fun ss c1 vs H1 ad1 hw1 x1 h1 r1 =>
    callW_then h1.hc r1 hw1 fun s c' v H' ad' hR x2 k2 r2 => q s c' v H' ad' hR (x1.trans h1.hc x2) (h1.to x2 k2) r2, qx⟩
theorem je_smX (tk : Takes X W) (hm : X.mg y = some (.ref C)) (s : SmC X.K C m q f) (hk : PySem.W.keepIn X.K (.ref f) = true) (G : FnOk X.prog X.w X.K X.mg X.base (L2.CX X.prog X.w) k f fd ps (spX T X.K c cx)) (hr : Room k X.A) (hb : Binds X.K fd ps []) (ha : JA X T W (e :: es) wA) (hg : Gl X y := by rfl) (hdb : (y == ("__debug__" : Str)) = false := by decide)
    (ht : eval (.Call (.Attribute (.Name y p1) m p2) (e :: es) [] pos) X.env = (eval (.Name y p1) X.env >>= fun ov => standAt p2.atName >>= fun _ => holding [ov] (getMethod ov m pl) >>= fun fb => callWith pos fb.1 fb.2 (backTo pos (starEach (e :: es) X.env)) (backToKw pos (keywordEach [] X.env))) := by rfl)
    (he : starEach (e :: es) X.env = (false, eval e X.env) :: starEach es X.env := by rfl) (hpl : (backTo pos (starEach es X.env)).any (·.1) = false := by rfl) : JE X T W (.Call (.Attribute (.Name y p1) m p2) (e :: es) [] pos) (wFnX c cx wA) :=
  weak (pe_sm (E := WE W) hg hm s hk G hr hb (passAt tk) ha hdb ht he hpl) fun σ H Q ⟨ad, F, sl, cs, R, Rx, h0, hw, q, qx⟩ => ⟨ad, F, sl, cs, _, Rx, h0, hw, fun ss c1 vs H1 ad1 hw1 x1 h1 r1 =>
    callXW_then h1.hc r1 hw1 (fun s c' v H' ad' hR x2 k2 r2 => q s c' v H' ad' hR (x1.trans h1.hc x2) (h1.to x2 k2) r2) (fun x c' cls d H' ad' hR x2 k2 er => qx x c' cls d H' ad' hR (x1.trans h1.hc x2) (h1.to x2 k2) er), qx⟩
theorem je_sm0 (hm : X.mg y = some (.ref C)) (s : SmC X.K C m q f) (hk : PySem.W.keepIn X.K (.ref f) = true) (G : FnOk X.prog X.w X.K X.mg X.base CX0 k f fd ps (spC T X.K c)) (hr : Room k X.A) (hb : Binds X.K fd ps []) (hg : Gl X y := by rfl) (hdb : (y == ("__debug__" : Str)) = false := by decide)
    (ht : eval (.Call (.Attribute (.Name y p1) m p2) [] [] pos) X.env = (eval (.Name y p1) X.env >>= fun ov => standAt p2.atName >>= fun _ => holding [ov] (getMethod ov m pl) >>= fun fb => callWith pos fb.1 fb.2 (backTo pos (starEach [] X.env)) (backToKw pos (keywordEach [] X.env))) := by rfl) : JE X T W (.Call (.Attribute (.Name y p1) m p2) [] [] pos) (wFn c wNil) :=
  weak (pe_sm0 (E := fun _ => E0) hg hm s hk G hr hb (fun σ => pass_no) hdb ht) fun σ H Q ⟨ad, F, sl, cs, R, Rx, h0, hw, q, qx⟩ => by
    show spC T X.K c [] H Q E0
    exact callW_then (ss := []) (vs := []) h0.hc trivial hw fun s c' v H' ad' hR x2 k2 r2 => q s c' v H' ad' hR x2 (h0.to x2 k2) r2
theorem je_smK (hm : X.mg y = some (.ref C)) (s : SmC X.K C m q f) (hk : PySem.W.keepIn X.K (.ref f) = true) (G : FnOk X.prog X.w X.K X.mg X.base CX0 k f fd ps (spC T X.K c)) (hr : Room k X.A) (hb : KwAll fd ps) (hkw : JK X T W kws wK) (hg : Gl X y := by rfl) (hdb : (y == ("__debug__" : Str)) = false := by decide)
    (ht : eval (.Call (.Attribute (.Name y p1) m p2) [] kws pos) X.env = (eval (.Name y p1) X.env >>= fun ov => standAt p2.atName >>= fun _ => holding [ov] (getMethod ov m pl) >>= fun fb => callWith pos fb.1 fb.2 (backTo pos (starEach [] X.env)) (backToKw pos (keywordEach kws X.env))) := by rfl)
    (hall : (backToKw pos (keywordEach kws X.env)).all (·.1.isSome) = true := by rfl) (hks : (backToKw pos (keywordEach kws X.env)).filterMap (·.1) = ps := by rfl) (hpl : ((backTo pos (starEach [] X.env)).any (·.1) || (backToKw pos (keywordEach kws X.env)).any (·.1.isNone)) = false := by rfl) : JE X T W (.Call (.Attribute (.Name y p1) m p2) [] kws pos) (wFn c wK) :=
  weak (pe_smK (E := fun _ => E0) hg hm s hk G hr hb (fun σ => pass_no) hkw hdb ht hall hks hpl) fun σ H Q ⟨ad, F, sl, cs, R, Rx, h0, hw, q, qx⟩ => ⟨ad, F, sl, cs, _, Rx, h0, hw, fun ss c1 vs H1 ad1 hw1 x1 h1 r1 =>
    callW_then h1.hc r1 hw1 fun s c' v H' ad' hR x2 k2 r2 => q s c' v H' ad' hR (x1.trans h1.hc x2) (h1.to x2 k2) r2, qx⟩
end
/-! ### x in a list that is only read -/
section
variable {X : Cx} {T : Tab} {d : D} {ds : List D} {cs : List Cell}
theorem cmp_inL {v : V} {ws : List V} (h1 : fv d = some v) (h2 : fvs ds = some ws) : CmpD X T .In (.dat d) (.dat (.lst ds)) cs (.dat (.bl (inV v ws))) cs := ⟨_, op_in_seq, fun ad F H x y Q c r1 r2 q => by
  cases r2 with
  | @lst a xs _ n e1 q1 =>
    obtain ⟨rfl, fx⟩ := fv_rep r1 h1
    obtain ⟨rfl, fs⟩ := fvs_reps q1 h2
    exact ⟨a, _, rfl, .inl (SqL.of e1), fx, fs, q _ H ad .refl c Rep.bl⟩⟩
theorem cmp_ninL {v : V} {ws : List V} (h1 : fv d = some v) (h2 : fvs ds = some ws) : CmpD X T .NotIn (.dat d) (.dat (.lst ds)) cs (.dat (.bl (!inV v ws))) cs := ⟨_, op_notIn_seq, fun ad F H x y Q c r1 r2 q => by
  cases r2 with
  | @lst a xs _ n e1 q1 =>
    obtain ⟨rfl, fx⟩ := fv_rep r1 h1
    obtain ⟨rfl, fs⟩ := fvs_reps q1 h2
    exact ⟨a, _, rfl, .inl (SqL.of e1), fx, fs, q _ H ad .refl c Rep.bl⟩⟩
def inLW (neg : Bool) : W2 := fun s1 s2 cs R => match s1, s2 with
  | .dat d, .dat (.lst ds) => match fv d, fvs ds with
    | some v, some ws => R (.dat (.bl (neg.xor (inV v ws)))) cs
    | _, _ => False
  | _, _ => False
theorem jc_inL : JCmp X T .In (inLW false) := fun s1 s2 cs R h => by
  unfold inLW at h
  split at h
  · split at h
    · rename_i h1 h2
      exact ⟨_, _, cmp_inL h1 h2, by simpa using h⟩
    · exact h.elim
  · exact h.elim
theorem jc_notinL : JCmp X T .NotIn (inLW true) := fun s1 s2 cs R h => by
  unfold inLW at h
  split at h
  · split at h
    · rename_i h1 h2
      exact ⟨_, _, cmp_ninL h1 h2, by simpa using h⟩
    · exact h.elim
  · exact h.elim
end
end Dl

namespace Dl
open PySem L2
/-! ### own ~, a module's tuple of truths by its name, list * n -/
section
variable {X : Cx} {T : Tab} {W : WX} {c : Ct} {k cn : Nat} {fd : FuncData} {ps : List Str} {C g : Addr} {fn : List Str} {cs : List Cell} {ds : List D} {d : D}
theorem un_ownID (hT : T cn = some (C, fn)) (G : FnOk X.prog X.w X.K X.mg X.base CX0 k g fd ps (spC T X.K c)) (hr : Room k X.A) (hb : Binds X.K fd ps []) (hs : PySem.W.findIn X.K (.ref C) "__invert__" = some (some (.ref g))) (hf : PySem.W.isFn X.K (.ref g) = true)
    (hq : c [.dat (.obj cn ds)] [] (.dat d) []) : UnD X T .Invert (.dat (.obj cn ds)) cs (.dat d) cs := ⟨_, un_ownInv G hr hb hs hf, fun ad F H v Q cc r1 q => by
  have s1 := r1
  cases r1 with
  | @obj a C' dx _ fn' vs' _ ht na e1 hl r =>
    rw [hT] at ht
    cases ht
    exact ⟨a, dx, _, rfl, e1, spC0 (ds := [.obj cn ds]) hq cc ⟨s1, trivial⟩ fun v H' x2 c2 r2 => q v H' ad x2 c2 r2⟩⟩
theorem ju_no {op : UnaryOp} : JUn X T op (fun _ _ _ => False) := fun s1 cs R h => h.elim
theorem ju_oI {w1 : W1} (hT : T cn = some (C, fn)) (G : FnOk X.prog X.w X.K X.mg X.base CX0 k g fd ps (spC T X.K c)) (hr : Room k X.A) (hb : Binds X.K fd ps []) (hs : PySem.W.findIn X.K (.ref C) "__invert__" = some (some (.ref g))) (hf : PySem.W.isFn X.K (.ref g) = true) (h : JUn X T .Invert w1) : JUn X T .Invert (selW1 (isO cn) (ownW1 c) w1) := fun s1 cs R hw => by
  unfold selW1 at hw
  split at hw
  · obtain ⟨ds, rfl⟩ := isO_of ‹_›
    obtain ⟨d, hq, hR⟩ := hw
    exact ⟨_, _, un_ownID hT G hr hb hs hf hq, hR⟩
  · exact h _ _ _ hw
theorem reps_bl {K : PySem.W.Frag} {M : Addr → Prop} {H : Hp} : ∀ bs : List Bool, Reps T K M H (bs.map V.bl) (bs.map D.bl)
  | [] => .nil
  | b :: bs => .cons Rep.bl (reps_bl bs)
theorem je_gtup {x : Str} {pos : Pos} {a : Addr} {bs : List Bool} (hm : X.mg x = some (.ref a)) (hs : SqT X.K (fun _ => none) a (bs.map V.bl)) (hg : Gl X x := by rfl) (hd : (x == ("__debug__" : Str)) = false := by decide) : JE X T W (.Name x pos) (wCon (.tup (bs.map D.bl))) :=
  weak (pe_glob (v := .ref a) hg hm rfl hd) fun σ H Q ⟨ad, F, sl, cs, R, Rx, h0, hw, q, qx⟩ => q _ cs _ H ad hw .refl h0 (Rep.tup (.inr hs) (reps_bl bs))
def PLs (_ s2 : Sl) : Bool := match s2 with
  | .dat (.lst _) => true
  | _ => false
theorem jc_inLT {w : W2} (h : JCmp X T .In w) : JCmp X T .In (selW PLs (inLW false) w) := jc_sel (fun s1 s2 cs R _ hw => jc_inL s1 s2 cs R hw) h
theorem jc_notinLT {w : W2} (h : JCmp X T .NotIn w) : JCmp X T .NotIn (selW PLs (inLW true) w) := jc_sel (fun s1 s2 cs R _ hw => jc_notinL s1 s2 cs R hw) h
end
end Dl

namespace Dl
open PySem L2
/-! ### a repr is a text that may be compared -/
def TsO (x : Str) : Prop := ∀ c ∈ x.cps.toList, c < 0x110000
theorem TsO.ok {x : Str} (h : TsO x) : PyData.canLay0 (.str x) = true := by
  have e : PyData.strOk x = true := by
    unfold PyData.strOk
    rw [← Array.all_toList, List.all_eq_true]
    exact fun c hc => decide_eq_true (h c hc)
  simpa [PyData.canLay0] using e
theorem ts_str (s : String) : TsO (Str.ofString s) := by
  unfold TsO
  rw [Str.ofString_eq_toList]
  intro c hc
  obtain ⟨ch, _, rfl⟩ := List.mem_map.mp hc
  have := ch.valid
  show ch.val.toNat < 0x110000
  rcases this with h | h
  · exact Nat.lt_trans h (by decide)
  · exact h.2
theorem ts_app {a b : Str} (ha : TsO a) (hb : TsO b) : TsO (a ++ b) := by
  intro c hc
  rw [PySem.Str.cps_append, Array.toList_append, List.mem_append] at hc
  exact hc.elim (ha c) (hb c)
theorem ts_join {s : Str} (hs : TsO s) : ∀ {ts : List Str}, (∀ t ∈ ts, TsO t) → TsO (Str.join s ts)
  | [], _ => fun c hc => nomatch hc
  | [x], h => h x List.mem_cons_self
  | x :: y :: r, h => ts_app (ts_app (h x List.mem_cons_self) hs) (ts_join hs fun t ht => h t (List.mem_cons_of_mem _ ht))
theorem ts_from : ∀ (ts : List Str) (k : Nat) (acc : Str), TsO acc → (∀ t ∈ ts, TsO t) → TsO (PySem.textFrom k acc ts)
  | [], k, acc, h, _ => h
  | t :: ts, k, acc, h, ht => ts_from ts (k + 1) _ (ts_app (ts_app h (ts_str _)) (ht t List.mem_cons_self)) fun u hu => ht u (List.mem_cons_of_mem _ hu)
mutual
def strF : D → Bool
  | .str _ => false
  | .tup xs => strFs xs
  | .lst xs => strFs xs
  | .scr xs => strFs xs
  | _ => true
def strFs : List D → Bool
  | [] => true
  | x :: xs => strF x && strFs xs
end
theorem strFs_map {α : Type} {f : α → D} (h : ∀ x, strF (f x) = true) : ∀ xs : List α, strFs (xs.map f) = true
  | [] => rfl
  | x :: xs => by
    show (strF (f x) && strFs (xs.map f)) = true
    rw [h, strFs_map h xs]
    rfl
mutual
theorem shown_ts : ∀ d : D, strF d = true → TsO d.py.shown
  | .non, _ => ts_str _
  | .bl true, _ => ts_str _
  | .bl false, _ => ts_str _
  | .int i, _ => ts_str _
  | .tup xs, h => by
    show TsO (PySem.tupleText (PyData.shownAll (D.pys xs)))
    unfold PySem.tupleText
    exact ts_app (ts_app (ts_str _) (ts_join (ts_str _) (showns_ts xs h))) (ts_str _)
  | .lst xs, h => ts_app (ts_from _ _ _ (ts_str _) (showns_ts xs h)) (ts_str _)
  | .scr xs, h => ts_app (ts_from _ _ _ (ts_str _) (showns_ts xs h)) (ts_str _)
  | .obj _ _, _ => ts_str _
  | .err _ _ _ _, _ => ts_str _
  | .cls _, _ => ts_str _
  | .dct _ _, _ => ts_str _
theorem showns_ts : ∀ ds : List D, strFs ds = true → ∀ t ∈ PyData.shownAll (D.pys ds), TsO t
  | [], _ => fun t ht => nomatch ht
  | d :: ds, h => by
    have h := Bool.and_eq_true_iff.mp h
    intro t ht
    rcases List.mem_cons.mp ht with rfl | ht
    · exact shown_ts d h.1
    · exact showns_ts ds h.2 t ht
end
theorem rpr_ok {d : D} (h : strF d = true) : PyData.canLay0 (.str (rprD d)) = true := (shown_ts d h).ok
end Dl

namespace Dl
open PySem L2
/-! ### x == y, x != y; x of an own class, y of another own one -/
section
variable {X : Cx} {T : Tab} {C C2 g : Addr} {fd : FuncData} {ps : List Str} {k cn cm : Nat} {c : Ct} {fn fm : List Str} {ds es : List D} {d : D} {cs : List Cell} {w2 : W2}
theorem cop_ownEqO {sp : Sp} (hsub : PySem.W.subIn X.K (.ref C2) (.ref C) = some false) (G : FnOk X.prog X.w X.K X.mg X.base CX0 k g fd ps sp) (hr : Room k X.A) (hb : Binds X.K fd ps []) (hs : PySem.W.findIn X.K (.ref C) "__eq__" = some (some (.ref g))) (hf : PySem.W.isFn X.K (.ref g) = true) :
    OpR X (compareOp .Eq) (fun x y H Q => ∃ a dx fs, x = .ref a ∧ H a = some (.ins C dx fs) ∧ TyX X.K H y (.ref C2) ∧ sp [x, y] H Q E0) := by
  intro pins s σ H x y v u Q I rx ry h
  obtain ⟨a, dx, fs, rfl, ea, ty, hsp⟩ := h
  cases rx
  obtain ⟨mA, J, _⟩ := ins_get I.hok ea
  obtain ⟨od, J, _⟩ := J.look
  obtain ⟨Pk, kx, pk, _⟩ := kit_of I ry ty
  obtain ⟨m, hF⟩ := I.fr
  exact PySem.W.cmp_K (op := .Eq) (tb := .ref C2) hr.units0 hF I.ok.mod.kin J (kx.ty _ _ I.kIn pk) (by simp [PySem.W.notFirst, hsub]) hs hf (thn (run_vals (us := [.ref a, u]) (vs := [.ref a, y]) G hr hb I (.cons rfl (.cons ry .nil)) hsp) fun _ _ z => cmpb z)
theorem cop_ownNeO {sp : Sp} (N : NeC X.K C) (hsub : PySem.W.subIn X.K (.ref C2) (.ref C) = some false) (G : FnOk X.prog X.w X.K X.mg X.base CX0 k g fd ps sp) (hr : Room (k + 1) X.A) (hb : Binds X.K fd ps []) (hs : PySem.W.findIn X.K (.ref C) "__eq__" = some (some (.ref g))) (hf : PySem.W.isFn X.K (.ref g) = true) :
    OpR X (compareOp .NotEq) (fun x y H Q => ∃ a dx fs, x = .ref a ∧ H a = some (.ins C dx fs) ∧ TyX X.K H y (.ref C2) ∧ sp [x, y] H (fun v H' => ∃ b, v = .bl b ∧ Q (.bl (!b)) H') E0) := by
  intro pins s σ H x y v u Q I rx ry h
  obtain ⟨a, dx, fs, rfl, ea, ty, hsp⟩ := h
  cases rx
  obtain ⟨mA, J, _⟩ := ins_get I.hok ea
  obtain ⟨od, J, _⟩ := J.look
  obtain ⟨Pk, kx, pk, _⟩ := kit_of I ry ty
  have hu : X.A.units + 1 < cLine := hr.in1.units0
  show wpAny _ _ (richCompare .NotEq (.ref a) u) _ _ _
  refine ne_KT hu I.kIn J (kx.ty _ _ I.kIn pk) hsub N.mr N.ne hs hf (thn (run_in1 (us := [.ref a, u]) (vs := [.ref a, y]) G hr hb I (.cons rfl (.cons ry .nil)) hsp) fun u s' z => ?_)
  obtain ⟨v, H', I', r, b', rfl, q⟩ := z
  cases (show u = Value.bool b' from r)
  exact ⟨b', rfl, .bl (!b'), H', I', rfl, q⟩
theorem cmp_ownEqO (hT : T cn = some (C, fn)) (hT2 : T cm = some (C2, fm)) (hI : IsiC X.K C2) (hsub : PySem.W.subIn X.K (.ref C2) (.ref C) = some false) (G : FnOk X.prog X.w X.K X.mg X.base CX0 k g fd ps (spC T X.K c)) (hr : Room k X.A) (hb : Binds X.K fd ps []) (hs : PySem.W.findIn X.K (.ref C) "__eq__" = some (some (.ref g))) (hf : PySem.W.isFn X.K (.ref g) = true)
    (hq : c [.dat (.obj cn ds), .dat (.obj cm es)] [] (.dat d) []) : CmpD X T .Eq (.dat (.obj cn ds)) (.dat (.obj cm es)) cs (.dat d) cs := ⟨_, cop_ownEqO hsub G hr hb hs hf, fun ad F H v w Q cc r1 r2 q => by
  have s1 := r1
  have s2 := r2
  cases r1 with
  | @obj a C' dx _ fn' vs' _ ht' na e1 hl r =>
    rw [hT] at ht'
    cases ht'
    cases r2 with
    | @obj a2 C2' dx2 _ fn2 vs2 _ ht2 na2 e2 hl2 r2 =>
      rw [hT2] at ht2
      cases ht2
      exact ⟨a, dx, _, rfl, e1, .base (.ins e2 hI.cl hI.ca hI.cn hI.ct hI.cm), spC0 (ds := [.obj cn ds, .obj cm es]) hq cc ⟨s1, s2, trivial⟩ fun v H' x2 c2 r2 => q v H' ad x2 c2 r2⟩⟩
theorem cmp_ownNeO (hT : T cn = some (C, fn)) (hT2 : T cm = some (C2, fm)) (N : NeC X.K C) (hI : IsiC X.K C2) (hsub : PySem.W.subIn X.K (.ref C2) (.ref C) = some false) (G : FnOk X.prog X.w X.K X.mg X.base CX0 k g fd ps (spC T X.K c)) (hr : Room (k + 1) X.A) (hb : Binds X.K fd ps []) (hs : PySem.W.findIn X.K (.ref C) "__eq__" = some (some (.ref g))) (hf : PySem.W.isFn X.K (.ref g) = true)
    {b : Bool} (hq : c [.dat (.obj cn ds), .dat (.obj cm es)] [] (.dat (.bl b)) []) : CmpD X T .NotEq (.dat (.obj cn ds)) (.dat (.obj cm es)) cs (.dat (.bl (!b))) cs := ⟨_, cop_ownNeO N hsub G hr hb hs hf, fun ad F H v w Q cc r1 r2 q => by
  have s1 := r1
  have s2 := r2
  cases r1 with
  | @obj a C' dx _ fn' vs' _ ht' na e1 hl r =>
    rw [hT] at ht'
    cases ht'
    cases r2 with
    | @obj a2 C2' dx2 _ fn2 vs2 _ ht2 na2 e2 hl2 r2 =>
      rw [hT2] at ht2
      cases ht2
      refine ⟨a, dx, _, rfl, e1, .base (.ins e2 hI.cl hI.ca hI.cn hI.ct hI.cm), spC0 (ds := [.obj cn ds, .obj cm es]) hq cc ⟨s1, s2, trivial⟩ fun v H' x2 c2 r2 => ?_⟩
      cases r2
      exact ⟨b, rfl, q _ H' ad x2 c2 Rep.bl⟩⟩
def PO (cn cm : Nat) (s1 s2 : Sl) : Bool := isO cn s1 && isO cm s2
theorem jc_oEqO (hT : T cn = some (C, fn)) (hT2 : T cm = some (C2, fm)) (hI : IsiC X.K C2) (hsub : PySem.W.subIn X.K (.ref C2) (.ref C) = some false) (G : FnOk X.prog X.w X.K X.mg X.base CX0 k g fd ps (spC T X.K c)) (hr : Room k X.A) (hb : Binds X.K fd ps []) (hs : PySem.W.findIn X.K (.ref C) "__eq__" = some (some (.ref g))) (hf : PySem.W.isFn X.K (.ref g) = true) (h : JCmp X T .Eq w2) :
    JCmp X T .Eq (selW (PO cn cm) (ownW c) w2) := jc_sel (fun s1 s2 cs R hP ⟨d, hq, hR⟩ => by
  obtain ⟨h1, h2⟩ := Bool.and_eq_true_iff.mp hP
  obtain ⟨ds, rfl⟩ := isO_of h1
  obtain ⟨es, rfl⟩ := isO_of h2
  exact ⟨_, _, cmp_ownEqO hT hT2 hI hsub G hr hb hs hf hq, hR⟩) h
theorem jc_oNeO (hT : T cn = some (C, fn)) (hT2 : T cm = some (C2, fm)) (N : NeC X.K C) (hI : IsiC X.K C2) (hsub : PySem.W.subIn X.K (.ref C2) (.ref C) = some false) (G : FnOk X.prog X.w X.K X.mg X.base CX0 k g fd ps (spC T X.K c)) (hr : Room (k + 1) X.A) (hb : Binds X.K fd ps []) (hs : PySem.W.findIn X.K (.ref C) "__eq__" = some (some (.ref g))) (hf : PySem.W.isFn X.K (.ref g) = true) (h : JCmp X T .NotEq w2) :
    JCmp X T .NotEq (selW (PO cn cm) (ownNeW c) w2) := jc_sel (fun s1 s2 cs R hP ⟨b, hq, hR⟩ => by
  obtain ⟨h1, h2⟩ := Bool.and_eq_true_iff.mp hP
  obtain ⟨ds, rfl⟩ := isO_of h1
  obtain ⟨es, rfl⟩ := isO_of h2
  exact ⟨_, _, cmp_ownNeO hT hT2 N hI hsub G hr hb hs hf hq, hR⟩) h
end
end Dl

namespace K
open PySem L2 Dl
def top (i : Nat) : Stmt := PySem.Challenge.pw_clashcounts_k29_sizes_refused.main.body.getD i (.Pass ⟨0, 0, 0, 0⟩)
abbrev FD (K : PySem.W.Frag) (x qual : Str) (st : Stmt) (dvs : List V) (kws : List (Str × V)) (f : Addr) (fd : FuncData) : Prop := FunD K x qual (defArgs st) (defBody st) (defScope st) dvs kws f fd
abbrev s__law_box : Stmt := top 25
theorem sc__law_box : FnScope ["_law_script", "_law_k", "_law_cell", "_law_seed"] ["_law_script", "_law_k"] (defScope s__law_box) := ⟨rfl, rfl, rfl, by decide +kernel, rfl, by decide +kernel, by decide +kernel⟩
abbrev s__law_parts_of : Stmt := top 27
theorem sc__law_parts_of : FnScope ["_law_number", "_law_size"] ["_law_number"] (defScope s__law_parts_of) := ⟨rfl, rfl, rfl, by decide +kernel, rfl, by decide +kernel, by decide +kernel⟩
abbrev s__law_take : Stmt := top 26
theorem sc__law_take : FnScope ["_law_box_here", "_law_many", "_law_digit", "_law_one"] ["_law_box_here", "_law_many"] (defScope s__law_take) := ⟨rfl, rfl, rfl, by decide +kernel, rfl, by decide +kernel, by decide +kernel⟩
abbrev s__law_period : Stmt := top 28
theorem sc__law_period : FnScope ["_law_box_here"] ["_law_box_here"] (defScope s__law_period) := ⟨rfl, rfl, rfl, by decide +kernel, rfl, by decide +kernel, by decide +kernel⟩
abbrev s__law_odds : Stmt := top 30
theorem sc__law_odds : FnScope ["_law_box_here", "_law_found", "_law_n", "_law_many", "_law_k"] ["_law_box_here"] (defScope s__law_odds) := ⟨rfl, rfl, rfl, by decide +kernel, rfl, by decide +kernel, by decide +kernel⟩
abbrev s__law_model : Stmt := top 31
theorem sc__law_model : FnScope ["_law_box_here", "_law_cycle", "_law_form", "_law_some", "_law_kinds", "_law_size"] ["_law_box_here"] (defScope s__law_model) := ⟨rfl, rfl, rfl, by decide +kernel, rfl, by decide +kernel, by decide +kernel⟩
abbrev s_InvalidSizes___init__ : Stmt := inClass (top 6) 0
theorem sc_InvalidSizes___init__ : FnScope ["self", "word"] ["self", "word"] (defScope s_InvalidSizes___init__) := ⟨rfl, rfl, rfl, by decide +kernel, rfl, by decide +kernel, by decide +kernel⟩
abbrev s_prime_powers : Stmt := top 13
theorem sc_prime_powers : FnScope ["number", "found", "left", "prime", "power"] ["number"] (defScope s_prime_powers) := ⟨rfl, rfl, rfl, by decide +kernel, rfl, by decide +kernel, by decide +kernel⟩
abbrev s_is_needless : Stmt := top 21
theorem sc_is_needless : FnScope ["period", "known", "prime", "size"] ["period", "known", "prime"] (defScope s_is_needless) := ⟨rfl, rfl, rfl, by decide +kernel, rfl, by decide +kernel, by decide +kernel⟩
abbrev s_shortest : Stmt := top 22
theorem sc_shortest : FnScope ["period", "classes", "known", "size", "prime", "power", "turn"] ["period", "classes"] (defScope s_shortest) := ⟨rfl, rfl, rfl, by decide +kernel, rfl, by decide +kernel, by decide +kernel⟩
abbrev s_is_integer : Stmt := top 9
theorem sc_is_integer : FnScope ["value"] ["value"] (defScope s_is_integer) := ⟨rfl, rfl, rfl, by decide +kernel, rfl, by decide +kernel, by decide +kernel⟩
abbrev s_are_sizes : Stmt := top 20
theorem sc_are_sizes : FnScope ["value", "number", "a", "b"] ["value"] (defScope s_are_sizes) := ⟨rfl, rfl, rfl, by decide +kernel, rfl, by decide +kernel, by decide +kernel⟩
abbrev s_Sizes___init__ : Stmt := inClass (top 23) 0
theorem sc_Sizes___init__ : FnScope ["self", "period", "classes", "odd", "size"] ["self", "period", "classes", "odd"] (defScope s_Sizes___init__) := ⟨rfl, rfl, rfl, by decide +kernel, rfl, by decide +kernel, by decide +kernel⟩
abbrev s__law_told : Stmt := top 39
theorem sc__law_told : FnScope ["_law_cycle", "_law_kinds", "_law_odd_ones", "_law_found", "e"] ["_law_cycle", "_law_kinds", "_law_odd_ones"] (defScope s__law_told) := ⟨rfl, rfl, rfl, by decide +kernel, rfl, by decide +kernel, by decide +kernel⟩
abbrev s__law_is_whole : Stmt := top 34
theorem sc__law_is_whole : FnScope ["_law_thing_here"] ["_law_thing_here"] (defScope s__law_is_whole) := ⟨rfl, rfl, rfl, by decide +kernel, rfl, by decide +kernel, by decide +kernel⟩
abbrev s__law_ascends : Stmt := top 35
theorem sc__law_ascends : FnScope ["_law_thing_here", "_law_last", "_law_number"] ["_law_thing_here"] (defScope s__law_ascends) := ⟨rfl, rfl, rfl, by decide +kernel, rfl, by decide +kernel, by decide +kernel⟩
abbrev s__law_due : Stmt := top 36
theorem sc__law_due : FnScope ["_law_model_here", "_law_cycle", "_law_kinds", "_law_odd_ones", "_law_size"] ["_law_model_here"] (defScope s__law_due) := ⟨rfl, rfl, rfl, by decide +kernel, rfl, by decide +kernel, by decide +kernel⟩
abbrev s_InvalidSize___init__ : Stmt := inClass (top 7) 0
theorem sc_InvalidSize___init__ : FnScope ["self", "size"] ["self", "size"] (defScope s_InvalidSize___init__) := ⟨rfl, rfl, rfl, by decide +kernel, rfl, by decide +kernel, by decide +kernel⟩
abbrev s_Sizes_multiples : Stmt := inClass (top 23) 3
theorem sc_Sizes_multiples : FnScope ["d"] ["d"] (defScope s_Sizes_multiples) := ⟨rfl, rfl, rfl, by decide +kernel, rfl, by decide +kernel, by decide +kernel⟩
abbrev s_ascending : Stmt := top 12
theorem sc_ascending : FnScope ["numbers", "known", "number"] ["numbers"] (defScope s_ascending) := ⟨rfl, rfl, rfl, by decide +kernel, rfl, by decide +kernel, by decide +kernel⟩
abbrev s_Sizes_of : Stmt := inClass (top 23) 2
theorem sc_Sizes_of : FnScope ["numbers", "number"] ["numbers"] (defScope s_Sizes_of) := ⟨rfl, rfl, rfl, by decide +kernel, rfl, by decide +kernel, by decide +kernel⟩
abbrev s__law_size_refused : Stmt := top 40
theorem sc__law_size_refused : FnScope ["_law_numbers", "_law_is_one", "_law_found", "e"] ["_law_numbers", "_law_is_one"] (defScope s__law_size_refused) := ⟨rfl, rfl, rfl, by decide +kernel, rfl, by decide +kernel, by decide +kernel⟩
abbrev s__law_of_right : Stmt := top 41
theorem sc__law_of_right : FnScope ["_law_box_here", "_law_numbers", "_law_turn", "_law_due_here", "_law_number"] ["_law_box_here"] (defScope s__law_of_right) := ⟨rfl, rfl, rfl, by decide +kernel, rfl, by decide +kernel, by decide +kernel⟩
abbrev s__law_thing : Stmt := top 37
theorem sc__law_thing : FnScope ["_law_box_here"] ["_law_box_here"] (defScope s__law_thing) := ⟨rfl, rfl, rfl, by decide +kernel, rfl, by decide +kernel, by decide +kernel⟩
abbrev s__law_bent : Stmt := top 38
theorem sc__law_bent : FnScope ["_law_box_here", "_law_thing_here", "_law_form", "_law_at", "_law_both", "_law_more"] ["_law_box_here", "_law_thing_here"] (defScope s__law_bent) := ⟨rfl, rfl, rfl, by decide +kernel, rfl, by decide +kernel, by decide +kernel⟩
abbrev s_law : Stmt := top 42
theorem sc_law : FnScope ["_law_script", "_law_k", "_law_box_here", "_law_model_here", "_law_turn", "_law_some", "_law_more", "_law_spot"] ["_law_script"] (defScope s_law) := ⟨rfl, rfl, rfl, by decide +kernel, rfl, by decide +kernel, by decide +kernel⟩
structure Tx (T : Tab) (K : PySem.W.Frag) (mg : Str → Option Value) where
  c_Sizes : Addr
  T_Sizes : T 0 = some (c_Sizes, (["short_period", "short_classes", "short_odd", "class_marks", "odd_marks"] : List Str))
  cl_Sizes : Cls K c_Sizes
  i_Sizes : IsiC K c_Sizes
  m_Sizes : mg "Sizes" = some (.ref c_Sizes)
  no_Sizes_short_period : NoAttr K c_Sizes "short_period"
  no_Sizes_short_classes : NoAttr K c_Sizes "short_classes"
  no_Sizes_short_odd : NoAttr K c_Sizes "short_odd"
  no_Sizes_class_marks : NoAttr K c_Sizes "class_marks"
  no_Sizes_odd_marks : NoAttr K c_Sizes "odd_marks"
  c_ClashError : Addr
  m_ClashError : mg "ClashError" = some (.ref c_ClashError)
  ci_ClashError : CIn K c_ClashError
  bs_ClashError : PySem.W.subIn K (.ref c_ClashError) (.type "BaseException") = some true
  hd_ClashError : PySem.W.hasDictIn K c_ClashError = true
  c_InvalidSizes : Addr
  T_InvalidSizes : T 1 = some (c_InvalidSizes, (["word"] : List Str))
  m_InvalidSizes : mg "InvalidSizes" = some (.ref c_InvalidSizes)
  o_InvalidSizes : OexC K c_InvalidSizes
  x_InvalidSizes : ExcC K c_InvalidSizes
  xf_InvalidSizes : XfC K c_InvalidSizes
  no_InvalidSizes_word : PySem.W.findIn K (.ref c_InvalidSizes) "word" = some none
  c_InvalidSize : Addr
  T_InvalidSize : T 2 = some (c_InvalidSize, (["size"] : List Str))
  m_InvalidSize : mg "InvalidSize" = some (.ref c_InvalidSize)
  o_InvalidSize : OexC K c_InvalidSize
  x_InvalidSize : ExcC K c_InvalidSize
  xf_InvalidSize : XfC K c_InvalidSize
  no_InvalidSize_size : PySem.W.findIn K (.ref c_InvalidSize) "size" = some none
  c_InvalidCount : Addr
  m_InvalidCount : mg "InvalidCount" = some (.ref c_InvalidCount)
  c_InvalidForm : Addr
  m_InvalidForm : mg "InvalidForm" = some (.ref c_InvalidForm)
  c_InvalidText : Addr
  m_InvalidText : mg "InvalidText" = some (.ref c_InvalidText)
  z_all : mg "all" = none
  z_any : mg "any" = none
  z_bool : mg "bool" = none
  z_int : mg "int" = none
  z_isinstance : mg "isinstance" = none
  z_len : mg "len" = none
  z_list : mg "list" = none
  z_max : mg "max" = none
  z_min : mg "min" = none
  z_range : mg "range" = none
  z_sorted : mg "sorted" = none
  z_tuple : mg "tuple" = none
  z_zip : mg "zip" = none
  a__law_box : Addr
  fd__law_box : FuncData
  F__law_box : Fun K "_law_box" "_law_box" s__law_box a__law_box fd__law_box
  b__law_box : Binds K fd__law_box ["_law_script", "_law_k"] []
  m__law_box : mg "_law_box" = some (.ref a__law_box)
  a__law_parts_of : Addr
  fd__law_parts_of : FuncData
  F__law_parts_of : Fun K "_law_parts_of" "_law_parts_of" s__law_parts_of a__law_parts_of fd__law_parts_of
  b__law_parts_of : Binds K fd__law_parts_of ["_law_number"] []
  m__law_parts_of : mg "_law_parts_of" = some (.ref a__law_parts_of)
  a__law_take : Addr
  fd__law_take : FuncData
  F__law_take : Fun K "_law_take" "_law_take" s__law_take a__law_take fd__law_take
  b__law_take : Binds K fd__law_take ["_law_box_here", "_law_many"] []
  m__law_take : mg "_law_take" = some (.ref a__law_take)
  a__law_period : Addr
  fd__law_period : FuncData
  F__law_period : Fun K "_law_period" "_law_period" s__law_period a__law_period fd__law_period
  b__law_period : Binds K fd__law_period ["_law_box_here"] []
  m__law_period : mg "_law_period" = some (.ref a__law_period)
  a__law_odds : Addr
  fd__law_odds : FuncData
  F__law_odds : Fun K "_law_odds" "_law_odds" s__law_odds a__law_odds fd__law_odds
  b__law_odds : Binds K fd__law_odds ["_law_box_here"] []
  m__law_odds : mg "_law_odds" = some (.ref a__law_odds)
  a__law_model : Addr
  fd__law_model : FuncData
  F__law_model : Fun K "_law_model" "_law_model" s__law_model a__law_model fd__law_model
  b__law_model : Binds K fd__law_model ["_law_box_here"] []
  m__law_model : mg "_law_model" = some (.ref a__law_model)
  a_InvalidSizes___init__ : Addr
  fd_InvalidSizes___init__ : FuncData
  F_InvalidSizes___init__ : Fun K "__init__" "InvalidSizes.__init__" s_InvalidSizes___init__ a_InvalidSizes___init__ fd_InvalidSizes___init__
  b_InvalidSizes___init__ : Binds K fd_InvalidSizes___init__ ["self", "word"] []
  at_InvalidSizes___init__ : PySem.W.findIn K (.ref c_InvalidSizes) "__init__" = some (some (.ref a_InvalidSizes___init__))
  ty_InvalidSizes___init__ : PySem.W.typeIn K (.ref a_InvalidSizes___init__) = some (.type "function")
  a_prime_powers : Addr
  fd_prime_powers : FuncData
  F_prime_powers : Fun K "prime_powers" "prime_powers" s_prime_powers a_prime_powers fd_prime_powers
  b_prime_powers : Binds K fd_prime_powers ["number"] []
  m_prime_powers : mg "prime_powers" = some (.ref a_prime_powers)
  a_is_needless : Addr
  fd_is_needless : FuncData
  F_is_needless : Fun K "is_needless" "is_needless" s_is_needless a_is_needless fd_is_needless
  b_is_needless : Binds K fd_is_needless ["period", "known", "prime"] []
  m_is_needless : mg "is_needless" = some (.ref a_is_needless)
  a_shortest : Addr
  fd_shortest : FuncData
  F_shortest : Fun K "shortest" "shortest" s_shortest a_shortest fd_shortest
  b_shortest : Binds K fd_shortest ["period", "classes"] []
  m_shortest : mg "shortest" = some (.ref a_shortest)
  a_is_integer : Addr
  fd_is_integer : FuncData
  F_is_integer : Fun K "is_integer" "is_integer" s_is_integer a_is_integer fd_is_integer
  b_is_integer : Binds K fd_is_integer ["value"] []
  m_is_integer : mg "is_integer" = some (.ref a_is_integer)
  a_are_sizes : Addr
  fd_are_sizes : FuncData
  F_are_sizes : Fun K "are_sizes" "are_sizes" s_are_sizes a_are_sizes fd_are_sizes
  b_are_sizes : Binds K fd_are_sizes ["value"] []
  m_are_sizes : mg "are_sizes" = some (.ref a_are_sizes)
  a_Sizes___init__ : Addr
  fd_Sizes___init__ : FuncData
  dz_Sizes___init__ : Addr
  de_Sizes___init__ : SqT K (fun _ => none) dz_Sizes___init__ []
  F_Sizes___init__ : FD K "__init__" "Sizes.__init__" s_Sizes___init__ [.ref dz_Sizes___init__] [] a_Sizes___init__ fd_Sizes___init__
  K_Sizes : Mk K c_Sizes a_Sizes___init__
  a__law_told : Addr
  fd__law_told : FuncData
  F__law_told : Fun K "_law_told" "_law_told" s__law_told a__law_told fd__law_told
  b__law_told : Binds K fd__law_told ["_law_cycle", "_law_kinds", "_law_odd_ones"] []
  m__law_told : mg "_law_told" = some (.ref a__law_told)
  a__law_is_whole : Addr
  fd__law_is_whole : FuncData
  F__law_is_whole : Fun K "_law_is_whole" "_law_is_whole" s__law_is_whole a__law_is_whole fd__law_is_whole
  b__law_is_whole : Binds K fd__law_is_whole ["_law_thing_here"] []
  m__law_is_whole : mg "_law_is_whole" = some (.ref a__law_is_whole)
  a__law_ascends : Addr
  fd__law_ascends : FuncData
  F__law_ascends : Fun K "_law_ascends" "_law_ascends" s__law_ascends a__law_ascends fd__law_ascends
  b__law_ascends : Binds K fd__law_ascends ["_law_thing_here"] []
  m__law_ascends : mg "_law_ascends" = some (.ref a__law_ascends)
  a__law_due : Addr
  fd__law_due : FuncData
  F__law_due : Fun K "_law_due" "_law_due" s__law_due a__law_due fd__law_due
  b__law_due : Binds K fd__law_due ["_law_model_here"] []
  m__law_due : mg "_law_due" = some (.ref a__law_due)
  a_InvalidSize___init__ : Addr
  fd_InvalidSize___init__ : FuncData
  F_InvalidSize___init__ : Fun K "__init__" "InvalidSize.__init__" s_InvalidSize___init__ a_InvalidSize___init__ fd_InvalidSize___init__
  b_InvalidSize___init__ : Binds K fd_InvalidSize___init__ ["self", "size"] []
  at_InvalidSize___init__ : PySem.W.findIn K (.ref c_InvalidSize) "__init__" = some (some (.ref a_InvalidSize___init__))
  ty_InvalidSize___init__ : PySem.W.typeIn K (.ref a_InvalidSize___init__) = some (.type "function")
  a_Sizes_multiples : Addr
  fd_Sizes_multiples : FuncData
  F_Sizes_multiples : Fun K "multiples" "Sizes.multiples" s_Sizes_multiples a_Sizes_multiples fd_Sizes_multiples
  b_Sizes_multiples : Binds K fd_Sizes_multiples ["d"] []
  p_Sizes_multiples : Addr
  S_Sizes_multiples : SmC K c_Sizes "multiples" p_Sizes_multiples a_Sizes_multiples
  kw_Sizes_multiples : KwAll fd_Sizes_multiples ["d"]
  a_ascending : Addr
  fd_ascending : FuncData
  F_ascending : Fun K "ascending" "ascending" s_ascending a_ascending fd_ascending
  b_ascending : Binds K fd_ascending ["numbers"] []
  m_ascending : mg "ascending" = some (.ref a_ascending)
  a_Sizes_of : Addr
  fd_Sizes_of : FuncData
  F_Sizes_of : Fun K "of" "Sizes.of" s_Sizes_of a_Sizes_of fd_Sizes_of
  b_Sizes_of : Binds K fd_Sizes_of ["numbers"] []
  p_Sizes_of : Addr
  S_Sizes_of : SmC K c_Sizes "of" p_Sizes_of a_Sizes_of
  kw_Sizes_of : KwAll fd_Sizes_of ["numbers"]
  a__law_size_refused : Addr
  fd__law_size_refused : FuncData
  F__law_size_refused : Fun K "_law_size_refused" "_law_size_refused" s__law_size_refused a__law_size_refused fd__law_size_refused
  b__law_size_refused : Binds K fd__law_size_refused ["_law_numbers", "_law_is_one"] []
  m__law_size_refused : mg "_law_size_refused" = some (.ref a__law_size_refused)
  a__law_of_right : Addr
  fd__law_of_right : FuncData
  F__law_of_right : Fun K "_law_of_right" "_law_of_right" s__law_of_right a__law_of_right fd__law_of_right
  b__law_of_right : Binds K fd__law_of_right ["_law_box_here"] []
  m__law_of_right : mg "_law_of_right" = some (.ref a__law_of_right)
  a__law_thing : Addr
  fd__law_thing : FuncData
  F__law_thing : Fun K "_law_thing" "_law_thing" s__law_thing a__law_thing fd__law_thing
  b__law_thing : Binds K fd__law_thing ["_law_box_here"] []
  m__law_thing : mg "_law_thing" = some (.ref a__law_thing)
  a__law_bent : Addr
  fd__law_bent : FuncData
  F__law_bent : Fun K "_law_bent" "_law_bent" s__law_bent a__law_bent fd__law_bent
  b__law_bent : Binds K fd__law_bent ["_law_box_here", "_law_thing_here"] []
  m__law_bent : mg "_law_bent" = some (.ref a__law_bent)
  a_law : Addr
  fd_law : FuncData
  F_law : Fun K "law" "law" s_law a_law fd_law
  b_law : Binds K fd_law ["_law_script"] []
  m_law : mg "law" = some (.ref a_law)
  su_Sizes_bool : PySem.W.subIn K (.ref c_Sizes) (.type "bool") = some false
  su_Sizes_int : PySem.W.subIn K (.ref c_Sizes) (.type "int") = some false
  su_Sizes_tuple : PySem.W.subIn K (.ref c_Sizes) (.type "tuple") = some false
  ex_InvalidSizes_InvalidSize : PySem.W.exmOne K (.ref c_InvalidSizes) (.ref c_InvalidSize) = some false
  ex_InvalidSize_InvalidSize : PySem.W.exmOne K (.ref c_InvalidSize) (.ref c_InvalidSize) = some true
  ex_InvalidSizes_InvalidSizes : PySem.W.exmOne K (.ref c_InvalidSizes) (.ref c_InvalidSizes) = some true
  ex_InvalidSize_InvalidSizes : PySem.W.exmOne K (.ref c_InvalidSize) (.ref c_InvalidSizes) = some false
  no_InvalidSizes_size : PySem.W.findIn K (.ref c_InvalidSizes) "size" = some none
  no_InvalidSize_word : PySem.W.findIn K (.ref c_InvalidSize) "word" = some none
  kt_InvalidSizes_ClashError : PySem.W.kitOne K (.ref c_InvalidSizes) (.ref c_ClashError) = some true
  kt_InvalidSize_ClashError : PySem.W.kitOne K (.ref c_InvalidSize) (.ref c_ClashError) = some true
  kt_InvalidSizes_InvalidForm : PySem.W.kitOne K (.ref c_InvalidSizes) (.ref c_InvalidForm) = some false
  kt_InvalidSizes_InvalidSize : PySem.W.kitOne K (.ref c_InvalidSizes) (.ref c_InvalidSize) = some false
  kt_InvalidSizes_InvalidCount : PySem.W.kitOne K (.ref c_InvalidSizes) (.ref c_InvalidCount) = some false
  kt_InvalidSizes_InvalidText : PySem.W.kitOne K (.ref c_InvalidSizes) (.ref c_InvalidText) = some false
  kt_InvalidSize_InvalidForm : PySem.W.kitOne K (.ref c_InvalidSize) (.ref c_InvalidForm) = some false
  kt_InvalidSize_InvalidCount : PySem.W.kitOne K (.ref c_InvalidSize) (.ref c_InvalidCount) = some false
  kt_InvalidSize_InvalidText : PySem.W.kitOne K (.ref c_InvalidSize) (.ref c_InvalidText) = some false
/-! ### periods: primes, the least divisor by which classes can be told -/
def Pr (p : Nat) : Prop := 2 ≤ p ∧ ∀ d, d ∣ p → d = 1 ∨ d = p
theorem pr_div : ∀ (n : Nat), 2 ≤ n → ∃ p, Pr p ∧ p ∣ n := by
  intro n
  induction n using Nat.strongRecOn with
  | _ n ih =>
    intro hn
    by_cases h : ∀ d, d ∣ n → d = 1 ∨ d = n
    · exact ⟨n, ⟨hn, h⟩, Nat.dvd_refl n⟩
    · obtain ⟨d, hd⟩ := Classical.not_forall.mp h
      have hd1 : d ∣ n ∧ d ≠ 1 ∧ d ≠ n := by
        by_cases a : d ∣ n
        · by_cases b : d = 1
          · exact absurd (fun _ => .inl b) hd
          · by_cases c : d = n
            · exact absurd (fun _ => .inr c) hd
            · exact ⟨a, b, c⟩
        · exact absurd (fun z => absurd z a) hd
      have le : d ≤ n := Nat.le_of_dvd (by omega) hd1.1
      have pos : 0 < d := Nat.pos_of_dvd_of_pos hd1.1 (by omega)
      obtain ⟨p, hp, hpd⟩ := ih d (by omega) (by omega)
      exact ⟨p, hp, Nat.dvd_trans hpd hd1.1⟩
theorem Pr.cop {p a : Nat} (h : Pr p) (n : ¬ p ∣ a) : Nat.Coprime p a := by
  rcases h.2 _ (Nat.gcd_dvd_left p a) with e | e
  · exact e
  · exact absurd (by rw [← e]; exact Nat.gcd_dvd_right p a) n
theorem Pr.mul {p a b : Nat} (h : Pr p) (d : p ∣ a * b) : p ∣ a ∨ p ∣ b := by
  by_cases n : p ∣ a
  · exact .inl n
  · exact .inr ((h.cop n).dvd_of_dvd_mul_left d)
theorem Pr.ne {p q : Nat} (hp : Pr p) (hq : Pr q) (n : p ≠ q) : Nat.Coprime p q := hp.cop fun d => by
  rcases hq.2 p d with e | e
  · have := hp.1; omega
  · exact n e
theorem Pr.pow {p q : Nat} (hp : Pr p) (hq : Pr q) (n : p ≠ q) (a b : Nat) : Nat.Coprime (p ^ a) (q ^ b) := (hp.ne hq n).pow a b
/-- the division by a prime, as often as it goes -/
def dO : Nat → Nat → Nat → Nat × Nat
  | 0, l, _ => (l, 0)
  | f + 1, l, p => if l % p = 0 then ((dO f (l / p) p).1, (dO f (l / p) p).2 + 1) else (l, 0)
theorem dO_ok {p : Nat} (hp : 2 ≤ p) : ∀ (f l : Nat), 1 ≤ l → l ≤ f → l = (dO f l p).1 * p ^ (dO f l p).2 ∧ ¬ p ∣ (dO f l p).1 ∧ 1 ≤ (dO f l p).1
  | 0, l, h1, h2 => by omega
  | f + 1, l, h1, h2 => by
    unfold dO
    split
    · rename_i z
      have hd : p ∣ l := Nat.dvd_of_mod_eq_zero z
      have lt : l / p < l := Nat.div_lt_self h1 hp
      have pos : 1 ≤ l / p := (Nat.div_pos (Nat.le_of_dvd h1 hd) (by omega))
      obtain ⟨a, b, c⟩ := dO_ok hp f (l / p) pos (by omega)
      refine ⟨?_, b, c⟩
      show l = (dO f (l / p) p).1 * p ^ ((dO f (l / p) p).2 + 1)
      rw [Nat.pow_succ, ← Nat.mul_assoc, ← a, Nat.div_mul_cancel hd]
    · rename_i z
      exact ⟨by rw [Nat.pow_zero, Nat.mul_one], fun d => z (Nat.mod_eq_zero_of_dvd d), h1⟩
theorem dO_le {p : Nat} (hp : 2 ≤ p) {f l : Nat} (h1 : 1 ≤ l) (h2 : l ≤ f) : (dO f l p).1 ≤ l := by
  obtain ⟨a, _, _⟩ := dO_ok hp f l h1 h2
  have : 1 ≤ p ^ (dO f l p).2 := Nat.one_le_pow _ _ (by omega)
  calc (dO f l p).1 = (dO f l p).1 * 1 := (Nat.mul_one _).symm
    _ ≤ (dO f l p).1 * p ^ (dO f l p).2 := Nat.mul_le_mul_left _ this
    _ = l := a.symm
def ppEnd (l : Nat) : List (Nat × Nat) := if 1 < l then [(l, 1)] else []
def pp : Nat → Nat → Nat → List (Nat × Nat)
  | 0, l, _ => ppEnd l
  | f + 1, l, p => if p * p ≤ l then (if 0 < (dO l l p).2 then [(p, (dO l l p).2)] else []) ++ pp f (dO l l p).1 (p + 1) else ppEnd l
structure PP (n lo : Nat) (L : List (Nat × Nat)) : Prop where
  pr : ∀ x ∈ L, Pr x.1 ∧ x.1 ^ x.2 ∣ n ∧ lo ≤ x.1
  ps : ∀ x ∈ L, 0 < x.2
  nd : L.Pairwise fun x y => x.1 ≠ y.1
  al : ∀ q, Pr q → q ∣ n → ∃ a, (q, a) ∈ L ∧ ¬ q ^ (a + 1) ∣ n
theorem ppEnd_ok {l p : Nat} (hl : 1 ≤ l) (h2 : 2 ≤ p) (hp : ∀ q, Pr q → q ∣ l → p ≤ q) (hs : l < p * p) : PP l p (ppEnd l) := by
  unfold ppEnd
  split
  · rename_i h
    have pl : Pr l := by
      refine ⟨h, fun d hd => ?_⟩
      by_cases a : d = 1
      · exact .inl a
      · by_cases b : d = l
        · exact .inr b
        · exfalso
          obtain ⟨e, he⟩ := hd
          have d0 : d ≠ 0 := fun z => by rw [z, Nat.zero_mul] at he; omega
          have e0 : e ≠ 0 := fun z => by rw [z, Nat.mul_zero] at he; omega
          have e1 : e ≠ 1 := fun z => by rw [z, Nat.mul_one] at he; omega
          obtain ⟨q, hq, hqd⟩ := pr_div d (by omega)
          obtain ⟨r, hr, hre⟩ := pr_div e (by omega)
          have g1 := hp q hq (he ▸ Nat.dvd_trans hqd (Nat.dvd_mul_right d e))
          have g2 := hp r hr (he ▸ Nat.dvd_trans hre (Nat.dvd_mul_left e d))
          have g3 := Nat.le_of_dvd (by omega) hqd
          have g4 := Nat.le_of_dvd (by omega) hre
          have : p * p ≤ d * e := Nat.mul_le_mul (by omega) (by omega)
          omega
    refine ⟨fun x hx => ?_, fun x hx => by have e : x = (l, 1) := by simpa using hx
                                           subst e; exact Nat.one_pos, List.pairwise_singleton _ _, fun q hq hd => ⟨1, ?_, fun z => ?_⟩⟩
    · have e : x = (l, 1) := by simpa using hx
      subst e
      exact ⟨pl, by rw [Nat.pow_one]; exact Nat.dvd_refl l, hp l pl (Nat.dvd_refl l)⟩
    · rcases pl.2 q hd with e | e
      · have := hq.1; omega
      · rw [e]; exact List.mem_singleton.mpr rfl
    · rcases pl.2 q hd with e | e
      · have := hq.1; omega
      · subst e
        have z1 := Nat.le_of_dvd (by omega) z
        have : q * q ≤ q := by simpa [Nat.pow_succ] using z1
        have : q * 2 ≤ q * q := Nat.mul_le_mul_left q (by omega)
        omega
  · rename_i h
    refine ⟨fun x hx => (nomatch hx), fun x hx => (nomatch hx), .nil, fun q hq hd => ?_⟩
    have := Nat.le_of_dvd hl hd
    have := hq.1
    omega
theorem pp_ok : ∀ (f l p : Nat), 2 ≤ p → 1 ≤ l → (∀ q, Pr q → q ∣ l → p ≤ q) → l < f + p → PP l p (pp f l p)
  | 0, l, p, h2, h1, hp, hf => ppEnd_ok h1 h2 hp (Nat.lt_of_lt_of_le hf (by rw [Nat.zero_add]; exact Nat.le_mul_of_pos_right p (by omega)))
  | f + 1, l, p, h2, h1, hp, hf => by
    unfold pp
    split
    · rename_i hs
      obtain ⟨a, b, c⟩ := dO_ok h2 l l h1 (Nat.le_refl _)
      have le := dO_le h2 h1 (Nat.le_refl l)
      generalize hr : dO l l p = r at a b c le
      obtain ⟨l', k⟩ := r
      have a : l = l' * p ^ k := a
      have b : ¬ p ∣ l' := b
      have c : 1 ≤ l' := c
      have le : l' ≤ l := le
      have dl : l' ∣ l := ⟨p ^ k, a⟩
      have hp' : ∀ q, Pr q → q ∣ l' → p + 1 ≤ q := fun q hq hd => by
        have := hp q hq (Nat.dvd_trans hd dl)
        rcases Nat.lt_or_ge p q with z | z
        · exact z
        · have e : q = p := by omega
          exact absurd (e ▸ hd) b
      have ih := pp_ok f l' (p + 1) (by omega) c hp' (by omega)
      show PP l p ((if 0 < k then [(p, k)] else []) ++ pp f l' (p + 1))
      by_cases hk : 0 < k
      · rw [if_pos hk]
        have pd : p ∣ l := a ▸ Nat.dvd_trans (Nat.dvd_trans (by rw [Nat.pow_one]; exact Nat.dvd_refl p) (Nat.pow_dvd_pow p hk)) (Nat.dvd_mul_left _ _)
        have pp' : Pr p := by
          refine ⟨h2, fun d hd => ?_⟩
          by_cases z : d = 1
          · exact .inl z
          · refine .inr ?_
            have d0 : 0 < d := Nat.pos_of_dvd_of_pos hd (by omega)
            obtain ⟨q, hq, hqd⟩ := pr_div d (by omega)
            have := hp q hq (Nat.dvd_trans hqd (Nat.dvd_trans hd pd))
            have := Nat.le_of_dvd d0 hqd
            have := Nat.le_of_dvd (by omega) hd
            omega
        refine ⟨fun x hx => ?_, fun x hx => ?_, ?_, fun q hq hd => ?_⟩
        rotate_left
        · rcases List.mem_cons.mp hx with e | hx
          · subst e; exact hk
          · exact ih.ps x hx
        rotate_right
        · rcases List.mem_cons.mp hx with e | hx
          · subst e
            exact ⟨pp', a ▸ Nat.dvd_mul_left _ _, Nat.le_refl _⟩
          · obtain ⟨x1, x2, x3⟩ := ih.pr x hx
            exact ⟨x1, Nat.dvd_trans x2 dl, by omega⟩
        · refine List.pairwise_cons.mpr ⟨fun x hx => ?_, ih.nd⟩
          have := (ih.pr x hx).2.2
          show p ≠ x.1
          omega
        · by_cases e : q = p
          · subst e
            refine ⟨k, List.mem_cons_self, fun z => ?_⟩
            rw [a, Nat.pow_succ, Nat.mul_comm l', Nat.mul_comm (q ^ k)] at z
            have z : q ^ k * q ∣ q ^ k * l' := by rw [Nat.mul_comm (q ^ k) q]; exact z
            exact b (Nat.dvd_of_mul_dvd_mul_left (Nat.pow_pos (by omega)) z)
          · rw [a] at hd
            have hd' : q ∣ l' := by
              rcases hq.mul hd with z | z
              · exact z
              · exfalso
                have cq := (hq.ne pp' e).pow 1 k
                rw [Nat.pow_one] at cq
                have := Nat.Coprime.eq_one_of_dvd cq z
                have := hq.1
                omega
            obtain ⟨j, hj, nj⟩ := ih.al q hq hd'
            refine ⟨j, List.mem_cons_of_mem _ hj, fun z => nj ?_⟩
            rw [a] at z
            exact (hq.pow pp' e (j + 1) k).dvd_of_dvd_mul_right z
      · have k0 : k = 0 := by omega
        subst k0
        rw [if_neg (by omega), List.nil_append]
        have e : l = l' := by rw [a, Nat.pow_zero, Nat.mul_one]
        rw [e]
        exact ⟨fun x hx => ⟨(ih.pr x hx).1, (ih.pr x hx).2.1, by have := (ih.pr x hx).2.2; omega⟩, ih.ps, ih.nd, ih.al⟩
    · rename_i hs
      exact ppEnd_ok h1 h2 hp (by omega)
theorem pp_N {n : Nat} (h : 1 ≤ n) : PP n 2 (pp n n 2) := pp_ok n n 2 (by decide) h (fun q hq _ => hq.1) (by omega)
/-! telling -/
def Tls (n : Nat) (cs : List Nat) (l : Nat) : Prop := ∀ d, d ∣ n → (d ∈ cs ↔ Nat.gcd d l ∈ cs)
theorem Tls.self (n : Nat) (cs : List Nat) : Tls n cs n := fun d hd => by rw [Nat.gcd_eq_left hd]
theorem Tls.gcd {n l m : Nat} {cs : List Nat} (hl : Tls n cs l) (hm : Tls n cs m) : Tls n cs (Nat.gcd l m) := fun d hd => by
  rw [hl d hd, hm (Nat.gcd d l) (Nat.dvd_trans (Nat.gcd_dvd_left d l) hd), Nat.gcd_assoc]
theorem Tls.up {n l m : Nat} {cs : List Nat} (hl : Tls n cs l) (d1 : l ∣ m) : Tls n cs m := fun d hd => by
  rw [hl d hd, hl (Nat.gcd d m) (Nat.dvd_trans (Nat.gcd_dvd_left d m) hd), Nat.gcd_assoc, Nat.gcd_eq_right d1]
/-- the program's test -/
def ndl (m : Nat) (cs : List Nat) (p : Nat) : Bool := cs.all fun s => if m % (s * p) = 0 then (if m % (s * p * p) = 0 then true else decide (s * p ∈ cs)) else decide (s / p ∈ cs)
theorem gcd_p {m d p : Nat} (hp : Pr p) (pm : p ∣ m) (m0 : 0 < m) (hd : d ∣ m) (n : ¬ d * p ∣ m) : p ∣ d ∧ Nat.gcd d (m / p) = d / p := by
  obtain ⟨e, he⟩ := hd
  have ne : ¬ p ∣ e := fun ⟨k, hk⟩ => n ⟨k, by rw [he, hk, Nat.mul_assoc]⟩
  have pd : p ∣ d := by
    rw [he] at pm
    rcases hp.mul pm with z | z
    · exact z
    · exact absurd z ne
  refine ⟨pd, ?_⟩
  obtain ⟨k, hk⟩ := pd
  have p0 : 0 < p := by have := hp.1; omega
  have e1 : d / p = k := by rw [hk, Nat.mul_div_cancel_left _ p0]
  have e2 : m / p = k * e := by rw [he, hk, Nat.mul_assoc, Nat.mul_div_cancel_left _ p0]
  rw [e1, e2, hk, Nat.mul_comm p k, Nat.gcd_mul_left]
  rw [show Nat.gcd p e = 1 from hp.cop ne, Nat.mul_one]
theorem gcd_q {m d p : Nat} (p0 : 0 < p) (h : d * p ∣ m) : Nat.gcd d (m / p) = d := by
  obtain ⟨k, hk⟩ := h
  refine Nat.gcd_eq_left ⟨k, ?_⟩
  rw [hk, Nat.mul_assoc, Nat.mul_comm p k, ← Nat.mul_assoc, Nat.mul_div_cancel _ p0]
/-- the classes that divide m -/
def low (m : Nat) (cs : List Nat) : List Nat := cs.filter fun s => decide (m % s = 0)
theorem mem_low {m s : Nat} {cs : List Nat} : s ∈ low m cs ↔ s ∈ cs ∧ s ∣ m := by
  unfold low
  rw [List.mem_filter]
  exact and_congr_right fun _ => by rw [decide_eq_true_iff]; exact ⟨Nat.dvd_of_mod_eq_zero, Nat.mod_eq_zero_of_dvd⟩
theorem ndl_iff {n m p : Nat} {cs : List Nat} (hp : Pr p) (m0 : 0 < m) (mn : m ∣ n) (pm : p ∣ m) (ht : Tls n cs m) : ndl m (low m cs) p = true ↔ Tls n cs (m / p) := by
  have p0 : 0 < p := by have := hp.1; omega
  have dm : m / p ∣ m := Nat.div_dvd_of_dvd pm
  unfold ndl
  rw [List.all_eq_true]
  constructor
  · intro h
    have key : ∀ d, d ∣ m → (d ∈ cs ↔ Nat.gcd d (m / p) ∈ cs) := fun d hd => by
      by_cases z : d * p ∣ m
      · rw [gcd_q p0 z]
      · obtain ⟨pd, e⟩ := gcd_p hp pm m0 hd z
        rw [e]
        have em : d / p * p = d := Nat.div_mul_cancel pd
        have dd : d / p ∣ m := Nat.dvd_trans (Nat.div_dvd_of_dvd pd) hd
        constructor
        · intro hc
          have g := h d (mem_low.mpr ⟨hc, hd⟩)
          rw [if_neg (fun y => z (Nat.dvd_of_mod_eq_zero y))] at g
          exact (mem_low.mp (of_decide_eq_true g)).1
        · intro hc
          have g := h (d / p) (mem_low.mpr ⟨hc, dd⟩)
          rw [em, if_pos (Nat.mod_eq_zero_of_dvd hd), if_neg (fun y => z (Nat.dvd_of_mod_eq_zero y))] at g
          exact (mem_low.mp (of_decide_eq_true g)).1
    intro d hd
    rw [ht d hd, key _ (Nat.gcd_dvd_right d m), Nat.gcd_assoc, Nat.gcd_eq_right dm]
  · intro h s hs
    obtain ⟨hc, hd⟩ := mem_low.mp hs
    by_cases z : m % (s * p) = 0
    · rw [if_pos z]
      by_cases y : m % (s * p * p) = 0
      · rw [if_pos y]
      · rw [if_neg y]
        have zd : s * p ∣ m := Nat.dvd_of_mod_eq_zero z
        have e := (gcd_p hp pm m0 zd (fun q => y (Nat.mod_eq_zero_of_dvd q))).2
        rw [Nat.mul_div_cancel _ p0] at e
        exact decide_eq_true (mem_low.mpr ⟨(h (s * p) (Nat.dvd_trans zd mn)).mpr (by rw [e]; exact hc), zd⟩)
    · rw [if_neg z]
      obtain ⟨pd, e⟩ := gcd_p hp pm m0 hd (fun q => z (Nat.mod_eq_zero_of_dvd q))
      refine decide_eq_true (mem_low.mpr ⟨?_, Nat.dvd_trans (Nat.div_dvd_of_dvd pd) hd⟩)
      rw [← e]
      exact (h s (Nat.dvd_trans hd mn)).mp hc
/-- a turn -/
def trn (cs : List Nat) (p m : Nat) : Nat := if ndl m (low m cs) p then m / p else m
def trns (cs : List Nat) (p : Nat) : Nat → Nat → Nat
  | 0, m => m
  | a + 1, m => trns cs p a (trn cs p m)
def shq (cs : List Nat) : List (Nat × Nat) → Nat → Nat
  | [], m => m
  | x :: r, m => shq cs r (trns cs x.1 x.2 m)
structure St' (n : Nat) (cs : List Nat) (m : Nat) : Prop where
  pos : 0 < m
  dv : m ∣ n
  tl : Tls n cs m
theorem trn_ok {n m p : Nat} {cs : List Nat} (hp : Pr p) (h : St' n cs m) (pm : p ∣ m) : St' n cs (trn cs p m) ∧ ((trn cs p m = m ∧ ¬ Tls n cs (m / p)) ∨ trn cs p m * p = m) := by
  unfold trn
  have p0 : 0 < p := by have := hp.1; omega
  split
  · rename_i z
    refine ⟨⟨Nat.div_pos (Nat.le_of_dvd h.pos pm) p0, Nat.dvd_trans (Nat.div_dvd_of_dvd pm) h.dv, (ndl_iff hp h.pos h.dv pm h.tl).mp z⟩, .inr (Nat.div_mul_cancel pm)⟩
  · rename_i z
    exact ⟨h, .inl ⟨rfl, fun y => z ((ndl_iff hp h.pos h.dv pm h.tl).mpr y)⟩⟩
theorem trns_ok {n p : Nat} {cs : List Nat} (hp : Pr p) : ∀ (a m : Nat), St' n cs m → p ^ a ∣ m → St' n cs (trns cs p a m) ∧ ∃ t, t ≤ a ∧ m = trns cs p a m * p ^ t ∧ (t = a ∨ (p ∣ trns cs p a m ∧ ¬ Tls n cs (trns cs p a m / p)))
  | 0, m, h, _ => ⟨h, 0, Nat.le_refl _, by show m = m * p ^ 0; rw [Nat.pow_zero, Nat.mul_one], .inl rfl⟩
  | a + 1, m, h, hd => by
    have pm : p ∣ m := Nat.dvd_trans ⟨p ^ a, by rw [Nat.pow_succ, Nat.mul_comm]⟩ hd
    obtain ⟨h1, h2⟩ := trn_ok hp h pm
    have p0 : 0 < p := by have := hp.1; omega
    rcases h2 with ⟨e, nt⟩ | e
    · have da : p ^ a ∣ trn cs p m := by rw [e]; exact Nat.dvd_trans ⟨p, by rw [Nat.pow_succ]⟩ hd
      obtain ⟨g1, t, g2, g3, g4⟩ := trns_ok hp a (trn cs p m) h1 da
      rw [e] at g3
      have stay : ∀ k, trns cs p k m = m := fun k => by
        induction k with
        | zero => rfl
        | succ k ih => show trns cs p k (trn cs p m) = m; rw [e, ih]
      refine ⟨g1, ?_⟩
      rw [stay (a + 1)]
      exact ⟨0, Nat.zero_le _, by rw [Nat.pow_zero, Nat.mul_one], .inr ⟨pm, nt⟩⟩
    · have da : p ^ a ∣ trn cs p m := by
        rw [← e, Nat.pow_succ] at hd
        exact Nat.dvd_of_mul_dvd_mul_right p0 hd
      obtain ⟨g1, t, g2, g3, g4⟩ := trns_ok hp a (trn cs p m) h1 da
      refine ⟨g1, t + 1, by omega, ?_, ?_⟩
      · show m = trns cs p a (trn cs p m) * p ^ (t + 1)
        rw [Nat.pow_succ, ← Nat.mul_assoc, ← g3, e]
      · rcases g4 with z | z
        · exact .inl (by omega)
        · exact .inr z
theorem shq_ok {n : Nat} {cs : List Nat} (n0 : 0 < n) : ∀ (L : List (Nat × Nat)) (m : Nat) (dn : Nat → Prop), St' n cs m → (∀ x ∈ L, Pr x.1 ∧ x.1 ^ x.2 ∣ m ∧ ¬ x.1 ^ (x.2 + 1) ∣ n) → L.Pairwise (fun x y => x.1 ≠ y.1) → (∀ q, dn q → Pr q ∧ (¬ q ∣ m ∨ ¬ Tls n cs (m / q))) →
    St' n cs (shq cs L m) ∧ ∀ q, Pr q → (dn q ∨ ∃ x ∈ L, x.1 = q) → ¬ q ∣ shq cs L m ∨ ¬ Tls n cs (shq cs L m / q)
  | [], m, dn, h, _, _, hd => ⟨h, fun q _ z => z.elim (fun z => (hd q z).2) fun ⟨_, z, _⟩ => nomatch z⟩
  | (p, a) :: L, m, dn, h, hL, nd, hd => by
    obtain ⟨hp, hpa, hpn⟩ := hL (p, a) List.mem_cons_self
    obtain ⟨nd1, nd2⟩ := List.pairwise_cons.mp nd
    obtain ⟨g1, t, g2, g3, g4⟩ := trns_ok hp a m h hpa
    have p0 : 0 < p := by have := hp.1; omega
    generalize hm : trns cs p a m = m' at g1 g3 g4
    have keep : ∀ q, Pr q → (¬ q ∣ m ∨ ¬ Tls n cs (m / q)) → (¬ q ∣ m' ∨ ¬ Tls n cs (m' / q)) := fun q hq z => by
      by_cases y : q ∣ m'
      · rcases z with z | z
        · exact absurd (g3 ▸ Nat.dvd_trans y (Nat.dvd_mul_right _ _)) z
        · refine .inr fun w => z (w.up ?_)
          obtain ⟨k, hk⟩ := y
          have q0 : 0 < q := by have := hq.1; omega
          rw [g3, hk, Nat.mul_div_cancel_left _ q0, Nat.mul_assoc, Nat.mul_div_cancel_left _ q0]
          exact Nat.dvd_mul_right _ _
      · exact .inl y
    have fin : ¬ p ∣ m' ∨ ¬ Tls n cs (m' / p) := by
      rcases g4 with z | z
      · refine .inl fun y => hpn (Nat.dvd_trans ?_ h.dv)
        obtain ⟨k, hk⟩ := y
        subst z
        exact ⟨k, by rw [g3, hk, Nat.pow_succ, Nat.mul_comm (p * k), ← Nat.mul_assoc]⟩
      · exact .inr z.2
    have k1 : ∀ x ∈ L, Pr x.1 ∧ x.1 ^ x.2 ∣ m' ∧ ¬ x.1 ^ (x.2 + 1) ∣ n := fun x hx => by
      obtain ⟨x1, x2, x3⟩ := hL x (List.mem_cons_of_mem _ hx)
      refine ⟨x1, ?_, x3⟩
      rw [g3] at x2
      exact (x1.pow hp (fun e => nd1 x hx e.symm) x.2 t).dvd_of_dvd_mul_right x2
    have k2 : ∀ q, (dn q ∨ q = p) → Pr q ∧ (¬ q ∣ m' ∨ ¬ Tls n cs (m' / q)) := fun q hq => by
      rcases hq with hq | hq
      · exact ⟨(hd q hq).1, keep q (hd q hq).1 (hd q hq).2⟩
      · subst hq; exact ⟨hp, fin⟩
    obtain ⟨r1, r2⟩ := shq_ok n0 L m' (fun q => dn q ∨ q = p) g1 k1 nd2 k2
    have em : shq cs ((p, a) :: L) m = shq cs L m' := by show shq cs L (trns cs p a m) = _; rw [hm]
    rw [em]
    refine ⟨r1, fun q hq z => r2 q hq ?_⟩
    rcases z with z | ⟨x, hx, z⟩
    · exact .inl (.inl z)
    · rcases List.mem_cons.mp hx with e | hx
      · subst e; exact .inl (.inr z.symm)
      · exact .inr ⟨x, hx, z⟩
/-- the period at the end -/
def leaQ (n : Nat) (cs : List Nat) : Nat := shq cs (pp n n 2) n
theorem lea_ok {n : Nat} (cs : List Nat) (n0 : 0 < n) : St' n cs (leaQ n cs) ∧ ∀ l, l ∣ n → Tls n cs l → leaQ n cs ∣ l := by
  have P := pp_N (n := n) n0
  have hx : ∀ x ∈ pp n n 2, Pr x.1 ∧ x.1 ^ x.2 ∣ n ∧ ¬ x.1 ^ (x.2 + 1) ∣ n := fun x hx => by
    obtain ⟨a, b, _⟩ := P.pr x hx
    refine ⟨a, b, ?_⟩
    by_cases z : x.1 ∣ n
    · obtain ⟨k, hk, nk⟩ := P.al x.1 a z
      have same : ∀ {L : List (Nat × Nat)}, L.Pairwise (fun x y => x.1 ≠ y.1) → ∀ y ∈ L, ∀ w ∈ L, y.1 = w.1 → y = w := by
        intro L
        induction L with
        | nil => intro _ y hy; exact nomatch hy
        | cons v L ih =>
          intro hL y hy w hw e
          obtain ⟨h1, h2⟩ := List.pairwise_cons.mp hL
          rcases List.mem_cons.mp hy with hy | hy
          · rcases List.mem_cons.mp hw with hw | hw
            · rw [hy, hw]
            · exact absurd (by rw [← hy]; exact e) (h1 w hw)
          · rcases List.mem_cons.mp hw with hw | hw
            · exact absurd (by rw [← hw]; exact e.symm) (h1 y hy)
            · exact ih h2 y hy w hw e
      have e := same P.nd x hx _ hk rfl
      rw [e]
      exact nk
    · exact fun y => z (Nat.dvd_trans ⟨x.1 ^ x.2, by rw [Nat.pow_succ, Nat.mul_comm]⟩ y)
  obtain ⟨h1, h2⟩ := shq_ok (cs := cs) n0 (pp n n 2) n (fun _ => False) ⟨n0, Nat.dvd_refl n, Tls.self n cs⟩ hx P.nd (fun q z => z.elim)
  refine ⟨h1, fun l hl ht => ?_⟩
  have hg := h1.tl.gcd ht
  have dg : Nat.gcd (leaQ n cs) l ∣ leaQ n cs := Nat.gcd_dvd_left _ _
  by_cases e : Nat.gcd (leaQ n cs) l = leaQ n cs
  · rw [← e]; exact Nat.gcd_dvd_right _ _
  · exfalso
    obtain ⟨k, hk⟩ := dg
    have h0 : 0 < leaQ n cs := h1.pos
    have k0 : k ≠ 0 := fun z => by rw [z, Nat.mul_zero] at hk; omega
    have k1 : k ≠ 1 := fun z => by rw [z, Nat.mul_one] at hk; exact e hk.symm
    obtain ⟨q, hq, c, hc⟩ := pr_div k (by omega)
    have q0 : 0 < q := by have := hq.1; omega
    have ek : leaQ n cs = q * (Nat.gcd (leaQ n cs) l * c) := by
      rw [Nat.mul_left_comm, ← hc]
      exact hk
    have qd : q ∣ leaQ n cs := ⟨_, ek⟩
    have hqn := Nat.dvd_trans qd h1.dv
    obtain ⟨a, ha, _⟩ := P.al q hq hqn
    rcases h2 q hq (.inr ⟨_, ha, rfl⟩) with z | z
    · exact z qd
    · refine z (hg.up ?_)
      have : leaQ n cs / q = Nat.gcd (leaQ n cs) l * c := by
        rw [Nat.div_eq_of_eq_mul_right q0 ek]
      show Nat.gcd (leaQ n cs) l ∣ leaQ n cs / q
      rw [this]
      exact Nat.dvd_mul_right _ _
structure Gt (n : Nat) (cs : List Nat) (p a m : Nat) : Prop where
  st : St' n cs m
  pr : Pr p
  pw : p ^ a ∣ m
theorem Gt.dv {n p a m : Nat} {cs : List Nat} (h : Gt n cs p (a + 1) m) : p ∣ m := Nat.dvd_trans ⟨p ^ a, by rw [Nat.pow_succ, Nat.mul_comm]⟩ h.pw
theorem Gt.step {n p a m : Nat} {cs : List Nat} (h : Gt n cs p (a + 1) m) : Gt n cs p a (trn cs p m) := by
  obtain ⟨h1, h2⟩ := trn_ok h.pr h.st h.dv
  have p0 : 0 < p := by have := h.pr.1; omega
  refine ⟨h1, h.pr, ?_⟩
  have hd := h.pw
  rcases h2 with ⟨e, _⟩ | e
  · rw [e]; exact Nat.dvd_trans ⟨p, by rw [Nat.pow_succ]⟩ hd
  · rw [← e, Nat.pow_succ] at hd
    exact Nat.dvd_of_mul_dvd_mul_right p0 hd
structure Go (n : Nat) (cs : List Nat) (L : List (Nat × Nat)) (m : Nat) : Prop where
  st : St' n cs m
  pr : ∀ x ∈ L, Pr x.1 ∧ x.1 ^ x.2 ∣ m ∧ 0 < x.2
  nd : L.Pairwise fun x y => x.1 ≠ y.1
theorem Go.gt {n p a m : Nat} {cs : List Nat} {L : List (Nat × Nat)} (h : Go n cs ((p, a) :: L) m) : Gt n cs p a m := ⟨h.st, (h.pr _ List.mem_cons_self).1, (h.pr _ List.mem_cons_self).2.1⟩
theorem Go.le {n p a m : Nat} {cs : List Nat} {L : List (Nat × Nat)} (h : Go n cs ((p, a) :: L) m) : p ≤ m := by
  obtain ⟨_, h2, h3⟩ := h.pr _ List.mem_cons_self
  have h3 : 0 < a := h3
  have h2 : p ^ a ∣ m := h2
  have : p ∣ p ^ a := by
    obtain ⟨b, rfl⟩ : ∃ b, a = b + 1 := ⟨a - 1, by omega⟩
    exact ⟨p ^ b, by rw [Nat.pow_succ, Nat.mul_comm]⟩
  exact Nat.le_of_dvd h.st.pos (Nat.dvd_trans this h2)
theorem Go.step {n p a m : Nat} {cs : List Nat} {L : List (Nat × Nat)} (h : Go n cs ((p, a) :: L) m) : Go n cs L (trns cs p a m) := by
  obtain ⟨nd1, nd2⟩ := List.pairwise_cons.mp h.nd
  obtain ⟨hp, hpa, _⟩ := h.pr (p, a) List.mem_cons_self
  obtain ⟨g1, t, g2, g3, g4⟩ := trns_ok hp a m h.st hpa
  refine ⟨g1, fun x hx => ?_, nd2⟩
  obtain ⟨x1, x2, x3⟩ := h.pr x (List.mem_cons_of_mem _ hx)
  refine ⟨x1, ?_, x3⟩
  rw [g3] at x2
  exact (x1.pow hp (fun e => nd1 x hx e.symm) x.2 t).dvd_of_dvd_mul_right x2
theorem Go.start {n : Nat} (cs : List Nat) (n0 : 1 ≤ n) : Go n cs (pp n n 2) n := ⟨⟨n0, Nat.dvd_refl n, Tls.self n cs⟩, fun x hx => ⟨((pp_N n0).pr x hx).1, ((pp_N n0).pr x hx).2.1, (pp_N n0).ps x hx⟩, (pp_N n0).nd⟩
theorem Gt.lt {n p a m : Nat} {cs : List Nat} (h : Gt n cs p a m) : a < m := by
  have h1 : a < 2 ^ a := Nat.lt_two_pow_self
  have h2 : 2 ^ a ≤ p ^ a := Nat.pow_le_pow_left h.pr.1 a
  have h3 := Nat.le_of_dvd h.st.pos h.pw
  omega
theorem low_low {m m' : Nat} {cs : List Nat} (d : m' ∣ m) : low m' (low m cs) = low m' cs := by
  unfold low
  rw [List.filter_filter]
  congr 1
  funext s
  by_cases h : m' % s = 0
  · rw [decide_eq_true h, decide_eq_true (Nat.mod_eq_zero_of_dvd (Nat.dvd_trans (Nat.dvd_of_mod_eq_zero h) d))]
    rfl
  · rw [decide_eq_false h]
    rfl
theorem low_self {n : Nat} {cs : List Nat} (h : ∀ s ∈ cs, s ∣ n) : low n cs = cs := by
  unfold low
  rw [List.filter_eq_self]
  intro s hs
  exact decide_eq_true (Nat.mod_eq_zero_of_dvd (h s hs))

/-! ### which sizes are in; the next one -/
def hasB (n : Nat) (cs os : List Nat) (m : Nat) : Bool := true.xor (decide (Nat.gcd m n ∈ cs) == decide (m ∈ os))
theorem hasB_t {n m : Nat} {cs os : List Nat} : hasB n cs os m = true ↔ ((Nat.gcd m n ∈ cs ∧ m ∉ os) ∨ (Nat.gcd m n ∉ cs ∧ m ∈ os)) := by
  unfold hasB
  by_cases a : Nat.gcd m n ∈ cs <;> by_cases b : m ∈ os
  · rw [decide_eq_true a, decide_eq_true b]
    exact ⟨(fun z => nomatch z), fun z => z.elim (fun z => absurd b z.2) fun z => absurd a z.1⟩
  · rw [decide_eq_true a, decide_eq_false b]
    exact ⟨fun _ => .inl ⟨a, b⟩, fun _ => rfl⟩
  · rw [decide_eq_false a, decide_eq_true b]
    exact ⟨fun _ => .inr ⟨a, b⟩, fun _ => rfl⟩
  · rw [decide_eq_false a, decide_eq_false b]
    exact ⟨(fun z => nomatch z), fun z => z.elim (fun z => absurd z.1 a) fun z => absurd z.2 b⟩
theorem gcd_short {n m : Nat} {cs : List Nat} (n0 : 0 < n) : Nat.gcd m (leaQ n cs) ∈ low (leaQ n cs) cs ↔ Nat.gcd m n ∈ cs := by
  obtain ⟨h1, _⟩ := lea_ok cs n0
  rw [mem_low, h1.tl (Nat.gcd m n) (Nat.gcd_dvd_right m n), Nat.gcd_assoc, Nat.gcd_eq_right h1.dv]
  exact ⟨fun z => z.1, fun z => ⟨z, Nat.gcd_dvd_right _ _⟩⟩
theorem has_short {n m : Nat} {cs os : List Nat} (n0 : 0 < n) : hasB (leaQ n cs) (low (leaQ n cs) cs) os m = hasB n cs os m := by
  unfold hasB
  rw [decide_eq_decide.mpr (gcd_short (m := m) n0)]
/-- r is the least size above k that is in -/
def Lst (n : Nat) (cs os : List Nat) (k : Int) : Option Nat → Prop
  | none => ∀ m : Nat, 0 < m → k < (m : Int) → hasB n cs os m = false
  | some m => 0 < m ∧ k < (m : Int) ∧ hasB n cs os m = true ∧ ∀ j : Nat, 0 < j → k < (j : Int) → hasB n cs os j = true → m ≤ j
theorem least_nat {P : Nat → Prop} (h : ∃ n, P n) : ∃ n, P n ∧ ∀ j, P j → n ≤ j := by
  obtain ⟨n, hn⟩ := h
  induction n using Nat.strongRecOn with
  | _ n ih =>
    by_cases z : ∃ j, j < n ∧ P j
    · obtain ⟨j, hj, pj⟩ := z
      exact ih j hj pj
    · exact ⟨n, hn, fun j pj => Nat.le_of_not_lt fun hj => z ⟨j, hj, pj⟩⟩
theorem lst_ex (n : Nat) (cs os : List Nat) (k : Int) : ∃ r, Lst n cs os k r := by
  by_cases h : ∃ m : Nat, 0 < m ∧ k < (m : Int) ∧ hasB n cs os m = true
  · obtain ⟨m, ⟨h1, h2, h3⟩, h4⟩ := least_nat h
    exact ⟨some m, h1, h2, h3, fun j j1 j2 j3 => h4 j ⟨j1, j2, j3⟩⟩
  · refine ⟨none, fun m m0 hm => ?_⟩
    cases q : hasB n cs os m with
    | false => rfl
    | true => exact absurd ⟨m, m0, hm, q⟩ h
theorem lst_uni {n : Nat} {cs os : List Nat} {k : Int} {r r' : Option Nat} (h : Lst n cs os k r) (h' : Lst n cs os k r') : r = r' := by
  cases r with
  | none =>
    cases r' with
    | none => rfl
    | some m => have := h m h'.1 h'.2.1; rw [h'.2.2.1] at this; cases this
  | some m =>
    cases r' with
    | none => have := h' m h.1 h.2.1; rw [h.2.2.1] at this; cases this
    | some m' =>
      have a := h.2.2.2 m' h'.1 h'.2.1 h'.2.2.1
      have b := h'.2.2.2 m h.1 h.2.1 h.2.2.1
      rw [Nat.le_antisymm a b]
/-- the least times at which the class is met off the odd ones -/
def GoodT (l d : Nat) (os : List Nat) (t : Nat) : Prop := Nat.gcd (d * t) l = d ∧ d * t ∉ os
theorem mem_le_sum {os : List Nat} {x : Nat} (h : x ∈ os) : x ≤ os.sum := by
  induction os with
  | nil => cases h
  | cons a as ih =>
    rw [List.sum_cons]
    rcases List.mem_cons.mp h with e | h
    · omega
    · have := ih h; omega
theorem good_ex {l d : Nat} (os : List Nat) (d0 : 0 < d) (l0 : 0 < l) (hd : d ∣ l) (t0 : Nat) : ∃ t, t0 ≤ t ∧ t ≤ 1 + l * (t0 + os.sum + 1) ∧ GoodT l d os t ∧ ∀ j, t0 ≤ j → j < t → ¬ GoodT l d os j := by
  obtain ⟨e, he⟩ := hd
  have e0 : 0 < e := Nat.pos_of_ne_zero fun z => by rw [z, Nat.mul_zero] at he; omega
  have hT : GoodT l d os (1 + e * (t0 + os.sum + 1)) := by
    refine ⟨?_, fun z => ?_⟩
    · rw [he, Nat.gcd_mul_left]
      have : Nat.gcd (1 + e * (t0 + os.sum + 1)) e = 1 := by
        rw [Nat.gcd_comm, Nat.gcd_rec]
        by_cases h1 : e = 1
        · subst h1; simp
        · rw [Nat.add_mul_mod_self_left, Nat.mod_eq_of_lt (by omega)]
          exact Nat.gcd_one_left e
      rw [this, Nat.mul_one]
    · have := mem_le_sum z
      have a : 1 * (t0 + os.sum + 1) ≤ e * (t0 + os.sum + 1) := Nat.mul_le_mul_right _ e0
      have b : 1 * (1 + e * (t0 + os.sum + 1)) ≤ d * (1 + e * (t0 + os.sum + 1)) := Nat.mul_le_mul_right _ d0
      omega
  have le1 : t0 ≤ 1 + e * (t0 + os.sum + 1) := by
    have a : 1 * (t0 + os.sum + 1) ≤ e * (t0 + os.sum + 1) := Nat.mul_le_mul_right _ e0
    omega
  have le2 : 1 + e * (t0 + os.sum + 1) ≤ 1 + l * (t0 + os.sum + 1) := by
    have : e ≤ l := Nat.le_of_dvd l0 ⟨d, by rw [he, Nat.mul_comm]⟩
    have := Nat.mul_le_mul_right (t0 + os.sum + 1) this
    omega
  obtain ⟨t, ⟨h1, h2⟩, h3⟩ := least_nat (P := fun t => t0 ≤ t ∧ GoodT l d os t) ⟨_, le1, hT⟩
  have h4 := h3 _ ⟨le1, hT⟩
  exact ⟨t, h1, by omega, h2, fun j j1 j2 j3 => by have := h3 j ⟨j1, j3⟩; omega⟩
/-- where the walk begins -/
def t0Q (d : Nat) (k : Int) : Nat := k.toNat / d + 1
theorem t0_gt {d : Nat} {k : Int} (d0 : 0 < d) {t : Nat} (h : t0Q d k ≤ t) : k < ((d * t : Nat) : Int) ∧ 0 < d * t := by
  unfold t0Q at h
  have a : k.toNat < d * (k.toNat / d + 1) := by
    have := Nat.div_add_mod k.toNat d
    have := Nat.mod_lt k.toNat d0
    rw [Nat.mul_add, Nat.mul_one]
    omega
  have b : d * (k.toNat / d + 1) ≤ d * t := Nat.mul_le_mul_left d h
  omega
theorem t0_le {d : Nat} {k : Int} (d0 : 0 < d) {t : Nat} (h : k < ((d * t : Nat) : Int)) (h0 : 0 < d * t) : t0Q d k ≤ t := by
  unfold t0Q
  have a : k.toNat < d * t := by omega
  have := (Nat.div_lt_iff_lt_mul d0).mpr (by rw [Nat.mul_comm] at a; exact a)
  omega
structure NxT (l d : Nat) (os : List Nat) (k : Int) (t : Nat) : Prop where
  ge : t0Q d k ≤ t
  le : t ≤ 1 + l * (t0Q d k + os.sum + 1)
  gd : GoodT l d os t
  mn : ∀ j, t0Q d k ≤ j → j < t → ¬ GoodT l d os j
/-- the least of all these is the least size above -/
theorem lst_of {n : Nat} {cs os : List Nat} {k : Int} {tf : Nat → Nat} (hc : ∀ d ∈ cs, 0 < d ∧ d ∣ n) (ho : ∀ o ∈ os, 0 < o) (ht : ∀ d ∈ cs, NxT n d os k (tf d)) :
    (cs = [] → (∀ o ∈ os, k < (o : Int) → hasB n cs os o = false) → Lst n cs os k none) ∧
    ∀ m, (m ∈ cs.map (fun d => d * tf d) ∨ (m ∈ os ∧ k < (m : Int) ∧ hasB n cs os m = true)) → (∀ j, (j ∈ cs.map (fun d => d * tf d) ∨ (j ∈ os ∧ k < (j : Int) ∧ hasB n cs os j = true)) → m ≤ j) → Lst n cs os k (some m) := by
  refine ⟨fun e h m m0 hm => ?_, fun m hm hmin => ?_⟩
  · cases q : hasB n cs os m with
    | false => rfl
    | true =>
      rcases hasB_t.mp q with ⟨a, _⟩ | ⟨_, a⟩
      · rw [e] at a; cases a
      · rw [h m a hm] at q; cases q
  · have key : ∀ x, (x ∈ cs.map (fun d => d * tf d) ∨ (x ∈ os ∧ k < (x : Int) ∧ hasB n cs os x = true)) → 0 < x ∧ k < (x : Int) ∧ hasB n cs os x = true := fun x hx => by
      rcases hx with hx | ⟨a, b, c⟩
      · obtain ⟨d, hd, rfl⟩ := List.mem_map.mp hx
        have g := t0_gt (hc d hd).1 (ht d hd).ge
        exact ⟨g.2, g.1, hasB_t.mpr (.inl ⟨by rw [(ht d hd).gd.1]; exact hd, (ht d hd).gd.2⟩)⟩
      · exact ⟨ho x a, b, c⟩
    obtain ⟨k1, k2, k3⟩ := key m hm
    refine ⟨k1, k2, k3, fun j j0 jk jh => ?_⟩
    rcases hasB_t.mp jh with ⟨a, b⟩ | ⟨_, a⟩
    · obtain ⟨d0, _⟩ := hc _ a
      obtain ⟨t, ht'⟩ := Nat.gcd_dvd_left j n
      have N := ht _ a
      have le : tf (Nat.gcd j n) ≤ t := by
        rcases Nat.lt_or_ge t (tf (Nat.gcd j n)) with z | z
        · exfalso
          refine N.mn t (t0_le d0 (by rw [← ht']; exact jk) (by rw [← ht']; exact j0)) z ⟨?_, ?_⟩
          · rw [← ht']
          · rw [← ht']; exact b
        · exact z
      have := hmin (Nat.gcd j n * tf (Nat.gcd j n)) (.inl (List.mem_map.mpr ⟨_, a, rfl⟩))
      have := Nat.mul_le_mul_left (Nat.gcd j n) le
      omega
    · exact hmin j (.inr ⟨a, jk, jh⟩)
/-- beyond the odd ones each class comes within a period -/
theorem near_ex {n : Nat} {cs os : List Nat} (n0 : 0 < n) {d : Nat} (hd : d ∈ cs) (d0 : 0 < d) (dn : d ∣ n) (x : Nat) (hx : ∀ o ∈ os, o ≤ x) : ∃ m, x < m ∧ m ≤ x + n ∧ hasB n cs os m = true := by
  have le := Nat.le_of_dvd n0 dn
  -- m = d + q n with x < m ≤ x + n
  have ex : ∃ q, x < d + q * n ∧ d + q * n ≤ x + n := by
    by_cases h : x < d
    · exact ⟨0, by rw [Nat.zero_mul]; omega, by rw [Nat.zero_mul]; omega⟩
    · refine ⟨(x - d) / n + 1, ?_, ?_⟩
      · have := Nat.div_add_mod (x - d) n
        have := Nat.mod_lt (x - d) n0
        rw [Nat.add_mul, Nat.one_mul, Nat.mul_comm]
        omega
      · have := Nat.div_add_mod (x - d) n
        rw [Nat.add_mul, Nat.one_mul, Nat.mul_comm]
        omega
  obtain ⟨q, h1, h2⟩ := ex
  refine ⟨d + q * n, h1, h2, hasB_t.mpr (.inl ⟨?_, fun z => by have := hx _ z; omega⟩)⟩
  rw [Nat.gcd_comm, Nat.gcd_rec, Nat.add_mul_mod_self_right]
  by_cases e : d = n
  · subst e
    rw [Nat.mod_self, Nat.gcd_zero_left]
    exact hd
  · rw [Nat.mod_eq_of_lt (by omega), Nat.gcd_eq_left dn]
    exact hd

/-! ### each number once, ascending -/
def addN (acc : List Nat) (x : Nat) : List Nat := if x ∈ acc then acc else acc ++ [x]
def fo (xs : List Nat) : List Nat := xs.foldl addN []
theorem fo_app (xs : List Nat) (x : Nat) : fo (xs ++ [x]) = addN (fo xs) x := by unfold fo; rw [List.foldl_append]; rfl
theorem mem_addN {acc : List Nat} {x y : Nat} : y ∈ addN acc x ↔ y ∈ acc ∨ y = x := by
  unfold addN
  split
  · rename_i h
    exact ⟨.inl, fun z => z.elim id fun e => e ▸ h⟩
  · rw [List.mem_append, List.mem_singleton]
theorem fl_mem {y : Nat} : ∀ (xs acc : List Nat), y ∈ xs.foldl addN acc ↔ y ∈ acc ∨ y ∈ xs
  | [], acc => by simp
  | x :: xs, acc => by
    rw [List.foldl_cons, fl_mem xs, mem_addN, List.mem_cons]
    exact ⟨fun h => h.elim (fun h => h.elim .inl fun e => .inr (.inl e)) fun h => .inr (.inr h), fun h => h.elim (fun h => .inl (.inl h)) fun h => h.elim (fun e => .inl (.inr e)) .inr⟩
theorem fo_mem {y : Nat} (xs : List Nat) : y ∈ fo xs ↔ y ∈ xs := by
  unfold fo
  rw [fl_mem]
  simp
theorem fl_nd : ∀ (xs acc : List Nat), acc.Nodup → (xs.foldl addN acc).Nodup
  | [], _, h => h
  | x :: xs, acc, h => by
    refine fl_nd xs _ ?_
    unfold addN
    split
    · exact h
    · rename_i hx
      refine List.nodup_append.mpr ⟨h, (by simp), fun a ha b hb e => ?_⟩
      rw [List.mem_singleton] at hb
      subst hb e
      exact hx ha
theorem fo_nd (xs : List Nat) : (fo xs).Nodup := fl_nd xs [] List.nodup_nil
theorem fl_len : ∀ (xs acc : List Nat), (xs.foldl addN acc).length ≤ acc.length + xs.length
  | [], _ => Nat.le_refl _
  | x :: xs, acc => by
    refine Nat.le_trans (fl_len xs _) ?_
    unfold addN
    split
    · rw [List.length_cons]; omega
    · rw [List.length_append, List.length_cons, List.length_cons, List.length_nil]; omega
theorem fo_len (xs : List Nat) : (fo xs).length ≤ xs.length := Nat.le_trans (fl_len xs []) (by rw [List.length_nil]; omega)
def srt (xs : List Nat) : List Nat := (fo xs).mergeSort fun a b => decide (a ≤ b)
theorem srt_perm (xs : List Nat) : (srt xs).Perm (fo xs) := List.mergeSort_perm _ _
theorem srt_le (xs : List Nat) : (srt xs).Pairwise (· ≤ ·) := (List.pairwise_mergeSort (le := fun a b => decide (a ≤ b)) (fun a b c h1 h2 => decide_eq_true (Nat.le_trans (of_decide_eq_true h1) (of_decide_eq_true h2))) (fun a b => by
  rcases Nat.le_total a b with h | h
  · simp [h]
  · simp [h]) (fo xs)).imp fun h => of_decide_eq_true h
theorem srt_asc (xs : List Nat) : (srt xs).Pairwise (· < ·) := by
  have h1 : (srt xs).Nodup := (srt_perm xs).nodup_iff.mpr (fo_nd xs)
  exact (List.Pairwise.and (srt_le xs) h1).imp fun h => Nat.lt_of_le_of_ne h.1 h.2
theorem srt_mem {y : Nat} (xs : List Nat) : y ∈ srt xs ↔ y ∈ xs := by rw [(srt_perm xs).mem_iff, fo_mem]
theorem srt_len (xs : List Nat) : (srt xs).length ≤ xs.length := by rw [(srt_perm xs).length_eq]; exact fo_len xs
theorem srt_int (xs : List Nat) : sortI ((fo xs).map fun x : Nat => (x : Int)) = (srt xs).map fun x : Nat => (x : Int) := by
  refine (sortI_eq ((srt_perm xs).map _) ?_).symm
  rw [List.pairwise_map]
  exact (srt_le xs).imp fun h => by omega
/-- those that are the first of their kind -/
def fst1 (xs : List Nat) (i : Nat) : Bool := true.xor (decide (xs.getD i 0 ∈ xs.take i))
theorem each_eq (xs : List Nat) : ∀ k, k ≤ xs.length → ((List.range k).filter (fst1 xs)).map (fun i => xs.getD i 0) = fo (xs.take k)
  | 0, _ => rfl
  | k + 1, h => by
    have e : xs.take (k + 1) = xs.take k ++ [xs.getD k 0] := by
      rw [List.take_succ, List.getD_eq_getElem?_getD, List.getElem?_eq_getElem (by omega)]
      rfl
    rw [List.range_succ, List.filter_append, List.map_append, each_eq xs k (by omega), e, fo_app]
    unfold addN
    by_cases z : xs.getD k 0 ∈ xs.take k
    · rw [if_pos ((fo_mem _).mpr z), List.filter_cons_of_neg (by unfold fst1; rw [decide_eq_true z]; decide)]
      exact List.append_nil _
    · rw [if_neg (fun y => z ((fo_mem _).mp y)), List.filter_cons_of_pos (by unfold fst1; rw [decide_eq_false z]; rfl)]
      rfl
/-! ### shortest forms of some -/
theorem lea1 : leaQ 1 [] = 1 := Nat.dvd_one.mp (lea_ok [] (Nat.le_refl 1)).1.dv
theorem lea_self {d : Nat} (d0 : 0 < d) : leaQ d [d] = d := by
  obtain ⟨h, _⟩ := lea_ok [d] d0
  have t := (h.tl d (Nat.dvd_refl d)).mp (List.mem_singleton.mpr rfl)
  rw [List.mem_singleton, Nat.gcd_eq_right h.dv] at t
  exact t
theorem low_one {d : Nat} : low d [d] = [d] := by
  unfold low
  exact List.filter_cons_of_pos (by rw [decide_eq_true (Nat.mod_self d)])

theorem bi_bool : bootBuiltins "bool" = some (.type "bool") := by decide +kernel
theorem km_bool : PySem.W.kitMeta "bool" = true := by decide +kernel
def ob_bool (n : Nat) : Option Bool := match n with | 0 => some false | _ => none
theorem Tx.obIs_bool {T : Tab} {K : PySem.W.Frag} {mg : Str → Option Value} (t : Tx T K mg) : ObIs K T (.type "bool") ob_bool := fun n b h => by
  unfold ob_bool at h
  split at h
  · cases h; exact ⟨_, _, t.T_Sizes, t.i_Sizes, kit_sub t.su_Sizes_bool km_bool⟩
  · cases h
theorem bi_int : bootBuiltins "int" = some (.type "int") := by decide +kernel
theorem km_int : PySem.W.kitMeta "int" = true := by decide +kernel
def ob_int (n : Nat) : Option Bool := match n with | 0 => some false | _ => none
theorem Tx.obIs_int {T : Tab} {K : PySem.W.Frag} {mg : Str → Option Value} (t : Tx T K mg) : ObIs K T (.type "int") ob_int := fun n b h => by
  unfold ob_int at h
  split at h
  · cases h; exact ⟨_, _, t.T_Sizes, t.i_Sizes, kit_sub t.su_Sizes_int km_int⟩
  · cases h
theorem bi_tuple : bootBuiltins "tuple" = some (.type "tuple") := by decide +kernel
theorem km_tuple : PySem.W.kitMeta "tuple" = true := by decide +kernel
def ob_tuple (n : Nat) : Option Bool := match n with | 0 => some false | _ => none
theorem Tx.obIs_tuple {T : Tab} {K : PySem.W.Frag} {mg : Str → Option Value} (t : Tx T K mg) : ObIs K T (.type "tuple") ob_tuple := fun n b h => by
  unfold ob_tuple at h
  split at h
  · cases h; exact ⟨_, _, t.T_Sizes, t.i_Sizes, kit_sub t.su_Sizes_tuple km_tuple⟩
  · cases h
theorem Tx.kb_Sizes_2_ {T : Tab} {K : PySem.W.Frag} {mg : Str → Option Value} (t : Tx T K mg) : ∃ gg, KBn K t.fd_Sizes___init__ ["self", "period", "classes", "odd"] 3 [] gg (fun us ws => us ++ (((([.ref t.dz_Sizes___init__]) : List V).drop 0).take 1)) := by
  obtain ⟨its, h⟩ := t.F_Sizes___init__.kbindsD (ps := ["self", "period", "classes", "odd"]) 3 [] (fun us its ws => us ++ ((its.drop 0).take 1)) (List.cons_ne_nil _ _) (fun a c b => (a.append ((c.drop 0).take 1))) fun T kV doc pm an cdv ct us its ws l1 l2 l3 =>
    match us, its, ws, l1, l2, l3 with | [_, _, _], [_], [], _, _, _ => ⟨_, rfl, rfl⟩
  exact ⟨_, h⟩
def fu_Sizes_2_ (vs zs : List D) : List D := match vs, zs with | [d0, d1], [] => [d0, d1, .tup []] | _, _ => []
theorem Tx.put_Sizes_2_ {T : Tab} {K : PySem.W.Frag} {mg : Str → Option Value} (t : Tx T K mg) : ∀ vs zs : List D, vs.length = 2 → zs.length = ([] : List Str).length → Put K (fun us ws => us ++ (((([.ref t.dz_Sizes___init__]) : List V).drop 0).take 1)) vs zs (fu_Sizes_2_ vs zs)
  | [d0, d1], [], _, _ => fun x ws zs h1 h2 => match ws, zs, h1, h2 with | [w0, w1], [], _, _ => ⟨[w0, w1, .ref t.dz_Sizes___init__], rfl, fun _ _ _ r1 r2 => match r1, r2 with | .cons a0 (.cons a1 .nil), .nil => .cons a0 (.cons a1 (.cons (Rep.tup (.inr t.de_Sizes___init__) .nil) .nil))⟩
theorem Tx.kb_Sizes_3_ {T : Tab} {K : PySem.W.Frag} {mg : Str → Option Value} (t : Tx T K mg) : ∃ gg, KBn K t.fd_Sizes___init__ ["self", "period", "classes", "odd"] 4 [] gg (fun us ws => us) := by
  obtain ⟨its, h⟩ := t.F_Sizes___init__.kbindsD (ps := ["self", "period", "classes", "odd"]) 4 [] (fun us its ws => us) (List.cons_ne_nil _ _) (fun a c b => a) fun T kV doc pm an cdv ct us its ws l1 l2 l3 =>
    match us, its, ws, l1, l2, l3 with | [_, _, _, _], [_], [], _, _, _ => ⟨_, rfl, rfl⟩
  exact ⟨_, h⟩
def fu_Sizes_3_ (vs zs : List D) : List D := match vs, zs with | [d0, d1, d2], [] => [d0, d1, d2] | _, _ => []
theorem Tx.put_Sizes_3_ {T : Tab} {K : PySem.W.Frag} {mg : Str → Option Value} (t : Tx T K mg) : ∀ vs zs : List D, vs.length = 3 → zs.length = ([] : List Str).length → Put K (fun us ws => us) vs zs (fu_Sizes_3_ vs zs)
  | [d0, d1, d2], [], _, _ => fun x ws zs h1 h2 => match ws, zs, h1, h2 with | [w0, w1, w2], [], _, _ => ⟨[w0, w1, w2], rfl, fun _ _ _ r1 r2 => match r1, r2 with | .cons a0 (.cons a1 (.cons a2 .nil)), .nil => .cons a0 (.cons a1 (.cons a2 .nil))⟩
def xfn (n : Nat) : List Str := match n with | 1 => ["word"] | 2 => ["size"] | _ => []
def isErr (n : Nat) : Bool := match n with | 1 => true | 2 => true | _ => false
def mt_InvalidSize (n : Nat) : Option Bool := match n with | 1 => some false | 2 => some true | _ => none
theorem Tx.nm_InvalidSize {X : Cx} {T : Tab} (t : Tx T X.K X.mg) (hg : Gl X "InvalidSize") : Names X "InvalidSize" (.ref t.c_InvalidSize) := ⟨hg, by decide, .inl t.m_InvalidSize⟩
theorem Tx.mt_of_InvalidSize {T : Tab} {K : PySem.W.Frag} {mg : Str → Option Value} (t : Tx T K mg) : ∀ m b, mt_InvalidSize m = some b → ∀ C fn, T m = some (C, fn) → PySem.W.exmOne K (.ref C) (.ref t.c_InvalidSize) = some b := fun m b h C fn hT => by
  unfold mt_InvalidSize at h
  split at h
  · cases h; have := t.T_InvalidSizes; rw [hT] at this; cases this; exact t.ex_InvalidSizes_InvalidSize
  · cases h; have := t.T_InvalidSize; rw [hT] at this; cases this; exact t.ex_InvalidSize_InvalidSize
  · cases h
theorem mt_err_InvalidSize {m : Nat} (h : mt_InvalidSize m = some true) : isErr m = true := by
  unfold mt_InvalidSize at h
  split at h
  · cases h
  · rfl
  · cases h
def mt_InvalidSizes (n : Nat) : Option Bool := match n with | 1 => some true | 2 => some false | _ => none
theorem Tx.nm_InvalidSizes {X : Cx} {T : Tab} (t : Tx T X.K X.mg) (hg : Gl X "InvalidSizes") : Names X "InvalidSizes" (.ref t.c_InvalidSizes) := ⟨hg, by decide, .inl t.m_InvalidSizes⟩
theorem Tx.mt_of_InvalidSizes {T : Tab} {K : PySem.W.Frag} {mg : Str → Option Value} (t : Tx T K mg) : ∀ m b, mt_InvalidSizes m = some b → ∀ C fn, T m = some (C, fn) → PySem.W.exmOne K (.ref C) (.ref t.c_InvalidSizes) = some b := fun m b h C fn hT => by
  unfold mt_InvalidSizes at h
  split at h
  · cases h; have := t.T_InvalidSizes; rw [hT] at this; cases this; exact t.ex_InvalidSizes_InvalidSizes
  · cases h; have := t.T_InvalidSize; rw [hT] at this; cases this; exact t.ex_InvalidSize_InvalidSizes
  · cases h
theorem mt_err_InvalidSizes {m : Nat} (h : mt_InvalidSizes m = some true) : isErr m = true := by
  unfold mt_InvalidSizes at h
  split at h
  · rfl
  · cases h
  · cases h
theorem Tx.exc_of_InvalidSize {T : Tab} {K : PySem.W.Frag} {mg : Str → Option Value} {m : Nat} {Ce : Addr} {fn : List Str} (t : Tx T K mg) (hm : mt_InvalidSize m = some true) (hT : T m = some (Ce, fn)) : ExcC K Ce := by
  have he := mt_err_InvalidSize hm
  unfold isErr at he
  split at he
  · have := t.T_InvalidSizes; rw [hT] at this; cases this; exact t.x_InvalidSizes
  · have := t.T_InvalidSize; rw [hT] at this; cases this; exact t.x_InvalidSize
  · cases he
theorem Tx.err_of_InvalidSize {X : Cx} {T : Tab} {m : Nat} {Ce : Addr} {fn : List Str} {a : Addr} {oe : Obj} {d : Option Addr} (t : Tx T X.K X.mg) (hm : mt_InvalidSize m = some true) (hT : T m = some (Ce, fn)) (hz : Zc (.ref Ce) d oe) (hv : ∃ vs, oe.data = .fields vs) : Err X T m a d Ce oe := ⟨t.exc_of_InvalidSize hm hT, hz, hv, _, hT⟩
theorem Tx.xf_of_InvalidSize {T : Tab} {K : PySem.W.Frag} {mg : Str → Option Value} {m : Nat} {Ce : Addr} {fn : List Str} (t : Tx T K mg) (hm : mt_InvalidSize m = some true) (hT : T m = some (Ce, fn)) : XfC K Ce := by
  have he := mt_err_InvalidSize hm
  unfold isErr at he
  split at he
  · have := t.T_InvalidSizes; rw [hT] at this; cases this; exact t.xf_InvalidSizes
  · have := t.T_InvalidSize; rw [hT] at this; cases this; exact t.xf_InvalidSize
  · cases he
theorem Tx.T_of_InvalidSize {T : Tab} {K : PySem.W.Frag} {mg : Str → Option Value} {m : Nat} {Ce : Addr} {fn : List Str} (t : Tx T K mg) (hm : mt_InvalidSize m = some true) (hT : T m = some (Ce, fn)) : T m = some (Ce, xfn m) := by
  have he := mt_err_InvalidSize hm
  unfold isErr at he
  split at he
  · have := t.T_InvalidSizes; rw [hT] at this; cases this; exact t.T_InvalidSizes
  · have := t.T_InvalidSize; rw [hT] at this; cases this; exact t.T_InvalidSize
  · cases he
theorem Tx.no_of_InvalidSize_size {T : Tab} {K : PySem.W.Frag} {mg : Str → Option Value} {m : Nat} {Ce : Addr} {fn : List Str} (t : Tx T K mg) (hm : mt_InvalidSize m = some true) (hT : T m = some (Ce, fn)) : PySem.W.findIn K (.ref Ce) "size" = some none := by
  have he := mt_err_InvalidSize hm
  unfold isErr at he
  split at he
  · have := t.T_InvalidSizes; rw [hT] at this; cases this; exact t.no_InvalidSizes_size
  · have := t.T_InvalidSize; rw [hT] at this; cases this; exact t.no_InvalidSize_size
  · cases he
theorem Tx.no_of_InvalidSize_word {T : Tab} {K : PySem.W.Frag} {mg : Str → Option Value} {m : Nat} {Ce : Addr} {fn : List Str} (t : Tx T K mg) (hm : mt_InvalidSize m = some true) (hT : T m = some (Ce, fn)) : PySem.W.findIn K (.ref Ce) "word" = some none := by
  have he := mt_err_InvalidSize hm
  unfold isErr at he
  split at he
  · have := t.T_InvalidSizes; rw [hT] at this; cases this; exact t.no_InvalidSizes_word
  · have := t.T_InvalidSize; rw [hT] at this; cases this; exact t.no_InvalidSize_word
  · cases he
def kt_ClashError (n : Nat) : Option Bool := match n with | 1 => some true | 2 => some true | _ => none
theorem Tx.kt_of_InvalidSize_ClashError {T : Tab} {K : PySem.W.Frag} {mg : Str → Option Value} {m : Nat} {Ce : Addr} {fn : List Str} (t : Tx T K mg) (hm : mt_InvalidSize m = some true) (hT : T m = some (Ce, fn)) : ∀ b, kt_ClashError m = some b → PySem.W.kitOne K (.ref Ce) (.ref t.c_ClashError) = some b := by
  have he := mt_err_InvalidSize hm
  intro b h
  unfold kt_ClashError at h
  unfold isErr at he
  split at he
  · have := t.T_InvalidSizes; rw [hT] at this; cases this; cases h; exact t.kt_InvalidSizes_ClashError
  · have := t.T_InvalidSize; rw [hT] at this; cases this; cases h; exact t.kt_InvalidSize_ClashError
  · cases he
def kt_InvalidForm_InvalidSize_InvalidCount_InvalidText (n : Nat) : Option Bool := match n with | 1 => some false | 2 => some true | _ => none
theorem Tx.kt_of_InvalidSize_InvalidForm_InvalidSize_InvalidCount_InvalidText {T : Tab} {K : PySem.W.Frag} {mg : Str → Option Value} {m : Nat} {Ce : Addr} {fn : List Str} (t : Tx T K mg) (hm : mt_InvalidSize m = some true) (hT : T m = some (Ce, fn)) : ∀ b, kt_InvalidForm_InvalidSize_InvalidCount_InvalidText m = some b → PySem.W.kitAny K (.ref Ce) (([t.c_InvalidForm, t.c_InvalidSize, t.c_InvalidCount, t.c_InvalidText] : List Addr).map Value.ref) = some b := by
  have he := mt_err_InvalidSize hm
  intro b h
  unfold kt_InvalidForm_InvalidSize_InvalidCount_InvalidText at h
  unfold isErr at he
  split at he
  · have := t.T_InvalidSizes; rw [hT] at this; cases this; cases h; exact by simp only [List.map, PySem.W.kitAny, t.kt_InvalidSizes_InvalidForm, t.kt_InvalidSizes_InvalidSize, t.kt_InvalidSizes_InvalidCount, t.kt_InvalidSizes_InvalidText]
  · have := t.T_InvalidSize; rw [hT] at this; cases this; cases h; exact by simp only [List.map, PySem.W.kitAny, t.kt_InvalidSize_InvalidForm, kit_self, t.kt_InvalidSize_InvalidCount, t.kt_InvalidSize_InvalidText]
  · cases he
theorem Tx.exc_of_InvalidSizes {T : Tab} {K : PySem.W.Frag} {mg : Str → Option Value} {m : Nat} {Ce : Addr} {fn : List Str} (t : Tx T K mg) (hm : mt_InvalidSizes m = some true) (hT : T m = some (Ce, fn)) : ExcC K Ce := by
  have he := mt_err_InvalidSizes hm
  unfold isErr at he
  split at he
  · have := t.T_InvalidSizes; rw [hT] at this; cases this; exact t.x_InvalidSizes
  · have := t.T_InvalidSize; rw [hT] at this; cases this; exact t.x_InvalidSize
  · cases he
theorem Tx.err_of_InvalidSizes {X : Cx} {T : Tab} {m : Nat} {Ce : Addr} {fn : List Str} {a : Addr} {oe : Obj} {d : Option Addr} (t : Tx T X.K X.mg) (hm : mt_InvalidSizes m = some true) (hT : T m = some (Ce, fn)) (hz : Zc (.ref Ce) d oe) (hv : ∃ vs, oe.data = .fields vs) : Err X T m a d Ce oe := ⟨t.exc_of_InvalidSizes hm hT, hz, hv, _, hT⟩
theorem Tx.xf_of_InvalidSizes {T : Tab} {K : PySem.W.Frag} {mg : Str → Option Value} {m : Nat} {Ce : Addr} {fn : List Str} (t : Tx T K mg) (hm : mt_InvalidSizes m = some true) (hT : T m = some (Ce, fn)) : XfC K Ce := by
  have he := mt_err_InvalidSizes hm
  unfold isErr at he
  split at he
  · have := t.T_InvalidSizes; rw [hT] at this; cases this; exact t.xf_InvalidSizes
  · have := t.T_InvalidSize; rw [hT] at this; cases this; exact t.xf_InvalidSize
  · cases he
theorem Tx.T_of_InvalidSizes {T : Tab} {K : PySem.W.Frag} {mg : Str → Option Value} {m : Nat} {Ce : Addr} {fn : List Str} (t : Tx T K mg) (hm : mt_InvalidSizes m = some true) (hT : T m = some (Ce, fn)) : T m = some (Ce, xfn m) := by
  have he := mt_err_InvalidSizes hm
  unfold isErr at he
  split at he
  · have := t.T_InvalidSizes; rw [hT] at this; cases this; exact t.T_InvalidSizes
  · have := t.T_InvalidSize; rw [hT] at this; cases this; exact t.T_InvalidSize
  · cases he
theorem Tx.no_of_InvalidSizes_size {T : Tab} {K : PySem.W.Frag} {mg : Str → Option Value} {m : Nat} {Ce : Addr} {fn : List Str} (t : Tx T K mg) (hm : mt_InvalidSizes m = some true) (hT : T m = some (Ce, fn)) : PySem.W.findIn K (.ref Ce) "size" = some none := by
  have he := mt_err_InvalidSizes hm
  unfold isErr at he
  split at he
  · have := t.T_InvalidSizes; rw [hT] at this; cases this; exact t.no_InvalidSizes_size
  · have := t.T_InvalidSize; rw [hT] at this; cases this; exact t.no_InvalidSize_size
  · cases he
theorem Tx.no_of_InvalidSizes_word {T : Tab} {K : PySem.W.Frag} {mg : Str → Option Value} {m : Nat} {Ce : Addr} {fn : List Str} (t : Tx T K mg) (hm : mt_InvalidSizes m = some true) (hT : T m = some (Ce, fn)) : PySem.W.findIn K (.ref Ce) "word" = some none := by
  have he := mt_err_InvalidSizes hm
  unfold isErr at he
  split at he
  · have := t.T_InvalidSizes; rw [hT] at this; cases this; exact t.no_InvalidSizes_word
  · have := t.T_InvalidSize; rw [hT] at this; cases this; exact t.no_InvalidSize_word
  · cases he
theorem Tx.kt_of_InvalidSizes_ClashError {T : Tab} {K : PySem.W.Frag} {mg : Str → Option Value} {m : Nat} {Ce : Addr} {fn : List Str} (t : Tx T K mg) (hm : mt_InvalidSizes m = some true) (hT : T m = some (Ce, fn)) : ∀ b, kt_ClashError m = some b → PySem.W.kitOne K (.ref Ce) (.ref t.c_ClashError) = some b := by
  have he := mt_err_InvalidSizes hm
  intro b h
  unfold kt_ClashError at h
  unfold isErr at he
  split at he
  · have := t.T_InvalidSizes; rw [hT] at this; cases this; cases h; exact t.kt_InvalidSizes_ClashError
  · have := t.T_InvalidSize; rw [hT] at this; cases this; cases h; exact t.kt_InvalidSize_ClashError
  · cases he
theorem Tx.kt_of_InvalidSizes_InvalidForm_InvalidSize_InvalidCount_InvalidText {T : Tab} {K : PySem.W.Frag} {mg : Str → Option Value} {m : Nat} {Ce : Addr} {fn : List Str} (t : Tx T K mg) (hm : mt_InvalidSizes m = some true) (hT : T m = some (Ce, fn)) : ∀ b, kt_InvalidForm_InvalidSize_InvalidCount_InvalidText m = some b → PySem.W.kitAny K (.ref Ce) (([t.c_InvalidForm, t.c_InvalidSize, t.c_InvalidCount, t.c_InvalidText] : List Addr).map Value.ref) = some b := by
  have he := mt_err_InvalidSizes hm
  intro b h
  unfold kt_InvalidForm_InvalidSize_InvalidCount_InvalidText at h
  unfold isErr at he
  split at he
  · have := t.T_InvalidSizes; rw [hT] at this; cases this; cases h; exact by simp only [List.map, PySem.W.kitAny, t.kt_InvalidSizes_InvalidForm, t.kt_InvalidSizes_InvalidSize, t.kt_InvalidSizes_InvalidCount, t.kt_InvalidSizes_InvalidText]
  · have := t.T_InvalidSize; rw [hT] at this; cases this; cases h; exact by simp only [List.map, PySem.W.kitAny, t.kt_InvalidSize_InvalidForm, kit_self, t.kt_InvalidSize_InvalidCount, t.kt_InvalidSize_InvalidText]
  · cases he

def w__law_box (n : Nat) : WS := (wConsS (wAsg 2 (wTwo (wTwo (wCon (.int 7919)) (wName 1) mulW) (wCon (.int 11)) addW))
  (wConsS (wIfS (wBl (wTwo (wName 1) (wCb (wCons (wName 0) wNil) lenW) ltW))
  (wConsS (wAsg 2 (wTwo (wName 0) (wName 1) ixW))
  wNilS)
  (wConsS (wIfS (wBl (wTwo (wCb (wCons (wName 0) wNil) lenW) (wCon (.int 0)) gtW))
  (wConsS (wAsg 2 (wTwo (wName 2) (wTwo (wTwo (wCb (wCons (wTwo (wName 0) (wTwo (wName 1) (wCb (wCons (wName 0) wNil) lenW) modW) ixW) wNil) intW1) (wCon (.int 2147483629)) modW) (wCon (.int 69623)) mulW) addW))
  wNilS)
  wNilS)
  wNilS))
  (wConsS (wAsg 3 (wTwo (wTwo (wTwo (wTwo (wTwo (wCb (wCons (wName 2) wNil) intW1) (wCon (.int 2147483629)) modW) (wTwo (wCon (.int 104729)) (wName 1) mulW) addW) (wCon (.int 1)) addW) (wCon (.int 5)) powW) (wCon (.int 2147483647)) modW))
  (wConsS (wRetC n (wLstC (wCons (wTwo (wLst (wCons (wCon (.int 0)) (wCons (wName 2) wNil))) (wCb (wCons (wTwo (wName 2) (wTwo (wCon (.int 10)) (wCon (.int 18)) powW) geW) wNil) intW1) ixW) (wCons (wTwo (wTwo (wCb (wCons (wName 3) wNil) intW1) (wCon (.int 2147483646)) modW) (wCon (.int 1)) addW) wNil))))
  wNilS))))
def c__law_box : Ct := ctOf ["_law_script", "_law_k", "_law_cell", "_law_seed"] ["_law_script", "_law_k"] (w__law_box)
section
variable {T : Tab} {P : Program} {w : World} {K : PySem.W.Frag} {mg : Str → Option Value} {base : Heap}
theorem Tx.ok__law_box (t : Tx T K mg) : FnOk P w K mg base CX0 1 t.a__law_box t.fd__law_box ["_law_script", "_law_k"] (spC T K c__law_box) := by
  have nd := sc__law_box.nd
  exact fn_J t.F__law_box sc__law_box fun cdv A outer sh H E hr n => (jss_cons (js_asg 2 nd (je_bin jb_add (je_bin jb_mul je_int (je_name 1)) je_int))
  (jss_cons (js_if (jt_cmp jc_lt (je_name 1) (je_cb t.z_len jc_len (ja_cons (je_name 0) ja_nil)))
  (jss_cons (js_asg 2 nd (je_sub ji_ix (je_name 0) (je_name 1)))
  jss_nil)
  (jss_cons (js_if (jt_cmp jc_gt (je_cb t.z_len jc_len (ja_cons (je_name 0) ja_nil)) je_int)
  (jss_cons (js_asg 2 nd (je_bin jb_add (je_name 2) (je_bin jb_mul (je_bin jb_mod (je_cb t.z_int jc_int (ja_cons (je_sub ji_ix (je_name 0) (je_bin jb_mod (je_name 1) (je_cb t.z_len jc_len (ja_cons (je_name 0) ja_nil)))) ja_nil)) je_int) je_int)))
  jss_nil)
  jss_nil)
  jss_nil))
  (jss_cons (js_asg 3 nd (je_bin jb_mod (je_bin jb_pow (je_bin jb_add (je_bin jb_add (je_bin jb_mod (je_cb t.z_int jc_int (ja_cons (je_name 2) ja_nil)) je_int) (je_bin jb_mul je_int (je_name 1))) je_int) je_int) je_int))
  (jss_cons (js_retC (je_lstC (ja_cons (je_sub ji_ix (je_lst (ja_cons je_int (ja_cons (je_name 2) ja_nil))) (je_cb t.z_int jc_int (ja_cons (je_cmp jc_ge (je_name 2) (je_bin jb_pow je_int je_int)) ja_nil))) (ja_cons (je_bin jb_add (je_bin jb_mod (je_cb t.z_int jc_int (ja_cons (je_name 3) ja_nil)) je_int) je_int) ja_nil))))
  jss_nil))))
end

def w__law_parts_of (n : Nat) : WS := (wConsS (wRet n (wLc (wRng2 (wCons (wCon (.int 1)) (wCons (wTwo (wName 0) (wCon (.int 1)) addW) wNil))) (.nm 1) (wBl (wTwo (wTwo (wName 0) (wName 1) modW) (wCon (.int 0)) (eqW false))) (wName 1) [1]))
  wNilS)
def c__law_parts_of : Ct := ctOf ["_law_number", "_law_size"] ["_law_number"] (w__law_parts_of)
section
variable {T : Tab} {P : Program} {w : World} {K : PySem.W.Frag} {mg : Str → Option Value} {base : Heap}
theorem Tx.ok__law_parts_of (t : Tx T K mg) : FnOk P w K mg base CX0 1 t.a__law_parts_of t.fd__law_parts_of ["_law_number"] (spC T K c__law_parts_of) := by
  have nd := sc__law_parts_of.nd
  exact fn_J t.F__law_parts_of sc__law_parts_of fun cdv A outer sh H E hr n => (jss_cons (js_ret (je_lc nd ⟨(ji_range2 t.z_range (ja_cons je_int (ja_cons (je_bin jb_add (je_name 0) je_int) ja_nil))), blkOk_by (own := [("_law_size", 1)]) (by kernel_rfl), fun _ _ _ _ _ => (dg_name 1 nd), fun _ _ _ _ _ => (jts_one (jt_cmp (jc_eq hr.units) (je_bin jb_mod (je_name 0) (je_name 1)) je_int)), fun _ _ _ _ _ => (je_name 1), by decide⟩))
  jss_nil)
end

def w__law_take (n : Nat) : WS := (wConsS (wIfS (wBl (wTwo (wTwo (wName 0) (wCon (.int 0)) ixW) (wCon (.int 0)) gtW))
  (wConsS (wAsg 2 (wTwo (wCb (wCons (wTwo (wName 0) (wCon (.int 0)) ixW) wNil) intW1) (wName 1) modW))
  (wConsS (wSetL (wTwo (wTwo (wName 0) (wCon (.int 0)) ixW) (wName 1) fdivW) (wName 0) (wCon (.int 0)))
  (wConsS (wRet n (wName 2))
  wNilS)))
  wNilS)
  (wConsS (wAsg 3 (wTwo (wCb (wCons (wTwo (wTwo (wName 0) (wCon (.int 1)) ixW) (wCon (.int 69623)) mulW) wNil) intW1) (wCon (.int 2147483647)) modW))
  (wConsS (wSetL (wTwo (wTwo (wCb (wCons (wTwo (wTwo (wName 3) (wCon (.int 48271)) mulW) (wCon (.int 30103)) addW) wNil) intW1) (wCon (.int 2147483629)) modW) (wCon (.int 1)) addW) (wName 0) (wCon (.int 1)))
  (wConsS (wRet n (wTwo (wCb (wCons (wTwo (wTwo (wTwo (wName 3) (wCon (.int 2147483647)) mulW) (wTwo (wName 0) (wCon (.int 1)) ixW) addW) (wCon (.int 8191)) fdivW) wNil) intW1) (wName 1) modW))
  wNilS))))
def c__law_take : Ct := ctOf ["_law_box_here", "_law_many", "_law_digit", "_law_one"] ["_law_box_here", "_law_many"] (w__law_take)
section
variable {T : Tab} {P : Program} {w : World} {K : PySem.W.Frag} {mg : Str → Option Value} {base : Heap}
theorem Tx.ok__law_take (t : Tx T K mg) : FnOk P w K mg base CX0 1 t.a__law_take t.fd__law_take ["_law_box_here", "_law_many"] (spC T K c__law_take) := by
  have nd := sc__law_take.nd
  exact fn_J t.F__law_take sc__law_take fun cdv A outer sh H E hr n => (jss_cons (js_if (jt_cmp jc_gt (je_sub ji_ix (je_name 0) je_int) je_int)
  (jss_cons (js_asg 2 nd (je_bin jb_mod (je_cb t.z_int jc_int (ja_cons (je_sub ji_ix (je_name 0) je_int) ja_nil)) (je_name 1)))
  (jss_cons (js_setL (je_bin jb_fdiv (je_sub ji_ix (je_name 0) je_int) (je_name 1)) (je_name 0) je_int)
  (jss_cons (js_ret (je_name 2))
  jss_nil)))
  jss_nil)
  (jss_cons (js_asg 3 nd (je_bin jb_mod (je_cb t.z_int jc_int (ja_cons (je_bin jb_mul (je_sub ji_ix (je_name 0) je_int) je_int) ja_nil)) je_int))
  (jss_cons (js_setL (je_bin jb_add (je_bin jb_mod (je_cb t.z_int jc_int (ja_cons (je_bin jb_add (je_bin jb_mul (je_name 3) je_int) je_int) ja_nil)) je_int) je_int) (je_name 0) je_int)
  (jss_cons (js_ret (je_bin jb_mod (je_cb t.z_int jc_int (ja_cons (je_bin jb_fdiv (je_bin jb_add (je_bin jb_mul (je_name 3) je_int) (je_sub ji_ix (je_name 0) je_int)) je_int) ja_nil)) (je_name 1)))
  jss_nil))))
end

def w__law_period (n : Nat) : WS := (wConsS (wRet n (wTwo (wLst (wCons (wCon (.int 1)) (wCons (wCon (.int 2)) (wCons (wCon (.int 4)) (wCons (wCon (.int 6)) (wCons (wCon (.int 12)) (wCons (wCon (.int 30)) (wCons (wCon (.int 36)) (wCons (wCon (.int 49)) (wCons (wCon (.int 97)) (wCons (wCon (.int 64)) (wCons (wCon (.int 210)) (wCons (wCon (.int 360)) (wCons (wCon (.int 2520)) wNil)))))))))))))) (wFn c__law_take (wCons (wName 0) (wCons (wCon (.int 13)) wNil))) ixW))
  wNilS)
def c__law_period : Ct := ctOf ["_law_box_here"] ["_law_box_here"] (w__law_period)
section
variable {T : Tab} {P : Program} {w : World} {K : PySem.W.Frag} {mg : Str → Option Value} {base : Heap}
theorem Tx.ok__law_period (t : Tx T K mg) : FnOk P w K mg base CX0 2 t.a__law_period t.fd__law_period ["_law_box_here"] (spC T K c__law_period) := by
  have nd := sc__law_period.nd
  exact fn_J t.F__law_period sc__law_period fun cdv A outer sh H E hr n => (jss_cons (js_ret (je_sub ji_ix (je_lst (ja_cons je_int (ja_cons je_int (ja_cons je_int (ja_cons je_int (ja_cons je_int (ja_cons je_int (ja_cons je_int (ja_cons je_int (ja_cons je_int (ja_cons je_int (ja_cons je_int (ja_cons je_int (ja_cons je_int ja_nil)))))))))))))) (je_call t.ok__law_take (hr.mono (by decide)) t.m__law_take t.F__law_take.kp t.b__law_take (ja_cons (je_name 0) (ja_cons je_int ja_nil)))))
  jss_nil)
end

def w__law_odds_turn (n : Nat) : WS := (wConsS (wAsg 2 (wTwo (wTwo (wName 2) (wCon (.int 1)) addW) (wTwo (wLst (wCons (wFn c__law_take (wCons (wName 0) (wCons (wCon (.int 4)) wNil))) (wCons (wFn c__law_take (wCons (wName 0) (wCons (wCon (.int 160)) wNil))) wNil))) (wCb (wCons (wTwo (wFn c__law_take (wCons (wName 0) (wCons (wCon (.int 6)) wNil))) (wCon (.int 0)) (eqW false)) wNil) intW1) ixW) addW))
  (wConsS (wExpr (wApp (wName 1) (wName 2)))
  wNilS))
def w__law_odds (n : Nat) : WS := (wConsS (wPar3 1 2 3 (wCons (wLstC wNil) (wCons (wCon (.int 0)) (wCons (wTwo (wLst (wCons (wFn c__law_take (wCons (wName 0) (wCons (wCon (.int 7)) wNil))) (wCons (wCon (.int 60)) wNil))) (wCb (wCons (wTwo (wFn c__law_take (wCons (wName 0) (wCons (wCon (.int 24)) wNil))) (wCon (.int 0)) (eqW false)) wNil) intW1) ixW) wNil))))
  (wConsS (wFor (wRng1 (wCons (wName 3) wNil)) (.nm 4)
  (w__law_odds_turn n))
  (wFrz 1 n (wConsS (wRet n (wCb (wCons (wName 1) wNil) tupleW))
  wNilS))))
def c__law_odds : Ct := ctOf ["_law_box_here", "_law_found", "_law_n", "_law_many", "_law_k"] ["_law_box_here"] (w__law_odds)
section
variable {T : Tab} {P : Program} {w : World} {K : PySem.W.Frag} {mg : Str → Option Value} {base : Heap}
theorem Tx.ok__law_odds (t : Tx T K mg) : FnOk P w K mg base CX0 2 t.a__law_odds t.fd__law_odds ["_law_box_here"] (spC T K c__law_odds) := by
  have nd := sc__law_odds.nd
  exact fn_J t.F__law_odds sc__law_odds fun cdv A outer sh H E hr n => (jss_cons (js_par3 1 2 3 nd (ja_cons (je_lstC ja_nil) (ja_cons je_int (ja_cons (je_sub ji_ix (je_lst (ja_cons (je_call t.ok__law_take (hr.mono (by decide)) t.m__law_take t.F__law_take.kp t.b__law_take (ja_cons (je_name 0) (ja_cons je_int ja_nil))) (ja_cons je_int ja_nil))) (je_cb t.z_int jc_int (ja_cons (je_cmp (jc_eq hr.units) (je_call t.ok__law_take (hr.mono (by decide)) t.m__law_take t.F__law_take.kp t.b__law_take (ja_cons (je_name 0) (ja_cons je_int ja_nil))) je_int) ja_nil))) ja_nil))))
  (jss_cons (js_for PassesOwn.never (ji_range1 t.z_range (ja_cons (je_name 3) ja_nil)) (dg_name 4 nd)
  (jss_cons (js_asg 2 nd (je_bin jb_add (je_bin jb_add (je_name 2) je_int) (je_sub ji_ix (je_lst (ja_cons (je_call t.ok__law_take (hr.mono (by decide)) t.m__law_take t.F__law_take.kp t.b__law_take (ja_cons (je_name 0) (ja_cons je_int ja_nil))) (ja_cons (je_call t.ok__law_take (hr.mono (by decide)) t.m__law_take t.F__law_take.kp t.b__law_take (ja_cons (je_name 0) (ja_cons je_int ja_nil))) ja_nil))) (je_cb t.z_int jc_int (ja_cons (je_cmp (jc_eq hr.units) (je_call t.ok__law_take (hr.mono (by decide)) t.m__law_take t.F__law_take.kp t.b__law_take (ja_cons (je_name 0) (ja_cons je_int ja_nil))) je_int) ja_nil)))))
  (jss_cons (js_expr (je_app (je_name 1) (je_name 2)))
  jss_nil)))
  (jss_frz 1 (jss_cons (js_ret (je_cb t.z_tuple jc_tuple (ja_cons (je_name 1) ja_nil)))
  jss_nil))))
end

def w__law_model_last (n : Nat) : WS := (wConsS (wRet n (wTup (wCons (wName 1) (wCons (wCb (wCons (wName 4) wNil) tupleW) (wCons (wFn c__law_odds (wCons (wName 0) wNil)) wNil)))))
  wNilS)
def w__law_model_one (n : Nat) : WS := (wConsS (wIfS (wBl (wTwo (wName 2) (wCon (.int 1)) (eqW false)))
  (wConsS (wAsg 4 (wTwo (wLst (wCons (wLst wNil) (wCons (wName 3) wNil))) (wFn c__law_take (wCons (wName 0) (wCons (wCon (.int 2)) wNil))) ixW))
  wNilS)
  wNilS)
  (w__law_model_last n))
def w__law_model_zero (n : Nat) : WS := (wConsS (wIfS (wBl (wTwo (wName 2) (wCon (.int 0)) (eqW false)))
  (wConsS (wAsg 4 (wLc (wItems (wName 3)) (.nm 5) (wBl (wTwo (wTwo (wName 5) (wTwo (wName 3) (wFn c__law_take (wCons (wName 0) (wCons (wCb (wCons (wName 3) wNil) lenW) wNil))) ixW) modW) (wCon (.int 0)) (eqW false))) (wName 5) [5]))
  wNilS)
  wNilS)
  (w__law_model_one n))
def w__law_model (n : Nat) : WS := (wConsS (wPar2 1 2 (wCons (wFn c__law_period (wCons (wName 0) wNil)) (wCons (wFn c__law_take (wCons (wName 0) (wCons (wCon (.int 5)) wNil))) wNil)))
  (wConsS (wAsg 3 (wFn c__law_parts_of (wCons (wName 1) wNil)))
  (wConsS (wAsg 4 (wLc (wItems (wName 3)) (.nm 5) (wBl (wTwo (wFn c__law_take (wCons (wName 0) (wCons (wCon (.int 2)) wNil))) (wCon (.int 0)) (eqW false))) (wName 5) [5]))
  (w__law_model_zero n))))
def c__law_model : Ct := ctOf ["_law_box_here", "_law_cycle", "_law_form", "_law_some", "_law_kinds", "_law_size"] ["_law_box_here"] (w__law_model)
section
variable {T : Tab} {P : Program} {w : World} {K : PySem.W.Frag} {mg : Str → Option Value} {base : Heap}
theorem Tx.ok__law_model (t : Tx T K mg) : FnOk P w K mg base CX0 3 t.a__law_model t.fd__law_model ["_law_box_here"] (spC T K c__law_model) := by
  have nd := sc__law_model.nd
  exact fn_J t.F__law_model sc__law_model fun cdv A outer sh H E hr n => (jss_cons (js_par2 1 2 nd (ja_cons (je_call t.ok__law_period (hr.mono (by decide)) t.m__law_period t.F__law_period.kp t.b__law_period (ja_cons (je_name 0) ja_nil)) (ja_cons (je_call t.ok__law_take (hr.mono (by decide)) t.m__law_take t.F__law_take.kp t.b__law_take (ja_cons (je_name 0) (ja_cons je_int ja_nil))) ja_nil)))
  (jss_cons (js_asg 3 nd (je_call t.ok__law_parts_of (hr.mono (by decide)) t.m__law_parts_of t.F__law_parts_of.kp t.b__law_parts_of (ja_cons (je_name 1) ja_nil)))
  (jss_cons (js_lc 4 nd ⟨(ji_val (je_name 3)), blkOk_by (own := [("_law_size", 5)]) (by kernel_rfl), fun _ _ _ _ _ => (dg_name 5 nd), fun _ _ _ _ _ => (jts_one (jt_cmp (jc_eq hr.units) (je_call t.ok__law_take (hr.mono (by decide)) t.m__law_take t.F__law_take.kp t.b__law_take (ja_cons (je_name 0) (ja_cons je_int ja_nil))) je_int)), fun _ _ _ _ _ => (je_name 5), by decide⟩)
  (jss_cons (js_if (jt_cmp (jc_eq hr.units) (je_name 2) je_int)
  (jss_cons (js_lc 4 nd ⟨(ji_val (je_name 3)), blkOk_by (own := [("_law_size", 5)]) (by kernel_rfl), fun _ _ _ _ _ => (dg_name 5 nd), fun _ _ _ _ _ => (jts_one (jt_cmp (jc_eq hr.units) (je_bin jb_mod (je_name 5) (je_sub ji_ix (je_name 3) (je_call t.ok__law_take (hr.mono (by decide)) t.m__law_take t.F__law_take.kp t.b__law_take (ja_cons (je_name 0) (ja_cons (je_cb t.z_len jc_len (ja_cons (je_name 3) ja_nil)) ja_nil))))) je_int)), fun _ _ _ _ _ => (je_name 5), by decide⟩)
  jss_nil)
  jss_nil)
  (jss_cons (js_if (jt_cmp (jc_eq hr.units) (je_name 2) je_int)
  (jss_cons (js_asg 4 nd (je_sub ji_ix (je_lst (ja_cons (je_lst ja_nil) (ja_cons (je_name 3) ja_nil))) (je_call t.ok__law_take (hr.mono (by decide)) t.m__law_take t.F__law_take.kp t.b__law_take (ja_cons (je_name 0) (ja_cons je_int ja_nil)))))
  jss_nil)
  jss_nil)
  (jss_cons (js_ret (je_tup (ja_cons (je_name 1) (ja_cons (je_cb t.z_tuple jc_tuple (ja_cons (je_name 4) ja_nil)) (ja_cons (je_call t.ok__law_odds (hr.mono (by decide)) t.m__law_odds t.F__law_odds.kp t.b__law_odds (ja_cons (je_name 0) ja_nil)) ja_nil)))))
  jss_nil))))))
end

section
variable {T : Tab} {P : Program} {w : World} {K : PySem.W.Frag} {mg : Str → Option Value} {base : Heap}
theorem Tx.ok_InvalidSizes___init__ (t : Tx T K mg) : FnOk P w K mg base CX0 1 t.a_InvalidSizes___init__ t.fd_InvalidSizes___init__ ["self", "word"] (spE1 t.c_InvalidSizes "word") := by
  refine t.F_InvalidSizes___init__.ok sc_InvalidSizes___init__ (fun vs H Q E h => ?_) (fun cdv A outer s H vs Q E hr h => ⟨_, pss_cons (ps_expr (pe_cinit rfl t.m_ClashError t.ci_ClashError (pa_cons (pv 0) (pa_cons pe_str pa_nil)) (by decide) rfl rfl rfl)) (pss_one (ps_ost (pv 0) (pv 1))), ?_⟩)
  · obtain ⟨a, v, rfl, _⟩ := h; rfl
  · obtain ⟨a, v, rfl, e, q⟩ := h
    exact ⟨_, rfl, a, t.c_InvalidSizes, [_], rfl, by decide, t.o_InvalidSizes, e, _, rfl, _, rfl, a, t.c_InvalidSizes, rfl, t.o_InvalidSizes, t.no_InvalidSizes_word, .inl ⟨e, fun dx n1 n2 => q dx n1 n2⟩⟩
end

def w_prime_powers_tail (n : Nat) : WS := (wConsS (wIfS (wBl (wTwo (wName 2) (wCon (.int 1)) gtW))
  (wConsS (wExpr (wApp (wName 1) (wTup (wCons (wName 2) (wCons (wCon (.int 1)) wNil)))))
  wNilS)
  wNilS)
  (wFrz 1 n (wConsS (wRet n (wName 1))
  wNilS)))
def w_prime_powers_rest (n : Nat) : WS := (wConsS (wIfS (wBl (wTwo (wName 4) (wCon (.int 0)) gtW))
  (wConsS (wExpr (wApp (wName 1) (wTup (wCons (wName 3) (wCons (wName 4) wNil)))))
  wNilS)
  wNilS)
  (wConsS (wAsg 3 (wTwo (wName 3) (wCon (.int 1)) addW))
  wNilS))
def w_prime_powers_body (n : Nat) : WS := (wConsS (wAsg 4 (wCon (.int 0)))
  (wConsS (wWhile (wBl (wTwo (wTwo (wCb (wCons (wName 2) wNil) intW1) (wName 3) modW) (wCon (.int 0)) (eqW false)))
  (wConsS (wAsg 2 (wTwo (wName 2) (wName 3) fdivW))
  (wConsS (wAsg 4 (wTwo (wName 4) (wCon (.int 1)) addW))
  wNilS)))
  (w_prime_powers_rest n)))
def w_prime_powers (n : Nat) : WS := (wConsS (wAsg 1 (wLstC wNil))
  (wConsS (wPar2 2 3 (wCons (wName 0) (wCons (wCon (.int 2)) wNil)))
  (wConsS (wWhile (wBl (wTwo (wTwo (wName 3) (wName 3) mulW) (wName 2) leW))
  (w_prime_powers_body n))
  (w_prime_powers_tail n))))
def c_prime_powers : Ct := ctOf ["number", "found", "left", "prime", "power"] ["number"] (w_prime_powers)
section
variable {T : Tab} {P : Program} {w : World} {K : PySem.W.Frag} {mg : Str → Option Value} {base : Heap}
theorem Tx.ok_prime_powers (t : Tx T K mg) : FnOk P w K mg base CX0 1 t.a_prime_powers t.fd_prime_powers ["number"] (spC T K c_prime_powers) := by
  have nd := sc_prime_powers.nd
  exact fn_J t.F_prime_powers sc_prime_powers fun cdv A outer sh H E hr n => (jss_cons (js_asg 1 nd (je_lstC ja_nil))
  (jss_cons (js_par2 2 3 nd (ja_cons (je_name 0) (ja_cons je_int ja_nil)))
  (jss_cons (js_while PassesOwn.never (jt_cmp jc_le (je_bin jb_mul (je_name 3) (je_name 3)) (je_name 2))
  (jss_cons (js_asg 4 nd je_int)
  (jss_cons (js_while PassesOwn.never (jt_cmp (jc_eq hr.units) (je_bin jb_mod (je_cb t.z_int jc_int (ja_cons (je_name 2) ja_nil)) (je_name 3)) je_int)
  (jss_cons (js_asg 2 nd (je_bin jb_fdiv (je_name 2) (je_name 3)))
  (jss_cons (js_asg 4 nd (je_bin jb_add (je_name 4) je_int))
  jss_nil)))
  (jss_cons (js_if (jt_cmp jc_gt (je_name 4) je_int)
  (jss_cons (js_expr (je_app (je_name 1) (je_tup (ja_cons (je_name 3) (ja_cons (je_name 4) ja_nil)))))
  jss_nil)
  jss_nil)
  (jss_cons (js_asg 3 nd (je_bin jb_add (je_name 3) je_int))
  jss_nil)))))
  (jss_cons (js_if (jt_cmp jc_gt (je_name 2) je_int)
  (jss_cons (js_expr (je_app (je_name 1) (je_tup (ja_cons (je_name 2) (ja_cons je_int ja_nil)))))
  jss_nil)
  jss_nil)
  (jss_frz 1 (jss_cons (js_ret (je_name 1))
  jss_nil))))))
end

def w_is_needless_size (n : Nat) : WS := (wConsS (wIfS (wBl (wTwo (wTwo (wCb (wCons (wName 0) wNil) intW1) (wTwo (wName 3) (wName 2) mulW) modW) (wCon (.int 0)) (eqW true)))
  (wConsS (wIfS (wBl (wTwo (wTwo (wName 3) (wName 2) fdivW) (wName 1) (selW PDc (inDW true) (inW' true))))
  (wConsS (wRet n (wCon (.bl false)))
  wNilS)
  wNilS)
  wNilS)
  (wConsS (wIfS (wAndT (wBl (wTwo (wTwo (wCb (wCons (wName 0) wNil) intW1) (wTwo (wTwo (wName 3) (wName 2) mulW) (wName 2) mulW) modW) (wCon (.int 0)) (eqW true))) (wBl (wTwo (wTwo (wName 3) (wName 2) mulW) (wName 1) (selW PDc (inDW true) (inW' true)))))
  (wConsS (wRet n (wCon (.bl false)))
  wNilS)
  wNilS)
  wNilS))
  wNilS)
def w_is_needless (n : Nat) : WS := (wConsS (wFor (wItemsD (wName 1)) (.nm 3)
  (w_is_needless_size n))
  (wConsS (wRet n (wCon (.bl true)))
  wNilS))
def c_is_needless : Ct := ctOf ["period", "known", "prime", "size"] ["period", "known", "prime"] (w_is_needless)
section
variable {T : Tab} {P : Program} {w : World} {K : PySem.W.Frag} {mg : Str → Option Value} {base : Heap}
theorem Tx.ok_is_needless (t : Tx T K mg) : FnOk P w K mg base CX0 1 t.a_is_needless t.fd_is_needless ["period", "known", "prime"] (spC T K c_is_needless) := by
  have nd := sc_is_needless.nd
  exact fn_J t.F_is_needless sc_is_needless fun cdv A outer sh H E hr n => (jss_cons (js_for PassesOwn.never (ji_valD (je_name 1)) (dg_name 3 nd)
  (jss_cons (js_if (jt_cmp (jc_ne hr.units) (je_bin jb_mod (je_cb t.z_int jc_int (ja_cons (je_name 0) ja_nil)) (je_bin jb_mul (je_name 3) (je_name 2))) je_int)
  (jss_cons (js_if (jt_cmp (jc_inD true hr.units jc_notin) (je_bin jb_fdiv (je_name 3) (je_name 2)) (je_name 1))
  (jss_cons (js_ret je_bl)
  jss_nil)
  jss_nil)
  jss_nil)
  (jss_cons (js_if (JW.jt (jw_and (jt_cmp (jc_ne hr.units) (je_bin jb_mod (je_cb t.z_int jc_int (ja_cons (je_name 0) ja_nil)) (je_bin jb_mul (je_bin jb_mul (je_name 3) (je_name 2)) (je_name 2))) je_int) (jw_and1 (jt_cmp (jc_inD true hr.units jc_notin) (je_bin jb_mul (je_name 3) (je_name 2)) (je_name 1)))))
  (jss_cons (js_ret je_bl)
  jss_nil)
  jss_nil)
  jss_nil))
  jss_nil))
  (jss_cons (js_ret je_bl)
  jss_nil))
end

def w_shortest_end (n : Nat) : WS := (wConsS (wRet n (wTup (wCons (wName 0) (wCons (wCb (wCons (wLc (wItemsD (wName 2)) (.nm 3) wYes (wName 3) [3]) wNil) tupleW) wNil))))
  wNilS)
def w_shortest_turn (n : Nat) : WS := (wConsS (wIfS (wTru (wFn c_is_needless (wCons (wName 0) (wCons (wName 2) (wCons (wName 4) wNil)))))
  (wConsS (wAsg 0 (wTwo (wName 0) (wName 4) fdivW))
  (wConsS (wAsg 2 (wDc (wItemsD (wName 2)) (.nm 3) (wBl (wTwo (wTwo (wCb (wCons (wName 0) wNil) intW1) (wName 3) modW) (wCon (.int 0)) (eqW false))) (wName 3) (wCon (.bl true)) [3]))
  wNilS))
  wNilS)
  wNilS)
def w_shortest_prime (n : Nat) : WS := (wConsS (wFor (wRng1 (wCons (wName 5) wNil)) (.nm 6)
  (w_shortest_turn n))
  wNilS)
def w_shortest_loop (n : Nat) : WS := (wConsS (wFor (wItemsD (wFn c_prime_powers (wCons (wName 0) wNil))) (.tp [(.nm 4), (.nm 5)])
  (w_shortest_prime n))
  (w_shortest_end n))
def w_shortest (n : Nat) : WS := (wConsS (wAsg 2 (wDc (wItemsD (wName 1)) (.nm 3) wYes (wName 3) (wCon (.bl true)) [3]))
  (w_shortest_loop n))
def c_shortest : Ct := ctOf ["period", "classes", "known", "size", "prime", "power", "turn"] ["period", "classes"] (w_shortest)
section
variable {T : Tab} {P : Program} {w : World} {K : PySem.W.Frag} {mg : Str → Option Value} {base : Heap}
theorem Tx.ok_shortest (t : Tx T K mg) : FnOk P w K mg base CX0 2 t.a_shortest t.fd_shortest ["period", "classes"] (spC T K c_shortest) := by
  have nd := sc_shortest.nd
  exact fn_J t.F_shortest sc_shortest fun cdv A outer sh H E hr n => (jss_cons (js_dc 2 nd ⟨(ji_valD (je_name 1)), blkOk_by (own := [("size", 3)]) (by kernel_rfl), fun _ _ _ _ _ => (dg_name 3 nd), fun _ _ _ _ _ => jts_nil, fun _ _ _ _ _ => (je_name 3), fun _ _ _ _ _ => je_bl, by decide⟩)
  (jss_cons (js_for PassesOwn.never (ji_valD (je_call t.ok_prime_powers (hr.mono (by decide)) t.m_prime_powers t.F_prime_powers.kp t.b_prime_powers (ja_cons (je_name 0) ja_nil))) (dg_tup rfl (dgs_cons (dg_name 4 nd) (dgs_cons (dg_name 5 nd) dgs_nil)))
  (jss_cons (js_for PassesOwn.never (ji_range1 t.z_range (ja_cons (je_name 5) ja_nil)) (dg_name 6 nd)
  (jss_cons (js_if (jt_val (je_call t.ok_is_needless (hr.mono (by decide)) t.m_is_needless t.F_is_needless.kp t.b_is_needless (ja_cons (je_name 0) (ja_cons (je_name 2) (ja_cons (je_name 4) ja_nil)))))
  (jss_cons (js_asg 0 nd (je_bin jb_fdiv (je_name 0) (je_name 4)))
  (jss_cons (js_dc 2 nd ⟨(ji_valD (je_name 2)), blkOk_by (own := [("size", 3)]) (by kernel_rfl), fun _ _ _ _ _ => (dg_name 3 nd), fun _ _ _ _ _ => (jts_one (jt_cmp (jc_eq hr.units) (je_bin jb_mod (je_cb t.z_int jc_int (ja_cons (je_name 0) ja_nil)) (je_name 3)) je_int)), fun _ _ _ _ _ => (je_name 3), fun _ _ _ _ _ => je_bl, by decide⟩)
  jss_nil))
  jss_nil)
  jss_nil))
  jss_nil))
  (jss_cons (js_ret (je_tup (ja_cons (je_name 0) (ja_cons (je_cb t.z_tuple jc_tuple (ja_cons (je_lc nd ⟨(ji_valD (je_name 2)), blkOk_by (own := [("size", 3)]) (by kernel_rfl), fun _ _ _ _ _ => (dg_name 3 nd), fun _ _ _ _ _ => jts_nil, fun _ _ _ _ _ => (je_name 3), by decide⟩) ja_nil)) ja_nil))))
  jss_nil)))
end

def w_is_integer (n : Nat) : WS := (wConsS (wRet n (wAndV (wIsi (fun t => kitB t "int") (ob_int) (wName 0)) (wNotV (wIsi (fun t => kitB t "bool") (ob_bool) (wName 0)))))
  wNilS)
def c_is_integer : Ct := ctOf ["value"] ["value"] (w_is_integer)
section
variable {T : Tab} {P : Program} {w : World} {K : PySem.W.Frag} {mg : Str → Option Value} {base : Heap}
theorem Tx.ok_is_integer (t : Tx T K mg) : FnOk P w K mg base CX0 1 t.a_is_integer t.fd_is_integer ["value"] (spC T K c_is_integer) := by
  have nd := sc_is_integer.nd
  exact fn_J t.F_is_integer sc_is_integer fun cdv A outer sh H E hr n => (jss_cons (js_ret (je_and (je_isiB t.z_isinstance t.z_int bi_int t.obIs_int (je_name 0)) (je_one (je_not (je_isiB t.z_isinstance t.z_bool bi_bool t.obIs_bool (je_name 0))))))
  jss_nil)
end

def w_are_sizes (n : Nat) : WS := (wConsS (wIfS (wOrT (wNotT (wTru (wIsi (fun t => kitB t "tuple") (ob_tuple) (wName 0)))) (wNotT (wTru (wCb (wCons (wLc (wItems (wName 0)) (.nm 1) wYes (wFn c_is_integer (wCons (wName 1) wNil)) [1]) wNil) allW))))
  (wConsS (wRet n (wCon (.bl false)))
  wNilS)
  wNilS)
  (wConsS (wRet n (wAndV (wCb (wCons (wLc (wItems (wSlc (wName 0) wO0 (wO1 (wCon (.int 1))))) (.nm 1) wYes (wTwo (wName 1) (wCon (.int 0)) gtW) [1]) wNil) allW) (wCb (wCons (wLc (wZip2 (wCons (wName 0) (wCons (wSlc (wName 0) (wO1 (wCon (.int 1))) wO0) wNil))) (.tp [(.nm 2), (.nm 3)]) wYes (wTwo (wName 2) (wName 3) ltW) [2, 3]) wNil) allW)))
  wNilS))
def c_are_sizes : Ct := ctOf ["value", "number", "a", "b"] ["value"] (w_are_sizes)
section
variable {T : Tab} {P : Program} {w : World} {K : PySem.W.Frag} {mg : Str → Option Value} {base : Heap}
theorem Tx.ok_are_sizes (t : Tx T K mg) : FnOk P w K mg base CX0 2 t.a_are_sizes t.fd_are_sizes ["value"] (spC T K c_are_sizes) := by
  have nd := sc_are_sizes.nd
  exact fn_J t.F_are_sizes sc_are_sizes fun cdv A outer sh H E hr n => (jss_cons (js_if (JW.jt (jw_or (jt_not (jt_val (je_isiB t.z_isinstance t.z_tuple bi_tuple t.obIs_tuple (je_name 0)))) (jw_or1 (jt_not (jt_val (je_cb t.z_all (jc_all rfl) (ja_cons (je_lc nd ⟨(ji_val (je_name 0)), blkOk_by (own := [("number", 1)]) (by kernel_rfl), fun _ _ _ _ _ => (dg_name 1 nd), fun _ _ _ _ _ => jts_nil, fun _ _ _ _ _ => (je_call t.ok_is_integer (hr.mono (by decide)) t.m_is_integer t.F_is_integer.kp t.b_is_integer (ja_cons (je_name 1) ja_nil)), by decide⟩) ja_nil)))))))
  (jss_cons (js_ret je_bl)
  jss_nil)
  jss_nil)
  (jss_cons (js_ret (je_and (je_cb t.z_all (jc_all rfl) (ja_cons (je_lc nd ⟨(ji_val (je_slice (je_name 0) jo_none (jo_some je_int))), blkOk_by (own := [("number", 1)]) (by kernel_rfl), fun _ _ _ _ _ => (dg_name 1 nd), fun _ _ _ _ _ => jts_nil, fun _ _ _ _ _ => (je_cmp jc_gt (je_name 1) je_int), by decide⟩) ja_nil)) (je_one (je_cb t.z_all (jc_all rfl) (ja_cons (je_lc nd ⟨(ji_zip t.z_zip (ja_cons (je_name 0) (ja_cons (je_slice (je_name 0) (jo_some je_int) jo_none) ja_nil))), blkOk_by (own := [("a", 2), ("b", 3)]) (by kernel_rfl), fun _ _ _ _ _ => (dg_tup rfl (dgs_cons (dg_name 2 nd) (dgs_cons (dg_name 3 nd) dgs_nil))), fun _ _ _ _ _ => jts_nil, fun _ _ _ _ _ => (je_cmp jc_lt (je_name 2) (je_name 3)), by decide⟩) ja_nil)))))
  jss_nil))
end

def w_Sizes___init___set (n : Nat) : WS := (wConsS (wTupF 0 "short_period" "short_classes" (wFn c_shortest (wCons (wName 1) (wCons (wName 2) wNil))) (wName 0) (wName 0))
  (wConsS (wSetF 0 "short_odd" (wName 3) (wName 0))
  (wConsS (wSetF 0 "class_marks" (wDc (wItems (wFld 0 ["short_period", "short_classes", "short_odd", "class_marks", "odd_marks"] "short_classes" (wName 0))) (.nm 4) wYes (wName 4) (wCon (.bl true)) [4]) (wName 0))
  (wConsS (wSetF 0 "odd_marks" (wDc (wItems (wName 3)) (.nm 4) wYes (wName 4) (wCon (.bl true)) [4]) (wName 0))
  wNilS))))
def w_Sizes___init___three (n : Nat) : WS := (wConsS (wIfS (wNotT (wTru (wFn c_are_sizes (wCons (wName 3) wNil))))
  (wConsS (wRaise1 1 (wCon (.str "odd")))
  wNilS)
  wNilS)
  (w_Sizes___init___set n))
def w_Sizes___init___two (n : Nat) : WS := (wConsS (wIfS (wOrT (wNotT (wTru (wFn c_are_sizes (wCons (wName 2) wNil)))) (wTru (wCb (wCons (wLc (wItems (wName 2)) (.nm 4) wYes (wTwo (wTwo (wCb (wCons (wName 1) wNil) intW1) (wName 4) modW) (wCon (.int 0)) (eqW true)) [4]) wNil) anyW)))
  (wConsS (wRaise1 1 (wCon (.str "classes")))
  wNilS)
  wNilS)
  (w_Sizes___init___three n))
def w_Sizes___init__ (n : Nat) : WS := (wConsS (wIfS (wOrT (wNotT (wTru (wFn c_is_integer (wCons (wName 1) wNil)))) (wBl (wTwo (wName 1) (wCon (.int 1)) ltW)))
  (wConsS (wRaise1 1 (wCon (.str "period")))
  wNilS)
  wNilS)
  (w_Sizes___init___two n))
def c_Sizes___init__ : Ct := ctOf ["self", "period", "classes", "odd", "size"] ["self", "period", "classes", "odd"] (w_Sizes___init__)
def c_Sizes___init__X : CtX := ctXOf ["self", "period", "classes", "odd", "size"] ["self", "period", "classes", "odd"] (w_Sizes___init__)
section
variable {T : Tab} {P : Program} {w : World} {K : PySem.W.Frag} {mg : Str → Option Value} {base : Heap}
theorem Tx.ok_Sizes___init__ (t : Tx T K mg) : FnOk P w K mg base (L2.CX P w) 3 t.a_Sizes___init__ t.fd_Sizes___init__ ["self", "period", "classes", "odd"] (spX T K c_Sizes___init__ c_Sizes___init__X) := by
  have nd := sc_Sizes___init__.nd
  exact fn_JXD t.F_Sizes___init__ sc_Sizes___init__ (fun cdv A outer sh H E hr n => (jss_cons (js_if (JW.jt (jw_or (jt_not (jt_val (je_call t.ok_is_integer (hr.mono (by decide)) t.m_is_integer t.F_is_integer.kp t.b_is_integer (ja_cons (je_name 1) ja_nil)))) (jw_or1 (jt_cmp jc_lt (je_name 1) je_int))))
  (jss_cons (js_raise1 tk0 t.o_InvalidSizes t.at_InvalidSizes___init__ t.ty_InvalidSizes___init__ t.ok_InvalidSizes___init__ (hr.mono (by decide)) t.b_InvalidSizes___init__ t.m_InvalidSizes t.T_InvalidSizes je_str)
  jss_nil)
  jss_nil)
  (jss_cons (js_if (JW.jt (jw_or (jt_not (jt_val (je_call t.ok_are_sizes (hr.mono (by decide)) t.m_are_sizes t.F_are_sizes.kp t.b_are_sizes (ja_cons (je_name 2) ja_nil)))) (jw_or1 (jt_val (je_cb t.z_any (jc_any rfl) (ja_cons (je_lc nd ⟨(ji_val (je_name 2)), blkOk_by (own := [("size", 4)]) (by kernel_rfl), fun _ _ _ _ _ => (dg_name 4 nd), fun _ _ _ _ _ => jts_nil, fun _ _ _ _ _ => (je_cmp (jc_ne hr.units) (je_bin jb_mod (je_cb t.z_int jc_int (ja_cons (je_name 1) ja_nil)) (je_name 4)) je_int), by decide⟩) ja_nil))))))
  (jss_cons (js_raise1 tk0 t.o_InvalidSizes t.at_InvalidSizes___init__ t.ty_InvalidSizes___init__ t.ok_InvalidSizes___init__ (hr.mono (by decide)) t.b_InvalidSizes___init__ t.m_InvalidSizes t.T_InvalidSizes je_str)
  jss_nil)
  jss_nil)
  (jss_cons (js_if (jt_not (jt_val (je_call t.ok_are_sizes (hr.mono (by decide)) t.m_are_sizes t.F_are_sizes.kp t.b_are_sizes (ja_cons (je_name 3) ja_nil))))
  (jss_cons (js_raise1 tk0 t.o_InvalidSizes t.at_InvalidSizes___init__ t.ty_InvalidSizes___init__ t.ok_InvalidSizes___init__ (hr.mono (by decide)) t.b_InvalidSizes___init__ t.m_InvalidSizes t.T_InvalidSizes je_str)
  jss_nil)
  jss_nil)
  (jss_cons (js_tupF t.T_Sizes t.cl_Sizes t.no_Sizes_short_period t.no_Sizes_short_classes (je_call t.ok_shortest (hr.mono (by decide)) t.m_shortest t.F_shortest.kp t.b_shortest (ja_cons (je_name 1) (ja_cons (je_name 2) ja_nil))) (je_name 0) (je_name 0))
  (jss_cons (js_fld t.T_Sizes t.cl_Sizes t.no_Sizes_short_odd (je_name 3) (je_name 0))
  (jss_cons (js_fld t.T_Sizes t.cl_Sizes t.no_Sizes_class_marks (je_dc nd ⟨(ji_val (je_fld t.T_Sizes t.cl_Sizes t.no_Sizes_short_classes (je_name 0))), blkOk_by (own := [("size", 4)]) (by kernel_rfl), fun _ _ _ _ _ => (dg_name 4 nd), fun _ _ _ _ _ => jts_nil, fun _ _ _ _ _ => (je_name 4), fun _ _ _ _ _ => je_bl, by decide⟩) (je_name 0))
  (jss_cons (js_fld t.T_Sizes t.cl_Sizes t.no_Sizes_odd_marks (je_dc nd ⟨(ji_val (je_name 3)), blkOk_by (own := [("size", 4)]) (by kernel_rfl), fun _ _ _ _ _ => (dg_name 4 nd), fun _ _ _ _ _ => jts_nil, fun _ _ _ _ _ => (je_name 4), fun _ _ _ _ _ => je_bl, by decide⟩) (je_name 0))
  jss_nil)))))))) (fun cdv A outer sh H E hr tk n => (jss_cons (js_if (JW.jt (jw_or (jt_not (jt_val (je_call t.ok_is_integer (hr.mono (by decide)) t.m_is_integer t.F_is_integer.kp t.b_is_integer (ja_cons (je_name 1) ja_nil)))) (jw_or1 (jt_cmp jc_lt (je_name 1) je_int))))
  (jss_cons (js_raise1 tk t.o_InvalidSizes t.at_InvalidSizes___init__ t.ty_InvalidSizes___init__ t.ok_InvalidSizes___init__ (hr.mono (by decide)) t.b_InvalidSizes___init__ t.m_InvalidSizes t.T_InvalidSizes je_str)
  jss_nil)
  jss_nil)
  (jss_cons (js_if (JW.jt (jw_or (jt_not (jt_val (je_call t.ok_are_sizes (hr.mono (by decide)) t.m_are_sizes t.F_are_sizes.kp t.b_are_sizes (ja_cons (je_name 2) ja_nil)))) (jw_or1 (jt_val (je_cb t.z_any (jc_any rfl) (ja_cons (je_lc nd ⟨(ji_val (je_name 2)), blkOk_by (own := [("size", 4)]) (by kernel_rfl), fun _ _ _ _ _ => (dg_name 4 nd), fun _ _ _ _ _ => jts_nil, fun _ _ _ _ _ => (je_cmp (jc_ne hr.units) (je_bin jb_mod (je_cb t.z_int jc_int (ja_cons (je_name 1) ja_nil)) (je_name 4)) je_int), by decide⟩) ja_nil))))))
  (jss_cons (js_raise1 tk t.o_InvalidSizes t.at_InvalidSizes___init__ t.ty_InvalidSizes___init__ t.ok_InvalidSizes___init__ (hr.mono (by decide)) t.b_InvalidSizes___init__ t.m_InvalidSizes t.T_InvalidSizes je_str)
  jss_nil)
  jss_nil)
  (jss_cons (js_if (jt_not (jt_val (je_call t.ok_are_sizes (hr.mono (by decide)) t.m_are_sizes t.F_are_sizes.kp t.b_are_sizes (ja_cons (je_name 3) ja_nil))))
  (jss_cons (js_raise1 tk t.o_InvalidSizes t.at_InvalidSizes___init__ t.ty_InvalidSizes___init__ t.ok_InvalidSizes___init__ (hr.mono (by decide)) t.b_InvalidSizes___init__ t.m_InvalidSizes t.T_InvalidSizes je_str)
  jss_nil)
  jss_nil)
  (jss_cons (js_tupF t.T_Sizes t.cl_Sizes t.no_Sizes_short_period t.no_Sizes_short_classes (je_call t.ok_shortest (hr.mono (by decide)) t.m_shortest t.F_shortest.kp t.b_shortest (ja_cons (je_name 1) (ja_cons (je_name 2) ja_nil))) (je_name 0) (je_name 0))
  (jss_cons (js_fld t.T_Sizes t.cl_Sizes t.no_Sizes_short_odd (je_name 3) (je_name 0))
  (jss_cons (js_fld t.T_Sizes t.cl_Sizes t.no_Sizes_class_marks (je_dc nd ⟨(ji_val (je_fld t.T_Sizes t.cl_Sizes t.no_Sizes_short_classes (je_name 0))), blkOk_by (own := [("size", 4)]) (by kernel_rfl), fun _ _ _ _ _ => (dg_name 4 nd), fun _ _ _ _ _ => jts_nil, fun _ _ _ _ _ => (je_name 4), fun _ _ _ _ _ => je_bl, by decide⟩) (je_name 0))
  (jss_cons (js_fld t.T_Sizes t.cl_Sizes t.no_Sizes_odd_marks (je_dc nd ⟨(ji_val (je_name 3)), blkOk_by (own := [("size", 4)]) (by kernel_rfl), fun _ _ _ _ _ => (dg_name 4 nd), fun _ _ _ _ _ => jts_nil, fun _ _ _ _ _ => (je_name 4), fun _ _ _ _ _ => je_bl, by decide⟩) (je_name 0))
  jss_nil))))))))
end

def w__law_told (n : Nat) : WS := (wConsS (wAsg 3 (wCon .non))
  (wConsS (wTry mt_InvalidSizes 4 (wConsS (wExpr (wMakeKX 0 ["short_period", "short_classes", "short_odd", "class_marks", "odd_marks"] c_Sizes___init__ c_Sizes___init__X 3 0 fu_Sizes_3_ (wCons (wName 0) (wCons (wName 1) (wCons (wName 2) wNil))) wNil))
  wNilS)
  (fun m_ a_ d_ => (wConsS (wAsg 3 (wXf m_ a_ d_ xfn "word" (wName 4)))
  (wConsS (wIfS (wOrT (wNotT (wTru (wIsiE m_ a_ d_ (kt_ClashError m_) (wName 4)))) (wTru (wIsiE m_ a_ d_ (kt_InvalidForm_InvalidSize_InvalidCount_InvalidText m_) (wName 4))))
  (wConsS (wAsg 3 (wCon (.str "another")))
  wNilS)
  wNilS)
  wNilS))))
  (wConsS (wRet n (wName 3))
  wNilS)))
def c__law_told : Ct := ctOf ["_law_cycle", "_law_kinds", "_law_odd_ones", "_law_found", "e"] ["_law_cycle", "_law_kinds", "_law_odd_ones"] (w__law_told)
section
variable {T : Tab} {P : Program} {w : World} {K : PySem.W.Frag} {mg : Str → Option Value} {base : Heap}
theorem Tx.ok__law_told (t : Tx T K mg) : FnOk P w K mg base CX0 5 t.a__law_told t.fd__law_told ["_law_cycle", "_law_kinds", "_law_odd_ones"] (spC T K c__law_told) := by
  have nd := sc__law_told.nd
  exact fn_J t.F__law_told sc__law_told fun cdv A outer sh H E hr n => (jss_cons (js_asg 3 nd je_non)
  (jss_cons (js_try tk0 nd (And.intro rfl (And.intro (by decide) (Or.inl t.m_InvalidSizes))) t.mt_of_InvalidSizes (fun V_ pn_ xe_ tk_ po_ => (jss_cons (js_expr (je_makeKX tk_ t.T_Sizes t.K_Sizes t.ok_Sizes___init__ (hr.mono (by decide)) t.m_Sizes t.kb_Sizes_3_ t.put_Sizes_3_ (ja_cons (je_name 0) (ja_cons (je_name 1) (ja_cons (je_name 2) ja_nil))) jk_nil))
  jss_nil))
  (fun m_ a_ oe_ d_ C_ fn_ pn_ hm_ hT_ hz_ hv_ => (jss_cons (js_asg 3 nd (je_xf (t.err_of_InvalidSizes hm_ hT_ hz_ hv_) (t.xf_of_InvalidSizes hm_ hT_) (t.no_of_InvalidSizes_word hm_ hT_) (t.T_of_InvalidSizes hm_ hT_) (je_name 4)))
  (jss_cons (js_if (JW.jt (jw_or (jt_not (jt_val (je_isiE (t.err_of_InvalidSizes hm_ hT_ hz_ hv_) t.z_isinstance t.m_ClashError (t.kt_of_InvalidSizes_ClashError hm_ hT_) (je_name 4)))) (jw_or1 (jt_val (je_isiET (t.err_of_InvalidSizes hm_ hT_ hz_ hv_) t.z_isinstance (pa_cs t.m_InvalidForm (pa_cs t.m_InvalidSize (pa_cs t.m_InvalidCount (pa_cs t.m_InvalidText pa_cs0)))) (t.kt_of_InvalidSizes_InvalidForm_InvalidSize_InvalidCount_InvalidText hm_ hT_) (by show (4 : Nat) ≤ sizeLine; decide) (je_name 4))))))
  (jss_cons (js_asg 3 nd je_str)
  jss_nil)
  jss_nil)
  jss_nil))))
  (jss_cons (js_ret (je_name 3))
  jss_nil)))
end

def w__law_is_whole (n : Nat) : WS := (wConsS (wRet n (wAndV (wIsi (fun t => kitB t "int") (ob_int) (wName 0)) (wNotV (wIsi (fun t => kitB t "bool") (ob_bool) (wName 0)))))
  wNilS)
def c__law_is_whole : Ct := ctOf ["_law_thing_here"] ["_law_thing_here"] (w__law_is_whole)
section
variable {T : Tab} {P : Program} {w : World} {K : PySem.W.Frag} {mg : Str → Option Value} {base : Heap}
theorem Tx.ok__law_is_whole (t : Tx T K mg) : FnOk P w K mg base CX0 1 t.a__law_is_whole t.fd__law_is_whole ["_law_thing_here"] (spC T K c__law_is_whole) := by
  have nd := sc__law_is_whole.nd
  exact fn_J t.F__law_is_whole sc__law_is_whole fun cdv A outer sh H E hr n => (jss_cons (js_ret (je_and (je_isiB t.z_isinstance t.z_int bi_int t.obIs_int (je_name 0)) (je_one (je_not (je_isiB t.z_isinstance t.z_bool bi_bool t.obIs_bool (je_name 0))))))
  jss_nil)
end

def w__law_ascends_one (n : Nat) : WS := (wConsS (wIfS (wOrT (wNotT (wTru (wFn c__law_is_whole (wCons (wName 2) wNil)))) (wBl (wTwo (wName 2) (wName 1) leW)))
  (wConsS (wRet n (wCon (.bl false)))
  wNilS)
  wNilS)
  (wConsS (wAsg 1 (wName 2))
  wNilS))
def w__law_ascends (n : Nat) : WS := (wConsS (wIfS (wNotT (wTru (wIsi (fun t => kitB t "tuple") (ob_tuple) (wName 0))))
  (wConsS (wRet n (wCon (.bl false)))
  wNilS)
  wNilS)
  (wConsS (wAsg 1 (wCon (.int 0)))
  (wConsS (wFor (wItems (wName 0)) (.nm 2)
  (w__law_ascends_one n))
  (wConsS (wRet n (wCon (.bl true)))
  wNilS))))
def c__law_ascends : Ct := ctOf ["_law_thing_here", "_law_last", "_law_number"] ["_law_thing_here"] (w__law_ascends)
section
variable {T : Tab} {P : Program} {w : World} {K : PySem.W.Frag} {mg : Str → Option Value} {base : Heap}
theorem Tx.ok__law_ascends (t : Tx T K mg) : FnOk P w K mg base CX0 2 t.a__law_ascends t.fd__law_ascends ["_law_thing_here"] (spC T K c__law_ascends) := by
  have nd := sc__law_ascends.nd
  exact fn_J t.F__law_ascends sc__law_ascends fun cdv A outer sh H E hr n => (jss_cons (js_if (jt_not (jt_val (je_isiB t.z_isinstance t.z_tuple bi_tuple t.obIs_tuple (je_name 0))))
  (jss_cons (js_ret je_bl)
  jss_nil)
  jss_nil)
  (jss_cons (js_asg 1 nd je_int)
  (jss_cons (js_for PassesOwn.never (ji_val (je_name 0)) (dg_name 2 nd)
  (jss_cons (js_if (JW.jt (jw_or (jt_not (jt_val (je_call t.ok__law_is_whole (hr.mono (by decide)) t.m__law_is_whole t.F__law_is_whole.kp t.b__law_is_whole (ja_cons (je_name 2) ja_nil)))) (jw_or1 (jt_cmp jc_le (je_name 2) (je_name 1)))))
  (jss_cons (js_ret je_bl)
  jss_nil)
  jss_nil)
  (jss_cons (js_asg 1 nd (je_name 2))
  jss_nil)))
  (jss_cons (js_ret je_bl)
  jss_nil))))
end

def w__law_due_three (n : Nat) : WS := (wConsS (wRet n (wIf (wTru (wFn c__law_ascends (wCons (wName 3) wNil))) (wCon .non) (wCon (.str "odd"))))
  wNilS)
def w__law_due_two (n : Nat) : WS := (wConsS (wIfS (wOrT (wNotT (wTru (wFn c__law_ascends (wCons (wName 2) wNil)))) (wBl (wTwo (wLc (wItems (wName 2)) (.nm 4) (wBl (wTwo (wTwo (wName 1) (wName 4) modW) (wCon (.int 0)) (eqW true))) (wCon (.int 1)) [4]) (wLst wNil) (eqW true))))
  (wConsS (wRet n (wCon (.str "classes")))
  wNilS)
  wNilS)
  (w__law_due_three n))
def w__law_due (n : Nat) : WS := (wConsS (wTupS [(.nm 1), (.nm 2), (.nm 3)] (wName 0))
  (wConsS (wIfS (wOrT (wNotT (wTru (wFn c__law_is_whole (wCons (wName 1) wNil)))) (wBl (wTwo (wName 1) (wCon (.int 1)) ltW)))
  (wConsS (wRet n (wCon (.str "period")))
  wNilS)
  wNilS)
  (w__law_due_two n)))
def c__law_due : Ct := ctOf ["_law_model_here", "_law_cycle", "_law_kinds", "_law_odd_ones", "_law_size"] ["_law_model_here"] (w__law_due)
section
variable {T : Tab} {P : Program} {w : World} {K : PySem.W.Frag} {mg : Str → Option Value} {base : Heap}
theorem Tx.ok__law_due (t : Tx T K mg) : FnOk P w K mg base CX0 3 t.a__law_due t.fd__law_due ["_law_model_here"] (spC T K c__law_due) := by
  have nd := sc__law_due.nd
  exact fn_J t.F__law_due sc__law_due fun cdv A outer sh H E hr n => (jss_cons (js_tup (je_name 0) (dgs_cons (dg_name 1 nd) (dgs_cons (dg_name 2 nd) (dgs_cons (dg_name 3 nd) dgs_nil))))
  (jss_cons (js_if (JW.jt (jw_or (jt_not (jt_val (je_call t.ok__law_is_whole (hr.mono (by decide)) t.m__law_is_whole t.F__law_is_whole.kp t.b__law_is_whole (ja_cons (je_name 1) ja_nil)))) (jw_or1 (jt_cmp jc_lt (je_name 1) je_int))))
  (jss_cons (js_ret je_str)
  jss_nil)
  jss_nil)
  (jss_cons (js_if (JW.jt (jw_or (jt_not (jt_val (je_call t.ok__law_ascends (hr.mono (by decide)) t.m__law_ascends t.F__law_ascends.kp t.b__law_ascends (ja_cons (je_name 2) ja_nil)))) (jw_or1 (jt_cmp (jc_ne hr.units) (je_lc nd ⟨(ji_val (je_name 2)), blkOk_by (own := [("_law_size", 4)]) (by kernel_rfl), fun _ _ _ _ _ => (dg_name 4 nd), fun _ _ _ _ _ => (jts_one (jt_cmp (jc_ne hr.units) (je_bin jb_mod (je_name 1) (je_name 4)) je_int)), fun _ _ _ _ _ => je_int, by decide⟩) (je_lst ja_nil)))))
  (jss_cons (js_ret je_str)
  jss_nil)
  jss_nil)
  (jss_cons (js_ret (je_if (jt_val (je_call t.ok__law_ascends (hr.mono (by decide)) t.m__law_ascends t.F__law_ascends.kp t.b__law_ascends (ja_cons (je_name 3) ja_nil))) je_non je_str))
  jss_nil))))
end

section
variable {T : Tab} {P : Program} {w : World} {K : PySem.W.Frag} {mg : Str → Option Value} {base : Heap}
theorem Tx.ok_InvalidSize___init__ (t : Tx T K mg) : FnOk P w K mg base CX0 1 t.a_InvalidSize___init__ t.fd_InvalidSize___init__ ["self", "size"] (spE1 t.c_InvalidSize "size") := by
  refine t.F_InvalidSize___init__.ok sc_InvalidSize___init__ (fun vs H Q E h => ?_) (fun cdv A outer s H vs Q E hr h => ⟨_, pss_cons (ps_expr (pe_cinit rfl t.m_ClashError t.ci_ClashError (pa_cons (pv 0) (pa_cons pe_str pa_nil)) (by decide) rfl rfl rfl)) (pss_one (ps_ost (pv 0) (pv 1))), ?_⟩)
  · obtain ⟨a, v, rfl, _⟩ := h; rfl
  · obtain ⟨a, v, rfl, e, q⟩ := h
    exact ⟨_, rfl, a, t.c_InvalidSize, [_], rfl, by decide, t.o_InvalidSize, e, _, rfl, _, rfl, a, t.c_InvalidSize, rfl, t.o_InvalidSize, t.no_InvalidSize_size, .inl ⟨e, fun dx n1 n2 => q dx n1 n2⟩⟩
end

def w_Sizes_multiples (n : Nat) : WS := (wConsS (wIfS (wBl (wTwo (wName 0) (wCon (.int 1)) ltW))
  (wConsS (wRaise1 2 (wName 0))
  wNilS)
  wNilS)
  (wConsS (wRet n (wMakeKX 0 ["short_period", "short_classes", "short_odd", "class_marks", "odd_marks"] c_Sizes___init__ c_Sizes___init__X 2 0 fu_Sizes_2_ (wCons (wName 0) (wCons (wTup (wCons (wName 0) wNil)) wNil)) wNil))
  wNilS))
def c_Sizes_multiples : Ct := ctOf ["d"] ["d"] (w_Sizes_multiples)
def c_Sizes_multiplesX : CtX := ctXOf ["d"] ["d"] (w_Sizes_multiples)
section
variable {T : Tab} {P : Program} {w : World} {K : PySem.W.Frag} {mg : Str → Option Value} {base : Heap}
theorem Tx.ok_Sizes_multiples (t : Tx T K mg) : FnOk P w K mg base (L2.CX P w) 5 t.a_Sizes_multiples t.fd_Sizes_multiples ["d"] (spX T K c_Sizes_multiples c_Sizes_multiplesX) := by
  have nd := sc_Sizes_multiples.nd
  exact fn_JX t.F_Sizes_multiples sc_Sizes_multiples (fun cdv A outer sh H E hr n => (jss_cons (js_if (jt_cmp jc_lt (je_name 0) je_int)
  (jss_cons (js_raise1 tk0 t.o_InvalidSize t.at_InvalidSize___init__ t.ty_InvalidSize___init__ t.ok_InvalidSize___init__ (hr.mono (by decide)) t.b_InvalidSize___init__ t.m_InvalidSize t.T_InvalidSize (je_name 0))
  jss_nil)
  jss_nil)
  (jss_cons (js_ret (je_makeKX tk0 t.T_Sizes t.K_Sizes t.ok_Sizes___init__ (hr.mono (by decide)) t.m_Sizes t.kb_Sizes_2_ t.put_Sizes_2_ (ja_cons (je_name 0) (ja_cons (je_tup (ja_cons (je_name 0) ja_nil)) ja_nil)) jk_nil))
  jss_nil))) (fun cdv A outer sh H E hr tk n => (jss_cons (js_if (jt_cmp jc_lt (je_name 0) je_int)
  (jss_cons (js_raise1 tk t.o_InvalidSize t.at_InvalidSize___init__ t.ty_InvalidSize___init__ t.ok_InvalidSize___init__ (hr.mono (by decide)) t.b_InvalidSize___init__ t.m_InvalidSize t.T_InvalidSize (je_name 0))
  jss_nil)
  jss_nil)
  (jss_cons (js_ret (je_makeKX tk t.T_Sizes t.K_Sizes t.ok_Sizes___init__ (hr.mono (by decide)) t.m_Sizes t.kb_Sizes_2_ t.put_Sizes_2_ (ja_cons (je_name 0) (ja_cons (je_tup (ja_cons (je_name 0) ja_nil)) ja_nil)) jk_nil))
  jss_nil)))
end

def w_ascending_end (n : Nat) : WS := (wConsS (wRet n (wCb (wCons (wLc (wItemsD (wName 1)) (.nm 2) wYes (wCb (wCons (wName 2) wNil) intW1) [2]) wNil) sortW))
  wNilS)
def w_ascending (n : Nat) : WS := (wConsS (wAsg 1 wDnew)
  (wConsS (wFor (wItemsD (wName 0)) (.nm 2)
  (wConsS (wSetD (wCon (.bl true)) (wName 1) (wName 2))
  wNilS))
  (wFrzD 1 n (w_ascending_end n))))
def c_ascending : Ct := ctOf ["numbers", "known", "number"] ["numbers"] (w_ascending)
section
variable {T : Tab} {P : Program} {w : World} {K : PySem.W.Frag} {mg : Str → Option Value} {base : Heap}
theorem Tx.ok_ascending (t : Tx T K mg) : FnOk P w K mg base CX0 1 t.a_ascending t.fd_ascending ["numbers"] (spC T K c_ascending) := by
  have nd := sc_ascending.nd
  exact fn_J t.F_ascending sc_ascending fun cdv A outer sh H E hr n => (jss_cons (js_asg 1 nd je_dnew)
  (jss_cons (js_for PassesOwn.never (ji_valD (je_name 0)) (dg_name 2 nd)
  (jss_cons (js_setD hr.units je_bl (je_name 1) (je_name 2))
  jss_nil))
  (jss_frzD 1 (jss_cons (js_ret (je_cb t.z_sorted jc_sorted (ja_cons (je_lc nd ⟨(ji_valD (je_name 1)), blkOk_by (own := [("number", 2)]) (by kernel_rfl), fun _ _ _ _ _ => (dg_name 2 nd), fun _ _ _ _ _ => jts_nil, fun _ _ _ _ _ => (je_cb t.z_int jc_int (ja_cons (je_name 2) ja_nil)), by decide⟩) ja_nil)))
  jss_nil))))
end

def w_Sizes_of_made (n : Nat) : WS := (wConsS (wRet n (wMakeKX 0 ["short_period", "short_classes", "short_odd", "class_marks", "odd_marks"] c_Sizes___init__ c_Sizes___init__X 3 0 fu_Sizes_3_ (wCons (wCon (.int 1)) (wCons (wTup wNil) (wCons (wCb (wCons (wFn c_ascending (wCons (wName 0) wNil)) wNil) tupleW) wNil))) wNil))
  wNilS)
def w_Sizes_of (n : Nat) : WS := (wConsS (wFor (wItems (wName 0)) (.nm 1)
  (wConsS (wIfS (wBl (wTwo (wName 1) (wCon (.int 1)) ltW))
  (wConsS (wRaise1 2 (wName 1))
  wNilS)
  wNilS)
  wNilS))
  (w_Sizes_of_made n))
def c_Sizes_of : Ct := ctOf ["numbers", "number"] ["numbers"] (w_Sizes_of)
def c_Sizes_ofX : CtX := ctXOf ["numbers", "number"] ["numbers"] (w_Sizes_of)
section
variable {T : Tab} {P : Program} {w : World} {K : PySem.W.Frag} {mg : Str → Option Value} {base : Heap}
theorem Tx.ok_Sizes_of (t : Tx T K mg) : FnOk P w K mg base (L2.CX P w) 5 t.a_Sizes_of t.fd_Sizes_of ["numbers"] (spX T K c_Sizes_of c_Sizes_ofX) := by
  have nd := sc_Sizes_of.nd
  exact fn_JX t.F_Sizes_of sc_Sizes_of (fun cdv A outer sh H E hr n => (jss_cons (js_for PassesOwn.never (ji_val (je_name 0)) (dg_name 1 nd)
  (jss_cons (js_if (jt_cmp jc_lt (je_name 1) je_int)
  (jss_cons (js_raise1 tk0 t.o_InvalidSize t.at_InvalidSize___init__ t.ty_InvalidSize___init__ t.ok_InvalidSize___init__ (hr.mono (by decide)) t.b_InvalidSize___init__ t.m_InvalidSize t.T_InvalidSize (je_name 1))
  jss_nil)
  jss_nil)
  jss_nil))
  (jss_cons (js_ret (je_makeKX tk0 t.T_Sizes t.K_Sizes t.ok_Sizes___init__ (hr.mono (by decide)) t.m_Sizes t.kb_Sizes_3_ t.put_Sizes_3_ (ja_cons je_int (ja_cons (je_tup ja_nil) (ja_cons (je_cb t.z_tuple jc_tuple (ja_cons (je_call t.ok_ascending (hr.mono (by decide)) t.m_ascending t.F_ascending.kp t.b_ascending (ja_cons (je_name 0) ja_nil)) ja_nil)) ja_nil))) jk_nil))
  jss_nil))) (fun cdv A outer sh H E hr tk n => (jss_cons (js_for (passes_of rfl) (ji_val (je_name 0)) (dg_name 1 nd)
  (jss_cons (js_if (jt_cmp jc_lt (je_name 1) je_int)
  (jss_cons (js_raise1 tk t.o_InvalidSize t.at_InvalidSize___init__ t.ty_InvalidSize___init__ t.ok_InvalidSize___init__ (hr.mono (by decide)) t.b_InvalidSize___init__ t.m_InvalidSize t.T_InvalidSize (je_name 1))
  jss_nil)
  jss_nil)
  jss_nil))
  (jss_cons (js_ret (je_makeKX tk t.T_Sizes t.K_Sizes t.ok_Sizes___init__ (hr.mono (by decide)) t.m_Sizes t.kb_Sizes_3_ t.put_Sizes_3_ (ja_cons je_int (ja_cons (je_tup ja_nil) (ja_cons (je_cb t.z_tuple jc_tuple (ja_cons (je_call t.ok_ascending (hr.mono (by decide)) t.m_ascending t.F_ascending.kp t.b_ascending (ja_cons (je_name 0) ja_nil)) ja_nil)) ja_nil))) jk_nil))
  jss_nil)))
end

def w__law_size_refused (n : Nat) : WS := (wConsS (wAsg 2 (wCon .non))
  (wConsS (wTry mt_InvalidSize 3 (wConsS (wIfS (wTru (wName 1))
  (wConsS (wExpr (wFnX c_Sizes_multiples c_Sizes_multiplesX (wCons (wName 0) wNil)))
  wNilS)
  (wConsS (wExpr (wFnX c_Sizes_of c_Sizes_ofX (wCons (wName 0) wNil)))
  wNilS))
  wNilS)
  (fun m_ a_ d_ => (wConsS (wAsg 2 (wXf m_ a_ d_ xfn "size" (wName 3)))
  wNilS)))
  (wConsS (wRet n (wName 2))
  wNilS)))
def c__law_size_refused : Ct := ctOf ["_law_numbers", "_law_is_one", "_law_found", "e"] ["_law_numbers", "_law_is_one"] (w__law_size_refused)
section
variable {T : Tab} {P : Program} {w : World} {K : PySem.W.Frag} {mg : Str → Option Value} {base : Heap}
theorem Tx.ok__law_size_refused (t : Tx T K mg) : FnOk P w K mg base CX0 6 t.a__law_size_refused t.fd__law_size_refused ["_law_numbers", "_law_is_one"] (spC T K c__law_size_refused) := by
  have nd := sc__law_size_refused.nd
  exact fn_J t.F__law_size_refused sc__law_size_refused fun cdv A outer sh H E hr n => (jss_cons (js_asg 2 nd je_non)
  (jss_cons (js_try tk0 nd (And.intro rfl (And.intro (by decide) (Or.inl t.m_InvalidSize))) t.mt_of_InvalidSize (fun V_ pn_ xe_ tk_ po_ => (jss_cons (js_if (jt_val (je_name 1))
  (jss_cons (js_expr (je_smX tk_ t.m_Sizes t.S_Sizes_multiples t.F_Sizes_multiples.kp t.ok_Sizes_multiples (hr.mono (by decide)) t.b_Sizes_multiples (ja_cons (je_name 0) ja_nil)))
  jss_nil)
  (jss_cons (js_expr (je_smX tk_ t.m_Sizes t.S_Sizes_of t.F_Sizes_of.kp t.ok_Sizes_of (hr.mono (by decide)) t.b_Sizes_of (ja_cons (je_name 0) ja_nil)))
  jss_nil))
  jss_nil))
  (fun m_ a_ oe_ d_ C_ fn_ pn_ hm_ hT_ hz_ hv_ => (jss_cons (js_asg 2 nd (je_xf (t.err_of_InvalidSize hm_ hT_ hz_ hv_) (t.xf_of_InvalidSize hm_ hT_) (t.no_of_InvalidSize_size hm_ hT_) (t.T_of_InvalidSize hm_ hT_) (je_name 3)))
  jss_nil)))
  (jss_cons (js_ret (je_name 2))
  jss_nil)))
end

def w__law_of_right_one (n : Nat) : WS := (wConsS (wAsg 4 (wTwo (wCon (.int 3)) (wFn c__law_take (wCons (wName 0) (wCons (wCon (.int 9)) wNil))) subW))
  (wConsS (wRet n (wTwo (wFn c__law_size_refused (wCons (wName 4) (wCons (wCon (.bl true)) wNil))) (wTwo (wLst (wCons (wCon .non) (wCons (wName 4) wNil))) (wCb (wCons (wTwo (wName 4) (wCon (.int 1)) ltW) wNil) intW1) ixW) (eqW false)))
  wNilS))
def w__law_of_right_list (n : Nat) : WS := (wConsS (wIfS (wOrT (wBl (wTwo (wFn c__law_size_refused (wCons (wName 1) (wCons (wCon (.bl false)) wNil))) (wName 3) (eqW true))) (wBl (wTwo (wFn c__law_size_refused (wCons (wCb (wCons (wName 1) wNil) tupleW) (wCons (wCon (.bl false)) wNil))) (wName 3) (eqW true))))
  (wConsS (wRet n (wCon (.bl false)))
  wNilS)
  wNilS)
  (w__law_of_right_one n))
def w__law_of_right (n : Nat) : WS := (wConsS (wAsg 1 (wLc (wRng1 (wCons (wFn c__law_take (wCons (wName 0) (wCons (wCon (.int 6)) wNil))) wNil)) (.nm 2) wYes (wTwo (wFn c__law_take (wCons (wName 0) (wCons (wCon (.int 40)) wNil))) (wCon (.int 2)) subW) [2]))
  (wConsS (wAsg 3 (wTwo (wTwo (wLc (wItems (wName 1)) (.nm 4) (wBl (wTwo (wName 4) (wCon (.int 1)) ltW)) (wName 4) [4]) (wLst (wCons (wCon .non) wNil)) addW) (wCon (.int 0)) ixW))
  (w__law_of_right_list n)))
def c__law_of_right : Ct := ctOf ["_law_box_here", "_law_numbers", "_law_turn", "_law_due_here", "_law_number"] ["_law_box_here"] (w__law_of_right)
section
variable {T : Tab} {P : Program} {w : World} {K : PySem.W.Frag} {mg : Str → Option Value} {base : Heap}
theorem Tx.ok__law_of_right (t : Tx T K mg) : FnOk P w K mg base CX0 7 t.a__law_of_right t.fd__law_of_right ["_law_box_here"] (spC T K c__law_of_right) := by
  have nd := sc__law_of_right.nd
  exact fn_J t.F__law_of_right sc__law_of_right fun cdv A outer sh H E hr n => (jss_cons (js_lc 1 nd ⟨(ji_range1 t.z_range (ja_cons (je_call t.ok__law_take (hr.mono (by decide)) t.m__law_take t.F__law_take.kp t.b__law_take (ja_cons (je_name 0) (ja_cons je_int ja_nil))) ja_nil)), blkOk_by (own := [("_law_turn", 2)]) (by kernel_rfl), fun _ _ _ _ _ => (dg_name 2 nd), fun _ _ _ _ _ => jts_nil, fun _ _ _ _ _ => (je_bin jb_sub (je_call t.ok__law_take (hr.mono (by decide)) t.m__law_take t.F__law_take.kp t.b__law_take (ja_cons (je_name 0) (ja_cons je_int ja_nil))) je_int), by decide⟩)
  (jss_cons (js_asg 3 nd (je_sub ji_ix (je_bin jb_add (je_lc nd ⟨(ji_val (je_name 1)), blkOk_by (own := [("_law_number", 4)]) (by kernel_rfl), fun _ _ _ _ _ => (dg_name 4 nd), fun _ _ _ _ _ => (jts_one (jt_cmp jc_lt (je_name 4) je_int)), fun _ _ _ _ _ => (je_name 4), by decide⟩) (je_lst (ja_cons je_non ja_nil))) je_int))
  (jss_cons (js_if (JW.jt (jw_or (jt_cmp (jc_ne hr.units) (je_call t.ok__law_size_refused (hr.mono (by decide)) t.m__law_size_refused t.F__law_size_refused.kp t.b__law_size_refused (ja_cons (je_name 1) (ja_cons je_bl ja_nil))) (je_name 3)) (jw_or1 (jt_cmp (jc_ne hr.units) (je_call t.ok__law_size_refused (hr.mono (by decide)) t.m__law_size_refused t.F__law_size_refused.kp t.b__law_size_refused (ja_cons (je_cb t.z_tuple jc_tuple (ja_cons (je_name 1) ja_nil)) (ja_cons je_bl ja_nil))) (je_name 3)))))
  (jss_cons (js_ret je_bl)
  jss_nil)
  jss_nil)
  (jss_cons (js_asg 4 nd (je_bin jb_sub je_int (je_call t.ok__law_take (hr.mono (by decide)) t.m__law_take t.F__law_take.kp t.b__law_take (ja_cons (je_name 0) (ja_cons je_int ja_nil)))))
  (jss_cons (js_ret (je_cmp (jc_eq hr.units) (je_call t.ok__law_size_refused (hr.mono (by decide)) t.m__law_size_refused t.F__law_size_refused.kp t.b__law_size_refused (ja_cons (je_name 4) (ja_cons je_bl ja_nil))) (je_sub ji_ix (je_lst (ja_cons je_non (ja_cons (je_name 4) ja_nil))) (je_cb t.z_int jc_int (ja_cons (je_cmp jc_lt (je_name 4) je_int) ja_nil)))))
  jss_nil)))))
end

def w__law_thing (n : Nat) : WS := (wConsS (wRet n (wTwo (wLst (wCons (wCon .non) (wCons (wCon (.bl true)) (wCons (wCon (.bl false)) (wCons (wCon (.str "1")) (wCons (wCon (.str "")) (wCons (wTup wNil) (wCons (wLst wNil) (wCons (wCon (.int 0)) (wCons (wOne (wCon (.int 1)) negW) (wCons (wOne (wCon (.int 6)) negW) (wCons (wTup (wCons (wCon (.int 1)) (wCons (wCon (.str "2")) wNil))) (wCons (wLst (wCons (wCon (.int 1)) wNil)) (wCons (wTup (wCons (wCon (.int 2)) (wCons (wCon (.int 1)) wNil))) (wCons (wTup (wCons (wCon (.int 1)) (wCons (wCon (.int 1)) wNil))) (wCons (wTup (wCons (wCon (.bl true)) (wCons (wCon (.int 2)) wNil))) wNil)))))))))))))))) (wFn c__law_take (wCons (wName 0) (wCons (wCon (.int 15)) wNil))) ixW))
  wNilS)
def c__law_thing : Ct := ctOf ["_law_box_here"] ["_law_box_here"] (w__law_thing)
section
variable {T : Tab} {P : Program} {w : World} {K : PySem.W.Frag} {mg : Str → Option Value} {base : Heap}
theorem Tx.ok__law_thing (t : Tx T K mg) : FnOk P w K mg base CX0 2 t.a__law_thing t.fd__law_thing ["_law_box_here"] (spC T K c__law_thing) := by
  have nd := sc__law_thing.nd
  exact fn_J t.F__law_thing sc__law_thing fun cdv A outer sh H E hr n => (jss_cons (js_ret (je_sub ji_ix (je_lst (ja_cons je_non (ja_cons je_bl (ja_cons je_bl (ja_cons je_str (ja_cons je_str (ja_cons (je_tup ja_nil) (ja_cons (je_lst ja_nil) (ja_cons je_int (ja_cons (je_un ju_neg je_int) (ja_cons (je_un ju_neg je_int) (ja_cons (je_tup (ja_cons je_int (ja_cons je_str ja_nil))) (ja_cons (je_lst (ja_cons je_int ja_nil)) (ja_cons (je_tup (ja_cons je_int (ja_cons je_int ja_nil))) (ja_cons (je_tup (ja_cons je_int (ja_cons je_int ja_nil))) (ja_cons (je_tup (ja_cons je_bl (ja_cons je_int ja_nil))) ja_nil)))))))))))))))) (je_call t.ok__law_take (hr.mono (by decide)) t.m__law_take t.F__law_take.kp t.b__law_take (ja_cons (je_name 0) (ja_cons je_int ja_nil)))))
  jss_nil)
end

def w__law_bent_last (n : Nat) : WS := (wConsS (wAsg 5 (wTwo (wLst (wCons (wCon (.int 0)) (wCons (wOne (wCon (.int 1)) negW) (wCons (wCon .non) (wCons (wCon (.str "2")) (wCons (wCon (.bl true)) (wCons (wTup (wCons (wCon (.int 1)) wNil)) (wCons (wCon (.int 1)) (wCons (wCon (.int 5)) (wCons (wCon (.int 11)) (wCons (wCon (.int 2521)) wNil))))))))))) (wFn c__law_take (wCons (wName 0) (wCons (wCon (.int 10)) wNil))) ixW))
  (wConsS (wRet n (wTwo (wTwo (wSlc (wName 1) wO0 (wO1 (wName 3))) (wTup (wCons (wName 5) wNil)) addW) (wSlc (wName 1) (wO1 (wTwo (wName 3) (wCb (wCons (wTwo (wName 2) (wCon (.int 4)) (eqW false)) wNil) intW1) addW)) wO0) addW))
  wNilS))
def w__law_bent_three (n : Nat) : WS := (wConsS (wIfS (wBl (wTwo (wName 2) (wCon (.int 3)) (eqW false)))
  (wConsS (wAsg 4 (wTwo (wSlc (wName 1) (wO1 (wTwo (wName 3) (wCon (.int 1)) addW)) (wO1 (wTwo (wName 3) (wCon (.int 2)) addW))) (wSlc (wName 1) (wO1 (wName 3)) (wO1 (wTwo (wName 3) (wCon (.int 1)) addW))) addW))
  (wConsS (wRet n (wTwo (wTwo (wSlc (wName 1) wO0 (wO1 (wName 3))) (wName 4) addW) (wSlc (wName 1) (wO1 (wTwo (wName 3) (wCon (.int 2)) addW)) wO0) addW))
  wNilS))
  wNilS)
  (w__law_bent_last n))
def w__law_bent_two (n : Nat) : WS := (wConsS (wIfS (wBl (wTwo (wName 2) (wCon (.int 2)) (eqW false)))
  (wConsS (wRet n (wTwo (wTwo (wSlc (wName 1) wO0 (wO1 (wName 3))) (wSlc (wName 1) (wO1 (wName 3)) (wO1 (wTwo (wName 3) (wCon (.int 1)) addW))) addW) (wSlc (wName 1) (wO1 (wName 3)) wO0) addW))
  wNilS)
  wNilS)
  (w__law_bent_three n))
def w__law_bent_one (n : Nat) : WS := (wConsS (wIfS (wBl (wTwo (wName 2) (wCon (.int 1)) (eqW false)))
  (wConsS (wRet n (wCb (wCons (wName 1) wNil) listW))
  wNilS)
  wNilS)
  (w__law_bent_two n))
def w__law_bent (n : Nat) : WS := (wConsS (wPar2 2 3 (wCons (wFn c__law_take (wCons (wName 0) (wCons (wCon (.int 6)) wNil))) (wCons (wFn c__law_take (wCons (wName 0) (wCons (wCb (wCons (wCon (.int 1)) (wCons (wCb (wCons (wName 1) wNil) lenW) wNil)) maxW2) wNil))) wNil)))
  (wConsS (wIfS (wBl (wTwo (wName 2) (wCon (.int 0)) (eqW false)))
  (wConsS (wRet n (wFn c__law_thing (wCons (wName 0) wNil)))
  wNilS)
  wNilS)
  (w__law_bent_one n)))
def c__law_bent : Ct := ctOf ["_law_box_here", "_law_thing_here", "_law_form", "_law_at", "_law_both", "_law_more"] ["_law_box_here", "_law_thing_here"] (w__law_bent)
section
variable {T : Tab} {P : Program} {w : World} {K : PySem.W.Frag} {mg : Str → Option Value} {base : Heap}
theorem Tx.ok__law_bent (t : Tx T K mg) : FnOk P w K mg base CX0 3 t.a__law_bent t.fd__law_bent ["_law_box_here", "_law_thing_here"] (spC T K c__law_bent) := by
  have nd := sc__law_bent.nd
  exact fn_J t.F__law_bent sc__law_bent fun cdv A outer sh H E hr n => (jss_cons (js_par2 2 3 nd (ja_cons (je_call t.ok__law_take (hr.mono (by decide)) t.m__law_take t.F__law_take.kp t.b__law_take (ja_cons (je_name 0) (ja_cons je_int ja_nil))) (ja_cons (je_call t.ok__law_take (hr.mono (by decide)) t.m__law_take t.F__law_take.kp t.b__law_take (ja_cons (je_name 0) (ja_cons (je_cb t.z_max (jc_max2 rfl) (ja_cons je_int (ja_cons (je_cb t.z_len jc_len (ja_cons (je_name 1) ja_nil)) ja_nil))) ja_nil))) ja_nil)))
  (jss_cons (js_if (jt_cmp (jc_eq hr.units) (je_name 2) je_int)
  (jss_cons (js_ret (je_call t.ok__law_thing (hr.mono (by decide)) t.m__law_thing t.F__law_thing.kp t.b__law_thing (ja_cons (je_name 0) ja_nil)))
  jss_nil)
  jss_nil)
  (jss_cons (js_if (jt_cmp (jc_eq hr.units) (je_name 2) je_int)
  (jss_cons (js_ret (je_cb t.z_list jc_list (ja_cons (je_name 1) ja_nil)))
  jss_nil)
  jss_nil)
  (jss_cons (js_if (jt_cmp (jc_eq hr.units) (je_name 2) je_int)
  (jss_cons (js_ret (je_bin jb_add (je_bin jb_add (je_slice (je_name 1) jo_none (jo_some (je_name 3))) (je_slice (je_name 1) (jo_some (je_name 3)) (jo_some (je_bin jb_add (je_name 3) je_int)))) (je_slice (je_name 1) (jo_some (je_name 3)) jo_none)))
  jss_nil)
  jss_nil)
  (jss_cons (js_if (jt_cmp (jc_eq hr.units) (je_name 2) je_int)
  (jss_cons (js_asg 4 nd (je_bin jb_add (je_slice (je_name 1) (jo_some (je_bin jb_add (je_name 3) je_int)) (jo_some (je_bin jb_add (je_name 3) je_int))) (je_slice (je_name 1) (jo_some (je_name 3)) (jo_some (je_bin jb_add (je_name 3) je_int)))))
  (jss_cons (js_ret (je_bin jb_add (je_bin jb_add (je_slice (je_name 1) jo_none (jo_some (je_name 3))) (je_name 4)) (je_slice (je_name 1) (jo_some (je_bin jb_add (je_name 3) je_int)) jo_none)))
  jss_nil))
  jss_nil)
  (jss_cons (js_asg 5 nd (je_sub ji_ix (je_lst (ja_cons je_int (ja_cons (je_un ju_neg je_int) (ja_cons je_non (ja_cons je_str (ja_cons je_bl (ja_cons (je_tup (ja_cons je_int ja_nil)) (ja_cons je_int (ja_cons je_int (ja_cons je_int (ja_cons je_int ja_nil))))))))))) (je_call t.ok__law_take (hr.mono (by decide)) t.m__law_take t.F__law_take.kp t.b__law_take (ja_cons (je_name 0) (ja_cons je_int ja_nil)))))
  (jss_cons (js_ret (je_bin jb_add (je_bin jb_add (je_slice (je_name 1) jo_none (jo_some (je_name 3))) (je_tup (ja_cons (je_name 5) ja_nil))) (je_slice (je_name 1) (jo_some (je_bin jb_add (je_name 3) (je_cb t.z_int jc_int (ja_cons (je_cmp (jc_eq hr.units) (je_name 2) je_int) ja_nil)))) jo_none)))
  jss_nil)))))))
end

def w_law_last (n : Nat) : WS := (wConsS (wIfS (wOrT (wBl (wTwo (wFn c__law_told (wCons (wTwo (wName 3) (wCon (.int 0)) ixW) (wCons (wTwo (wName 3) (wCon (.int 1)) ixW) (wCons (wTwo (wName 3) (wCon (.int 2)) ixW) wNil)))) (wCon .non) (isW true))) (wNotT (wTru (wFn c__law_of_right (wCons (wName 2) wNil)))))
  (wConsS (wRet n (wCon (.bl false)))
  wNilS)
  wNilS)
  wNilS)
def w_law_asked (n : Nat) : WS := (wConsS (wIfS (wBl (wTwo (wFn c__law_told (wCons (wTwo (wName 5) (wCon (.int 0)) ixW) (wCons (wTwo (wName 5) (wCon (.int 1)) ixW) (wCons (wTwo (wName 5) (wCon (.int 2)) ixW) wNil)))) (wFn c__law_due (wCons (wCb (wCons (wName 5) wNil) tupleW) wNil)) (eqW true)))
  (wConsS (wRet n (wCon (.bl false)))
  wNilS)
  wNilS)
  wNilS)
def w_law_bend (n : Nat) : WS := (wConsS (wAsg 7 (wFn c__law_take (wCons (wName 2) (wCons (wCon (.int 3)) wNil))))
  (wConsS (wSetL (wIf (wBl (wTwo (wName 7) (wCon (.int 0)) (eqW false))) (wFn c__law_thing (wCons (wName 2) wNil)) (wFn c__law_bent (wCons (wName 2) (wCons (wTwo (wName 3) (wName 7) ixW) wNil)))) (wName 5) (wName 7))
  wNilS))
def w_law_turn (n : Nat) : WS := (wConsS (wAsg 5 (wCb (wCons (wName 3) wNil) listWC))
  (wConsS (wFor (wRng1 (wCons (wTwo (wCon (.int 1)) (wFn c__law_take (wCons (wName 2) (wCons (wCon (.int 2)) wNil))) addW) wNil)) (.nm 6)
  (w_law_bend n))
  (w_law_asked n)))
def w_law_turns (n : Nat) : WS := (wConsS (wFor (wRng1 (wCons (wCon (.int 5)) wNil)) (.nm 4)
  (wFgt [0, 1, 2, 3, 4] 1 n (w_law_turn n)))
  (wFgt [0, 1, 2, 3] 1 n (w_law_last n)))
def w_law_body (n : Nat) : WS := (wConsS (wAsg 2 (wFn c__law_box (wCons (wName 0) (wCons (wName 1) wNil))))
  (wConsS (wAsg 3 (wFn c__law_model (wCons (wName 2) wNil)))
  (wConsS (wAsg 3 (wTup (wCons (wTwo (wName 3) (wCon (.int 0)) ixW) (wCons (wTwo (wName 3) (wCon (.int 1)) ixW) (wCons (wSlc (wTwo (wName 3) (wCon (.int 2)) ixW) wO0 (wO1 (wCon (.int 9)))) wNil)))))
  (w_law_turns n))))
def w_law (n : Nat) : WS := (wConsS (wFor (wRng1 (wCons (wCb (wCons (wCon (.int 2)) (wCons (wCb (wCons (wCb (wCons (wName 0) wNil) lenW) (wCons (wCon (.int 5)) wNil)) minW2) wNil)) maxW2) wNil)) (.nm 1)
  (wFgt [0, 1] 0 n (w_law_body n)))
  (wConsS (wRet n (wCon (.bl true)))
  wNilS))
def c_law : Ct := ctOf ["_law_script", "_law_k", "_law_box_here", "_law_model_here", "_law_turn", "_law_some", "_law_more", "_law_spot"] ["_law_script"] (w_law)
section
variable {T : Tab} {P : Program} {w : World} {K : PySem.W.Frag} {mg : Str → Option Value} {base : Heap}
theorem Tx.ok_law (t : Tx T K mg) : FnOk P w K mg base CX0 8 t.a_law t.fd_law ["_law_script"] (spC T K c_law) := by
  have nd := sc_law.nd
  exact fn_J t.F_law sc_law fun cdv A outer sh H E hr n => (jss_cons (js_for PassesOwn.never (ji_range1 t.z_range (ja_cons (je_cb t.z_max (jc_max2 rfl) (ja_cons je_int (ja_cons (je_cb t.z_min (jc_min2 rfl) (ja_cons (je_cb t.z_len jc_len (ja_cons (je_name 0) ja_nil)) (ja_cons je_int ja_nil))) ja_nil))) ja_nil)) (dg_name 1 nd)
  (jss_fgt [0, 1] 0 (jss_cons (js_asg 2 nd (je_call t.ok__law_box (hr.mono (by decide)) t.m__law_box t.F__law_box.kp t.b__law_box (ja_cons (je_name 0) (ja_cons (je_name 1) ja_nil))))
  (jss_cons (js_asg 3 nd (je_call t.ok__law_model (hr.mono (by decide)) t.m__law_model t.F__law_model.kp t.b__law_model (ja_cons (je_name 2) ja_nil)))
  (jss_cons (js_asg 3 nd (je_tup (ja_cons (je_sub ji_ix (je_name 3) je_int) (ja_cons (je_sub ji_ix (je_name 3) je_int) (ja_cons (je_slice (je_sub ji_ix (je_name 3) je_int) jo_none (jo_some je_int)) ja_nil)))))
  (jss_cons (js_for PassesOwn.never (ji_range1 t.z_range (ja_cons je_int ja_nil)) (dg_name 4 nd)
  (jss_fgt [0, 1, 2, 3, 4] 1 (jss_cons (js_asg 5 nd (je_cb t.z_list jc_listC (ja_cons (je_name 3) ja_nil)))
  (jss_cons (js_for PassesOwn.never (ji_range1 t.z_range (ja_cons (je_bin jb_add je_int (je_call t.ok__law_take (hr.mono (by decide)) t.m__law_take t.F__law_take.kp t.b__law_take (ja_cons (je_name 2) (ja_cons je_int ja_nil)))) ja_nil)) (dg_name 6 nd)
  (jss_cons (js_asg 7 nd (je_call t.ok__law_take (hr.mono (by decide)) t.m__law_take t.F__law_take.kp t.b__law_take (ja_cons (je_name 2) (ja_cons je_int ja_nil))))
  (jss_cons (js_setL (je_if (jt_cmp (jc_eq hr.units) (je_name 7) je_int) (je_call t.ok__law_thing (hr.mono (by decide)) t.m__law_thing t.F__law_thing.kp t.b__law_thing (ja_cons (je_name 2) ja_nil)) (je_call t.ok__law_bent (hr.mono (by decide)) t.m__law_bent t.F__law_bent.kp t.b__law_bent (ja_cons (je_name 2) (ja_cons (je_sub ji_ix (je_name 3) (je_name 7)) ja_nil)))) (je_name 5) (je_name 7))
  jss_nil)))
  (jss_cons (js_if (jt_cmp (jc_ne hr.units) (je_call t.ok__law_told (hr.mono (by decide)) t.m__law_told t.F__law_told.kp t.b__law_told (ja_cons (je_sub ji_ix (je_name 5) je_int) (ja_cons (je_sub ji_ix (je_name 5) je_int) (ja_cons (je_sub ji_ix (je_name 5) je_int) ja_nil)))) (je_call t.ok__law_due (hr.mono (by decide)) t.m__law_due t.F__law_due.kp t.b__law_due (ja_cons (je_cb t.z_tuple jc_tuple (ja_cons (je_name 5) ja_nil)) ja_nil)))
  (jss_cons (js_ret je_bl)
  jss_nil)
  jss_nil)
  jss_nil)))))
  (jss_fgt [0, 1, 2, 3] 1 (jss_cons (js_if (JW.jt (jw_or (jt_cmp jc_isnot (je_call t.ok__law_told (hr.mono (by decide)) t.m__law_told t.F__law_told.kp t.b__law_told (ja_cons (je_sub ji_ix (je_name 3) je_int) (ja_cons (je_sub ji_ix (je_name 3) je_int) (ja_cons (je_sub ji_ix (je_name 3) je_int) ja_nil)))) je_non) (jw_or1 (jt_not (jt_val (je_call t.ok__law_of_right (hr.mono (by decide)) t.m__law_of_right t.F__law_of_right.kp t.b__law_of_right (ja_cons (je_name 2) ja_nil)))))))
  (jss_cons (js_ret je_bl)
  jss_nil)
  jss_nil)
  jss_nil))))))))
  (jss_cons (js_ret je_bl)
  jss_nil))
end

/-! ### take, feed -/
theorem take_c {b : B} {m : Int} (hm : 0 < m) (hm2 : m < 2 ^ 200) (hb : Ok b) : c__law_take [.cel 0, .dat (.int m)] [bx b] (.dat (.int (tk b m))) [bx (nx b m)] := by
  refine ⟨rfl, ?_⟩
  refine Br.dec (fun h => ?_) (fun h => ?_)
  · refine And.intro hm (And.intro ⟨hm, lg hm hm2⟩ (And.intro ?_ ?_))
    · rw [tk_p h]
    · rw [nx_p h]; rfl
  · obtain ⟨hy, hy2⟩ := hb
    refine And.intro (Dl.mul_l (by omega) (by omega)) (And.intro (pos_ (by decide)) ?_)
    refine And.intro (Dl.mul_l (by omega) (by omega)) (And.intro (pos_ (by decide)) ?_)
    refine And.intro (Dl.mul_l (by omega) (by omega)) (And.intro ⟨by decide, by decide⟩ (And.intro hm (And.intro ?_ ?_)))
    · rw [tk_n h]
    · rw [nx_n h]; rfl

theorem feed_c {ns : List Int} {k : Nat} (hk : k < 100) : c__law_box [.dat (scD ns), .dat (.int k)] [] (.cel 0) [bx (feedB ns k)] := by
  refine ⟨rfl, ?_⟩
  have tail : ∀ c : Int, c = feedC ns k → wConsS (wAsg 3 (wTwo (wTwo (wTwo (wTwo (wTwo (wCb (wCons (wName 2) wNil) intW1) (wCon (.int 2147483629)) modW) (wTwo (wCon (.int 104729)) (wName 1) mulW) addW) (wCon (.int 1)) addW) (wCon (.int 5)) powW) (wCon (.int 2147483647)) modW))
      (wConsS (wRetC 0 (wLstC (wCons (wTwo (wLst (wCons (wCon (.int 0)) (wCons (wName 2) wNil))) (wCb (wCons (wTwo (wName 2) (wTwo (wCon (.int 10)) (wCon (.int 18)) powW) geW) wNil) intW1) ixW) (wCons (wTwo (wTwo (wCb (wCons (wName 3) wNil) intW1) (wCon (.int 2147483646)) modW) (wCon (.int 1)) addW) wNil)))) wNilS)
      ⟨[some (.dat (scD ns)), some (.dat (.int k)), some (.dat (.int c)), none], []⟩ (endJ 0 (.cel 0) [bx (feedB ns k)]) := by
    rintro c rfl
    refine And.intro (pos_ (by decide)) (And.intro (Dl.mul_l (by decide) (by decide)) (And.intro ⟨by decide, by decide, by omega⟩ (And.intro (pos_ (by decide)) ?_)))
    refine And.intro (szk 2) (And.intro ⟨by decide, by decide, by decide⟩ ?_)
    have e : atI [D.int 0, D.int (feedC ns k)] (if decide ((10 : Int) ^ 18 ≤ feedC ns k) = true then 1 else 0) = some (.int (if 10 ^ 18 ≤ feedC ns k then feedC ns k else 0)) := by
      by_cases h : (10 : Int) ^ 18 ≤ feedC ns k
      · rw [if_pos h, if_pos (decide_eq_true h)]; rfl
      · rw [if_neg h, if_neg (by simpa using h)]; rfl
    refine atW_i e ?_
    exact And.intro (pos_ (by decide)) (And.intro (szk 2) (And.intro rfl (And.intro rfl rfl)))
  refine And.intro (Dl.mul_l (by decide) (by decide)) ?_
  refine Br.dec (fun hc => ?_) (fun hc => ?_)
  · have hc : k < ns.length := by simpa using hc
    exact atW_i (atI_scr hc) (tail _ (by unfold feedC; rw [if_pos hc]))
  · have hc : ¬ k < ns.length := by simpa using hc
    refine Br.dec (fun hd => ?_) (fun hd => ?_)
    · have hd : 0 < ns.length := by simpa using hd
      have hm : ((k : Nat) : Int) % (((ns.map D.int).length : Nat) : Int) = ((k % ns.length : Nat) : Int) := by rw [List.length_map]; exact (Int.natCast_emod k ns.length).symm
      refine And.intro (pos_ (by rw [List.length_map]; omega)) ?_
      refine atW_i (d := .int (ns.getD (k % ns.length) 0)) (by rw [hm]; exact atI_scr (Nat.mod_lt _ hd)) ?_
      refine And.intro (pos_ (by decide)) (And.intro (Dl.mul_l (by omega) (by omega)) ?_)
      exact tail _ (by unfold feedC; rw [if_neg hc, if_pos hd])
    · have hd : ¬ 0 < ns.length := by simpa using hd
      exact tail _ (by unfold feedC; rw [if_neg hc, if_neg hd])

/-! ### what may be compared -/
def okN (k : Nat) (d : D) : Prop := d.plain = true ∧ d.py.canLay0 = true ∧ d.py.depth ≤ k
theorem okl_all {k : Nat} : ∀ {xs : List D}, (∀ d ∈ xs, okN k d) → D.plains xs = true ∧ PyData.canLayAll0 (D.pys xs) = true ∧ PyData.depthAll (D.pys xs) ≤ k
  | [], _ => ⟨rfl, by simp [D.pys, PyData.canLayAll0], by simp [D.pys, PyData.depthAll]⟩
  | x :: xs, h => by
    obtain ⟨a, b, c⟩ := h x List.mem_cons_self
    obtain ⟨d, e, f⟩ := okl_all fun y hy => h y (List.mem_cons_of_mem _ hy)
    refine ⟨by simp [D.plains, a, d], by simp [D.pys, PyData.canLayAll0, b, e], ?_⟩
    simp only [D.pys, PyData.depthAll]
    exact Nat.max_le.mpr ⟨c, f⟩
theorem ok_lst {k : Nat} {xs : List D} (h : ∀ d ∈ xs, okN k d) (hk : k < 64) : okD (.lst xs) = true := by
  obtain ⟨a, b, c⟩ := okl_all h
  have e : (D.lst xs).py.depth ≤ 64 := by
    show PyData.depth (.list (D.pys xs)) ≤ 64
    simp only [PyData.depth]
    omega
  simp only [okD, SeqAt.shaped, Bool.and_eq_true]
  exact ⟨a, by show PyData.canLay0 (.list (D.pys xs)) = true; simpa [PyData.canLay0] using b, decide_eq_true e⟩

theorem ok_tup {k : Nat} {xs : List D} (h : ∀ d ∈ xs, okN k d) (hk : k < 64) : okD (.tup xs) = true := by
  obtain ⟨a, b, c⟩ := okl_all h
  have e : (D.tup xs).py.depth ≤ 64 := by
    show PyData.depth (.tuple (D.pys xs)) ≤ 64
    simp only [PyData.depth]
    omega
  simp only [okD, SeqAt.shaped, Bool.and_eq_true]
  exact ⟨a, by show PyData.canLay0 (.tuple (D.pys xs)) = true; simpa [PyData.canLay0] using b, decide_eq_true e⟩

theorem six_nat (n d k : Nat) : HT.sIx n d (some (k : Int)) = min k n := HT.sIx_nat n d k
theorem cut_take (ds : List D) (k : Nat) : cutD ds none (some (k : Int)) = ds.take k := by
  unfold cutD
  rw [six_nat]
  show (ds.drop 0).take (min k ds.length - 0) = _
  rw [List.drop_zero, Nat.sub_zero]
  exact (List.take_eq_take_min).symm
theorem cut_drop (ds : List D) (k : Nat) : cutD ds (some (k : Int)) none = ds.drop k := by
  unfold cutD
  rw [six_nat]
  show (ds.drop (min k ds.length)).take (ds.length - min k ds.length) = _
  rw [List.take_of_length_le (by rw [List.length_drop]; exact Nat.le_refl _)]
  rcases Nat.le_total k ds.length with h | h
  · rw [Nat.min_eq_left h]
  · rw [Nat.min_eq_right h, List.drop_of_length_le (Nat.le_refl _), List.drop_of_length_le h]

/-! ### small helps -/
theorem szl (n : Nat) (h : n < 16777216 := by decide) : n < sizeLine := h
theorem isint_c (i : Int) : c_is_integer [.dat (.int i)] [] (.dat (.bl true)) [] := ⟨rfl, Br.mk (fun _ => And.intro rfl rfl) (fun h => nomatch h)⟩
theorem alls {α : Type} (l : List α) : (l.map fun _ => true).all id = true := by
  rw [List.all_eq_true]
  intro b hb
  obtain ⟨_, _, rfl⟩ := List.mem_map.mp hb
  rfl
theorem allT {α : Type} (l : List α) {R : RV} {cs : List Cell} (h : R (.dat (.bl true)) cs) : allW [.dat (.lst (l.map fun _ => D.bl true))] cs R := by
  have e : (l.map fun _ => D.bl true) = (l.map fun _ => true).map D.bl := by rw [List.map_map]; rfl
  rw [e]
  refine blsW_i (ns := l.map fun _ => true) ?_
  rw [alls]
  exact h
theorem sumT {α : Type} (f : α → Int) (l : List α) {R : RV} {cs : List Cell} (h : R (.dat (.int (l.map f).sum)) cs) : sumW [.dat (.lst (l.map fun x => D.int (f x)))] cs R := by
  have e : (l.map fun x => D.int (f x)) = (l.map f).map D.int := by rw [List.map_map]; rfl
  rw [e]
  exact intsW_i (ns := l.map f) h
theorem lenI {α : Type} {f : α → D} {l : List α} (h : l.length ≤ 1000) : (l.map f).length < sizeLine := by rw [List.length_map]; exact Nat.lt_of_le_of_lt h (by decide)
theorem allB {α : Type} (f : α → Bool) (l : List α) (hf : ∀ x ∈ l, f x = true) {R : RV} {cs : List Cell} (h : R (.dat (.bl true)) cs) : allW [.dat (.lst (l.map fun x => D.bl (f x)))] cs R := by
  have e : (l.map fun x => D.bl (f x)) = (l.map f).map D.bl := by rw [List.map_map]; rfl
  rw [e]
  refine blsW_i (ns := l.map f) ?_
  have : (l.map f).all id = true := by
    rw [List.all_eq_true]
    intro b hb
    obtain ⟨x, hx, rfl⟩ := List.mem_map.mp hb
    exact hf x hx
  rw [this]
  exact h
theorem anyB {α : Type} (f : α → Bool) (l : List α) (hf : ∀ x ∈ l, f x = false) {R : RV} {cs : List Cell} (h : R (.dat (.bl false)) cs) : anyW [.dat (.lst (l.map fun x => D.bl (f x)))] cs R := by
  have e : (l.map fun x => D.bl (f x)) = (l.map f).map D.bl := by rw [List.map_map]; rfl
  rw [e]
  refine blsW_i (ns := l.map f) ?_
  have : (l.map f).any id = false := by
    rw [List.any_eq_false]
    intro b hb
    obtain ⟨x, hx, rfl⟩ := List.mem_map.mp hb
    rw [hf x hx]
    decide
  rw [this]
  exact h

/-! ### draws -/
theorem at2 {x y : Int} {c : Bool} : atI [D.int x, .int y] (if c = true then 1 else 0) = some (.int (if c = true then y else x)) := by cases c <;> rfl
def eqB (a b : Int) : Bool := false.xor (decide (a = b))
/-- [x for x in .. if a draw says so] -/
def drw {α : Type} (f : α → B → Bool × B) : List α → B → List α × B
  | [], b => ([], b)
  | x :: xs, b => if (f x b).1 then (x :: (drw f xs (f x b).2).1, (drw f xs (f x b).2).2) else drw f xs (f x b).2
theorem drw_ok {α : Type} {f : α → B → Bool × B} (hf : ∀ x b, Ok b → Ok (f x b).2) : ∀ (xs : List α) {b : B}, Ok b → Ok (drw f xs b).2 ∧ List.Sublist (drw f xs b).1 xs
  | [], b, h => ⟨h, List.Sublist.refl _⟩
  | x :: xs, b, h => by
    obtain ⟨h1, h2⟩ := drw_ok hf xs (hf x b h)
    unfold drw
    split
    · exact ⟨h1, h2.cons₂ x⟩
    · exact ⟨h1, h2.cons x⟩
theorem lcW_drw {α : Type} {g : α → D} {f : α → B → Bool × B} (hf : ∀ x b, Ok b → Ok (f x b).2) {p : Pat} {wt : WpT} {we : WpE} {sl : Sls} : ∀ {xs : List α} {b : B} {R : List D → List Cell → Prop}, Ok b →
    (∀ x ∈ xs, ∀ b, Ok b → ∃ sl', asgP p (g x) sl = some sl' ∧ (∀ R' : RB, R' (f x b).1 [bx (f x b).2] → wt sl' [bx b] R' noX) ∧ ∀ b' (R' : RV), R' (.dat (g x)) [bx b'] → we sl' [bx b'] R' noX) →
    R ((drw f xs b).1.map g) [bx (drw f xs b).2] → lcW p wt we sl (xs.map g) [bx b] R
  | [], b, R, hb, _, h => h
  | x :: xs, b, R, hb, hx, h => by
    obtain ⟨sl', e, h1, h2⟩ := hx x List.mem_cons_self b hb
    unfold drw at h
    refine asgW_i e (h1 _ ⟨fun z => ?_, fun z => ?_⟩)
    · rw [if_pos z] at h
      exact h2 _ _ (lcW_drw hf (hf x b hb) (fun y hy => hx y (List.mem_cons_of_mem _ hy)) h)
    · rw [if_neg (by rw [z]; decide)] at h
      exact lcW_drw hf (hf x b hb) (fun y hy => hx y (List.mem_cons_of_mem _ hy)) h

/-! ### sets of sizes in the program -/
abbrev nD (n : Nat) : D := .int (n : Int)
abbrev kN (n : Nat) : Key := .inl (n : Int)
abbrev ppD (x : Nat × Nat) : D := .tup [nD x.1, nD x.2]
abbrev mkD (cs : List Nat) : D := .dct (cs.map kN) (cs.map fun _ => .bl true)
theorem mod0 {a b : Nat} : (a : Int) % (b : Int) = 0 ↔ a % b = 0 := by
  rw [← Int.natCast_emod]
  omega
theorem bigN {a k : Nat} (h : a < 2 ^ k) (hk : k ≤ 1000) : ((a : Int)).natAbs < 2 ^ 1000 := Nat.lt_of_lt_of_le h (Nat.pow_le_pow_right (by decide) hk)
theorem mulN {a b : Nat} (ha : a < 2 ^ 300) (hb : b < 2 ^ 300) : IntMulOk (a : Int) (b : Int) := Dl.mul_w (bigN ha (by decide)) (bigN hb (by decide))
theorem divN {a : Int} {b : Nat} (h0 : 0 < b) (hb : b < 2 ^ 300) : CDivW a (b : Int) := wide_div (b := 300) (by omega) hb (by decide) (by decide)
theorem mkD_items (cs : List Nat) : (cs.map kN).map keyOf = cs.map nD := by rw [List.map_map]; rfl
theorem hasK_mk (cs : List Nat) (n : Nat) : hasK ((cs.map kN).zip (cs.map fun _ => D.bl true)) (.inl (n : Int)) = decide (n ∈ cs) := by
  induction cs with
  | nil => rfl
  | cons c cs ih =>
    show (decide (kN c = .inl (n : Int)) || hasK ((cs.map kN).zip (cs.map fun _ => D.bl true)) (.inl (n : Int))) = _
    rw [ih]
    by_cases h : n = c
    · subst h; simp
    · have e : ¬ kN c = .inl (n : Int) := fun z => h (by have := Sum.inl.inj z; omega)
      rw [decide_eq_false e, Bool.false_or]
      simp [h]
abbrev stP (n : Nat) (acc : List (Nat × Nat)) (l p : Nat) (x4 : Option Sl) : Sta := ⟨[some (.dat (nD n)), some (.cel 0), some (.dat (nD l)), some (.dat (nD p)), x4], [.lst (acc.map ppD)]⟩
theorem prest_c {n l p a : Nat} {acc : List (Nat × Nat)} (hl : acc.length < 16777216) {P : PJ} (hP : ∀ x4, P.nx (stP n (acc ++ (if 0 < a then [(p, a)] else [])) l (p + 1) x4)) : w_prime_powers_rest 0 (stP n acc l p (some (.dat (nD a)))) P := by
  refine Br.dec (fun h => ?_) (fun h => ?_)
  · have e := hP (some (.dat (nD a)))
    rw [if_pos (by omega)] at e
    refine And.intro trivial (And.intro (szk 2) (And.intro (show (acc.map ppD).length < sizeLine by rw [List.length_map]; exact hl) ?_))
    rw [show acc.map ppD ++ [ppD (p, a)] = (acc ++ [(p, a)]).map ppD by rw [List.map_append]; rfl]
    exact e
  · have e := hP (some (.dat (nD a)))
    rw [if_neg (by omega), List.append_nil] at e
    exact e
theorem pbody_c {n l p : Nat} {acc : List (Nat × Nat)} {x4 : Option Sl} (hp : 2 ≤ p) (hp2 : p < 2 ^ 300) (h1 : 1 ≤ l) (hl : acc.length < 16777216) {P : PJ} (hP : ∀ x4, P.nx (stP n (acc ++ (if 0 < (dO l l p).2 then [(p, (dO l l p).2)] else [])) (dO l l p).1 (p + 1) x4)) :
    w_prime_powers_body 0 (stP n acc l p x4) P := by
  refine ⟨fun k S => ∃ l2 a, l2 ≤ k ∧ 1 ≤ l2 ∧ (dO k l2 p).1 = (dO l l p).1 ∧ a + (dO k l2 p).2 = (dO l l p).2 ∧ S = stP n acc l2 p (some (.dat (nD a))), l, ⟨l, 0, Nat.le_refl _, h1, rfl, Nat.zero_add _, rfl⟩, ?_⟩
  rintro k S ⟨l2, a, g1, g2, g3, g4, rfl⟩
  match k, g1, g3, g4 with
  | 0, g1, _, _ => omega
  | k + 1, g1, g3, g4 =>
    refine And.intro (show (0 : Int) < (p : Int) by omega) (Br.xf (fun z => ?_) (fun z => ?_))
    · have z := mod0.mp z
      have e : dO (k + 1) l2 p = ((dO k (l2 / p) p).1, (dO k (l2 / p) p).2 + 1) := if_pos z
      rw [e] at g3 g4
      have lt : l2 / p < l2 := Nat.div_lt_self g2 hp
      refine And.intro (divN (by omega) hp2) ⟨k, Nat.lt_succ_self k, l2 / p, a + 1, by omega, Nat.div_pos (Nat.le_of_dvd g2 (Nat.dvd_of_mod_eq_zero z)) (by omega), g3, ?_, rfl⟩
      show a + 1 + (dO k (l2 / p) p).2 = _
      rw [← g4]
      show _ = a + ((dO k (l2 / p) p).2 + 1)
      omega
    · have z : ¬ l2 % p = 0 := fun y => z (mod0.mpr y)
      have e : dO (k + 1) l2 p = (l2, 0) := if_neg z
      rw [e] at g3 g4
      have g3 : l2 = (dO l l p).1 := g3
      have g4 : a = (dO l l p).2 := g4
      rw [g4, g3]
      exact prest_c hl hP
theorem ptail_c {n l p : Nat} {acc : List (Nat × Nat)} {x4 : Option Sl} (hl : acc.length < 16777216) : w_prime_powers_tail 0 (stP n acc l p x4) (endJ 0 (.dat (.lst ((acc ++ ppEnd l).map ppD))) []) := by
  refine Br.dec (fun h => ?_) (fun h => ?_)
  · refine And.intro trivial (And.intro (szk 2) (And.intro (show (acc.map ppD).length < sizeLine by rw [List.length_map]; exact hl) ?_))
    unfold ppEnd
    rw [if_pos (by omega), List.map_append]
    exact And.intro (Nat.le_refl _) (And.intro rfl rfl)
  · unfold ppEnd
    rw [if_neg (by omega), List.append_nil]
    exact And.intro (Nat.le_refl _) (And.intro rfl rfl)
theorem pps_c {n : Nat} (h0 : 1 ≤ n) (hn : n < 16777000) : c_prime_powers [.dat (nD n)] [] (.dat (.lst ((pp n n 2).map ppD))) [] := by
  refine ⟨rfl, And.intro (szk 0) ?_⟩
  refine ⟨fun m S => ∃ acc l p x4, acc ++ pp m l p = pp n n 2 ∧ 2 ≤ p ∧ p ≤ n + 2 ∧ 1 ≤ l ∧ l ≤ n ∧ l < m + p ∧ acc.length + 2 ≤ p ∧ S = stP n acc l p x4, n, ⟨[], n, 2, none, rfl, Nat.le_refl _, by omega, h0, Nat.le_refl _, by omega, Nat.le_refl _, rfl⟩, ?_⟩
  rintro m S ⟨acc, l, p, x4, g1, g2, g3, g4, g5, g6, g7, rfl⟩
  have pb : p < 2 ^ 300 := Nat.lt_of_lt_of_le (show p < 2 ^ 30 by omega) (Nat.pow_le_pow_right (by decide) (by decide))
  refine And.intro (mulN pb pb) (Br.dec (fun h => ?_) (fun h => ?_))
  · have h : p * p ≤ l := by
      have h : ((p : Int)) * (p : Int) ≤ (l : Int) := h
      rw [← Int.natCast_mul] at h
      omega
    have pl : p ≤ l := Nat.le_trans (Nat.le_mul_of_pos_right p (by omega)) h
    match m, g1, g6 with
    | 0, _, g6 => omega
    | m + 1, g1, g6 =>
      have e : pp (m + 1) l p = (if 0 < (dO l l p).2 then [(p, (dO l l p).2)] else []) ++ pp m (dO l l p).1 (p + 1) := if_pos h
      rw [e, ← List.append_assoc] at g1
      obtain ⟨a, b, c⟩ := dO_ok g2 l l g4 (Nat.le_refl _)
      have le := dO_le g2 g4 (Nat.le_refl l)
      refine pbody_c g2 pb g4 (by omega) fun x4 => ⟨m, Nat.lt_succ_self m, _, _, _, x4, g1, by omega, by omega, c, by omega, by omega, ?_, rfl⟩
      rw [List.length_append]
      split
      · show acc.length + 1 + 2 ≤ p + 1; omega
      · show acc.length + 0 + 2 ≤ p + 1; omega
  · have h : ¬ p * p ≤ l := fun y => h (by
      show ((p : Int)) * (p : Int) ≤ (l : Int)
      rw [← Int.natCast_mul]
      omega)
    have e : pp m l p = ppEnd l := by
      cases m with
      | zero => rfl
      | succ m => exact if_neg h
    rw [← g1, e]
    exact ptail_c (by omega)

/-! ### the least period in the program -/
abbrev stN (m : Nat) (cs : List Nat) (p : Nat) (x3 : Option Sl) : Sta := ⟨[some (.dat (nD m)), some (.dat (mkD cs)), some (.dat (nD p)), x3], []⟩
def ndB (m : Nat) (cs : List Nat) (p s : Nat) : Bool := if m % (s * p) = 0 then (if m % (s * p * p) = 0 then true else decide (s * p ∈ cs)) else decide (s / p ∈ cs)
theorem nsize_c {m p s : Nat} {cs : List Nat} (p0 : 0 < p) (hp : p < 2 ^ 100) (s0 : 0 < s) (hs : s < 2 ^ 100) {P : PJ} (h1 : ndB m cs p s = true → P.nx (stN m cs p (some (.dat (nD s))))) (h2 : ndB m cs p s = false → P.rt (.dat (.bl false)) []) :
    w_is_needless_size 0 (stN m cs p (some (.dat (nD s)))) P := by
  have up : ∀ {a : Nat}, a < 2 ^ 100 → a < 2 ^ 300 := fun h => Nat.lt_of_lt_of_le h (Nat.pow_le_pow_right (by decide) (by decide))
  have sp : s * p < 2 ^ 200 := by
    have : s * p < 2 ^ 100 * 2 ^ 100 := Nat.mul_lt_mul_of_lt_of_le hs (Nat.le_of_lt hp) (by decide)
    rw [← Nat.pow_add] at this
    exact this
  have sp0 : 0 < s * p := Nat.mul_pos s0 p0
  have sp3 : s * p < 2 ^ 300 := Nat.lt_of_lt_of_le sp (Nat.pow_le_pow_right (by decide) (by decide))
  unfold ndB at h1 h2
  refine And.intro (mulN (up hs) (up hp)) (And.intro (show (0 : Int) < (s : Int) * (p : Int) by rw [← Int.natCast_mul]; omega) (Br.xt (fun z => ?_) (fun z => ?_)))
  · have z : ¬ m % (s * p) = 0 := fun y => z (by
      show (m : Int) % ((s : Int) * (p : Int)) = 0
      rw [← Int.natCast_mul]
      exact mod0.mpr y)
    rw [if_neg z] at h1 h2
    refine And.intro (divN p0 (up hp)) ?_
    show Br (true.xor (hasK ((cs.map kN).zip (cs.map fun _ => D.bl true)) (.inl ((s / p : Nat) : Int)))) _ _
    rw [hasK_mk]
    exact Br.xt (fun y => h2 (decide_eq_false y)) (fun y => h1 (decide_eq_true y))
  · have z : m % (s * p) = 0 := by
      have z : (m : Int) % ((s : Int) * (p : Int)) = 0 := z
      rw [← Int.natCast_mul] at z
      exact mod0.mp z
    rw [if_pos z] at h1 h2
    refine And.intro (mulN (up hs) (up hp)) ?_
    have q : IntMulOk ((s : Int) * (p : Int)) (p : Int) := by rw [← Int.natCast_mul]; exact mulN sp3 (up hp)
    refine And.intro q (And.intro (show (0 : Int) < (s : Int) * (p : Int) * (p : Int) by rw [← Int.natCast_mul, ← Int.natCast_mul]; have := Nat.mul_pos sp0 p0; omega) (Br.xt (fun y => ?_) (fun y => ?_)))
    · have y : ¬ m % (s * p * p) = 0 := fun w => y (by
        show (m : Int) % ((s : Int) * (p : Int) * (p : Int)) = 0
        rw [← Int.natCast_mul, ← Int.natCast_mul]
        exact mod0.mpr w)
      rw [if_neg y] at h1 h2
      refine And.intro (mulN (up hs) (up hp)) ?_
      show Br (true.xor (hasK ((cs.map kN).zip (cs.map fun _ => D.bl true)) (.inl ((s : Int) * (p : Int))))) _ _
      rw [← Int.natCast_mul, hasK_mk]
      exact Br.xt (fun y => h2 (decide_eq_false y)) (fun y => h1 (decide_eq_true y))
    · have y : m % (s * p * p) = 0 := by
        have y : (m : Int) % ((s : Int) * (p : Int) * (p : Int)) = 0 := y
        rw [← Int.natCast_mul, ← Int.natCast_mul] at y
        exact mod0.mp y
      rw [if_pos y] at h1
      exact Br.ff rfl (h1 rfl)
theorem needless_c {m p : Nat} {cs : List Nat} (p0 : 0 < p) (hp : p < 2 ^ 100) (hc : ∀ s ∈ cs, 0 < s ∧ s < 2 ^ 100) : c_is_needless [.dat (nD m), .dat (mkD cs), .dat (nD p)] [] (.dat (.bl (ndl m cs p))) [] := by
  refine ⟨rfl, ?_⟩
  show forW (.nm 3) (w_is_needless_size 0) ((cs.map kN).map keyOf) _ _
  rw [mkD_items]
  refine forW_at nD (fun pre post S => pre ++ post = cs ∧ pre.all (ndB m cs p) = true ∧ ∃ x3, S = stN m cs p x3) [] cs ?_ ?_ _ ⟨rfl, rfl, none, rfl⟩
  · rintro pre s post S ⟨he, ha, x3, rfl⟩ nx' hnx
    have hm : s ∈ cs := by rw [← he]; exact List.mem_append_right _ List.mem_cons_self
    refine nsize_c p0 hp (hc s hm).1 (hc s hm).2 (fun h => hnx _ ⟨by rw [List.append_assoc]; exact he, ?_, _, rfl⟩) (fun h => And.intro ?_ rfl)
    · rw [List.all_append, ha]
      simp [h]
    · have e : ndl m cs p = false := by
        show cs.all (ndB m cs p) = false
        rw [List.all_eq_false]
        exact ⟨s, hm, by rw [h]; decide⟩
      rw [e]
  · rintro pre S ⟨he, ha, x3, rfl⟩
    rw [List.append_nil] at he
    subst he
    exact And.intro (by show Sl.dat (.bl true) = .dat (.bl (pre.all (ndB m pre p))); rw [ha]) rfl
abbrev stS (m : Nat) (cs ds : List Nat) (x3 x4 x5 x6 : Option Sl) : Sta := ⟨[some (.dat (nD m)), some (.dat (.tup (cs.map nD))), some (.dat (mkD ds)), x3, x4, x5, x6], []⟩
theorem dct_mk (ds : List Nat) : dctD ([] ++ ds.map fun x => (kN x, D.bl true)) = mkD ds := by
  show D.dct ((ds.map fun x => (kN x, D.bl true)).map (·.1)) ((ds.map fun x => (kN x, D.bl true)).map (·.2)) = _
  rw [List.map_map, List.map_map]
  rfl
theorem kN_nd {cs : List Nat} (h : cs.Pairwise (· < ·)) : cs.Pairwise fun x y => kN x ≠ kN y := h.imp fun {a b} hl z => by
  have := Sum.inl.inj z
  omega
theorem modB (m s : Nat) : false.xor (decide ((m : Int) % (s : Int) = 0)) = decide (m % s = 0) := by
  rw [Bool.false_xor]
  exact decide_eq_decide.mpr mod0
theorem turn_c {n m p a : Nat} {cs : List Nat} (h : Gt n cs p (a + 1) m) (hp : p < 2 ^ 100) (hc : cs.Pairwise (· < ·)) (hb : ∀ s ∈ cs, 0 < s ∧ s < 2 ^ 100) (hl : cs.length ≤ 1000) {x3 x5 x6 : Option Sl} {P : PJ}
    (hP : ∀ x3, P.nx (stS (trn cs p m) cs (low (trn cs p m) cs) x3 (some (.dat (nD p))) x5 x6)) : w_shortest_turn 0 (stS m cs (low m cs) x3 (some (.dat (nD p))) x5 x6) P := by
  have p0 : 0 < p := by have := h.pr.1; omega
  have sub : ∀ {k : Nat} {s : Nat}, s ∈ low k cs → s ∈ cs := fun hs => (mem_low.mp hs).1
  refine call_ (needless_c p0 hp fun s hs => hb s (sub hs)) ?_
  cases hn : ndl m (low m cs) p with
  | false =>
    have e : trn cs p m = m := by unfold trn; rw [hn]; rfl
    rw [e] at hP
    exact Br.ff rfl (hP x3)
  | true =>
    have e : trn cs p m = m / p := by unfold trn; rw [hn]; rfl
    rw [e] at hP
    refine Br.tt rfl (And.intro (divN p0 (Nat.lt_of_lt_of_le hp (Nat.pow_le_pow_right (by decide) (by decide)))) ?_)
    refine And.intro (show (((low m cs).map kN).map keyOf).length < sizeLine by rw [List.length_map, List.length_map]; exact Nat.lt_of_le_of_lt (Nat.le_trans (List.length_filter_le _ _) hl) (by decide)) ?_
    show dcW _ _ _ _ _ (((low m cs).map kN).map keyOf) _ _ _
    rw [mkD_items]
    refine dcW_filter nD kN (fun _ => .bl true) (fun s => decide ((m / p) % s = 0)) (fun s hs => ⟨_, rfl, fun R' h' => And.intro (show (0 : Int) < (s : Int) by have := (hb s (sub hs)).1; omega) ?_, fun _ => ⟨⟨_, rfl, fun R' h' => h'⟩, fun R' h' => h'⟩⟩) (fun _ _ => rfl) (kN_nd (hc.sublist (List.filter_sublist))) ?_
    · show R' (false.xor (decide (((m / p : Nat) : Int) % (s : Int) = 0))) _
      rw [modB]
      exact h'
    · have ed : dctD ([] ++ ((low m cs).filter fun s => decide ((m / p) % s = 0)).map fun x => (kN x, D.bl true)) = mkD (low (m / p) cs) := by
        rw [dct_mk]
        show mkD (low (m / p) (low m cs)) = _
        rw [low_low (Nat.div_dvd_of_dvd h.dv)]
      have := hP none
      show P.nx _
      show P.nx ⟨[some (.dat (nD (m / p))), some (.dat (.tup (cs.map nD))), some (.dat (dctD ([] ++ ((low m cs).filter fun s => decide ((m / p) % s = 0)).map fun x => (kN x, D.bl true)))), x3, some (.dat (nD p)), x5, x6], []⟩
      rw [ed]
      exact hP x3
theorem prime_c {n m p a : Nat} {cs : List Nat} (h : Gt n cs p a m) (hn : n < 2 ^ 60) (n0 : 0 < n) (hp : p < 2 ^ 100) (hc : cs.Pairwise (· < ·)) (hb : ∀ s ∈ cs, 0 < s ∧ s < 2 ^ 100) (hl : cs.length ≤ 1000) {x3 x6 : Option Sl} {P : PJ}
    (hP : ∀ x3 x6, P.nx (stS (trns cs p a m) cs (low (trns cs p a m) cs) x3 (some (.dat (nD p))) (some (.dat (nD a))) x6)) : w_shortest_prime 0 (stS m cs (low m cs) x3 (some (.dat (nD p))) (some (.dat (nD a))) x6) P := by
  have la := h.lt
  have lm := Nat.le_of_dvd n0 h.st.dv
  refine And.intro (show SmI (a : Int) from ⟨by omega, by omega⟩) ?_
  refine forW_at (fun i : Nat => D.int (0 + (i : Int))) (fun pre post S => ∃ m' x3 x6, Gt n cs p post.length m' ∧ trns cs p post.length m' = trns cs p a m ∧ S = stS m' cs (low m' cs) x3 (some (.dat (nD p))) (some (.dat (nD a))) x6) [] (List.range a) ?_ ?_ _ ⟨m, x3, x6, by rw [List.length_range]; exact h, by rw [List.length_range], rfl⟩
  · rintro pre i post S ⟨m', y3, y6, g, e, rfl⟩ nx' hnx
    exact turn_c g hp hc hb hl fun x3 => hnx _ ⟨trn cs p m', x3, _, g.step, e, rfl⟩
  · rintro pre S ⟨m', y3, y6, g, e, rfl⟩
    have e : m' = trns cs p a m := e
    rw [e]
    exact hP y3 y6
theorem shortest_c {n : Nat} {cs : List Nat} (n0 : 1 ≤ n) (hn : n < 16777000) (hc : cs.Pairwise (· < ·)) (hd : ∀ s ∈ cs, 0 < s ∧ s ∣ n) (hl : cs.length ≤ 1000) : c_shortest [.dat (nD n), .dat (.tup (cs.map nD))] [] (.dat (.tup [nD (leaQ n cs), .tup ((low (leaQ n cs) cs).map nD)])) [] := by
  have hb : ∀ s ∈ cs, 0 < s ∧ s < 2 ^ 100 := fun s hs => ⟨(hd s hs).1, Nat.lt_of_le_of_lt (Nat.le_of_dvd n0 (hd s hs).2) (Nat.lt_trans hn (by decide))⟩
  refine ⟨rfl, And.intro (lenI hl) ?_⟩
  refine dcW_filter nD kN (fun _ => .bl true) (fun _ => true) (fun s hs => ⟨_, rfl, fun R' h' => h', fun _ => ⟨⟨_, rfl, fun R' h' => h'⟩, fun R' h' => h'⟩⟩) (fun _ _ => rfl) (kN_nd hc) ?_
  rw [List.filter_eq_self.mpr fun _ _ => rfl]
  have ed := dct_mk cs
  show w_shortest_loop 0 ⟨[some (.dat (nD n)), some (.dat (.tup (cs.map nD))), some (.dat (dctD ([] ++ cs.map fun x => (kN x, D.bl true)))), none, none, none, none], []⟩ _
  rw [ed]
  refine call_ (pps_c n0 hn) ?_
  refine forW_at ppD (fun pre post S => ∃ m x3 x4 x5 x6, Go n cs post m ∧ shq cs post m = leaQ n cs ∧ S = stS m cs (low m cs) x3 x4 x5 x6) [] (pp n n 2) ?_ ?_ _ ⟨n, none, none, none, none, Go.start cs n0, rfl, by rw [low_self fun s hs => (hd s hs).2]⟩
  · rintro pre ⟨p, a⟩ post S ⟨m, x3, x4, x5, x6, g, e, rfl⟩ nx' hnx
    have g2 := g.gt
    have lp : p < 2 ^ 100 := Nat.lt_of_le_of_lt (Nat.le_trans g.le (Nat.le_of_dvd n0 g.st.dv)) (Nat.lt_trans hn (by decide))
    exact prime_c g2 (Nat.lt_trans hn (by decide)) n0 lp hc hb hl fun x3 x6 => hnx _ ⟨_, x3, _, _, x6, g.step, e, rfl⟩
  · rintro pre S ⟨m, x3, x4, x5, x6, g, e, rfl⟩
    have e : m = leaQ n cs := e
    subst e
    refine And.intro (show ((((low (leaQ n cs) cs).map kN).map keyOf)).length < sizeLine by rw [List.length_map, List.length_map]; exact Nat.lt_of_le_of_lt (Nat.le_trans (List.length_filter_le _ _) hl) (by decide)) ?_
    show lcW _ _ _ _ (((low (leaQ n cs) cs).map kN).map keyOf) _ _
    rw [mkD_items]
    exact lcW_map nD nD (fun s _ => ⟨_, rfl, fun R' h' => h'⟩) (And.intro (szk 2) (And.intro rfl rfl))

/-! ### Sizes made -/
theorem cutA (cs : List Nat) : cutD (cs.map nD) none (some 1) = (cs.take 1).map nD := by
  rw [show (some (1 : Int)) = some ((1 : Nat) : Int) from rfl, cut_take, List.map_take]
theorem cutB (cs : List Nat) : cutD (cs.map nD) (some 1) none = (cs.drop 1).map nD := by
  rw [show (some (1 : Int)) = some ((1 : Nat) : Int) from rfl, cut_drop, List.map_drop]
theorem zip_nD (as bs : List Nat) : zipD (as.map nD) (bs.map nD) = (as.zip bs).map fun q => D.tup [nD q.1, nD q.2] := by
  unfold zipD
  rw [List.zip_map, List.map_map]
  rfl
theorem asc_zip : ∀ {cs : List Nat}, cs.Pairwise (· < ·) → ∀ q ∈ cs.zip (cs.drop 1), q.1 < q.2
  | [], _, q, hq => by simp at hq
  | [a], _, q, hq => by simp at hq
  | a :: b :: cs, h, q, hq => by
    obtain ⟨h1, h2⟩ := List.pairwise_cons.mp h
    have hq : q ∈ (a, b) :: ((b :: cs).zip ((b :: cs).drop 1)) := hq
    rcases List.mem_cons.mp hq with e | hq
    · subst e; exact h1 b List.mem_cons_self
    · exact asc_zip h2 q hq
theorem aresz_c {cs : List Nat} (hl : cs.length ≤ 1000) (hc : cs.Pairwise (· < ·)) (h0 : ∀ s ∈ cs, 0 < s) : c_are_sizes [.dat (.tup (cs.map nD))] [] (.dat (.bl true)) [] := by
  refine ⟨rfl, Br.ff rfl (And.intro (lenI hl) (lcW_map nD (fun _ => D.bl true) (fun s _ => ⟨_, rfl, fun R' h' => call_ (isint_c _) h'⟩) ?_))⟩
  dsimp only [wNil]
  refine allT cs (Br.ff rfl ?_)
  show (cutD (cs.map nD) none (some 1)).length < sizeLine ∧ lcW _ _ _ _ (cutD (cs.map nD) none (some 1)) _ _
  rw [cutA]
  refine And.intro (lenI (Nat.le_trans (List.length_take_le _ _) (by omega))) (lcW_map nD (fun s : Nat => D.bl (decide ((0 : Int) < (s : Int)))) (fun s _ => ⟨_, rfl, fun R' h' => h'⟩) ?_)
  dsimp only [wNil]
  refine allB (fun s : Nat => decide ((0 : Int) < (s : Int))) (cs.take 1) (fun s hs => decide_eq_true (by have := h0 s (List.mem_of_mem_take hs); omega)) (Br.tt rfl ?_)
  show (zipD (cs.map nD) (cutD (cs.map nD) (some 1) none)).length < sizeLine ∧ lcW _ _ _ _ (zipD (cs.map nD) (cutD (cs.map nD) (some 1) none)) _ _
  rw [cutB, zip_nD]
  refine And.intro (lenI (by rw [List.length_zip]; omega)) (lcW_map (fun q : Nat × Nat => D.tup [nD q.1, nD q.2]) (fun q : Nat × Nat => D.bl (decide ((q.1 : Int) < (q.2 : Int)))) (fun s _ => ⟨_, rfl, fun R' h' => h'⟩) ?_)
  dsimp only [wNil]
  exact allB (fun q : Nat × Nat => decide ((q.1 : Int) < (q.2 : Int))) (cs.zip (cs.drop 1)) (fun q hq => decide_eq_true (by have := asc_zip hc q hq; omega)) (And.intro rfl rfl)
structure InSz (n : Nat) (cs os : List Nat) : Prop where
  n0 : 1 ≤ n
  hn : n < 16777000
  hc : cs.Pairwise (· < ·)
  hd : ∀ s ∈ cs, 0 < s ∧ s ∣ n
  cl : cs.length ≤ 1000
  oc : os.Pairwise (· < ·)
  od : ∀ s ∈ os, 0 < s
  ol : os.length ≤ 1000
/-- an instance by its shortest form -/
abbrev szD (l : Nat) (ds os : List Nat) : D := .obj 0 [nD l, .tup (ds.map nD), .tup (os.map nD), mkD ds, mkD os]
abbrev szL (n : Nat) (cs : List Nat) : List Nat := low (leaQ n cs) cs
theorem marks_c {ds : List Nat} {sl : Sls} {p : Pat} {wk : WpE} {cells : List Cell} {R : List (Key × D) → List Cell → Prop} (hp : ∀ s ∈ ds, ∃ sl', asgP p (nD s) sl = some sl' ∧ ∀ R' : RV, R' (.dat (nD s)) cells → wk sl' cells R' noX) (hc : ds.Pairwise (· < ·)) (h : R ([] ++ ds.map fun x => (kN x, D.bl true)) cells) : dcW p wYes wk (wCon (.bl true)) sl (ds.map nD) [] cells R := by
  refine dcW_filter nD kN (fun _ => .bl true) (fun _ => true) (fun s hs => ?_) (fun _ _ => rfl) (kN_nd hc) ?_
  · obtain ⟨sl', e, h1⟩ := hp s hs
    exact ⟨sl', e, fun R' h' => h', fun _ => ⟨⟨_, rfl, h1⟩, fun R' h' => h'⟩⟩
  · rw [List.filter_eq_self.mpr fun _ _ => rfl]
    exact h
theorem iset_c {n : Nat} {cs os : List Nat} (h : InSz n cs os) : w_Sizes___init___set 1 ⟨[some (.cel 0), some (.dat (nD n)), some (.dat (.tup (cs.map nD))), some (.dat (.tup (os.map nD))), none], [.ins 0 []]⟩
    (endJ 1 (.dat .non) [.ins 0 [("short_period", nD (leaQ n cs)), ("short_classes", .tup ((szL n cs).map nD)), ("short_odd", .tup (os.map nD)), ("class_marks", mkD (szL n cs)), ("odd_marks", mkD os)]]) := by
  have lc : (szL n cs).Pairwise (· < ·) := h.hc.sublist List.filter_sublist
  refine call_ (shortest_c h.n0 h.hn h.hc h.hd h.cl) ?_
  refine And.intro rfl (And.intro rfl (And.intro (show 0 < 1000 by decide) (And.intro rfl (And.intro rfl (And.intro (show 1 < 1000 by decide) ?_)))))
  refine And.intro rfl (And.intro rfl (And.intro (show 2 < 1000 by decide) ?_))
  refine And.intro rfl (And.intro (show ((szL n cs).map nD).length < sizeLine from lenI (Nat.le_trans (List.length_filter_le _ _) h.cl)) ?_)
  refine marks_c (ds := szL n cs) (fun s _ => ⟨_, rfl, fun R' h' => h'⟩) lc ?_
  rw [dct_mk]
  refine And.intro rfl (And.intro rfl (And.intro (show 3 < 1000 by decide) ?_))
  refine And.intro (lenI h.ol) ?_
  refine marks_c (ds := os) (fun s _ => ⟨_, rfl, fun R' h' => h'⟩) h.oc ?_
  rw [dct_mk]
  exact And.intro rfl (And.intro rfl (And.intro (show 4 < 1000 by decide) (And.intro rfl rfl)))
theorem szinit_c {n : Nat} {cs os : List Nat} (h : InSz n cs os) : c_Sizes___init__ [.cel 0, .dat (nD n), .dat (.tup (cs.map nD)), .dat (.tup (os.map nD))] [.ins 0 []] (.dat .non)
    [.ins 0 [("short_period", nD (leaQ n cs)), ("short_classes", .tup ((szL n cs).map nD)), ("short_odd", .tup (os.map nD)), ("class_marks", mkD (szL n cs)), ("odd_marks", mkD os)]] := by
  refine ⟨rfl, call_ (isint_c _) (Br.ff rfl (Br.dec (fun z => ?_) (fun _ => ?_)))⟩
  · have := h.n0
    omega
  refine call_ (aresz_c h.cl h.hc fun s hs => (h.hd s hs).1) (Br.ff rfl ?_)
  refine And.intro (lenI h.cl) (lcW_map nD (fun s : Nat => D.bl (true.xor (decide ((n : Int) % (s : Int) = 0)))) (fun s hs => ⟨_, rfl, fun R' h' => And.intro (show (0 : Int) < (s : Int) by have := (h.hd s hs).1; omega) h'⟩) ?_)
  dsimp only [wNil]
  refine anyB (fun s : Nat => true.xor (decide ((n : Int) % (s : Int) = 0))) cs (fun s hs => ?_) (Br.ff rfl ?_)
  · rw [decide_eq_true (mod0.mpr (Nat.mod_eq_zero_of_dvd (h.hd s hs).2))]
    rfl
  exact call_ (aresz_c h.ol h.oc h.od) (Br.ff rfl (iset_c h))

/-! ### divisors in order, x in a tuple -/
def divs (m : Nat) : List Nat := ((List.range m).map (· + 1)).filter fun d => decide (m % d = 0)
theorem mem_divs {m d : Nat} (h : 0 < m) : d ∈ divs m ↔ 0 < d ∧ d ∣ m := by
  unfold divs
  rw [List.mem_filter, List.mem_map, decide_eq_true_iff]
  constructor
  · rintro ⟨⟨i, _, rfl⟩, hd⟩
    exact ⟨Nat.succ_pos i, Nat.dvd_of_mod_eq_zero hd⟩
  · rintro ⟨h0, hd⟩
    have := Nat.le_of_dvd h hd
    exact ⟨⟨d - 1, List.mem_range.mpr (by omega), by omega⟩, Nat.mod_eq_zero_of_dvd hd⟩
theorem divs_asc (m : Nat) : (divs m).Pairwise (· < ·) := by
  refine List.Pairwise.sublist List.filter_sublist ?_
  rw [List.pairwise_map]
  exact List.pairwise_lt_range.imp fun h => Nat.succ_lt_succ h
theorem fvs_nD (cs : List Nat) : fvs (cs.map nD) = some (cs.map fun n : Nat => V.int (n : Int)) := by
  induction cs with
  | nil => rfl
  | cons c cs ih =>
    show (fv (nD c)).bind (fun v => (fvs (cs.map nD)).map (v :: ·)) = _
    rw [ih]
    rfl
theorem inV_nD (cs : List Nat) (a : Nat) : inV (V.int (a : Int)) (cs.map fun n : Nat => V.int (n : Int)) = decide (a ∈ cs) := by
  induction cs with
  | nil => rfl
  | cons c cs ih =>
    show (eqV (V.int (c : Int)) (V.int (a : Int)) || inV (V.int (a : Int)) (cs.map fun n : Nat => V.int (n : Int))) = _
    rw [ih]
    have e : eqV (V.int (c : Int)) (V.int (a : Int)) = decide ((c : Int) = (a : Int)) := by
      first
        | rfl
        | simp [eqV]
    rw [e]
    by_cases h : a = c
    · subst h; simp
    · rw [decide_eq_false (show ¬ (c : Int) = (a : Int) by omega), Bool.false_or]
      simp [h]
theorem inT_i {neg : Bool} {a : Nat} {cs : List Nat} {cells : List Cell} {R : RV} (h : R (.dat (.bl (neg.xor (decide (a ∈ cs))))) cells) : inW' neg (.dat (nD a)) (.dat (.tup (cs.map nD))) cells R := by
  show (match fv (nD a), fvs (cs.map nD) with
    | some v, some ws => R (.dat (.bl (neg.xor (inV v ws)))) cells
    | _, _ => False)
  rw [fvs_nD]
  show R (.dat (.bl (neg.xor (inV (V.int (a : Int)) (cs.map fun n : Nat => V.int (n : Int)))))) cells
  rw [inV_nD]
  exact h
theorem selIn_i {neg : Bool} {a : Nat} {cs : List Nat} {cells : List Cell} {R : RV} (h : R (.dat (.bl (neg.xor (decide (a ∈ cs))))) cells) : selW PDc (inDW neg) (inW' neg) (.dat (nD a)) (.dat (.tup (cs.map nD))) cells R := inT_i h
theorem two_in {wa wb : WpE} {sl : Sls} {Rx : RX} {neg : Bool} {a : Nat} {cs : List Nat} {cells : List Cell} {R : RV} (ha : ∀ R' : RV, R' (.dat (nD a)) cells → wa sl cells R' Rx) (hb : ∀ R' : RV, R' (.dat (.tup (cs.map nD))) cells → wb sl cells R' Rx)
    (h : R (.dat (.bl (neg.xor (decide (a ∈ cs))))) cells) : wTwo wa wb (selW PDc (inDW neg) (inW' neg)) sl cells R Rx := ha _ (hb _ (selIn_i h))
theorem two_i {wa wb : WpE} {o : W2} {sl : Sls} {Rx : RX} {s1 s2 : Sl} {cells : List Cell} {R : RV} (ha : ∀ R' : RV, R' s1 cells → wa sl cells R' Rx) (hb : ∀ R' : RV, R' s2 cells → wb sl cells R' Rx) (h : o s1 s2 cells R) : wTwo wa wb o sl cells R Rx := ha _ (hb _ h)

/-! ### the law's own sizes -/
theorem lparts_c {m : Nat} (hm : m ≤ 3000000) : c__law_parts_of [.dat (nD m)] [] (.dat (.lst ((divs m).map nD))) [] := by
  refine ⟨rfl, And.intro ⟨⟨by decide, by decide⟩, ⟨by omega, by omega⟩⟩ ?_⟩
  have e : rangeD 1 ((m : Int) + 1 - 1).toNat = ((List.range m).map (· + 1)).map nD := by
    unfold rangeD
    rw [show ((m : Int) + 1 - 1).toNat = m by omega, List.map_map]
    refine List.map_congr_left fun i _ => ?_
    show D.int (1 + (i : Int)) = D.int ((i + 1 : Nat) : Int)
    congr 1
    omega
  show (rangeD 1 ((m : Int) + 1 - 1).toNat).length < sizeLine ∧ lcW _ _ _ _ (rangeD 1 ((m : Int) + 1 - 1).toNat) _ _
  rw [e]
  refine And.intro (by rw [List.length_map, List.length_map, List.length_range]; exact Nat.lt_of_le_of_lt hm (by decide)) ?_
  refine lcW_filter nD nD (fun d => decide (m % d = 0)) (fun d hd => ⟨_, rfl, fun R' h' => And.intro (show (0 : Int) < (d : Int) by obtain ⟨i, _, rfl⟩ := List.mem_map.mp hd; omega) ?_, fun _ R' h' => h'⟩) (And.intro rfl rfl)
  show R' (false.xor (decide ((m : Int) % (d : Int) = 0))) _
  rw [modB]
  exact h'
/-- x in a tuple of sizes -/
abbrev mdD (n : Nat) (cs os : List Nat) : D := .tup [nD n, .tup (cs.map nD), .tup (os.map nD)]

/-! ### ascending -/
theorem lenB {α : Type} {f : α → D} {l : List α} (h : l.length ≤ 100000) : (l.map f).length < sizeLine := by rw [List.length_map]; exact Nat.lt_of_le_of_lt h (by decide)
abbrev acD (acc : List Nat) : List (Key × D) := acc.map fun x => (kN x, D.bl true)
theorem has_ac (acc : List Nat) (n : Nat) : hasK (acD acc) (kN n) = decide (n ∈ acc) := by
  have e : acD acc = (acc.map kN).zip (acc.map fun _ => D.bl true) := by
    induction acc with
    | nil => rfl
    | cons c cs ih =>
      show (kN c, D.bl true) :: acD cs = (kN c, D.bl true) :: _
      rw [ih]
      rfl
  rw [e, hasK_mk]
theorem put_ac (acc : List Nat) (x : Nat) : putD (acD acc) (kN x) (.bl true) = acD (addN acc x) := by
  unfold putD addN
  rw [has_ac]
  by_cases h : x ∈ acc
  · rw [decide_eq_true h, if_pos rfl, if_pos h]
    show (acc.map _).map _ = acc.map _
    rw [List.map_map]
    refine List.map_congr_left fun y _ => ?_
    show (if kN y = kN x then (kN y, D.bl true) else (kN y, D.bl true)) = _
    split <;> rfl
  · rw [decide_eq_false h, if_neg (by decide), if_neg h]
    show acc.map _ ++ _ = (acc ++ [x]).map _
    rw [List.map_append]
    rfl
abbrev stA (d : D) (acc : List Nat) (x2 : Option Sl) : Sta := ⟨[some (.dat d), some (.cel 0), x2], [.dct (acD acc)]⟩
theorem aend_c {d : D} {xs : List Nat} (hl : xs.length ≤ 100000) {x2 : Option Sl} : w_ascending_end 0 ⟨[some (.dat d), some (.dat (mkD (fo xs))), x2], []⟩ (endJ 0 (.dat (.lst ((srt xs).map nD))) []) := by
  show (((fo xs).map kN).map keyOf).length < sizeLine ∧ lcW _ _ _ _ (((fo xs).map kN).map keyOf) _ _
  rw [mkD_items]
  refine And.intro (lenB (Nat.le_trans (fo_len xs) hl)) (lcW_map nD nD (fun s _ => ⟨_, rfl, fun R' h' => h'⟩) ?_)
  have e : (fo xs).map nD = ((fo xs).map fun x : Nat => (x : Int)).map D.int := by rw [List.map_map]; rfl
  dsimp only [wNil]
  rw [e]
  refine intsW_i (ns := (fo xs).map fun x : Nat => (x : Int)) ?_
  rw [srt_int]
  refine And.intro ?_ rfl
  rw [List.map_map]
  rfl
theorem asc_c {xs : List Nat} (hl : xs.length ≤ 100000) {d : D} (hd : d = .lst (xs.map nD) ∨ d = .tup (xs.map nD)) : c_ascending [.dat d] [] (.dat (.lst ((srt xs).map nD))) [] := by
  have key : ∀ {P : PJ}, (∀ x2, P.nx (stA d (fo xs) x2)) → forW (.nm 2) (wConsS (wSetD (wCon (.bl true)) (wName 1) (wName 2)) wNilS) (xs.map nD) (stA d [] none) P := by
    intro P hP
    refine forW_at nD (fun pre post S => pre ++ post = xs ∧ ∃ x2, S = stA d (fo pre) x2) [] xs ?_ ?_ _ ⟨rfl, none, rfl⟩
    · rintro pre x post S ⟨e, x2, rfl⟩ nx' hnx
      refine And.intro ?_ ?_
      · rw [List.length_map]
        have l1 := fo_len pre
        have := congrArg List.length e
        rw [List.length_append] at this
        exact Nat.lt_of_le_of_lt (show (fo pre).length ≤ 100000 by omega) (by decide)
      · show nx' ⟨[some (.dat d), some (.cel 0), some (.dat (nD x))], [.dct (putD (acD (fo pre)) (kN x) (.bl true))]⟩
        rw [put_ac, ← fo_app]
        exact hnx _ ⟨by rw [List.append_assoc]; exact e, _, rfl⟩
    · rintro pre S ⟨e, x2, rfl⟩
      rw [List.append_nil] at e
      subst e
      exact hP x2
  have fin : ∀ x2 : Option Sl, wFrzD 1 0 (w_ascending_end 0) (stA d (fo xs) x2) (endJ 0 (.dat (.lst ((srt xs).map nD))) []) := fun x2 => by
    refine And.intro (Nat.le_refl _) ?_
    show w_ascending_end 0 ⟨[some (.dat d), some (.dat (dctD ([] ++ acD (fo xs)))), frzV 0 (dctD (acD (fo xs))) x2], []⟩ _
    rw [dct_mk]
    exact aend_c hl
  rcases hd with rfl | rfl
  · exact ⟨rfl, key fin⟩
  · exact ⟨rfl, key fin⟩

/-! ### Sizes.of, Sizes.multiples, Sizes.every -/
theorem in_of {xs : List Nat} (hl : xs.length ≤ 1000) (h0 : ∀ x ∈ xs, 0 < x) : InSz 1 [] (srt xs) := ⟨by decide, by decide, .nil, (fun _ z => nomatch z), by decide, srt_asc xs, fun s hs => h0 s ((srt_mem xs).mp hs), Nat.le_trans (srt_len xs) hl⟩
theorem in_mul {d : Nat} (d0 : 0 < d) (hd : d < 16777000) : InSz d [d] [] := ⟨d0, hd, List.pairwise_singleton _ _, fun s hs => by rw [List.mem_singleton] at hs; subst hs; exact ⟨d0, Nat.dvd_refl _⟩, (show 1 ≤ 1000 by decide), .nil, (fun _ z => nomatch z), by decide⟩
theorem init1 {xs : List Nat} (hl : xs.length ≤ 1000) (h0 : ∀ x ∈ xs, 0 < x) : c_Sizes___init__ [.cel 0, .dat (.int 1), .dat (.tup []), .dat (.tup ((srt xs).map nD))] [.ins 0 []] (.dat .non)
    [.ins 0 [("short_period", nD 1), ("short_classes", .tup []), ("short_odd", .tup ((srt xs).map nD)), ("class_marks", .dct [] []), ("odd_marks", mkD (srt xs))]] := by
  have q := szinit_c (in_of hl h0)
  rw [lea1] at q
  exact q
theorem initd {d : Nat} (d0 : 0 < d) (hd : d < 16777000) : c_Sizes___init__ [.cel 0, .dat (nD d), .dat (.tup [nD d]), .dat (.tup [])] [.ins 0 []] (.dat .non)
    [.ins 0 [("short_period", nD d), ("short_classes", .tup [nD d]), ("short_odd", .tup []), ("class_marks", mkD [d]), ("odd_marks", .dct [] [])]] := by
  have q := szinit_c (in_mul d0 hd)
  unfold szL at q
  rw [lea_self d0, low_one] at q
  exact q

/-! ### sets of sizes drawn -/
def szP : Nat → Nat
  | 0 => 1 | 1 => 2 | 2 => 4 | 3 => 6 | 4 => 12 | 5 => 30 | 6 => 36 | 7 => 49 | 8 => 97 | 9 => 64 | 10 => 210 | 11 => 360 | _ => 2520
theorem szP_in (k : Nat) : 0 < szP k ∧ szP k ≤ 2520 := by
  unfold szP
  split <;> decide
theorem divs_len (k : Nat) : (divs (szP k)).length ≤ 100 := by
  have h : ∀ j, j < 13 → (divs (szP j)).length ≤ 100 := by decide +kernel
  by_cases hk : k < 13
  · exact h k hk
  · have e : szP k = szP 12 := by
      match k, hk with
      | 0, hk | 1, hk | 2, hk | 3, hk | 4, hk | 5, hk | 6, hk | 7, hk | 8, hk | 9, hk | 10, hk | 11, hk => omega
      | n + 12, _ => rfl
    rw [e]
    exact h 12 (by decide)
theorem speriod_c {b : B} (hb : Ok b) : c__law_period [.cel 0] [bx b] (.dat (nD (szP (tk b 13).toNat))) [bx (nx b 13)] := by
  have t0 : 0 ≤ tk b 13 := tk_lo (by decide)
  have t1 : tk b 13 < 13 := tk_hi (by decide)
  refine ⟨rfl, And.intro (szk 13) (call_ (take_c (by decide) (by decide) hb) ?_)⟩
  have e : ∀ k : Nat, k < 13 → atI [D.int 1, .int 2, .int 4, .int 6, .int 12, .int 30, .int 36, .int 49, .int 97, .int 64, .int 210, .int 360, .int 2520] (k : Int) = some (nD (szP k)) := fun k hk => by
    match k, hk with
    | 0, _ => rfl | 1, _ => rfl | 2, _ => rfl | 3, _ => rfl | 4, _ => rfl | 5, _ => rfl | 6, _ => rfl | 7, _ => rfl | 8, _ => rfl | 9, _ => rfl | 10, _ => rfl | 11, _ => rfl | 12, _ => rfl
  have ee := e (tk b 13).toNat (by omega)
  rw [show (((tk b 13).toNat : Nat) : Int) = tk b 13 by omega] at ee
  exact atW_i ee (And.intro rfl rfl)
/-! odd sizes -/
def oX (b : B) : Int := if eqB (tk (nx (nx b 4) 160) 6) 0 = true then tk (nx b 4) 160 else tk b 4
def oN (n : Nat) (b : B) : Nat := n + 1 + (oX b).toNat
def oB (b : B) : B := nx (nx (nx b 4) 160) 6
theorem oX_in (b : B) : 0 ≤ oX b ∧ oX b < 160 := by
  have a0 : 0 ≤ tk b 4 := tk_lo (by decide)
  have a1 : tk b 4 < 4 := tk_hi (by decide)
  have b0 : 0 ≤ tk (nx b 4) 160 := tk_lo (by decide)
  have b1 : tk (nx b 4) 160 < 160 := tk_hi (by decide)
  unfold oX
  split <;> omega
theorem Ok.oB {b : B} (h : Ok b) : Ok (oB b) := ((h.nx _).nx _).nx _
def itO (b : B) : Nat → List Nat × Nat × B
  | 0 => ([], 0, b)
  | k + 1 => ((itO b k).1 ++ [oN (itO b k).2.1 (itO b k).2.2], oN (itO b k).2.1 (itO b k).2.2, oB (itO b k).2.2)
theorem itO_ok {b : B} (hb : Ok b) : ∀ k, (itO b k).1.length = k ∧ (itO b k).2.1 ≤ 160 * k ∧ (itO b k).1.Pairwise (· < ·) ∧ (∀ p ∈ (itO b k).1, 0 < p ∧ p ≤ (itO b k).2.1) ∧ Ok (itO b k).2.2
  | 0 => ⟨rfl, Nat.le_refl _, .nil, (fun _ h => nomatch h), hb⟩
  | k + 1 => by
    obtain ⟨a1, a2, a3, a4, a5⟩ := itO_ok hb k
    have i1 := oX_in (itO b k).2.2
    unfold itO
    dsimp only
    generalize itO b k = q at *
    have i2 : q.2.1 < oN q.2.1 q.2.2 ∧ oN q.2.1 q.2.2 ≤ q.2.1 + 160 := by unfold oN; omega
    refine ⟨by rw [List.length_append, a1]; rfl, by omega, ?_, ?_, Ok.oB a5⟩
    · refine List.pairwise_append.mpr ⟨a3, List.pairwise_singleton _ _, fun x hx y hy => ?_⟩
      have e : y = oN q.2.1 q.2.2 := by simpa using hy
      have := (a4 x hx).2
      omega
    · intro p hp
      rcases List.mem_append.mp hp with z | z
      · have := a4 p z
        omega
      · have e : p = oN q.2.1 q.2.2 := by simpa using z
        omega
def oM (b : B) : Int := if eqB (tk (nx b 7) 24) 0 = true then 60 else tk b 7
theorem oM_in (b : B) : 0 ≤ oM b ∧ oM b ≤ 60 := by
  have a0 : 0 ≤ tk b 7 := tk_lo (by decide)
  have a1 : tk b 7 < 7 := tk_hi (by decide)
  unfold oM
  split <;> omega
def odQ (b : B) : List Nat × Nat × B := itO (nx (nx b 7) 24) (oM b).toNat
theorem odQ_ok {b : B} (hb : Ok b) : (odQ b).1.length ≤ 60 ∧ (odQ b).1.Pairwise (· < ·) ∧ (∀ p ∈ (odQ b).1, 0 < p ∧ p ≤ 9600) ∧ Ok (odQ b).2.2 := by
  have m := oM_in b
  obtain ⟨a1, a2, a3, a4, a5⟩ := itO_ok ((hb.nx 7).nx 24) (oM b).toNat
  refine ⟨by unfold odQ; omega, a3, fun p hp => ?_, a5⟩
  have := a4 p hp
  exact ⟨this.1, by unfold odQ at *; omega⟩
abbrev stO (l : List Nat) (n : Nat) (m : Int) (b : B) (x4 : Option Sl) : Sta := ⟨[some (.cel 0), some (.cel 1), some (.dat (nD n)), some (.dat (.int m)), x4], [bx b, .lst (l.map nD)]⟩
theorem oturn_c {l : List Nat} {n : Nat} {m : Int} {b : B} (ok : Ok b) (hl : l.length ≤ 90) {x4 : Option Sl} {P : PJ} (hP : P.nx (stO (l ++ [oN n b]) (oN n b) m (oB b) x4)) : w__law_odds_turn 1 (stO l n m b x4) P := by
  have p1 := ok.nx 4
  have p2 := p1.nx 160
  refine call_ (take_c (by decide) (by decide) ok) (call_ (take_c (by decide) (by decide) p1) (And.intro (szk 2) (call_ (take_c (by decide) (by decide) p2) (atW_i (at2 (c := eqB (tk (nx (nx b 4) 160) 6) 0)) ?_))))
  have e : (n : Int) + 1 + oX b = ((oN n b : Nat) : Int) := by
    have := (oX_in b).1
    unfold oN
    omega
  refine And.intro trivial (And.intro (lenI (by omega)) ?_)
  show P.nx ⟨[some (.cel 0), some (.cel 1), some (.dat (.int ((n : Int) + 1 + oX b))), some (.dat (.int m)), x4], [bx (oB b), .lst (l.map nD ++ [.int ((n : Int) + 1 + oX b)])]⟩
  rw [e, show l.map nD ++ [nD (oN n b)] = (l ++ [oN n b]).map nD by rw [List.map_append]; rfl]
  exact hP
theorem odds_c {b : B} (ok : Ok b) : c__law_odds [.cel 0] [bx b] (.dat (.tup ((odQ b).1.map nD))) [bx (odQ b).2.2] := by
  have m := oM_in b
  have o1 := ok.nx 7
  have o2 := o1.nx 24
  refine ⟨rfl, And.intro (szk 0) (call_ (take_c (by decide) (by decide) ok) (And.intro (szk 2) (call_ (take_c (by decide) (by decide) o1) (atW_i (at2 (c := eqB (tk (nx b 7) 24) 0)) ?_))))⟩
  refine And.intro (show SmI (oM b) from ⟨by omega, by omega⟩) ?_
  refine forW_at (fun i : Nat => D.int (0 + (i : Int))) (fun pre post S => pre ++ post = List.range (oM b).toNat ∧ ∃ x4, S = stO (itO (nx (nx b 7) 24) pre.length).1 (itO (nx (nx b 7) 24) pre.length).2.1 (oM b) (itO (nx (nx b 7) 24) pre.length).2.2 x4) [] (List.range (oM b).toNat) ?_ ?_ _ ⟨rfl, none, rfl⟩
  · rintro pre k post S ⟨he, x4, rfl⟩ nx' hnx
    have pl : pre.length < 60 := by
      have := congrArg List.length he
      rw [List.length_append, List.length_range, List.length_cons] at this
      omega
    obtain ⟨c1, c2, c3, c4, c5⟩ := itO_ok o2 pre.length
    exact oturn_c c5 (by omega) (hnx _ ⟨by rw [List.append_assoc]; exact he, _, by rw [List.length_append]; rfl⟩)
  · rintro pre S ⟨he, x4, rfl⟩
    rw [List.append_nil] at he
    subst he
    rw [List.length_range]
    exact And.intro (Nat.le_refl _) (And.intro rfl rfl)
/-! classes -/
def f2 (_ : Nat) (b : B) : Bool × B := (false.xor (decide (tk b 2 = 0)), nx b 2)
def f0 (n : Nat) (s : Nat) (b : B) : Bool × B := (decide (s % (divs n).getD (tk b ((divs n).map nD).length).toNat 1 = 0), nx b ((divs n).map nD).length)
def mdN (b : B) : Nat := szP (tk b 13).toNat
def mdF (b : B) : Int := tk (nx b 13) 5
def md2 (b : B) : List Nat × B := drw f2 (divs (mdN b)) (nx (nx b 13) 5)
def md0 (b : B) : List Nat × B := if mdF b = 0 then drw (f0 (mdN b)) (divs (mdN b)) (md2 b).2 else md2 b
def mdK (b : B) : List Nat × B := if mdF b = 1 then (if tk (md0 b).2 2 = 0 then [] else divs (mdN b), nx (md0 b).2 2) else md0 b
theorem f0_ok (n s : Nat) (b : B) (h : Ok b) : Ok (f0 n s b).2 := h.nx _
theorem mdK_ok {b : B} (hb : Ok b) : Ok (mdK b).2 ∧ List.Sublist (mdK b).1 (divs (mdN b)) := by
  obtain ⟨a1, a2⟩ := drw_ok (f := f2) (fun x b h => h.nx 2) (divs (mdN b)) ((hb.nx 13).nx 5)
  have h0 : Ok (md0 b).2 ∧ List.Sublist (md0 b).1 (divs (mdN b)) := by
    unfold md0
    split
    · exact drw_ok (f0_ok _) (divs (mdN b)) a1
    · exact ⟨a1, a2⟩
  unfold mdK
  split
  · refine ⟨h0.1.nx 2, ?_⟩
    show List.Sublist (if tk (md0 b).2 2 = 0 then [] else divs (mdN b)) _
    split
    · exact List.nil_sublist _
    · exact List.Sublist.refl _
  · exact h0
def mdO (b : B) : List Nat := (odQ (mdK b).2).1
abbrev stM (n : Nat) (f : Int) (cs : List Nat) (b : B) (x5 : Option Sl) : Sta := ⟨[some (.cel 0), some (.dat (nD n)), some (.dat (.int f)), some (.dat (.lst ((divs n).map nD))), some (.dat (.lst (cs.map nD))), x5], [bx b]⟩
theorem mlast_c {n : Nat} {f : Int} {cs : List Nat} {b : B} (hb : Ok b) {x5 : Option Sl} : w__law_model_last 1 (stM n f cs b x5) (endJ 1 (.dat (mdD n cs (odQ b).1)) [bx (odQ b).2.2]) :=
  call_ (odds_c hb) (And.intro (szk 3) (And.intro rfl rfl))
theorem at2L {x y : List D} {c : Int} (h0 : 0 ≤ c) (h1 : c < 2) : atI [D.lst x, .lst y] c = some (.lst (if c = 0 then x else y)) := by
  have : c = 0 ∨ c = 1 := by omega
  rcases this with rfl | rfl <;> rfl
theorem mone_c {b : B} (hb : Ok b) {x5 : Option Sl} : w__law_model_one 1 (stM (mdN b) (mdF b) (md0 b).1 (md0 b).2 x5) (endJ 1 (.dat (mdD (mdN b) (mdK b).1 (mdO b))) [bx (odQ (mdK b).2).2.2]) := by
  have ok := mdK_ok hb
  have a1 := (drw_ok (f := f2) (fun x b h => h.nx 2) (divs (mdN b)) ((hb.nx 13).nx 5)).1
  have h0 : Ok (md0 b).2 := by
    unfold md0
    split
    · exact (drw_ok (f0_ok _) (divs (mdN b)) a1).1
    · exact a1
  refine Br.xf (fun z => ?_) (fun z => ?_)
  · have z : mdF b = 1 := z
    have e : mdK b = (if tk (md0 b).2 2 = 0 then [] else divs (mdN b), nx (md0 b).2 2) := by unfold mdK; rw [if_pos z]
    refine And.intro (szk 0) (And.intro (szk 2) (call_ (take_c (by decide) (by decide) h0) (atW_i (at2L (tk_lo (by decide)) (tk_hi (by decide))) ?_)))
    have el : (if tk (md0 b).2 2 = 0 then ([] : List D) else (divs (mdN b)).map nD) = (mdK b).1.map nD := by
      rw [e]
      show _ = List.map nD (if tk (md0 b).2 2 = 0 then [] else divs (mdN b))
      split <;> rfl
    have eb : nx (md0 b).2 2 = (mdK b).2 := by rw [e]
    show w__law_model_last 1 ⟨[some (.cel 0), some (.dat (nD (mdN b))), some (.dat (.int (mdF b))), some (.dat (.lst ((divs (mdN b)).map nD))), some (.dat (.lst (if tk (md0 b).2 2 = 0 then ([] : List D) else (divs (mdN b)).map nD))), x5], [bx (nx (md0 b).2 2)]⟩ _
    rw [el, eb]
    exact mlast_c ok.1
  · have z : ¬ mdF b = 1 := z
    have e : mdK b = md0 b := by unfold mdK; rw [if_neg z]
    unfold mdO
    rw [e]
    exact mlast_c h0
theorem mzero_c {b : B} (hb : Ok b) {x5 : Option Sl} : w__law_model_zero 1 (stM (mdN b) (mdF b) (md2 b).1 (md2 b).2 x5) (endJ 1 (.dat (mdD (mdN b) (mdK b).1 (mdO b))) [bx (odQ (mdK b).2).2.2]) := by
  have a1 : Ok (md2 b).2 := (drw_ok (f := f2) (fun x b h => h.nx 2) (divs (mdN b)) ((hb.nx 13).nx 5)).1
  obtain ⟨n0, n1⟩ := szP_in (tk b 13).toNat
  have n0 : 0 < mdN b := n0
  have dl : (divs (mdN b)).length ≤ 100 := divs_len _
  refine Br.xf (fun z => ?_) (fun z => ?_)
  · have z : mdF b = 0 := z
    have e : md0 b = drw (f0 (mdN b)) (divs (mdN b)) (md2 b).2 := by unfold md0; rw [if_pos z]
    refine And.intro (lenI (by omega)) (lcW_drw (f := f0 (mdN b)) (f0_ok _) a1 (fun s hs b' ok' => ⟨_, rfl, fun R' h' => ?_, fun b2 R' h' => h'⟩) ?_)
    · have d1 : 1 ∈ divs (mdN b) := (mem_divs n0).mpr ⟨Nat.one_pos, Nat.one_dvd _⟩
      have lp : 0 < (divs (mdN b)).length := List.length_pos_of_mem d1
      have lm : (((divs (mdN b)).map nD).length : Int) = ((divs (mdN b)).length : Int) := by rw [List.length_map]
      have m0 : (0 : Int) < (((divs (mdN b)).map nD).length : Int) := by rw [lm]; omega
      have m1 : (((divs (mdN b)).map nD).length : Int) < 2 ^ 200 := by rw [lm]; omega
      have t0 : 0 ≤ tk b' (((divs (mdN b)).map nD).length : Int) := tk_lo m0
      have t1 : tk b' (((divs (mdN b)).map nD).length : Int) < (((divs (mdN b)).map nD).length : Int) := tk_hi m0
      refine call_ (take_c m0 m1 ok') ?_
      have hi : (tk b' (((divs (mdN b)).map nD).length : Int)).toNat < (divs (mdN b)).length := by rw [lm] at t0 t1 ⊢; omega
      have ea : atI ((divs (mdN b)).map nD) (tk b' (((divs (mdN b)).map nD).length : Int)) = some (nD ((divs (mdN b)).getD (tk b' (((divs (mdN b)).map nD).length : Int)).toNat 1)) := by
        have := atI_nat (xs := (divs (mdN b)).map nD) (j := (tk b' (((divs (mdN b)).map nD).length : Int)).toNat) (v := nD ((divs (mdN b)).getD (tk b' (((divs (mdN b)).map nD).length : Int)).toNat 1)) (by
          rw [List.getElem?_map, List.getD_eq_getElem?_getD, List.getElem?_eq_getElem hi]
          rfl)
        rw [show (((tk b' (((divs (mdN b)).map nD).length : Int)).toNat : Nat) : Int) = tk b' (((divs (mdN b)).map nD).length : Int) by omega] at this
        exact this
      have gp : 0 < (divs (mdN b)).getD (tk b' (((divs (mdN b)).map nD).length : Int)).toNat 1 := by
        rw [List.getD_eq_getElem?_getD, List.getElem?_eq_getElem hi]
        exact ((mem_divs n0).mp (List.getElem_mem hi)).1
      refine atW_i ea (And.intro (show (0 : Int) < (((divs (mdN b)).getD (tk b' (((divs (mdN b)).map nD).length : Int)).toNat 1 : Nat) : Int) by omega) ?_)
      show R' (false.xor (decide ((s : Int) % (((divs (mdN b)).getD (tk b' (((divs (mdN b)).map nD).length : Int)).toNat 1 : Nat) : Int) = 0))) _
      rw [modB]
      exact h'
    · rw [← e]
      exact mone_c hb
  · have z : ¬ mdF b = 0 := z
    have e : md0 b = md2 b := by unfold md0; rw [if_neg z]
    rw [← e]
    exact mone_c hb
theorem model_c {b : B} (hb : Ok b) : c__law_model [.cel 0] [bx b] (.dat (mdD (mdN b) (mdK b).1 (mdO b))) [bx (odQ (mdK b).2).2.2] := by
  obtain ⟨n0, n1⟩ := szP_in (tk b 13).toNat
  have dl : (divs (mdN b)).length ≤ 100 := divs_len _
  refine ⟨rfl, call_ (speriod_c hb) (call_ (take_c (by decide) (by decide) (hb.nx 13)) (call_ (lparts_c (by omega)) ?_))⟩
  refine And.intro (show ((divs (mdN b)).map nD).length < sizeLine from lenI (by omega)) (lcW_drw (f := f2) (fun x b h => h.nx 2) ((hb.nx 13).nx 5) (fun s hs b' ok' => ⟨_, rfl, fun R' h' => call_ (take_c (by decide) (by decide) ok') h', fun b2 R' h' => h'⟩) ?_)
  exact mzero_c hb

/-! ### things of any kind -/
theorem okN_i (i : Int) : okN 0 (.int i) := ⟨rfl, rfl, Nat.le_refl _⟩
inductive Gd (n : Nat) : D → Prop
  | non : Gd n .non
  | bl (b : Bool) : Gd n (.bl b)
  | int {i : Int} : i.natAbs ≤ 1000000 → Gd n (.int i)
  | str (s : Str) : Gd n (.str s)
  | tup {ds : List D} : ds.length ≤ n → (∀ d ∈ ds, Gd n d) → Gd n (.tup ds)
  | lst {ds : List D} : ds.length ≤ n → (∀ d ∈ ds, Gd n d) → Gd n (.lst ds)
theorem Gd.mono {n m : Nat} (hm : n ≤ m) {d : D} (h : Gd n d) : Gd m d := by
  induction h with
  | non => exact .non
  | bl b => exact .bl b
  | int h => exact .int h
  | str s => exact .str s
  | tup h _ ih => exact .tup (Nat.le_trans h hm) ih
  | lst h _ ih => exact .lst (Nat.le_trans h hm) ih
def whB : D → Bool
  | .int _ => true
  | _ => false
theorem isint_g {d : D} (h : Gd 1000 d) : c_is_integer [.dat d] [] (.dat (.bl (whB d))) [] := by
  cases h with
  | non => exact ⟨rfl, Br.mk (fun h => nomatch h) (fun _ => And.intro rfl rfl)⟩
  | bl b => exact ⟨rfl, Br.mk (fun _ => And.intro rfl rfl) (fun h => nomatch h)⟩
  | int _ => exact ⟨rfl, Br.mk (fun _ => And.intro rfl rfl) (fun h => nomatch h)⟩
  | str s => exact ⟨rfl, Br.mk (fun h => nomatch h) (fun _ => And.intro rfl rfl)⟩
  | tup _ _ => exact ⟨rfl, Br.mk (fun h => nomatch h) (fun _ => And.intro rfl rfl)⟩
  | lst _ _ => exact ⟨rfl, Br.mk (fun h => nomatch h) (fun _ => And.intro rfl rfl)⟩
theorem whole_g {d : D} (h : Gd 1000 d) : c__law_is_whole [.dat d] [] (.dat (.bl (whB d))) [] := by
  cases h with
  | non => exact ⟨rfl, Br.mk (fun h => nomatch h) (fun _ => And.intro rfl rfl)⟩
  | bl b => exact ⟨rfl, Br.mk (fun _ => And.intro rfl rfl) (fun h => nomatch h)⟩
  | int _ => exact ⟨rfl, Br.mk (fun _ => And.intro rfl rfl) (fun h => nomatch h)⟩
  | str s => exact ⟨rfl, Br.mk (fun h => nomatch h) (fun _ => And.intro rfl rfl)⟩
  | tup _ _ => exact ⟨rfl, Br.mk (fun h => nomatch h) (fun _ => And.intro rfl rfl)⟩
  | lst _ _ => exact ⟨rfl, Br.mk (fun h => nomatch h) (fun _ => And.intro rfl rfl)⟩
theorem wh_of {d : D} (h : whB d = true) : ∃ i, d = .int i := by
  unfold whB at h
  split at h
  · exact ⟨_, rfl⟩
  · cases h
theorem lcW_go {h : D → D} {p : Pat} {we : WpE} {sl : Sls} {ds : List D} {cs : List Cell} {R : List D → List Cell → Prop} (hx : ∀ x ∈ ds, ∃ sl', asgP p x sl = some sl' ∧ ∀ R' : RV, R' (.dat (h x)) cs → we sl' cs R' noX) (hR : R (ds.map h) cs) : lcW p wYes we sl ds cs R := by
  have := lcW_map (xs := ds) (fun x : D => x) h hx hR
  rwa [List.map_id'] at this
theorem allF {α : Type} (f : α → Bool) (l : List α) {R : RV} {cs : List Cell} (h : R (.dat (.bl (l.all f))) cs) : allW [.dat (.lst (l.map fun x => D.bl (f x)))] cs R := by
  have e : (l.map fun x => D.bl (f x)) = (l.map f).map D.bl := by rw [List.map_map]; rfl
  have e2 : (l.map f).all id = l.all f := by rw [List.all_map]; rfl
  rw [e]
  refine blsW_i (ns := l.map f) ?_
  rw [e2]
  exact h
theorem len60 {ds : List D} (h : ds.length ≤ 1000) : ds.length < sizeLine := Nat.lt_of_le_of_lt h (by decide)
theorem lcW_fgo {f : D → D} {c : D → Bool} {p : Pat} {wt : WpT} {we : WpE} {sl : Sls} {ds : List D} {cs : List Cell} {R : List D → List Cell → Prop} (hx : ∀ x ∈ ds, ∃ sl', asgP p x sl = some sl' ∧ (∀ R' : RB, R' (c x) cs → wt sl' cs R' noX) ∧ (c x = true → ∀ R' : RV, R' (.dat (f x)) cs → we sl' cs R' noX)) (hR : R ((ds.filter c).map f) cs) : lcW p wt we sl ds cs R := by
  have := lcW_filter (xs := ds) (fun x : D => x) f c hx hR
  rwa [List.map_id'] at this
theorem eqD_l0 (l : List D) : eqD (.lst (l.map fun _ => D.int 1)) (.lst []) = l.isEmpty := by
  cases l with
  | nil => decide
  | cons x l =>
    show PyData.eqv (.list (D.py (.int 1) :: D.pys (l.map fun _ => D.int 1))) (.list []) = false
    simp [PyData.eqv, PyData.eqvAll]
theorem ok_ones (l : List D) : okD (.lst (l.map fun _ => D.int 1)) = true := ok_lst (k := 0) (fun d hd => by obtain ⟨_, _, rfl⟩ := List.mem_map.mp hd; exact okN_i 1) (by decide)
theorem filt_all (f : D → Bool) (l : List D) : (l.filter fun x => !f x).isEmpty = l.all f := by
  induction l with
  | nil => rfl
  | cons x l ih =>
    rw [List.filter_cons, List.all_cons]
    cases f x with
    | true => exact ih
    | false => rfl
theorem of_ints : ∀ {xs : List D}, (∀ x ∈ xs, Gd 1000 x) → xs.all whB = true → ∃ cs : List Int, xs = cs.map D.int ∧ ∀ c ∈ cs, c.natAbs ≤ 1000000
  | [], _, _ => ⟨[], rfl, fun _ h => nomatch h⟩
  | x :: xs, hg, h => by
    rw [List.all_cons, Bool.and_eq_true] at h
    obtain ⟨i, rfl⟩ := wh_of h.1
    obtain ⟨cs, rfl, hc⟩ := of_ints (fun y hy => hg y (List.mem_cons_of_mem _ hy)) h.2
    refine ⟨i :: cs, rfl, fun c hm => ?_⟩
    rcases List.mem_cons.mp hm with rfl | hm
    · cases hg _ List.mem_cons_self with
      | int h => exact h
    · exact hc c hm
def gdF (n : Nat) : Nat → D → Bool
  | _, .non => true
  | _, .bl _ => true
  | _, .int i => decide (i.natAbs ≤ 1000000)
  | _, .str _ => true
  | f + 1, .tup ds => decide (ds.length ≤ n) && ds.all (gdF n f)
  | f + 1, .lst ds => decide (ds.length ≤ n) && ds.all (gdF n f)
  | _, _ => false
theorem gdF_gd {n : Nat} : ∀ (f : Nat) {d : D}, gdF n f d = true → Gd n d := by
  intro f
  induction f with
  | zero =>
    intro d h
    unfold gdF at h
    split at h
    · exact .non
    · exact .bl _
    · exact .int (of_decide_eq_true h)
    · exact .str _
    · rename_i e; cases e
    · rename_i e; cases e
    · cases h
  | succ f ih =>
    intro d h
    unfold gdF at h
    split at h
    · exact .non
    · exact .bl _
    · exact .int (of_decide_eq_true h)
    · exact .str _
    · rename_i e
      cases e
      rw [Bool.and_eq_true] at h
      exact .tup (of_decide_eq_true h.1) fun d hd => ih (List.all_eq_true.mp h.2 d hd)
    · rename_i e
      cases e
      rw [Bool.and_eq_true] at h
      exact .lst (of_decide_eq_true h.1) fun d hd => ih (List.all_eq_true.mp h.2 d hd)
    · cases h
theorem gcut {N : Nat} {ds : List D} {l u : Option Int} (h : ∀ x ∈ ds, Gd N x) : ∀ x ∈ cutD ds l u, Gd N x := fun x hx => h x (List.mem_of_mem_drop (List.mem_of_mem_take hx))
theorem cut_len {ds : List D} {l u : Option Int} : (cutD ds l u).length ≤ ds.length := by
  unfold cutD
  rw [List.length_take, List.length_drop]
  omega
theorem gapp {N : Nat} {a b : List D} (h1 : ∀ x ∈ a, Gd N x) (h2 : ∀ x ∈ b, Gd N x) : ∀ x ∈ a ++ b, Gd N x := fun x hx => (List.mem_append.mp hx).elim (h1 x) (h2 x)
theorem gone {N : Nat} {d : D} (h : Gd N d) : ∀ x ∈ [d], Gd N x := fun x hx => by rw [List.mem_singleton.mp hx]; exact h
theorem szadd {a b : Nat} (ha : a ≤ 2001) (hb : b ≤ 2001) : a + b ≤ sizeLine := Nat.le_trans (Nat.add_le_add ha hb) (by decide)

/-! ### sizes that ascend, of any data -/
def azB : Int → List D → Bool
  | _, [] => true
  | a, .int i :: ds => if i ≤ a then false else azB i ds
  | _, _ :: _ => false
def szB : D → Bool
  | .tup ds => azB 0 ds
  | _ => false
theorem az_no {a : Int} {x : D} {ds : List D} (h : whB x = false) : azB a (x :: ds) = false := by
  unfold azB
  split
  · rename_i e; cases e
  · rename_i e; cases e; cases h
  · rfl
theorem az_int {a i : Int} {ds : List D} : azB a (.int i :: ds) = if i ≤ a then false else azB i ds := by rw [azB]
theorem az_wh : ∀ {ds : List D} {a : Int}, azB a ds = true → ds.all whB = true
  | [], _, _ => rfl
  | d :: ds, a, h => by
    cases q : whB d with
    | false => rw [az_no q] at h; cases h
    | true =>
      obtain ⟨i, rfl⟩ := wh_of q
      rw [az_int] at h
      split at h
      · cases h
      · rw [List.all_cons, az_wh h, q]
        rfl
theorem az_nat : ∀ {ds : List D} {a : Nat}, azB (a : Int) ds = true → ∃ cs : List Nat, ds = cs.map nD ∧ cs.Pairwise (· < ·) ∧ ∀ c ∈ cs, a < c
  | [], _, _ => ⟨[], rfl, .nil, fun _ z => nomatch z⟩
  | d :: ds, a, h => by
    cases q : whB d with
    | false => rw [az_no q] at h; cases h
    | true =>
      obtain ⟨i, rfl⟩ := wh_of q
      rw [az_int] at h
      split at h
      · cases h
      · rename_i hi
        obtain ⟨n, rfl⟩ : ∃ n : Nat, i = (n : Int) := ⟨i.toNat, by omega⟩
        obtain ⟨cs, rfl, h1, h2⟩ := az_nat h
        refine ⟨n :: cs, rfl, List.pairwise_cons.mpr ⟨h2, h1⟩, fun c hc => ?_⟩
        rcases List.mem_cons.mp hc with rfl | hc
        · omega
        · have := h2 c hc
          omega
theorem az_zip : ∀ (cs : List Int) (a : Int), azB a (cs.map D.int) = ((cs.take 1).all (fun c => decide (a < c)) && (cs.zip (cs.drop 1)).all fun q => decide (q.1 < q.2))
  | [], _ => rfl
  | [c], a => by
    show azB a (.int c :: []) = (decide (a < c) && true && true)
    rw [az_int]
    by_cases z : c ≤ a
    · rw [if_pos z, decide_eq_false (by omega)]; rfl
    · rw [if_neg z, decide_eq_true (by omega)]; rfl
  | c :: c' :: cs, a => by
    show azB a (.int c :: (c' :: cs).map D.int) = (decide (a < c) && true && (decide (c < c') && ((c' :: cs).zip ((c' :: cs).drop 1)).all fun q => decide (q.1 < q.2)))
    rw [az_int, az_zip (c' :: cs) c]
    by_cases z : c ≤ a
    · rw [if_pos z, decide_eq_false (by omega)]; rfl
    · rw [if_neg z, decide_eq_true (p := a < c) (by omega)]
      show (decide (c < c') && true && _) = (true && true && (decide (c < c') && _))
      rw [Bool.and_true, Bool.and_self, Bool.true_and]
theorem cutI (cs : List Int) : cutD (cs.map D.int) none (some 1) = (cs.take 1).map D.int := by
  rw [show (some (1 : Int)) = some ((1 : Nat) : Int) from rfl, cut_take, List.map_take]
theorem cutJ (cs : List Int) : cutD (cs.map D.int) (some 1) none = (cs.drop 1).map D.int := by
  rw [show (some (1 : Int)) = some ((1 : Nat) : Int) from rfl, cut_drop, List.map_drop]
theorem zip_i (as bs : List Int) : zipD (as.map D.int) (bs.map D.int) = (as.zip bs).map fun q => D.tup [.int q.1, .int q.2] := by
  unfold zipD
  rw [List.zip_map, List.map_map]
  rfl
theorem sizes_g {d : D} (h : Gd 1000 d) : c_are_sizes [.dat d] [] (.dat (.bl (szB d))) [] := by
  cases h with
  | non => exact ⟨rfl, Br.tt rfl (Br.tt rfl (And.intro rfl rfl))⟩
  | bl b => exact ⟨rfl, Br.tt rfl (Br.tt rfl (And.intro rfl rfl))⟩
  | int _ => exact ⟨rfl, Br.tt rfl (Br.tt rfl (And.intro rfl rfl))⟩
  | str s => exact ⟨rfl, Br.tt rfl (Br.tt rfl (And.intro rfl rfl))⟩
  | lst _ _ => exact ⟨rfl, Br.tt rfl (Br.tt rfl (And.intro rfl rfl))⟩
  | @tup ds hl hg =>
    refine ⟨rfl, Br.ff rfl (And.intro (len60 hl) (lcW_go (h := fun x => D.bl (whB x)) (fun x hx => ⟨_, rfl, fun R' h' => call_ (isint_g (hg x hx)) h'⟩) ?_))⟩
    dsimp only [wNil]
    refine allF whB ds ?_
    cases q : ds.all whB with
    | false =>
      refine Br.tt rfl (And.intro ?_ rfl)
      show Sl.dat (.bl false) = .dat (.bl (azB 0 ds))
      cases q2 : azB 0 ds with
      | false => rfl
      | true => rw [az_wh q2] at q; cases q
    | true =>
      obtain ⟨cs, rfl, hc⟩ := of_ints hg q
      rw [List.length_map] at hl
      refine Br.ff rfl ?_
      show (cutD (cs.map D.int) none (some 1)).length < sizeLine ∧ lcW _ _ _ _ (cutD (cs.map D.int) none (some 1)) _ _
      rw [cutI]
      refine And.intro (lenI (Nat.le_trans (List.length_take_le _ _) (by omega))) (lcW_map D.int (fun s : Int => D.bl (decide (0 < s))) (fun s _ => ⟨_, rfl, fun R' h' => h'⟩) ?_)
      dsimp only [wNil]
      refine allF (fun s : Int => decide (0 < s)) (cs.take 1) ?_
      have e : szB (.tup (cs.map D.int)) = ((cs.take 1).all (fun c => decide (0 < c)) && (cs.zip (cs.drop 1)).all fun q => decide (q.1 < q.2)) := az_zip cs 0
      rw [e]
      cases (cs.take 1).all fun s : Int => decide (0 < s) with
      | false => exact Br.ff rfl (And.intro rfl rfl)
      | true =>
        refine Br.tt rfl ?_
        show (zipD (cs.map D.int) (cutD (cs.map D.int) (some 1) none)).length < sizeLine ∧ lcW _ _ _ _ (zipD (cs.map D.int) (cutD (cs.map D.int) (some 1) none)) _ _
        rw [cutJ, zip_i]
        refine And.intro (lenI (by rw [List.length_zip]; omega)) (lcW_map (fun q : Int × Int => D.tup [.int q.1, .int q.2]) (fun q : Int × Int => D.bl (decide (q.1 < q.2))) (fun s _ => ⟨_, rfl, fun R' h' => h'⟩) ?_)
        dsimp only [wNil]
        exact allF (fun q : Int × Int => decide (q.1 < q.2)) (cs.zip (cs.drop 1)) (And.intro (by rw [Bool.true_and]) rfl)
/-! the law's own tests -/
theorem laz_go {d : D} : ∀ (ds : List D) (a : Int) (y2 : Option Sl) (P : PJ), (∀ x ∈ ds, Gd 1000 x) → (azB a ds = true → ∀ a' y2, P.nx ⟨[some (.dat d), some (.dat (.int a')), y2], []⟩) → (azB a ds = false → P.rt (.dat (.bl false)) []) →
    forW (.nm 2) (w__law_ascends_one 0) ds ⟨[some (.dat d), some (.dat (.int a)), y2], []⟩ P
  | [], a, y2, P, _, ht, _ => ht rfl _ _
  | x :: ds, a, y2, P, hg, ht, hf => by
    have gx := hg _ List.mem_cons_self
    cases q : whB x with
    | false => exact call_ (whole_g gx) (Br.tt (by rw [q]; rfl) (Br.tt rfl (hf (az_no q))))
    | true =>
      obtain ⟨i, rfl⟩ := wh_of q
      refine call_ (whole_g gx) (Br.ff rfl (Br.dec (fun z => ?_) (fun z => ?_)))
      · exact hf (by rw [az_int, if_pos z])
      · rw [az_int, if_neg z] at ht hf
        exact laz_go ds i _ P (fun y hy => hg y (List.mem_cons_of_mem _ hy)) ht hf
theorem lsizes_g {d : D} (h : Gd 1000 d) : c__law_ascends [.dat d] [] (.dat (.bl (szB d))) [] := by
  cases h with
  | non => exact ⟨rfl, Br.tt rfl (And.intro rfl rfl)⟩
  | bl b => exact ⟨rfl, Br.tt rfl (And.intro rfl rfl)⟩
  | int _ => exact ⟨rfl, Br.tt rfl (And.intro rfl rfl)⟩
  | str s => exact ⟨rfl, Br.tt rfl (And.intro rfl rfl)⟩
  | lst _ _ => exact ⟨rfl, Br.tt rfl (And.intro rfl rfl)⟩
  | @tup ds hl hg =>
    refine ⟨rfl, Br.ff rfl (laz_go ds 0 none _ hg (fun z a' y2 => ?_) (fun z => ?_))⟩
    · exact And.intro (by show _ = Sl.dat (.bl (azB 0 ds)); rw [z]) rfl
    · exact And.intro (by show _ = Sl.dat (.bl (azB 0 ds)); rw [z]) rfl
def pdB : D → Bool
  | .int i => decide (1 ≤ i)
  | _ => false
def dvB (p : Int) (cs : List Nat) : Bool := cs.all fun s => decide (p % (s : Int) = 0)
def dvI (p : Int) : D → Bool
  | .int s => decide (p % s = 0)
  | _ => true
def dvD : D → D → Bool
  | .int p, .tup ds => ds.all (dvI p)
  | _, _ => true
theorem dv_nD (p : Int) (cs : List Nat) : dvD (.int p) (.tup (cs.map nD)) = dvB p cs := by
  show (cs.map nD).all (dvI p) = dvB p cs
  unfold dvB
  rw [List.all_map]
  rfl
def dueQ (c k o : D) : D := if pdB c = true then (if (szB k && dvD c k) = true then (if szB o = true then .non else .str "odd") else .str "classes") else .str "period"
theorem anyF {α : Type} (f : α → Bool) (l : List α) {R : RV} {cs : List Cell} (h : R (.dat (.bl (l.any f))) cs) : anyW [.dat (.lst (l.map fun x => D.bl (f x)))] cs R := by
  have e : (l.map fun x => D.bl (f x)) = (l.map f).map D.bl := by rw [List.map_map]; rfl
  have e2 : (l.map f).any id = l.any f := by rw [List.any_map]; rfl
  rw [e]
  refine blsW_i (ns := l.map f) ?_
  rw [e2]
  exact h
theorem lthree_c {M c k o : D} (g : Gd 1000 o) (h1 : pdB c = true) (h2 : (szB k && dvD c k) = true) {x4 : Option Sl} : w__law_due_three 0 ⟨[some (.dat M), some (.dat c), some (.dat k), some (.dat o), x4], []⟩ (endJ 0 (.dat (dueQ c k o)) []) := by
  refine call_ (lsizes_g g) ?_
  unfold dueQ
  rw [if_pos h1, if_pos h2]
  cases q : szB o with
  | false => exact Br.ff rfl (And.intro rfl rfl)
  | true => exact Br.tt rfl (And.intro rfl rfl)
theorem nt_dec (p s : Int) : true.xor (decide (p % s = 0)) = !decide (p % s = 0) := by cases decide (p % s = 0) <;> rfl
theorem ldue_g {c k o : D} (g1 : Gd 1000 c) (g2 : Gd 1000 k) (g3 : Gd 1000 o) : c__law_due [.dat (.tup [c, k, o])] [] (.dat (dueQ c k o)) [] := by
  refine ⟨rfl, call_ (whole_g g1) ?_⟩
  have no : pdB c = false → Sl.dat (.str "period") = .dat (dueQ c k o) := fun z => by unfold dueQ; rw [if_neg (by rw [z]; decide)]
  cases g1 with
  | non => exact Br.tt rfl (Br.tt rfl (And.intro (no rfl) rfl))
  | bl b => exact Br.tt rfl (Br.tt rfl (And.intro (no rfl) rfl))
  | str s => exact Br.tt rfl (Br.tt rfl (And.intro (no rfl) rfl))
  | lst _ _ => exact Br.tt rfl (Br.tt rfl (And.intro (no rfl) rfl))
  | tup _ _ => exact Br.tt rfl (Br.tt rfl (And.intro (no rfl) rfl))
  | @int p hp =>
    refine Br.ff rfl (Br.dec (fun z => ?_) (fun z => ?_))
    · exact And.intro (no (decide_eq_false (by omega))) rfl
    · have h1 : pdB (.int p) = true := decide_eq_true (by omega)
      refine call_ (lsizes_g g2) ?_
      have no2 : (szB k && dvD (.int p) k) = false → Sl.dat (.str "classes") = .dat (dueQ (.int p) k o) := fun z => by unfold dueQ; rw [if_pos h1, if_neg (by rw [z]; decide)]
      cases q : szB k with
      | false => exact Br.tt rfl (Br.tt rfl (And.intro (no2 (by rw [q]; rfl)) rfl))
      | true =>
        obtain ⟨cs, rfl, h3, h4⟩ : ∃ cs : List Nat, k = .tup (cs.map nD) ∧ cs.Pairwise (· < ·) ∧ ∀ c ∈ cs, 0 < c := by
          cases g2 with
          | non => cases q
          | bl b => cases q
          | int _ => cases q
          | str s => cases q
          | lst _ _ => cases q
          | @tup ds hl hg =>
            obtain ⟨cs, rfl, a, b⟩ := az_nat (a := 0) q
            exact ⟨cs, rfl, a, b⟩
        have kl : cs.length ≤ 1000 := by
          cases g2 with
          | tup hl _ => rw [List.length_map] at hl; exact hl
        refine Br.ff rfl (And.intro (lenI kl) (lcW_filter nD (fun _ => .int 1) (fun s : Nat => !decide (p % (s : Int) = 0)) (fun s hs => ⟨_, rfl, fun R' h' => And.intro (show (0 : Int) < (s : Int) by have := h4 s hs; omega) ?_, fun _ R' h' => h'⟩) ?_))
        · rw [← nt_dec] at h'
          exact h'
        · have e1 : (((cs.filter fun s : Nat => !decide (p % (s : Int) = 0)).map fun _ => D.int 1)) = ((cs.map nD).filter fun d => !dvI p d).map fun _ => D.int 1 := by
            rw [List.filter_map, List.map_map]
            rfl
          refine And.intro (szk 0) (And.intro ?_ (And.intro rfl ?_))
          · rw [e1]
            exact ok_ones _
          · show Br (true.xor (eqD (.lst ((cs.filter fun s : Nat => !decide (p % (s : Int) = 0)).map fun _ => D.int 1)) (.lst []))) _ _
            rw [e1, eqD_l0, filt_all]
            show Br (true.xor (dvD (.int p) (.tup (cs.map nD)))) _ _
            cases w : dvD (.int p) (.tup (cs.map nD)) with
            | false => exact Br.tt rfl (And.intro (no2 (by rw [w, Bool.and_false])) rfl)
            | true => exact Br.ff rfl (lthree_c g3 h1 (by rw [q, w]; rfl))
/-! ### the set itself -/
theorem good_of {c k o : D} (g1 : Gd 1000 c) (g2 : Gd 1000 k) (g3 : Gd 1000 o) (h1 : pdB c = true) (h2 : szB k = true) (h3 : dvD c k = true) (h4 : szB o = true) : ∃ n cs os, c = nD n ∧ k = .tup (cs.map nD) ∧ o = .tup (os.map nD) ∧ InSz n cs os := by
  have tp : ∀ {d : D}, Gd 1000 d → szB d = true → ∃ cs : List Nat, d = .tup (cs.map nD) ∧ cs.Pairwise (· < ·) ∧ (∀ c ∈ cs, 0 < c) ∧ cs.length ≤ 1000 := fun {d} g h => by
    cases g with
    | non => cases h
    | bl b => cases h
    | int _ => cases h
    | str s => cases h
    | lst _ _ => cases h
    | @tup ds hl hg =>
      obtain ⟨cs, rfl, a, b⟩ := az_nat (a := 0) h
      rw [List.length_map] at hl
      exact ⟨cs, rfl, a, b, hl⟩
  obtain ⟨cs, rfl, a1, a2, a3⟩ := tp g2 h2
  obtain ⟨os, rfl, b1, b2, b3⟩ := tp g3 h4
  cases g1 with
  | non => cases h1
  | bl b => cases h1
  | str s => cases h1
  | tup _ _ => cases h1
  | lst _ _ => cases h1
  | @int p hp =>
    have h1 := of_decide_eq_true (p := 1 ≤ p) h1
    obtain ⟨n, rfl⟩ : ∃ n : Nat, p = (n : Int) := ⟨p.toNat, by omega⟩
    rw [dv_nD] at h3
    refine ⟨n, cs, os, rfl, rfl, rfl, by omega, by omega, a1, fun s hs => ⟨a2 s hs, ?_⟩, a3, b1, b2, b3⟩
    have := of_decide_eq_true (List.all_eq_true.mp h3 s hs)
    exact Nat.dvd_of_mod_eq_zero (mod0.mp this)
theorem init_x1 {c k o : D} (g1 : Gd 1000 c) (h : pdB c = false) : c_Sizes___init__X [.cel 0, .dat c, .dat k, .dat o] [.ins 0 []] ⟨1, [.str "period"]⟩ [.ins 0 []] := by
  refine ⟨rfl, call_ (isint_g g1) ?_⟩
  cases g1 with
  | non => exact Br.tt rfl (Br.tt rfl (And.intro rfl rfl))
  | bl b => exact Br.tt rfl (Br.tt rfl (And.intro rfl rfl))
  | str s => exact Br.tt rfl (Br.tt rfl (And.intro rfl rfl))
  | lst _ _ => exact Br.tt rfl (Br.tt rfl (And.intro rfl rfl))
  | tup _ _ => exact Br.tt rfl (Br.tt rfl (And.intro rfl rfl))
  | @int p hp =>
    have h := of_decide_eq_false (p := 1 ≤ p) h
    exact Br.ff rfl (Br.tt (decide_eq_true (by omega)) (And.intro rfl rfl))
theorem per_ok {c k o : D} (h : pdB c = true) (g1 : Gd 1000 c) {w : WS} {P : PJ} (q : w ⟨[some (.cel 0), some (.dat c), some (.dat k), some (.dat o), none], [.ins 0 []]⟩ P) : wConsS (wIfS (wOrT (wNotT (wTru (wFn c_is_integer (wCons (wName 1) wNil)))) (wBl (wTwo (wName 1) (wCon (.int 1)) ltW))) (wConsS (wRaise1 1 (wCon (.str "period"))) wNilS) wNilS) w ⟨[some (.cel 0), some (.dat c), some (.dat k), some (.dat o), none], [.ins 0 []]⟩ P := by
  refine call_ (isint_g g1) ?_
  cases g1 with
  | non => cases h
  | bl b => cases h
  | str s => cases h
  | tup _ _ => cases h
  | lst _ _ => cases h
  | @int p hp =>
    have h := of_decide_eq_true (p := 1 ≤ p) h
    exact Br.ff rfl (Br.ff (decide_eq_false (by omega)) q)
theorem any_dv (p : Int) : ∀ cs : List Nat, (cs.any fun s : Nat => true.xor (decide (p % (s : Int) = 0))) = !dvB p cs
  | [] => rfl
  | s :: cs => by
    show (true.xor (decide (p % (s : Int) = 0)) || cs.any fun s : Nat => true.xor (decide (p % (s : Int) = 0))) = !(decide (p % (s : Int) = 0) && dvB p cs)
    rw [any_dv p cs, nt_dec, Bool.not_and]
theorem cls_any {p : Int} {cs : List Nat} (h4 : ∀ c ∈ cs, 0 < c) (kl : cs.length ≤ 1000) {o : D} {R : RV} {Rx : RX} (h : R (.dat (.bl (!dvB p cs))) [.ins 0 []]) :
    wCb (wCons (wLc (wItems (wName 2)) (.nm 4) wYes (wTwo (wTwo (wCb (wCons (wName 1) wNil) intW1) (wName 4) modW) (wCon (.int 0)) (eqW true)) [4]) wNil) anyW [some (.cel 0), some (.dat (.int p)), some (.dat (.tup (cs.map nD))), some (.dat o), none] [.ins 0 []] R Rx := by
  refine And.intro (lenI kl) (lcW_map nD (fun s : Nat => D.bl (true.xor (decide (p % (s : Int) = 0)))) (fun s hs => ⟨_, rfl, fun R' h' => And.intro (show (0 : Int) < (s : Int) by have := h4 s hs; omega) h'⟩) ?_)
  dsimp only [wNil]
  refine anyF (fun s : Nat => true.xor (decide (p % (s : Int) = 0))) cs ?_
  rw [any_dv]
  exact h

/-! ### refused or made -/
theorem szs_of {d : D} (g : Gd 1000 d) (h : szB d = true) : ∃ cs : List Nat, d = .tup (cs.map nD) ∧ cs.Pairwise (· < ·) ∧ (∀ c ∈ cs, 0 < c) ∧ cs.length ≤ 1000 := by
  cases g with
  | non => cases h
  | bl b => cases h
  | int _ => cases h
  | str s => cases h
  | lst _ _ => cases h
  | @tup ds hl hg =>
    obtain ⟨cs, rfl, a, b⟩ := az_nat (a := 0) h
    rw [List.length_map] at hl
    exact ⟨cs, rfl, a, b, hl⟩
theorem init_x2 {c k o : D} (g1 : Gd 1000 c) (g2 : Gd 1000 k) (h1 : pdB c = true) (h : (szB k && dvD c k) = false) : c_Sizes___init__X [.cel 0, .dat c, .dat k, .dat o] [.ins 0 []] ⟨1, [.str "classes"]⟩ [.ins 0 []] := by
  refine ⟨rfl, per_ok h1 g1 (call_ (sizes_g g2) ?_)⟩
  cases q : szB k with
  | false => exact Br.tt rfl (Br.tt rfl (And.intro rfl rfl))
  | true =>
    obtain ⟨cs, rfl, a1, a2, a3⟩ := szs_of g2 q
    cases g1 with
    | non => cases h1
    | bl b => cases h1
    | str s => cases h1
    | tup _ _ => cases h1
    | lst _ _ => cases h1
    | @int p hp =>
      rw [q, dv_nD] at h
      refine Br.ff rfl (cls_any a2 a3 ?_)
      exact Br.tt (by rw [show dvB p cs = false from h]; rfl) (And.intro rfl rfl)
theorem init_x3 {c k o : D} (g1 : Gd 1000 c) (g2 : Gd 1000 k) (g3 : Gd 1000 o) (h1 : pdB c = true) (h : (szB k && dvD c k) = true) (h3 : szB o = false) : c_Sizes___init__X [.cel 0, .dat c, .dat k, .dat o] [.ins 0 []] ⟨1, [.str "odd"]⟩ [.ins 0 []] := by
  obtain ⟨q, h⟩ := Bool.and_eq_true_iff.mp h
  refine ⟨rfl, per_ok h1 g1 (call_ (sizes_g g2) ?_)⟩
  obtain ⟨cs, rfl, a1, a2, a3⟩ := szs_of g2 q
  cases g1 with
  | non => cases h1
  | bl b => cases h1
  | str s => cases h1
  | tup _ _ => cases h1
  | lst _ _ => cases h1
  | @int p hp =>
    rw [dv_nD] at h
    rw [q]
    refine Br.ff rfl (cls_any a2 a3 ?_)
    exact Br.ff (by rw [h]; rfl) (call_ (sizes_g g3) (Br.tt (by rw [h3]; rfl) (And.intro rfl rfl)))
theorem told_g {c k o : D} (g1 : Gd 1000 c) (g2 : Gd 1000 k) (g3 : Gd 1000 o) : c__law_told [.dat c, .dat k, .dat o] [] (.dat (dueQ c k o)) [] := by
  have bad : ∀ w : Str, Sl.dat (.str w) = .dat (dueQ c k o) → c_Sizes___init__X [.cel 0, .dat c, .dat k, .dat o] [.ins 0 []] ⟨1, [.str w]⟩ [.ins 0 []] → c__law_told [.dat c, .dat k, .dat o] [] (.dat (dueQ c k o)) [] := fun w e hx => by
    refine ⟨rfl, And.intro rfl (And.intro rfl (Or.inr (Exists.intro ⟨1, [.str w]⟩ (Exists.intro (.ins 0 []) (And.intro hx (fun a d => ?_))))))⟩
    exact And.intro ⟨rfl, rfl, rfl⟩ (And.intro ⟨rfl, rfl, rfl⟩ (Br.ff rfl (And.intro ⟨rfl, rfl, rfl⟩ (Br.ff rfl (And.intro e rfl)))))
  cases q : pdB c with
  | false => exact bad "period" (by unfold dueQ; rw [q]; rfl) (init_x1 g1 q)
  | true =>
    cases q2 : szB k && dvD c k with
    | false => exact bad "classes" (by unfold dueQ; rw [q, q2]; rfl) (init_x2 g1 g2 q q2)
    | true =>
      cases q3 : szB o with
      | false => exact bad "odd" (by unfold dueQ; rw [q, q2, q3]; rfl) (init_x3 g1 g2 g3 q q2 q3)
      | true =>
        obtain ⟨r1, r2⟩ := Bool.and_eq_true_iff.mp q2
        obtain ⟨n, cs, os, e1, e2, e3, hi⟩ := good_of g1 g2 g3 q r1 r2 q3
        have e : Sl.dat D.non = .dat (dueQ c k o) := by unfold dueQ; rw [q, q2, q3]; rfl
        rw [← show Sl.dat D.non = .dat (dueQ c k o) from e]
        subst e1 e2 e3
        exact ⟨rfl, And.intro rfl (And.intro rfl (Or.inl (Exists.intro [nD (leaQ n cs), .tup ((szL n cs).map nD), .tup (os.map nD), mkD (szL n cs), mkD os] (And.intro (szinit_c hi) (And.intro rfl (And.intro rfl rfl))))))⟩
/-! ### things bent -/
def thL : List D := [.non, .bl true, .bl false, .str "1", .str "", .tup [], .lst [], .int 0, .int (-1), .int (-6), .tup [.int 1, .str "2"], .lst [.int 1], .tup [.int 2, .int 1], .tup [.int 1, .int 1], .tup [.bl true, .int 2]]
theorem th_at : ∀ k : Nat, k < 15 → ∃ d, atI thL (k : Int) = some d ∧ Gd 5 d := fun k hk => by
  have e : ∀ k, k < 15 → ∃ d, thL[k]? = some d ∧ gdF 5 4 d = true := fun k hk => by
    match k, hk with
    | 0, _ => exact ⟨_, rfl, rfl⟩ | 1, _ => exact ⟨_, rfl, rfl⟩ | 2, _ => exact ⟨_, rfl, rfl⟩ | 3, _ => exact ⟨_, rfl, rfl⟩ | 4, _ => exact ⟨_, rfl, rfl⟩ | 5, _ => exact ⟨_, rfl, rfl⟩ | 6, _ => exact ⟨_, rfl, rfl⟩ | 7, _ => exact ⟨_, rfl, rfl⟩
    | 8, _ => exact ⟨_, rfl, rfl⟩ | 9, _ => exact ⟨_, rfl, rfl⟩ | 10, _ => exact ⟨_, rfl, rfl⟩ | 11, _ => exact ⟨_, rfl, rfl⟩ | 12, _ => exact ⟨_, rfl, rfl⟩ | 13, _ => exact ⟨_, rfl, rfl⟩ | 14, _ => exact ⟨_, rfl, rfl⟩
  obtain ⟨d, h1, h2⟩ := e k hk
  exact ⟨d, atI_nat h1, gdF_gd 4 h2⟩
theorem thing_c {b : B} (hb : Ok b) : ∃ d, c__law_thing [.cel 0] [bx b] (.dat d) [bx (nx b 15)] ∧ Gd 5 d := by
  have t0 : 0 ≤ tk b 15 := tk_lo (by decide)
  have t1 : tk b 15 < 15 := tk_hi (by decide)
  obtain ⟨d, e, g⟩ := th_at (tk b 15).toNat (by omega)
  rw [show (((tk b 15).toNat : Nat) : Int) = tk b 15 by omega] at e
  refine ⟨d, ⟨rfl, ?_⟩, g⟩
  refine And.intro (szk 0) (And.intro (szk 0) (And.intro (szk 2) (And.intro (szk 1) (And.intro (szk 2) (And.intro (szk 2) (And.intro (szk 2) (And.intro (szk 15) (call_ (take_c (by decide) (by decide) hb) ?_))))))))
  exact atW_i (ds := thL) e (And.intro rfl rfl)
def mrL : List D := [.int 0, .int (-1), .non, .str "2", .bl true, .tup [.int 1], .int 1, .int 5, .int 11, .int 2521]
theorem mr_at : ∀ k : Nat, k < 10 → ∃ d, atI mrL (k : Int) = some d ∧ Gd 5 d := fun k hk => by
  have e : ∃ d, mrL[k]? = some d ∧ gdF 5 4 d = true := by
    match k, hk with
    | 0, _ => exact ⟨_, rfl, rfl⟩ | 1, _ => exact ⟨_, rfl, rfl⟩ | 2, _ => exact ⟨_, rfl, rfl⟩ | 3, _ => exact ⟨_, rfl, rfl⟩ | 4, _ => exact ⟨_, rfl, rfl⟩ | 5, _ => exact ⟨_, rfl, rfl⟩ | 6, _ => exact ⟨_, rfl, rfl⟩ | 7, _ => exact ⟨_, rfl, rfl⟩ | 8, _ => exact ⟨_, rfl, rfl⟩ | 9, _ => exact ⟨_, rfl, rfl⟩
  obtain ⟨d, h1, h2⟩ := e
  exact ⟨d, atI_nat h1, gdF_gd 4 h2⟩
abbrev stB (ds : List D) (f t : Int) (b : B) (x4 x5 : Option Sl) : Sta := ⟨[some (.cel 0), some (.dat (.tup ds)), some (.dat (.int f)), some (.dat (.int t)), x4, x5], [bx b]⟩
def Bnt (w : WS) (S : Sta) : Prop := ∃ d b, Gd 1000 d ∧ Ok b ∧ w S (endJ 1 (.dat d) [bx b])
section
variable {ds : List D} {f t : Int} {b : B} {x4 x5 : Option Sl}
theorem blast (hl : ds.length ≤ 200) (hg : ∀ x ∈ ds, Gd 1000 x) (hb : Ok b) : Bnt (w__law_bent_last 1) (stB ds f t b x4 x5) := by
  have u0 : 0 ≤ tk b 10 := tk_lo (by decide)
  have u1 : tk b 10 < 10 := tk_hi (by decide)
  obtain ⟨x, ex, gx⟩ := mr_at (tk b 10).toNat (by omega)
  rw [show (((tk b 10).toNat : Nat) : Int) = tk b 10 by omega] at ex
  have c : ∀ l u, (cutD ds l u).length ≤ 200 := fun l u => Nat.le_trans cut_len hl
  refine ⟨.tup (cutD ds none (some t) ++ [x] ++ cutD ds (some (t + (if (false.xor (decide (f = 4))) = true then 1 else 0))) none), nx b 10, .tup ?_ (gapp (gapp (gcut hg) (gone (gx.mono (by decide)))) (gcut hg)), hb.nx 10, ?_⟩
  · rw [List.length_append, List.length_append, List.length_singleton]
    have := c none (some t); have := c (some (t + (if (false.xor (decide (f = 4))) = true then 1 else 0))) none
    omega
  · refine And.intro (szk 1) (And.intro (szk 10) (call_ (take_c (by decide) (by decide) hb) (atW_i (ds := mrL) ex (And.intro (szk 1) (And.intro (szadd (Nat.le_trans (c _ _) (by decide)) (show 1 ≤ 2001 by decide)) (And.intro (szadd ?_ (Nat.le_trans (c _ _) (by decide))) (And.intro rfl rfl)))))))
    rw [List.length_append, List.length_singleton]
    exact Nat.le_trans (Nat.add_le_add_right (c _ _) 1) (by decide)
theorem bthree (hl : ds.length ≤ 200) (hg : ∀ x ∈ ds, Gd 1000 x) (hb : Ok b) : Bnt (w__law_bent_three 1) (stB ds f t b x4 x5) := by
  by_cases f3 : f = 3
  · have c : ∀ l u, (cutD ds l u).length ≤ 200 := fun l u => Nat.le_trans cut_len hl
    refine ⟨.tup (cutD ds none (some t) ++ (cutD ds (some (t + 1)) (some (t + 2)) ++ cutD ds (some t) (some (t + 1))) ++ cutD ds (some (t + 2)) none), b, .tup ?_ (gapp (gapp (gcut hg) (gapp (gcut hg) (gcut hg))) (gcut hg)), hb, Br.tt (by rw [decide_eq_true f3]; rfl) ?_⟩
    · rw [List.length_append, List.length_append, List.length_append]
      have := c none (some t); have := c (some (t + 1)) (some (t + 2)); have := c (some t) (some (t + 1)); have := c (some (t + 2)) none
      omega
    · refine And.intro (szadd (Nat.le_trans (c _ _) (by omega)) (Nat.le_trans (c _ _) (by omega))) (And.intro (szadd (Nat.le_trans (c _ _) (by omega)) ?_) (And.intro (szadd ?_ (Nat.le_trans (c _ _) (by omega))) (And.intro rfl rfl)))
      · rw [List.length_append]
        exact Nat.le_trans (Nat.add_le_add (c _ _) (c _ _)) (by omega)
      · rw [List.length_append, List.length_append]
        exact Nat.le_trans (Nat.add_le_add (c _ _) (Nat.add_le_add (c _ _) (c _ _))) (by omega)
  · obtain ⟨d, b', gd, ob, w⟩ := blast hl hg hb (f := f) (t := t) (x4 := x4) (x5 := x5)
    exact ⟨d, b', gd, ob, Br.ff (by rw [decide_eq_false f3]; rfl) w⟩
theorem btwo (hl : ds.length ≤ 200) (hg : ∀ x ∈ ds, Gd 1000 x) (hb : Ok b) : Bnt (w__law_bent_two 1) (stB ds f t b x4 x5) := by
  by_cases f2 : f = 2
  · have c : ∀ l u, (cutD ds l u).length ≤ 200 := fun l u => Nat.le_trans cut_len hl
    refine ⟨.tup (cutD ds none (some t) ++ cutD ds (some t) (some (t + 1)) ++ cutD ds (some t) none), b, .tup ?_ (gapp (gapp (gcut hg) (gcut hg)) (gcut hg)), hb, Br.tt (by rw [decide_eq_true f2]; rfl) ?_⟩
    · rw [List.length_append, List.length_append]
      have := c none (some t); have := c (some t) (some (t + 1)); have := c (some t) none
      omega
    · refine And.intro (szadd (Nat.le_trans (c _ _) (by omega)) (Nat.le_trans (c _ _) (by omega))) (And.intro (szadd ?_ (Nat.le_trans (c _ _) (by omega))) (And.intro rfl rfl))
      rw [List.length_append]
      exact Nat.le_trans (Nat.add_le_add (c _ _) (c _ _)) (by omega)
  · obtain ⟨d, b', gd, ob, w⟩ := bthree hl hg hb (f := f) (t := t) (x4 := x4) (x5 := x5)
    exact ⟨d, b', gd, ob, Br.ff (by rw [decide_eq_false f2]; rfl) w⟩
theorem bone (hl : ds.length ≤ 200) (hg : ∀ x ∈ ds, Gd 1000 x) (hb : Ok b) : Bnt (w__law_bent_one 1) (stB ds f t b x4 x5) := by
  by_cases f1 : f = 1
  · exact ⟨.lst ds, b, .lst (by omega) hg, hb, Br.tt (by rw [decide_eq_true f1]; rfl) (And.intro rfl rfl)⟩
  · obtain ⟨d, b', gd, ob, w⟩ := btwo hl hg hb (f := f) (t := t) (x4 := x4) (x5 := x5)
    exact ⟨d, b', gd, ob, Br.ff (by rw [decide_eq_false f1]; rfl) w⟩
end
theorem bent_c {ds : List D} (hl : ds.length ≤ 200) (hg : ∀ x ∈ ds, Gd 1000 x) {b : B} (hb : Ok b) : ∃ d b', Gd 1000 d ∧ Ok b' ∧ c__law_bent [.cel 0, .dat (.tup ds)] [bx b] (.dat d) [bx b'] := by
  let m : Int := if (ds.length : Int) > 1 then ds.length else 1
  have m0 : 0 < m := by show 0 < (if (ds.length : Int) > 1 then (ds.length : Int) else 1); split <;> omega
  have m1 : m < 2 ^ 200 := Int.lt_of_le_of_lt (show m ≤ 1000 by show (if (ds.length : Int) > 1 then (ds.length : Int) else 1) ≤ 1000; split <;> omega) (by decide)
  have o1 := hb.nx 6
  have o2 := o1.nx m
  by_cases f0 : tk b 6 = 0
  · obtain ⟨th, tc, tg⟩ := thing_c o2
    exact ⟨th, nx (nx (nx b 6) m) 15, tg.mono (by decide), o2.nx 15, ⟨rfl, call_ (take_c (by decide) (by decide) hb) (call_ (take_c m0 m1 o1) (Br.tt (by rw [decide_eq_true f0]; rfl) (call_ tc (And.intro rfl rfl))))⟩⟩
  · obtain ⟨d, b', gd, ob, w⟩ := bone hl hg o2 (f := tk b 6) (t := tk (nx b 6) m) (x4 := none) (x5 := none)
    exact ⟨d, b', gd, ob, ⟨rfl, call_ (take_c (by decide) (by decide) hb) (call_ (take_c m0 m1 o1) (Br.ff (by rw [decide_eq_false f0]; rfl) w))⟩⟩

/-! ### of, multiples -/
def dmap (f : B → Int) (g : B → B) : Nat → B → List Int × B
  | 0, b => ([], b)
  | k + 1, b => (f b :: (dmap f g k (g b)).1, (dmap f g k (g b)).2)
theorem lcW_dmap {f : B → Int} {g : B → B} (hg : ∀ b, Ok b → Ok (g b)) {p : Pat} {we : WpE} {sl : Sls} : ∀ {items : List D} {b : B} {R : List D → List Cell → Prop}, Ok b →
    (∀ x ∈ items, ∀ b, Ok b → ∃ sl', asgP p x sl = some sl' ∧ ∀ R' : RV, R' (.dat (.int (f b))) [bx (g b)] → we sl' [bx b] R' noX) → R ((dmap f g items.length b).1.map D.int) [bx (dmap f g items.length b).2] → lcW p wYes we sl items [bx b] R
  | [], b, R, _, _, h => h
  | x :: xs, b, R, hb, hx, h => by
    obtain ⟨sl', e, h1⟩ := hx x List.mem_cons_self b hb
    exact asgW_i e ⟨fun _ => h1 _ (lcW_dmap hg (items := xs) (hg b hb) (fun y hy => hx y (List.mem_cons_of_mem _ hy)) h), fun z => nomatch z⟩
theorem dmap_ok {f : B → Int} {g : B → B} (hg : ∀ b, Ok b → Ok (g b)) {Q : Int → Prop} (hq : ∀ b, Ok b → Q (f b)) : ∀ (k : Nat) {b : B}, Ok b → Ok (dmap f g k b).2 ∧ (dmap f g k b).1.length = k ∧ ∀ x ∈ (dmap f g k b).1, Q x
  | 0, b, hb => ⟨hb, rfl, fun _ z => nomatch z⟩
  | k + 1, b, hb => by
    obtain ⟨h1, h2, h3⟩ := dmap_ok hg hq k (hg b hb)
    refine ⟨h1, ?_, fun x hx => ?_⟩
    · show (_ :: (dmap f g k (g b)).1).length = _
      rw [List.length_cons, h2]
    · rcases List.mem_cons.mp hx with rfl | hx
      · exact hq b hb
      · exact h3 x hx
def badN : List Int → Option Int
  | [] => none
  | n :: ns => if n < 1 then some n else badN ns
def bdD : Option Int → D
  | none => .non
  | some n => .int n
abbrev lpW : WS := wConsS (wIfS (wBl (wTwo (wName 1) (wCon (.int 1)) ltW)) (wConsS (wRaise1 2 (wName 1)) wNilS) wNilS) wNilS
theorem of_go {d : D} {P : PJ} (hP : ∀ x1, P.nx ⟨[some (.dat d), x1], []⟩) : ∀ (ns : List Int) (x1 : Option Sl), badN ns = none → forW (.nm 1) lpW (ns.map D.int) ⟨[some (.dat d), x1], []⟩ P
  | [], x1, _ => hP x1
  | n :: ns, x1, h => by
    unfold badN at h
    split at h
    · cases h
    · rename_i z
      exact Br.ff (decide_eq_false z) (of_go hP ns _ h)
theorem of_bad {d : D} {P : PJ} {m : Int} (hP : ∀ x1, P.ex ⟨2, [.int m]⟩ ⟨[some (.dat d), x1], []⟩) : ∀ (ns : List Int) (x1 : Option Sl), badN ns = some m → forW (.nm 1) lpW (ns.map D.int) ⟨[some (.dat d), x1], []⟩ P
  | [], x1, h => nomatch h
  | n :: ns, x1, h => by
    unfold badN at h
    split at h
    · rename_i z
      cases h
      exact Br.tt (decide_eq_true z) (hP _)
    · rename_i z
      exact Br.ff (decide_eq_false z) (of_bad hP ns _ h)
theorem bad_none : ∀ {ns : List Int}, badN ns = none → ∃ xs : List Nat, ns = xs.map (fun n : Nat => (n : Int)) ∧ ∀ x ∈ xs, 0 < x
  | [], _ => ⟨[], rfl, fun _ z => nomatch z⟩
  | n :: ns, h => by
    unfold badN at h
    split at h
    · cases h
    · rename_i z
      obtain ⟨xs, rfl, hx⟩ := bad_none h
      refine ⟨n.toNat :: xs, ?_, fun x hx' => ?_⟩
      · rw [List.map_cons]
        congr 1
        omega
      · rcases List.mem_cons.mp hx' with rfl | hx'
        · omega
        · exact hx x hx'
theorem of_c {ns : List Int} (hl : ns.length ≤ 1000) (h : badN ns = none) {d : D} (hd : d = .lst (ns.map D.int) ∨ d = .tup (ns.map D.int)) : ∃ xs : List Nat, c_Sizes_of [.dat d] [] (.dat (szD 1 [] (srt xs))) [] := by
  obtain ⟨xs, e, h0⟩ := bad_none h
  have e2 : ns.map D.int = xs.map nD := by rw [e, List.map_map]; rfl
  have xl : xs.length ≤ 1000 := by rw [e, List.length_map] at hl; exact hl
  refine ⟨xs, ?_⟩
  have fin : ∀ x1 : Option Sl, w_Sizes_of_made 0 ⟨[some (.dat d), x1], []⟩ (endJ 0 (.dat (szD 1 [] (srt xs))) []) := fun x1 => by
    refine And.intro (szk 0) (call_ (asc_c (xs := xs) (by omega) (by rw [← e2]; exact hd)) ?_)
    exact And.intro rfl (And.intro rfl (Or.inl (Exists.intro [nD 1, .tup [], .tup ((srt xs).map nD), .dct [] [], mkD (srt xs)] (And.intro (init1 xl h0) (And.intro rfl (And.intro rfl rfl))))))
  rcases hd with rfl | rfl
  · exact ⟨rfl, of_go (P := { endJ 0 (.dat (szD 1 [] (srt xs))) [] with nx := fun S' => w_Sizes_of_made 0 S' (endJ 0 (.dat (szD 1 [] (srt xs))) []) }) fin ns none h⟩
  · exact ⟨rfl, of_go (P := { endJ 0 (.dat (szD 1 [] (srt xs))) [] with nx := fun S' => w_Sizes_of_made 0 S' (endJ 0 (.dat (szD 1 [] (srt xs))) []) }) fin ns none h⟩
theorem of_x {ns : List Int} {m : Int} (h : badN ns = some m) {d : D} (hd : d = .lst (ns.map D.int) ∨ d = .tup (ns.map D.int)) : c_Sizes_ofX [.dat d] [] ⟨2, [.int m]⟩ [] := by
  rcases hd with rfl | rfl
  · exact ⟨rfl, of_bad (P := { endJX 0 ⟨2, [.int m]⟩ [] with nx := fun S' => w_Sizes_of_made 0 S' (endJX 0 ⟨2, [.int m]⟩ []) }) (fun x1 => And.intro rfl rfl) ns none h⟩
  · exact ⟨rfl, of_bad (P := { endJX 0 ⟨2, [.int m]⟩ [] with nx := fun S' => w_Sizes_of_made 0 S' (endJX 0 ⟨2, [.int m]⟩ []) }) (fun x1 => And.intro rfl rfl) ns none h⟩
theorem ref_of {ns : List Int} (hl : ns.length ≤ 1000) {d : D} (hd : d = .lst (ns.map D.int) ∨ d = .tup (ns.map D.int)) : c__law_size_refused [.dat d, .dat (.bl false)] [] (.dat (bdD (badN ns))) [] := by
  cases q : badN ns with
  | none =>
    obtain ⟨xs, c⟩ := of_c hl q hd
    exact ⟨rfl, Br.ff rfl (Or.inl (call_ c (And.intro rfl rfl)))⟩
  | some m => exact ⟨rfl, Br.ff rfl (Or.inr (And.intro rfl (Exists.intro ⟨2, [.int m]⟩ (And.intro (of_x q hd) fun a d => And.intro ⟨rfl, rfl, rfl⟩ (And.intro rfl rfl)))))⟩
theorem mul_c {n : Int} (h : ¬ n < 1) (hn : n < 1000) : ∃ d, c_Sizes_multiples [.dat (.int n)] [] (.dat d) [] := by
  obtain ⟨m, rfl⟩ : ∃ m : Nat, n = (m : Int) := ⟨n.toNat, by omega⟩
  exact ⟨szD m [m] [], ⟨rfl, Br.ff (decide_eq_false h) (And.intro (szk 1) (And.intro rfl (And.intro rfl (Or.inl (Exists.intro [nD m, .tup [nD m], .tup [], mkD [m], .dct [] []] (And.intro (initd (by omega) (by omega)) (And.intro rfl (And.intro rfl rfl))))))))⟩⟩
theorem ref_mul {n : Int} (hn : n < 1000) : c__law_size_refused [.dat (.int n), .dat (.bl true)] [] (.dat (if n < 1 then .int n else .non)) [] := by
  by_cases z : n < 1
  · rw [if_pos z]
    have x : c_Sizes_multiplesX [.dat (.int n)] [] ⟨2, [.int n]⟩ [] := ⟨rfl, Br.tt (decide_eq_true z) (And.intro rfl rfl)⟩
    exact ⟨rfl, Br.tt rfl (Or.inr (And.intro rfl (Exists.intro ⟨2, [.int n]⟩ (And.intro x fun a d => And.intro ⟨rfl, rfl, rfl⟩ (And.intro rfl rfl)))))⟩
  · rw [if_neg z]
    obtain ⟨d, c⟩ := mul_c z hn
    exact ⟨rfl, Br.tt rfl (Or.inl (call_ c (And.intro rfl rfl)))⟩
theorem fil_bad : ∀ ns : List Int, atI ((ns.filter fun n => decide (n < 1)).map D.int ++ [.non]) 0 = some (bdD (badN ns))
  | [] => rfl
  | n :: ns => by
    unfold badN
    by_cases z : n < 1
    · rw [if_pos z, List.filter_cons_of_pos (p := fun n : Int => decide (n < 1)) (by exact decide_eq_true z)]
      exact atI_nat (j := 0) rfl
    · rw [if_neg z, List.filter_cons_of_neg (p := fun n : Int => decide (n < 1)) (by show ¬ (decide (n < 1)) = true; rw [decide_eq_false z]; decide)]
      exact fil_bad ns
theorem right_c {b : B} (hb : Ok b) : ∃ b', c__law_of_right [.cel 0] [bx b] (.dat (.bl true)) [bx b'] ∧ Ok b' := by
  have t0 : 0 ≤ tk b 6 := tk_lo (by decide)
  have t1 : tk b 6 < 6 := tk_hi (by decide)
  obtain ⟨o1, l1, _⟩ := dmap_ok (f := fun b => tk b 40 - 2) (g := fun b => nx b 40) (fun b h => h.nx 40) (Q := fun _ => True) (fun _ _ => trivial) (rangeD 0 (tk b 6).toNat).length (hb.nx 6)
  have rl : (rangeD 0 (tk b 6).toNat).length ≤ 10 := by
    unfold rangeD
    rw [List.length_map, List.length_range]
    omega
  generalize hd : dmap (fun b => tk b 40 - 2) (fun b => nx b 40) (rangeD 0 (tk b 6).toNat).length (nx b 6) = q at o1 l1
  have nl : q.1.length ≤ 1000 := by omega
  have u0 : 0 ≤ tk q.2 9 := tk_lo (by decide)
  have u1 : tk q.2 9 < 9 := tk_hi (by decide)
  have fb := fil_bad q.1
  have r1 := ref_of nl (d := .lst (q.1.map D.int)) (.inl rfl)
  have r2 := ref_of nl (d := .tup (q.1.map D.int)) (.inr rfl)
  have fin : ∀ x3 : Option Sl, w__law_of_right_one 1 ⟨[some (.cel 0), some (.dat (.lst (q.1.map D.int))), none, x3, none], [bx q.2]⟩ (endJ 1 (.dat (.bl true)) [bx (nx q.2 9)]) := fun x3 => by
    refine call_ (take_c (by decide) (by decide) o1) (call_ (ref_mul (n := 3 - tk q.2 9) (by omega)) (And.intro (szk 2) ?_))
    have e1 : atI [D.non, .int (3 - tk q.2 9)] (if decide (3 - tk q.2 9 < 1) = true then 1 else 0) = some (if 3 - tk q.2 9 < 1 then .int (3 - tk q.2 9) else .non) := by
      by_cases z : 3 - tk q.2 9 < 1
      · rw [if_pos z, if_pos (decide_eq_true z)]
        rfl
      · rw [if_neg z, if_neg (by rw [decide_eq_false z]; decide)]
        rfl
    refine atW_i e1 ?_
    by_cases z : 3 - tk q.2 9 < 1
    · rw [if_pos z]
      refine And.intro ?_ rfl
      show Sl.dat (.bl (false.xor (decide (3 - tk q.2 9 = 3 - tk q.2 9)))) = _
      rw [decide_eq_true rfl]
      rfl
    · rw [if_neg z]
      exact And.intro rfl (And.intro rfl (And.intro rfl rfl))
  refine ⟨nx q.2 9, ⟨rfl, call_ (take_c (by decide) (by decide) hb) (And.intro (show SmI (tk b 6) from ⟨by omega, by omega⟩) ?_)⟩, o1.nx 9⟩
  refine And.intro (Nat.lt_of_le_of_lt rl (by decide)) (lcW_dmap (f := fun b => tk b 40 - 2) (g := fun b => nx b 40) (fun b h => h.nx 40) (hb.nx 6) (fun x hx b' ok' => ⟨_, rfl, fun R' h' => call_ (take_c (by decide) (by decide) ok') h'⟩) ?_)
  rw [hd]
  refine And.intro (lenI nl) (lcW_filter D.int D.int (fun n => decide (n < 1)) (fun n _ => ⟨_, rfl, fun R' h' => h', fun _ R' h' => h'⟩) ?_)
  refine And.intro (szk 1) (And.intro (sz (Nat.le_trans (Nat.add_le_add (Nat.le_trans (Nat.le_of_eq (List.length_map ..)) (Nat.le_trans (List.length_filter_le _ _) nl)) (show 1 ≤ 1 from Nat.le_refl _)) (by decide))) ?_)
  generalize badN q.1 = o at fb r1 r2
  cases o with
  | none => exact atW_i fb (call_ r1 (And.intro rfl (And.intro rfl (Br.ff rfl (call_ r2 (And.intro rfl (And.intro rfl (Br.ff rfl (fin _)))))))))
  | some m => exact atW_i fb (call_ r1 (Br.xt (fun z => absurd rfl z) fun _ => call_ r2 (Br.xt (fun z => absurd rfl z) fun _ => fin _)))

/-! ### the law's body -/
theorem az_asc : ∀ {cs : List Nat} {a : Nat}, cs.Pairwise (· < ·) → (∀ c ∈ cs, a < c) → azB (a : Int) (cs.map nD) = true
  | [], _, _, _ => rfl
  | c :: cs, a, hc, h => by
    obtain ⟨h1, h2⟩ := List.pairwise_cons.mp hc
    show azB (a : Int) (.int (c : Int) :: cs.map nD) = true
    rw [az_int, if_neg (by have := h c List.mem_cons_self; omega)]
    exact az_asc h2 h1
theorem due_ok {n : Nat} {cs os : List Nat} (h : InSz n cs os) : dueQ (nD n) (.tup (cs.map nD)) (.tup (os.map nD)) = .non := by
  have e1 : pdB (nD n) = true := decide_eq_true (by have := h.n0; omega)
  have e2 : szB (.tup (cs.map nD)) = true := az_asc (a := 0) h.hc fun c hc => (h.hd c hc).1
  have e3 : szB (.tup (os.map nD)) = true := az_asc (a := 0) h.oc h.od
  have e4 : dvD (nD n) (.tup (cs.map nD)) = true := by
    rw [dv_nD]
    exact List.all_eq_true.mpr fun s hs => decide_eq_true (mod0.mpr (Nat.mod_eq_zero_of_dvd (h.hd s hs).2))
  unfold dueQ
  rw [if_pos e1, e2, e4, if_pos (show (true && true) = true from rfl), if_pos e3]
structure In9 (n : Nat) (cs os : List Nat) : Prop where
  ins : InSz n cs os
  nb : n ≤ 2520
  ob : ∀ o ∈ os, o ≤ 9600
  cl : cs.length ≤ 200
  ol : os.length ≤ 60
theorem gd_nDs {cs : List Nat} (h : ∀ s ∈ cs, s ≤ 1000000) : ∀ x ∈ cs.map nD, Gd 1000 x := fun x hx => by
  obtain ⟨s, hs, rfl⟩ := List.mem_map.mp hx
  exact .int (by have := h s hs; omega)
theorem In9.g0 {n : Nat} {cs os : List Nat} (h : In9 n cs os) : Gd 1000 (nD n) := .int (by have := h.nb; omega)
theorem In9.c1 {n : Nat} {cs os : List Nat} (h : In9 n cs os) : ∀ x ∈ cs.map nD, Gd 1000 x := gd_nDs fun s hs => by
  have := Nat.le_of_dvd h.ins.n0 (h.ins.hd s hs).2
  have := h.nb
  omega
theorem In9.c2 {n : Nat} {cs os : List Nat} (h : In9 n cs os) : ∀ x ∈ os.map nD, Gd 1000 x := gd_nDs fun s hs => by have := h.ob s hs; omega
theorem In9.g1 {n : Nat} {cs os : List Nat} (h : In9 n cs os) : Gd 1000 (.tup (cs.map nD)) := .tup (by rw [List.length_map]; have := h.cl; omega) h.c1
theorem In9.g2 {n : Nat} {cs os : List Nat} (h : In9 n cs os) : Gd 1000 (.tup (os.map nD)) := .tup (by rw [List.length_map]; have := h.ol; omega) h.c2
abbrev stC (ns : List Int) (k : Int) (M : D) (b : B) (d0 d1 d2 : D) (x4 x6 x7 : Option Sl) : Sta := ⟨[some (.dat (scD ns)), some (.dat (.int k)), some (.cel 0), some (.dat M), x4, some (.cel 1), x6, x7], [bx b, .lst [d0, d1, d2]]⟩
section
variable {ns : List Int} {k : Int} {x4 x6 x7 : Option Sl} {d0 d1 d2 : D} {b : B} {P : PJ} {n : Nat} {cs os : List Nat}
theorem bend_c (h : In9 n cs os) (g0 : Gd 1000 d0) (g1 : Gd 1000 d1) (g2 : Gd 1000 d2) (hb : Ok b) (hP : ∀ e0 e1 e2 b' y7, Gd 1000 e0 → Gd 1000 e1 → Gd 1000 e2 → Ok b' → P.nx (stC ns k (mdD n cs os) b' e0 e1 e2 x4 x6 y7)) :
    w_law_bend 0 (stC ns k (mdD n cs os) b d0 d1 d2 x4 x6 x7) P := by
  have t0 : 0 ≤ tk b 3 := tk_lo (by decide)
  have t1 : tk b 3 < 3 := tk_hi (by decide)
  have o1 := hb.nx 3
  refine call_ (take_c (by decide) (by decide) hb) ?_
  generalize tk b 3 = s at t0 t1
  have e : s = 0 ∨ s = 1 ∨ s = 2 := by omega
  rcases e with rfl | rfl | rfl
  · obtain ⟨th, tc, tg⟩ := thing_c o1
    exact Br.tt rfl (call_ tc (hP th d1 d2 _ _ (tg.mono (by decide)) g1 g2 (o1.nx 15)))
  · obtain ⟨d, b', gd, ob, c⟩ := bent_c (by rw [List.length_map]; exact h.cl) h.c1 o1
    exact Br.ff rfl (call_ c (hP d0 d d2 _ _ g0 gd g2 ob))
  · obtain ⟨d, b', gd, ob, c⟩ := bent_c (by rw [List.length_map]; have := h.ol; omega) h.c2 o1
    exact Br.ff rfl (call_ c (hP d0 d1 d _ _ g0 g1 gd ob))
theorem due_in (c k o : D) : dueQ c k o = .non ∨ dueQ c k o = .str "odd" ∨ dueQ c k o = .str "classes" ∨ dueQ c k o = .str "period" := by
  unfold dueQ
  split
  · split
    · split
      · exact .inl rfl
      · exact .inr (.inl rfl)
    · exact .inr (.inr (.inl rfl))
  · exact .inr (.inr (.inr rfl))
theorem asked_c {M : D} (g0 : Gd 1000 d0) (g1 : Gd 1000 d1) (g2 : Gd 1000 d2) (hP : P.nx (stC ns k M b d0 d1 d2 x4 x6 x7)) : w_law_asked 0 (stC ns k M b d0 d1 d2 x4 x6 x7) P := by
  have r1 := told_g g0 g1 g2
  have r2 := ldue_g g0 g1 g2
  rcases due_in d0 d1 d2 with e | e | e | e
  · rw [e] at r1 r2
    exact call_ r1 (call_ r2 (And.intro rfl (And.intro rfl (Br.ne rfl rfl hP))))
  · rw [e] at r1 r2
    exact call_ r1 (call_ r2 (Br.xt (fun z => absurd rfl z) (fun _ => hP)))
  · rw [e] at r1 r2
    exact call_ r1 (call_ r2 (Br.xt (fun z => absurd rfl z) (fun _ => hP)))
  · rw [e] at r1 r2
    exact call_ r1 (call_ r2 (Br.xt (fun z => absurd rfl z) (fun _ => hP)))
def Tn (ns : List Int) (k : Int) (M : D) (S : Sta) : Prop := ∃ b x4 x5 x6 x7 cs, Ok b ∧ S = ⟨[some (.dat (scD ns)), some (.dat (.int k)), some (.cel 0), some (.dat M), x4, x5, x6, x7], bx b :: cs⟩
theorem turn_c' (h : In9 n cs os) (hb : Ok b) {x5 x6 x7 : Option Sl} {d : D} {cells : List Cell} (hP : ∀ S, Tn ns k (mdD n cs os) S → P.nx S) :
    wFgt [0, 1, 2, 3, 4] 1 0 (w_law_turn 0) ⟨[some (.dat (scD ns)), some (.dat (.int k)), some (.cel 0), some (.dat (mdD n cs os)), some (.dat d), x5, x6, x7], bx b :: cells⟩ P := by
  refine And.intro (Nat.zero_le _) ?_
  have t0 : 0 ≤ tk b 2 := tk_lo (by decide)
  have t1 : tk b 2 < 2 := tk_hi (by decide)
  refine call_ (take_c (by decide) (by decide) hb) (And.intro (show SmI (1 + tk b 2) from ⟨by omega, by omega⟩) ?_)
  refine forW_ind (fun S => ∃ b d0 d1 d2 x6 x7, Ok b ∧ Gd 1000 d0 ∧ Gd 1000 d1 ∧ Gd 1000 d2 ∧ S = stC ns k (mdD n cs os) b d0 d1 d2 (some (.dat d)) x6 x7) _ ?_ ?_ _ ⟨_, _, _, _, none, none, hb.nx 2, h.g0, h.g1, h.g2, rfl⟩
  · rintro z hz S ⟨b', e0, e1, e2, y6, y7, ok, g0, g1, g2, rfl⟩ nx' hnx
    exact bend_c h g0 g1 g2 ok fun a0 a1 a2 b2 z7 r0 r1 r2 r3 => hnx _ ⟨b2, a0, a1, a2, _, z7, r3, r0, r1, r2, rfl⟩
  · rintro S ⟨b', e0, e1, e2, y6, y7, ok, g0, g1, g2, rfl⟩
    exact asked_c g0 g1 g2 (hP _ ⟨b', _, _, _, _, _, ok, rfl⟩)
def Sh (ns : List Int) (S : Sta) : Prop := ∃ x1 x2 x3 x4 x5 x6 x7 cs, S = ⟨[some (.dat (scD ns)), x1, x2, x3, x4, x5, x6, x7], cs⟩
theorem last_c (h : In9 n cs os) (hb : Ok b) {x5 x6 x7 : Option Sl} {cells : List Cell} (hP : ∀ S, Sh ns S → P.nx S) :
    wFgt [0, 1, 2, 3] 1 0 (w_law_last 0) ⟨[some (.dat (scD ns)), some (.dat (.int k)), some (.cel 0), some (.dat (mdD n cs os)), x4, x5, x6, x7], bx b :: cells⟩ P := by
  have r1 := told_g h.g0 h.g1 h.g2
  rw [due_ok h.ins] at r1
  obtain ⟨b', r2, ok⟩ := right_c hb
  exact And.intro (Nat.zero_le _) (call_ r1 (Br.ff rfl (call_ r2 (Br.ff rfl (hP _ ⟨_, _, _, _, _, _, _, _, rfl⟩)))))
theorem turns_c (h : In9 n cs os) (hb : Ok b) {x5 : Option Sl} (hP : ∀ S, Sh ns S → P.nx S) :
    w_law_turns 0 ⟨[some (.dat (scD ns)), some (.dat (.int k)), some (.cel 0), some (.dat (mdD n cs os)), x4, x5, x6, x7], [bx b]⟩ P := by
  refine And.intro (show SmI 5 from ⟨by decide, by decide⟩) ?_
  refine forW_ind (Tn ns k (mdD n cs os)) _ ?_ ?_ _ ⟨b, x4, x5, x6, x7, [], hb, rfl⟩
  · rintro z hz S ⟨b', y4, y5, y6, y7, cells, ok, rfl⟩ nx' hnx
    exact turn_c' h ok hnx
  · rintro S ⟨b', y4, y5, y6, y7, cells, ok, rfl⟩
    exact last_c h ok hP
end
theorem body_c {ns : List Int} {k : Nat} {P : PJ} (hk : k < 100) (hP : ∀ S, Sh ns S → P.nx S) {cells : List Cell} {x2 x3 x4 x5 x6 x7 : Option Sl} :
    wFgt [0, 1] 0 0 (w_law_body 0) ⟨[some (.dat (scD ns)), some (.dat (.int k)), x2, x3, x4, x5, x6, x7], cells⟩ P := by
  have o := feedB_ok ns k
  obtain ⟨n0, n1⟩ := szP_in (tk (feedB ns k) 13).toNat
  have n0 : 0 < mdN (feedB ns k) := n0
  have n1 : mdN (feedB ns k) ≤ 2520 := n1
  obtain ⟨m1, m2⟩ := mdK_ok o
  obtain ⟨q1, q2, q3, q4⟩ := odQ_ok m1
  have dl : (divs (mdN (feedB ns k))).length ≤ 100 := divs_len _
  have ml := m2.length_le
  have lt : ((mdO (feedB ns k)).take 9).length ≤ (mdO (feedB ns k)).length := List.length_take_le' _ _
  have q1 : (mdO (feedB ns k)).length ≤ 60 := q1
  have h : In9 (mdN (feedB ns k)) (mdK (feedB ns k)).1 ((mdO (feedB ns k)).take 9) := ⟨⟨n0, by omega, (divs_asc _).sublist m2, fun s hs => (mem_divs n0).mp (m2.subset hs), by omega, q2.sublist (List.take_sublist _ _), fun s hs => (q3 s (List.mem_of_mem_take hs)).1, by omega⟩, n1, fun s hs => (q3 s (List.mem_of_mem_take hs)).2, by omega, by omega⟩
  refine And.intro (Nat.le_refl _) (call_ (feed_c hk) (call_ (model_c o) ?_))
  have e : cutD ((mdO (feedB ns k)).map nD) none (some ((9 : Nat) : Int)) = ((mdO (feedB ns k)).take 9).map nD := by rw [cut_take, List.map_take]
  show 3 ≤ sizeLine ∧ w_law_turns 0 ⟨[some (.dat (scD ns)), some (.dat (.int k)), some (.cel 0), some (.dat (.tup [nD (mdN (feedB ns k)), .tup ((mdK (feedB ns k)).1.map nD), .tup (cutD ((mdO (feedB ns k)).map nD) none (some ((9 : Nat) : Int)))])), none, none, none, none], [bx (odQ (mdK (feedB ns k)).2).2.2]⟩ P
  rw [e]
  exact And.intro (szk 3) (turns_c h q4 hP)
theorem law_of (ns : List Int) (hl : ns.length ≤ 63) (hb : ∀ z ∈ ns, Builtin.Int.intBits z ≤ 1048576) : c_law [.dat (.scr (ns.map D.int))] [] (.dat (.bl true)) [] := by
  have e : ((ns.map D.int).length : Int) = ns.length := by rw [List.length_map]
  refine ⟨rfl, And.intro (show SmI (if (if 5 < ((ns.map D.int).length : Int) then 5 else ((ns.map D.int).length : Int)) > 2 then (if 5 < ((ns.map D.int).length : Int) then 5 else ((ns.map D.int).length : Int)) else 2) from ?_) ?_⟩
  · rw [e]
    unfold SmI
    split <;> split <;> omega
  refine forW_ind (Sh ns) _ ?_ ?_ _ ⟨_, _, _, _, _, _, _, _, rfl⟩
  · intro d hd S hS nx' hnx
    obtain ⟨x1, x2, x3, x4, x5, x6, x7, cs, rfl⟩ := hS
    obtain ⟨k, hk, rfl⟩ := mem_range hd
    have hk : k < 100 := by
      have hk : k < (if (if 5 < ((ns.map D.int).length : Int) then 5 else ((ns.map D.int).length : Int)) > 2 then (if 5 < ((ns.map D.int).length : Int) then 5 else ((ns.map D.int).length : Int)) else 2).toNat := hk
      rw [e] at hk
      split at hk <;> split at hk <;> omega
    rw [Int.zero_add]
    exact body_c hk hnx
  · rintro S ⟨x1, x2, x3, x4, x5, x6, x7, cs, rfl⟩
    exact And.intro rfl rfl

def tab (c_Sizes : Addr) (c_InvalidSizes : Addr) (c_InvalidSize : Addr) : Tab := fun n => match n with | 0 => some (c_Sizes, (["short_period", "short_classes", "short_odd", "class_marks", "odd_marks"] : List Str)) | 1 => some (c_InvalidSizes, (["word"] : List Str)) | 2 => some (c_InvalidSize, (["size"] : List Str)) | _ => none
set_option maxHeartbeats 0 in
theorem all_mk {l : PySem.W.OpenLaw} {w : World} {K : PySem.W.Frag} {h : Heap} {mg : Str → Option Value} {fa : Addr} (X : K.In h) (G : h.Ns mainGlobals mg) (hfa : mg "law" = some (.ref fa))
    {c_Sizes : Addr}
    {c_ClashError : Addr}
    {c_InvalidSizes : Addr}
    {c_InvalidSize : Addr}
    {c_InvalidCount : Addr}
    {c_InvalidForm : Addr}
    {c_InvalidText : Addr}
    {a__law_box : Addr} {oc__law_box kV__law_box dc__law_box pm__law_box cd__law_box ct__law_box : Value} {od__law_box an__law_box : Option Addr} {sl__law_box : Array (Option Value)}
    {a__law_parts_of : Addr} {oc__law_parts_of kV__law_parts_of dc__law_parts_of pm__law_parts_of cd__law_parts_of ct__law_parts_of : Value} {od__law_parts_of an__law_parts_of : Option Addr} {sl__law_parts_of : Array (Option Value)}
    {a__law_take : Addr} {oc__law_take kV__law_take dc__law_take pm__law_take cd__law_take ct__law_take : Value} {od__law_take an__law_take : Option Addr} {sl__law_take : Array (Option Value)}
    {a__law_period : Addr} {oc__law_period kV__law_period dc__law_period pm__law_period cd__law_period ct__law_period : Value} {od__law_period an__law_period : Option Addr} {sl__law_period : Array (Option Value)}
    {a__law_odds : Addr} {oc__law_odds kV__law_odds dc__law_odds pm__law_odds cd__law_odds ct__law_odds : Value} {od__law_odds an__law_odds : Option Addr} {sl__law_odds : Array (Option Value)}
    {a__law_model : Addr} {oc__law_model kV__law_model dc__law_model pm__law_model cd__law_model ct__law_model : Value} {od__law_model an__law_model : Option Addr} {sl__law_model : Array (Option Value)}
    {a_InvalidSizes___init__ : Addr} {oc_InvalidSizes___init__ kV_InvalidSizes___init__ dc_InvalidSizes___init__ pm_InvalidSizes___init__ cd_InvalidSizes___init__ ct_InvalidSizes___init__ : Value} {od_InvalidSizes___init__ an_InvalidSizes___init__ : Option Addr} {sl_InvalidSizes___init__ : Array (Option Value)}
    {a_prime_powers : Addr} {oc_prime_powers kV_prime_powers dc_prime_powers pm_prime_powers cd_prime_powers ct_prime_powers : Value} {od_prime_powers an_prime_powers : Option Addr} {sl_prime_powers : Array (Option Value)}
    {a_is_needless : Addr} {oc_is_needless kV_is_needless dc_is_needless pm_is_needless cd_is_needless ct_is_needless : Value} {od_is_needless an_is_needless : Option Addr} {sl_is_needless : Array (Option Value)}
    {a_shortest : Addr} {oc_shortest kV_shortest dc_shortest pm_shortest cd_shortest ct_shortest : Value} {od_shortest an_shortest : Option Addr} {sl_shortest : Array (Option Value)}
    {a_is_integer : Addr} {oc_is_integer kV_is_integer dc_is_integer pm_is_integer cd_is_integer ct_is_integer : Value} {od_is_integer an_is_integer : Option Addr} {sl_is_integer : Array (Option Value)}
    {a_are_sizes : Addr} {oc_are_sizes kV_are_sizes dc_are_sizes pm_are_sizes cd_are_sizes ct_are_sizes : Value} {od_are_sizes an_are_sizes : Option Addr} {sl_are_sizes : Array (Option Value)}
    {a_Sizes___init__ : Addr} {oc_Sizes___init__ kV_Sizes___init__ dc_Sizes___init__ pm_Sizes___init__ cd_Sizes___init__ ct_Sizes___init__ : Value} {od_Sizes___init__ an_Sizes___init__ : Option Addr} {sl_Sizes___init__ : Array (Option Value)}
    {dz_Sizes___init__ : Addr}
    {dT_Sizes___init__ : Addr} {dO_Sizes___init__ : Obj} {dU_Sizes___init__ : Value} {dN_Sizes___init__ : Nat}
    {a__law_told : Addr} {oc__law_told kV__law_told dc__law_told pm__law_told cd__law_told ct__law_told : Value} {od__law_told an__law_told : Option Addr} {sl__law_told : Array (Option Value)}
    {a__law_is_whole : Addr} {oc__law_is_whole kV__law_is_whole dc__law_is_whole pm__law_is_whole cd__law_is_whole ct__law_is_whole : Value} {od__law_is_whole an__law_is_whole : Option Addr} {sl__law_is_whole : Array (Option Value)}
    {a__law_ascends : Addr} {oc__law_ascends kV__law_ascends dc__law_ascends pm__law_ascends cd__law_ascends ct__law_ascends : Value} {od__law_ascends an__law_ascends : Option Addr} {sl__law_ascends : Array (Option Value)}
    {a__law_due : Addr} {oc__law_due kV__law_due dc__law_due pm__law_due cd__law_due ct__law_due : Value} {od__law_due an__law_due : Option Addr} {sl__law_due : Array (Option Value)}
    {a_InvalidSize___init__ : Addr} {oc_InvalidSize___init__ kV_InvalidSize___init__ dc_InvalidSize___init__ pm_InvalidSize___init__ cd_InvalidSize___init__ ct_InvalidSize___init__ : Value} {od_InvalidSize___init__ an_InvalidSize___init__ : Option Addr} {sl_InvalidSize___init__ : Array (Option Value)}
    {a_Sizes_multiples : Addr} {oc_Sizes_multiples kV_Sizes_multiples dc_Sizes_multiples pm_Sizes_multiples cd_Sizes_multiples ct_Sizes_multiples : Value} {od_Sizes_multiples an_Sizes_multiples : Option Addr} {sl_Sizes_multiples : Array (Option Value)}
    {p_Sizes_multiples : Addr} {rs_Sizes_multiples : List Value}
    {a_ascending : Addr} {oc_ascending kV_ascending dc_ascending pm_ascending cd_ascending ct_ascending : Value} {od_ascending an_ascending : Option Addr} {sl_ascending : Array (Option Value)}
    {a_Sizes_of : Addr} {oc_Sizes_of kV_Sizes_of dc_Sizes_of pm_Sizes_of cd_Sizes_of ct_Sizes_of : Value} {od_Sizes_of an_Sizes_of : Option Addr} {sl_Sizes_of : Array (Option Value)}
    {p_Sizes_of : Addr} {rs_Sizes_of : List Value}
    {a__law_size_refused : Addr} {oc__law_size_refused kV__law_size_refused dc__law_size_refused pm__law_size_refused cd__law_size_refused ct__law_size_refused : Value} {od__law_size_refused an__law_size_refused : Option Addr} {sl__law_size_refused : Array (Option Value)}
    {a__law_of_right : Addr} {oc__law_of_right kV__law_of_right dc__law_of_right pm__law_of_right cd__law_of_right ct__law_of_right : Value} {od__law_of_right an__law_of_right : Option Addr} {sl__law_of_right : Array (Option Value)}
    {a__law_thing : Addr} {oc__law_thing kV__law_thing dc__law_thing pm__law_thing cd__law_thing ct__law_thing : Value} {od__law_thing an__law_thing : Option Addr} {sl__law_thing : Array (Option Value)}
    {a__law_bent : Addr} {oc__law_bent kV__law_bent dc__law_bent pm__law_bent cd__law_bent ct__law_bent : Value} {od__law_bent an__law_bent : Option Addr} {sl__law_bent : Array (Option Value)}
    {a_law : Addr} {oc_law kV_law dc_law pm_law cd_law ct_law : Value} {od_law an_law : Option Addr} {sl_law : Array (Option Value)}
    (aC_Sizes : PySem.W.nsIn K mainGlobals "Sizes" = some (some (.ref c_Sizes)))
    (pg_Sizes : PySem.W.plainGet K c_Sizes Str.empty = true)
    (hd_Sizes : PySem.W.hasDictIn K c_Sizes = true)
    (po_Sizes : PySem.W.plainOver K c_Sizes = true)
    (sa_Sizes : PySem.W.findIn K (.ref c_Sizes) "__setattr__" = some (some (.builtin "object.__setattr__")))
    (ca_Sizes : PySem.W.findIn K (.ref c_Sizes) "__class__" = some (some (.builtin "object.__class__")))
    (cn_Sizes : PySem.W.specialIn K (.builtin "object.__class__") "__get__" = some (some (.builtin "getset_descriptor.__get__")))
    (ct_Sizes : PySem.W.takesIn K (.builtin "object.__class__") = some true)
    (cm_Sizes : PySem.W.mroIn K c_Sizes (.type "object") = some true)
    (mk_Sizes : PySem.W.makesIn K c_Sizes = true)
    (kc_Sizes : PySem.W.keepIn K (.ref c_Sizes) = true)
    (no_Sizes_short_period : PySem.W.findIn K (.ref c_Sizes) "short_period" = some none)
    (no_Sizes_short_classes : PySem.W.findIn K (.ref c_Sizes) "short_classes" = some none)
    (no_Sizes_short_odd : PySem.W.findIn K (.ref c_Sizes) "short_odd" = some none)
    (no_Sizes_class_marks : PySem.W.findIn K (.ref c_Sizes) "class_marks" = some none)
    (no_Sizes_odd_marks : PySem.W.findIn K (.ref c_Sizes) "odd_marks" = some none)
    (aC_ClashError : PySem.W.nsIn K mainGlobals "ClashError" = some (some (.ref c_ClashError)))
    (iX_ClashError : CIn K c_ClashError)
    (bs_ClashError : PySem.W.subIn K (.ref c_ClashError) (.type "BaseException") = some true)
    (hd_ClashError : PySem.W.hasDictIn K c_ClashError = true)
    (aC_InvalidSizes : PySem.W.nsIn K mainGlobals "InvalidSizes" = some (some (.ref c_InvalidSizes)))
    (oX_InvalidSizes : OexC K c_InvalidSizes)
    (xX_InvalidSizes : ExcC K c_InvalidSizes)
    (fX_InvalidSizes : XfC K c_InvalidSizes)
    (no_InvalidSizes_word : PySem.W.findIn K (.ref c_InvalidSizes) "word" = some none)
    (aC_InvalidSize : PySem.W.nsIn K mainGlobals "InvalidSize" = some (some (.ref c_InvalidSize)))
    (oX_InvalidSize : OexC K c_InvalidSize)
    (xX_InvalidSize : ExcC K c_InvalidSize)
    (fX_InvalidSize : XfC K c_InvalidSize)
    (no_InvalidSize_size : PySem.W.findIn K (.ref c_InvalidSize) "size" = some none)
    (aC_InvalidCount : PySem.W.nsIn K mainGlobals "InvalidCount" = some (some (.ref c_InvalidCount)))
    (aC_InvalidForm : PySem.W.nsIn K mainGlobals "InvalidForm" = some (some (.ref c_InvalidForm)))
    (aC_InvalidText : PySem.W.nsIn K mainGlobals "InvalidText" = some (some (.ref c_InvalidText)))
    (z_all : PySem.W.nsIn K mainGlobals "all" = some none)
    (z_any : PySem.W.nsIn K mainGlobals "any" = some none)
    (z_bool : PySem.W.nsIn K mainGlobals "bool" = some none)
    (z_int : PySem.W.nsIn K mainGlobals "int" = some none)
    (z_isinstance : PySem.W.nsIn K mainGlobals "isinstance" = some none)
    (z_len : PySem.W.nsIn K mainGlobals "len" = some none)
    (z_list : PySem.W.nsIn K mainGlobals "list" = some none)
    (z_max : PySem.W.nsIn K mainGlobals "max" = some none)
    (z_min : PySem.W.nsIn K mainGlobals "min" = some none)
    (z_range : PySem.W.nsIn K mainGlobals "range" = some none)
    (z_sorted : PySem.W.nsIn K mainGlobals "sorted" = some none)
    (z_tuple : PySem.W.nsIn K mainGlobals "tuple" = some none)
    (z_zip : PySem.W.nsIn K mainGlobals "zip" = some none)
    (at__law_box : PySem.W.nsIn K mainGlobals "_law_box" = some (some (.ref a__law_box)))
    (l__law_box : K.lookup a__law_box = some ⟨oc__law_box, od__law_box, .func (PySem.W.fnOf "_law_box" "_law_box" (defArgs s__law_box) (defBody s__law_box) (defScope s__law_box) .none kV__law_box dc__law_box pm__law_box an__law_box cd__law_box ct__law_box), sl__law_box⟩)
    (cd__law_box_ : PySem.W.codeIn K cd__law_box "_law_box" = true)
    (k__law_box : PySem.W.keepIn K (.ref a__law_box) = true)
    (at__law_parts_of : PySem.W.nsIn K mainGlobals "_law_parts_of" = some (some (.ref a__law_parts_of)))
    (l__law_parts_of : K.lookup a__law_parts_of = some ⟨oc__law_parts_of, od__law_parts_of, .func (PySem.W.fnOf "_law_parts_of" "_law_parts_of" (defArgs s__law_parts_of) (defBody s__law_parts_of) (defScope s__law_parts_of) .none kV__law_parts_of dc__law_parts_of pm__law_parts_of an__law_parts_of cd__law_parts_of ct__law_parts_of), sl__law_parts_of⟩)
    (cd__law_parts_of_ : PySem.W.codeIn K cd__law_parts_of "_law_parts_of" = true)
    (k__law_parts_of : PySem.W.keepIn K (.ref a__law_parts_of) = true)
    (at__law_take : PySem.W.nsIn K mainGlobals "_law_take" = some (some (.ref a__law_take)))
    (l__law_take : K.lookup a__law_take = some ⟨oc__law_take, od__law_take, .func (PySem.W.fnOf "_law_take" "_law_take" (defArgs s__law_take) (defBody s__law_take) (defScope s__law_take) .none kV__law_take dc__law_take pm__law_take an__law_take cd__law_take ct__law_take), sl__law_take⟩)
    (cd__law_take_ : PySem.W.codeIn K cd__law_take "_law_take" = true)
    (k__law_take : PySem.W.keepIn K (.ref a__law_take) = true)
    (at__law_period : PySem.W.nsIn K mainGlobals "_law_period" = some (some (.ref a__law_period)))
    (l__law_period : K.lookup a__law_period = some ⟨oc__law_period, od__law_period, .func (PySem.W.fnOf "_law_period" "_law_period" (defArgs s__law_period) (defBody s__law_period) (defScope s__law_period) .none kV__law_period dc__law_period pm__law_period an__law_period cd__law_period ct__law_period), sl__law_period⟩)
    (cd__law_period_ : PySem.W.codeIn K cd__law_period "_law_period" = true)
    (k__law_period : PySem.W.keepIn K (.ref a__law_period) = true)
    (at__law_odds : PySem.W.nsIn K mainGlobals "_law_odds" = some (some (.ref a__law_odds)))
    (l__law_odds : K.lookup a__law_odds = some ⟨oc__law_odds, od__law_odds, .func (PySem.W.fnOf "_law_odds" "_law_odds" (defArgs s__law_odds) (defBody s__law_odds) (defScope s__law_odds) .none kV__law_odds dc__law_odds pm__law_odds an__law_odds cd__law_odds ct__law_odds), sl__law_odds⟩)
    (cd__law_odds_ : PySem.W.codeIn K cd__law_odds "_law_odds" = true)
    (k__law_odds : PySem.W.keepIn K (.ref a__law_odds) = true)
    (at__law_model : PySem.W.nsIn K mainGlobals "_law_model" = some (some (.ref a__law_model)))
    (l__law_model : K.lookup a__law_model = some ⟨oc__law_model, od__law_model, .func (PySem.W.fnOf "_law_model" "_law_model" (defArgs s__law_model) (defBody s__law_model) (defScope s__law_model) .none kV__law_model dc__law_model pm__law_model an__law_model cd__law_model ct__law_model), sl__law_model⟩)
    (cd__law_model_ : PySem.W.codeIn K cd__law_model "_law_model" = true)
    (k__law_model : PySem.W.keepIn K (.ref a__law_model) = true)
    (at_InvalidSizes___init__ : PySem.W.findIn K (.ref c_InvalidSizes) "__init__" = some (some (.ref a_InvalidSizes___init__)))
    (ty_InvalidSizes___init__ : PySem.W.typeIn K (.ref a_InvalidSizes___init__) = some (.type "function"))
    (l_InvalidSizes___init__ : K.lookup a_InvalidSizes___init__ = some ⟨oc_InvalidSizes___init__, od_InvalidSizes___init__, .func (PySem.W.fnOf "__init__" "InvalidSizes.__init__" (defArgs s_InvalidSizes___init__) (defBody s_InvalidSizes___init__) (defScope s_InvalidSizes___init__) .none kV_InvalidSizes___init__ dc_InvalidSizes___init__ pm_InvalidSizes___init__ an_InvalidSizes___init__ cd_InvalidSizes___init__ ct_InvalidSizes___init__), sl_InvalidSizes___init__⟩)
    (cd_InvalidSizes___init___ : PySem.W.codeIn K cd_InvalidSizes___init__ "InvalidSizes.__init__" = true)
    (k_InvalidSizes___init__ : PySem.W.keepIn K (.ref a_InvalidSizes___init__) = true)
    (at_prime_powers : PySem.W.nsIn K mainGlobals "prime_powers" = some (some (.ref a_prime_powers)))
    (l_prime_powers : K.lookup a_prime_powers = some ⟨oc_prime_powers, od_prime_powers, .func (PySem.W.fnOf "prime_powers" "prime_powers" (defArgs s_prime_powers) (defBody s_prime_powers) (defScope s_prime_powers) .none kV_prime_powers dc_prime_powers pm_prime_powers an_prime_powers cd_prime_powers ct_prime_powers), sl_prime_powers⟩)
    (cd_prime_powers_ : PySem.W.codeIn K cd_prime_powers "prime_powers" = true)
    (k_prime_powers : PySem.W.keepIn K (.ref a_prime_powers) = true)
    (at_is_needless : PySem.W.nsIn K mainGlobals "is_needless" = some (some (.ref a_is_needless)))
    (l_is_needless : K.lookup a_is_needless = some ⟨oc_is_needless, od_is_needless, .func (PySem.W.fnOf "is_needless" "is_needless" (defArgs s_is_needless) (defBody s_is_needless) (defScope s_is_needless) .none kV_is_needless dc_is_needless pm_is_needless an_is_needless cd_is_needless ct_is_needless), sl_is_needless⟩)
    (cd_is_needless_ : PySem.W.codeIn K cd_is_needless "is_needless" = true)
    (k_is_needless : PySem.W.keepIn K (.ref a_is_needless) = true)
    (at_shortest : PySem.W.nsIn K mainGlobals "shortest" = some (some (.ref a_shortest)))
    (l_shortest : K.lookup a_shortest = some ⟨oc_shortest, od_shortest, .func (PySem.W.fnOf "shortest" "shortest" (defArgs s_shortest) (defBody s_shortest) (defScope s_shortest) .none kV_shortest dc_shortest pm_shortest an_shortest cd_shortest ct_shortest), sl_shortest⟩)
    (cd_shortest_ : PySem.W.codeIn K cd_shortest "shortest" = true)
    (k_shortest : PySem.W.keepIn K (.ref a_shortest) = true)
    (at_is_integer : PySem.W.nsIn K mainGlobals "is_integer" = some (some (.ref a_is_integer)))
    (l_is_integer : K.lookup a_is_integer = some ⟨oc_is_integer, od_is_integer, .func (PySem.W.fnOf "is_integer" "is_integer" (defArgs s_is_integer) (defBody s_is_integer) (defScope s_is_integer) .none kV_is_integer dc_is_integer pm_is_integer an_is_integer cd_is_integer ct_is_integer), sl_is_integer⟩)
    (cd_is_integer_ : PySem.W.codeIn K cd_is_integer "is_integer" = true)
    (k_is_integer : PySem.W.keepIn K (.ref a_is_integer) = true)
    (at_are_sizes : PySem.W.nsIn K mainGlobals "are_sizes" = some (some (.ref a_are_sizes)))
    (l_are_sizes : K.lookup a_are_sizes = some ⟨oc_are_sizes, od_are_sizes, .func (PySem.W.fnOf "are_sizes" "are_sizes" (defArgs s_are_sizes) (defBody s_are_sizes) (defScope s_are_sizes) .none kV_are_sizes dc_are_sizes pm_are_sizes an_are_sizes cd_are_sizes ct_are_sizes), sl_are_sizes⟩)
    (cd_are_sizes_ : PySem.W.codeIn K cd_are_sizes "are_sizes" = true)
    (k_are_sizes : PySem.W.keepIn K (.ref a_are_sizes) = true)
    (at_Sizes___init__ : PySem.W.findIn K (.ref c_Sizes) "__init__" = some (some (.ref a_Sizes___init__)))
    (fn_Sizes___init__ : PySem.W.isFn K (.ref a_Sizes___init__) = true)
    (de_Sizes___init__ : SqT K (fun _ => none) dz_Sizes___init__ [])
    (l_Sizes___init__ : K.lookup a_Sizes___init__ = some ⟨oc_Sizes___init__, od_Sizes___init__, .func (PySem.W.fnOf "__init__" "Sizes.__init__" (defArgs s_Sizes___init__) (defBody s_Sizes___init__) (defScope s_Sizes___init__) (.ref dT_Sizes___init__) kV_Sizes___init__ dc_Sizes___init__ pm_Sizes___init__ an_Sizes___init__ cd_Sizes___init__ ct_Sizes___init__), sl_Sizes___init__⟩)
    (cd_Sizes___init___ : PySem.W.codeIn K cd_Sizes___init__ "Sizes.__init__" = true)
    (k_Sizes___init__ : PySem.W.keepIn K (.ref a_Sizes___init__) = true)
    (dl_Sizes___init__ : K.lookup dT_Sizes___init__ = some dO_Sizes___init__)
    (dd_Sizes___init__ : dO_Sizes___init__.data = .seq #[dU_Sizes___init__] dN_Sizes___init__)
    (dr_Sizes___init__ : RelV (.ref dz_Sizes___init__) dU_Sizes___init__)
    (at__law_told : PySem.W.nsIn K mainGlobals "_law_told" = some (some (.ref a__law_told)))
    (l__law_told : K.lookup a__law_told = some ⟨oc__law_told, od__law_told, .func (PySem.W.fnOf "_law_told" "_law_told" (defArgs s__law_told) (defBody s__law_told) (defScope s__law_told) .none kV__law_told dc__law_told pm__law_told an__law_told cd__law_told ct__law_told), sl__law_told⟩)
    (cd__law_told_ : PySem.W.codeIn K cd__law_told "_law_told" = true)
    (k__law_told : PySem.W.keepIn K (.ref a__law_told) = true)
    (at__law_is_whole : PySem.W.nsIn K mainGlobals "_law_is_whole" = some (some (.ref a__law_is_whole)))
    (l__law_is_whole : K.lookup a__law_is_whole = some ⟨oc__law_is_whole, od__law_is_whole, .func (PySem.W.fnOf "_law_is_whole" "_law_is_whole" (defArgs s__law_is_whole) (defBody s__law_is_whole) (defScope s__law_is_whole) .none kV__law_is_whole dc__law_is_whole pm__law_is_whole an__law_is_whole cd__law_is_whole ct__law_is_whole), sl__law_is_whole⟩)
    (cd__law_is_whole_ : PySem.W.codeIn K cd__law_is_whole "_law_is_whole" = true)
    (k__law_is_whole : PySem.W.keepIn K (.ref a__law_is_whole) = true)
    (at__law_ascends : PySem.W.nsIn K mainGlobals "_law_ascends" = some (some (.ref a__law_ascends)))
    (l__law_ascends : K.lookup a__law_ascends = some ⟨oc__law_ascends, od__law_ascends, .func (PySem.W.fnOf "_law_ascends" "_law_ascends" (defArgs s__law_ascends) (defBody s__law_ascends) (defScope s__law_ascends) .none kV__law_ascends dc__law_ascends pm__law_ascends an__law_ascends cd__law_ascends ct__law_ascends), sl__law_ascends⟩)
    (cd__law_ascends_ : PySem.W.codeIn K cd__law_ascends "_law_ascends" = true)
    (k__law_ascends : PySem.W.keepIn K (.ref a__law_ascends) = true)
    (at__law_due : PySem.W.nsIn K mainGlobals "_law_due" = some (some (.ref a__law_due)))
    (l__law_due : K.lookup a__law_due = some ⟨oc__law_due, od__law_due, .func (PySem.W.fnOf "_law_due" "_law_due" (defArgs s__law_due) (defBody s__law_due) (defScope s__law_due) .none kV__law_due dc__law_due pm__law_due an__law_due cd__law_due ct__law_due), sl__law_due⟩)
    (cd__law_due_ : PySem.W.codeIn K cd__law_due "_law_due" = true)
    (k__law_due : PySem.W.keepIn K (.ref a__law_due) = true)
    (at_InvalidSize___init__ : PySem.W.findIn K (.ref c_InvalidSize) "__init__" = some (some (.ref a_InvalidSize___init__)))
    (ty_InvalidSize___init__ : PySem.W.typeIn K (.ref a_InvalidSize___init__) = some (.type "function"))
    (l_InvalidSize___init__ : K.lookup a_InvalidSize___init__ = some ⟨oc_InvalidSize___init__, od_InvalidSize___init__, .func (PySem.W.fnOf "__init__" "InvalidSize.__init__" (defArgs s_InvalidSize___init__) (defBody s_InvalidSize___init__) (defScope s_InvalidSize___init__) .none kV_InvalidSize___init__ dc_InvalidSize___init__ pm_InvalidSize___init__ an_InvalidSize___init__ cd_InvalidSize___init__ ct_InvalidSize___init__), sl_InvalidSize___init__⟩)
    (cd_InvalidSize___init___ : PySem.W.codeIn K cd_InvalidSize___init__ "InvalidSize.__init__" = true)
    (k_InvalidSize___init__ : PySem.W.keepIn K (.ref a_InvalidSize___init__) = true)
    (at_Sizes_multiples : PySem.W.findCls K (.ref c_Sizes) (.type "type") "multiples" = some (.get (.builtin "staticmethod.__get__") (.ref p_Sizes_multiples) .none (.ref c_Sizes)))
    (sr_Sizes_multiples : PySem.W.recIn K p_Sizes_multiples "staticmethod" = some (.ref a_Sizes_multiples :: rs_Sizes_multiples))
    (sg_Sizes_multiples : PySem.W.specialIn K (.ref c_Sizes) "__getattribute__" = some (some (.builtin "type.__getattribute__")))
    (st_Sizes_multiples : PySem.W.typeIn K (.ref c_Sizes) = some (.type "type"))
    (sd_Sizes_multiples : PySem.W.readsIn K c_Sizes (.type "type") = true)
    (l_Sizes_multiples : K.lookup a_Sizes_multiples = some ⟨oc_Sizes_multiples, od_Sizes_multiples, .func (PySem.W.fnOf "multiples" "Sizes.multiples" (defArgs s_Sizes_multiples) (defBody s_Sizes_multiples) (defScope s_Sizes_multiples) .none kV_Sizes_multiples dc_Sizes_multiples pm_Sizes_multiples an_Sizes_multiples cd_Sizes_multiples ct_Sizes_multiples), sl_Sizes_multiples⟩)
    (cd_Sizes_multiples_ : PySem.W.codeIn K cd_Sizes_multiples "Sizes.multiples" = true)
    (k_Sizes_multiples : PySem.W.keepIn K (.ref a_Sizes_multiples) = true)
    (at_ascending : PySem.W.nsIn K mainGlobals "ascending" = some (some (.ref a_ascending)))
    (l_ascending : K.lookup a_ascending = some ⟨oc_ascending, od_ascending, .func (PySem.W.fnOf "ascending" "ascending" (defArgs s_ascending) (defBody s_ascending) (defScope s_ascending) .none kV_ascending dc_ascending pm_ascending an_ascending cd_ascending ct_ascending), sl_ascending⟩)
    (cd_ascending_ : PySem.W.codeIn K cd_ascending "ascending" = true)
    (k_ascending : PySem.W.keepIn K (.ref a_ascending) = true)
    (at_Sizes_of : PySem.W.findCls K (.ref c_Sizes) (.type "type") "of" = some (.get (.builtin "staticmethod.__get__") (.ref p_Sizes_of) .none (.ref c_Sizes)))
    (sr_Sizes_of : PySem.W.recIn K p_Sizes_of "staticmethod" = some (.ref a_Sizes_of :: rs_Sizes_of))
    (sg_Sizes_of : PySem.W.specialIn K (.ref c_Sizes) "__getattribute__" = some (some (.builtin "type.__getattribute__")))
    (st_Sizes_of : PySem.W.typeIn K (.ref c_Sizes) = some (.type "type"))
    (sd_Sizes_of : PySem.W.readsIn K c_Sizes (.type "type") = true)
    (l_Sizes_of : K.lookup a_Sizes_of = some ⟨oc_Sizes_of, od_Sizes_of, .func (PySem.W.fnOf "of" "Sizes.of" (defArgs s_Sizes_of) (defBody s_Sizes_of) (defScope s_Sizes_of) .none kV_Sizes_of dc_Sizes_of pm_Sizes_of an_Sizes_of cd_Sizes_of ct_Sizes_of), sl_Sizes_of⟩)
    (cd_Sizes_of_ : PySem.W.codeIn K cd_Sizes_of "Sizes.of" = true)
    (k_Sizes_of : PySem.W.keepIn K (.ref a_Sizes_of) = true)
    (at__law_size_refused : PySem.W.nsIn K mainGlobals "_law_size_refused" = some (some (.ref a__law_size_refused)))
    (l__law_size_refused : K.lookup a__law_size_refused = some ⟨oc__law_size_refused, od__law_size_refused, .func (PySem.W.fnOf "_law_size_refused" "_law_size_refused" (defArgs s__law_size_refused) (defBody s__law_size_refused) (defScope s__law_size_refused) .none kV__law_size_refused dc__law_size_refused pm__law_size_refused an__law_size_refused cd__law_size_refused ct__law_size_refused), sl__law_size_refused⟩)
    (cd__law_size_refused_ : PySem.W.codeIn K cd__law_size_refused "_law_size_refused" = true)
    (k__law_size_refused : PySem.W.keepIn K (.ref a__law_size_refused) = true)
    (at__law_of_right : PySem.W.nsIn K mainGlobals "_law_of_right" = some (some (.ref a__law_of_right)))
    (l__law_of_right : K.lookup a__law_of_right = some ⟨oc__law_of_right, od__law_of_right, .func (PySem.W.fnOf "_law_of_right" "_law_of_right" (defArgs s__law_of_right) (defBody s__law_of_right) (defScope s__law_of_right) .none kV__law_of_right dc__law_of_right pm__law_of_right an__law_of_right cd__law_of_right ct__law_of_right), sl__law_of_right⟩)
    (cd__law_of_right_ : PySem.W.codeIn K cd__law_of_right "_law_of_right" = true)
    (k__law_of_right : PySem.W.keepIn K (.ref a__law_of_right) = true)
    (at__law_thing : PySem.W.nsIn K mainGlobals "_law_thing" = some (some (.ref a__law_thing)))
    (l__law_thing : K.lookup a__law_thing = some ⟨oc__law_thing, od__law_thing, .func (PySem.W.fnOf "_law_thing" "_law_thing" (defArgs s__law_thing) (defBody s__law_thing) (defScope s__law_thing) .none kV__law_thing dc__law_thing pm__law_thing an__law_thing cd__law_thing ct__law_thing), sl__law_thing⟩)
    (cd__law_thing_ : PySem.W.codeIn K cd__law_thing "_law_thing" = true)
    (k__law_thing : PySem.W.keepIn K (.ref a__law_thing) = true)
    (at__law_bent : PySem.W.nsIn K mainGlobals "_law_bent" = some (some (.ref a__law_bent)))
    (l__law_bent : K.lookup a__law_bent = some ⟨oc__law_bent, od__law_bent, .func (PySem.W.fnOf "_law_bent" "_law_bent" (defArgs s__law_bent) (defBody s__law_bent) (defScope s__law_bent) .none kV__law_bent dc__law_bent pm__law_bent an__law_bent cd__law_bent ct__law_bent), sl__law_bent⟩)
    (cd__law_bent_ : PySem.W.codeIn K cd__law_bent "_law_bent" = true)
    (k__law_bent : PySem.W.keepIn K (.ref a__law_bent) = true)
    (at_law : PySem.W.nsIn K mainGlobals "law" = some (some (.ref a_law)))
    (l_law : K.lookup a_law = some ⟨oc_law, od_law, .func (PySem.W.fnOf "law" "law" (defArgs s_law) (defBody s_law) (defScope s_law) .none kV_law dc_law pm_law an_law cd_law ct_law), sl_law⟩)
    (cd_law_ : PySem.W.codeIn K cd_law "law" = true)
    (k_law : PySem.W.keepIn K (.ref a_law) = true)
    (su_Sizes_bool : PySem.W.subIn K (.ref c_Sizes) (.type "bool") = some false)
    (su_Sizes_int : PySem.W.subIn K (.ref c_Sizes) (.type "int") = some false)
    (su_Sizes_tuple : PySem.W.subIn K (.ref c_Sizes) (.type "tuple") = some false)
    (ex_InvalidSizes_InvalidSize : PySem.W.exmOne K (.ref c_InvalidSizes) (.ref c_InvalidSize) = some false)
    (ex_InvalidSize_InvalidSize : PySem.W.exmOne K (.ref c_InvalidSize) (.ref c_InvalidSize) = some true)
    (ex_InvalidSizes_InvalidSizes : PySem.W.exmOne K (.ref c_InvalidSizes) (.ref c_InvalidSizes) = some true)
    (ex_InvalidSize_InvalidSizes : PySem.W.exmOne K (.ref c_InvalidSize) (.ref c_InvalidSizes) = some false)
    (no_InvalidSizes_size : PySem.W.findIn K (.ref c_InvalidSizes) "size" = some none)
    (no_InvalidSize_word : PySem.W.findIn K (.ref c_InvalidSize) "word" = some none)
    (kt_InvalidSizes_ClashError : PySem.W.kitOne K (.ref c_InvalidSizes) (.ref c_ClashError) = some true)
    (kt_InvalidSize_ClashError : PySem.W.kitOne K (.ref c_InvalidSize) (.ref c_ClashError) = some true)
    (kt_InvalidSizes_InvalidForm : PySem.W.kitOne K (.ref c_InvalidSizes) (.ref c_InvalidForm) = some false)
    (kt_InvalidSizes_InvalidSize : PySem.W.kitOne K (.ref c_InvalidSizes) (.ref c_InvalidSize) = some false)
    (kt_InvalidSizes_InvalidCount : PySem.W.kitOne K (.ref c_InvalidSizes) (.ref c_InvalidCount) = some false)
    (kt_InvalidSizes_InvalidText : PySem.W.kitOne K (.ref c_InvalidSizes) (.ref c_InvalidText) = some false)
    (kt_InvalidSize_InvalidForm : PySem.W.kitOne K (.ref c_InvalidSize) (.ref c_InvalidForm) = some false)
    (kt_InvalidSize_InvalidCount : PySem.W.kitOne K (.ref c_InvalidSize) (.ref c_InvalidCount) = some false)
    (kt_InvalidSize_InvalidText : PySem.W.kitOne K (.ref c_InvalidSize) (.ref c_InvalidText) = some false)
    : ∃ fd : FuncData, (∀ (s : Shared) (v : Value), BindsTo s fd ⟨[v], []⟩ [("_law_script", v)]) ∧ ∀ base : Heap, K.In base → base.Ns mainGlobals mg → FnOk l.prog w K mg base CX0 8 fa fd ["_law_script"] (spL K) := by
  have e : a_law = fa := by
    have e := (PySem.W.mg_of X G at_law).symm.trans hfa
    cases e
    rfl
  subst e
  let t : Tx (tab c_Sizes c_InvalidSizes c_InvalidSize) K mg := {
    c_Sizes := c_Sizes,
    T_Sizes := rfl,
    cl_Sizes := ⟨pg_Sizes, hd_Sizes, po_Sizes, sa_Sizes⟩,
    i_Sizes := ⟨⟨pg_Sizes, hd_Sizes, po_Sizes, sa_Sizes⟩, ca_Sizes, cn_Sizes, ct_Sizes, cm_Sizes⟩,
    m_Sizes := PySem.W.mg_of X G aC_Sizes,
    no_Sizes_short_period := no_Sizes_short_period,
    no_Sizes_short_classes := no_Sizes_short_classes,
    no_Sizes_short_odd := no_Sizes_short_odd,
    no_Sizes_class_marks := no_Sizes_class_marks,
    no_Sizes_odd_marks := no_Sizes_odd_marks,
    c_ClashError := c_ClashError,
    m_ClashError := PySem.W.mg_of X G aC_ClashError,
    ci_ClashError := iX_ClashError,
    bs_ClashError := bs_ClashError,
    hd_ClashError := hd_ClashError,
    c_InvalidSizes := c_InvalidSizes,
    T_InvalidSizes := rfl,
    m_InvalidSizes := PySem.W.mg_of X G aC_InvalidSizes,
    o_InvalidSizes := oX_InvalidSizes,
    x_InvalidSizes := xX_InvalidSizes,
    xf_InvalidSizes := fX_InvalidSizes,
    no_InvalidSizes_word := no_InvalidSizes_word,
    c_InvalidSize := c_InvalidSize,
    T_InvalidSize := rfl,
    m_InvalidSize := PySem.W.mg_of X G aC_InvalidSize,
    o_InvalidSize := oX_InvalidSize,
    x_InvalidSize := xX_InvalidSize,
    xf_InvalidSize := fX_InvalidSize,
    no_InvalidSize_size := no_InvalidSize_size,
    c_InvalidCount := c_InvalidCount,
    m_InvalidCount := PySem.W.mg_of X G aC_InvalidCount,
    c_InvalidForm := c_InvalidForm,
    m_InvalidForm := PySem.W.mg_of X G aC_InvalidForm,
    c_InvalidText := c_InvalidText,
    m_InvalidText := PySem.W.mg_of X G aC_InvalidText,
    z_all := PySem.W.mg_none_of X G z_all,
    z_any := PySem.W.mg_none_of X G z_any,
    z_bool := PySem.W.mg_none_of X G z_bool,
    z_int := PySem.W.mg_none_of X G z_int,
    z_isinstance := PySem.W.mg_none_of X G z_isinstance,
    z_len := PySem.W.mg_none_of X G z_len,
    z_list := PySem.W.mg_none_of X G z_list,
    z_max := PySem.W.mg_none_of X G z_max,
    z_min := PySem.W.mg_none_of X G z_min,
    z_range := PySem.W.mg_none_of X G z_range,
    z_sorted := PySem.W.mg_none_of X G z_sorted,
    z_tuple := PySem.W.mg_none_of X G z_tuple,
    z_zip := PySem.W.mg_none_of X G z_zip,
    a__law_box := a__law_box,
    fd__law_box := PySem.W.fnOf "_law_box" "_law_box" (defArgs s__law_box) (defBody s__law_box) (defScope s__law_box) .none kV__law_box dc__law_box pm__law_box an__law_box cd__law_box ct__law_box,
    F__law_box := fun_mk (st := s__law_box) l__law_box cd__law_box_ k__law_box,
    b__law_box := (fun_mk (st := s__law_box) l__law_box cd__law_box_ k__law_box).binds (ps := ["_law_script", "_law_k"]) fun _ _ _ _ _ _ us hl => match us, hl with | [_, _], _ => rfl,
    m__law_box := PySem.W.mg_of X G at__law_box,
    a__law_parts_of := a__law_parts_of,
    fd__law_parts_of := PySem.W.fnOf "_law_parts_of" "_law_parts_of" (defArgs s__law_parts_of) (defBody s__law_parts_of) (defScope s__law_parts_of) .none kV__law_parts_of dc__law_parts_of pm__law_parts_of an__law_parts_of cd__law_parts_of ct__law_parts_of,
    F__law_parts_of := fun_mk (st := s__law_parts_of) l__law_parts_of cd__law_parts_of_ k__law_parts_of,
    b__law_parts_of := (fun_mk (st := s__law_parts_of) l__law_parts_of cd__law_parts_of_ k__law_parts_of).binds (ps := ["_law_number"]) fun _ _ _ _ _ _ us hl => match us, hl with | [_], _ => rfl,
    m__law_parts_of := PySem.W.mg_of X G at__law_parts_of,
    a__law_take := a__law_take,
    fd__law_take := PySem.W.fnOf "_law_take" "_law_take" (defArgs s__law_take) (defBody s__law_take) (defScope s__law_take) .none kV__law_take dc__law_take pm__law_take an__law_take cd__law_take ct__law_take,
    F__law_take := fun_mk (st := s__law_take) l__law_take cd__law_take_ k__law_take,
    b__law_take := (fun_mk (st := s__law_take) l__law_take cd__law_take_ k__law_take).binds (ps := ["_law_box_here", "_law_many"]) fun _ _ _ _ _ _ us hl => match us, hl with | [_, _], _ => rfl,
    m__law_take := PySem.W.mg_of X G at__law_take,
    a__law_period := a__law_period,
    fd__law_period := PySem.W.fnOf "_law_period" "_law_period" (defArgs s__law_period) (defBody s__law_period) (defScope s__law_period) .none kV__law_period dc__law_period pm__law_period an__law_period cd__law_period ct__law_period,
    F__law_period := fun_mk (st := s__law_period) l__law_period cd__law_period_ k__law_period,
    b__law_period := (fun_mk (st := s__law_period) l__law_period cd__law_period_ k__law_period).binds (ps := ["_law_box_here"]) fun _ _ _ _ _ _ us hl => match us, hl with | [_], _ => rfl,
    m__law_period := PySem.W.mg_of X G at__law_period,
    a__law_odds := a__law_odds,
    fd__law_odds := PySem.W.fnOf "_law_odds" "_law_odds" (defArgs s__law_odds) (defBody s__law_odds) (defScope s__law_odds) .none kV__law_odds dc__law_odds pm__law_odds an__law_odds cd__law_odds ct__law_odds,
    F__law_odds := fun_mk (st := s__law_odds) l__law_odds cd__law_odds_ k__law_odds,
    b__law_odds := (fun_mk (st := s__law_odds) l__law_odds cd__law_odds_ k__law_odds).binds (ps := ["_law_box_here"]) fun _ _ _ _ _ _ us hl => match us, hl with | [_], _ => rfl,
    m__law_odds := PySem.W.mg_of X G at__law_odds,
    a__law_model := a__law_model,
    fd__law_model := PySem.W.fnOf "_law_model" "_law_model" (defArgs s__law_model) (defBody s__law_model) (defScope s__law_model) .none kV__law_model dc__law_model pm__law_model an__law_model cd__law_model ct__law_model,
    F__law_model := fun_mk (st := s__law_model) l__law_model cd__law_model_ k__law_model,
    b__law_model := (fun_mk (st := s__law_model) l__law_model cd__law_model_ k__law_model).binds (ps := ["_law_box_here"]) fun _ _ _ _ _ _ us hl => match us, hl with | [_], _ => rfl,
    m__law_model := PySem.W.mg_of X G at__law_model,
    a_InvalidSizes___init__ := a_InvalidSizes___init__,
    fd_InvalidSizes___init__ := PySem.W.fnOf "__init__" "InvalidSizes.__init__" (defArgs s_InvalidSizes___init__) (defBody s_InvalidSizes___init__) (defScope s_InvalidSizes___init__) .none kV_InvalidSizes___init__ dc_InvalidSizes___init__ pm_InvalidSizes___init__ an_InvalidSizes___init__ cd_InvalidSizes___init__ ct_InvalidSizes___init__,
    F_InvalidSizes___init__ := fun_mk (st := s_InvalidSizes___init__) l_InvalidSizes___init__ cd_InvalidSizes___init___ k_InvalidSizes___init__,
    b_InvalidSizes___init__ := (fun_mk (st := s_InvalidSizes___init__) l_InvalidSizes___init__ cd_InvalidSizes___init___ k_InvalidSizes___init__).binds (ps := ["self", "word"]) fun _ _ _ _ _ _ us hl => match us, hl with | [_, _], _ => rfl,
    at_InvalidSizes___init__ := at_InvalidSizes___init__,
    ty_InvalidSizes___init__ := ty_InvalidSizes___init__,
    a_prime_powers := a_prime_powers,
    fd_prime_powers := PySem.W.fnOf "prime_powers" "prime_powers" (defArgs s_prime_powers) (defBody s_prime_powers) (defScope s_prime_powers) .none kV_prime_powers dc_prime_powers pm_prime_powers an_prime_powers cd_prime_powers ct_prime_powers,
    F_prime_powers := fun_mk (st := s_prime_powers) l_prime_powers cd_prime_powers_ k_prime_powers,
    b_prime_powers := (fun_mk (st := s_prime_powers) l_prime_powers cd_prime_powers_ k_prime_powers).binds (ps := ["number"]) fun _ _ _ _ _ _ us hl => match us, hl with | [_], _ => rfl,
    m_prime_powers := PySem.W.mg_of X G at_prime_powers,
    a_is_needless := a_is_needless,
    fd_is_needless := PySem.W.fnOf "is_needless" "is_needless" (defArgs s_is_needless) (defBody s_is_needless) (defScope s_is_needless) .none kV_is_needless dc_is_needless pm_is_needless an_is_needless cd_is_needless ct_is_needless,
    F_is_needless := fun_mk (st := s_is_needless) l_is_needless cd_is_needless_ k_is_needless,
    b_is_needless := (fun_mk (st := s_is_needless) l_is_needless cd_is_needless_ k_is_needless).binds (ps := ["period", "known", "prime"]) fun _ _ _ _ _ _ us hl => match us, hl with | [_, _, _], _ => rfl,
    m_is_needless := PySem.W.mg_of X G at_is_needless,
    a_shortest := a_shortest,
    fd_shortest := PySem.W.fnOf "shortest" "shortest" (defArgs s_shortest) (defBody s_shortest) (defScope s_shortest) .none kV_shortest dc_shortest pm_shortest an_shortest cd_shortest ct_shortest,
    F_shortest := fun_mk (st := s_shortest) l_shortest cd_shortest_ k_shortest,
    b_shortest := (fun_mk (st := s_shortest) l_shortest cd_shortest_ k_shortest).binds (ps := ["period", "classes"]) fun _ _ _ _ _ _ us hl => match us, hl with | [_, _], _ => rfl,
    m_shortest := PySem.W.mg_of X G at_shortest,
    a_is_integer := a_is_integer,
    fd_is_integer := PySem.W.fnOf "is_integer" "is_integer" (defArgs s_is_integer) (defBody s_is_integer) (defScope s_is_integer) .none kV_is_integer dc_is_integer pm_is_integer an_is_integer cd_is_integer ct_is_integer,
    F_is_integer := fun_mk (st := s_is_integer) l_is_integer cd_is_integer_ k_is_integer,
    b_is_integer := (fun_mk (st := s_is_integer) l_is_integer cd_is_integer_ k_is_integer).binds (ps := ["value"]) fun _ _ _ _ _ _ us hl => match us, hl with | [_], _ => rfl,
    m_is_integer := PySem.W.mg_of X G at_is_integer,
    a_are_sizes := a_are_sizes,
    fd_are_sizes := PySem.W.fnOf "are_sizes" "are_sizes" (defArgs s_are_sizes) (defBody s_are_sizes) (defScope s_are_sizes) .none kV_are_sizes dc_are_sizes pm_are_sizes an_are_sizes cd_are_sizes ct_are_sizes,
    F_are_sizes := fun_mk (st := s_are_sizes) l_are_sizes cd_are_sizes_ k_are_sizes,
    b_are_sizes := (fun_mk (st := s_are_sizes) l_are_sizes cd_are_sizes_ k_are_sizes).binds (ps := ["value"]) fun _ _ _ _ _ _ us hl => match us, hl with | [_], _ => rfl,
    m_are_sizes := PySem.W.mg_of X G at_are_sizes,
    dz_Sizes___init__ := dz_Sizes___init__,
    de_Sizes___init__ := de_Sizes___init__,
    a_Sizes___init__ := a_Sizes___init__,
    fd_Sizes___init__ := PySem.W.fnOf "__init__" "Sizes.__init__" (defArgs s_Sizes___init__) (defBody s_Sizes___init__) (defScope s_Sizes___init__) (.ref dT_Sizes___init__) kV_Sizes___init__ dc_Sizes___init__ pm_Sizes___init__ an_Sizes___init__ cd_Sizes___init__ ct_Sizes___init__,
    F_Sizes___init__ := fd_mk (st := s_Sizes___init__) l_Sizes___init__ cd_Sizes___init___ k_Sizes___init__ (dfl1 dl_Sizes___init__ dd_Sizes___init__ dr_Sizes___init__) (.inl rfl),
    K_Sizes := ⟨mk_Sizes, at_Sizes___init__, fn_Sizes___init__, kc_Sizes⟩,
    a__law_told := a__law_told,
    fd__law_told := PySem.W.fnOf "_law_told" "_law_told" (defArgs s__law_told) (defBody s__law_told) (defScope s__law_told) .none kV__law_told dc__law_told pm__law_told an__law_told cd__law_told ct__law_told,
    F__law_told := fun_mk (st := s__law_told) l__law_told cd__law_told_ k__law_told,
    b__law_told := (fun_mk (st := s__law_told) l__law_told cd__law_told_ k__law_told).binds (ps := ["_law_cycle", "_law_kinds", "_law_odd_ones"]) fun _ _ _ _ _ _ us hl => match us, hl with | [_, _, _], _ => rfl,
    m__law_told := PySem.W.mg_of X G at__law_told,
    a__law_is_whole := a__law_is_whole,
    fd__law_is_whole := PySem.W.fnOf "_law_is_whole" "_law_is_whole" (defArgs s__law_is_whole) (defBody s__law_is_whole) (defScope s__law_is_whole) .none kV__law_is_whole dc__law_is_whole pm__law_is_whole an__law_is_whole cd__law_is_whole ct__law_is_whole,
    F__law_is_whole := fun_mk (st := s__law_is_whole) l__law_is_whole cd__law_is_whole_ k__law_is_whole,
    b__law_is_whole := (fun_mk (st := s__law_is_whole) l__law_is_whole cd__law_is_whole_ k__law_is_whole).binds (ps := ["_law_thing_here"]) fun _ _ _ _ _ _ us hl => match us, hl with | [_], _ => rfl,
    m__law_is_whole := PySem.W.mg_of X G at__law_is_whole,
    a__law_ascends := a__law_ascends,
    fd__law_ascends := PySem.W.fnOf "_law_ascends" "_law_ascends" (defArgs s__law_ascends) (defBody s__law_ascends) (defScope s__law_ascends) .none kV__law_ascends dc__law_ascends pm__law_ascends an__law_ascends cd__law_ascends ct__law_ascends,
    F__law_ascends := fun_mk (st := s__law_ascends) l__law_ascends cd__law_ascends_ k__law_ascends,
    b__law_ascends := (fun_mk (st := s__law_ascends) l__law_ascends cd__law_ascends_ k__law_ascends).binds (ps := ["_law_thing_here"]) fun _ _ _ _ _ _ us hl => match us, hl with | [_], _ => rfl,
    m__law_ascends := PySem.W.mg_of X G at__law_ascends,
    a__law_due := a__law_due,
    fd__law_due := PySem.W.fnOf "_law_due" "_law_due" (defArgs s__law_due) (defBody s__law_due) (defScope s__law_due) .none kV__law_due dc__law_due pm__law_due an__law_due cd__law_due ct__law_due,
    F__law_due := fun_mk (st := s__law_due) l__law_due cd__law_due_ k__law_due,
    b__law_due := (fun_mk (st := s__law_due) l__law_due cd__law_due_ k__law_due).binds (ps := ["_law_model_here"]) fun _ _ _ _ _ _ us hl => match us, hl with | [_], _ => rfl,
    m__law_due := PySem.W.mg_of X G at__law_due,
    a_InvalidSize___init__ := a_InvalidSize___init__,
    fd_InvalidSize___init__ := PySem.W.fnOf "__init__" "InvalidSize.__init__" (defArgs s_InvalidSize___init__) (defBody s_InvalidSize___init__) (defScope s_InvalidSize___init__) .none kV_InvalidSize___init__ dc_InvalidSize___init__ pm_InvalidSize___init__ an_InvalidSize___init__ cd_InvalidSize___init__ ct_InvalidSize___init__,
    F_InvalidSize___init__ := fun_mk (st := s_InvalidSize___init__) l_InvalidSize___init__ cd_InvalidSize___init___ k_InvalidSize___init__,
    b_InvalidSize___init__ := (fun_mk (st := s_InvalidSize___init__) l_InvalidSize___init__ cd_InvalidSize___init___ k_InvalidSize___init__).binds (ps := ["self", "size"]) fun _ _ _ _ _ _ us hl => match us, hl with | [_, _], _ => rfl,
    at_InvalidSize___init__ := at_InvalidSize___init__,
    ty_InvalidSize___init__ := ty_InvalidSize___init__,
    a_Sizes_multiples := a_Sizes_multiples,
    fd_Sizes_multiples := PySem.W.fnOf "multiples" "Sizes.multiples" (defArgs s_Sizes_multiples) (defBody s_Sizes_multiples) (defScope s_Sizes_multiples) .none kV_Sizes_multiples dc_Sizes_multiples pm_Sizes_multiples an_Sizes_multiples cd_Sizes_multiples ct_Sizes_multiples,
    F_Sizes_multiples := fun_mk (st := s_Sizes_multiples) l_Sizes_multiples cd_Sizes_multiples_ k_Sizes_multiples,
    b_Sizes_multiples := (fun_mk (st := s_Sizes_multiples) l_Sizes_multiples cd_Sizes_multiples_ k_Sizes_multiples).binds (ps := ["d"]) fun _ _ _ _ _ _ us hl => match us, hl with | [_], _ => rfl,
    p_Sizes_multiples := p_Sizes_multiples,
    S_Sizes_multiples := ⟨sg_Sizes_multiples, st_Sizes_multiples, sd_Sizes_multiples, at_Sizes_multiples, _, sr_Sizes_multiples⟩,
    kw_Sizes_multiples := Dl.Fun.kwAll (fun_mk (st := s_Sizes_multiples) l_Sizes_multiples cd_Sizes_multiples_ k_Sizes_multiples) (ps := ["d"]) fun _ _ _ _ _ _ us hl => match us, hl with | [_], _ => rfl,
    a_ascending := a_ascending,
    fd_ascending := PySem.W.fnOf "ascending" "ascending" (defArgs s_ascending) (defBody s_ascending) (defScope s_ascending) .none kV_ascending dc_ascending pm_ascending an_ascending cd_ascending ct_ascending,
    F_ascending := fun_mk (st := s_ascending) l_ascending cd_ascending_ k_ascending,
    b_ascending := (fun_mk (st := s_ascending) l_ascending cd_ascending_ k_ascending).binds (ps := ["numbers"]) fun _ _ _ _ _ _ us hl => match us, hl with | [_], _ => rfl,
    m_ascending := PySem.W.mg_of X G at_ascending,
    a_Sizes_of := a_Sizes_of,
    fd_Sizes_of := PySem.W.fnOf "of" "Sizes.of" (defArgs s_Sizes_of) (defBody s_Sizes_of) (defScope s_Sizes_of) .none kV_Sizes_of dc_Sizes_of pm_Sizes_of an_Sizes_of cd_Sizes_of ct_Sizes_of,
    F_Sizes_of := fun_mk (st := s_Sizes_of) l_Sizes_of cd_Sizes_of_ k_Sizes_of,
    b_Sizes_of := (fun_mk (st := s_Sizes_of) l_Sizes_of cd_Sizes_of_ k_Sizes_of).binds (ps := ["numbers"]) fun _ _ _ _ _ _ us hl => match us, hl with | [_], _ => rfl,
    p_Sizes_of := p_Sizes_of,
    S_Sizes_of := ⟨sg_Sizes_of, st_Sizes_of, sd_Sizes_of, at_Sizes_of, _, sr_Sizes_of⟩,
    kw_Sizes_of := Dl.Fun.kwAll (fun_mk (st := s_Sizes_of) l_Sizes_of cd_Sizes_of_ k_Sizes_of) (ps := ["numbers"]) fun _ _ _ _ _ _ us hl => match us, hl with | [_], _ => rfl,
    a__law_size_refused := a__law_size_refused,
    fd__law_size_refused := PySem.W.fnOf "_law_size_refused" "_law_size_refused" (defArgs s__law_size_refused) (defBody s__law_size_refused) (defScope s__law_size_refused) .none kV__law_size_refused dc__law_size_refused pm__law_size_refused an__law_size_refused cd__law_size_refused ct__law_size_refused,
    F__law_size_refused := fun_mk (st := s__law_size_refused) l__law_size_refused cd__law_size_refused_ k__law_size_refused,
    b__law_size_refused := (fun_mk (st := s__law_size_refused) l__law_size_refused cd__law_size_refused_ k__law_size_refused).binds (ps := ["_law_numbers", "_law_is_one"]) fun _ _ _ _ _ _ us hl => match us, hl with | [_, _], _ => rfl,
    m__law_size_refused := PySem.W.mg_of X G at__law_size_refused,
    a__law_of_right := a__law_of_right,
    fd__law_of_right := PySem.W.fnOf "_law_of_right" "_law_of_right" (defArgs s__law_of_right) (defBody s__law_of_right) (defScope s__law_of_right) .none kV__law_of_right dc__law_of_right pm__law_of_right an__law_of_right cd__law_of_right ct__law_of_right,
    F__law_of_right := fun_mk (st := s__law_of_right) l__law_of_right cd__law_of_right_ k__law_of_right,
    b__law_of_right := (fun_mk (st := s__law_of_right) l__law_of_right cd__law_of_right_ k__law_of_right).binds (ps := ["_law_box_here"]) fun _ _ _ _ _ _ us hl => match us, hl with | [_], _ => rfl,
    m__law_of_right := PySem.W.mg_of X G at__law_of_right,
    a__law_thing := a__law_thing,
    fd__law_thing := PySem.W.fnOf "_law_thing" "_law_thing" (defArgs s__law_thing) (defBody s__law_thing) (defScope s__law_thing) .none kV__law_thing dc__law_thing pm__law_thing an__law_thing cd__law_thing ct__law_thing,
    F__law_thing := fun_mk (st := s__law_thing) l__law_thing cd__law_thing_ k__law_thing,
    b__law_thing := (fun_mk (st := s__law_thing) l__law_thing cd__law_thing_ k__law_thing).binds (ps := ["_law_box_here"]) fun _ _ _ _ _ _ us hl => match us, hl with | [_], _ => rfl,
    m__law_thing := PySem.W.mg_of X G at__law_thing,
    a__law_bent := a__law_bent,
    fd__law_bent := PySem.W.fnOf "_law_bent" "_law_bent" (defArgs s__law_bent) (defBody s__law_bent) (defScope s__law_bent) .none kV__law_bent dc__law_bent pm__law_bent an__law_bent cd__law_bent ct__law_bent,
    F__law_bent := fun_mk (st := s__law_bent) l__law_bent cd__law_bent_ k__law_bent,
    b__law_bent := (fun_mk (st := s__law_bent) l__law_bent cd__law_bent_ k__law_bent).binds (ps := ["_law_box_here", "_law_thing_here"]) fun _ _ _ _ _ _ us hl => match us, hl with | [_, _], _ => rfl,
    m__law_bent := PySem.W.mg_of X G at__law_bent,
    a_law := a_law,
    fd_law := PySem.W.fnOf "law" "law" (defArgs s_law) (defBody s_law) (defScope s_law) .none kV_law dc_law pm_law an_law cd_law ct_law,
    F_law := fun_mk (st := s_law) l_law cd_law_ k_law,
    b_law := (fun_mk (st := s_law) l_law cd_law_ k_law).binds (ps := ["_law_script"]) fun _ _ _ _ _ _ us hl => match us, hl with | [_], _ => rfl,
    m_law := PySem.W.mg_of X G at_law,
    su_Sizes_bool := su_Sizes_bool,
    su_Sizes_int := su_Sizes_int,
    su_Sizes_tuple := su_Sizes_tuple,
    ex_InvalidSizes_InvalidSize := ex_InvalidSizes_InvalidSize,
    ex_InvalidSize_InvalidSize := ex_InvalidSize_InvalidSize,
    ex_InvalidSizes_InvalidSizes := ex_InvalidSizes_InvalidSizes,
    ex_InvalidSize_InvalidSizes := ex_InvalidSize_InvalidSizes,
    no_InvalidSizes_size := no_InvalidSizes_size,
    no_InvalidSize_word := no_InvalidSize_word,
    kt_InvalidSizes_ClashError := kt_InvalidSizes_ClashError,
    kt_InvalidSize_ClashError := kt_InvalidSize_ClashError,
    kt_InvalidSizes_InvalidForm := kt_InvalidSizes_InvalidForm,
    kt_InvalidSizes_InvalidSize := kt_InvalidSizes_InvalidSize,
    kt_InvalidSizes_InvalidCount := kt_InvalidSizes_InvalidCount,
    kt_InvalidSizes_InvalidText := kt_InvalidSizes_InvalidText,
    kt_InvalidSize_InvalidForm := kt_InvalidSize_InvalidForm,
    kt_InvalidSize_InvalidCount := kt_InvalidSize_InvalidCount,
    kt_InvalidSize_InvalidText := kt_InvalidSize_InvalidText }
  exact ⟨PySem.W.fnOf "law" "law" (defArgs s_law) (defBody s_law) (defScope s_law) .none kV_law dc_law pm_law an_law cd_law ct_law, fun s v => .of_eq rfl, fun base _ _ => (Tx.ok_law t).imp fun vs H Q E q => spL_to (T := (tab c_Sizes c_InvalidSizes c_InvalidSize)) law_of q⟩
end K
open PySem PySem.W PyProof.Rows in
set_option maxRecDepth 100000 in
set_option maxHeartbeats 0 in
theorem PySem.Challenge.cw_clashcounts_k29_sizes_refused_holds : PySem.Challenge.rw_clashcounts_k29_sizes_refused.Holds := by
  w_on; o_law; k_head; (case hw => w_witness2)
  k_fill
  refine L2.walk_ofB (l := PySem.Challenge.rw_clashcounts_k29_sizes_refused) (n := 63) (k := 8) (x := "_law_script") (CX := fun _ => L2.CX0) (sp := fun w => Dl.spL _) rfl (by decide) rfl ⟨rfl, by decide, by decide⟩ (fun w h Y => PySem.W.kIn_of Y) ?F (fun _ H a ns hl hb hO hS => Dl.spL_of H a ns hl hb hO hS) (fun _ _ _ _ _ h => h)
  case F =>
    intro w mg fa h KX G hmg
    refine' K.all_mk KX G hmg ?aC_Sizes ?pg_Sizes ?hd_Sizes ?po_Sizes ?sa_Sizes ?ca_Sizes ?cn_Sizes ?ct_Sizes ?cm_Sizes ?mk_Sizes ?kc_Sizes ?no_Sizes_short_period ?no_Sizes_short_classes ?no_Sizes_short_odd ?no_Sizes_class_marks ?no_Sizes_odd_marks ?aC_ClashError ?iX_ClashError ?bs_ClashError ?hd_ClashError ?aC_InvalidSizes ?oX_InvalidSizes ?xX_InvalidSizes ?fX_InvalidSizes ?no_InvalidSizes_word ?aC_InvalidSize ?oX_InvalidSize ?xX_InvalidSize ?fX_InvalidSize ?no_InvalidSize_size ?aC_InvalidCount ?aC_InvalidForm ?aC_InvalidText ?z_all ?z_any ?z_bool ?z_int ?z_isinstance ?z_len ?z_list ?z_max ?z_min ?z_range ?z_sorted ?z_tuple ?z_zip ?at__law_box ?l__law_box ?cd__law_box_ ?k__law_box ?at__law_parts_of ?l__law_parts_of ?cd__law_parts_of_ ?k__law_parts_of ?at__law_take ?l__law_take ?cd__law_take_ ?k__law_take ?at__law_period ?l__law_period ?cd__law_period_ ?k__law_period ?at__law_odds ?l__law_odds ?cd__law_odds_ ?k__law_odds ?at__law_model ?l__law_model ?cd__law_model_ ?k__law_model ?at_InvalidSizes___init__ ?ty_InvalidSizes___init__ ?l_InvalidSizes___init__ ?cd_InvalidSizes___init___ ?k_InvalidSizes___init__ ?at_prime_powers ?l_prime_powers ?cd_prime_powers_ ?k_prime_powers ?at_is_needless ?l_is_needless ?cd_is_needless_ ?k_is_needless ?at_shortest ?l_shortest ?cd_shortest_ ?k_shortest ?at_is_integer ?l_is_integer ?cd_is_integer_ ?k_is_integer ?at_are_sizes ?l_are_sizes ?cd_are_sizes_ ?k_are_sizes ?at_Sizes___init__ ?fn_Sizes___init__ ?de_Sizes___init__ ?l_Sizes___init__ ?cd_Sizes___init___ ?k_Sizes___init__ ?dl_Sizes___init__ ?dd_Sizes___init__ ?dr_Sizes___init__ ?at__law_told ?l__law_told ?cd__law_told_ ?k__law_told ?at__law_is_whole ?l__law_is_whole ?cd__law_is_whole_ ?k__law_is_whole ?at__law_ascends ?l__law_ascends ?cd__law_ascends_ ?k__law_ascends ?at__law_due ?l__law_due ?cd__law_due_ ?k__law_due ?at_InvalidSize___init__ ?ty_InvalidSize___init__ ?l_InvalidSize___init__ ?cd_InvalidSize___init___ ?k_InvalidSize___init__ ?at_Sizes_multiples ?sr_Sizes_multiples ?sg_Sizes_multiples ?st_Sizes_multiples ?sd_Sizes_multiples ?l_Sizes_multiples ?cd_Sizes_multiples_ ?k_Sizes_multiples ?at_ascending ?l_ascending ?cd_ascending_ ?k_ascending ?at_Sizes_of ?sr_Sizes_of ?sg_Sizes_of ?st_Sizes_of ?sd_Sizes_of ?l_Sizes_of ?cd_Sizes_of_ ?k_Sizes_of ?at__law_size_refused ?l__law_size_refused ?cd__law_size_refused_ ?k__law_size_refused ?at__law_of_right ?l__law_of_right ?cd__law_of_right_ ?k__law_of_right ?at__law_thing ?l__law_thing ?cd__law_thing_ ?k__law_thing ?at__law_bent ?l__law_bent ?cd__law_bent_ ?k__law_bent ?at_law ?l_law ?cd_law_ ?k_law ?su_Sizes_bool ?su_Sizes_int ?su_Sizes_tuple ?ex_InvalidSizes_InvalidSize ?ex_InvalidSize_InvalidSize ?ex_InvalidSizes_InvalidSizes ?ex_InvalidSize_InvalidSizes ?no_InvalidSizes_size ?no_InvalidSize_word ?kt_InvalidSizes_ClashError ?kt_InvalidSize_ClashError ?kt_InvalidSizes_InvalidForm ?kt_InvalidSizes_InvalidSize ?kt_InvalidSizes_InvalidCount ?kt_InvalidSizes_InvalidText ?kt_InvalidSize_InvalidForm ?kt_InvalidSize_InvalidCount ?kt_InvalidSize_InvalidText
    (case aC_Sizes => k_is)
    (case pg_Sizes => k_is)
    (case hd_Sizes => k_is)
    (case po_Sizes => k_is)
    (case sa_Sizes => k_is)
    (case ca_Sizes => k_is)
    (case cn_Sizes => k_is)
    (case ct_Sizes => k_is)
    (case cm_Sizes => k_is)
    (case mk_Sizes => k_is)
    (case kc_Sizes => k_is)
    (case no_Sizes_short_period => k_is)
    (case no_Sizes_short_classes => k_is)
    (case no_Sizes_short_odd => k_is)
    (case no_Sizes_class_marks => k_is)
    (case no_Sizes_odd_marks => k_is)
    (case aC_ClashError => k_is)
    (case iX_ClashError => exact ⟨by k_is, by k_is, by k_is, by k_is⟩)
    (case bs_ClashError => k_is)
    (case hd_ClashError => k_is)
    (case aC_InvalidSizes => k_is)
    (case oX_InvalidSizes => exact ⟨⟨_, _, _, _, _, _, _, _, _, _, _, _, _, _, _, by k_is, by decide⟩, by k_is, by k_is, by k_is, by k_is⟩)
    (case xX_InvalidSizes => exact ⟨by k_is, by k_is, by k_is, by k_is, by k_is, by k_is, by k_is, by k_is⟩)
    (case fX_InvalidSizes => exact ⟨by k_is, by k_is, by k_is, by k_is⟩)
    (case no_InvalidSizes_word => k_is)
    (case aC_InvalidSize => k_is)
    (case oX_InvalidSize => exact ⟨⟨_, _, _, _, _, _, _, _, _, _, _, _, _, _, _, by k_is, by decide⟩, by k_is, by k_is, by k_is, by k_is⟩)
    (case xX_InvalidSize => exact ⟨by k_is, by k_is, by k_is, by k_is, by k_is, by k_is, by k_is, by k_is⟩)
    (case fX_InvalidSize => exact ⟨by k_is, by k_is, by k_is, by k_is⟩)
    (case no_InvalidSize_size => k_is)
    (case aC_InvalidCount => k_is)
    (case aC_InvalidForm => k_is)
    (case aC_InvalidText => k_is)
    (case z_all => k_is)
    (case z_any => k_is)
    (case z_bool => k_is)
    (case z_int => k_is)
    (case z_isinstance => k_is)
    (case z_len => k_is)
    (case z_list => k_is)
    (case z_max => k_is)
    (case z_min => k_is)
    (case z_range => k_is)
    (case z_sorted => k_is)
    (case z_tuple => k_is)
    (case z_zip => k_is)
    (case at__law_box => k_is)
    (case l__law_box => k_is)
    (case cd__law_box_ => k_is)
    (case k__law_box => k_is)
    (case at__law_parts_of => k_is)
    (case l__law_parts_of => k_is)
    (case cd__law_parts_of_ => k_is)
    (case k__law_parts_of => k_is)
    (case at__law_take => k_is)
    (case l__law_take => k_is)
    (case cd__law_take_ => k_is)
    (case k__law_take => k_is)
    (case at__law_period => k_is)
    (case l__law_period => k_is)
    (case cd__law_period_ => k_is)
    (case k__law_period => k_is)
    (case at__law_odds => k_is)
    (case l__law_odds => k_is)
    (case cd__law_odds_ => k_is)
    (case k__law_odds => k_is)
    (case at__law_model => k_is)
    (case l__law_model => k_is)
    (case cd__law_model_ => k_is)
    (case k__law_model => k_is)
    (case at_InvalidSizes___init__ => k_is)
    (case ty_InvalidSizes___init__ => k_is)
    (case l_InvalidSizes___init__ => k_is)
    (case cd_InvalidSizes___init___ => k_is)
    (case k_InvalidSizes___init__ => k_is)
    (case at_prime_powers => k_is)
    (case l_prime_powers => k_is)
    (case cd_prime_powers_ => k_is)
    (case k_prime_powers => k_is)
    (case at_is_needless => k_is)
    (case l_is_needless => k_is)
    (case cd_is_needless_ => k_is)
    (case k_is_needless => k_is)
    (case at_shortest => k_is)
    (case l_shortest => k_is)
    (case cd_shortest_ => k_is)
    (case k_shortest => k_is)
    (case at_is_integer => k_is)
    (case l_is_integer => k_is)
    (case cd_is_integer_ => k_is)
    (case k_is_integer => k_is)
    (case at_are_sizes => k_is)
    (case l_are_sizes => k_is)
    (case cd_are_sizes_ => k_is)
    (case k_are_sizes => k_is)
    (case at_Sizes___init__ => k_is)
    (case fn_Sizes___init__ => k_is)
    (case l_Sizes___init__ => k_is)
    (case cd_Sizes___init___ => k_is)
    (case k_Sizes___init__ => k_is)
    (case dl_Sizes___init__ => k_is)
    (case dd_Sizes___init__ => rfl)
    (case dr_Sizes___init__ => first | rfl | exact ⟨_, rfl⟩)
    (case at__law_told => k_is)
    (case l__law_told => k_is)
    (case cd__law_told_ => k_is)
    (case k__law_told => k_is)
    (case at__law_is_whole => k_is)
    (case l__law_is_whole => k_is)
    (case cd__law_is_whole_ => k_is)
    (case k__law_is_whole => k_is)
    (case at__law_ascends => k_is)
    (case l__law_ascends => k_is)
    (case cd__law_ascends_ => k_is)
    (case k__law_ascends => k_is)
    (case at__law_due => k_is)
    (case l__law_due => k_is)
    (case cd__law_due_ => k_is)
    (case k__law_due => k_is)
    (case at_InvalidSize___init__ => k_is)
    (case ty_InvalidSize___init__ => k_is)
    (case l_InvalidSize___init__ => k_is)
    (case cd_InvalidSize___init___ => k_is)
    (case k_InvalidSize___init__ => k_is)
    (case at_Sizes_multiples => k_is)
    (case sr_Sizes_multiples => k_is)
    (case sg_Sizes_multiples => k_is)
    (case st_Sizes_multiples => k_is)
    (case sd_Sizes_multiples => k_is)
    (case l_Sizes_multiples => k_is)
    (case cd_Sizes_multiples_ => k_is)
    (case k_Sizes_multiples => k_is)
    (case at_ascending => k_is)
    (case l_ascending => k_is)
    (case cd_ascending_ => k_is)
    (case k_ascending => k_is)
    (case at_Sizes_of => k_is)
    (case sr_Sizes_of => k_is)
    (case sg_Sizes_of => k_is)
    (case st_Sizes_of => k_is)
    (case sd_Sizes_of => k_is)
    (case l_Sizes_of => k_is)
    (case cd_Sizes_of_ => k_is)
    (case k_Sizes_of => k_is)
    (case at__law_size_refused => k_is)
    (case l__law_size_refused => k_is)
    (case cd__law_size_refused_ => k_is)
    (case k__law_size_refused => k_is)
    (case at__law_of_right => k_is)
    (case l__law_of_right => k_is)
    (case cd__law_of_right_ => k_is)
    (case k__law_of_right => k_is)
    (case at__law_thing => k_is)
    (case l__law_thing => k_is)
    (case cd__law_thing_ => k_is)
    (case k__law_thing => k_is)
    (case at__law_bent => k_is)
    (case l__law_bent => k_is)
    (case cd__law_bent_ => k_is)
    (case k__law_bent => k_is)
    (case at_law => k_is)
    (case l_law => k_is)
    (case cd_law_ => k_is)
    (case k_law => k_is)
    (case su_Sizes_bool => k_is)
    (case su_Sizes_int => k_is)
    (case su_Sizes_tuple => k_is)
    (case ex_InvalidSizes_InvalidSize => exact PySem.W.exm_ref (by k_is) (by k_is) (by k_is) (by k_is))
    (case ex_InvalidSize_InvalidSize => exact PySem.W.exm_ref (by k_is) (by k_is) (by k_is) (by k_is))
    (case ex_InvalidSizes_InvalidSizes => exact PySem.W.exm_ref (by k_is) (by k_is) (by k_is) (by k_is))
    (case ex_InvalidSize_InvalidSizes => exact PySem.W.exm_ref (by k_is) (by k_is) (by k_is) (by k_is))
    (case no_InvalidSizes_size => k_is)
    (case no_InvalidSize_word => k_is)
    (case kt_InvalidSizes_ClashError => exact Dl.kit_cls (by rfl) (by k_is) (by k_is) (by k_is))
    (case kt_InvalidSize_ClashError => exact Dl.kit_cls (by rfl) (by k_is) (by k_is) (by k_is))
    (case kt_InvalidSizes_InvalidForm => exact Dl.kit_cls (by rfl) (by k_is) (by k_is) (by k_is))
    (case kt_InvalidSizes_InvalidSize => exact Dl.kit_cls (by rfl) (by k_is) (by k_is) (by k_is))
    (case kt_InvalidSizes_InvalidCount => exact Dl.kit_cls (by rfl) (by k_is) (by k_is) (by k_is))
    (case kt_InvalidSizes_InvalidText => exact Dl.kit_cls (by rfl) (by k_is) (by k_is) (by k_is))
    (case kt_InvalidSize_InvalidForm => exact Dl.kit_cls (by rfl) (by k_is) (by k_is) (by k_is))
    (case kt_InvalidSize_InvalidCount => exact Dl.kit_cls (by rfl) (by k_is) (by k_is) (by k_is))
    (case kt_InvalidSize_InvalidText => exact Dl.kit_cls (by rfl) (by k_is) (by k_is) (by k_is))
    (case de_Sizes___init__ => exact .inr ⟨_, #[], _, by k_is, rfl, rfl, by decide, .nil⟩)
