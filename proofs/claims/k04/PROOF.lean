import PyProof.Rows.All
import Wide.All
import OpenK.AllK
import Wide.FinOn
import HandS.ForMost
import HandS.Wide
import HandS.EndBits
import HandS.Zip
import HandS.IsInst
import HandS.Defaults
import HandS.MakeKwOnly
import HandS.Property
import HandS.OwnEq
import HandS.Exc
import HandS.WordsExc
import HandS.TupAny
import HandS.Flow
import HandS.Style
import KE.KOpsOwn
import KE.GoesEnum
import HandS.NoneIn
import PySem.Challenge.RW_clashcounts_k04_whole_put_and_value
set_option Elab.async false
set_option linter.all false
set_option maxRecDepth 100000
/-! Dl: data on top of the hand layer. D: a value as data; Rep: a value stands for data; Sta: slots and cells as data; DE: an expression evaluates to; DS: a statement. -/
namespace Dl
open PySem L2

/-- data -/
inductive D where
  | non | bl (b : Bool) | int (i : Int) | str (x : Str) | tup (xs : List D) | lst (xs : List D) | obj (n : Nat) (xs : List D) | scr (xs : List D)

/-- the classes: where they stand, the names of their attributes in the order of their making -/
abbrev Tab := Nat → Option (Addr × List Str)

def TAt (K : PySem.W.Frag) (M : Addr → Prop) (H : Hp) (a : Addr) (vs : List V) : Prop := (¬ M a ∧ Rd H a (.tup vs)) ∨ SqT K (fun _ => none) a vs
/-- a list that is only read: the script -/
def LAt (K : PySem.W.Frag) (M : Addr → Prop) (H : Hp) (a : Addr) (vs : List V) : Prop := (¬ M a ∧ ∃ o, H a = some (.frz o (.lst vs))) ∨ SqL K (fun _ => none) a vs

mutual
inductive Rep (T : Tab) (K : PySem.W.Frag) (M : Addr → Prop) (H : Hp) : V → D → Prop
  | non : Rep T K M H .non .non
  | bl {b : Bool} : Rep T K M H (.bl b) (.bl b)
  | int {i : Int} : Rep T K M H (.int i) (.int i)
  | str {x : Str} : Rep T K M H (.str x) (.str x)
  | tup {a : Addr} {vs : List V} {ds : List D} : TAt K M H a vs → Reps T K M H vs ds → Rep T K M H (.ref a) (.tup ds)
  | lst {a : Addr} {vs : List V} {ds : List D} : ¬ M a → H a = some (.lst vs) → Reps T K M H vs ds → Rep T K M H (.ref a) (.lst ds)
  | scr {a : Addr} {vs : List V} {ds : List D} : LAt K M H a vs → Reps T K M H vs ds → Rep T K M H (.ref a) (.scr ds)
  | obj {a C dx : Addr} {n : Nat} {fn : List Str} {vs : List V} {ds : List D} : T n = some (C, fn) → ¬ M a → H a = some (.ins C dx (fn.zip vs)) → vs.length = fn.length → Reps T K M H vs ds → Rep T K M H (.ref a) (.obj n ds)
inductive Reps (T : Tab) (K : PySem.W.Frag) (M : Addr → Prop) (H : Hp) : List V → List D → Prop
  | nil : Reps T K M H [] []
  | cons {v : V} {d : D} {vs : List V} {ds : List D} : Rep T K M H v d → Reps T K M H vs ds → Reps T K M H (v :: vs) (d :: ds)
end

section
variable {T : Tab} {K : PySem.W.Frag} {M M' : Addr → Prop} {H H' : Hp} {a : Addr} {v : V} {d : D} {vs : List V} {ds : List D}

/-- what is known and not mutable stays so -/
def Kp (M : Addr → Prop) (H : Hp) (M' : Addr → Prop) (H' : Hp) : Prop := ∀ a o, H a = some o → ¬ M a → H' a = some o ∧ ¬ M' a

theorem Kp.refl : Kp M H M H := fun _ _ h n => ⟨h, n⟩
theorem Kp.trans {M2 : Addr → Prop} {H2 : Hp} (x : Kp M H M' H') (y : Kp M' H' M2 H2) : Kp M H M2 H2 := fun a o h n =>
  let ⟨h1, n1⟩ := x a o h n
  y a o h1 n1

theorem TAt.kp (k : Kp M H M' H') (h : TAt K M H a vs) : TAt K M' H' a vs := by
  rcases h with ⟨n, h | ⟨o, h⟩⟩ | h
  · exact .inl ⟨(k _ _ h n).2, .inl (k _ _ h n).1⟩
  · exact .inl ⟨(k _ _ h n).2, .inr ⟨o, (k _ _ h n).1⟩⟩
  · exact .inr h
theorem LAt.kp (k : Kp M H M' H') (h : LAt K M H a vs) : LAt K M' H' a vs := by
  rcases h with ⟨n, o, h⟩ | h
  · exact .inl ⟨(k _ _ h n).2, o, (k _ _ h n).1⟩
  · exact .inr h
theorem TAt.sq (h : TAt K M H a vs) : SqT K H a vs := by
  rcases h with ⟨n, h⟩ | h
  · exact .inl h
  · rcases h with (h | ⟨_, h⟩) | h
    · cases h
    · cases h
    · exact .inr h
theorem LAt.sq (h : LAt K M H a vs) : SqL K H a vs := by
  rcases h with h | h
  · exact .inl (.inr h.2)
  · rcases h with (h | ⟨_, h⟩) | h
    · cases h
    · cases h
    · exact .inr h
/-- the script at the law's entry -/
theorem LAt.of (hO : Only H) (h : SqL K H a vs) : LAt K (fun _ => False) H a vs := by
  rcases h with (h | ⟨o, h⟩) | h
  · rcases hO a with e | ⟨o, xs, e⟩ <;> rw [e] at h <;> cases h
  · exact .inl ⟨id, o, h⟩
  · exact .inr (.inr h)

mutual
theorem Rep.kp (k : Kp M H M' H') {v : V} {d : D} (h : Rep T K M H v d) : Rep T K M' H' v d :=
  match h with
  | .non => .non
  | .bl => .bl
  | .int => .int
  | .str => .str
  | .tup h1 h2 => .tup (h1.kp k) (Reps.kp k h2)
  | .lst n h1 h2 => .lst (k _ _ h1 n).2 (k _ _ h1 n).1 (Reps.kp k h2)
  | .scr h1 h2 => .scr (h1.kp k) (Reps.kp k h2)
  | .obj ht hm h1 hl h2 => .obj ht (k _ _ h1 hm).2 (k _ _ h1 hm).1 hl (Reps.kp k h2)
theorem Reps.kp (k : Kp M H M' H') {vs : List V} {ds : List D} (h : Reps T K M H vs ds) : Reps T K M' H' vs ds :=
  match h with
  | .nil => .nil
  | .cons h1 h2 => .cons (Rep.kp k h1) (Reps.kp k h2)
end

theorem Reps.length (h : Reps T K M H vs ds) : vs.length = ds.length := by
  induction ds generalizing vs with
  | nil => cases h; rfl
  | cons d ds ih => cases h with | cons h1 h2 => simp [ih h2]
theorem Reps.get : ∀ {vs : List V} {ds : List D} {i : Nat} {d : D}, Reps T K M H vs ds → ds[i]? = some d → ∃ v, vs[i]? = some v ∧ Rep T K M H v d
  | _, _, _, _, .nil, e => by simp at e
  | _, _, 0, _, .cons r _, e => by simp at e; subst e; exact ⟨_, rfl, r⟩
  | _, _, i + 1, d, .cons _ t, e => by
    obtain ⟨u, h1, h2⟩ := Reps.get (i := i) (d := d) t (by simpa using e)
    exact ⟨u, by simpa using h1, h2⟩
theorem Reps.getV : ∀ {vs : List V} {ds : List D} {i : Nat} {v : V}, Reps T K M H vs ds → vs[i]? = some v → ∃ d, ds[i]? = some d ∧ Rep T K M H v d
  | _, _, _, _, .nil, e => by simp at e
  | _, _, 0, _, .cons r _, e => by simp at e; subst e; exact ⟨_, rfl, r⟩
  | _, _, i + 1, d, .cons _ t, e => by
    obtain ⟨u, h1, h2⟩ := Reps.getV (i := i) t (by simpa using e)
    exact ⟨u, by simpa using h1, h2⟩
theorem Reps.append : ∀ {vs ws : List V} {ds es : List D}, Reps T K M H vs ds → Reps T K M H ws es → Reps T K M H (vs ++ ws) (ds ++ es)
  | _, _, _, _, .nil, s => s
  | _, _, _, _, .cons r t, s => .cons r (Reps.append t s)
theorem Reps.take : ∀ {vs : List V} {ds : List D} (n : Nat), Reps T K M H vs ds → Reps T K M H (vs.take n) (ds.take n)
  | _, _, 0, _ => .nil
  | _, _, _ + 1, .nil => .nil
  | _, _, n + 1, .cons r t => .cons r (Reps.take n t)
theorem Reps.drop : ∀ {vs : List V} {ds : List D} (n : Nat), Reps T K M H vs ds → Reps T K M H (vs.drop n) (ds.drop n)
  | _, _, 0, r => r
  | _, _, _ + 1, .nil => .nil
  | _, _, n + 1, .cons _ t => Reps.drop n t
theorem Reps.set {v : V} {d : D} (r : Rep T K M H v d) : ∀ {vs : List V} {ds : List D} (i : Nat), Reps T K M H vs ds → Reps T K M H (vs.set i v) (ds.set i d)
  | _, _, _, .nil => .nil
  | _, _, 0, .cons _ t => .cons r t
  | _, _, i + 1, .cons q t => .cons q (Reps.set r i t)
theorem Reps.rev : ∀ {vs : List V} {ds : List D}, Reps T K M H vs ds → Reps T K M H vs.reverse ds.reverse
  | _, _, .nil => .nil
  | _, _, .cons r t => by
    rw [List.reverse_cons, List.reverse_cons]
    exact (Reps.rev t).append (.cons r .nil)
theorem Reps.replicate {v : V} {d : D} (r : Rep T K M H v d) : ∀ n, Reps T K M H (List.replicate n v) (List.replicate n d)
  | 0 => .nil
  | n + 1 => .cons r (Reps.replicate r n)
theorem Reps.ints : ∀ (ns : List Int), Reps T K M H (ns.map V.int) (ns.map D.int)
  | [] => .nil
  | _ :: r => .cons .int (Reps.ints r)
theorem Reps.of_ints : ∀ {ns : List Int} {vs : List V}, Reps T K M H vs (ns.map D.int) → vs = ns.map V.int
  | [], _, .nil => rfl
  | _ :: r, _, .cons h t => by
    cases h
    rw [Reps.of_ints t]
    rfl
end

/-! ### cells and slots -/
inductive Cell where
  | lst (xs : List D)
  | dct (kvs : List (Key × D))
  | ins (n : Nat) (fs : List (Str × D))

inductive Sl where
  | dat (d : D)
  | cel (k : Nat)

structure Sta where
  sl : List (Option Sl)
  cs : List Cell

abbrev Mm (ad : List Addr) (F : Addr → Prop) : Addr → Prop := fun a => a ∈ ad ∨ F a

def CellAt (T : Tab) (K : PySem.W.Frag) (M : Addr → Prop) (H : Hp) (a : Addr) : Cell → Prop
  | .lst ds => ∃ vs, H a = some (.lst vs) ∧ Reps T K M H vs ds
  | .dct kvs => ∃ vs, H a = some (.dK ((kvs.map (·.1)).zip vs)) ∧ vs.length = kvs.length ∧ Reps T K M H vs (kvs.map (·.2))
  | .ins n fs => ∃ C fn dx vs, T n = some (C, fn) ∧ H a = some (.ins C dx ((fs.map (·.1)).zip vs)) ∧ vs.length = fs.length ∧ Reps T K M H vs (fs.map (·.2))

def SlRep (T : Tab) (K : PySem.W.Frag) (ad : List Addr) (F : Addr → Prop) (H : Hp) (v : V) : Sl → Prop
  | .dat d => Rep T K (Mm ad F) H v d
  | .cel k => ∃ a, ad[k]? = some a ∧ v = .ref a

structure HoldC (T : Tab) (K : PySem.W.Frag) (ad : List Addr) (F : Addr → Prop) (H : Hp) (cs : List Cell) : Prop where
  nd : ad.Nodup
  fr : ∀ a ∈ ad, ¬ F a
  al : ∀ a, F a → ∃ o, H a = some o
  ln : ad.length = cs.length
  ce : ∀ (k : Nat) a c, ad[k]? = some a → cs[k]? = some c → CellAt T K (Mm ad F) H a c

structure Hold (T : Tab) (K : PySem.W.Frag) (S : Sta) (ad : List Addr) (F : Addr → Prop) (σ : St) (H : Hp) : Prop where
  hc : HoldC T K ad F H S.cs
  sz : σ.length = S.sl.length
  sl : ∀ (i : Nat) s, S.sl[i]? = some (some s) → ∃ v, σ[i]? = some (some v) ∧ SlRep T K ad F H v s

/-- behind an expression: what was known stays, new cells come behind -/
structure Ext (ad : List Addr) (F : Addr → Prop) (H : Hp) (ad' : List Addr) (H' : Hp) : Prop where
  pre : ∃ t, ad' = ad ++ t ∧ ∀ a ∈ t, H a = none
  keep : ∀ a o, H a = some o → ¬ Mm ad F a → H' a = some o
  frm : ∀ a, F a → H' a = H a

section
variable {T : Tab} {K : PySem.W.Frag} {F : Addr → Prop} {ad ad1 ad2 : List Addr} {H H1 H2 : Hp} {cs : List Cell} {S : Sta} {σ : St} {v : V} {d : D} {s : Sl}

theorem CellAt.some {M : Addr → Prop} {a : Addr} {c : Cell} (h : CellAt T K M H a c) : ∃ o, H a = some o := by
  cases c with
  | lst ds => obtain ⟨vs, e, _⟩ := h; exact ⟨_, e⟩
  | dct kvs => obtain ⟨vs, e, _⟩ := h; exact ⟨_, e⟩
  | ins n fs => obtain ⟨C, fn, dx, vs, _, e, _⟩ := h; exact ⟨_, e⟩
theorem CellAt.kp {M M' : Addr → Prop} {a : Addr} {c : Cell} (k : Kp M H M' H1) (e : H1 a = H a) (h : CellAt T K M H a c) : CellAt T K M' H1 a c := by
  cases c with
  | lst ds => obtain ⟨vs, h1, h2⟩ := h; exact ⟨vs, e.trans h1, h2.kp k⟩
  | dct kvs => obtain ⟨vs, h1, hl, h2⟩ := h; exact ⟨vs, e.trans h1, hl, h2.kp k⟩
  | ins n fs => obtain ⟨C, fn, dx, vs, ht, h1, hl, h2⟩ := h; exact ⟨C, fn, dx, vs, ht, e.trans h1, hl, h2.kp k⟩
theorem HoldC.mem (h : HoldC T K ad F H cs) {a : Addr} (ha : a ∈ ad) : ∃ o, H a = some o := by
  obtain ⟨k, hk, e⟩ := List.getElem_of_mem ha
  have h1 : ad[k]? = some a := by rw [List.getElem?_eq_getElem hk, e]
  have h2 : cs[k]? = some (cs[k]'(by rw [← h.ln]; exact hk)) := List.getElem?_eq_getElem _
  exact (h.ce k a _ h1 h2).some
theorem HoldC.new (h : HoldC T K ad F H cs) {p : Addr} (hp : H p = none) : ¬ Mm ad F p := fun z => by
  rcases z with z | z
  · obtain ⟨o, e⟩ := h.mem z
    rw [e] at hp
    cases hp
  · obtain ⟨o, e⟩ := h.al p z
    rw [e] at hp
    cases hp

theorem Ext.refl : Ext ad F H ad H := ⟨⟨[], by simp, fun _ h => nomatch h⟩, fun _ _ h _ => h, fun _ _ => rfl⟩
theorem Ext.kp (x : Ext ad F H ad1 H1) : Kp (Mm ad F) H (Mm ad1 F) H1 := fun a o h n => by
  refine ⟨x.keep a o h n, fun z => ?_⟩
  obtain ⟨t, e, ht⟩ := x.pre
  rcases z with z | z
  · rw [e] at z
    rcases List.mem_append.mp z with z | z
    · exact n (.inl z)
    · rw [ht a z] at h
      cases h
  · exact n (.inr z)
theorem Ext.trans (h : HoldC T K ad1 F H1 cs) (x : Ext ad F H ad1 H1) (y : Ext ad1 F H1 ad2 H2) : Ext ad F H ad2 H2 := by
  obtain ⟨t, e, ht⟩ := x.pre
  obtain ⟨u, e2, hu⟩ := y.pre
  refine ⟨⟨t ++ u, by rw [e2, e, List.append_assoc], fun a ha => ?_⟩, fun a o q n => ?_, fun a q => by rw [y.frm a q, x.frm a q]⟩
  · rcases List.mem_append.mp ha with z | z
    · exact ht a z
    · have h1 := hu a z
      cases q : H a with
      | none => rfl
      | some o =>
        exfalso
        by_cases n : Mm ad F a
        · rcases n with n | n
          · obtain ⟨o', e'⟩ := h.mem (a := a) (by rw [e]; exact List.mem_append_left _ n)
            rw [e'] at h1
            cases h1
          · rw [x.frm a n, q] at h1
            cases h1
        · rw [x.keep a o q n] at h1
          cases h1
  · exact y.keep a o (x.keep a o q n) (x.kp a o q n).2
end
end Dl

namespace Dl
open PySem L2

theorem ix_inj {α : Type} {l : List α} (h : l.Nodup) {i j : Nat} {x : α} (a : l[i]? = some x) (b : l[j]? = some x) : i = j := by
  have hi := (List.getElem?_eq_some_iff.mp a).1
  exact (List.getElem?_inj hi h).mp (a.trans b.symm)
section
variable {T : Tab} {K : PySem.W.Frag} {F : Addr → Prop} {ad ad1 ad2 : List Addr} {H H1 H2 : Hp} {cs cs' : List Cell} {S S1 S2 : Sta} {σ : St} {v w : V} {d : D} {s s1 s2 : Sl}

theorem SlRep.ext (x : Ext ad F H ad1 H1) (h : SlRep T K ad F H v s) : SlRep T K ad1 F H1 v s := by
  cases s with
  | dat d => exact Rep.kp x.kp h
  | cel k =>
    obtain ⟨a, e, hv⟩ := h
    obtain ⟨t, e1, _⟩ := x.pre
    refine ⟨a, ?_, hv⟩
    rw [e1, List.getElem?_append_left (List.getElem?_eq_some_iff.mp e).1]
    exact e
theorem Hold.to (h : Hold T K S ad F σ H) (x : Ext ad F H ad1 H1) (c : HoldC T K ad1 F H1 cs) : Hold T K ⟨S.sl, cs⟩ ad1 F σ H1 :=
  ⟨c, h.sz, fun i s e => let ⟨v, hv, r⟩ := h.sl i s e; ⟨v, hv, r.ext x⟩⟩
/-- a new object that is no cell -/
theorem HoldC.newo (h : HoldC T K ad F H cs) {p : Addr} {o : HO} (hp : H p = none) : HoldC T K ad F (upd H p o) cs ∧ Ext ad F H ad (upd H p o) := by
  have ne : ∀ a o', H a = some o' → a ≠ p := fun a o' e => ne_of_none e hp
  have x : Ext ad F H ad (L2.upd H p o) := by
    refine ⟨⟨[], by simp, fun _ z => nomatch z⟩, fun a o' e _ => ?_, fun a fa => ?_⟩
    · rw [upd_ne (ne a o' e)]; exact e
    · obtain ⟨o', e⟩ := h.al a fa
      rw [upd_ne (ne a o' e)]
  refine ⟨⟨h.nd, h.fr, fun a fa => ?_, h.ln, fun k a c h1 h2 => ?_⟩, x⟩
  · obtain ⟨o', e⟩ := h.al a fa
    exact ⟨o', by rw [upd_ne (ne a o' e)]; exact e⟩
  · have q := h.ce k a c h1 h2
    obtain ⟨o', e⟩ := q.some
    exact q.kp x.kp (upd_ne (ne a o' e))
/-- a new cell -/
theorem HoldC.cell (h : HoldC T K ad F H cs) {p : Addr} {o : HO} {c : Cell} (hp : H p = none) (hc : CellAt T K (Mm (ad ++ [p]) F) (upd H p o) p c) :
    HoldC T K (ad ++ [p]) F (upd H p o) (cs ++ [c]) ∧ Ext ad F H (ad ++ [p]) (upd H p o) := by
  have ne : ∀ a o', H a = some o' → a ≠ p := fun a o' e => ne_of_none e hp
  have x : Ext ad F H (ad ++ [p]) (L2.upd H p o) := by
    refine ⟨⟨[p], rfl, fun a z => ?_⟩, fun a o' e _ => ?_, fun a fa => ?_⟩
    · have := List.mem_singleton.mp z; subst this; exact hp
    · rw [upd_ne (ne a o' e)]; exact e
    · obtain ⟨o', e⟩ := h.al a fa
      rw [upd_ne (ne a o' e)]
  have np : p ∉ ad := fun z => h.new hp (.inl z)
  refine ⟨⟨?_, fun a ha fa => ?_, fun a fa => ?_, by simp [h.ln], fun k a c' h1 h2 => ?_⟩, x⟩
  · rw [List.nodup_append]
    refine ⟨h.nd, by simp, fun a ha b hb e => ?_⟩
    have := List.mem_singleton.mp hb
    exact np (this ▸ e ▸ ha)
  · rcases List.mem_append.mp ha with z | z
    · exact h.fr a z fa
    · have := List.mem_singleton.mp z; subst this; exact h.new hp (.inr fa)
  · obtain ⟨o', e⟩ := h.al a fa
    exact ⟨o', by rw [upd_ne (ne a o' e)]; exact e⟩
  · by_cases hk : k < ad.length
    · rw [List.getElem?_append_left hk] at h1
      rw [List.getElem?_append_left (by rw [← h.ln]; exact hk)] at h2
      have q := h.ce k a c' h1 h2
      obtain ⟨o', e⟩ := q.some
      exact q.kp x.kp (upd_ne (ne a o' e))
    · have hk' : k = ad.length := by
        have := (List.getElem?_eq_some_iff.mp h1).1
        simp at this
        omega
      subst hk'
      rw [List.getElem?_append_right (Nat.le_refl _)] at h1
      rw [h.ln, List.getElem?_append_right (Nat.le_refl _)] at h2
      simp at h1 h2
      subst h1 h2
      exact hc
/-- a cell is changed -/
theorem HoldC.setc (h : HoldC T K ad F H cs) {k : Nat} {a : Addr} {o : HO} {c : Cell} (ha : ad[k]? = some a) (hc : CellAt T K (Mm ad F) (upd H a o) a c) : HoldC T K ad F (upd H a o) (cs.set k c) ∧ Ext ad F H ad (upd H a o) := by
  have hm : a ∈ ad := List.mem_of_getElem? ha
  have nb : ∀ b, ¬ Mm ad F b → b ≠ a := fun b n z => n (.inl (by rw [z]; exact hm))
  have nf : ∀ b, F b → b ≠ a := fun b fb z => h.fr a hm (by rw [← z]; exact fb)
  have x : Ext ad F H ad (L2.upd H a o) := by
    refine ⟨⟨[], by simp, fun _ z => nomatch z⟩, fun b o' e n => ?_, fun b fb => ?_⟩
    · rw [upd_ne (nb b n)]; exact e
    · rw [upd_ne (nf b fb)]
  refine ⟨⟨h.nd, h.fr, fun b fb => ?_, by simp [h.ln], fun j b c' h1 h2 => ?_⟩, x⟩
  · obtain ⟨o', e⟩ := h.al b fb
    exact ⟨o', by rw [upd_ne (nf b fb)]; exact e⟩
  · by_cases hj : k = j
    · subst hj
      have hlt : k < cs.length := by rw [← h.ln]; exact (List.getElem?_eq_some_iff.mp ha).1
      rw [List.getElem?_set_self hlt] at h2
      rw [ha] at h1
      cases h1; cases h2
      exact hc
    · rw [List.getElem?_set_ne hj] at h2
      have hb : b ≠ a := fun z => by
        subst z
        obtain ⟨l1, e1⟩ := List.getElem?_eq_some_iff.mp ha
        obtain ⟨l2, e2⟩ := List.getElem?_eq_some_iff.mp h1
        exact hj (ix_inj h.nd ha h1)
      exact (h.ce j b c' h1 h2).kp x.kp (upd_ne hb)
/-- fewer cells (those behind are no cells any more) -/
theorem HoldC.take (h : HoldC T K ad F H cs) (n : Nat) : HoldC T K (ad.take n) F H (cs.take n) := by
  have sub : ∀ a, Mm (ad.take n) F a → Mm ad F a := fun a z => z.elim (fun z => .inl (List.mem_of_mem_take z)) .inr
  have kp : Kp (Mm ad F) H (Mm (ad.take n) F) H := fun a o e z => ⟨e, fun y => z (sub a y)⟩
  refine ⟨h.nd.sublist (List.take_sublist _ _), fun a ha => h.fr a (List.mem_of_mem_take ha), h.al, by simp [h.ln], fun k a c h1 h2 => ?_⟩
  have k1 : ad[k]? = some a := by
    rw [List.getElem?_take] at h1
    split at h1
    · exact h1
    · cases h1
  have k2 : cs[k]? = some c := by
    rw [List.getElem?_take] at h2
    split at h2
    · exact h2
    · cases h2
  exact (h.ce k a c k1 k2).kp kp rfl
end

/-! ### expressions -/
def tD (T : Tab) (K : PySem.W.Frag) (S : Sta) (s : Sl) (S' : Sta) : TE := fun σ H Q => ∃ ad F, Hold T K S ad F σ H ∧
  ∀ v H' ad', Ext ad F H ad' H' → Hold T K S' ad' F σ H' → SlRep T K ad' F H' v s → Q v H'
/-- from the state S the expression e gives s and leaves S' -/
def DE (X : Cx) (T : Tab) (S : Sta) (e : Expr) (s : Sl) (S' : Sta) : Prop := PE X e (tD T X.K S s S')
theorem weak {X : Cx} {e : Expr} {t t' : TE} (h : PE X e t) (q : ∀ σ H Q, t' σ H Q → t σ H Q) : PE X e t' := ⟨fun pins s σ H Q I z => h.run pins s σ H Q I (q σ H Q z)⟩
theorem weakT {X : Cx} {e : Expr} {t t' : TT} (h : PT X e t) (q : ∀ σ H Q, t' σ H Q → t σ H Q) : PT X e t' := ⟨fun pins s σ H Q I z => h.run pins s σ H Q I (q σ H Q z)⟩
theorem weakA {X : Cx} {e : List Expr} {t t' : TA} (h : PA X e t) (q : ∀ σ H Q, t' σ H Q → t σ H Q) : PA X e t' := ⟨fun pos pins s σ H Q I z => h.run pos pins s σ H Q I (q σ H Q z)⟩
theorem weakS {X : Cx} {e : Stmt} {t t' : TS} (h : PS X e t) (q : ∀ D σ H, t' D σ H → t D σ H) : PS X e t' := ⟨fun pins s σ H D I z => h.run pins s σ H D I (q D σ H z)⟩
theorem weakSs {X : Cx} {e : List Stmt} {t t' : TS} (h : PSs X e t) (q : ∀ D σ H, t' D σ H → t D σ H) : PSs X e t' := ⟨fun pins s σ H D I z => h.run pins s σ H D I (q D σ H z)⟩

section
variable {X : Cx} {T : Tab} {S S1 S2 S3 : Sta} {a b e : Expr} {pos : Pos} {s s1 s2 : Sl} {cs cs' : List Cell} {d d1 d2 : D} {i j : Int}

/-- one expression, then an operation on its value -/
def R1 (T : Tab) (K : PySem.W.Frag) (r : V → Hp → VK → Prop) (s1 : Sl) (cs : List Cell) (s : Sl) (cs' : List Cell) : Prop :=
  ∀ ad F H v (Q : VK), HoldC T K ad F H cs → SlRep T K ad F H v s1 → (∀ z H' ad', Ext ad F H ad' H' → HoldC T K ad' F H' cs' → SlRep T K ad' F H' z s → Q z H') → r v H Q
def R2D (T : Tab) (K : PySem.W.Frag) (r : R2) (s1 s2 : Sl) (cs : List Cell) (s : Sl) (cs' : List Cell) : Prop :=
  ∀ ad F H v w (Q : VK), HoldC T K ad F H cs → SlRep T K ad F H v s1 → SlRep T K ad F H w s2 → (∀ z H' ad', Ext ad F H ad' H' → HoldC T K ad' F H' cs' → SlRep T K ad' F H' z s → Q z H') → r v w H Q
theorem one_then {K : PySem.W.Frag} {r : V → Hp → VK → Prop} {σ : St} {H : Hp} {Q : VK} (hr : R1 T K r s1 S1.cs s cs') (h : tD T K S s ⟨S1.sl, cs'⟩ σ H Q) : tD T K S s1 S1 σ H fun v H1 => r v H1 Q := by
  obtain ⟨ad, F, h0, q⟩ := h
  refine ⟨ad, F, h0, fun v H1 ad1 x1 h1 r1 => ?_⟩
  exact hr ad1 F H1 v Q h1.hc r1 fun z H' ad' x2 c2 r2 => q z H' ad' (x1.trans h1.hc x2) (h1.to x2 c2) r2
theorem two_then {K : PySem.W.Frag} {r : R2} {σ : St} {H : Hp} {Q : VK} (hr : R2D T K r s1 s2 S2.cs s cs') (h : tD T K S s ⟨S2.sl, cs'⟩ σ H Q) : tD T K S s1 S1 σ H fun v H1 => tD T K S1 s2 S2 σ H1 fun w H2 => r v w H2 Q := by
  obtain ⟨ad, F, h0, q⟩ := h
  refine ⟨ad, F, h0, fun v H1 ad1 x1 h1 r1 => ⟨ad1, F, h1, fun w H2 ad2 x2 h2 r2 => ?_⟩⟩
  exact hr ad2 F H2 v w Q h2.hc (r1.ext x2) r2 fun z H' ad' x3 c3 r3 => q z H' ad' (x1.trans h1.hc (x2.trans h2.hc x3)) (h2.to x3 c3) r3

/-! #### names, constants -/
theorem de_name (i : Nat) {x : Str} (hs : S.sl[i]? = some (some s)) (hN : X.N[i]? = some x := by rfl) (hv : Vis X.env.scope x := by first | exact Or.inl rfl | exact Or.inr (Or.inl rfl) | exact Or.inr (Or.inr rfl)) (hd : (x == ("__debug__" : Str)) = false := by decide)
    (hcd : (x == ("__classdict__" : Str)) = false := by decide) : DE X T S (.Name x pos) s S :=
  weak (pe_var hN hv hd hcd) fun σ H Q ⟨ad, F, h, q⟩ => let ⟨v, e, r⟩ := h.sl i s hs; ⟨v, e, q v H ad .refl h r⟩
theorem de_c {v : V} (h : PE X e (tC v)) (r : ∀ ad F H, SlRep T X.K ad F H v s) : DE X T S e s S := weak h fun σ H Q ⟨ad, F, h, q⟩ => q v H ad .refl h (r ad F H)
theorem de_int {k : Nat} : DE X T S (.Constant (.int i) k pos) (.dat (.int i)) S := de_c pe_int fun _ _ _ => .int
theorem de_bl {b : Bool} {k : Nat} : DE X T S (.Constant (.bool b) k pos) (.dat (.bl b)) S := de_c pe_bl fun _ _ _ => .bl
theorem de_non {k : Nat} : DE X T S (.Constant .none k pos) (.dat .non) S := de_c pe_non fun _ _ _ => .non
theorem de_str {x : Str} {k : Nat} : DE X T S (.Constant (.str x) k pos) (.dat (.str x)) S := de_c pe_str fun _ _ _ => .str

/-! #### operators -/
theorem de_op {op : Operator} {r : R2} (ho : OpR X (binaryOp op) r) (ha : DE X T S a s1 S1) (hb : DE X T S1 b s2 S2) (hr : R2D T X.K r s1 s2 S2.cs s cs') : DE X T S (.BinOp a op b pos) s ⟨S2.sl, cs'⟩ :=
  weak (pe_op ho ha hb) fun _ _ _ h => two_then hr h
theorem de_cmp {op : CmpOp} {r : R2} (ho : OpR X (compareOp op) r) (ha : DE X T S a s1 S1) (hb : DE X T S1 b s2 S2) (hr : R2D T X.K r s1 s2 S2.cs s cs') (hm : behindInMarks op b = false) : DE X T S (.Compare a [op] [b] pos) s ⟨S2.sl, cs'⟩ :=
  weak (pe_cmpR ho ha hb hm) fun _ _ _ h => two_then hr h
theorem de_ix {r : R2} (hr' : IxR X r) (ha : DE X T S a s1 S1) (hb : DE X T S1 b s2 S2) (hr : R2D T X.K r s1 s2 S2.cs s cs') (hp : PlainIx b := by intro _ _; rfl) : DE X T S (.Subscript a b pos) s ⟨S2.sl, cs'⟩ :=
  weak (pe_ix hr' ha hb hp) fun _ _ _ h => two_then hr h
theorem de_unop {op : UnaryOp} {r : V → Hp → VK → Prop} (ho : UnR X (unaryOp op) r) (ha : DE X T S a s1 S1) (hr : R1 T X.K r s1 S1.cs s cs') : DE X T S (.UnaryOp op a pos) s ⟨S1.sl, cs'⟩ :=
  weak (pe_un ho ha) fun _ _ _ h => one_then hr h
theorem r2_I {K : PySem.W.Frag} {C : Int → Int → Prop} {g : Int → Int → Int} (hc : C i j) : R2D T K (rI C fun i j => .int (g i j)) (.dat (.int i)) (.dat (.int j)) cs (.dat (.int (g i j))) cs := fun ad F H v w Q c r1 r2 q => by
  cases r1; cases r2
  exact ⟨i, j, rfl, rfl, hc, q _ H ad .refl c .int⟩
theorem r2_I0 {K : PySem.W.Frag} {g : Int → Int → Int} : R2D T K (rI0 fun i j => .int (g i j)) (.dat (.int i)) (.dat (.int j)) cs (.dat (.int (g i j))) cs := fun ad F H v w Q c r1 r2 q => by
  cases r1; cases r2
  exact ⟨i, j, rfl, rfl, q _ H ad .refl c .int⟩
theorem r2_B0 {K : PySem.W.Frag} {g : Int → Int → Bool} : R2D T K (rI0 fun i j => .bl (g i j)) (.dat (.int i)) (.dat (.int j)) cs (.dat (.bl (g i j))) cs := fun ad F H v w Q c r1 r2 q => by
  cases r1; cases r2
  exact ⟨i, j, rfl, rfl, q _ H ad .refl c .bl⟩
theorem de_add (ha : DE X T S a (.dat (.int i)) S1) (hb : DE X T S1 b (.dat (.int j)) S2) : DE X T S (.BinOp a .Add b pos) (.dat (.int (i + j))) S2 := de_op op_add ha hb r2_I0
theorem de_sub (ha : DE X T S a (.dat (.int i)) S1) (hb : DE X T S1 b (.dat (.int j)) S2) : DE X T S (.BinOp a .Sub b pos) (.dat (.int (i - j))) S2 := de_op op_sub ha hb r2_I0
theorem de_mul (ha : DE X T S a (.dat (.int i)) S1) (hb : DE X T S1 b (.dat (.int j)) S2) (hc : CMul i j) : DE X T S (.BinOp a .Mult b pos) (.dat (.int (i * j))) S2 := de_op op_mul ha hb (r2_I hc)
theorem de_mulW (ha : DE X T S a (.dat (.int i)) S1) (hb : DE X T S1 b (.dat (.int j)) S2) (hc : CMulW i j) : DE X T S (.BinOp a .Mult b pos) (.dat (.int (i * j))) S2 := de_op op_mulW ha hb (r2_I hc)
theorem de_fdiv (ha : DE X T S a (.dat (.int i)) S1) (hb : DE X T S1 b (.dat (.int j)) S2) (hc : CDivW i j) : DE X T S (.BinOp a .FloorDiv b pos) (.dat (.int (i / j))) S2 := de_op op_fdivW ha hb (r2_I hc)
theorem de_mod (ha : DE X T S a (.dat (.int i)) S1) (hb : DE X T S1 b (.dat (.int j)) S2) (hc : 0 < j) : DE X T S (.BinOp a .Mod b pos) (.dat (.int (i % j))) S2 := de_op op_mod ha hb (r2_I (C := fun _ j => 0 < j) hc)
theorem de_pow (ha : DE X T S a (.dat (.int i)) S1) (hb : DE X T S1 b (.dat (.int j)) S2) (hc : CPow i j) : DE X T S (.BinOp a .Pow b pos) (.dat (.int (i ^ j.toNat))) S2 := de_op op_pow ha hb (r2_I hc)
theorem de_lt (ha : DE X T S a (.dat (.int i)) S1) (hb : DE X T S1 b (.dat (.int j)) S2) : DE X T S (.Compare a [.Lt] [b] pos) (.dat (.bl (decide (i < j)))) S2 := de_cmp op_lt ha hb r2_B0 (nomark _)
theorem de_le (ha : DE X T S a (.dat (.int i)) S1) (hb : DE X T S1 b (.dat (.int j)) S2) : DE X T S (.Compare a [.LtE] [b] pos) (.dat (.bl (decide (i ≤ j)))) S2 := de_cmp op_le ha hb r2_B0 (nomark _)
theorem de_gt (ha : DE X T S a (.dat (.int i)) S1) (hb : DE X T S1 b (.dat (.int j)) S2) : DE X T S (.Compare a [.Gt] [b] pos) (.dat (.bl (decide (j < i)))) S2 := de_cmp op_gt ha hb r2_B0 (nomark _)
theorem de_ge (ha : DE X T S a (.dat (.int i)) S1) (hb : DE X T S1 b (.dat (.int j)) S2) : DE X T S (.Compare a [.GtE] [b] pos) (.dat (.bl (decide (j ≤ i)))) S2 := de_cmp op_ge ha hb r2_B0 (nomark _)
theorem de_neg (ha : DE X T S a (.dat (.int i)) S1) : DE X T S (.UnaryOp .USub a pos) (.dat (.int (-i))) S1 := de_unop un_neg ha fun ad F H v Q c r1 q => by
  cases r1
  exact ⟨i, rfl, q _ H ad .refl c .int⟩

/-! #### subscripts -/
theorem reps_at {K : PySem.W.Frag} {M : Addr → Prop} {H : Hp} {vs : List V} {ds : List D} (h : Reps T K M H vs ds) (e : atI ds i = some d) : ∃ v, atI vs i = some v ∧ Rep T K M H v d := by
  unfold atI at e ⊢
  rw [h.length]
  cases q : ixN ds.length i with
  | none => rw [q] at e; cases e
  | some j =>
    rw [q] at e
    obtain ⟨v, h1, h2⟩ := h.get (i := j) e
    exact ⟨v, h1, h2⟩
theorem de_ixL {ds : List D} (ha : DE X T S a (.dat (.lst ds)) S1) (hb : DE X T S1 b (.dat (.int i)) S2) (hi : atI ds i = some d) (hp : PlainIx b := by intro _ _; rfl) : DE X T S (.Subscript a b pos) (.dat d) S2 :=
  de_ix ix_list ha hb (fun ad F H v w Q c r1 r2 q => by
    cases r2
    cases r1 with
    | lst n e r =>
      obtain ⟨u, h1, h2⟩ := reps_at r hi
      exact ⟨_, _, i, u, rfl, rfl, SqL.of e, h1, q u H ad .refl c h2⟩) hp
theorem de_ixR {ds : List D} (ha : DE X T S a (.dat (.scr ds)) S1) (hb : DE X T S1 b (.dat (.int i)) S2) (hi : atI ds i = some d) (hp : PlainIx b := by intro _ _; rfl) : DE X T S (.Subscript a b pos) (.dat d) S2 :=
  de_ix ix_list ha hb (fun ad F H v w Q c r1 r2 q => by
    cases r2
    cases r1 with
    | scr e r =>
      obtain ⟨u, h1, h2⟩ := reps_at r hi
      exact ⟨_, _, i, u, rfl, rfl, e.sq, h1, q u H ad .refl c h2⟩) hp
theorem de_ixT {ds : List D} (ha : DE X T S a (.dat (.tup ds)) S1) (hb : DE X T S1 b (.dat (.int i)) S2) (hi : atI ds i = some d) (hp : PlainIx b := by intro _ _; rfl) : DE X T S (.Subscript a b pos) (.dat d) S2 :=
  de_ix ix_tup ha hb (fun ad F H v w Q c r1 r2 q => by
    cases r2
    cases r1 with
    | tup e r =>
      obtain ⟨u, h1, h2⟩ := reps_at r hi
      exact ⟨_, _, i, u, rfl, rfl, e.sq, h1, q u H ad .refl c h2⟩) hp
theorem de_ixC {k : Nat} {ds : List D} (ha : DE X T S a (.cel k) S1) (hb : DE X T S1 b (.dat (.int i)) S2) (hk : S2.cs[k]? = some (.lst ds)) (hi : atI ds i = some d) (hp : PlainIx b := by intro _ _; rfl) : DE X T S (.Subscript a b pos) (.dat d) S2 :=
  de_ix ix_list ha hb (fun ad F H v w Q c r1 r2 q => by
    cases r2
    obtain ⟨p, e, rfl⟩ := r1
    obtain ⟨vs, h1, h2⟩ := c.ce k p _ e hk
    obtain ⟨u, h3, h4⟩ := reps_at h2 hi
    exact ⟨_, _, i, u, rfl, rfl, SqL.of h1, h3, q u H ad .refl c h4⟩) hp

/-! #### arguments -/
def SlReps (T : Tab) (K : PySem.W.Frag) (ad : List Addr) (F : Addr → Prop) (H : Hp) : List V → List Sl → Prop
  | [], [] => True
  | v :: vs, s :: ss => SlRep T K ad F H v s ∧ SlReps T K ad F H vs ss
  | _, _ => False
theorem SlReps.ext {K : PySem.W.Frag} {ad ad1 : List Addr} {F : Addr → Prop} {H H1 : Hp} (x : Ext ad F H ad1 H1) : ∀ {vs : List V} {ss : List Sl}, SlReps T K ad F H vs ss → SlReps T K ad1 F H1 vs ss
  | [], [], _ => trivial
  | _ :: _, _ :: _, h => ⟨h.1.ext x, SlReps.ext x h.2⟩
theorem SlReps.len {K : PySem.W.Frag} {ad : List Addr} {F : Addr → Prop} {H : Hp} : ∀ {vs : List V} {ss : List Sl}, SlReps T K ad F H vs ss → vs.length = ss.length
  | [], [], _ => rfl
  | _ :: _, _ :: _, h => by rw [List.length_cons, List.length_cons, SlReps.len h.2]
theorem SlReps.dats {K : PySem.W.Frag} {ad : List Addr} {F : Addr → Prop} {H : Hp} : ∀ {vs : List V} {ds : List D}, SlReps T K ad F H vs (ds.map Sl.dat) → Reps T K (Mm ad F) H vs ds
  | [], [], _ => .nil
  | _ :: _, _ :: _, h => .cons h.1 (SlReps.dats h.2)
theorem SlReps.of {K : PySem.W.Frag} {ad : List Addr} {F : Addr → Prop} {H : Hp} : ∀ {vs : List V} {ds : List D}, Reps T K (Mm ad F) H vs ds → SlReps T K ad F H vs (ds.map Sl.dat)
  | _, _, .nil => trivial
  | _, _, .cons h t => ⟨h, SlReps.of t⟩
def tDA (T : Tab) (K : PySem.W.Frag) (S : Sta) (ss : List Sl) (S' : Sta) : TA := fun σ H Q => ∃ ad F, Hold T K S ad F σ H ∧
  ∀ vs H' ad', Ext ad F H ad' H' → Hold T K S' ad' F σ H' → SlReps T K ad' F H' vs ss → Q vs H'
def DA (X : Cx) (T : Tab) (S : Sta) (es : List Expr) (ss : List Sl) (S' : Sta) : Prop := PA X es (tDA T X.K S ss S')
theorem da_nil : DA X T S [] [] S := weakA pa_nil fun σ H Q ⟨ad, F, h, q⟩ => q [] H ad .refl h trivial
theorem da_cons {es : List Expr} {ss : List Sl} (ha : DE X T S e s S1) (hr : DA X T S1 es ss S2) (hs : starEach (e :: es) X.env = (false, eval e X.env) :: starEach es X.env := by rfl) : DA X T S (e :: es) (s :: ss) S2 :=
  weakA (pa_cons ha hr hs) fun σ H Q ⟨ad, F, h, q⟩ => ⟨ad, F, h, fun v H1 ad1 x1 h1 r1 => ⟨ad1, F, h1, fun vs H2 ad2 x2 h2 r2 => q _ H2 ad2 (x1.trans h1.hc x2) h2 ⟨r1.ext x2, r2⟩⟩⟩
theorem de_tup {es : List Expr} {ds : List D} {x1} (h : DA X T S es (ds.map Sl.dat) S1) (hl : ds.length ≤ sizeLine) : DE X T S (.Tuple es x1 pos) (.dat (.tup ds)) S1 :=
  weak (pe_tup h) fun σ H Q ⟨ad, F, h, q⟩ => ⟨ad, F, h, fun vs H1 ad1 x1 h1 r1 => ⟨by rw [r1.dats.length]; exact hl, fun p hp => by
    obtain ⟨c, x2⟩ := h1.hc.newo (o := .tup vs) hp
    refine q _ _ ad1 (x1.trans h1.hc x2) (h1.to x2 c) (.tup (vs := vs) (.inl ⟨h1.hc.new hp, .inl upd_same⟩) (r1.dats.kp x2.kp))⟩⟩
theorem de_lst {es : List Expr} {ds : List D} (h : DA X T S es (ds.map Sl.dat) S1) (hl : ds.length ≤ sizeLine) : DE X T S (.List es pos) (.dat (.lst ds)) S1 :=
  weak (pe_lst h) fun σ H Q ⟨ad, F, h, q⟩ => ⟨ad, F, h, fun vs H1 ad1 x1 h1 r1 => ⟨by rw [r1.dats.length]; exact hl, fun p hp => by
    obtain ⟨c, x2⟩ := h1.hc.newo (o := .lst vs) hp
    refine q _ _ ad1 (x1.trans h1.hc x2) (h1.to x2 c) (.lst (vs := vs) (h1.hc.new hp) upd_same (r1.dats.kp x2.kp))⟩⟩
/-- a list that will be changed -/
theorem de_lstC {es : List Expr} {ds : List D} (h : DA X T S es (ds.map Sl.dat) S1) (hl : ds.length ≤ sizeLine) : DE X T S (.List es pos) (.cel S1.cs.length) ⟨S1.sl, S1.cs ++ [.lst ds]⟩ :=
  weak (pe_lst h) fun σ H Q ⟨ad, F, h, q⟩ => ⟨ad, F, h, fun vs H1 ad1 x1 h1 r1 => ⟨by rw [r1.dats.length]; exact hl, fun p hp => by
    have kp : Kp (Mm ad1 F) H1 (Mm (ad1 ++ [p]) F) (upd H1 p (.lst vs)) := fun a o e n => by
      have np : a ≠ p := ne_of_none e hp
      refine ⟨by rw [upd_ne np]; exact e, fun z => ?_⟩
      rcases z with z | z
      · rcases List.mem_append.mp z with z | z
        · exact n (.inl z)
        · exact np (List.mem_singleton.mp z)
      · exact n (.inr z)
    obtain ⟨c, x2⟩ := h1.hc.cell (o := .lst vs) (c := .lst ds) hp ⟨vs, upd_same, r1.dats.kp kp⟩
    refine q _ _ _ (x1.trans h1.hc x2) (h1.to x2 c) ⟨p, ?_, rfl⟩
    rw [← h1.hc.ln, List.getElem?_append_right (Nat.le_refl _)]
    simp⟩⟩

/-! #### calls of builtins -/
def RCD (T : Tab) (K : PySem.W.Frag) (r : List V → Hp → VK → Prop) (ss : List Sl) (cs : List Cell) (s : Sl) (cs' : List Cell) : Prop :=
  ∀ ad F H vs (Q : VK), HoldC T K ad F H cs → SlReps T K ad F H vs ss → (∀ z H' ad', Ext ad F H ad' H' → HoldC T K ad' F H' cs' → SlRep T K ad' F H' z s → Q z H') → r vs H Q
theorem call_then {K : PySem.W.Frag} {r : List V → Hp → VK → Prop} {ss : List Sl} {σ : St} {H : Hp} {Q : VK} (hr : RCD T K r ss S1.cs s cs') (h : tD T K S s ⟨S1.sl, cs'⟩ σ H Q) : tDA T K S ss S1 σ H fun vs H1 => r vs H1 Q := by
  obtain ⟨ad, F, h0, q⟩ := h
  refine ⟨ad, F, h0, fun vs H1 ad1 x1 h1 r1 => ?_⟩
  exact hr ad1 F H1 vs Q h1.hc r1 fun z H' ad' x2 c2 r2 => q z H' ad' (x1.trans h1.hc x2) (h1.to x2 c2) r2
theorem de_callB {id : String} {r : List V → Hp → VK → Prop} {x : Str} {p : Pos} {es : List Expr} {ss : List Sl} (hc : CallR X (.builtin id) r) (hm : X.mg x = none) (hv : bootBuiltins x = some (.builtin id)) (ha : DA X T S (e :: es) ss S1) (hr : RCD T X.K r ss S1.cs s cs')
    (hg : Gl X x := by rfl) (hn : x ≠ "__name__" := by decide) (hdb : (x == ("__debug__" : Str)) = false := by decide)
    (he : starEach (e :: es) X.env = (false, eval e X.env) :: starEach es X.env := by rfl) (hpl : (backTo pos (starEach es X.env)).any (·.1) = false := by rfl) : DE X T S (.Call (.Name x p) (e :: es) [] pos) s ⟨S1.sl, cs'⟩ :=
  weak (pe_callB hc hg hm hv ha hn hdb he hpl) fun _ _ _ h => call_then hr h
theorem de_callTy {id : String} {r : List V → Hp → VK → Prop} {x : Str} {p : Pos} {es : List Expr} {ss : List Sl} (hc : CallR X (.type id) r) (hm : X.mg x = none) (hv : bootBuiltins x = some (.type id)) (ha : DA X T S (e :: es) ss S1) (hr : RCD T X.K r ss S1.cs s cs')
    (hg : Gl X x := by rfl) (hn : x ≠ "__name__" := by decide) (hdb : (x == ("__debug__" : Str)) = false := by decide)
    (he : starEach (e :: es) X.env = (false, eval e X.env) :: starEach es X.env := by rfl) (hpl : (backTo pos (starEach es X.env)).any (·.1) = false := by rfl) : DE X T S (.Call (.Name x p) (e :: es) [] pos) s ⟨S1.sl, cs'⟩ :=
  weak (pe_callTy hc hg hm hv ha hn hdb he hpl) fun _ _ _ h => call_then hr h
end
end Dl

namespace Dl
open PySem L2

/-! ### tests -/
def tDT (T : Tab) (K : PySem.W.Frag) (S : Sta) (b : Bool) (S' : Sta) : TT := fun σ H Q => ∃ ad F, Hold T K S ad F σ H ∧ ∀ H' ad', Ext ad F H ad' H' → Hold T K S' ad' F σ H' → Q b H'
def DT (X : Cx) (T : Tab) (S : Sta) (e : Expr) (b : Bool) (S' : Sta) : Prop := PT X e (tDT T X.K S b S')
def DW (X : Cx) (T : Tab) (S : Sta) (e : Expr) (b : Bool) (S' : Sta) : Prop := PW X e (tDT T X.K S b S')
theorem weakW {X : Cx} {e : Expr} {t t' : TT} (h : PW X e t) (q : ∀ σ H Q, t' σ H Q → t σ H Q) : PW X e t' := ⟨fun whole pins s σ H Q I z => h.run whole pins s σ H Q I (q σ H Q z)⟩
theorem noE {X : Cx} {e : Expr} : PE X e (fun _ _ _ => False) := ⟨fun _ _ _ _ _ _ h => h.elim⟩
theorem noW {X : Cx} {e : Expr} : PW X e (fun _ _ _ => False) := ⟨fun _ _ _ _ _ _ _ h => h.elim⟩
theorem noSs {X : Cx} {e : List Stmt} : PSs X e (fun _ _ _ => False) := ⟨fun _ _ _ _ _ _ h => h.elim⟩
section
variable {X : Cx} {T : Tab} {S S1 S2 S3 : Sta} {a b e c : Expr} {pos : Pos} {s s1 s2 : Sl} {cs cs' : List Cell} {d d1 d2 : D} {i j : Int} {k k1 k2 : Bool} {rest : List Expr}
theorem DW.pt (h : DW X T S e k S1) : DT X T S e k S1 := PW.pt h
theorem dt_val (h : DE X T S e (.dat (.bl k)) S1) (he : ∀ whole, isTrue e X.env whole = (do let v ← whole; standAt e.pos; holding [v] (truthy v)) := by intro _; rfl) : DT X T S e k S1 :=
  weakT (pt_val h he) fun σ H Q ⟨ad, F, h, q⟩ => ⟨ad, F, h, fun v H1 ad1 x1 h1 r1 => by cases r1; exact ⟨k, rfl, q H1 ad1 x1 h1⟩⟩
theorem dt_not (h : DT X T S a k S1) : DT X T S (.UnaryOp .Not a pos) (!k) S1 := weakT (pt_not h) fun σ H Q ⟨ad, F, h, q⟩ => ⟨ad, F, h, fun H1 ad1 x1 h1 => q H1 ad1 x1 h1⟩
theorem dw_and1 (h : DT X T S a k S1) : DW X T S (.BoolOp .And [a] pos) k S1 := pw_and1 h
theorem dw_or1 (h : DT X T S a k S1) : DW X T S (.BoolOp .Or [a] pos) k S1 := pw_or1 h
theorem dw_andT (ha : DT X T S a true S1) (hb : DW X T S1 (.BoolOp .And (b :: rest) pos) k S2) : DW X T S (.BoolOp .And (a :: b :: rest) pos) k S2 :=
  weakW (pw_and ha hb) fun σ H Q ⟨ad, F, h, q⟩ => ⟨ad, F, h, fun H1 ad1 x1 h1 => iteT ⟨ad1, F, h1, fun H2 ad2 x2 h2 => q H2 ad2 (x1.trans h1.hc x2) h2⟩⟩
theorem dw_andF (ha : DT X T S a false S1) : DW X T S (.BoolOp .And (a :: b :: rest) pos) false S1 :=
  weakW (pw_and ha noW) fun σ H Q ⟨ad, F, h, q⟩ => ⟨ad, F, h, fun H1 ad1 x1 h1 => iteF (q H1 ad1 x1 h1)⟩
theorem dw_orF (ha : DT X T S a false S1) (hb : DW X T S1 (.BoolOp .Or (b :: rest) pos) k S2) : DW X T S (.BoolOp .Or (a :: b :: rest) pos) k S2 :=
  weakW (pw_or ha hb) fun σ H Q ⟨ad, F, h, q⟩ => ⟨ad, F, h, fun H1 ad1 x1 h1 => iteF ⟨ad1, F, h1, fun H2 ad2 x2 h2 => q H2 ad2 (x1.trans h1.hc x2) h2⟩⟩
theorem dw_orT (ha : DT X T S a true S1) : DW X T S (.BoolOp .Or (a :: b :: rest) pos) true S1 :=
  weakW (pw_or ha noW) fun σ H Q ⟨ad, F, h, q⟩ => ⟨ad, F, h, fun H1 ad1 x1 h1 => iteT (q H1 ad1 x1 h1)⟩
/-- and, or: the state stays -/
theorem dw_and (ha : DT X T S a k1 S) (hb : k1 = true → DW X T S (.BoolOp .And (b :: rest) pos) k2 S) : DW X T S (.BoolOp .And (a :: b :: rest) pos) (k1 && k2) S := by
  cases k1 with
  | true => exact dw_andT ha (hb rfl)
  | false => exact dw_andF ha
theorem dw_or (ha : DT X T S a k1 S) (hb : k1 = false → DW X T S (.BoolOp .Or (b :: rest) pos) k2 S) : DW X T S (.BoolOp .Or (a :: b :: rest) pos) (k1 || k2) S := by
  cases k1 with
  | true => exact dw_orT ha
  | false => exact dw_orF ha (hb rfl)
/-! #### as values -/
theorem de_one {op} (h : DE X T S a s S1) : DE X T S (.BoolOp op [a] pos) s S1 := pe_one h
theorem de_andT (ha : DE X T S a (.dat (.bl true)) S1) (hb : DE X T S1 (.BoolOp .And (b :: rest) pos) s S2) : DE X T S (.BoolOp .And (a :: b :: rest) pos) s S2 :=
  weak (pe_and ha hb) fun σ H Q ⟨ad, F, h, q⟩ => ⟨ad, F, h, fun v H1 ad1 x1 h1 r1 => by cases r1; exact ⟨true, rfl, iteT ⟨ad1, F, h1, fun v2 H2 ad2 x2 h2 r2 => q v2 H2 ad2 (x1.trans h1.hc x2) h2 r2⟩⟩⟩
theorem de_andF (ha : DE X T S a (.dat (.bl false)) S1) : DE X T S (.BoolOp .And (a :: b :: rest) pos) (.dat (.bl false)) S1 :=
  weak (pe_and ha noE) fun σ H Q ⟨ad, F, h, q⟩ => ⟨ad, F, h, fun v H1 ad1 x1 h1 r1 => by cases r1; exact ⟨false, rfl, iteF (q _ H1 ad1 x1 h1 .bl)⟩⟩
theorem de_orF (ha : DE X T S a (.dat (.bl false)) S1) (hb : DE X T S1 (.BoolOp .Or (b :: rest) pos) s S2) : DE X T S (.BoolOp .Or (a :: b :: rest) pos) s S2 :=
  weak (pe_or ha hb) fun σ H Q ⟨ad, F, h, q⟩ => ⟨ad, F, h, fun v H1 ad1 x1 h1 r1 => by cases r1; exact ⟨false, rfl, iteF ⟨ad1, F, h1, fun v2 H2 ad2 x2 h2 r2 => q v2 H2 ad2 (x1.trans h1.hc x2) h2 r2⟩⟩⟩
theorem de_orT (ha : DE X T S a (.dat (.bl true)) S1) : DE X T S (.BoolOp .Or (a :: b :: rest) pos) (.dat (.bl true)) S1 :=
  weak (pe_or ha noE) fun σ H Q ⟨ad, F, h, q⟩ => ⟨ad, F, h, fun v H1 ad1 x1 h1 r1 => by cases r1; exact ⟨true, rfl, iteT (q _ H1 ad1 x1 h1 .bl)⟩⟩
theorem de_and (ha : DE X T S a (.dat (.bl k1)) S) (hb : k1 = true → DE X T S (.BoolOp .And (b :: rest) pos) (.dat (.bl k2)) S) : DE X T S (.BoolOp .And (a :: b :: rest) pos) (.dat (.bl (k1 && k2))) S := by
  cases k1 with
  | true => exact de_andT ha (hb rfl)
  | false => exact de_andF ha
theorem de_or (ha : DE X T S a (.dat (.bl k1)) S) (hb : k1 = false → DE X T S (.BoolOp .Or (b :: rest) pos) (.dat (.bl k2)) S) : DE X T S (.BoolOp .Or (a :: b :: rest) pos) (.dat (.bl (k1 || k2))) S := by
  cases k1 with
  | true => exact de_orT ha
  | false => exact de_orF ha (hb rfl)
theorem de_not (ha : DE X T S a (.dat (.bl k)) S1) : DE X T S (.UnaryOp .Not a pos) (.dat (.bl (!k))) S1 :=
  weak (pe_not ha) fun σ H Q ⟨ad, F, h, q⟩ => ⟨ad, F, h, fun v H1 ad1 x1 h1 r1 => by cases r1; exact ⟨k, rfl, q _ H1 ad1 x1 h1 .bl⟩⟩
theorem de_ifT (hc : DT X T S c true S1) (ha : DE X T S1 a s S2) : DE X T S (.IfExp c a b pos) s S2 :=
  weak (pe_ifExp hc ha noE) fun σ H Q ⟨ad, F, h, q⟩ => ⟨ad, F, h, fun H1 ad1 x1 h1 => iteT ⟨ad1, F, h1, fun v2 H2 ad2 x2 h2 r2 => q v2 H2 ad2 (x1.trans h1.hc x2) h2 r2⟩⟩
theorem de_ifF (hc : DT X T S c false S1) (hb : DE X T S1 b s S2) : DE X T S (.IfExp c a b pos) s S2 :=
  weak (pe_ifExp hc noE hb) fun σ H Q ⟨ad, F, h, q⟩ => ⟨ad, F, h, fun H1 ad1 x1 h1 => iteF ⟨ad1, F, h1, fun v2 H2 ad2 x2 h2 r2 => q v2 H2 ad2 (x1.trans h1.hc x2) h2 r2⟩⟩
theorem de_if (hc : DT X T S c k S1) (ha : k = true → DE X T S1 a (.dat d1) S2) (hb : k = false → DE X T S1 b (.dat d2) S2) : DE X T S (.IfExp c a b pos) (.dat (if k then d1 else d2)) S2 := by
  cases k with
  | true => exact de_ifT hc (ha rfl)
  | false => exact de_ifF hc (hb rfl)
end

/-! ### statements -/
/-- an error: the number of its class, its attributes -/
structure Exc where
  n : Nat
  fs : List D
def ExRep (T : Tab) (K : PySem.W.Frag) (M : Addr → Prop) (H : Hp) (cls : Value) (d : Option Addr) (x : Exc) : Prop :=
  ∃ C fn, T x.n = some (C, fn) ∧ cls = .ref C ∧ ((fn = [] ∧ x.fs = [] ∧ d = none) ∨ ∃ dd vs, d = some dd ∧ ¬ M dd ∧ H dd = some (.xd (fn.zip vs)) ∧ vs.length = fn.length ∧ Reps T K M H vs x.fs)
structure Post where
  nx : Sta → Prop
  rt : Sl → List Cell → Prop
  bk : Sta → Prop := fun _ => False
  ct : Sta → Prop := fun _ => False
  ex : Exc → Sta → Prop := fun _ _ => False
  W : WX := fun _ _ _ _ => False

structure ExtS (n : Nat) (ad : List Addr) (F : Addr → Prop) (H : Hp) (ad' : List Addr) (H' : Hp) : Prop where
  pre : ad'.take n = ad.take n
  sub : ∀ a ∈ ad', a ∈ ad ∨ H a = none
  keep : ∀ a o, H a = some o → ¬ Mm ad F a → H' a = some o
  frm : ∀ a, F a → H' a = H a
theorem ExtS.refl {n : Nat} {ad : List Addr} {F : Addr → Prop} {H : Hp} : ExtS n ad F H ad H := ⟨rfl, fun _ h => .inl h, fun _ _ h _ => h, fun _ _ => rfl⟩
theorem ExtS.kp {n : Nat} {ad ad1 : List Addr} {F : Addr → Prop} {H H1 : Hp} (x : ExtS n ad F H ad1 H1) : Kp (Mm ad F) H (Mm ad1 F) H1 := fun a o h n => by
  refine ⟨x.keep a o h n, fun z => ?_⟩
  rcases z with z | z
  · rcases x.sub a z with q | q
    · exact n (.inl q)
    · rw [q] at h; cases h
  · exact n (.inr z)
theorem ExtS.trans {n : Nat} {ad ad1 ad2 : List Addr} {F : Addr → Prop} {H H1 H2 : Hp} (x : ExtS n ad F H ad1 H1) (y : ExtS n ad1 F H1 ad2 H2) : ExtS n ad F H ad2 H2 := by
  refine ⟨y.pre.trans x.pre, fun a ha => ?_, fun a o h n => y.keep a o (x.keep a o h n) (x.kp a o h n).2, fun a fa => (y.frm a fa).trans (x.frm a fa)⟩
  rcases y.sub a ha with q | q
  · exact x.sub a q
  · cases e : H a with
    | none => exact .inr rfl
    | some o =>
      by_cases m : Mm ad F a
      · rcases m with m | m
        · exact .inl m
        · rw [x.frm a m, e] at q; cases q
      · rw [x.keep a o e m] at q; cases q
theorem Ext.s {n : Nat} {ad ad1 : List Addr} {F : Addr → Prop} {H H1 : Hp} (x : Ext ad F H ad1 H1) (hn : n ≤ ad.length) : ExtS n ad F H ad1 H1 := by
  obtain ⟨t, e, ht⟩ := x.pre
  refine ⟨by rw [e, List.take_append_of_le_length hn], fun a ha => ?_, x.keep, x.frm⟩
  rw [e] at ha
  exact (List.mem_append.mp ha).imp id (ht a)

def tDS (T : Tab) (K : PySem.W.Frag) (n : Nat) (S : Sta) (P : Post) : TS := fun D σ H => ∃ ad F, n ≤ ad.length ∧ Hold T K S ad F σ H ∧
  (∀ S' σ' H' ad', ExtS n ad F H ad' H' → n ≤ ad'.length → Hold T K S' ad' F σ' H' → P.nx S' → D.nx σ' H') ∧
  (∀ s cs' v H' ad', ExtS n ad F H ad' H' → n ≤ ad'.length → HoldC T K ad' F H' cs' → SlRep T K ad' F H' v s → P.rt s cs' → D.rt v H') ∧
  (∀ S' σ' H' ad', ExtS n ad F H ad' H' → n ≤ ad'.length → Hold T K S' ad' F σ' H' → P.bk S' → D.bk σ' H') ∧
  (∀ S' σ' H' ad', ExtS n ad F H ad' H' → n ≤ ad'.length → Hold T K S' ad' F σ' H' → P.ct S' → D.ct σ' H') ∧
  (∀ x S' cls d σ' H' ad', ExtS n ad F H ad' H' → n ≤ ad'.length → Hold T K S' ad' F σ' H' → ExRep T K (Mm ad' F) H' cls d x → P.ex x S' → P.W cls d σ' H')
def DS (X : Cx) (T : Tab) (n : Nat) (S : Sta) (st : Stmt) (P : Post) : Prop := PS X st (tDS T X.K n S P)
def DSs (X : Cx) (T : Tab) (n : Nat) (S : Sta) (sts : List Stmt) (P : Post) : Prop := PSs X sts (tDS T X.K n S P)

section
variable {X : Cx} {T : Tab} {n : Nat} {S S1 S2 S3 : Sta} {a b e c : Expr} {pos : Pos} {s s1 s2 : Sl} {cs cs' : List Cell} {d d1 d2 : D} {i j : Int} {k k1 k2 : Bool} {rest body els : List Stmt} {st : Stmt} {P : Post}

theorem dss_nil (h : P.nx S) : DSs X T n S [] P := weakSs pss_nil fun D σ H ⟨ad, F, hn, h0, q, _⟩ => q S σ H ad .refl hn h0 h
theorem dss_cons (h : DS X T n S st { P with nx := fun S' => DSs X T n S' rest P }) : DSs X T n S (st :: rest) P := by
  have h2 : PSs X rest (fun D σ H => ∃ S', DSs X T n S' rest P ∧ tDS T X.K n S' P D σ H) := ⟨fun pins s σ H D I ⟨S', hS, z⟩ => hS.run pins s σ H D I z⟩
  refine weakSs (pss_cons h h2) fun D σ H ⟨ad, F, hn, h0, q1, q2, q3, q4, q5⟩ => ⟨ad, F, hn, h0, fun S' σ' H' ad' x hn' h' hS => ⟨S', hS, ad', F, hn', h', ?_, ?_, ?_, ?_, ?_⟩, q2, q3, q4, q5⟩
  · exact fun S2 σ2 H2 ad2 x2 hn2 h2 p => q1 S2 σ2 H2 ad2 (x.trans x2) hn2 h2 p
  · exact fun s cs2 v H2 ad2 x2 hn2 c2 r p => q2 s cs2 v H2 ad2 (x.trans x2) hn2 c2 r p
  · exact fun S2 σ2 H2 ad2 x2 hn2 h2 p => q3 S2 σ2 H2 ad2 (x.trans x2) hn2 h2 p
  · exact fun S2 σ2 H2 ad2 x2 hn2 h2 p => q4 S2 σ2 H2 ad2 (x.trans x2) hn2 h2 p
  · exact fun z S2 cls d σ2 H2 ad2 x2 hn2 h2 r p => q5 z S2 cls d σ2 H2 ad2 (x.trans x2) hn2 h2 r p
theorem Ext.le {ad ad1 : List Addr} {F : Addr → Prop} {H H1 : Hp} (x : Ext ad F H ad1 H1) (h : n ≤ ad.length) : n ≤ ad1.length := by
  obtain ⟨t, e, _⟩ := x.pre
  rw [e, List.length_append]
  omega
/-- the state behind, seen with other ends -/
theorem tDS.go {K : PySem.W.Frag} {D : Ends} {σ σ' : St} {H H1 : Hp} {ad ad1 : List Addr} {F : Addr → Prop} (x : ExtS n ad F H ad1 H1) (hn : n ≤ ad1.length) (h : Hold T K S1 ad1 F σ' H1)
    (q1 : ∀ S' σ' H' ad', ExtS n ad F H ad' H' → n ≤ ad'.length → Hold T K S' ad' F σ' H' → P.nx S' → D.nx σ' H')
    (q2 : ∀ s cs' v H' ad', ExtS n ad F H ad' H' → n ≤ ad'.length → HoldC T K ad' F H' cs' → SlRep T K ad' F H' v s → P.rt s cs' → D.rt v H')
    (q3 : ∀ S' σ' H' ad', ExtS n ad F H ad' H' → n ≤ ad'.length → Hold T K S' ad' F σ' H' → P.bk S' → D.bk σ' H')
    (q4 : ∀ S' σ' H' ad', ExtS n ad F H ad' H' → n ≤ ad'.length → Hold T K S' ad' F σ' H' → P.ct S' → D.ct σ' H')
    (q5 : ∀ x S' cls d σ' H' ad', ExtS n ad F H ad' H' → n ≤ ad'.length → Hold T K S' ad' F σ' H' → ExRep T K (Mm ad' F) H' cls d x → P.ex x S' → P.W cls d σ' H') : tDS T K n S1 P D σ' H1 :=
  ⟨ad1, F, hn, h, fun S2 σ2 H2 ad2 x2 hn2 h2 p => q1 S2 σ2 H2 ad2 (x.trans x2) hn2 h2 p, fun s cs2 v H2 ad2 x2 hn2 c2 r p => q2 s cs2 v H2 ad2 (x.trans x2) hn2 c2 r p,
    fun S2 σ2 H2 ad2 x2 hn2 h2 p => q3 S2 σ2 H2 ad2 (x.trans x2) hn2 h2 p, fun S2 σ2 H2 ad2 x2 hn2 h2 p => q4 S2 σ2 H2 ad2 (x.trans x2) hn2 h2 p,
    fun z S2 cls d σ2 H2 ad2 x2 hn2 h2 r p => q5 z S2 cls d σ2 H2 ad2 (x.trans x2) hn2 h2 r p⟩
theorem ds_pass (h : P.nx S) : DS X T n S (.Pass pos) P := weakS ps_pass fun D σ H ⟨ad, F, hn, h0, q, _⟩ => q S σ H ad .refl hn h0 h
theorem ds_break (h : P.bk S) : DS X T n S (.Break pos) P := weakS ps_break fun D σ H ⟨ad, F, hn, h0, _, _, q, _⟩ => q S σ H ad .refl hn h0 h
theorem ds_continue (h : P.ct S) : DS X T n S (.Continue pos) P := weakS ps_continue fun D σ H ⟨ad, F, hn, h0, _, _, _, q, _⟩ => q S σ H ad .refl hn h0 h
theorem Hold.set {K : PySem.W.Frag} {ad : List Addr} {F : Addr → Prop} {σ : St} {H : Hp} {v : V} (h : Hold T K S ad F σ H) (r : SlRep T K ad F H v s) (i : Nat) : Hold T K ⟨S.sl.set i (some s), S.cs⟩ ad F (σ.set i (some v)) H := by
  refine ⟨h.hc, by simp [h.sz], fun j u e => ?_⟩
  by_cases hj : i = j
  · subst hj
    have hl : i < S.sl.length := by
      have := (List.getElem?_eq_some_iff.mp e).1
      simpa using this
    rw [List.getElem?_set_self hl] at e
    cases e
    exact ⟨v, by rw [List.getElem?_set_self (by rw [h.sz]; exact hl)], r⟩
  · rw [List.getElem?_set_ne hj] at e
    obtain ⟨w, hw, rw'⟩ := h.sl j u e
    exact ⟨w, by rw [List.getElem?_set_ne hj]; exact hw, rw'⟩
theorem ds_asg (i : Nat) {x : Str} {p' : Pos} (hN : X.N.Nodup) (he : DE X T S e s S1) (h : P.nx ⟨S1.sl.set i (some s), S1.cs⟩) (hi : X.N[i]? = some x := by rfl) (hx : Loc X.env.scope x := by first | exact Or.inl rfl | exact Or.inr rfl)
    (hs : swapsWith e (some (.Name x p')) pos.line X.env = pure false := by rfl) (hf : X.fn x = true ∨ X.env.scope.names.lookup x = some .local := by first | exact .inl rfl | exact .inr rfl) : DS X T n S (.Assign [.Name x p'] e pos) P :=
  weakS (ps_set hN hi hx he hs hf) fun D σ H ⟨ad, F, hn, h0, q, _⟩ => ⟨ad, F, h0, fun v H1 ad1 x1 h1 r1 => q _ _ H1 ad1 (x1.s hn) (x1.le hn) (h1.set r1 i) h⟩
theorem ds_expr (he : DE X T S e s S1) (h : P.nx S1) (hs : swapsWith e none pos.line X.env = pure false := by rfl) : DS X T n S (.Expr e pos) P :=
  weakS (ps_expr he hs) fun D σ H ⟨ad, F, hn, h0, q, _⟩ => ⟨ad, F, h0, fun v H1 ad1 x1 h1 r1 => q S1 σ H1 ad1 (x1.s hn) (x1.le hn) h1 h⟩
/-- return of data: the def's own cells are dropped -/
theorem ds_ret (he : DE X T S e (.dat d) S1) (h : P.rt (.dat d) (S1.cs.take n)) : DS X T n S (.Return (some e) pos) P :=
  weakS (ps_ret he) fun D σ H ⟨ad, F, hn, h0, _, q, _⟩ => ⟨ad, F, h0, fun v H1 ad1 x1 h1 r1 => by
    have xs := x1.s hn
    have hn1 := x1.le hn
    have kp : Kp (Mm ad1 F) H1 (Mm (ad1.take n) F) H1 := fun a o e z => ⟨e, fun y => z (y.imp List.mem_of_mem_take id)⟩
    refine q (.dat d) _ v H1 (ad1.take n) ⟨by rw [List.take_take, Nat.min_self]; exact xs.pre, fun a ha => xs.sub a (List.mem_of_mem_take ha), xs.keep, xs.frm⟩ (by rw [List.length_take]; omega) (h1.hc.take n) (Rep.kp kp r1) h⟩
theorem ds_retN (h : P.rt (.dat .non) (S.cs.take n)) : DS X T n S (.Return none pos) P :=
  weakS ps_retN fun D σ H ⟨ad, F, hn, h0, _, q, _⟩ => by
    refine q (.dat .non) _ .non H (ad.take n) ⟨by rw [List.take_take, Nat.min_self], fun a ha => .inl (List.mem_of_mem_take ha), fun _ _ e _ => e, fun _ _ => rfl⟩ (by rw [List.length_take]; omega) (h0.hc.take n) Rep.non h
/-- return of a new cell -/
theorem ds_retC (m : Nat) {k : Nat} (he : DE X T S e (.cel k) S1) (hm : n ≤ m) (hk : k < m) (h : P.rt (.cel k) (S1.cs.take m)) : DS X T n S (.Return (some e) pos) P :=
  weakS (ps_ret he) fun D σ H ⟨ad, F, hn, h0, _, q, _⟩ => ⟨ad, F, h0, fun v H1 ad1 x1 h1 r1 => by
    have xs := x1.s hn
    have hn1 := x1.le hn
    obtain ⟨a, ha, hv⟩ := r1
    refine q (.cel k) _ v H1 (ad1.take m) ⟨by rw [List.take_take, Nat.min_eq_left hm]; exact xs.pre, fun a ha => xs.sub a (List.mem_of_mem_take ha), xs.keep, xs.frm⟩ (by rw [List.length_take]; omega) (h1.hc.take m) ⟨a, by rw [List.getElem?_take_of_lt hk]; exact ha, hv⟩ h⟩
/-- return of a cell of the def's own, as data -/
theorem ds_retF {k : Nat} {ds : List D} (he : DE X T S e (.cel k) S1) (hk : n ≤ k) (hc : S1.cs[k]? = some (.lst ds)) (h : P.rt (.dat (.lst ds)) (S1.cs.take n)) : DS X T n S (.Return (some e) pos) P :=
  weakS (ps_ret he) fun D σ H ⟨ad, F, hn, h0, _, q, _⟩ => ⟨ad, F, h0, fun v H1 ad1 x1 h1 r1 => by
    have xs := x1.s hn
    have hn1 := x1.le hn
    obtain ⟨a, ha, rfl⟩ := r1
    have kp : Kp (Mm ad1 F) H1 (Mm (ad1.take n) F) H1 := fun a o e z => ⟨e, fun y => z (y.imp List.mem_of_mem_take id)⟩
    obtain ⟨vs, e1, r⟩ := h1.hc.ce k a _ ha hc
    have na : ¬ Mm (ad1.take n) F a := fun y => by
      rcases y with y | y
      · obtain ⟨m, hm, em⟩ := List.getElem_of_mem y
        have hm' : m < n := by rw [List.length_take] at hm; omega
        rw [List.getElem_take] at em
        have hm2 : m < ad1.length := by omega
        have := ix_inj (j := m) h1.hc.nd ha (by rw [List.getElem?_eq_getElem hm2, em])
        omega
      · exact h1.hc.fr a (List.mem_of_getElem? ha) y
    refine q (.dat (.lst ds)) _ _ H1 (ad1.take n) ⟨by rw [List.take_take, Nat.min_self]; exact xs.pre, fun a ha => xs.sub a (List.mem_of_mem_take ha), xs.keep, xs.frm⟩ (by rw [List.length_take]; omega) (h1.hc.take n) (Rep.lst na e1 (r.kp kp)) h⟩
theorem ds_if (hc : DT X T S c k S1) (h1 : k = true → DSs X T n S1 body P) (h2 : k = false → DSs X T n S1 els P) : DS X T n S (.If c body els pos) P := by
  cases k with
  | true => exact weakS (ps_if hc (h1 rfl) noSs) fun D σ H ⟨ad, F, hn, h0, q1, q2, q3, q4, q5⟩ => ⟨ad, F, h0, fun H1 ad1 x1 h1 => iteT (tDS.go (σ := σ) (x1.s hn) (x1.le hn) h1 q1 q2 q3 q4 q5)⟩
  | false => exact weakS (ps_if hc noSs (h2 rfl)) fun D σ H ⟨ad, F, hn, h0, q1, q2, q3, q4, q5⟩ => ⟨ad, F, h0, fun H1 ad1 x1 h1 => iteF (tDS.go (σ := σ) (x1.s hn) (x1.le hn) h1 q1 q2 q3 q4 q5)⟩
theorem ds_mono {P' : Post} (h : DS X T n S st P) (h1 : ∀ S, P.nx S → P'.nx S) (h2 : ∀ s cs, P.rt s cs → P'.rt s cs) (h3 : ∀ S, P.bk S → P'.bk S) (h4 : ∀ S, P.ct S → P'.ct S) (h5 : ∀ x S, P.ex x S → P'.ex x S) (hW : P'.W = P.W) : DS X T n S st P' :=
  weakS h fun D σ H ⟨ad, F, hn, h0, q1, q2, q3, q4, q5⟩ => ⟨ad, F, hn, h0, fun S2 σ2 H2 ad2 x2 hn2 h2' p => q1 S2 σ2 H2 ad2 x2 hn2 h2' (h1 _ p), fun s cs2 v H2 ad2 x2 hn2 c2 r p => q2 s cs2 v H2 ad2 x2 hn2 c2 r (h2 _ _ p),
    fun S2 σ2 H2 ad2 x2 hn2 h2' p => q3 S2 σ2 H2 ad2 x2 hn2 h2' (h3 _ p), fun S2 σ2 H2 ad2 x2 hn2 h2' p => q4 S2 σ2 H2 ad2 x2 hn2 h2' (h4 _ p),
    fun z S2 cls d σ2 H2 ad2 x2 hn2 h2' r p => by rw [← hW]; exact q5 z S2 cls d σ2 H2 ad2 x2 hn2 h2' r (h5 _ _ p)⟩
theorem dss_mono {sts : List Stmt} {P' : Post} (h : DSs X T n S sts P) (h1 : ∀ S, P.nx S → P'.nx S) (h2 : ∀ s cs, P.rt s cs → P'.rt s cs) (h3 : ∀ S, P.bk S → P'.bk S) (h4 : ∀ S, P.ct S → P'.ct S) (h5 : ∀ x S, P.ex x S → P'.ex x S) (hW : P'.W = P.W) : DSs X T n S sts P' :=
  weakSs h fun D σ H ⟨ad, F, hn, h0, q1, q2, q3, q4, q5⟩ => ⟨ad, F, hn, h0, fun S2 σ2 H2 ad2 x2 hn2 h2' p => q1 S2 σ2 H2 ad2 x2 hn2 h2' (h1 _ p), fun s cs2 v H2 ad2 x2 hn2 c2 r p => q2 s cs2 v H2 ad2 x2 hn2 c2 r (h2 _ _ p),
    fun S2 σ2 H2 ad2 x2 hn2 h2' p => q3 S2 σ2 H2 ad2 x2 hn2 h2' (h3 _ p), fun S2 σ2 H2 ad2 x2 hn2 h2' p => q4 S2 σ2 H2 ad2 x2 hn2 h2' (h4 _ p),
    fun z S2 cls d σ2 H2 ad2 x2 hn2 h2' r p => by rw [← hW]; exact q5 z S2 cls d σ2 H2 ad2 x2 hn2 h2' r (h5 _ _ p)⟩
/-- slots and cells at the end may be forgotten -/
theorem dss_forget {sts : List Stmt} {sl' : List (Option Sl)} (m : Nat) (h : DSs X T n ⟨sl', S.cs.take m⟩ sts P) (hm : n ≤ m) (hl : sl'.length = S.sl.length) (hs : ∀ (i : Nat) s, sl'[i]? = some (some s) → S.sl[i]? = some (some s) ∧ (∀ k, s = .cel k → k < m)) : DSs X T n S sts P :=
  weakSs h fun D σ H ⟨ad, F, hn, h0, q1, q2, q3, q4, q5⟩ => by
    have kp : Kp (Mm ad F) H (Mm (ad.take m) F) H := fun a o e z => ⟨e, fun y => z (y.imp List.mem_of_mem_take id)⟩
    have x : ExtS n ad F H (ad.take m) H := ⟨by rw [List.take_take, Nat.min_eq_left hm], fun a ha => .inl (List.mem_of_mem_take ha), fun _ _ e _ => e, fun _ _ => rfl⟩
    refine tDS.go (σ := σ) x (by rw [List.length_take]; omega) ⟨h0.hc.take m, by rw [h0.sz, hl], fun i s e => ?_⟩ q1 q2 q3 q4 q5
    obtain ⟨e1, e2⟩ := hs i s e
    obtain ⟨v, hv, r⟩ := h0.sl i s e1
    refine ⟨v, hv, ?_⟩
    cases s with
    | dat d => exact Rep.kp kp r
    | cel k =>
      obtain ⟨a, ha, ev⟩ := r
      exact ⟨a, by rw [List.getElem?_take_of_lt (e2 k rfl)]; exact ha, ev⟩
end

/-! ### defs -/
/-- a contract: arguments, the cells handed in; the answer, the cells behind -/
abbrev Ct := List Sl → List Cell → Sl → List Cell → Prop
def spC (T : Tab) (K : PySem.W.Frag) (c : Ct) : Sp := fun vs H Q _ => ∃ ad F args cs s cs', HoldC T K ad F H cs ∧ SlReps T K ad F H vs args ∧ c args cs s cs' ∧
  ∀ v H' ad', ExtS cs.length ad F H ad' H' → cs.length ≤ ad'.length → HoldC T K ad' F H' cs' → SlRep T K ad' F H' v s → Q v H'
theorem start_hold {T : Tab} {K : PySem.W.Frag} {N : List Str} {ad : List Addr} {F : Addr → Prop} {H : Hp} {vs : List V} {args : List Sl} {cs : List Cell} (hc : HoldC T K ad F H cs) (r : SlReps T K ad F H vs args) :
    Hold T K ⟨args.map some ++ List.replicate (N.length - args.length) none, cs⟩ ad F (L2.start N vs) H := by
  have hl := r.len
  refine ⟨hc, by unfold L2.start; simp [hl], fun i s e => ?_⟩
  have hi : i < args.length := by
    by_cases hi : i < args.length
    · exact hi
    · have e : (args.map some ++ List.replicate (N.length - args.length) none)[i]? = some (some s) := e
      rw [List.getElem?_append_right (by simpa using hi), List.getElem?_replicate] at e
      split at e <;> cases e
  have e : (args.map some ++ List.replicate (N.length - args.length) none)[i]? = some (some s) := e
  rw [List.getElem?_append_left (by simpa using hi), List.getElem?_map] at e
  have ea : args[i]? = some s := by
    cases q : args[i]? with
    | none => rw [q] at e; cases e
    | some z => rw [q] at e; cases e; rfl
  have get : ∀ {vs : List V} {args : List Sl} {i : Nat}, SlReps T K ad F H vs args → args[i]? = some s → ∃ v, vs[i]? = some v ∧ SlRep T K ad F H v s := by
    intro vs args
    induction args generalizing vs with
    | nil => intro i _ e; simp at e
    | cons a args ih =>
      intro i r e
      cases vs with
      | nil => exact r.elim
      | cons v vs =>
        cases i with
        | zero => simp at e; subst e; exact ⟨v, rfl, r.1⟩
        | succ i => simpa using ih r.2 (by simpa using e)
  obtain ⟨v, hv, rv⟩ := get r ea
  refine ⟨v, ?_, rv⟩
  unfold L2.start
  rw [List.getElem?_append_left (by simpa using (hl ▸ hi : i < vs.length)), List.getElem?_map, hv]
  rfl
section
variable {T : Tab} {P : Program} {w : World} {K : PySem.W.Frag} {mg : Str → Option Value} {base : Heap}
/-- the state at a def's entry -/
abbrev st0 (N : List Str) (args : List Sl) (cs : List Cell) : Sta := ⟨args.map some ++ List.replicate (N.length - args.length) none, cs⟩
/-- what is to be shown at a def's end -/
abbrev endOf (n : Nat) (s : Sl) (cs' : List Cell) : Post := { nx := fun S => s = .dat .non ∧ S.cs.take n = cs', rt := fun r c => r = s ∧ c = cs' }
/-- a def's own context -/
abbrev cx0 (P : Program) (w : World) (K : PySem.W.Frag) (mg : Str → Option Value) (base : Heap) (N : List Str) (qual : Str) (st : Stmt) (f : Addr) (cdv : Value) (A : Around) (outer : List Env) (s : Shared) (H : Hp) (E : XK) : Cx := (cxOf CX0 P w K mg base N qual (defScope st) f cdv A outer s H E).nox
theorem fn_ok {x qual : Str} {st : Stmt} {f : Addr} {fd : FuncData} {N ps : List Str} {k : Nat} {c : Ct} (F : Fun K x qual st f fd) (Sc : FnScope N ps (defScope st)) (len : ∀ args cs s cs', c args cs s cs' → args.length = ps.length)
    (body : ∀ cdv A outer sh H E, Room k (cx0 P w K mg base N qual st f cdv A outer sh H E).A → ∀ args cs s cs', c args cs s cs' →
      DSs (cx0 P w K mg base N qual st f cdv A outer sh H E) T cs.length (st0 N args cs) (defBody st) (endOf cs.length s cs')) : FnOk P w K mg base CX0 (k + 1) f fd ps (spC T K c) := by
  refine F.ok Sc (fun vs H Q E h => ?_) (fun cdv A outer s H vs Q E hr h => ?_)
  · obtain ⟨ad, F', args, cs, s, cs', _, r, hc, _⟩ := h
    rw [r.len, len _ _ _ _ hc]
  · obtain ⟨ad, F', args, cs, s0, cs', hc, r, h, q⟩ := h
    refine ⟨_, body cdv A outer s H E hr args cs s0 cs' h, ad, F', Nat.le_of_eq hc.ln.symm, start_hold hc r, ?_, ?_, fun _ _ _ _ _ _ _ z => z.elim, fun _ _ _ _ _ _ _ z => z.elim, fun _ _ _ _ _ _ _ _ _ _ _ z => z.elim⟩
    · rintro S' σ' H' ad' x hn h' ⟨rfl, e⟩
      subst e
      refine q .non H' (ad'.take cs.length) ⟨by rw [List.take_take, Nat.min_self]; exact x.pre, fun a ha => x.sub a (List.mem_of_mem_take ha), x.keep, x.frm⟩ (by rw [List.length_take]; omega) (h'.hc.take _) Rep.non
    · rintro s2 cs2 v H' ad' x hn c2 r2 ⟨rfl, rfl⟩
      exact q v H' ad' x hn c2 r2
end
end Dl

namespace Dl
open PySem L2

/-! ### calls of defs -/
section
variable {T : Tab} {K : PySem.W.Frag} {F : Addr → Prop} {ad ad' : List Addr} {H H' : Hp} {cs cs' : List Cell} {v : V} {d : D} {s : Sl} {k : Nat} {c0 c1 : Cell} {a : Addr}
/-- a callee that gets no cell -/
theorem frame0 (h : HoldC T K ad F H cs) : HoldC T K [] (Mm ad F) H [] := ⟨List.nodup_nil, fun _ z => (nomatch z), fun a z => z.elim (fun z => h.mem z) (h.al a), rfl, fun k a c e => nomatch e⟩
theorem kp_in (h : HoldC T K ad F H cs) : Kp (Mm ad F) H (Mm [] (Mm ad F)) H := fun a o e n => ⟨e, fun z => n (Or.resolve_left z (by simp))⟩
theorem kp_out {ad2 : List Addr} : Kp (Mm ad2 (Mm ad F)) H (Mm ad F) H := fun a o e n => ⟨e, fun z => n (.inr z)⟩
theorem SlReps.kp {M : Addr → Prop} {ad2 : List Addr} {F2 : Addr → Prop} {H2 : Hp} (k : Kp (Mm ad F) H (Mm ad2 F2) H2) : ∀ {vs : List V} {ds : List D}, SlReps T K ad F H vs (ds.map Sl.dat) → SlReps T K ad2 F2 H2 vs (ds.map Sl.dat)
  | [], [], _ => trivial
  | _ :: _, _ :: _, h => ⟨Rep.kp k h.1, SlReps.kp (M := M) k h.2⟩
/-- .. behind it -/
theorem back0 (h : HoldC T K ad F H cs) {ad2 : List Addr} {n : Nat} (x : ExtS n [] (Mm ad F) H ad2 H') : HoldC T K ad F H' cs ∧ Ext ad F H ad H' := by
  have e : Ext ad F H ad H' := ⟨⟨[], by simp, fun _ z => nomatch z⟩, fun a o e n => x.keep a o e fun z => n (Or.resolve_left z (by simp)), fun a fa => x.frm a (.inr fa)⟩
  refine ⟨⟨h.nd, h.fr, fun a fa => ?_, h.ln, fun k a c h1 h2 => ?_⟩, e⟩
  · rw [e.frm a fa]; exact h.al a fa
  · exact (h.ce k a c h1 h2).kp e.kp (x.frm a (.inl (List.mem_of_getElem? h1)))
/-- a callee that gets the cell k -/
def Fk (ad : List Addr) (F : Addr → Prop) (a : Addr) : Addr → Prop := fun b => F b ∨ (b ∈ ad ∧ b ≠ a)
theorem mm_k (ha : a ∈ ad) (b : Addr) : Mm [a] (Fk ad F a) b ↔ Mm ad F b := by
  constructor
  · rintro (z | z | z)
    · rw [List.mem_singleton.mp z]; exact .inl ha
    · exact .inr z
    · exact .inl z.1
  · rintro (z | z)
    · by_cases e : b = a
      · exact .inl (by rw [e]; exact List.mem_singleton_self _)
      · exact .inr (.inr ⟨z, e⟩)
    · exact .inr (.inl z)
theorem frame1 (h : HoldC T K ad F H cs) (ha : ad[k]? = some a) (hc : cs[k]? = some c0) : HoldC T K [a] (Fk ad F a) H [c0] := by
  have hm : a ∈ ad := List.mem_of_getElem? ha
  refine ⟨by simp, fun b hb z => ?_, fun b z => ?_, rfl, fun j b c e1 e2 => ?_⟩
  · have := List.mem_singleton.mp hb
    subst this
    rcases z with z | z
    · exact h.fr _ hm z
    · exact z.2 rfl
  · rcases z with z | z
    · exact h.al b z
    · exact h.mem z.1
  · cases j with
    | zero =>
      simp at e1 e2
      subst e1 e2
      refine (h.ce k a _ ha hc).kp (fun b o e n => ⟨e, fun z => n ((mm_k hm b).mp z)⟩) rfl
    | succ j => simp at e1
theorem back1 (h : HoldC T K ad F H cs) (ha : ad[k]? = some a) (x : ExtS 1 [a] (Fk ad F a) H [a] H') (c : HoldC T K [a] (Fk ad F a) H' [c1]) : HoldC T K ad F H' (cs.set k c1) ∧ Ext ad F H ad H' := by
  have hm : a ∈ ad := List.mem_of_getElem? ha
  have e : Ext ad F H ad H' := ⟨⟨[], by simp, fun _ z => nomatch z⟩, fun b o e n => x.keep b o e fun z => n ((mm_k hm b).mp z), fun b fb => x.frm b (.inl fb)⟩
  refine ⟨⟨h.nd, h.fr, fun b fb => ?_, by simp [h.ln], fun j b c' h1 h2 => ?_⟩, e⟩
  · rw [e.frm b fb]; exact h.al b fb
  · by_cases hj : k = j
    · subst hj
      have hlt : k < cs.length := by rw [← h.ln]; exact (List.getElem?_eq_some_iff.mp ha).1
      rw [List.getElem?_set_self hlt] at h2
      rw [ha] at h1
      cases h1; cases h2
      exact (c.ce 0 a _ rfl rfl).kp (fun b o e n => ⟨e, fun z => n ((mm_k hm b).mpr z)⟩) rfl
    · rw [List.getElem?_set_ne hj] at h2
      have hb : b ≠ a := fun z => hj (ix_inj h.nd ha (z ▸ h1))
      exact (h.ce j b c' h1 h2).kp e.kp (x.frm b (.inr ⟨List.mem_of_getElem? h1, hb⟩))
end

/-- the cells of the arguments by the callee's numbers -/
def low : Sl → Sl
  | .dat d => .dat d
  | .cel _ => .cel 0
def onlyCell (k : Nat) : Sl → Bool
  | .dat _ => true
  | .cel j => j == k
theorem low_reps {T : Tab} {K : PySem.W.Frag} {F : Addr → Prop} {ad : List Addr} {H : Hp} {k : Nat} {a : Addr} (ha : ad[k]? = some a) : ∀ {vs : List V} {ss : List Sl}, ss.all (onlyCell k) = true → SlReps T K ad F H vs ss → SlReps T K [a] (Fk ad F a) H vs (ss.map low)
  | [], [], _, _ => trivial
  | v :: vs, s :: ss, h, r => by
    rw [List.all_cons, Bool.and_eq_true] at h
    refine ⟨?_, low_reps ha h.2 r.2⟩
    have r1 := r.1
    cases s with
    | dat d => exact Rep.kp (fun b o e n => ⟨e, fun z => n ((mm_k (List.mem_of_getElem? ha) b).mp z)⟩) r1
    | cel j =>
      obtain ⟨b, hb, ev⟩ := r1
      have hj : j = k := beq_iff_eq.mp h.1
      subst hj
      rw [ha] at hb
      cases hb
      exact ⟨a, rfl, ev⟩
section
variable {X : Cx} {T : Tab} {S S1 S2 : Sta} {e : Expr} {es : List Expr} {pos p : Pos} {x : Str} {f : Addr} {fd : FuncData} {ps : List Str} {k : Nat} {c : Ct} {ds : List D} {d : D} {ss : List Sl} {c0 c1 : Cell}
theorem spC0 {K : PySem.W.Frag} {ad : List Addr} {F : Addr → Prop} {H : Hp} {cs : List Cell} {vs : List V} {Q : VK} {E : XK} (hc : c (ds.map Sl.dat) [] (.dat d) []) (h : HoldC T K ad F H cs) (r : SlReps T K ad F H vs (ds.map Sl.dat))
    (q : ∀ v H', Ext ad F H ad H' → HoldC T K ad F H' cs → SlRep T K ad F H' v (.dat d) → Q v H') : spC T K c vs H Q E := by
  refine ⟨[], Mm ad F, ds.map Sl.dat, [], .dat d, [], frame0 h, SlReps.kp (M := fun _ => False) (kp_in h) r, hc, fun v H' ad' x hn c2 r2 => ?_⟩
  obtain ⟨c3, x3⟩ := back0 h x
  exact q v H' x3 c3 (Rep.kp kp_out r2)
theorem spC1 {K : PySem.W.Frag} {ad : List Addr} {F : Addr → Prop} {H : Hp} {cs : List Cell} {vs : List V} {Q : VK} {E : XK} {j : Nat} (hj : cs[j]? = some c0) (ho : ss.all (onlyCell j) = true) (hc : c (ss.map low) [c0] (.dat d) [c1]) (h : HoldC T K ad F H cs) (r : SlReps T K ad F H vs ss)
    (q : ∀ v H', Ext ad F H ad H' → HoldC T K ad F H' (cs.set j c1) → SlRep T K ad F H' v (.dat d) → Q v H') : spC T K c vs H Q E := by
  have hlt : j < ad.length := by rw [h.ln]; exact (List.getElem?_eq_some_iff.mp hj).1
  have ha : ad[j]? = some ad[j] := List.getElem?_eq_getElem hlt
  refine ⟨[ad[j]], Fk ad F ad[j], ss.map low, [c0], .dat d, [c1], frame1 h ha hj, low_reps ha ho r, hc, fun v H' ad' x hn c2 r2 => ?_⟩
  have e : ad' = [ad[j]] := by
    have h1 : ad'.length = 1 := c2.ln
    have h2 : ad'.take 1 = [ad[j]] := x.pre
    rw [List.take_of_length_le (by omega)] at h2
    exact h2
  subst e
  obtain ⟨c3, x3⟩ := back1 h ha x c2
  exact q v H' x3 c3 (Rep.kp (fun b o e n => ⟨e, fun z => n ((mm_k (List.mem_of_getElem? ha) b).mpr z)⟩) r2)
theorem spCN {K : PySem.W.Frag} {ad : List Addr} {F : Addr → Prop} {H : Hp} {cs : List Cell} {vs : List V} {Q : VK} {E : XK} (hc : c (ds.map Sl.dat) [] (.cel 0) [c0]) (h : HoldC T K ad F H cs) (r : SlReps T K ad F H vs (ds.map Sl.dat))
    (q : ∀ v H' a, Ext ad F H (ad ++ [a]) H' → HoldC T K (ad ++ [a]) F H' (cs ++ [c0]) → v = .ref a → Q v H') : spC T K c vs H Q E := by
  refine ⟨[], Mm ad F, ds.map Sl.dat, [], .cel 0, [c0], frame0 h, SlReps.kp (M := fun _ => False) (kp_in h) r, hc, fun v H' ad' x hn c2 r2 => ?_⟩
  obtain ⟨c3, x3⟩ := back0 h x
  obtain ⟨a, ha, rfl⟩ := r2
  have e : ad' = [a] := by
    have h1 : ad'.length = 1 := c2.ln
    match ad', h1, ha with
    | [b], _, ha => simpa using ha
  subst e
  have na : H a = none := (x.sub a (List.mem_singleton_self _)).elim (fun z => absurd z (by simp)) id
  have nm : ¬ Mm ad F a := c2.fr a (List.mem_singleton_self _)
  have x4 : Ext ad F H (ad ++ [a]) H' := ⟨⟨[a], rfl, fun b hb => by rw [List.mem_singleton.mp hb]; exact na⟩, x3.keep, x3.frm⟩
  have kp2 : Kp (Mm ad F) H' (Mm (ad ++ [a]) F) H' → True := fun _ => trivial
  refine q _ H' a x4 ⟨?_, fun b hb fb => ?_, c3.al, by simp [h.ln], fun j b c' h1 h2 => ?_⟩ rfl
  · rw [List.nodup_append]
    refine ⟨h.nd, by simp, fun b hb b' hb' e => ?_⟩
    rw [List.mem_singleton.mp hb'] at e
    exact nm (.inl (e ▸ hb))
  · rcases List.mem_append.mp hb with z | z
    · exact h.fr b z fb
    · rw [List.mem_singleton.mp z] at fb; exact nm (.inr fb)
  · by_cases hj : j < ad.length
    · rw [List.getElem?_append_left hj] at h1
      rw [List.getElem?_append_left (by rw [← h.ln]; exact hj)] at h2
      exact (h.ce j b c' h1 h2).kp x4.kp (x.frm b (.inl (List.mem_of_getElem? h1)))
    · have hj' : j = ad.length := by
        have := (List.getElem?_eq_some_iff.mp h1).1
        simp at this
        omega
      subst hj'
      rw [List.getElem?_append_right (Nat.le_refl _)] at h1
      rw [h.ln, List.getElem?_append_right (Nat.le_refl _)] at h2
      simp at h1 h2
      subst h1 h2
      refine (c2.ce 0 a _ rfl rfl).kp (fun b o e n => ⟨e, fun z => n ?_⟩) rfl
      rcases z with z | z
      · rcases List.mem_append.mp z with z | z
        · exact .inr (.inl z)
        · exact .inl z
      · exact .inr (.inr z)
variable (G : FnOk X.prog X.w X.K X.mg X.base CX0 k f fd ps (spC T X.K c)) (hr : Room k X.A) (hm : X.mg x = some (.ref f)) (hk : PySem.W.keepIn X.K (.ref f) = true) (hb : Binds X.K fd ps [])
include G hr hm hk hb
theorem de_call (ha : DA X T S (e :: es) (ds.map Sl.dat) S1) (hc : c (ds.map Sl.dat) [] (.dat d) []) (hg : Gl X x := by rfl) (hdb : (x == ("__debug__" : Str)) = false := by decide)
    (he : starEach (e :: es) X.env = (false, eval e X.env) :: starEach es X.env := by rfl) (hpl : (backTo pos (starEach es X.env)).any (·.1) = false := by rfl) : DE X T S (.Call (.Name x p) (e :: es) [] pos) (.dat d) S1 :=
  weak (pe_call G hr hg hm hk hb .nil pass0 ha hdb he hpl) fun σ H Q ⟨ad, F, h0, q⟩ => ⟨ad, F, h0, fun vs H1 ad1 x1 h1 r1 => by
    show spC T X.K c (vs ++ []) H1 Q E0
    rw [List.append_nil]
    exact spC0 hc h1.hc r1 fun v H' x2 c2 r2 => q v H' ad1 (x1.trans h1.hc x2) (h1.to x2 c2) r2⟩
theorem de_callC (j : Nat) (ha : DA X T S (e :: es) ss S1) (hj : S1.cs[j]? = some c0) (ho : ss.all (onlyCell j) = true) (hc : c (ss.map low) [c0] (.dat d) [c1]) (hg : Gl X x := by rfl) (hdb : (x == ("__debug__" : Str)) = false := by decide)
    (he : starEach (e :: es) X.env = (false, eval e X.env) :: starEach es X.env := by rfl) (hpl : (backTo pos (starEach es X.env)).any (·.1) = false := by rfl) : DE X T S (.Call (.Name x p) (e :: es) [] pos) (.dat d) ⟨S1.sl, S1.cs.set j c1⟩ :=
  weak (pe_call G hr hg hm hk hb .nil pass0 ha hdb he hpl) fun σ H Q ⟨ad, F, h0, q⟩ => ⟨ad, F, h0, fun vs H1 ad1 x1 h1 r1 => by
    show spC T X.K c (vs ++ []) H1 Q E0
    rw [List.append_nil]
    exact spC1 hj ho hc h1.hc r1 fun v H' x2 c2 r2 => q v H' ad1 (x1.trans h1.hc x2) (h1.to x2 c2) r2⟩
theorem de_callN (ha : DA X T S (e :: es) (ds.map Sl.dat) S1) (hc : c (ds.map Sl.dat) [] (.cel 0) [c0]) (hg : Gl X x := by rfl) (hdb : (x == ("__debug__" : Str)) = false := by decide)
    (he : starEach (e :: es) X.env = (false, eval e X.env) :: starEach es X.env := by rfl) (hpl : (backTo pos (starEach es X.env)).any (·.1) = false := by rfl) : DE X T S (.Call (.Name x p) (e :: es) [] pos) (.cel S1.cs.length) ⟨S1.sl, S1.cs ++ [c0]⟩ :=
  weak (pe_call G hr hg hm hk hb .nil pass0 ha hdb he hpl) fun σ H Q ⟨ad, F, h0, q⟩ => ⟨ad, F, h0, fun vs H1 ad1 x1 h1 r1 => by
    show spC T X.K c (vs ++ []) H1 Q E0
    rw [List.append_nil]
    exact spCN hc h1.hc r1 fun v H' a x2 c2 e => q v H' _ (x1.trans h1.hc x2) (h1.to x2 c2) ⟨a, by rw [← h1.hc.ln, List.getElem?_append_right (Nat.le_refl _)]; simp, e⟩⟩
end

/-! ### targets -/
inductive Pat where
  | nm (i : Nat)
  | tp (ps : List Pat)
mutual
/-- the slots behind target = data -/
def asgP : Pat → D → List (Option Sl) → Option (List (Option Sl))
  | .nm i, d, sl => some (sl.set i (some (.dat d)))
  | .tp ps, .tup ds, sl => asgPs ps ds sl
  | _, _, _ => none
def asgPs : List Pat → List D → List (Option Sl) → Option (List (Option Sl))
  | [], [], sl => some sl
  | p :: ps, d :: ds, sl => (asgP p d sl).bind fun sl' => asgPs ps ds sl'
  | _, _, _ => none
end
mutual
def slotsP : Pat → List Nat
  | .nm i => [i]
  | .tp ps => slotsPs ps
def slotsPs : List Pat → List Nat
  | [] => []
  | p :: ps => slotsP p ++ slotsPs ps
end
def AsIs (ns : List Nat) (σ σ' : St) : Prop := σ'.length = σ.length ∧ ∀ j : Nat, j ∉ ns → σ'[j]? = σ[j]?
def tDG (T : Tab) (K : PySem.W.Frag) (p : Pat) : TG := fun v σ H Q => ∃ ad F S d sl', Hold T K S ad F σ H ∧ Rep T K (Mm ad F) H v d ∧ asgP p d S.sl = some sl' ∧ ∀ σ', AsIs (slotsP p) σ σ' → Hold T K ⟨sl', S.cs⟩ ad F σ' H → Q σ' H
def tDGs (T : Tab) (K : PySem.W.Frag) (ps : List Pat) : TGs := fun vs σ H Q => ∃ ad F S ds sl', Hold T K S ad F σ H ∧ Reps T K (Mm ad F) H vs ds ∧ asgPs ps ds S.sl = some sl' ∧ ∀ σ', AsIs (slotsPs ps) σ σ' → Hold T K ⟨sl', S.cs⟩ ad F σ' H → Q σ' H
def DG (X : Cx) (T : Tab) (tg : Expr) (p : Pat) : Prop := PG X tg (tDG T X.K p)
def DGs (X : Cx) (T : Tab) (tgs : List Expr) (ps : List Pat) : Prop := PGs X tgs (tDGs T X.K ps)
theorem weakG {X : Cx} {tg : Expr} {t t' : TG} (h : PG X tg t) (q : ∀ v σ H Q, t' v σ H Q → t v σ H Q) : PG X tg t' := ⟨fun pins s σ H v u Q I r z => h.run pins s σ H v u Q I r (q v σ H Q z)⟩
theorem weakGs {X : Cx} {tg : List Expr} {t t' : TGs} (h : PGs X tg t) (q : ∀ v σ H Q, t' v σ H Q → t v σ H Q) : PGs X tg t' := ⟨fun pins s σ H v u Q I r z => h.run pins s σ H v u Q I r (q v σ H Q z)⟩
section
variable {X : Cx} {T : Tab} {pos : Pos} {e : Expr} {es : List Expr} {p : Pat} {ps : List Pat}
theorem dg_name (i : Nat) {x : Str} (hN : X.N.Nodup) (hi : X.N[i]? = some x := by rfl) (hx : Loc X.env.scope x := by first | exact Or.inl rfl | exact Or.inr rfl) (hf : X.fn x = true ∨ X.env.scope.names.lookup x = some .local := by first | exact .inl rfl | exact .inr rfl) : DG X T (.Name x pos) (.nm i) :=
  weakG (pg_name hN hi hx hf) fun v σ H Q ⟨ad, F, S, d, sl', h, r, e, q⟩ => by
    have e' : S.sl.set i (some (.dat d)) = sl' := Option.some.inj e
    subst e'
    exact q _ ⟨by simp, fun j hj => List.getElem?_set_ne (fun z => hj (by rw [← z]; exact List.mem_singleton_self _))⟩ (h.set (s := .dat d) r i)
theorem dgs_nil : DGs X T [] [] := weakGs pgs_nil fun vs σ H Q ⟨ad, F, S, ds, sl', h, r, e, q⟩ => by
  cases ds with
  | nil =>
    cases r
    have e' : S.sl = sl' := Option.some.inj e
    subst e'
    exact ⟨rfl, q σ ⟨rfl, fun _ _ => rfl⟩ h⟩
  | cons d ds => exact nomatch e
theorem dgs_cons (h1 : DG X T e p) (h2 : DGs X T es ps) (hs : (assignEach (e :: es) X.env).map (·.2) = assign e X.env :: (assignEach es X.env).map (·.2) := by rfl) : DGs X T (e :: es) (p :: ps) :=
  weakGs (pgs_cons h1 h2 hs) fun vs σ H Q ⟨ad, F, S, ds, sl', h, r, e, q⟩ => by
    cases ds with
    | nil => exact nomatch e
    | cons d ds =>
      cases r with
      | cons r1 r2 =>
        have e : (asgP p d S.sl).bind (fun sl' => asgPs ps ds sl') = some sl' := e
        cases e1 : asgP p d S.sl with
        | none => rw [e1] at e; cases e
        | some sl1 =>
          rw [e1] at e
          refine ⟨_, _, rfl, ad, F, S, d, sl1, h, r1, e1, fun σ1 a1 h1 => ⟨ad, F, _, ds, sl', h1, r2, e, fun σ2 a2 h2 => q σ2 ⟨a2.1.trans a1.1, fun j hj => ?_⟩ h2⟩⟩
          have hj' : j ∉ slotsP p ++ slotsPs ps := hj
          rw [a2.2 j fun z => hj' (List.mem_append_right _ z), a1.2 j fun z => hj' (List.mem_append_left _ z)]
theorem asgPs_len : ∀ {ps : List Pat} {ds : List D} {sl sl' : List (Option Sl)}, asgPs ps ds sl = some sl' → ds.length = ps.length
  | [], [], _, _, _ => rfl
  | p :: ps, d :: ds, sl, sl', e => by
    have e : (asgP p d sl).bind (fun sl' => asgPs ps ds sl') = some sl' := e
    cases e1 : asgP p d sl with
    | none => rw [e1] at e; cases e
    | some sl1 =>
      rw [e1] at e
      rw [List.length_cons, List.length_cons, asgPs_len (ps := ps) (ds := ds) e]
  | [], _ :: _, _, _, e => nomatch e
  | _ :: _, [], _, _, e => nomatch e
theorem dg_tup {k : Nat} {n : Nat} (hc : X.calm = true) (h : DGs X T es ps) (hn : (assignEach es X.env).length = n := by rfl) (hp : ps.length = n := by rfl) (hst : (assignEach es X.env).findIdx? (·.1) = none := by rfl) : DG X T (.Tuple es k pos) (.tp ps) :=
  weakG (pg_tup (n := n) hc h hn hst) fun v σ H Q ⟨ad, F, S, d, sl', h, r, e, q⟩ => by
    cases r with
    | tup h1 h2 => exact ⟨_, _, rfl, h1.sq, by rw [h2.length, ← hp]; exact asgPs_len e, ad, F, S, _, sl', h, h2, e, q⟩
    | _ => exact nomatch e
end

/-! ### what a loop walks -/
def ItOk (T : Tab) (K : PySem.W.Frag) (F : Addr → Prop) (J : It) (items : List D) (ad1 : List Addr) (H1 : Hp) : Prop :=
  ∀ (F2 : Addr → Prop) ad2 H2 cs2, HoldC T K ad2 F2 H2 cs2 → Kp (Mm ad1 F) H1 (Mm ad2 F2) H2 → ∀ i : Nat,
    (∀ d, items[i]? = some d → J.go i H2 ∧ ∀ v H3, J.yld i H2 v H3 → (∀ a o, H2 a = some o → H3 a = some o) ∧ Rep T K (Mm ad2 F2) H3 v d) ∧ (i = items.length → J.stop i H2)
def tDI (T : Tab) (K : PySem.W.Frag) (S : Sta) (items : List D) (S' : Sta) : TI := fun σ H R => ∃ ad F, Hold T K S ad F σ H ∧
  ∀ J H' ad', Ext ad F H ad' H' → Hold T K S' ad' F σ H' → ItOk T K F J items ad' H' → R J H'
def DI (X : Cx) (T : Tab) (S : Sta) (tg it : Expr) (items : List D) (S' : Sta) : Prop := PI X tg it (tDI T X.K S items S')
theorem weakI {X : Cx} {tg it : Expr} {t t' : TI} (h : PI X tg it t) (q : ∀ σ H R, t' σ H R → t σ H R) : PI X tg it t' := ⟨fun pins s σ H R I z => h.run pins s σ H R I (q σ H R z)⟩
section
variable {X : Cx} {T : Tab} {S S1 S2 : Sta} {e tg : Expr} {pos p : Pos} {ds : List D} {i j : Int}
theorem di_list (h : DE X T S e (.dat (.lst ds)) S1) : DI X T S tg e ds S1 := weakI (pi_list h) fun σ H R ⟨ad, F, h0, q⟩ => ⟨ad, F, h0, fun v H1 ad1 x1 h1 r1 => by
  cases r1 with
  | @lst a vs _ n e1 r =>
    refine ⟨a, rfl, ⟨vs, SqL.of e1⟩, q _ H1 ad1 x1 h1 fun F2 ad2 H2 cs2 c2 kp i => ⟨fun d hd => ?_, fun hi => ?_⟩⟩
    · obtain ⟨e2, n2⟩ := kp a _ e1 n
      obtain ⟨v, hv, rv⟩ := (r.kp kp).get hd
      refine ⟨⟨vs, v, SqL.of e2, hv⟩, fun w H3 y => ?_⟩
      obtain ⟨rfl, y⟩ := y
      have := y vs (SqL.of e2)
      rw [hv] at this
      cases this
      exact ⟨fun _ _ z => z, rv⟩
    · exact ⟨vs, SqL.of (kp a _ e1 n).1, by rw [r.length]; omega⟩⟩
theorem di_tup (h : DE X T S e (.dat (.tup ds)) S1) : DI X T S tg e ds S1 := weakI (pi_tup h) fun σ H R ⟨ad, F, h0, q⟩ => ⟨ad, F, h0, fun v H1 ad1 x1 h1 r1 => by
  cases r1 with
  | @tup a vs _ e1 r =>
    refine ⟨a, rfl, ⟨vs, e1.sq⟩, q _ H1 ad1 x1 h1 fun F2 ad2 H2 cs2 c2 kp i => ⟨fun d hd => ?_, fun hi => ?_⟩⟩
    · have e2 := (e1.kp kp).sq
      obtain ⟨v, hv, rv⟩ := (r.kp kp).get hd
      refine ⟨⟨vs, v, e2, hv⟩, fun w H3 y => ?_⟩
      obtain ⟨rfl, y⟩ := y
      have := y vs e2
      rw [hv] at this
      cases this
      exact ⟨fun _ _ z => z, rv⟩
    · exact ⟨vs, (e1.kp kp).sq, by rw [r.length]; omega⟩⟩
def rangeD (lo : Int) (n : Nat) : List D := (List.range n).map fun i : Nat => D.int (lo + (i : Int))
theorem rangeD_get {lo : Int} {n i : Nat} {d : D} (h : (rangeD lo n)[i]? = some d) : i < n ∧ d = .int (lo + (i : Int)) := by
  unfold rangeD at h
  rw [List.getElem?_map] at h
  by_cases hi : i < n
  · rw [List.getElem?_range hi] at h
    exact ⟨hi, (Option.some.inj h).symm⟩
  · rw [List.getElem?_eq_none (by simpa using hi)] at h
    cases h
theorem itr_ok {K : PySem.W.Frag} {F : Addr → Prop} {lo : Int} {n : Nat} {ad1 : List Addr} {H1 : Hp} : ItOk T K F (Itr lo n) (rangeD lo n) ad1 H1 := fun F2 ad2 H2 cs2 c2 kp i => by
  refine ⟨fun d hd => ?_, fun hi => ?_⟩
  · obtain ⟨hi, rfl⟩ := rangeD_get hd
    refine ⟨hi, fun v H3 y => ?_⟩
    obtain ⟨rfl, rfl⟩ := y
    exact ⟨fun _ _ z => z, .int⟩
  · unfold rangeD at hi
    simp at hi
    subst hi
    exact Nat.le_refl _
theorem di_range1 (h : DA X T S [e] [.dat (.int j)] S1) (hm : X.mg "range" = none) (h1 : -(2 ^ 62) ≤ j) (h2 : j < 2 ^ 62) (hg : Gl X "range" := by rfl) (hs : starEach [e] X.env = [(false, eval e X.env)] := by rfl) : DI X T S tg (.Call (.Name "range" p) [e] [] pos) (rangeD 0 j.toNat) S1 :=
  weakI (pi_range1 hg hm h hs) fun σ H R ⟨ad, F, h0, q⟩ => ⟨ad, F, h0, fun vs H1 ad1 x1 h1' r1 => by
    match vs, r1 with
    | [v], r1 =>
      have r1 := r1.1
      cases r1
      exact ⟨j, rfl, h1, h2, q _ H1 ad1 x1 h1' itr_ok⟩⟩
theorem di_range2 {e2 : Expr} (h : DA X T S [e, e2] [.dat (.int i), .dat (.int j)] S1) (hm : X.mg "range" = none) (h1 : -(2 ^ 62) ≤ i) (h2 : i < 2 ^ 62) (h3 : -(2 ^ 62) ≤ j) (h4 : j < 2 ^ 62) (hg : Gl X "range" := by rfl)
    (hs : starEach [e, e2] X.env = [(false, eval e X.env), (false, eval e2 X.env)] := by rfl) (hs2 : starEach [e2] X.env = [(false, eval e2 X.env)] := by rfl) : DI X T S tg (.Call (.Name "range" p) [e, e2] [] pos) (rangeD i (j - i).toNat) S1 :=
  weakI (pi_range2 hg hm h hs hs2) fun σ H R ⟨ad, F, h0, q⟩ => ⟨ad, F, h0, fun vs H1 ad1 x1 h1' r1 => by
    match vs, r1 with
    | [v, w], r1 =>
      have r2 := r1.2.1
      have r1 := r1.1
      cases r1
      cases r2
      exact ⟨i, j, rfl, ⟨h1, h2, h3, h4⟩, q _ H1 ad1 x1 h1' itr_ok⟩⟩
end

/-! ### for -/
def DFor (X : Cx) (T : Tab) (n : Nat) (p : Pat) (body : List Stmt) : List D → Sta → Post → Prop
  | [], S, P => P.nx S
  | d :: ds, S, P => ∃ sl', asgP p d S.sl = some sl' ∧ DSs X T n ⟨sl', S.cs⟩ body { P with nx := fun S' => DFor X T n p body ds S' P, ct := fun S' => DFor X T n p body ds S' P, bk := P.nx }
theorem grow {T : Tab} {K : PySem.W.Frag} {F : Addr → Prop} {ad : List Addr} {H H' : Hp} {cs : List Cell} (h : HoldC T K ad F H cs) (g : ∀ a o, H a = some o → H' a = some o) : HoldC T K ad F H' cs ∧ Ext ad F H ad H' := by
  have x : Ext ad F H ad H' := ⟨⟨[], by simp, fun _ z => nomatch z⟩, fun a o e _ => g a o e, fun a fa => by obtain ⟨o, e⟩ := h.al a fa; rw [g a o e, e]⟩
  refine ⟨⟨h.nd, h.fr, fun a fa => by rw [x.frm a fa]; exact h.al a fa, h.ln, fun k a c h1 h2 => ?_⟩, x⟩
  have q := h.ce k a c h1 h2
  obtain ⟨o, e⟩ := q.some
  exact q.kp x.kp (by rw [g a o e, e])
section
variable {X : Cx} {T : Tab} {n : Nat} {S S1 S2 : Sta} {it tg : Expr} {pos : Pos} {items : List D} {body : List Stmt} {p : Pat} {P : Post}
theorem ds_for (hi : DI X T S tg it items S1) (hg : DG X T tg p) (h : DFor X T n p body items S1 P) (hc : X.calm = true := by rfl) (hp : PassesOwn (model X.prog X.w) X.A X.env X.xe := by exact PassesOwn.never)
    (hs : ∀ x, foldedSetIterable it X.env x = pure x := by intro _; rfl) : DS X T n S (.For tg it body [] pos) P := by
  have hb : PSs X body (fun D σ H => ∃ S P, DSs X T n S body P ∧ tDS T X.K n S P D σ H) := ⟨fun pins s σ H D I ⟨S', P', hS, z⟩ => hS.run pins s σ H D I z⟩
  refine weakS (ps_for hp hc hi hg hb hs) fun D σ H ⟨ad, F, hn, h0, q1, q2, q3, q4, q5⟩ => ⟨ad, F, h0, fun J H1 ad1 x1 h1 ok => ?_⟩
  have xs1 := x1.s hn
  have hn1 := x1.le hn
  refine ⟨fun i m σ' H' => ∃ ad' S', n ≤ ad'.length ∧ Hold T X.K S' ad' F σ' H' ∧ ExtS n ad1 F H1 ad' H' ∧ i ≤ items.length ∧ m = items.length - i ∧ DFor X T n p body (items.drop i) S' P, ⟨items.length, ad1, S1, hn1, h1, .refl, Nat.zero_le _, rfl, h⟩, ?_⟩
  rintro i m σ' H' ⟨ad', S', hn', h', x', hi', rfl, hf⟩
  obtain ⟨ok1, ok2⟩ := ok F ad' H' S'.cs h'.hc x'.kp i
  by_cases hlt : i < items.length
  · have hd : items[i]? = some items[i] := List.getElem?_eq_getElem hlt
    obtain ⟨g1, g2⟩ := ok1 _ hd
    rw [List.drop_eq_getElem_cons hlt] at hf
    obtain ⟨sl', e, hf⟩ := hf
    refine .inr ⟨g1, fun σ2 H2 => ∃ ad2 S2, n ≤ ad2.length ∧ Hold T X.K S2 ad2 F σ2 H2 ∧ ExtS n ad1 F H1 ad2 H2 ∧ DFor X T n p body (items.drop (i + 1)) S2 P, fun σ2 H2 ⟨ad2, S2, hn2, h2, x2, hf2⟩ => ⟨items.length - (i + 1), by omega, ad2, S2, hn2, h2, x2, hlt, rfl, hf2⟩, fun v H3 y => ?_⟩
    obtain ⟨gr, rv⟩ := g2 v H3 y
    obtain ⟨c3, x3⟩ := grow h'.hc gr
    refine ⟨ad', F, S', items[i], sl', h'.to x3 c3, rv, e, fun σ4 _ h4 => ⟨_, _, hf, ad', F, hn', h4, ?_, ?_, ?_, ?_, ?_⟩⟩
    · exact fun S5 σ5 H5 ad5 x5 hn5 h5 p5 => ⟨ad5, S5, hn5, h5, x'.trans ((x3.s hn').trans x5), p5⟩
    · exact fun s cs5 v5 H5 ad5 x5 hn5 c5 r5 p5 => q2 s cs5 v5 H5 ad5 (xs1.trans (x'.trans ((x3.s hn').trans x5))) hn5 c5 r5 p5
    · exact fun S5 σ5 H5 ad5 x5 hn5 h5 p5 => q1 S5 σ5 H5 ad5 (xs1.trans (x'.trans ((x3.s hn').trans x5))) hn5 h5 p5
    · exact fun S5 σ5 H5 ad5 x5 hn5 h5 p5 => ⟨ad5, S5, hn5, h5, x'.trans ((x3.s hn').trans x5), p5⟩
    · exact fun z S5 cls d σ5 H5 ad5 x5 hn5 h5 r5 p5 => q5 z S5 cls d σ5 H5 ad5 (xs1.trans (x'.trans ((x3.s hn').trans x5))) hn5 h5 r5 p5
  · have e : i = items.length := by omega
    subst e
    rw [List.drop_length] at hf
    exact .inl ⟨ok2 rfl, q1 S' σ' H' ad' (xs1.trans x') hn' h' hf⟩
/-- by an invariant over what has been taken -/
theorem dfor_inv (I : List D → Sta → Prop) {items : List D} : ∀ (pre post : List D), pre ++ post = items → ∀ S, I pre S →
    (∀ pre d post S, pre ++ d :: post = items → I pre S → ∃ sl', asgP p d S.sl = some sl' ∧ DSs X T n ⟨sl', S.cs⟩ body { P with nx := I (pre ++ [d]), ct := I (pre ++ [d]), bk := P.nx }) →
    (∀ S, I items S → P.nx S) → DFor X T n p body post S P
  | pre, [], e, S, h, _, hd => hd S (by rw [← e, List.append_nil]; exact h)
  | pre, d :: post, e, S, h, hs, hd => by
    obtain ⟨sl', e1, h1⟩ := hs pre d post S e h
    refine ⟨sl', e1, dss_mono h1 (fun S2 h2 => ?_) (fun _ _ z => z) (fun _ z => z) (fun S2 h2 => ?_) (fun _ _ z => z) rfl⟩
    · exact dfor_inv I (pre ++ [d]) post (by rw [List.append_assoc]; exact e) S2 h2 hs hd
    · exact dfor_inv I (pre ++ [d]) post (by rw [List.append_assoc]; exact e) S2 h2 hs hd
end
end Dl

namespace Dl
open PySem L2

/-! ### operators by what they work on -/
def BinD (X : Cx) (T : Tab) (op : Operator) (s1 s2 : Sl) (cs : List Cell) (s : Sl) (cs' : List Cell) : Prop := ∃ r, OpR X (binaryOp op) r ∧ R2D T X.K r s1 s2 cs s cs'
def CmpD (X : Cx) (T : Tab) (op : CmpOp) (s1 s2 : Sl) (cs : List Cell) (s : Sl) (cs' : List Cell) : Prop := ∃ r, OpR X (compareOp op) r ∧ R2D T X.K r s1 s2 cs s cs'
def IxD (X : Cx) (T : Tab) (s1 s2 : Sl) (cs : List Cell) (s : Sl) (cs' : List Cell) : Prop := ∃ r, IxR X r ∧ R2D T X.K r s1 s2 cs s cs'
def UnD (X : Cx) (T : Tab) (op : UnaryOp) (s1 : Sl) (cs : List Cell) (s : Sl) (cs' : List Cell) : Prop := ∃ r, UnR X (unaryOp op) r ∧ R1 T X.K r s1 cs s cs'
def CalB (X : Cx) (T : Tab) (x : Str) (ss : List Sl) (cs : List Cell) (s : Sl) (cs' : List Cell) : Prop := ∃ u r, bootBuiltins x = some u ∧ ((∃ id, u = .builtin id) ∨ ∃ id, u = .type id) ∧ CallR X u r ∧ RCD T X.K r ss cs s cs'

section
variable {X : Cx} {T : Tab} {S S1 S2 S3 : Sta} {a b e : Expr} {pos p : Pos} {s s1 s2 : Sl} {cs cs' : List Cell} {d d1 d2 : D} {i j : Int} {ds es : List D}
theorem de_bin {op : Operator} (ha : DE X T S a s1 S1) (hb : DE X T S1 b s2 S2) (h : BinD X T op s1 s2 S2.cs s S2.cs) : DE X T S (.BinOp a op b pos) s S2 := let ⟨_, ho, hr⟩ := h; de_op ho ha hb hr
theorem de_binC {op : Operator} (ha : DE X T S a s1 S1) (hb : DE X T S1 b s2 S2) (h : BinD X T op s1 s2 S2.cs s cs') : DE X T S (.BinOp a op b pos) s ⟨S2.sl, cs'⟩ := let ⟨_, ho, hr⟩ := h; de_op ho ha hb hr
theorem de_cm {op : CmpOp} (ha : DE X T S a s1 S1) (hb : DE X T S1 b s2 S2) (h : CmpD X T op s1 s2 S2.cs s S2.cs) (hm : behindInMarks op b = false := by first | exact nomark _ | rfl) : DE X T S (.Compare a [op] [b] pos) s S2 := let ⟨_, ho, hr⟩ := h; de_cmp ho ha hb hr hm
theorem dt_cm {op : CmpOp} {k : Bool} (ha : DE X T S a s1 S1) (hb : DE X T S1 b s2 S2) (h : CmpD X T op s1 s2 S2.cs (.dat (.bl k)) S2.cs) (hm : behindInMarks op b = false := by first | exact nomark _ | rfl) : DT X T S (.Compare a [op] [b] pos) k S2 := by
  obtain ⟨r, ho, hr⟩ := h
  refine weakT (pt_cmpR ho ha hb hm) fun σ H Q ⟨ad, F, h0, q⟩ => ?_
  refine two_then (Q := fun x H' => ∃ k, x = .bl k ∧ Q k H') hr ⟨ad, F, h0, fun v H1 ad1 x1 h1 r1 => ?_⟩
  cases r1
  exact ⟨k, rfl, q H1 ad1 x1 h1⟩
theorem de_sub1 (ha : DE X T S a s1 S1) (hb : DE X T S1 b s2 S2) (h : IxD X T s1 s2 S2.cs s S2.cs) (hp : PlainIx b := by intro _ _; rfl) : DE X T S (.Subscript a b pos) s S2 := let ⟨_, ho, hr⟩ := h; de_ix ho ha hb hr hp
theorem de_un {op : UnaryOp} (ha : DE X T S a s1 S1) (h : UnD X T op s1 S1.cs s S1.cs) : DE X T S (.UnaryOp op a pos) s S1 := let ⟨_, ho, hr⟩ := h; de_unop ho ha hr
theorem de_cbC {x : Str} {es : List Expr} {ss : List Sl} (hm : X.mg x = none) (ha : DA X T S (e :: es) ss S1) (h : CalB X T x ss S1.cs s cs') (hg : Gl X x := by rfl) (hn : x ≠ "__name__" := by decide) (hdb : (x == ("__debug__" : Str)) = false := by decide)
    (he : starEach (e :: es) X.env = (false, eval e X.env) :: starEach es X.env := by rfl) (hpl : (backTo pos (starEach es X.env)).any (·.1) = false := by rfl) : DE X T S (.Call (.Name x p) (e :: es) [] pos) s ⟨S1.sl, cs'⟩ := by
  obtain ⟨u, r, hv, ho, hc, hr⟩ := h
  rcases ho with ⟨id, rfl⟩ | ⟨id, rfl⟩
  · exact de_callB hc hm hv ha hr hg hn hdb he hpl
  · exact de_callTy hc hm hv ha hr hg hn hdb he hpl
theorem de_cb {x : Str} {es : List Expr} {ss : List Sl} (hm : X.mg x = none) (ha : DA X T S (e :: es) ss S1) (h : CalB X T x ss S1.cs s S1.cs) (hg : Gl X x := by rfl) (hn : x ≠ "__name__" := by decide) (hdb : (x == ("__debug__" : Str)) = false := by decide)
    (he : starEach (e :: es) X.env = (false, eval e X.env) :: starEach es X.env := by rfl) (hpl : (backTo pos (starEach es X.env)).any (·.1) = false := by rfl) : DE X T S (.Call (.Name x p) (e :: es) [] pos) s S1 := de_cbC hm ha h hg hn hdb he hpl

/-! #### + - * // % ** of ints -/
theorem bin_add : BinD X T .Add (.dat (.int i)) (.dat (.int j)) cs (.dat (.int (i + j))) cs := ⟨_, op_add, r2_I0⟩
theorem bin_sub : BinD X T .Sub (.dat (.int i)) (.dat (.int j)) cs (.dat (.int (i - j))) cs := ⟨_, op_sub, r2_I0⟩
theorem op_mulI : OpR X (binaryOp .Mult) (rI IntMulOk fun i j => .int (i * j)) := opI fun _ _ _ _ _ _ _ hc q => PyProof.Rows.mul_int q hc
theorem bin_mul (h : IntMulOk i j) : BinD X T .Mult (.dat (.int i)) (.dat (.int j)) cs (.dat (.int (i * j))) cs := ⟨_, op_mulI, r2_I h⟩
theorem bin_fdiv (h : CDivW i j) : BinD X T .FloorDiv (.dat (.int i)) (.dat (.int j)) cs (.dat (.int (i / j))) cs := ⟨_, op_fdivW, r2_I h⟩
theorem bin_mod (h : 0 < j) : BinD X T .Mod (.dat (.int i)) (.dat (.int j)) cs (.dat (.int (i % j))) cs := ⟨_, op_mod, r2_I (C := fun _ j => 0 < j) h⟩
theorem bin_pow (h : CPow i j) : BinD X T .Pow (.dat (.int i)) (.dat (.int j)) cs (.dat (.int (i ^ j.toNat))) cs := ⟨_, op_pow, r2_I h⟩
theorem un_negD : UnD X T .USub (.dat (.int i)) cs (.dat (.int (-i))) cs := ⟨_, un_neg, fun ad F H v Q c r1 q => by cases r1; exact ⟨i, rfl, q _ H ad .refl c Rep.int⟩⟩
theorem cmp_lt : CmpD X T .Lt (.dat (.int i)) (.dat (.int j)) cs (.dat (.bl (decide (i < j)))) cs := ⟨_, op_lt, r2_B0⟩
theorem cmp_le : CmpD X T .LtE (.dat (.int i)) (.dat (.int j)) cs (.dat (.bl (decide (i ≤ j)))) cs := ⟨_, op_le, r2_B0⟩
theorem cmp_gt : CmpD X T .Gt (.dat (.int i)) (.dat (.int j)) cs (.dat (.bl (decide (j < i)))) cs := ⟨_, op_gt, r2_B0⟩
theorem cmp_ge : CmpD X T .GtE (.dat (.int i)) (.dat (.int j)) cs (.dat (.bl (decide (j ≤ i)))) cs := ⟨_, op_ge, r2_B0⟩
theorem dec_V (i j : Int) : decide (V.int i = V.int j) = decide (i = j) := by
  by_cases h : i = j
  · subst h; simp
  · rw [decide_eq_false h, decide_eq_false fun z => h (V.int.inj z)]
theorem cmp_eqI : CmpD X T .Eq (.dat (.int i)) (.dat (.int j)) cs (.dat (.bl (decide (i = j)))) cs := ⟨_, op_eq, fun ad F H v w Q c r1 r2 q => by
  cases r1; cases r2
  exact ⟨rfl, by rw [dec_V]; exact q _ H ad .refl c Rep.bl⟩⟩
theorem cmp_neI : CmpD X T .NotEq (.dat (.int i)) (.dat (.int j)) cs (.dat (.bl (!decide (i = j)))) cs := ⟨_, op_ne, fun ad F H v w Q c r1 r2 q => by
  cases r1; cases r2
  exact ⟨rfl, by rw [dec_V]; exact q _ H ad .refl c Rep.bl⟩⟩
theorem dec_S (i j : Str) : decide (V.str i = V.str j) = decide (i = j) := by
  by_cases h : i = j
  · subst h; simp
  · rw [decide_eq_false h, decide_eq_false fun z => h (V.str.inj z)]
theorem cmp_eqS {x y : Str} : CmpD X T .Eq (.dat (.str x)) (.dat (.str y)) cs (.dat (.bl (decide (x = y)))) cs := ⟨_, op_eq, fun ad F H v w Q c r1 r2 q => by
  cases r1; cases r2
  exact ⟨rfl, by rw [dec_S]; exact q _ H ad .refl c Rep.bl⟩⟩
theorem cmp_neS {x y : Str} : CmpD X T .NotEq (.dat (.str x)) (.dat (.str y)) cs (.dat (.bl (!decide (x = y)))) cs := ⟨_, op_ne, fun ad F H v w Q c r1 r2 q => by
  cases r1; cases r2
  exact ⟨rfl, by rw [dec_S]; exact q _ H ad .refl c Rep.bl⟩⟩
theorem dec_B (i j : Bool) : decide (V.bl i = V.bl j) = (i == j) := by cases i <;> cases j <;> decide
theorem cmp_eqB {x y : Bool} : CmpD X T .Eq (.dat (.bl x)) (.dat (.bl y)) cs (.dat (.bl (x == y))) cs := ⟨_, op_eq, fun ad F H v w Q c r1 r2 q => by
  cases r1; cases r2
  exact ⟨rfl, by rw [dec_B]; exact q _ H ad .refl c Rep.bl⟩⟩
theorem cmp_neB {x y : Bool} : CmpD X T .NotEq (.dat (.bl x)) (.dat (.bl y)) cs (.dat (.bl (!(x == y)))) cs := ⟨_, op_ne, fun ad F H v w Q c r1 r2 q => by
  cases r1; cases r2
  exact ⟨rfl, by rw [dec_B]; exact q _ H ad .refl c Rep.bl⟩⟩
/-- is None -/
def isNon : D → Bool
  | .non => true
  | _ => false
theorem rep_non {K : PySem.W.Frag} {M : Addr → Prop} {H : Hp} {v : V} (r : Rep T K M H v d) : decide (v = .non) = isNon d := by
  cases r <;> simp [isNon]
theorem cmp_isN : CmpD X T .Is (.dat d) (.dat .non) cs (.dat (.bl (isNon d))) cs := ⟨_, op_isN, fun ad F H v w Q c r1 r2 q => by
  cases r2
  exact ⟨rfl, by rw [rep_non r1]; exact q _ H ad .refl c Rep.bl⟩⟩
theorem cmp_notN : CmpD X T .IsNot (.dat d) (.dat .non) cs (.dat (.bl (!isNon d))) cs := ⟨_, op_notN, fun ad F H v w Q c r1 r2 q => by
  cases r2
  exact ⟨rfl, by rw [rep_non r1]; exact q _ H ad .refl c Rep.bl⟩⟩

/-! #### subscripts -/
theorem ix_L (hi : atI ds i = some d) : IxD X T (.dat (.lst ds)) (.dat (.int i)) cs (.dat d) cs := ⟨_, ix_list, fun ad F H v w Q c r1 r2 q => by
  cases r2
  cases r1 with
  | lst n e r =>
    obtain ⟨u, h1, h2⟩ := reps_at r hi
    exact ⟨_, _, i, u, rfl, rfl, SqL.of e, h1, q u H ad .refl c h2⟩⟩
theorem ix_R (hi : atI ds i = some d) : IxD X T (.dat (.scr ds)) (.dat (.int i)) cs (.dat d) cs := ⟨_, ix_list, fun ad F H v w Q c r1 r2 q => by
  cases r2
  cases r1 with
  | scr e r =>
    obtain ⟨u, h1, h2⟩ := reps_at r hi
    exact ⟨_, _, i, u, rfl, rfl, e.sq, h1, q u H ad .refl c h2⟩⟩
theorem ix_T (hi : atI ds i = some d) : IxD X T (.dat (.tup ds)) (.dat (.int i)) cs (.dat d) cs := ⟨_, ix_tup, fun ad F H v w Q c r1 r2 q => by
  cases r2
  cases r1 with
  | tup e r =>
    obtain ⟨u, h1, h2⟩ := reps_at r hi
    exact ⟨_, _, i, u, rfl, rfl, e.sq, h1, q u H ad .refl c h2⟩⟩
theorem ix_C {k : Nat} (hk : cs[k]? = some (.lst ds)) (hi : atI ds i = some d) : IxD X T (.cel k) (.dat (.int i)) cs (.dat d) cs := ⟨_, ix_list, fun ad F H v w Q c r1 r2 q => by
  cases r2
  obtain ⟨p, e, rfl⟩ := r1
  obtain ⟨vs, h1, h2⟩ := c.ce k p _ e hk
  obtain ⟨u, h3, h4⟩ := reps_at h2 hi
  exact ⟨_, _, i, u, rfl, rfl, SqL.of h1, h3, q u H ad .refl c h4⟩⟩
theorem ix_S {x : Str} {c : Nat} (hl : x.length ≤ sizeLine) (hi : atI x.cps.toList i = some c) : IxD X T (.dat (.str x)) (.dat (.int i)) cs (.dat (.str ⟨#[c]⟩)) cs := ⟨_, ix_str, fun ad F H v w Q c' r1 r2 q => by
  cases r1; cases r2
  exact ⟨x, i, c, rfl, rfl, hl, hi, q _ H ad .refl c' Rep.str⟩⟩

/-! #### sequences: +, *, slices -/
theorem new_lst {K : PySem.W.Frag} {ad : List Addr} {F : Addr → Prop} {H : Hp} {vs : List V} {Q : VK} (c : HoldC T K ad F H cs) (r : Reps T K (Mm ad F) H vs ds) (q : ∀ z H' ad', Ext ad F H ad' H' → HoldC T K ad' F H' cs → SlRep T K ad' F H' z (.dat (.lst ds)) → Q z H')
    {p : Addr} (hp : H p = none) : Q (.ref p) (upd H p (.lst vs)) := by
  obtain ⟨c2, x2⟩ := c.newo (o := .lst vs) hp
  exact q _ _ ad x2 c2 (Rep.lst (vs := vs) (c.new hp) upd_same (r.kp x2.kp))
theorem new_tup {K : PySem.W.Frag} {ad : List Addr} {F : Addr → Prop} {H : Hp} {vs : List V} {Q : VK} (c : HoldC T K ad F H cs) (r : Reps T K (Mm ad F) H vs ds) (q : ∀ z H' ad', Ext ad F H ad' H' → HoldC T K ad' F H' cs → SlRep T K ad' F H' z (.dat (.tup ds)) → Q z H')
    {p : Addr} (hp : H p = none) : Q (.ref p) (upd H p (.tup vs)) := by
  obtain ⟨c2, x2⟩ := c.newo (o := .tup vs) hp
  exact q _ _ ad x2 c2 (Rep.tup (vs := vs) (.inl ⟨c.new hp, .inl upd_same⟩) (r.kp x2.kp))
theorem new_lstC {K : PySem.W.Frag} {ad : List Addr} {F : Addr → Prop} {H : Hp} {vs : List V} {Q : VK} (c : HoldC T K ad F H cs) (r : Reps T K (Mm ad F) H vs ds) (q : ∀ z H' ad', Ext ad F H ad' H' → HoldC T K ad' F H' (cs ++ [.lst ds]) → SlRep T K ad' F H' z (.cel cs.length) → Q z H')
    {p : Addr} (hp : H p = none) : Q (.ref p) (upd H p (.lst vs)) := by
  have kp : Kp (Mm ad F) H (Mm (ad ++ [p]) F) (upd H p (.lst vs)) := fun a o e n => by
    have np : a ≠ p := ne_of_none e hp
    refine ⟨by rw [upd_ne np]; exact e, fun z => ?_⟩
    rcases z with z | z
    · rcases List.mem_append.mp z with z | z
      · exact n (.inl z)
      · exact np (List.mem_singleton.mp z)
    · exact n (.inr z)
  obtain ⟨c2, x2⟩ := c.cell (o := .lst vs) (c := .lst ds) hp ⟨vs, upd_same, r.kp kp⟩
  refine q _ _ _ x2 c2 ⟨p, ?_, rfl⟩
  rw [← c.ln, List.getElem?_append_right (Nat.le_refl _)]
  simp
/-- a list to be read: data or a cell -/
def isLst (cs : List Cell) (ds : List D) : Sl → Prop
  | .dat d => d = .lst ds
  | .cel k => cs[k]? = some (.lst ds)
theorem rd_lst {K : PySem.W.Frag} {ad : List Addr} {F : Addr → Prop} {H : Hp} {v : V} (h : isLst cs ds s) (c : HoldC T K ad F H cs) (r : SlRep T K ad F H v s) : ∃ a vs, v = .ref a ∧ H a = some (.lst vs) ∧ Reps T K (Mm ad F) H vs ds := by
  cases s with
  | dat d =>
    obtain rfl : d = .lst ds := h
    cases r with
    | lst n e r => exact ⟨_, _, rfl, e, r⟩
  | cel k =>
    obtain ⟨a, e, rfl⟩ := r
    obtain ⟨vs, h1, h2⟩ := c.ce k a _ e h
    exact ⟨a, vs, rfl, h1, h2⟩
theorem bin_addL (h1 : isLst cs ds s1) (h2 : isLst cs es s2) (hl : ds.length + es.length ≤ sizeLine) : BinD X T .Add s1 s2 cs (.dat (.lst (ds ++ es))) cs := ⟨_, op_cat, fun ad F H v w Q c r1 r2 q => by
  obtain ⟨a, vs, rfl, e1, q1⟩ := rd_lst h1 c r1
  obtain ⟨b, ws, rfl, e2, q2⟩ := rd_lst h2 c r2
  exact ⟨a, b, vs, ws, rfl, rfl, e1, e2, by rw [q1.length, q2.length]; exact hl, fun p hp => new_lst c (q1.append q2) q hp⟩⟩
theorem bin_addLC (h1 : isLst cs ds s1) (h2 : isLst cs es s2) (hl : ds.length + es.length ≤ sizeLine) : BinD X T .Add s1 s2 cs (.cel cs.length) (cs ++ [.lst (ds ++ es)]) := ⟨_, op_cat, fun ad F H v w Q c r1 r2 q => by
  obtain ⟨a, vs, rfl, e1, q1⟩ := rd_lst h1 c r1
  obtain ⟨b, ws, rfl, e2, q2⟩ := rd_lst h2 c r2
  exact ⟨a, b, vs, ws, rfl, rfl, e1, e2, by rw [q1.length, q2.length]; exact hl, fun p hp => new_lstC c (q1.append q2) q hp⟩⟩
theorem bin_addT (hl : ds.length + es.length ≤ sizeLine) : BinD X T .Add (.dat (.tup ds)) (.dat (.tup es)) cs (.dat (.tup (ds ++ es))) cs := ⟨_, op_catA, fun ad F H v w Q c r1 r2 q => by
  cases r1 with
  | @tup a vs _ e1 q1 =>
    cases r2 with
    | @tup b ws _ e2 q2 =>
      refine ⟨a, b, vs, ws, rfl, rfl, e1.sq, e2.sq, by rw [q1.length, q2.length]; exact hl, ?_⟩
      refine ⟨fun h => ?_, fun h => ?_, fun h h' p hp => new_tup c (q1.append q2) q hp⟩
      · subst h
        cases q1
        exact q _ H ad .refl c (Rep.tup e2 q2)
      · first
          | (intro h'; subst h'; cases q2; refine q _ H ad .refl c ?_; rw [List.append_nil]; exact Rep.tup e1 q1)
          | (subst h; cases q2; refine q _ H ad .refl c ?_; rw [List.append_nil]; exact Rep.tup e1 q1)⟩
theorem bin_addS {x y : Str} (hl : x.length + y.length ≤ sizeLine) : BinD X T .Add (.dat (.str x)) (.dat (.str y)) cs (.dat (.str (x ++ y))) cs := ⟨_, op_add_str, fun ad F H v w Q c r1 r2 q => by
  cases r1; cases r2
  exact ⟨x, y, rfl, rfl, hl, q _ H ad .refl c Rep.str⟩⟩
theorem reps_rep {K : PySem.W.Frag} {M : Addr → Prop} {H : Hp} {vs : List V} (h : Reps T K M H vs ds) : ∀ n, Reps T K M H (List.replicate n vs).flatten (List.replicate n ds).flatten
  | 0 => .nil
  | n + 1 => by
    rw [List.replicate_succ, List.replicate_succ, List.flatten_cons, List.flatten_cons]
    exact h.append (reps_rep h n)
theorem bin_repL (h1 : isLst cs ds s1) (h2 : -(2 ^ 63) ≤ j) (h3 : j < 2 ^ 63) (hl : ds.length * j.toNat ≤ sizeLine) : BinD X T .Mult s1 (.dat (.int j)) cs (.dat (.lst (List.replicate j.toNat ds).flatten)) cs := ⟨_, op_rep, fun ad F H v w Q c r1 r2 q => by
  cases r2
  obtain ⟨a, vs, rfl, e1, q1⟩ := rd_lst h1 c r1
  refine ⟨a, j, vs, rfl, rfl, e1, h2, h3, by rw [q1.length]; exact hl, fun p hp => ?_⟩
  first
    | exact new_lst c (reps_rep q1 _) q hp
    | (have z := new_lst c (reps_rep q1 j.toNat) q hp; simpa using z)⟩
def cutD (ds : List D) (lo hi : Option Int) : List D := (ds.drop (HT.sIx ds.length 0 lo)).take (HT.sIx ds.length ds.length hi - HT.sIx ds.length 0 lo)
theorem reps_cut {K : PySem.W.Frag} {M : Addr → Prop} {H : Hp} {vs : List V} (h : Reps T K M H vs ds) (lo hi : Option Int) : Reps T K M H (cutV vs lo hi) (cutD ds lo hi) := by
  unfold cutV cutD
  rw [h.length]
  exact (h.drop _).take _
/-- an optional part of a slice -/
def tDO (T : Tab) (K : PySem.W.Frag) (S : Sta) (o : Option Int) (S' : Sta) : TO := fun σ H Q => ∃ ad F, Hold T K S ad F σ H ∧ ∀ H' ad', Ext ad F H ad' H' → Hold T K S' ad' F σ H' → Q o H'
def DO' (X : Cx) (T : Tab) (S : Sta) (e : Option Expr) (o : Option Int) (S' : Sta) : Prop := PO X e (tDO T X.K S o S')
theorem weakO {X : Cx} {e : Option Expr} {t t' : TO} (h : PO X e t) (q : ∀ σ H Q, t' σ H Q → t σ H Q) : PO X e t' := ⟨fun pins s σ H Q I z => h.run pins s σ H Q I (q σ H Q z)⟩
theorem do_none : DO' X T S none none S := weakO po_none fun σ H Q ⟨ad, F, h, q⟩ => q H ad .refl h
theorem do_some (h : DE X T S e (.dat (.int i)) S1) : DO' X T S (some e) (some i) S1 := weakO (po_some h) fun σ H Q ⟨ad, F, h, q⟩ => ⟨ad, F, h, fun v H1 ad1 x1 h1 r1 => by cases r1; exact ⟨i, rfl, q H1 ad1 x1 h1⟩⟩
def SlcD (X : Cx) (T : Tab) (s1 : Sl) (lo hi : Option Int) (cs : List Cell) (s : Sl) (cs' : List Cell) : Prop := ∃ r, SlR X r ∧ ∀ ad F H v (Q : VK), HoldC T X.K ad F H cs → SlRep T X.K ad F H v s1 → (∀ z H' ad', Ext ad F H ad' H' → HoldC T X.K ad' F H' cs' → SlRep T X.K ad' F H' z s → Q z H') → r v lo hi H Q
theorem de_slice {lo hi : Option Expr} {l u : Option Int} {p2 : Pos} (ha : DE X T S e s1 S1) (hl : DO' X T S1 lo l S2) (hu : DO' X T S2 hi u S3) (h : SlcD X T s1 l u S3.cs s S3.cs) : DE X T S (.Subscript e (.Slice lo hi none p2) pos) s S3 := by
  obtain ⟨r, hs, hr⟩ := h
  refine weak (pe_slice hs ha hl hu) fun σ H Q ⟨ad, F, h0, q⟩ => ⟨ad, F, h0, fun v H1 ad1 x1 h1 r1 => ⟨ad1, F, h1, fun H2 ad2 x2 h2 => ⟨ad2, F, h2, fun H3 ad3 x3 h3 => ?_⟩⟩⟩
  refine hr ad3 F H3 v Q h3.hc ((r1.ext x2).ext x3) fun z H' ad' x4 c4 r4 => ?_
  exact q z H' ad' (x1.trans h1.hc (x2.trans h2.hc (x3.trans h3.hc x4))) (h3.to x4 c4) r4
theorem slc_L {lo hi : Option Int} (h1 : isLst cs ds s1) : SlcD X T s1 lo hi cs (.dat (.lst (cutD ds lo hi))) cs := ⟨_, sl_list, fun ad F H v Q c r1 q => by
  obtain ⟨a, vs, rfl, e1, q1⟩ := rd_lst h1 c r1
  exact ⟨a, vs, rfl, SqL.of e1, fun p hp => new_lst c (reps_cut q1 lo hi) q hp⟩⟩
theorem slc_T {lo hi : Option Int} : SlcD X T (.dat (.tup ds)) lo hi cs (.dat (.tup (cutD ds lo hi))) cs := ⟨_, sl_tupA, fun ad F H v Q c r1 q => by
  cases r1 with
  | @tup a vs _ e1 q1 =>
    refine ⟨a, vs, rfl, e1.sq, fun hw => ?_, fun hw p hp => new_tup c (reps_cut q1 lo hi) q hp⟩
    have e : cutD ds lo hi = ds := by
      unfold cutD
      rw [q1.length] at hw
      rw [hw.1, hw.2]
      simp
    rw [e] at q
    exact q _ H ad .refl c (Rep.tup e1 q1)⟩

/-! #### == of data -/
mutual
def D.py : D → PyData
  | .non => .none
  | .bl b => .bool b
  | .int i => .int i
  | .str x => .str x
  | .tup xs => .tuple (D.pys xs)
  | .lst xs => .list (D.pys xs)
  | .scr xs => .list (D.pys xs)
  | .obj _ _ => .none
def D.pys : List D → List PyData
  | [] => []
  | x :: xs => D.py x :: D.pys xs
end
mutual
def D.plain : D → Bool
  | .tup xs => D.plains xs
  | .lst xs => D.plains xs
  | .scr xs => D.plains xs
  | .obj _ _ => false
  | _ => true
def D.plains : List D → Bool
  | [] => true
  | x :: xs => D.plain x && D.plains xs
end
mutual
theorem Rep.dp {K : PySem.W.Frag} {M : Addr → Prop} {H : Hp} {v : V} {d : D} (r : Rep T K M H v d) (h : d.plain = true) : Dp K H v d.py :=
  match r, h with
  | .non, _ => .non
  | .bl, _ => .bl _
  | .int, _ => .int _
  | .str, _ => .str _
  | .tup h1 h2, h => .tup h1.sq (Reps.dp h2 h)
  | .lst n h1 h2, h => .lst (SqL.of h1) (Reps.dp h2 h)
  | .scr h1 h2, h => .lst h1.sq (Reps.dp h2 h)
theorem Reps.dp {K : PySem.W.Frag} {M : Addr → Prop} {H : Hp} {vs : List V} {ds : List D} (r : Reps T K M H vs ds) (h : D.plains ds = true) : DpAll K H vs (D.pys ds) :=
  match r, h with
  | .nil, _ => .nil
  | .cons h1 h2, h => .cons (Rep.dp h1 (Bool.and_eq_true_iff.mp h).1) (Reps.dp h2 (Bool.and_eq_true_iff.mp h).2)
end
def okD (d : D) : Bool := d.plain && SeqAt.shaped d.py
def eqD (d e : D) : Bool := PyData.eqv d.py e.py
theorem cmp_eqD (hu : X.A.units + 64 < cLine) (h1 : okD d1 = true) (h2 : okD d2 = true) : CmpD X T .Eq (.dat d1) (.dat d2) cs (.dat (.bl (eqD d1 d2))) cs := ⟨_, op_eqD hu, fun ad F H v w Q c r1 r2 q => by
  have a1 := Bool.and_eq_true_iff.mp h1
  have a2 := Bool.and_eq_true_iff.mp h2
  exact ⟨_, _, Rep.dp r1 a1.1, Rep.dp r2 a2.1, a1.2, a2.2, q _ H ad .refl c Rep.bl⟩⟩
theorem cmp_neD (hu : X.A.units + 64 < cLine) (h1 : okD d1 = true) (h2 : okD d2 = true) : CmpD X T .NotEq (.dat d1) (.dat d2) cs (.dat (.bl (!eqD d1 d2))) cs := ⟨_, op_neD hu, fun ad F H v w Q c r1 r2 q => by
  have a1 := Bool.and_eq_true_iff.mp h1
  have a2 := Bool.and_eq_true_iff.mp h2
  exact ⟨_, _, Rep.dp r1 a1.1, Rep.dp r2 a2.1, a1.2, a2.2, q _ H ad .refl c Rep.bl⟩⟩
theorem eqD_refl (h : okD d = true) : eqD d d = true := by
  have a1 := Bool.and_eq_true_iff.mp h
  exact SeqAt.eqv_refl _ (SeqAt.canLay_of_shaped a1.2)

/-! #### builtins -/
theorem cb_len (h : isLst cs ds s1) : CalB X T "len" [s1] cs (.dat (.int ds.length)) cs := ⟨_, _, PySem.boot_len, .inl ⟨_, rfl⟩, call_len_seq, fun ad F H vs Q c r q => by
  match vs, r with
  | [v], r =>
    obtain ⟨a, ws, rfl, e1, q1⟩ := rd_lst h c r.1
    exact ⟨a, ws, rfl, .inl (SqL.of e1), by rw [q1.length]; exact q _ H ad .refl c Rep.int⟩⟩
theorem cb_lenR : CalB X T "len" [.dat (.scr ds)] cs (.dat (.int ds.length)) cs := ⟨_, _, PySem.boot_len, .inl ⟨_, rfl⟩, call_len_seq, fun ad F H vs Q c r q => by
  match vs, r with
  | [v], r =>
    have r1 := r.1
    cases r1 with
    | @scr a ws _ e1 q1 => exact ⟨a, ws, rfl, .inl e1.sq, by rw [q1.length]; exact q _ H ad .refl c Rep.int⟩⟩
theorem cb_lenT : CalB X T "len" [.dat (.tup ds)] cs (.dat (.int ds.length)) cs := ⟨_, _, PySem.boot_len, .inl ⟨_, rfl⟩, call_len_seq, fun ad F H vs Q c r q => by
  match vs, r with
  | [v], r =>
    have r1 := r.1
    cases r1 with
    | @tup a ws _ e1 q1 => exact ⟨a, ws, rfl, .inr e1.sq, by rw [q1.length]; exact q _ H ad .refl c Rep.int⟩⟩
theorem cb_lenS {x : Str} (hl : x.length ≤ sizeLine) : CalB X T "len" [.dat (.str x)] cs (.dat (.int x.length)) cs := ⟨_, _, PySem.boot_len, .inl ⟨_, rfl⟩, call_len_str, fun ad F H vs Q c r q => by
  match vs, r with
  | [v], r =>
    have r1 := r.1
    cases r1
    exact ⟨x, rfl, hl, q _ H ad .refl c Rep.int⟩⟩
theorem cb_int : CalB X T "int" [.dat (.int i)] cs (.dat (.int i)) cs := ⟨_, _, by decide +kernel, .inr ⟨_, rfl⟩, call_int1, fun ad F H vs Q c r q => by
  match vs, r with
  | [v], r =>
    have r1 := r.1
    cases r1
    exact .inl ⟨i, rfl, q _ H ad .refl c Rep.int⟩⟩
theorem cb_intB {k : Bool} : CalB X T "int" [.dat (.bl k)] cs (.dat (.int (if k then 1 else 0))) cs := ⟨_, _, by decide +kernel, .inr ⟨_, rfl⟩, call_int1, fun ad F H vs Q c r q => by
  match vs, r with
  | [v], r =>
    have r1 := r.1
    cases r1
    exact .inr ⟨k, rfl, q _ H ad .refl c Rep.int⟩⟩
theorem cb_boolB {k : Bool} : CalB X T "bool" [.dat (.bl k)] cs (.dat (.bl k)) cs := ⟨_, _, by decide +kernel, .inr ⟨_, rfl⟩, call_bool1, fun ad F H vs Q c r q => by
  match vs, r with
  | [v], r =>
    have r1 := r.1
    cases r1
    exact .inr ⟨k, rfl, q _ H ad .refl c Rep.bl⟩⟩
theorem cb_abs : CalB X T "abs" [.dat (.int i)] cs (.dat (.int (if i < 0 then -i else i))) cs := ⟨_, _, by decide +kernel, .inl ⟨_, rfl⟩, call_abs, fun ad F H vs Q c r q => by
  match vs, r with
  | [v], r =>
    have r1 := r.1
    cases r1
    exact ⟨i, rfl, q _ H ad .refl c Rep.int⟩⟩
theorem cb_max (hc : X.calm = true) : CalB X T "max" [.dat (.int i), .dat (.int j)] cs (.dat (.int (if j > i then j else i))) cs := ⟨_, _, by decide +kernel, .inl ⟨_, rfl⟩, call_max2 hc, fun ad F H vs Q c r q => by
  match vs, r with
  | [v, w], r =>
    have r1 := r.1
    have r2 := r.2.1
    cases r1; cases r2
    exact ⟨i, j, rfl, q _ H ad .refl c Rep.int⟩⟩
theorem cb_min (hc : X.calm = true) : CalB X T "min" [.dat (.int i), .dat (.int j)] cs (.dat (.int (if j < i then j else i))) cs := ⟨_, _, by decide +kernel, .inl ⟨_, rfl⟩, call_min2 hc, fun ad F H vs Q c r q => by
  match vs, r with
  | [v, w], r =>
    have r1 := r.1
    have r2 := r.2.1
    cases r1; cases r2
    exact ⟨i, j, rfl, q _ H ad .refl c Rep.int⟩⟩
theorem cb_tupL (h : isLst cs ds s1) : CalB X T "tuple" [s1] cs (.dat (.tup ds)) cs := ⟨_, _, by decide +kernel, .inr ⟨_, rfl⟩, call_tuple_of, fun ad F H vs Q c r q => by
  match vs, r with
  | [v], r =>
    obtain ⟨a, ws, rfl, e1, q1⟩ := rd_lst h c r.1
    exact ⟨a, ws, rfl, .inl ⟨SqL.of e1, fun l hl => new_tup c q1 q hl⟩⟩⟩
theorem cb_tupT : CalB X T "tuple" [.dat (.tup ds)] cs (.dat (.tup ds)) cs := ⟨_, _, by decide +kernel, .inr ⟨_, rfl⟩, call_tuple_of, fun ad F H vs Q c r q => by
  match vs, r with
  | [v], r =>
    have r1 := r.1
    cases r1 with
    | @tup a ws _ e1 q1 => exact ⟨a, ws, rfl, .inr ⟨e1.sq, q _ H ad .refl c (Rep.tup e1 q1)⟩⟩⟩
theorem cb_lstL (h : isLst cs ds s1) : CalB X T "list" [s1] cs (.dat (.lst ds)) cs := ⟨_, _, by decide +kernel, .inr ⟨_, rfl⟩, call_list_of, fun ad F H vs Q c r q => by
  match vs, r with
  | [v], r =>
    obtain ⟨a, ws, rfl, e1, q1⟩ := rd_lst h c r.1
    exact ⟨a, ws, rfl, .inl (SqL.of e1), fun l hl => new_lst c q1 q hl⟩⟩
theorem cb_lstT : CalB X T "list" [.dat (.tup ds)] cs (.dat (.lst ds)) cs := ⟨_, _, by decide +kernel, .inr ⟨_, rfl⟩, call_list_of, fun ad F H vs Q c r q => by
  match vs, r with
  | [v], r =>
    have r1 := r.1
    cases r1 with
    | @tup a ws _ e1 q1 => exact ⟨a, ws, rfl, .inr e1.sq, fun l hl => new_lst c q1 q hl⟩⟩
theorem cb_lstLC (h : isLst cs ds s1) : CalB X T "list" [s1] cs (.cel cs.length) (cs ++ [.lst ds]) := ⟨_, _, by decide +kernel, .inr ⟨_, rfl⟩, call_list_of, fun ad F H vs Q c r q => by
  match vs, r with
  | [v], r =>
    obtain ⟨a, ws, rfl, e1, q1⟩ := rd_lst h c r.1
    exact ⟨a, ws, rfl, .inl (SqL.of e1), fun l hl => new_lstC c q1 q hl⟩⟩
theorem cb_lstTC : CalB X T "list" [.dat (.tup ds)] cs (.cel cs.length) (cs ++ [.lst ds]) := ⟨_, _, by decide +kernel, .inr ⟨_, rfl⟩, call_list_of, fun ad F H vs Q c r q => by
  match vs, r with
  | [v], r =>
    have r1 := r.1
    cases r1 with
    | @tup a ws _ e1 q1 => exact ⟨a, ws, rfl, .inr e1.sq, fun l hl => new_lstC c q1 q hl⟩⟩
end

/-! ### stores to a list -/
section
variable {X : Cx} {T : Tab} {n : Nat} {S S1 S2 S3 : Sta} {e o ix : Expr} {pos p' : Pos} {d : D} {ds : List D} {k j : Nat} {i : Int} {P : Post}
theorem ds_setL (he : DE X T S e (.dat d) S1) (ho : DE X T S1 o (.cel k) S2) (hi : DE X T S2 ix (.dat (.int i)) S3) (hk : S3.cs[k]? = some (.lst ds)) (hj : ixN ds.length i = some j) (h : P.nx ⟨S3.sl, S3.cs.set k (.lst (ds.set j d))⟩)
    (ha : ∀ v, assign (.Subscript o ix p') X.env v = (do
      let ov ← holding [v] (eval o X.env)
      let iv ← holding [v, ov] (eval ix X.env)
      standAt p'
      holding [v, ov, iv] (setItem ov iv v)
      release [v, ov, iv] []) := by intro _; rfl)
    (hs : swapsWithSole [.Subscript o ix p'] e pos.line X.env = pure false := by rfl) (hw : swappedStores [.Subscript o ix p'] e X.env = pure none := by rfl)
    (h1 : (assignEach [.Subscript o ix p'] X.env).map (·.2) = [assign (.Subscript o ix p') X.env] := by rfl) : DS X T n S (.Assign [.Subscript o ix p'] e pos) P :=
  weakS (ps_asg he (pg_sub ho hi set_list ha) hs hw h1) fun D σ H ⟨ad, F, hn, h0, q, _⟩ => ⟨ad, F, h0, fun v H1 ad1 x1 h1 r1 => ⟨ad1, F, h1, fun w H2 ad2 x2 h2 r2 => ⟨ad2, F, h2, fun z H3 ad3 x3 h3 r3 => by
    cases r3
    have r2' := SlRep.ext x3 r2
    obtain ⟨a, ea, rfl⟩ := r2'
    obtain ⟨vs, e1, q1⟩ := h3.hc.ce k a _ ea hk
    have rd : Rep T X.K (Mm ad3 F) H3 v d := SlRep.ext (s := .dat d) x3 (SlRep.ext (s := .dat d) x2 r1)
    refine ⟨a, vs, i, j, rfl, rfl, e1, by rw [q1.length]; exact hj, ?_⟩
    have kp : Kp (Mm ad3 F) H3 (Mm ad3 F) (upd H3 a (.lst (vs.set j v))) := fun b o e n => ⟨by rw [upd_ne (fun z => n (.inl (by rw [z]; exact List.mem_of_getElem? ea)))]; exact e, n⟩
    obtain ⟨c4, x4⟩ := h3.hc.setc (o := .lst (vs.set j v)) (c := .lst (ds.set j d)) ea ⟨_, upd_same, (q1.set rd j).kp kp⟩
    have x : Ext ad F H ad3 _ := x1.trans h1.hc (x2.trans h2.hc (x3.trans h3.hc x4))
    exact q _ _ _ ad3 (x.s hn) (x.le hn) (h3.to x4 c4) h⟩⟩⟩
end
end Dl

namespace Dl
open PySem L2

/-! ### comprehensions -/
def wipeS (sl : List (Option Sl)) : List Nat → List (Option Sl)
  | [] => sl
  | v :: vs => (wipeS sl vs).set v none
theorem wipeS_len (sl : List (Option Sl)) : ∀ vs, (wipeS sl vs).length = sl.length
  | [] => rfl
  | v :: vs => by unfold wipeS; rw [List.length_set, wipeS_len sl vs]
theorem wipeS_some {sl : List (Option Sl)} {i : Nat} {s : Sl} : ∀ {vs : List Nat}, (wipeS sl vs)[i]? = some (some s) → sl[i]? = some (some s) ∧ i ∉ vs
  | [], h => ⟨h, by simp⟩
  | v :: vs, h => by
    unfold wipeS at h
    by_cases e : v = i
    · subst e
      rw [List.getElem?_set] at h
      split at h
      · split at h <;> cases h
      · rename_i z; exact absurd rfl z
    · rw [List.getElem?_set_ne e] at h
      obtain ⟨h1, h2⟩ := wipeS_some h
      exact ⟨h1, fun z => (List.mem_cons.mp z).elim (fun q => e q.symm) h2⟩
def tDTs (T : Tab) (K : PySem.W.Frag) := tDT T K
def DTs (X : Cx) (T : Tab) (S : Sta) (ifs : List Expr) (b : Bool) (S' : Sta) : Prop := PTs X ifs (tDT T X.K S b S')
theorem weakTs {X : Cx} {e : List Expr} {t t' : TT} (h : PTs X e t) (q : ∀ σ H Q, t' σ H Q → t σ H Q) : PTs X e t' := ⟨fun pins s σ H Q I z => h.run pins s σ H Q I (q σ H Q z)⟩
theorem dts_nil {X : Cx} {T : Tab} {S : Sta} : DTs X T S [] true S := weakTs pts_nil fun σ H Q ⟨ad, F, h, q⟩ => q H ad .refl h
theorem dts_one {X : Cx} {T : Tab} {S S1 : Sta} {c : Expr} {b : Bool} (h : DT X T S c b S1) : DTs X T S [c] b S1 := pts_one h

/-- one turn: from the slots and cells the item made (none: left out) and the cells behind -/
abbrev Turn1 := List (Option Sl) → List Cell → Option D → List Cell → Prop
def DLcs (B : Turn1) (p : Pat) (sl : List (Option Sl)) : List D → List Cell → List D → List Cell → Prop
  | [], cs, acc, cs' => acc = [] ∧ cs' = cs
  | d :: ds, cs, acc, cs' => ∃ sl' o cs1 acc1, asgP p d sl = some sl' ∧ B sl' cs o cs1 ∧ DLcs B p sl ds cs1 acc1 cs' ∧ acc = o.toList ++ acc1
/-- the block's contexts -/
def InB (X : Cx) (scope : Scope) (f : Cx → Prop) : Prop := ∀ (s : Shared) (H : Hp) (C : Addr) (cl : List (Str × Addr)) (fp : List Addr), f (X.blk s H scope (compEnvC scope cl C X.env) fp)
def LcB (X : Cx) (T : Tab) (scope : Scope) (ifs : List Expr) (elt : Expr) : Turn1 := fun sl' cs o cs1 =>
  ∃ b S2, InB X scope (fun X' => DTs X' T ⟨sl', cs⟩ ifs b S2) ∧ ((b = true ∧ ∃ d S3, InB X scope (fun X' => DE X' T S2 elt (.dat d) S3) ∧ o = some d ∧ cs1 = S3.cs) ∨ (b = false ∧ o = none ∧ cs1 = S2.cs))
structure DLC (X : Cx) (T : Tab) (S : Sta) (elt tg iter : Expr) (ifs : List Expr) (scope : Scope) (own : List (Str × Nat)) (wi : TI) (g : TG) (tt : TT) (te : TE) (s : Sl) (S' : Sta) : Prop where
  hi : PI X tg iter wi
  ok : BlkOk X.N X.env.scope scope own
  hg : ∀ (s : Shared) (H : Hp) (C : Addr) (cl : List (Str × Addr)) (fp : List Addr), PG (X.blk s H scope (compEnvC scope cl C X.env) fp) tg g
  ht : ∀ (s : Shared) (H : Hp) (C : Addr) (cl : List (Str × Addr)) (fp : List Addr), PTs (X.blk s H scope (compEnvC scope cl C X.env) fp) ifs tt
  he : ∀ (s : Shared) (H : Hp) (C : Addr) (cl : List (Str × Addr)) (fp : List Addr), PE (X.blk s H scope (compEnvC scope cl C X.env) fp) elt te
  rd : ∀ σ H Q, tD T X.K S s S' σ H Q → tLc wi g tt te (own.map (·.2)) σ H Q
section
variable {X : Cx} {T : Tab} {S S1 : Sta} {elt tg iter : Expr} {ifs : List Expr} {scope : Scope} {own : List (Str × Nat)} {p : Pat} {items acc : List D} {cs' : List Cell}
/-- wi and the rest, chosen -/
def wiD (T : Tab) (K : PySem.W.Frag) (S : Sta) (items : List D) (S1 : Sta) : TI := tDI T K S items S1
def ttD (X : Cx) (T : Tab) (scope : Scope) (ifs : List Expr) : TT := fun σ H Q => ∃ S b S', InB X scope (fun X' => DTs X' T S ifs b S') ∧ tDT T X.K S b S' σ H Q
def teD (X : Cx) (T : Tab) (scope : Scope) (elt : Expr) : TE := fun σ H Q => ∃ S s S', InB X scope (fun X' => DE X' T S elt s S') ∧ tD T X.K S s S' σ H Q
theorem wipe_asis {σ σ' : St} {vs : List Nat} {ns : List Nat} (h : AsIs ns (wipe σ vs) σ') (hs : ∀ i ∈ ns, i ∈ vs) : wipe σ' vs = wipe σ vs := by
  apply List.ext_getElem?
  intro i
  by_cases hi : i ∈ vs
  · have : ∀ (τ : St) (us : List Nat), i ∈ us → (wipe τ us)[i]? = if i < τ.length then some none else none := by
      intro τ us
      induction us with
      | nil => intro h; cases h
      | cons v us ih =>
        intro h
        unfold wipe
        by_cases e : v = i
        · subst e
          rw [List.getElem?_set, if_pos rfl, wipe_length]
        · rw [List.getElem?_set_ne e]
          exact ih ((List.mem_cons.mp h).resolve_left (fun q => e q.symm))
    rw [this _ _ hi, this _ _ hi, h.1, wipe_length]
  · rw [wipe_out hi, wipe_out hi, h.2 i fun z => hi (hs i z), wipe_out hi]
theorem dlc (hi : DI X T S tg iter items S1) (ok : BlkOk X.N X.env.scope scope own) (hg : InB X scope fun X' => DG X' T tg p) (hp : ∀ i ∈ slotsP p, i ∈ own.map (·.2))
    (h : DLcs (LcB X T scope ifs elt) p (wipeS S1.sl (own.map (·.2))) items S1.cs acc cs') (hl : items.length < sizeLine) : DLC X T S elt tg iter ifs scope own (wiD T X.K S items S1) (tDG T X.K p) (ttD X T scope ifs) (teD X T scope elt) (.dat (.lst acc)) ⟨S1.sl, cs'⟩ := by
  refine ⟨hi, ok, hg, fun s H C cl fp => ⟨fun pins s2 σ H2 Q I ⟨S', b, S'', hh, z⟩ => (hh s H C cl fp).run pins s2 σ H2 Q I z⟩, fun s H C cl fp => ⟨fun pins s2 σ H2 Q I ⟨S', s', S'', hh, z⟩ => (hh s H C cl fp).run pins s2 σ H2 Q I z⟩, ?_⟩
  rintro σ H Q ⟨ad, F, h0, q⟩
  refine ⟨ad, F, h0, fun J H1 ad1 x1 h1 okI Dl hD => ?_⟩
  let vs := own.map (·.2)
  have nD := h1.hc.new hD
  let F' : Addr → Prop := fun a => F a ∨ a = Dl
  have neD : ∀ a o, H1 a = some o → a ≠ Dl := fun a o e => ne_of_none e hD
  -- the slots, at any later heap
  have slots : ∀ {ad' : List Addr} {H' : Hp} {cs : List Cell}, Ext ad1 F H1 ad' H' → HoldC T X.K ad' F' H' cs → Hold T X.K ⟨wipeS S1.sl vs, cs⟩ ad' F' (wipe σ vs) H' := fun {ad' H' cs} x c => by
    refine ⟨c, by rw [wipe_length, wipeS_len]; exact h1.sz, fun i s e => ?_⟩
    obtain ⟨e1, e2⟩ := wipeS_some e
    obtain ⟨v, hv, r⟩ := h1.sl i s e1
    refine ⟨v, by rw [wipe_out e2]; exact hv, ?_⟩
    cases s with
    | dat d => exact Rep.kp (fun a o e n => ⟨x.keep a o e n, fun z => (x.kp a o e n).2 (z.imp id fun z => z.resolve_right (neD a o e))⟩) r
    | cel k =>
      have r' := SlRep.ext x r
      exact r'
  have h1' : HoldC T X.K ad1 F' (upd H1 Dl (.lst [])) S1.cs := by
    obtain ⟨c2, x2⟩ := h1.hc.newo (o := .lst []) hD
    have kp : Kp (Mm ad1 F) H1 (Mm ad1 F') (upd H1 Dl (.lst [])) := fun a o e n => ⟨by rw [upd_ne (neD a o e)]; exact e, fun z => n (z.imp id fun z => z.resolve_right (neD a o e))⟩
    refine ⟨h1.hc.nd, fun a ha z => z.elim (h1.hc.fr a ha) fun z => nD (.inl (z ▸ ha)), fun a z => ?_, h1.hc.ln, fun k a c e1 e2 => ?_⟩
    · rcases z with z | z
      · exact c2.al a z
      · rw [z]; exact ⟨_, upd_same⟩
    · have qc := h1.hc.ce k a c e1 e2
      obtain ⟨o, e⟩ := qc.some
      exact qc.kp kp (upd_ne (neD a o e))
  have x1' : Ext ad1 F H1 ad1 (upd H1 Dl (.lst [])) := (h1.hc.newo hD).2
  refine ⟨fun i m H' => ∃ ad' accV accD ci rest, i ≤ items.length ∧ m = items.length - i ∧ Ext ad1 F H1 ad' H' ∧ HoldC T X.K ad' F' H' ci ∧ H' Dl = some (.lst accV) ∧ Reps T X.K (Mm ad' F') H' accV accD ∧ accD.length ≤ i ∧
    DLcs (LcB X T scope ifs elt) p (wipeS S1.sl vs) (items.drop i) ci rest cs' ∧ accD ++ rest = acc, ⟨items.length, ad1, [], [], S1.cs, acc, Nat.zero_le _, rfl, x1', h1', upd_same, .nil, Nat.le_refl _, h, rfl⟩, ?_⟩
  rintro i m H' ⟨ad', accV, accD, ci, rest, hi', rfl, x', c', eD, rA, lA, hL, eA⟩
  have kpI : Kp (Mm ad1 F) H1 (Mm ad' F') H' := fun a o e n => ⟨x'.keep a o e n, fun z => (x'.kp a o e n).2 (z.imp id fun z => z.resolve_right (neD a o e))⟩
  obtain ⟨ok1, ok2⟩ := okI F' ad' H' ci c' kpI i
  by_cases hlt : i < items.length
  · have hd : items[i]? = some items[i] := List.getElem?_eq_getElem hlt
    obtain ⟨g1, g2⟩ := ok1 _ hd
    rw [List.drop_eq_getElem_cons hlt] at hL
    obtain ⟨sl', o, cs1, acc1, eas, ⟨b, S2, hts, hb⟩, hL2, eacc⟩ := hL
    refine .inr ⟨g1, fun H2 => ∃ m', m' < items.length - i ∧ ∃ ad' accV accD ci rest, i + 1 ≤ items.length ∧ m' = items.length - (i + 1) ∧ Ext ad1 F H1 ad' H2 ∧ HoldC T X.K ad' F' H2 ci ∧ H2 Dl = some (.lst accV) ∧ Reps T X.K (Mm ad' F') H2 accV accD ∧ accD.length ≤ i + 1 ∧
      DLcs (LcB X T scope ifs elt) p (wipeS S1.sl vs) (items.drop (i + 1)) ci rest cs' ∧ accD ++ rest = acc, fun H2 ⟨m', hm, z⟩ => ⟨m', hm, z⟩, fun v H3 y => ?_⟩
    obtain ⟨gr, rv⟩ := g2 v H3 y
    obtain ⟨c3, x3⟩ := grow c' gr
    have x13 : Ext ad1 F H1 ad' H3 := ⟨x'.pre, fun a o e n => gr a o (x'.keep a o e n), fun a fa => by
      obtain ⟨o, e⟩ := h1.hc.al a fa
      have e' : H' a = some o := by rw [x'.frm a fa]; exact e
      rw [gr a o e', e]⟩
    refine ⟨ad', F', ⟨wipeS S1.sl vs, ci⟩, items[i], sl', slots x13 c3, rv, eas, fun σ4 a4 h4 => ⟨wipe_asis a4 hp, ⟨sl', ci⟩, b, S2, hts, ad', F', h4, fun H5 ad5 x5 h5 => ?_⟩⟩
    have cvt : ∀ {ad6 : List Addr} {H6 : Hp}, Ext ad' F' H3 ad6 H6 → Ext ad1 F H1 ad6 H6 := fun {ad6 H6} x6 => by
      obtain ⟨t, e, ht⟩ := x13.pre
      obtain ⟨t2, e2, ht2⟩ := x6.pre
      refine ⟨⟨t ++ t2, by rw [e2, e, List.append_assoc], fun a ha => ?_⟩, fun a o e n => ?_, fun a fa => ?_⟩
      · rcases List.mem_append.mp ha with z | z
        · exact ht a z
        · cases q1 : H1 a with
          | none => rfl
          | some o =>
            exfalso
            have hz := ht2 a z
            by_cases n : Mm ad1 F a
            · rcases n with n | n
              · obtain ⟨o', e'⟩ := c3.mem (a := a) (by rw [e]; exact List.mem_append_left _ n)
                rw [e'] at hz; cases hz
              · rw [x13.frm a n, q1] at hz; cases hz
            · rw [x13.keep a o q1 n] at hz; cases hz
      · have n3 : ¬ Mm ad' F' a := fun z => (x13.kp a o e n).2 (z.imp id fun z => z.resolve_right (neD a o e))
        exact x6.keep a o (x13.keep a o e n) n3
      · rw [x6.frm a (.inl fa), x13.frm a fa]
    have eD3 : H3 Dl = some (.lst accV) := gr _ _ eD
    have rA3 : Reps T X.K (Mm ad' F') H3 accV accD := rA.kp x3.kp
    rcases hb with ⟨rfl, d', S3, hE, rfl, rfl⟩ | ⟨rfl, rfl, rfl⟩
    · refine iteT ⟨S2, .dat d', S3, hE, ad5, F', h5, fun w H6 ad6 x6 h6 r6 => ⟨accV, ?_, ?_, ?_⟩⟩
      · rw [x6.frm Dl (.inr rfl), x5.frm Dl (.inr rfl)]; exact eD3
      · have := rA3.length
        omega
      · have x36 : Ext ad' F' H3 ad6 H6 := x5.trans h5.hc x6
        have x16 := cvt x36
        have hDa : Dl ∉ ad6 := fun z => h6.hc.fr Dl z (.inr rfl)
        have kpU : Kp (Mm ad6 F') H6 (Mm ad6 F') (upd H6 Dl (.lst (accV ++ [w]))) := fun a o e n => ⟨by rw [upd_ne (fun z => n (.inr (.inr z)))]; exact e, n⟩
        refine ⟨_, by omega, ad6, accV ++ [w], accD ++ [d'], S3.cs, acc1, hlt, rfl, ?_, ?_, upd_same, ((rA3.kp x36.kp).append (.cons r6 .nil)).kp kpU, by rw [List.length_append]; simp; omega, hL2, ?_⟩
        · exact ⟨x16.pre, fun a o e n => by rw [upd_ne (neD a o e)]; exact x16.keep a o e n, fun a fa => by
            obtain ⟨o, e⟩ := h1.hc.al a fa
            rw [upd_ne (neD a o e)]; exact x16.frm a fa⟩
        · refine ⟨h6.hc.nd, h6.hc.fr, fun a z => ?_, h6.hc.ln, fun k a c e1 e2 => ?_⟩
          · by_cases e : a = Dl
            · rw [e]; exact ⟨_, upd_same⟩
            · rw [upd_ne e]; exact h6.hc.al a z
          · exact (h6.hc.ce k a c e1 e2).kp kpU (upd_ne fun z => hDa (z ▸ List.mem_of_getElem? e1))
        · rw [← eA, eacc, List.append_assoc]; rfl
    · refine iteF ⟨_, by omega, ad5, accV, accD, S2.cs, acc1, hlt, rfl, cvt x5, h5.hc, ?_, rA3.kp x5.kp, by omega, hL2, ?_⟩
      · rw [x5.frm Dl (.inr rfl)]; exact eD3
      · rw [← eA, eacc]; rfl
  · have e : i = items.length := by omega
    subst e
    rw [List.drop_length] at hL
    obtain ⟨rfl, rfl⟩ := hL
    rw [List.append_nil] at eA
    subst eA
    refine .inl ⟨ok2 rfl, ?_⟩
    have kpF : Kp (Mm ad' F') H' (Mm ad' F) H' := fun a o e n => ⟨e, fun z => n (z.imp id .inl)⟩
    have cF : HoldC T X.K ad' F H' cs' := ⟨c'.nd, fun a ha z => c'.fr a ha (.inl z), fun a z => c'.al a (.inl z), c'.ln, fun k a c e1 e2 => (c'.ce k a c e1 e2).kp kpF rfl⟩
    have nD' : ¬ Mm ad' F Dl := fun z => z.elim (fun z => c'.fr Dl z (.inr rfl)) fun z => nD (.inr z)
    exact q (.ref Dl) H' ad' (x1.trans h1.hc x') (h1.to x' cF) (Rep.lst nD' eD (rA.kp kpF))
variable {wi : TI} {g : TG} {tt : TT} {te : TE} {s : Sl} {S' : Sta} {pos : Pos}
theorem de_lc (hN : X.N.Nodup) (h : DLC X T S elt tg iter ifs scope own wi g tt te s S') (hc : X.calm = true := by rfl) (hs : ∀ x, foldedSetIterable iter X.env x = pure x := by intro _; rfl) : DE X T S (.ListComp elt [⟨tg, iter, ifs, 0⟩] scope pos) s S' :=
  weak (pe_lc hc hN h.hi h.ok h.hg h.ht h.he hs) h.rd
theorem ds_lc (i : Nat) {y : Str} {py spos : Pos} {n : Nat} {P : Post} (hN : X.N.Nodup) (h : DLC X T S elt tg iter ifs scope own wi g tt te s S') (q : P.nx ⟨S'.sl.set i (some s), S'.cs⟩) (hy : X.N[i]? = some y := by rfl) (hyl : X.env.scope.names.lookup y = some .local := by rfl)
    (hsw : swapsWith (.ListComp elt [⟨tg, iter, ifs, 0⟩] scope pos) (some (.Name y py)) spos.line X.env = pure true := by exact sw_true rfl rfl rfl (by decide +kernel)) (hc : X.calm = true := by rfl) (hs : ∀ x, foldedSetIterable iter X.env x = pure x := by intro _; rfl) :
    DS X T n S (.Assign [.Name y py] (.ListComp elt [⟨tg, iter, ifs, 0⟩] scope pos) spos) P :=
  weakS (ps_setLc hc hN hy hyl hsw h.hi h.ok h.hg h.ht h.he hs) fun D σ H ⟨ad, F, hn, h0, q1, _⟩ => h.rd σ H _ ⟨ad, F, h0, fun v H1 ad1 x1 h1 r1 => q1 _ _ H1 ad1 (x1.s hn) (x1.le hn) (h1.set r1 i) q⟩
end
/-! #### the turns -/
section
variable {B : Turn1} {p : Pat} {sl : List (Option Sl)} {cs : List Cell}
theorem lcs_map {α : Type} {g : α → D} (f : α → D) : ∀ (xs : List α), (∀ x ∈ xs, ∃ sl', asgP p (g x) sl = some sl' ∧ B sl' cs (some (f x)) cs) → DLcs B p sl (xs.map g) cs (xs.map f) cs
  | [], _ => ⟨rfl, rfl⟩
  | x :: xs, h => by
    obtain ⟨sl', e, hb⟩ := h x List.mem_cons_self
    exact ⟨sl', _, cs, xs.map f, e, hb, lcs_map f xs fun y hy => h y (List.mem_cons_of_mem _ hy), rfl⟩
theorem lcs_filter {α : Type} {g : α → D} (f : α → Option D) : ∀ (xs : List α), (∀ x ∈ xs, ∃ sl', asgP p (g x) sl = some sl' ∧ B sl' cs (f x) cs) → DLcs B p sl (xs.map g) cs (xs.filterMap f) cs
  | [], _ => ⟨rfl, rfl⟩
  | x :: xs, h => by
    obtain ⟨sl', e, hb⟩ := h x List.mem_cons_self
    refine ⟨sl', _, cs, xs.filterMap f, e, hb, lcs_filter f xs fun y hy => h y (List.mem_cons_of_mem _ hy), ?_⟩
    cases q : f x with
    | none => rw [List.filterMap_cons_none q]; rfl
    | some z => rw [List.filterMap_cons_some q]; rfl
variable {X : Cx} {T : Tab} {scope : Scope} {elt c : Expr} {sl' : List (Option Sl)} {cs1 : List Cell} {d : D} {S2 S3 : Sta}
theorem lcb (h : InB X scope fun X' => DE X' T ⟨sl', cs⟩ elt (.dat d) ⟨sl', cs1⟩) : LcB X T scope [] elt sl' cs (some d) cs1 := ⟨true, ⟨sl', cs⟩, fun _ _ _ _ _ => dts_nil, .inl ⟨rfl, d, _, h, rfl, rfl⟩⟩
theorem lcb_t (h1 : InB X scope fun X' => DT X' T ⟨sl', cs⟩ c true S2) (h : InB X scope fun X' => DE X' T S2 elt (.dat d) S3) : LcB X T scope [c] elt sl' cs (some d) S3.cs := ⟨true, S2, fun s H C cl fp => dts_one (h1 s H C cl fp), .inl ⟨rfl, d, _, h, rfl, rfl⟩⟩
theorem lcb_f (h1 : InB X scope fun X' => DT X' T ⟨sl', cs⟩ c false S2) : LcB X T scope [c] elt sl' cs none S2.cs := ⟨false, S2, fun s H C cl fp => dts_one (h1 s H C cl fp), .inr ⟨rfl, rfl, rfl⟩⟩
end
end Dl

namespace Dl
open PySem L2

/-! ### zip -/
section
variable {X : Cx} {T : Tab} {S S1 S2 : Sta} {e e2 : Expr} {pos p tpos : Pos} {ds es : List D} {elts : List Expr} {kk : Nat}
def zipD (ds es : List D) : List D := (ds.zip es).map fun q => D.tup [q.1, q.2]
theorem zipD_get {i : Nat} {d : D} (h : (zipD ds es)[i]? = some d) : ∃ x y, ds[i]? = some x ∧ es[i]? = some y ∧ d = .tup [x, y] := by
  unfold zipD at h
  rw [List.getElem?_map] at h
  cases q : (ds.zip es)[i]? with
  | none => rw [q] at h; cases h
  | some z =>
    rw [q] at h
    rw [List.getElem?_zip_eq_some] at q
    exact ⟨z.1, z.2, q.1, q.2, (Option.some.inj h).symm⟩
theorem zipD_len : (zipD ds es).length = min ds.length es.length := by unfold zipD; rw [List.length_map, List.length_zip]
theorem di_zipT (h : DA X T S [e, e2] [.dat (.tup ds), .dat (.tup es)] S1) (hm : X.mg "zip" = none) (hg : Gl X "zip" := by rfl) (hs : starEach [e, e2] X.env = (false, eval e X.env) :: starEach [e2] X.env := by rfl)
    (hpl : (backTo pos (starEach [e2] X.env)).any (·.1) = false := by rfl) : DI X T S (.Tuple elts kk tpos) (.Call (.Name "zip" p) [e, e2] [] pos) (zipD ds es) S1 :=
  weakI (RZ.pi_zipA hg hm h hs hpl) fun σ H R ⟨ad, F, h0, q⟩ => ⟨ad, F, h0, fun vs H1 ad1 x1 h1' r1 => by
    match vs, r1 with
    | [v, w], r1 =>
      have r2 := r1.2.1
      have r1 := r1.1
      cases r1 with
      | @tup a xs _ e1 q1 =>
        cases r2 with
        | @tup b ys _ e2 q2 =>
          refine ⟨a, b, xs, ys, rfl, .inr ⟨e1.sq, e2.sq, q _ H1 ad1 x1 h1' fun F2 ad2 H2 cs2 c2 kp i => ⟨fun d hd => ?_, fun hi => ?_⟩⟩⟩
          · obtain ⟨x, y, hx, hy, rfl⟩ := zipD_get hd
            obtain ⟨vx, gx, rx⟩ := (q1.kp kp).get hx
            obtain ⟨vy, gy, ry⟩ := (q2.kp kp).get hy
            refine ⟨⟨xs, ys, vx, vy, (e1.kp kp).sq, (e2.kp kp).sq, gx, gy⟩, fun u H3 z => ?_⟩
            obtain ⟨t, x', y', rfl, nt, rfl, f1, f2⟩ := z
            have ex : x' = vx := Option.some.inj ((f1 _ (e1.kp kp).sq).symm.trans gx)
            have ey : y' = vy := Option.some.inj ((f2 _ (e2.kp kp).sq).symm.trans gy)
            subst ex ey
            obtain ⟨c3, x3⟩ := c2.newo (o := .tup [x', y']) nt
            exact ⟨fun a o ea => by rw [upd_ne (ne_of_none ea nt)]; exact ea, .tup (vs := [x', y']) (.inl ⟨c2.new nt, .inl upd_same⟩) (.cons (rx.kp x3.kp) (.cons (ry.kp x3.kp) .nil))⟩
          · refine ⟨xs, ys, (e1.kp kp).sq, (e2.kp kp).sq, ?_⟩
            rw [zipD_len] at hi
            rw [q1.length, q2.length]
            omega⟩
theorem di_zipL (h : DA X T S [e, e2] [.dat (.lst ds), .dat (.lst es)] S1) (hm : X.mg "zip" = none) (hg : Gl X "zip" := by rfl) (hs : starEach [e, e2] X.env = (false, eval e X.env) :: starEach [e2] X.env := by rfl)
    (hpl : (backTo pos (starEach [e2] X.env)).any (·.1) = false := by rfl) : DI X T S (.Tuple elts kk tpos) (.Call (.Name "zip" p) [e, e2] [] pos) (zipD ds es) S1 :=
  weakI (RZ.pi_zipA hg hm h hs hpl) fun σ H R ⟨ad, F, h0, q⟩ => ⟨ad, F, h0, fun vs H1 ad1 x1 h1' r1 => by
    match vs, r1 with
    | [v, w], r1 =>
      have r2 := r1.2.1
      have r1 := r1.1
      cases r1 with
      | @lst a xs _ n1 e1 q1 =>
        cases r2 with
        | @lst b ys _ n2 e2 q2 =>
          refine ⟨a, b, xs, ys, rfl, .inl ⟨SqL.of e1, SqL.of e2, q _ H1 ad1 x1 h1' fun F2 ad2 H2 cs2 c2 kp i => ⟨fun d hd => ?_, fun hi => ?_⟩⟩⟩
          · obtain ⟨x, y, hx, hy, rfl⟩ := zipD_get hd
            obtain ⟨vx, gx, rx⟩ := (q1.kp kp).get hx
            obtain ⟨vy, gy, ry⟩ := (q2.kp kp).get hy
            have s1 : SqL X.K H2 a xs := SqL.of (kp _ _ e1 n1).1
            have s2 : SqL X.K H2 b ys := SqL.of (kp _ _ e2 n2).1
            refine ⟨⟨xs, ys, vx, vy, s1, s2, gx, gy⟩, fun u H3 z => ?_⟩
            obtain ⟨t, x', y', rfl, nt, rfl, f1, f2⟩ := z
            have ex : x' = vx := Option.some.inj ((f1 _ s1).symm.trans gx)
            have ey : y' = vy := Option.some.inj ((f2 _ s2).symm.trans gy)
            subst ex ey
            obtain ⟨c3, x3⟩ := c2.newo (o := .tup [x', y']) nt
            exact ⟨fun a o ea => by rw [upd_ne (ne_of_none ea nt)]; exact ea, .tup (vs := [x', y']) (.inl ⟨c2.new nt, .inl upd_same⟩) (.cons (rx.kp x3.kp) (.cons (ry.kp x3.kp) .nil))⟩
          · refine ⟨xs, ys, SqL.of (kp _ _ e1 n1).1, SqL.of (kp _ _ e2 n2).1, ?_⟩
            rw [zipD_len] at hi
            rw [q1.length, q2.length]
            omega⟩
end

/-! ### a, b = .. -/
section
variable {X : Cx} {T : Tab} {n : Nat} {S S1 S2 : Sta} {a b c e tg : Expr} {pos px py pz pt pt2 : Pos} {kt k2 : Nat} {s1 s2 s3 : Sl} {d : D} {x y z : Str} {P : Post} {p : Pat} {sl' : List (Option Sl)}
theorem ds_par (i j : Nat) (hN : X.N.Nodup) (ha : DA X T S [a, b] [s1, s2] S1) (h : P.nx ⟨(S1.sl.set i (some s1)).set j (some s2), S1.cs⟩) (hi : X.N[i]? = some x := by rfl) (hj : X.N[j]? = some y := by rfl) (hij : i ≠ j := by decide)
    (hx : X.env.scope.names.lookup x = some .local := by rfl) (hy : X.env.scope.names.lookup y = some .local := by rfl) (hc : X.calm = true := by rfl)
    (hw : swappedStores [.Tuple [.Name x px, .Name y py] kt pt] (.Tuple [a, b] k2 pt2) X.env = pure (some [x, y]) := by rfl)
    (hs : swapsWithSole [.Tuple [.Name x px, .Name y py] kt pt] (.Tuple [a, b] k2 pt2) pos.line X.env = pure false := by rfl) : DS X T n S (.Assign [.Tuple [.Name x px, .Name y py] kt pt] (.Tuple [a, b] k2 pt2) pos) P :=
  weakS (ps_par hc hN hi hj hij hx hy ha hw hs) fun D σ H ⟨ad, F, hn, h0, q, _⟩ => ⟨ad, F, h0, fun vs H1 ad1 x1 h1 r1 => by
    match vs, r1 with
    | [v, w], r1 => exact ⟨v, w, rfl, q _ _ H1 ad1 (x1.s hn) (x1.le hn) ((h1.set r1.1 i).set r1.2.1 j) h⟩⟩
theorem ds_par3 (i j l : Nat) (hN : X.N.Nodup) (ha : DA X T S [a, b, c] [s1, s2, s3] S1) (h : P.nx ⟨((S1.sl.set i (some s1)).set j (some s2)).set l (some s3), S1.cs⟩) (hi : X.N[i]? = some x := by rfl) (hj : X.N[j]? = some y := by rfl) (hl : X.N[l]? = some z := by rfl) (hij : i ≠ j := by decide) (hil : i ≠ l := by decide) (hjl : j ≠ l := by decide)
    (hx : X.env.scope.names.lookup x = some .local := by rfl) (hy : X.env.scope.names.lookup y = some .local := by rfl) (hz : X.env.scope.names.lookup z = some .local := by rfl) (hc : X.calm = true := by rfl)
    (hw : swappedStores [.Tuple [.Name x px, .Name y py, .Name z pz] kt pt] (.Tuple [a, b, c] k2 pt2) X.env = pure (some [x, y, z]) := by rfl)
    (hs : swapsWithSole [.Tuple [.Name x px, .Name y py, .Name z pz] kt pt] (.Tuple [a, b, c] k2 pt2) pos.line X.env = pure false := by rfl) : DS X T n S (.Assign [.Tuple [.Name x px, .Name y py, .Name z pz] kt pt] (.Tuple [a, b, c] k2 pt2) pos) P :=
  weakS (L2.ps_par3 hc hN hi hj hl hij hil hjl hx hy hz ha hw hs) fun D σ H ⟨ad, F, hn, h0, q, _⟩ => ⟨ad, F, h0, fun vs H1 ad1 x1 h1 r1 => by
    match vs, r1 with
    | [u, v, w], r1 => exact ⟨u, v, w, rfl, q _ _ H1 ad1 (x1.s hn) (x1.le hn) (((h1.set r1.1 i).set r1.2.1 j).set r1.2.2.1 l) h⟩⟩
/-- targets = data -/
theorem ds_tup (he : DE X T S e (.dat d) S1) (hg : DG X T tg p) (ha : asgP p d S1.sl = some sl') (h : P.nx ⟨sl', S1.cs⟩) (hs : swapsWithSole [tg] e pos.line X.env = pure false := by rfl) (hw : swappedStores [tg] e X.env = pure none := by rfl)
    (h1 : (assignEach [tg] X.env).map (·.2) = [assign tg X.env] := by rfl) : DS X T n S (.Assign [tg] e pos) P :=
  weakS (ps_asg he hg hs hw h1) fun D σ H ⟨ad, F, hn, h0, q, _⟩ => ⟨ad, F, h0, fun v H1 ad1 x1 h1 r1 => ⟨ad1, F, S1, d, sl', h1, r1, ha, fun σ' _ h2 => q _ _ H1 ad1 (x1.s hn) (x1.le hn) h2 h⟩⟩
end

/-! ### while -/
section
variable {X : Cx} {T : Tab} {n : Nat} {S S1 : Sta} {c : Expr} {body : List Stmt} {pos : Pos} {P : Post}
theorem ds_while (I : Nat → Sta → Prop) (m0 : Nat) (h0 : I m0 S)
    (hs : ∀ m S, I m S → ∃ b S1, DT X T S c b S1 ∧ (b = true → DSs X T n S1 body { P with nx := fun S' => ∃ m', m' < m ∧ I m' S', ct := fun S' => ∃ m', m' < m ∧ I m' S', bk := P.nx }) ∧ (b = false → P.nx S1))
    (hp : PassesOwn (model X.prog X.w) X.A X.env X.xe := by exact PassesOwn.never) : DS X T n S (.While c body [] pos) P := by
  have hb : PSs X body (fun D σ H => ∃ S P, DSs X T n S body P ∧ tDS T X.K n S P D σ H) := ⟨fun pins s σ H D I ⟨S', P', hS, z⟩ => hS.run pins s σ H D I z⟩
  have hc : PT X c (fun σ H Q => ∃ S b S1, DT X T S c b S1 ∧ tDT T X.K S b S1 σ H Q) := ⟨fun pins s σ H Q I ⟨S', b, S1, hS, z⟩ => hS.run pins s σ H Q I z⟩
  refine weakS (ps_while hp hc hb) fun D σ H ⟨ad, F, hn, h1, q1, q2, q3, q4, q5⟩ => ?_
  refine ⟨fun m σ' H' => ∃ ad' S', n ≤ ad'.length ∧ Hold T X.K S' ad' F σ' H' ∧ ExtS n ad F H ad' H' ∧ I m S', ⟨m0, ad, S, hn, h1, .refl, h0⟩, ?_⟩
  rintro m σ' H' ⟨ad', S', hn', h', x', hI⟩
  obtain ⟨b, S1, hd, ht, hf⟩ := hs m S' hI
  refine ⟨S', b, S1, hd, ad', F, h', fun H2 ad2 x2 h2 => ?_⟩
  have x12 := x'.trans (x2.s hn')
  have hn2 := x2.le hn'
  cases b with
  | true =>
    refine iteT ⟨fun σ3 H3 => ∃ m', m' < m ∧ ∃ ad3 S3, n ≤ ad3.length ∧ Hold T X.K S3 ad3 F σ3 H3 ∧ ExtS n ad F H ad3 H3 ∧ I m' S3, fun σ3 H3 ⟨m', hm, z⟩ => ⟨m', hm, z⟩, _, _, ht rfl, ad2, F, hn2, h2, ?_, ?_, ?_, ?_, ?_⟩
    · exact fun S5 σ5 H5 ad5 x5 hn5 h5 ⟨m', hm, p5⟩ => ⟨m', hm, ad5, S5, hn5, h5, x12.trans x5, p5⟩
    · exact fun s cs5 v5 H5 ad5 x5 hn5 c5 r5 p5 => q2 s cs5 v5 H5 ad5 (x12.trans x5) hn5 c5 r5 p5
    · exact fun S5 σ5 H5 ad5 x5 hn5 h5 p5 => q1 S5 σ5 H5 ad5 (x12.trans x5) hn5 h5 p5
    · exact fun S5 σ5 H5 ad5 x5 hn5 h5 ⟨m', hm, p5⟩ => ⟨m', hm, ad5, S5, hn5, h5, x12.trans x5, p5⟩
    · exact fun z S5 cls d σ5 H5 ad5 x5 hn5 h5 r5 p5 => q5 z S5 cls d σ5 H5 ad5 (x12.trans x5) hn5 h5 r5 p5
  | false => exact iteF (q1 S1 σ' H2 ad2 x12 hn2 h2 (hf rfl))
end

/-! ### instances -/
def fIdx : List Str → Str → Option Nat
  | [], _ => none
  | g :: r, f => if f == g then some 0 else (fIdx r f).map (· + 1)
theorem fIdx_look : ∀ {fn : List Str} {f : Str} {j : Nat} {vs : List V}, fIdx fn f = some j → vs.length = fn.length → ∃ v, vs[j]? = some v ∧ (fn.zip vs).lookup f = some v
  | [], _, _, _, h, _ => nomatch h
  | g :: r, f, j, [], h, hl => by simp at hl
  | g :: r, f, j, v :: vs, h, hl => by
    unfold fIdx at h
    by_cases e : (f == g) = true
    · rw [if_pos e] at h
      cases h
      exact ⟨v, rfl, by rw [List.zip_cons_cons, List.lookup_cons, e]⟩
    · rw [if_neg e] at h
      cases q : fIdx r f with
      | none => rw [q] at h; cases h
      | some k =>
        rw [q] at h
        cases h
        obtain ⟨w, h1, h2⟩ := fIdx_look (vs := vs) q (by simpa using hl)
        exact ⟨w, by simpa using h1, by rw [List.zip_cons_cons, List.lookup_cons]; simp only [Bool.not_eq_true] at e; rw [e]; exact h2⟩
theorem fIdx_none : ∀ {fn : List Str} {f : Str} {vs : List V}, fIdx fn f = none → (fn.zip vs).lookup f = none
  | [], _, _, _ => rfl
  | g :: r, f, [], _ => rfl
  | g :: r, f, v :: vs, h => by
    unfold fIdx at h
    by_cases e : (f == g) = true
    · rw [if_pos e] at h; cases h
    · rw [if_neg e] at h
      have q : fIdx r f = none := by
        cases q : fIdx r f with
        | none => rfl
        | some k => rw [q] at h; cases h
      rw [List.zip_cons_cons, List.lookup_cons]
      simp only [Bool.not_eq_true] at e
      rw [e]
      exact fIdx_none q
theorem putF_new : ∀ {fn : List Str} {f : Str} {v : V} {vs : List V}, fIdx fn f = none → vs.length = fn.length → putF f v (fn.zip vs) = (fn ++ [f]).zip (vs ++ [v])
  | [], f, v, [], _, _ => rfl
  | [], _, _, _ :: _, _, hl => by simp at hl
  | g :: r, f, v, [], _, hl => by simp at hl
  | g :: r, f, v, w :: vs, h, hl => by
    unfold fIdx at h
    by_cases e : (f == g) = true
    · rw [if_pos e] at h; cases h
    · rw [if_neg e] at h
      have q : fIdx r f = none := by
        cases q : fIdx r f with
        | none => rfl
        | some k => rw [q] at h; cases h
      have ne : ¬ g = f := fun z => e (by rw [z]; exact beq_self_eq_true _)
      show (if g = f then _ else (g, w) :: putF f v (r.zip vs)) = _
      rw [if_neg ne, putF_new q (by simpa using hl)]
      rfl
section
variable {X : Cx} {T : Tab} {n : Nat} {S S1 S2 : Sta} {e o : Expr} {es : List Expr} {pos apos p' : Pos} {ds vs : List D} {d : D} {f m : Str} {C g : Addr} {fn : List Str} {c : Ct} {k j cn : Nat} {fd : FuncData} {ps : List Str} {P : Post} {s : Sl} {ss : List Sl} {c0 c1 : Cell}
theorem de_fld (hT : T cn = some (C, fn)) (hc : Cls X.K C) (hn : NoAttr X.K C f) (hf : fIdx fn f = some j) (he : DE X T S e (.dat (.obj cn ds)) S1) (hd : ds[j]? = some d) (hb : attributeBase e f X.env (eval e X.env) = eval e X.env := by rfl) : DE X T S (.Attribute e f pos) (.dat d) S1 :=
  weak (pe_fld he hb) fun σ H Q ⟨ad, F, h, q⟩ => ⟨ad, F, h, fun v H1 ad1 x1 h1 r1 => by
    cases r1 with
    | @obj a C' dx _ fn' vs _ ht na e1 hl r =>
      rw [hT] at ht
      cases ht
      obtain ⟨w, g1, g2⟩ := fIdx_look hf hl
      obtain ⟨d', g3, g4⟩ := r.getV g1
      rw [hd] at g3
      cases g3
      exact ⟨a, C, dx, _, w, rfl, e1, hc, hn, g2, q w H1 ad1 x1 h1 g4⟩⟩
/-- a property -/
theorem de_prop {pp : Addr} (hT : T cn = some (C, fn)) (hc : Cls X.K C) (hp : PropOf X.K C f pp g) (G : FnOk X.prog X.w X.K X.mg X.base CX0 k g fd ps (spC T X.K c)) (hr : Room (k + 1) X.A) (hb : Binds X.K fd ps []) (he : DE X T S e (.dat (.obj cn ds)) S1) (hq : c [.dat (.obj cn ds)] [] (.dat d) [])
    (hab : attributeBase e f X.env (eval e X.env) = eval e X.env := by rfl) : DE X T S (.Attribute e f pos) (.dat d) S1 :=
  weak (pe_prop he hc hp G hr hb .nil pass0 hab) fun σ H Q ⟨ad, F, h, q⟩ => ⟨ad, F, h, fun v H1 ad1 x1 h1 r1 => by
    have r0 := r1
    cases r1 with
    | @obj a C' dx _ fn' vs _ ht na e1 hl r =>
      rw [hT] at ht
      cases ht
      refine ⟨a, dx, _, rfl, e1, ?_⟩
      exact spC0 (ds := [.obj cn ds]) hq h1.hc ⟨r0, trivial⟩ fun v H' x2 c2 r2 => q v H' ad1 (x1.trans h1.hc x2) (h1.to x2 c2) r2⟩
/-- o.m(..) of an object that stays -/
theorem de_meth {pl : Sem Bool} (hT : T cn = some (C, fn)) (hc : Cls X.K C) (hm : Meth X.K C m g) (hf : fIdx fn m = none) (G : FnOk X.prog X.w X.K X.mg X.base CX0 k g fd ps (spC T X.K c)) (hr : Room k X.A) (hb : Binds X.K fd ps [])
    (he : DE X T S o (.dat (.obj cn ds)) S1) (ha : DA X T S1 (e :: es) (vs.map Sl.dat) S2) (hq : c ((D.obj cn ds :: vs).map Sl.dat) [] (.dat d) [])
    (hst : starEach (e :: es) X.env = (false, eval e X.env) :: starEach es X.env := by rfl) (hpl : (backTo pos (starEach es X.env)).any (·.1) = false := by rfl)
    (ht : eval (.Call (.Attribute o m apos) (e :: es) [] pos) X.env = (do
      let ov ← eval o X.env
      standAt apos.atName
      let (f, first) ← holding [ov] (getMethod ov m pl)
      callWith pos f first (backTo pos (starEach (e :: es) X.env)) (backToKw pos (keywordEach [] X.env))) := by rfl) : DE X T S (.Call (.Attribute o m apos) (e :: es) [] pos) (.dat d) S2 :=
  weak (pe_meth (pl := pl) he hc hm G hr hb .nil pass0 ha hst hpl ht) fun σ H Q ⟨ad, F, h, q⟩ => ⟨ad, F, h, fun v H1 ad1 x1 h1 r1 => by
    have r0 := r1
    cases r1 with
    | @obj a C' dx _ fn' vs' _ ht na e1 hl r =>
      rw [hT] at ht
      cases ht
      refine ⟨a, dx, _, rfl, e1, fIdx_none hf, ad1, F, h1, fun ws H2 ad2 x2 h2 r2 => ?_⟩
      show spC T X.K c (V.ref a :: (ws ++ [])) H2 Q E0
      rw [List.append_nil]
      exact spC0 (ds := .obj cn ds :: vs) hq h2.hc ⟨SlRep.ext (s := .dat (.obj cn ds)) x2 r0, r2⟩ fun v H' x3 c3 r3 => q v H' ad2 (x1.trans h1.hc (x2.trans h2.hc x3)) (h2.to x3 c3) r3⟩
theorem de_meth0 {pl : Sem Bool} (hT : T cn = some (C, fn)) (hc : Cls X.K C) (hm : Meth X.K C m g) (hf : fIdx fn m = none) (G : FnOk X.prog X.w X.K X.mg X.base CX0 k g fd ps (spC T X.K c)) (hr : Room k X.A) (hb : Binds X.K fd ps [])
    (he : DE X T S o (.dat (.obj cn ds)) S1) (hq : c [.dat (.obj cn ds)] [] (.dat d) [])
    (ht : eval (.Call (.Attribute o m apos) [] [] pos) X.env = (do
      let ov ← eval o X.env
      standAt apos.atName
      let (f, first) ← holding [ov] (getMethod ov m pl)
      callWith pos f first (backTo pos (starEach [] X.env)) (backToKw pos (keywordEach [] X.env))) := by rfl) : DE X T S (.Call (.Attribute o m apos) [] [] pos) (.dat d) S1 :=
  weak (pe_meth0 (pl := pl) he hc hm G hr hb .nil pass0 ht) fun σ H Q ⟨ad, F, h, q⟩ => ⟨ad, F, h, fun v H1 ad1 x1 h1 r1 => by
    have r0 := r1
    cases r1 with
    | @obj a C' dx _ fn' vs' _ ht na e1 hl r =>
      rw [hT] at ht
      cases ht
      refine ⟨a, dx, _, rfl, e1, fIdx_none hf, ?_⟩
      show spC T X.K c (V.ref a :: ([] ++ [])) H1 Q E0
      exact spC0 (ds := [.obj cn ds]) hq h1.hc ⟨r0, trivial⟩ fun v H' x2 c2 r2 => q v H' ad1 (x1.trans h1.hc x2) (h1.to x2 c2) r2⟩
/-- a new instance: __init__ gets it as a cell -/
theorem mk_then {K : PySem.W.Frag} {ad : List Addr} {F : Addr → Prop} {H : Hp} {cs : List Cell} {ws : List V} {args : List D} {Q : VK} {E : XK} {x dx : Addr} (hT : T cn = some (C, fn)) (h : HoldC T K ad F H cs) (r : Reps T K (Mm ad F) H ws args) (hx : H x = none) (hdx : H dx = none) (ne : dx ≠ x)
    (hq : c (.cel 0 :: args.map Sl.dat) [.ins cn []] (.dat .non) [.ins cn (fn.zip ds)]) (hl : ds.length = fn.length) (q : ∀ H', Ext ad F H ad H' → HoldC T K ad F H' cs → Rep T K (Mm ad F) H' (.ref x) (.obj cn ds) → Q (.ref x) H') :
    spC T K c (.ref x :: ws) (upd (upd H dx (.own x)) x (.ins C dx [])) (fun v H2 => v = .non ∧ Q (.ref x) H2) E := by
  obtain ⟨h1, x1⟩ := h.newo (o := .own x) hdx
  have hx1 : upd H dx (.own x) x = none := by rw [upd_ne ne.symm]; exact hx
  obtain ⟨h2, x2⟩ := h1.cell (c := .ins cn []) (o := .ins C dx []) hx1 ⟨C, fn, dx, [], hT, upd_same, rfl, .nil⟩
  have ha : (ad ++ [x])[ad.length]? = some x := by rw [List.getElem?_append_right (Nat.le_refl _)]; simp
  have hlen : cs.length = ad.length := h.ln.symm
  have x12 : Ext ad F H (ad ++ [x]) (upd (upd H dx (.own x)) x (.ins C dx [])) := x1.trans h1 x2
  have rr : SlReps T K (ad ++ [x]) F (upd (upd H dx (.own x)) x (.ins C dx [])) (.ref x :: ws) (.cel ad.length :: args.map Sl.dat) := ⟨⟨x, ha, rfl⟩, SlReps.of (r.kp x12.kp)⟩
  have ho : ∀ l : List D, (l.map Sl.dat).all (onlyCell ad.length) = true := fun l => by
    rw [List.all_map, List.all_eq_true]
    intro d _
    rfl
  have hm : (Sl.cel ad.length :: args.map Sl.dat).map low = .cel 0 :: args.map Sl.dat := by
    rw [List.map_cons, List.map_map]
    rfl
  refine spC1 (ss := .cel ad.length :: args.map Sl.dat) (c0 := .ins cn []) (c1 := .ins cn (fn.zip ds)) (d := .non) (j := ad.length) (by rw [← hlen, List.getElem?_append_right (Nat.le_refl _)]; simp) (by rw [List.all_cons, ho]; simp [onlyCell]) (by rw [hm]; exact hq) h2 rr fun v H' x3 c3 r3 => ?_
  cases r3
  refine ⟨rfl, ?_⟩
  have c4 := c3.take ad.length
  have e1 : (ad ++ [x]).take ad.length = ad := by rw [List.take_append_of_le_length (Nat.le_refl _), List.take_length]
  have e2 : ((cs ++ [Cell.ins cn []]).set ad.length (Cell.ins cn (fn.zip ds))).take ad.length = cs := by
    rw [List.take_set_of_le (Nat.le_refl _), ← hlen, List.take_append_of_le_length (Nat.le_refl _), List.take_length]
  rw [e1, e2] at c4
  have nx : ¬ Mm ad F x := h.new hx
  obtain ⟨C', fn', dx', vs, ht, ea, lv, rv⟩ := c3.ce ad.length x (.ins cn (fn.zip ds)) ha (by rw [List.getElem?_set_self (by simp [hlen])])
  rw [hT] at ht
  cases ht
  have z1 : (fn.zip ds).map (·.1) = fn := List.map_fst_zip (by omega)
  have z2 : (fn.zip ds).map (·.2) = ds := List.map_snd_zip (by omega)
  rw [z1] at ea
  rw [z2] at rv
  have kp : Kp (Mm (ad ++ [x]) F) H' (Mm ad F) H' := fun a o e n => ⟨e, fun z => n (z.imp (List.mem_append_left _) id)⟩
  have xf : Ext ad F H ad H' := by
    have x13 : Ext ad F H (ad ++ [x]) H' := x12.trans h2 x3
    exact ⟨⟨[], by simp, fun _ z => nomatch z⟩, x13.keep, x13.frm⟩
  refine q H' xf c4 (.obj hT nx ea ?_ (rv.kp kp))
  rw [List.length_zip] at lv
  omega
theorem de_make {x : Str} {p : Pos} {args : List D} (hT : T cn = some (C, fn)) (M : Mk X.K C g) (G : FnOk X.prog X.w X.K X.mg X.base CX0 k g fd ps (spC T X.K c)) (hr : Room (k + 1) X.A) (hm : X.mg x = some (.ref C)) (hb : Binds X.K fd ps [])
    (ha : DA X T S (e :: es) (args.map Sl.dat) S1) (hq : c (.cel 0 :: args.map Sl.dat) [.ins cn []] (.dat .non) [.ins cn (fn.zip ds)]) (hl : ds.length = fn.length) (hg : Gl X x := by rfl) (hdb : (x == ("__debug__" : Str)) = false := by decide)
    (he : starEach (e :: es) X.env = (false, eval e X.env) :: starEach es X.env := by rfl) (hpl : (backTo pos (starEach es X.env)).any (·.1) = false := by rfl) : DE X T S (.Call (.Name x p) (e :: es) [] pos) (.dat (.obj cn ds)) S1 :=
  weak (pe_make M G hr hg hm hb .nil pass0 ha hdb he hpl) fun σ H Q ⟨ad, F, h, q⟩ => ⟨ad, F, h, fun ws H1 ad1 x1 h1 r1 x dx hx hdx ne => by
    rw [List.append_nil]
    exact mk_then hT h1.hc r1.dats hx hdx ne hq hl fun H' x2 c2 r2 => q (.ref x) H' ad1 (x1.trans h1.hc x2) (h1.to x2 c2) r2⟩
/-- self.f = e in __init__ -/
theorem ds_fldN {fs : List (Str × D)} (hT : T cn = some (C, fn)) (hc : Cls X.K C) (hn : NoAttr X.K C f) (he : DE X T S e (.dat d) S1) (ho : DE X T S1 o (.cel j) S2) (hk : S2.cs[j]? = some (.ins cn fs)) (hf : fIdx (fs.map (·.1)) f = none) (hl : fs.length < 1000)
    (h : P.nx ⟨S2.sl, S2.cs.set j (.ins cn (fs ++ [(f, d)]))⟩) (hs : swapsWith e (some (.Attribute o f p')) pos.line X.env = pure false := by rfl) : DS X T n S (.Assign [.Attribute o f p'] e pos) P :=
  weakS (ps_fld ho he hs) fun D σ H ⟨ad, F, hn', h0, q, _⟩ => ⟨ad, F, h0, fun v H1 ad1 x1 h1 r1 => ⟨ad1, F, h1, fun w H2 ad2 x2 h2 r2 => by
    obtain ⟨a, ea, rfl⟩ := r2
    obtain ⟨C', fn', dx, vs, ht, e1, lv, rv⟩ := h2.hc.ce j a _ ea hk
    rw [hT] at ht
    cases ht
    have rd : Rep T X.K (Mm ad2 F) H2 v d := SlRep.ext (s := .dat d) x2 r1
    have lz : ((fs.map (·.1)).zip vs).length < 1000 := by rw [List.length_zip, List.length_map]; omega
    refine ⟨a, C, dx, _, rfl, e1, hc, hn, lz, ?_⟩
    rw [putF_new hf (by rw [lv, List.length_map])]
    have kp : Kp (Mm ad2 F) H2 (Mm ad2 F) (upd H2 a (.ins C dx ((fs.map (·.1) ++ [f]).zip (vs ++ [v])))) := fun b o e n => ⟨by rw [upd_ne (fun z => n (.inl (by rw [z]; exact List.mem_of_getElem? ea)))]; exact e, n⟩
    obtain ⟨c3, x3⟩ := h2.hc.setc (o := .ins C dx ((fs.map (·.1) ++ [f]).zip (vs ++ [v]))) (c := .ins cn (fs ++ [(f, d)])) ea
      ⟨C, fn, dx, vs ++ [v], hT, by rw [upd_same, List.map_append]; rfl, by simp [lv], by rw [List.map_append]; exact (rv.append (.cons rd .nil)).kp kp⟩
    have x : Ext ad F H ad2 _ := x1.trans h1.hc (x2.trans h2.hc x3)
    exact q _ _ _ ad2 (x.s hn') (x.le hn') (h2.to x3 c3) h⟩⟩
end
end Dl

namespace Dl
open PySem L2

/-! ### keywords -/
def DK (X : Cx) (T : Tab) (S : Sta) (kws : List Keyword) (ss : List Sl) (S' : Sta) : Prop := PK X kws (tDA T X.K S ss S')
theorem weakK {X : Cx} {e : List Keyword} {t t' : TA} (h : PK X e t) (q : ∀ σ H Q, t' σ H Q → t σ H Q) : PK X e t' := ⟨fun pos pins s σ H Q I z => h.run pos pins s σ H Q I (q σ H Q z)⟩
section
variable {X : Cx} {T : Tab} {S S1 S2 S3 : Sta} {e o : Expr} {es : List Expr} {kws : List Keyword} {nm : Option Str} {pos kpos p apos : Pos} {s : Sl} {ss : List Sl} {ds args kargs full : List D} {d : D} {x m : Str} {C g : Addr} {fn : List Str} {c : Ct} {k cn pn : Nat} {fd : FuncData} {ps ks : List Str}
  {gg : List Value → List Value → List Value} {gV : List V → List V → List V}
theorem dk_nil : DK X T S [] [] S := weakK pk_nil fun σ H Q ⟨ad, F, h, q⟩ => q [] H ad .refl h trivial
theorem dk_cons (ha : DE X T S e s S1) (hr : DK X T S1 kws ss S2) : DK X T S (⟨nm, e, kpos⟩ :: kws) (s :: ss) S2 :=
  weakK (pk_cons ha hr) fun σ H Q ⟨ad, F, h, q⟩ => ⟨ad, F, h, fun v H1 ad1 x1 h1 r1 => ⟨ad1, F, h1, fun vs H2 ad2 x2 h2 r2 => q _ H2 ad2 (x1.trans h1.hc x2) h2 ⟨r1.ext x2, r2⟩⟩⟩
/-- the values in the parameters' order, self ahead -/
def Put (gV : List V → List V → List V) (args kargs full : List D) : Prop := ∀ (x : V) (ws zs : List V), ws.length = args.length → zs.length = kargs.length → ∃ us, gV (x :: ws) zs = x :: us ∧ ∀ T K M H, Reps T K M H ws args → Reps T K M H zs kargs → Reps T K M H us full
theorem de_makeK (hT : T cn = some (C, fn)) (M : Mk X.K C g) (G : FnOk X.prog X.w X.K X.mg X.base CX0 k g fd ps (spC T X.K c)) (hr : Room (k + 1) X.A) (hm : X.mg x = some (.ref C)) (hb : KBn X.K fd ps (pn + 1) ks gg gV) (hp : Put gV args kargs full)
    (ha : DA X T S (e :: es) (args.map Sl.dat) S1) (hkw : DK X T S1 kws (kargs.map Sl.dat) S2) (hq : c (.cel 0 :: full.map Sl.dat) [.ins cn []] (.dat .non) [.ins cn (fn.zip ds)]) (hl : ds.length = fn.length) (l1 : args.length = pn) (l2 : kargs.length = ks.length) (hg : Gl X x := by rfl)
    (hall : (backToKw pos (keywordEach kws X.env)).all (·.1.isSome) = true := by rfl) (hks : (backToKw pos (keywordEach kws X.env)).filterMap (·.1) = ks := by rfl) (hdb : (x == ("__debug__" : Str)) = false := by decide)
    (he : starEach (e :: es) X.env = (false, eval e X.env) :: starEach es X.env := by rfl) (hpl : ((backTo pos (starEach (e :: es) X.env)).any (·.1) || (backToKw pos (keywordEach kws X.env)).any (·.1.isNone)) = false := by rfl) :
    DE X T S (.Call (.Name x p) (e :: es) kws pos) (.dat (.obj cn ds)) S2 :=
  weak (pe_makeK M G hr hg hm hb pass0 ha hkw hall hks hdb he hpl) fun σ H Q ⟨ad, F, h, q⟩ => ⟨ad, F, h, fun ws H1 ad1 x1 h1 r1 => ⟨ad1, F, h1, fun zs H2 ad2 x2 h2 r2 => by
    have w1 := r1.dats
    have w2 := r2.dats
    refine ⟨by rw [w1.length]; exact l1, by rw [w2.length]; exact l2, fun x dx hx hdx ne => ?_⟩
    obtain ⟨us, e1, e2⟩ := hp (.ref x) ws zs w1.length w2.length
    rw [e1]
    exact mk_then hT h2.hc (e2 _ _ _ _ (w1.kp x2.kp) w2) hx hdx ne hq hl fun H' x3 c3 r3 => q (.ref x) H' ad2 (x1.trans h1.hc (x2.trans h2.hc x3)) (h2.to x3 c3) r3⟩⟩
theorem de_makeK0 (hT : T cn = some (C, fn)) (M : Mk X.K C g) (G : FnOk X.prog X.w X.K X.mg X.base CX0 k g fd ps (spC T X.K c)) (hr : Room (k + 1) X.A) (hm : X.mg x = some (.ref C)) (hb : KBn X.K fd ps 1 ks gg gV) (hp : Put gV [] kargs full)
    (hkw : DK X T S kws (kargs.map Sl.dat) S2) (hq : c (.cel 0 :: full.map Sl.dat) [.ins cn []] (.dat .non) [.ins cn (fn.zip ds)]) (hl : ds.length = fn.length) (l2 : kargs.length = ks.length) (hg : Gl X x := by rfl)
    (hall : (backToKw pos (keywordEach kws X.env)).all (·.1.isSome) = true := by rfl) (hks : (backToKw pos (keywordEach kws X.env)).filterMap (·.1) = ks := by rfl) (hdb : (x == ("__debug__" : Str)) = false := by decide)
    (hpl : ((backTo pos (starEach [] X.env)).any (·.1) || (backToKw pos (keywordEach kws X.env)).any (·.1.isNone)) = false := by rfl) :
    DE X T S (.Call (.Name x p) [] kws pos) (.dat (.obj cn ds)) S2 :=
  weak (pe_makeK0 M G hr hg hm hb pass0 hkw hall hks hdb hpl) fun σ H Q ⟨ad, F, h, q⟩ => ⟨ad, F, h, fun zs H2 ad2 x2 h2 r2 => by
    have w2 := r2.dats
    refine ⟨rfl, by rw [w2.length]; exact l2, fun x dx hx hdx ne => ?_⟩
    obtain ⟨us, e1, e2⟩ := hp (.ref x) [] zs rfl w2.length
    rw [e1]
    exact mk_then hT h2.hc (e2 _ _ _ _ .nil w2) hx hdx ne hq hl fun H' x3 c3 r3 => q (.ref x) H' ad2 (x2.trans h2.hc x3) (h2.to x3 c3) r3⟩
/-! o.m(.., k = v, ..) -/
def tMethKw (C : Addr) (m : Str) (n : Nat) (j : Nat) (sp : Sp) (gV : List V → List V → List V) (E : XK) (ta : TE) (t tk : TA) : TE := fun σ H Q => ta σ H fun x H1 => ∃ a dx fs, x = .ref a ∧ H1 a = some (.ins C dx fs) ∧ fs.lookup m = none ∧
  t σ H1 fun vs H2 => tk σ H2 fun zs H3 => vs.length = n ∧ zs.length = j ∧ sp (gV (x :: vs) zs) H3 Q E
theorem run_methKw {sp : Sp} {pins : List (Addr × Obj)} {σ : St} {H : Hp} {sh : Shared} {Q : VK} {us ws : List Value} {vs zs : List V} (F : FnOk X.prog X.w X.K X.mg X.base CX0 k g fd ps sp) (hr : Room k X.A) (hb : KBn X.K fd ps pn ks gg gV)
    (I : Inv X pins σ H sh) (r : Vals vs us) (rz : Vals zs ws) (l1 : vs.length = pn) (l2 : zs.length = ks.length) (h : sp (gV vs zs) H Q E0) : wpAny (model X.prog X.w) X.A (call (.ref g) us (ks.zip ws)) (EP X pins σ Q) X.xe sh := by
  have r2 := hb.rel r rz
  refine wpAny_call (codeAny_mono (F.run X.A X.stack sh H ⟨us, ks.zip ws⟩ (gg us ws) (gV vs zs) Q E0 hr I.env0 (hb.to sh us ws I.kIn (r.length.symm.trans l1) (rz.length.symm.trans l2)) r2 h) fun r s' hq => ?_)
  cases r with
  | error e => exact False.elim hq
  | ok fl =>
    cases fl with
    | ret u => exact I.after hq
    | next => exact False.elim hq
    | brk => exact False.elim hq
    | cont => exact False.elim hq
theorem pe_methKw0 {sp : Sp} {pl : Sem Bool} {ta : TE} {tk : TA} (he : PE X o ta) (hc : Cls X.K C) (hm : Meth X.K C m g) (F : FnOk X.prog X.w X.K X.mg X.base CX0 k g fd ps sp) (hr : Room k X.A) (hb : KBn X.K fd ps 1 ks gg gV) (hkw : PK X kws tk)
    (hall : (backToKw pos (keywordEach kws X.env)).all (·.1.isSome) = true) (hks : (backToKw pos (keywordEach kws X.env)).filterMap (·.1) = ks)
    (hpl : ((backTo pos (starEach [] X.env)).any (·.1) || (backToKw pos (keywordEach kws X.env)).any (·.1.isNone)) = false)
    (ht : eval (.Call (.Attribute o m apos) [] kws pos) X.env = (do
      let ov ← eval o X.env
      standAt apos.atName
      let (f, first) ← holding [ov] (getMethod ov m pl)
      callWith pos f first (backTo pos (starEach [] X.env)) (backToKw pos (keywordEach kws X.env)))) : PE X (.Call (.Attribute o m apos) [] kws pos) (tMethKw C m 0 ks.length sp gV E0 ta tNil tk) := by
  refine ⟨fun pins s σ H Q I h => ?_⟩
  refine PySem.W.methodCall_KW (pl := pl) (thn (he.run pins s σ H _ I h) fun u s1 ⟨x, H1, I1, rx, a, dx, fs, ex, ea, l, q⟩ => ?_) ht
  subst ex
  obtain rfl : u = Value.ref a := rx
  refine getmeth_ok I1 ea hc hm l ?_
  refine PySem.W.callWith_KW0 (first := [.ref a]) (h₀ := X.base) I.ok.mod.kin hm.kp hall ?_ hpl
  refine thn (hkw.run pos pins s1 σ H1 _ I1 q) fun ws s2 ⟨zs, H2, I2, rz, l1, l2, q2⟩ => ⟨I2.kIn, ?_⟩
  rw [hks]
  exact run_methKw (us := [.ref a]) (vs := [.ref a]) F hr hb I2 (.cons rfl .nil) rz rfl l2 q2
theorem de_methK0 {pl : Sem Bool} (hT : T cn = some (C, fn)) (hc : Cls X.K C) (hm : Meth X.K C m g) (hf : fIdx fn m = none) (G : FnOk X.prog X.w X.K X.mg X.base CX0 k g fd ps (spC T X.K c)) (hr : Room k X.A) (hb : KBn X.K fd ps 1 ks gg gV) (hp : Put gV [] kargs full)
    (he : DE X T S o (.dat (.obj cn ds)) S1) (hkw : DK X T S1 kws (kargs.map Sl.dat) S2) (hq : c ((D.obj cn ds :: full).map Sl.dat) [] (.dat d) []) (l2 : kargs.length = ks.length)
    (hall : (backToKw pos (keywordEach kws X.env)).all (·.1.isSome) = true := by rfl) (hks : (backToKw pos (keywordEach kws X.env)).filterMap (·.1) = ks := by rfl)
    (hpl : ((backTo pos (starEach [] X.env)).any (·.1) || (backToKw pos (keywordEach kws X.env)).any (·.1.isNone)) = false := by rfl)
    (ht : eval (.Call (.Attribute o m apos) [] kws pos) X.env = (do
      let ov ← eval o X.env
      standAt apos.atName
      let (f, first) ← holding [ov] (getMethod ov m pl)
      callWith pos f first (backTo pos (starEach [] X.env)) (backToKw pos (keywordEach kws X.env))) := by rfl) : DE X T S (.Call (.Attribute o m apos) [] kws pos) (.dat d) S2 :=
  weak (pe_methKw0 (pl := pl) he hc hm G hr hb hkw hall hks hpl ht) fun σ H Q ⟨ad, F, h, q⟩ => ⟨ad, F, h, fun v H1 ad1 x1 h1 r1 => by
    have r0 := r1
    cases r1 with
    | @obj a C' dx _ fn' vs' _ ht na e1 hl r =>
      rw [hT] at ht
      cases ht
      refine ⟨a, dx, _, rfl, e1, fIdx_none hf, ad1, F, h1, fun zs H2 ad2 x2 h2 r2 => ?_⟩
      have w2 := r2.dats
      obtain ⟨us, g1, g2⟩ := hp (.ref a) [] zs rfl w2.length
      refine ⟨rfl, by rw [w2.length]; exact l2, ?_⟩
      rw [g1]
      exact spC0 (ds := .obj cn ds :: full) hq h2.hc ⟨SlRep.ext (s := .dat (.obj cn ds)) x2 r0, SlReps.of (g2 _ _ _ _ .nil w2)⟩ fun v H' x3 c3 r3 => q v H' ad2 (x1.trans h1.hc (x2.trans h2.hc x3)) (h2.to x3 c3) r3⟩
end

/-! ### isinstance -/
/-- the built-in class of data that is no object -/
def tyD : D → Option String
  | .non => some "NoneType"
  | .bl _ => some "bool"
  | .int _ => some "int"
  | .str _ => some "str"
  | .tup _ => some "tuple"
  | .lst _ => some "list"
  | .scr _ => some "list"
  | .obj _ _ => none
/-- what isinstance asks of the class at C -/
structure IsiC (K : PySem.W.Frag) (C : Addr) : Prop where
  cl : Cls K C
  ca : PySem.W.findIn K (.ref C) "__class__" = some (some (.builtin "object.__class__"))
  cn : PySem.W.specialIn K (.builtin "object.__class__") "__get__" = some (some (.builtin "getset_descriptor.__get__"))
  ct : PySem.W.takesIn K (.builtin "object.__class__") = some true
  cm : PySem.W.mroIn K C (.type "object") = some true
theorem tyx_of {T : Tab} {K : PySem.W.Frag} {M : Addr → Prop} {H : Hp} {v : V} {d : D} {t : String} (r : Rep T K M H v d) (h : tyD d = some t) : TyX K H v (.type t) := by
  cases r with
  | non => cases h; exact .base .non
  | bl => cases h; exact .base (.bl _)
  | int => cases h; exact .base (.int _)
  | str => cases h; exact .base (.str _)
  | tup h1 _ =>
    cases h
    rcases h1 with ⟨_, h1 | ⟨o, h1⟩⟩ | h1
    · exact .base (.tup h1)
    · exact .fTuple h1
    · rcases h1 with (z | ⟨_, z⟩) | ⟨o, its, n, e, c, _⟩
      · cases z
      · cases z
      · exact .kTuple e c
  | lst _ h1 _ => cases h; exact .base (.lst h1)
  | scr h1 _ =>
    cases h
    rcases h1 with ⟨_, o, h1⟩ | h1
    · exact .base (.frz h1)
    · rcases h1 with (z | ⟨_, z⟩) | ⟨o, its, n, e, c, _⟩
      · cases z
      · cases z
      · exact .kList e c
  | obj => cases h
section
variable {X : Cx} {T : Tab} {S S1 : Sta} {e : Expr} {pos p p2 : Pos} {d : D} {t u : String} {b : Bool} {x : Str} {C C2 : Addr} {cn : Nat} {fn : List Str} {ds : List D}
theorem de_isi (hi : X.mg "isinstance" = none) (hm : X.mg x = none) (hv : bootBuiltins x = some (.type u)) (he : DE X T S e (.dat d) S1) (ht : tyD d = some t) (hk : kitB t u = some b) (hg : Gl X "isinstance" := by rfl) (hg2 : Gl X x := by rfl) (hn : x ≠ "__name__" := by decide) (hdb : (x == ("__debug__" : Str)) = false := by decide)
    (hs1 : starEach [e, .Name x p2] X.env = (false, eval e X.env) :: starEach [.Name x p2] X.env := by rfl) (hs2 : starEach [.Name x p2] X.env = (false, eval (.Name x p2) X.env) :: starEach [] X.env := by rfl) (hpl : (backTo pos (starEach [.Name x p2] X.env)).any (·.1) = false := by rfl) :
    DE X T S (.Call (.Name "isinstance" p) [e, .Name x p2] [] pos) (.dat (.bl b)) S1 :=
  weak (pe_callB call_isi hg hi (by decide +kernel) (pa_cons he (pa_cons (pe_bltn (v := .ty u) hg2 hm hv rfl hn hdb) pa_nil hs2) hs1) (by decide) (by decide) hs1 hpl) fun σ H Q ⟨ad, F, h, q⟩ => ⟨ad, F, h, fun v H1 ad1 x1 h1 r1 =>
    ⟨v, .ty u, .type t, .type u, b, rfl, .ty u, tyx_of r1 ht, kit_ty hk, q _ H1 ad1 x1 h1 Rep.bl⟩⟩
/-- of an object, an own class -/
theorem de_isiO (hi : X.mg "isinstance" = none) (hT : T cn = some (C, fn)) (hI : IsiC X.K C) (hm : X.mg x = some (.ref C2)) (he : DE X T S e (.dat (.obj cn ds)) S1) (hk : PySem.W.kitOne X.K (.ref C) (.ref C2) = some b) (hg : Gl X "isinstance" := by rfl) (hg2 : Gl X x := by rfl) (hdb : (x == ("__debug__" : Str)) = false := by decide)
    (hs1 : starEach [e, .Name x p2] X.env = (false, eval e X.env) :: starEach [.Name x p2] X.env := by rfl) (hs2 : starEach [.Name x p2] X.env = (false, eval (.Name x p2) X.env) :: starEach [] X.env := by rfl) (hpl : (backTo pos (starEach [.Name x p2] X.env)).any (·.1) = false := by rfl) :
    DE X T S (.Call (.Name "isinstance" p) [e, .Name x p2] [] pos) (.dat (.bl b)) S1 :=
  weak (pe_callB call_isi hg hi (by decide +kernel) (pa_cons he (pa_cons (pe_glob (v := .ref C2) hg2 hm rfl hdb) pa_nil hs2) hs1) (by decide) (by decide) hs1 hpl) fun σ H Q ⟨ad, F, h, q⟩ => ⟨ad, F, h, fun v H1 ad1 x1 h1 r1 => by
    cases r1 with
    | @obj a C' dx _ fn' vs' _ ht na e1 hl r =>
      rw [hT] at ht
      cases ht
      exact ⟨_, .ref C2, .ref C, .ref C2, b, rfl, .own C2, .base (.ins e1 hI.cl hI.ca hI.cn hI.ct hI.cm), hk, q _ H1 ad1 x1 h1 Rep.bl⟩⟩
/-- of an object, a built-in class -/
theorem de_isiOB (hi : X.mg "isinstance" = none) (hT : T cn = some (C, fn)) (hI : IsiC X.K C) (hm : X.mg x = none) (hv : bootBuiltins x = some (.type u)) (he : DE X T S e (.dat (.obj cn ds)) S1) (hk : PySem.W.kitOne X.K (.ref C) (.type u) = some b) (hg : Gl X "isinstance" := by rfl) (hg2 : Gl X x := by rfl) (hn : x ≠ "__name__" := by decide) (hdb : (x == ("__debug__" : Str)) = false := by decide)
    (hs1 : starEach [e, .Name x p2] X.env = (false, eval e X.env) :: starEach [.Name x p2] X.env := by rfl) (hs2 : starEach [.Name x p2] X.env = (false, eval (.Name x p2) X.env) :: starEach [] X.env := by rfl) (hpl : (backTo pos (starEach [.Name x p2] X.env)).any (·.1) = false := by rfl) :
    DE X T S (.Call (.Name "isinstance" p) [e, .Name x p2] [] pos) (.dat (.bl b)) S1 :=
  weak (pe_callB call_isi hg hi (by decide +kernel) (pa_cons he (pa_cons (pe_bltn (v := .ty u) hg2 hm hv rfl hn hdb) pa_nil hs2) hs1) (by decide) (by decide) hs1 hpl) fun σ H Q ⟨ad, F, h, q⟩ => ⟨ad, F, h, fun v H1 ad1 x1 h1 r1 => by
    cases r1 with
    | @obj a C' dx _ fn' vs' _ ht na e1 hl r =>
      rw [hT] at ht
      cases ht
      exact ⟨_, .ty u, .ref C, .type u, b, rfl, .ty u, .base (.ins e1 hI.cl hI.ca hI.cn hI.ct hI.cm), hk, q _ H1 ad1 x1 h1 Rep.bl⟩⟩
/-- of other data, an own class -/
theorem de_isiD (hi : X.mg "isinstance" = none) (hm : X.mg x = some (.ref C2)) (he : DE X T S e (.dat d) S1) (ht : tyD d = some t) (hk : PySem.W.kitOne X.K (.type t) (.ref C2) = some b) (hg : Gl X "isinstance" := by rfl) (hg2 : Gl X x := by rfl) (hdb : (x == ("__debug__" : Str)) = false := by decide)
    (hs1 : starEach [e, .Name x p2] X.env = (false, eval e X.env) :: starEach [.Name x p2] X.env := by rfl) (hs2 : starEach [.Name x p2] X.env = (false, eval (.Name x p2) X.env) :: starEach [] X.env := by rfl) (hpl : (backTo pos (starEach [.Name x p2] X.env)).any (·.1) = false := by rfl) :
    DE X T S (.Call (.Name "isinstance" p) [e, .Name x p2] [] pos) (.dat (.bl b)) S1 :=
  weak (pe_callB call_isi hg hi (by decide +kernel) (pa_cons he (pa_cons (pe_glob (v := .ref C2) hg2 hm rfl hdb) pa_nil hs2) hs1) (by decide) (by decide) hs1 hpl) fun σ H Q ⟨ad, F, h, q⟩ => ⟨ad, F, h, fun v H1 ad1 x1 h1 r1 =>
    ⟨v, .ref C2, .type t, .ref C2, b, rfl, .own C2, tyx_of r1 ht, hk, q _ H1 ad1 x1 h1 Rep.bl⟩⟩
end

/-! ### operators of an own class -/
/-- the callee runs by values -/
theorem run_vals {X : Cx} {g : Addr} {fd : FuncData} {ps : List Str} {k : Nat} {sp : Sp} {pins : List (Addr × Obj)} {σ : St} {H : Hp} {s : Shared} {Q : VK} {us : List Value} {vs : List V} (F : FnOk X.prog X.w X.K X.mg X.base CX0 k g fd ps sp) (hr : Room k X.A) (hb : Binds X.K fd ps [])
    (I : Inv X pins σ H s) (r : Vals vs us) (h : sp vs H Q E0) : wpAny (model X.prog X.w) X.A (call (.ref g) us) (EP X pins σ Q) X.xe s :=
  run_fn F hr hb .nil pass0 I r (by rw [List.append_nil]; exact h)
theorem cmpb {X : Cx} {pins : List (Addr × Obj)} {σ : St} {Q : VK} {v : Value} {s : Shared} (h : EP X pins σ Q v s) : PySem.W.CmpBack (EP X pins σ Q) v s := by
  obtain ⟨z, H', I, r, q⟩ := id h
  cases z with
  | non => cases (show v = Value.none from r); exact h
  | bl b => cases (show v = Value.bool b from r); exact h
  | int i => obtain ⟨t, e⟩ := (show ∃ t, v = Value.int i t from r); cases e; exact h
  | str x => obtain ⟨t, e⟩ := (show ∃ t, v = Value.str x t from r); cases e; exact h
  | byt b => obtain ⟨t, e⟩ := (show ∃ t, v = Value.bytes b t from r); cases e; exact h
  | flt b => obtain ⟨t, e⟩ := (show ∃ t, v = Value.float b t from r); cases e; exact h
  | ref a => cases (show v = Value.ref a from r); exact h
  | ty n => cases (show v = Value.type n from r); exact h
section
variable {X : Cx} {T : Tab} {C g : Addr} {fd : FuncData} {ps : List Str} {k cn : Nat} {c : Ct} {fn : List Str} {op : Operator} {ds es : List D} {d : D} {cs : List Cell} {i : Int} {uop : UnaryOp}
/-- x op y, two instances of C -/
theorem op_own2 {sp : Sp} (G : FnOk X.prog X.w X.K X.mg X.base CX0 k g fd ps sp) (hr : Room k X.A) (hb : Binds X.K fd ps []) (hc : PySem.W.selfFirst X.K C = true) (hs : PySem.W.findIn X.K (.ref C) (PySem.dunder op.info.2) = some (some (.ref g))) (hf : PySem.W.isFn X.K (.ref g) = true) :
    OpR X (binaryOp op) (fun x y H Q => ∃ a b dx dy fs gs, x = .ref a ∧ y = .ref b ∧ H a = some (.ins C dx fs) ∧ H b = some (.ins C dy gs) ∧ sp [x, y] H Q E0) := by
  intro pins s σ H x y v u Q I rx ry h
  obtain ⟨a, b, dx, dy, fs, gs, rfl, rfl, ea, eb, hsp⟩ := h
  cases rx; cases ry
  obtain ⟨mA, J, _⟩ := ins_get I.hok ea
  obtain ⟨mB, J', _⟩ := ins_get I.hok eb
  obtain ⟨od, J, _⟩ := J.look
  obtain ⟨od', J', _⟩ := J'.look
  obtain ⟨m, hF⟩ := I.fr
  refine PySem.W.binop_K hF I.ok.mod.kin J J'.type hc hs hf (thn (run_vals (us := [.ref a, .ref b]) (vs := [.ref a, .ref b]) G hr hb I (.cons rfl (.cons rfl .nil)) hsp) fun _ _ z => cmpb z)
/-- x op i, an instance and an int -/
theorem op_ownI {sp : Sp} {fo ro rc : Option Value} (G : FnOk X.prog X.w X.K X.mg X.base CX0 k g fd ps sp) (hr : Room k X.A) (hb : Binds X.K fd ps []) (hc : PySem.W.selfFirst X.K C = true) (hs : PySem.W.findIn X.K (.ref C) (PySem.dunder op.info.2) = some (some (.ref g))) (hf : PySem.W.isFn X.K (.ref g) = true)
    (hrf : PySem.W.findIn X.K (.ref C) (dunderR op.info.2) = some rc) (hp : rc = none ∨ ∃ g : Addr, rc = some (.ref g)) (h1 : PySem.W.findIn X.K (.type "int") (PySem.dunder op.info.2) = some fo) (h2 : PySem.W.findIn X.K (.type "int") (dunderR op.info.2) = some ro) (hsub : PySem.W.subIn X.K (.type "int") (.ref C) = some false) :
    OpR X (binaryOp op) (fun x y H Q => ∃ a dx fs i, x = .ref a ∧ y = .int i ∧ H a = some (.ins C dx fs) ∧ sp [x, y] H Q E0) := by
  intro pins s σ H x y v u Q I rx ry h
  obtain ⟨a, dx, fs, i, rfl, rfl, ea, hsp⟩ := h
  cases rx
  obtain ⟨t, rfl⟩ := ry
  obtain ⟨mA, J, _⟩ := ins_get I.hok ea
  obtain ⟨od, J, _⟩ := J.look
  obtain ⟨m, hF⟩ := I.fr
  exact PySem.W.ksp_binT (T := "int") hF I.ok.mod.kin J rfl hc hs hf hrf hp h1 h2 hsub (thn (run_vals (us := [.ref a, .int i t]) (vs := [.ref a, .int i]) G hr hb I (.cons rfl (.cons ⟨t, rfl⟩ .nil)) hsp) fun _ _ z => cmpb z)
theorem un_own {sp : Sp} (G : FnOk X.prog X.w X.K X.mg X.base CX0 k g fd ps sp) (hr : Room k X.A) (hb : Binds X.K fd ps []) (hs : PySem.W.findIn X.K (.ref C) "__neg__" = some (some (.ref g))) (hf : PySem.W.isFn X.K (.ref g) = true) :
    UnR X (unaryOp .USub) (fun x H Q => ∃ a dx fs, x = .ref a ∧ H a = some (.ins C dx fs) ∧ sp [x] H Q E0) := by
  intro pins s σ H x v Q I rx h
  obtain ⟨a, dx, fs, rfl, ea, hsp⟩ := h
  cases rx
  obtain ⟨mA, J, _⟩ := ins_get I.hok ea
  obtain ⟨od, J, _⟩ := J.look
  obtain ⟨m, hF⟩ := I.fr
  exact PySem.W.ksp_neg hF I.ok.mod.kin J hs hf (run_vals (us := [.ref a]) (vs := [.ref a]) G hr hb I (.cons rfl .nil) hsp)
theorem un_ownInv {sp : Sp} (G : FnOk X.prog X.w X.K X.mg X.base CX0 k g fd ps sp) (hr : Room k X.A) (hb : Binds X.K fd ps []) (hs : PySem.W.findIn X.K (.ref C) "__invert__" = some (some (.ref g))) (hf : PySem.W.isFn X.K (.ref g) = true) :
    UnR X (unaryOp .Invert) (fun x H Q => ∃ a dx fs, x = .ref a ∧ H a = some (.ins C dx fs) ∧ sp [x] H Q E0) := by
  intro pins s σ H x v Q I rx h
  obtain ⟨a, dx, fs, rfl, ea, hsp⟩ := h
  cases rx
  obtain ⟨mA, J, _⟩ := ins_get I.hok ea
  obtain ⟨od, J, _⟩ := J.look
  obtain ⟨m, hF⟩ := I.fr
  exact PySem.W.ksp_inv hF I.ok.mod.kin J hs hf (run_vals (us := [.ref a]) (vs := [.ref a]) G hr hb I (.cons rfl .nil) hsp)
/-- by data -/
theorem bin_own2 (hT : T cn = some (C, fn)) (G : FnOk X.prog X.w X.K X.mg X.base CX0 k g fd ps (spC T X.K c)) (hr : Room k X.A) (hb : Binds X.K fd ps []) (hc : PySem.W.selfFirst X.K C = true) (hs : PySem.W.findIn X.K (.ref C) (PySem.dunder op.info.2) = some (some (.ref g))) (hf : PySem.W.isFn X.K (.ref g) = true)
    (hq : c [.dat (.obj cn ds), .dat (.obj cn es)] [] (.dat d) []) : BinD X T op (.dat (.obj cn ds)) (.dat (.obj cn es)) cs (.dat d) cs := ⟨_, op_own2 G hr hb hc hs hf, fun ad F H v w Q cc r1 r2 q => by
  have s1 := r1
  have s2 := r2
  cases r1 with
  | @obj a C' dx _ fn' vs' _ ht na e1 hl r =>
    rw [hT] at ht
    cases ht
    cases r2 with
    | @obj b C' dy _ fn' ws' _ ht nb e2 hl2 r' =>
      rw [hT] at ht
      cases ht
      exact ⟨a, b, dx, dy, _, _, rfl, rfl, e1, e2, spC0 (ds := [.obj cn ds, .obj cn es]) hq cc ⟨s1, s2, trivial⟩ fun v H' x2 c2 r2 => q v H' ad x2 c2 r2⟩⟩
theorem bin_ownI {fo ro rc : Option Value} (hT : T cn = some (C, fn)) (G : FnOk X.prog X.w X.K X.mg X.base CX0 k g fd ps (spC T X.K c)) (hr : Room k X.A) (hb : Binds X.K fd ps []) (hc : PySem.W.selfFirst X.K C = true) (hs : PySem.W.findIn X.K (.ref C) (PySem.dunder op.info.2) = some (some (.ref g))) (hf : PySem.W.isFn X.K (.ref g) = true)
    (hrf : PySem.W.findIn X.K (.ref C) (dunderR op.info.2) = some rc) (hp : rc = none ∨ ∃ g : Addr, rc = some (.ref g)) (h1 : PySem.W.findIn X.K (.type "int") (PySem.dunder op.info.2) = some fo) (h2 : PySem.W.findIn X.K (.type "int") (dunderR op.info.2) = some ro) (hsub : PySem.W.subIn X.K (.type "int") (.ref C) = some false)
    (hq : c [.dat (.obj cn ds), .dat (.int i)] [] (.dat d) []) : BinD X T op (.dat (.obj cn ds)) (.dat (.int i)) cs (.dat d) cs := ⟨_, op_ownI G hr hb hc hs hf hrf hp h1 h2 hsub, fun ad F H v w Q cc r1 r2 q => by
  have s1 := r1
  cases r2
  cases r1 with
  | @obj a C' dx _ fn' vs' _ ht na e1 hl r =>
    rw [hT] at ht
    cases ht
    exact ⟨a, dx, _, i, rfl, rfl, e1, spC0 (ds := [.obj cn ds, .int i]) hq cc ⟨s1, Rep.int, trivial⟩ fun v H' x2 c2 r2 => q v H' ad x2 c2 r2⟩⟩
theorem un_ownN (hT : T cn = some (C, fn)) (G : FnOk X.prog X.w X.K X.mg X.base CX0 k g fd ps (spC T X.K c)) (hr : Room k X.A) (hb : Binds X.K fd ps []) (hs : PySem.W.findIn X.K (.ref C) "__neg__" = some (some (.ref g))) (hf : PySem.W.isFn X.K (.ref g) = true)
    (hq : c [.dat (.obj cn ds)] [] (.dat d) []) : UnD X T .USub (.dat (.obj cn ds)) cs (.dat d) cs := ⟨_, un_own G hr hb hs hf, fun ad F H v Q cc r1 q => by
  have s1 := r1
  cases r1 with
  | @obj a C' dx _ fn' vs' _ ht na e1 hl r =>
    rw [hT] at ht
    cases ht
    exact ⟨a, dx, _, rfl, e1, spC0 (ds := [.obj cn ds]) hq cc ⟨s1, trivial⟩ fun v H' x2 c2 r2 => q v H' ad x2 c2 r2⟩⟩
end
end Dl

namespace Dl
open PySem L2

/-! ### int op instance: the instance's reflected method -/
section
open PySem.W
variable {prog : Program} {w : World} {A : Around} {E : Value → Shared → Prop} {s : Shared} {K : Frag} {x C f g : Addr} {ox : Obj} {od : Option Obj}
theorem int_ni {name : String} {F : Int → Int → Sem Fin} {i : Int} {t : Tok} {Q : Fin → Shared → Prop} (ho : s.heap.get? x = some ox) (hd : ∀ v, ox.data ≠ .prim v) (h : Q (.done (.ret .notImplemented)) s) :
    wpAny (model prog w) A (Builtin.Int.intBinary name F false ⟨[.int i t, .ref x], []⟩) Q E s := by
  unfold Builtin.Int.intBinary
  refine wpAny_bind (wpAny_of_eq (a := (Value.int i t, [Value.ref x])) rfl ?_)
  refine wpAny_bind (wpAny_of_eq (a := i) rfl ?_)
  show wpAny _ _ (asInt? (.ref x) >>= _) _ _ _
  unfold asInt?
  refine wpAny_bind (wpAny_bind (wpAny_load ho ?_))
  have e : (match ox.data with | .prim (.int i _) => pure (some i) | _ => pure none : Sem (Option Int)) = pure none := by
    split
    · rename_i z; exact absurd z (hd _)
    · rfl
  first
    | rw [e]
    | (show wpAny _ _ (match ox.data with | .prim (.int i _) => pure (some i) | _ => pure none : Sem (Option Int)) _ _ _; rw [e])
  exact wpAny_pure (wpAny_bind (wpAny_rule (wpAny_pure h)))
theorem refl_bin {op : Operator} {i : Int} {t : Tok} {fo ro : Option Value} {id : String} {name : String} {F : Int → Int → Sem Fin} {Q : Value → Shared → Prop} (X : K.In s.heap) (I : InstAt s.heap x ox C od) (hd : ∀ v, ox.data ≠ .prim v) (hc : selfFirst K C = true)
    (hs : findIn K (.ref C) (PySem.dunder op.info.2) = some (some (.ref f))) (hr : findIn K (.ref C) (dunderR op.info.2) = some (some (.ref g))) (hg : isFn K (.ref g) = true)
    (h1 : findIn K (.type "int") (PySem.dunder op.info.2) = some fo) (h2 : findIn K (.type "int") (dunderR op.info.2) = some ro) (hf : ((fo.isSome && !isSeqSlot fo) || (ro.isSome && !isSeqSlot ro)) = true) (hsub : subIn K (.ref C) (.type "int") = some false)
    (slot : Slot "int" (PySem.dunder op.info.2) id) (entry : entryFor table id = some (Builtin.Int.intBinary name F false)) (args : argsOk id ⟨[.int i t, .ref x], []⟩)
    (h : wpAny (model prog w) A (call (.ref g) [.ref x, .int i t]) (CmpBack Q) E s) : wpAny (model prog w) A (binaryOp op (.int i t) (.ref x)) Q E s := by
  obtain ⟨cd, rest, hcd, hm⟩ := ksp_first hc
  rcases hi : op.info with ⟨sym, nm'⟩
  rw [hi] at hs hr h1 h2 slot
  dsimp only at hs hr h1 h2 slot
  have two := ksp_try (b := .int i t) (name := dunderR nm') X I hr hg h
  have one : wpAny (model prog w) A (tryMethod (.int i t) (PySem.dunder nm') (.ref x)) (fun r s' => r = none ∧ s' = s) E s := by
    unfold tryMethod
    refine wpAny_bind (wpAny_callSpecial?_slot (typeIs_int s i t) slot (wpAny_call_entry slot (typeIs_int s i t) entry (int_ni I.at_ hd ⟨_, rfl, wpAny_pure ⟨rfl, rfl⟩⟩) args))
  obtain ⟨hh, gg, d, tt, os⟩ := s
  have L1 : Looks (model prog w) hh (typeOf (.int i t)) (.type "int") := Looks.of_pure rfl
  have L2 : Looks (model prog w) hh (typeOf (.ref x)) (.ref C) := I.type
  have L3 : Looks (model prog w) hh (fillsNumberSlot (.ref C) nm') true := fills_K X hcd hm hs
  have L4 : Looks (model prog w) hh (fillsNumberSlot (.type "int") nm') true := by have z := ksp_fillsT (M := model prog w) X h1 h2; rw [hf] at z; exact z
  have L5 : Looks (model prog w) hh (isSubtype (.ref C) (.type "int")) false := looks_subIn X hsub
  have L7 : Looks (model prog w) hh (numberSlotInPython (.type "int") nm') false := Looks.of_pure rfl
  have hne : (Value.type "int" == Value.ref C) = false := Bool.eq_false_iff.mpr fun q => by cases beq_iff_eq.mp q
  simp only [binaryOp, hi]
  refine wpAny_holding (wpAny_bind ?_)
  unfold binaryOp1
  refine wpAny_bind (L1.at (wpAny_bind (L2.at (wpAny_bind (L4.at ?_)))))
  simp only [hne, Bool.false_eq_true, if_false]
  ksp_lk
  refine wpAny_mono one (fun r s' hr' => ?_) fun _ _ e => e
  obtain ⟨rfl, rfl⟩ := hr'
  ksp_lk
  refine wpAny_mono two (fun r s' hr' => ?_) fun _ _ e => e
  obtain ⟨v, rfl, hq⟩ := hr'
  ksp_lk
  exact hq
/-- the op itself, ahead of what += and + do with it -/
theorem bin1_own2 {nm : String} {b : Value} {Q : Value → Shared → Prop} (X : K.In s.heap) (I : InstAt s.heap x ox C od) (hb : Looks (model prog w) s.heap (typeOf b) (.ref C)) (hc : selfFirst K C = true)
    (hs : findIn K (.ref C) (PySem.dunder nm) = some (some (.ref f))) (hf : isFn K (.ref f) = true) (h : wpAny (model prog w) A (call (.ref f) [.ref x, b]) (CmpBack Q) E s) : wpAny (model prog w) A (binaryOp1 nm (.ref x) b) (fun r s' => ∃ v, r = some v ∧ Q v s') E s := by
  obtain ⟨cd, rest, hcd, hm⟩ := ksp_first hc
  have one := ksp_try X I hs hf h
  obtain ⟨hh, g, d, tt, os⟩ := s
  have L1 : Looks (model prog w) hh (typeOf (.ref x)) (.ref C) := I.type
  have L3 : Looks (model prog w) hh (fillsNumberSlot (.ref C) nm) true := fills_K X hcd hm hs
  unfold binaryOp1
  refine wpAny_bind (L1.at (wpAny_bind (hb.at (wpAny_bind (L3.at ?_)))))
  simp only [beq_self_eq_true, if_true]
  ksp_lk
  refine wpAny_mono one (fun r s' hr' => ?_) fun _ _ e => e
  obtain ⟨v, rfl, hq⟩ := hr'
  ksp_lk
  exact ⟨v, rfl, hq⟩
theorem bin1_ownT {nm T : String} {b : Value} {fo ro rc : Option Value} {Q : Value → Shared → Prop} (X : K.In s.heap) (I : InstAt s.heap x ox C od) (hb : typeOf b = pure (.type T)) (hc : selfFirst K C = true)
    (hs : findIn K (.ref C) (PySem.dunder nm) = some (some (.ref f))) (hf : isFn K (.ref f) = true) (hr : findIn K (.ref C) (dunderR nm) = some rc) (hp : rc = none ∨ ∃ g : Addr, rc = some (.ref g))
    (h1 : findIn K (.type T) (PySem.dunder nm) = some fo) (h2 : findIn K (.type T) (dunderR nm) = some ro) (hsub : subIn K (.type T) (.ref C) = some false)
    (h : wpAny (model prog w) A (call (.ref f) [.ref x, b]) (CmpBack Q) E s) : wpAny (model prog w) A (binaryOp1 nm (.ref x) b) (fun r s' => ∃ v, r = some v ∧ Q v s') E s := by
  obtain ⟨cd, rest, hcd, hm⟩ := ksp_first hc
  have one := ksp_try X I hs hf h
  obtain ⟨hh, g, d, tt, os⟩ := s
  have L1 : Looks (model prog w) hh (typeOf (.ref x)) (.ref C) := I.type
  have L2 : Looks (model prog w) hh (typeOf b) (.type T) := Looks.of_pure hb
  have L3 : Looks (model prog w) hh (fillsNumberSlot (.ref C) nm) true := fills_K X hcd hm hs
  have L4 : Looks (model prog w) hh (fillsNumberSlot (.type T) nm) ((fo.isSome && !isSeqSlot fo) || (ro.isSome && !isSeqSlot ro)) := ksp_fillsT X h1 h2
  have L5 : Looks (model prog w) hh (isSubtype (.type T) (.ref C)) false := looks_subIn X hsub
  have L6 : Looks (model prog w) hh (numberSlotInPython (.ref C) nm) true := ksp_inPy X hs hr hp
  have L7 : Looks (model prog w) hh (numberSlotInPython (.type T) nm) false := Looks.of_pure rfl
  have L8 : Looks (model prog w) hh (typeLookup (.type T) (dunderR nm)) ro := looks_findIn X h2
  generalize ((fo.isSome && !isSeqSlot fo) || (ro.isSome && !isSeqSlot ro)) = right at L4
  have hne : (Value.ref C == Value.type T) = false := Bool.eq_false_iff.mpr fun q => by cases beq_iff_eq.mp q
  unfold binaryOp1
  refine wpAny_bind (L1.at (wpAny_bind (L2.at (wpAny_bind (L3.at ?_)))))
  simp only [hne, Bool.false_eq_true, if_false]
  cases right with
  | false =>
    ksp_lk
    refine wpAny_mono one (fun r s' hr' => ?_) fun _ _ e => e
    obtain ⟨v, rfl, hq⟩ := hr'
    ksp_lk
    exact ⟨v, rfl, hq⟩
  | true =>
    ksp_lk
    refine wpAny_mono one (fun r s' hr' => ?_) fun _ _ e => e
    obtain ⟨v, rfl, hq⟩ := hr'
    ksp_lk
    exact ⟨v, rfl, hq⟩
/-- no own += : the op's -/
theorem no_inp {M : Model} {nm : String} {add : Bool} {cd : ClassData} (X : K.In s.heap) (hc : clsIn K C = some cd) (hm : cd.mro = [.ref C, .type "object"]) (hs : findIn K (.ref C) (dunderI nm) = some none) (ho : findIn K (.type "object") (dunderI nm) = some none) : Looks M s.heap (fillsInplaceSlot (.ref C) nm add) false := by
  have Lm : Looks M s.heap (mroOf (.ref C)) cd.mro := (looks_clsIn X hc).andThen (f := fun cd => pure cd.mro) .now
  intro A Q E s2 k q
  have Lm' := Lm.keeps k
  obtain ⟨hh, g, d, tt, os⟩ := s2
  have X' : K.In hh := X.keeps k
  have L1 : Looks M hh (typeLookup (.ref C) (dunderI nm)) none := looks_findIn X' hs
  have L2 : Looks M hh (typeLookup (.type "object") (dunderI nm)) none := looks_findIn X' ho
  unfold fillsInplaceSlot
  refine wpAny_bind (Lm'.at ?_)
  rw [hm, List.anyM_cons, List.anyM_cons, List.anyM_nil]
  refine wpAny_bind ?_
  repeat lk
  exact q
theorem inp_own {op : Operator} {b : Value} {cd : ClassData} {Q : Value → Shared → Prop} (X : K.In s.heap) (I : InstAt s.heap x ox C od) (hc : clsIn K C = some cd) (hm : cd.mro = [.ref C, .type "object"]) (hs : findIn K (.ref C) (dunderI op.info.2) = some none) (ho : findIn K (.type "object") (dunderI op.info.2) = some none)
    (h : wpAny (model prog w) A (binaryOp1 op.info.2 (.ref x) b) (fun r s' => ∃ v, r = some v ∧ Q v s') E s) : wpAny (model prog w) A (inplaceOp op (.ref x) b) Q E s := by
  have L2 : Looks (model prog w) s.heap (fillsInplaceSlot (.ref C) op.info.2 (op == .Add)) false := no_inp X hc hm hs ho
  unfold inplaceOp
  refine wpAny_holding ?_
  refine wpAny_bind (I.type.here ?_)
  refine wpAny_bind (L2.here ?_)
  simp only [Bool.false_eq_true, if_false]
  refine wpAny_bind (wpAny_mono h (fun r s' hr => ?_) fun _ _ e => e)
  obtain ⟨v, rfl, hq⟩ := hr
  exact wpAny_pure hq
end
/-! #### by values, by data -/
theorem inst_data {C dx : Addr} (v : Value) : (PySem.W.instObj C dx).data ≠ .prim v := fun z => nomatch z
theorem inst_get {X : Cx} {pins : List (Addr × Obj)} {σ : St} {H : Hp} {s : Shared} {a C dx : Addr} {fs : List (Str × V)} (I : Inv X pins σ H s) (ea : H a = some (.ins C dx fs)) : ∃ od, PySem.W.InstAt s.heap a (PySem.W.instObj C dx) C (some od) := by
  obtain ⟨mA, J, _⟩ := ins_get I.hok ea
  obtain ⟨od, J, _⟩ := J.look
  exact ⟨od, J⟩
/-- what an operator's method of C is -/
structure OpC (K : PySem.W.Frag) (C : Addr) (op : Operator) (g : Addr) : Prop where
  sf : PySem.W.selfFirst K C = true
  at_ : PySem.W.findIn K (.ref C) (PySem.dunder op.info.2) = some (some (.ref g))
  fn : PySem.W.isFn K (.ref g) = true
  rc : ∃ rc, PySem.W.findIn K (.ref C) (dunderR op.info.2) = some rc ∧ (rc = none ∨ ∃ g : Addr, rc = some (.ref g))
  i1 : ∃ fo, PySem.W.findIn K (.type "int") (PySem.dunder op.info.2) = some fo
  i2 : ∃ ro, PySem.W.findIn K (.type "int") (dunderR op.info.2) = some ro
  su : PySem.W.subIn K (.type "int") (.ref C) = some false
/-- .. its reflected one -/
structure OpR' (K : PySem.W.Frag) (C : Addr) (op : Operator) (g : Addr) : Prop where
  sf : PySem.W.selfFirst K C = true
  lf : ∃ f : Addr, PySem.W.findIn K (.ref C) (PySem.dunder op.info.2) = some (some (.ref f))
  at_ : PySem.W.findIn K (.ref C) (dunderR op.info.2) = some (some (.ref g))
  fn : PySem.W.isFn K (.ref g) = true
  ii : ∃ fo ro, PySem.W.findIn K (.type "int") (PySem.dunder op.info.2) = some fo ∧ PySem.W.findIn K (.type "int") (dunderR op.info.2) = some ro ∧ ((fo.isSome && !isSeqSlot fo) || (ro.isSome && !isSeqSlot ro)) = true
  su : PySem.W.subIn K (.ref C) (.type "int") = some false
/-- no own += -/
structure NoIn (K : PySem.W.Frag) (C : Addr) (op : Operator) : Prop where
  cl : ∃ cd, PySem.W.clsIn K C = some cd ∧ cd.mro = [.ref C, .type "object"]
  at_ : PySem.W.findIn K (.ref C) (dunderI op.info.2) = some none
  ob : PySem.W.findIn K (.type "object") (dunderI op.info.2) = some none
/-- how int's own method answers an instance -/
structure IntNi (op : Operator) : Prop where
  ex : ∃ id name F, Slot "int" (PySem.dunder op.info.2) id ∧ entryFor table id = some (Builtin.Int.intBinary name F false) ∧ ∀ a b : Value, argsOk id ⟨[a, b], []⟩
theorem ni_add : IntNi .Add := ⟨_, _, _, F.slot_int_add, F.entry_int_add, fun a b => F.args_int_add_2 a b⟩
theorem ni_sub : IntNi .Sub := ⟨_, _, _, F.slot_int_sub, F.entry_int_sub, fun a b => F.args_int_sub_2 a b⟩
theorem ni_mul : IntNi .Mult := ⟨_, _, _, F.slot_int_mul, F.entry_int_mul, fun a b => F.args_int_mul_2 a b⟩
def IopD (X : Cx) (T : Tab) (op : Operator) (s1 s2 : Sl) (cs : List Cell) (s : Sl) (cs' : List Cell) : Prop := ∃ r, OpR X (inplaceOp op) r ∧ R2D T X.K r s1 s2 cs s cs'
section
variable {X : Cx} {T : Tab} {C g : Addr} {fd : FuncData} {ps : List Str} {k cn : Nat} {c : Ct} {fn : List Str} {op : Operator} {ds es : List D} {d : D} {cs : List Cell} {i j : Int}
theorem bin_ownR (hT : T cn = some (C, fn)) (hn : IntNi op) (O : OpR' X.K C op g) (G : FnOk X.prog X.w X.K X.mg X.base CX0 k g fd ps (spC T X.K c)) (hr : Room k X.A) (hb : Binds X.K fd ps [])
    (hq : c [.dat (.obj cn ds), .dat (.int i)] [] (.dat d) []) : BinD X T op (.dat (.int i)) (.dat (.obj cn ds)) cs (.dat d) cs := by
  obtain ⟨id, name, F, slot, entry, args⟩ := hn.ex
  obtain ⟨f, hf⟩ := O.lf
  obtain ⟨fo, ro, e1, e2, e3⟩ := O.ii
  refine ⟨fun x y H Q => ∃ a dx fs i, y = .ref a ∧ x = .int i ∧ H a = some (.ins C dx fs) ∧ spC T X.K c [y, x] H Q E0, ?_, fun ad F H v w Q cc r1 r2 q => ?_⟩
  · intro pins s σ H x y v u Q I rx ry h
    obtain ⟨a, dx, fs, i, rfl, rfl, ea, hsp⟩ := h
    cases ry
    obtain ⟨t, rfl⟩ := rx
    obtain ⟨od, J⟩ := inst_get I ea
    exact refl_bin I.kIn J inst_data O.sf hf O.at_ O.fn e1 e2 e3 O.su slot entry (args _ _) (thn (run_vals (us := [.ref a, .int i t]) (vs := [.ref a, .int i]) G hr hb I (.cons rfl (.cons ⟨t, rfl⟩ .nil)) hsp) fun _ _ z => cmpb z)
  · have s2 := r2
    cases r1
    cases r2 with
    | @obj a C' dx _ fn' vs' _ ht na e1 hl r =>
      rw [hT] at ht
      cases ht
      exact ⟨a, dx, _, i, rfl, rfl, e1, spC0 (ds := [.obj cn ds, .int i]) hq cc ⟨s2, Rep.int, trivial⟩ fun v H' x2 c2 r2 => q v H' ad x2 c2 r2⟩
theorem bin_o2 (hT : T cn = some (C, fn)) (O : OpC X.K C op g) (G : FnOk X.prog X.w X.K X.mg X.base CX0 k g fd ps (spC T X.K c)) (hr : Room k X.A) (hb : Binds X.K fd ps []) (hq : c [.dat (.obj cn ds), .dat (.obj cn es)] [] (.dat d) []) :
    BinD X T op (.dat (.obj cn ds)) (.dat (.obj cn es)) cs (.dat d) cs := bin_own2 hT G hr hb O.sf O.at_ O.fn hq
theorem bin_oI (hT : T cn = some (C, fn)) (O : OpC X.K C op g) (G : FnOk X.prog X.w X.K X.mg X.base CX0 k g fd ps (spC T X.K c)) (hr : Room k X.A) (hb : Binds X.K fd ps []) (hq : c [.dat (.obj cn ds), .dat (.int i)] [] (.dat d) []) :
    BinD X T op (.dat (.obj cn ds)) (.dat (.int i)) cs (.dat d) cs := by
  obtain ⟨rc, h1, h2⟩ := O.rc
  obtain ⟨fo, h3⟩ := O.i1
  obtain ⟨ro, h4⟩ := O.i2
  exact bin_ownI hT G hr hb O.sf O.at_ O.fn h1 h2 h3 h4 O.su hq
theorem iop_o2 (hT : T cn = some (C, fn)) (N : NoIn X.K C op) (O : OpC X.K C op g) (G : FnOk X.prog X.w X.K X.mg X.base CX0 k g fd ps (spC T X.K c)) (hr : Room k X.A) (hb : Binds X.K fd ps []) (hq : c [.dat (.obj cn ds), .dat (.obj cn es)] [] (.dat d) []) :
    IopD X T op (.dat (.obj cn ds)) (.dat (.obj cn es)) cs (.dat d) cs := by
  obtain ⟨cd, hcd, hm⟩ := N.cl
  refine ⟨fun x y H Q => ∃ a b dx dy fs gs, x = .ref a ∧ y = .ref b ∧ H a = some (.ins C dx fs) ∧ H b = some (.ins C dy gs) ∧ spC T X.K c [x, y] H Q E0, ?_, fun ad F H v w Q cc r1 r2 q => ?_⟩
  · intro pins s σ H x y v u Q I rx ry h
    obtain ⟨a, b, dx, dy, fs, gs, rfl, rfl, ea, eb, hsp⟩ := h
    cases rx; cases ry
    obtain ⟨od, J⟩ := inst_get I ea
    obtain ⟨od', J'⟩ := inst_get I eb
    exact inp_own I.kIn J hcd hm N.at_ N.ob (bin1_own2 I.kIn J J'.type O.sf O.at_ O.fn (thn (run_vals (us := [.ref a, .ref b]) (vs := [.ref a, .ref b]) G hr hb I (.cons rfl (.cons rfl .nil)) hsp) fun _ _ z => cmpb z))
  · have s1 := r1
    have s2 := r2
    cases r1 with
    | @obj a C' dx _ fn' vs' _ ht na e1 hl r =>
      rw [hT] at ht
      cases ht
      cases r2 with
      | @obj b C' dy _ fn' ws' _ ht nb e2 hl2 r' =>
        rw [hT] at ht
        cases ht
        exact ⟨a, b, dx, dy, _, _, rfl, rfl, e1, e2, spC0 (ds := [.obj cn ds, .obj cn es]) hq cc ⟨s1, s2, trivial⟩ fun v H' x2 c2 r2 => q v H' ad x2 c2 r2⟩
theorem iop_oI (hT : T cn = some (C, fn)) (N : NoIn X.K C op) (O : OpC X.K C op g) (G : FnOk X.prog X.w X.K X.mg X.base CX0 k g fd ps (spC T X.K c)) (hr : Room k X.A) (hb : Binds X.K fd ps []) (hq : c [.dat (.obj cn ds), .dat (.int i)] [] (.dat d) []) :
    IopD X T op (.dat (.obj cn ds)) (.dat (.int i)) cs (.dat d) cs := by
  obtain ⟨cd, hcd, hm⟩ := N.cl
  obtain ⟨rc, h1, h2⟩ := O.rc
  obtain ⟨fo, h3⟩ := O.i1
  obtain ⟨ro, h4⟩ := O.i2
  refine ⟨fun x y H Q => ∃ a dx fs i, x = .ref a ∧ y = .int i ∧ H a = some (.ins C dx fs) ∧ spC T X.K c [x, y] H Q E0, ?_, fun ad F H v w Q cc r1 r2 q => ?_⟩
  · intro pins s σ H x y v u Q I rx ry h
    obtain ⟨a, dx, fs, i, rfl, rfl, ea, hsp⟩ := h
    cases rx
    obtain ⟨t, rfl⟩ := ry
    obtain ⟨od, J⟩ := inst_get I ea
    exact inp_own I.kIn J hcd hm N.at_ N.ob (bin1_ownT (T := "int") I.kIn J rfl O.sf O.at_ O.fn h1 h2 h3 h4 O.su (thn (run_vals (us := [.ref a, .int i t]) (vs := [.ref a, .int i]) G hr hb I (.cons rfl (.cons ⟨t, rfl⟩ .nil)) hsp) fun _ _ z => cmpb z))
  · have s1 := r1
    cases r2
    cases r1 with
    | @obj a C' dx _ fn' vs' _ ht na e1 hl r =>
      rw [hT] at ht
      cases ht
      exact ⟨a, dx, _, i, rfl, rfl, e1, spC0 (ds := [.obj cn ds, .int i]) hq cc ⟨s1, Rep.int, trivial⟩ fun v H' x2 c2 r2 => q v H' ad x2 c2 r2⟩
theorem iop_add : IopD X T .Add (.dat (.int i)) (.dat (.int j)) cs (.dat (.int (i + j))) cs := ⟨_, L2.iop_add, r2_I0⟩
theorem iop_sub : IopD X T .Sub (.dat (.int i)) (.dat (.int j)) cs (.dat (.int (i - j))) cs := ⟨_, L2.iop_sub, r2_I0⟩
/-- x op= e -/
theorem ds_aug (v : Nat) {n : Nat} {S S1 : Sta} {e : Expr} {s1 s2 s : Sl} {P : Post} {x : Str} {pos p' : Pos} (hN : X.N.Nodup) (hs : S.sl[v]? = some (some s1)) (he : DE X T S e s2 S1) (h : IopD X T op s1 s2 S1.cs s S1.cs) (q : P.nx ⟨S1.sl.set v (some s), S1.cs⟩)
    (hi : X.N[v]? = some x := by rfl) (hx : Loc X.env.scope x := by first | exact Or.inl rfl | exact Or.inr rfl) (hf : X.fn x = true ∨ X.env.scope.names.lookup x = some .local := by first | exact .inl rfl | exact .inr rfl) : DS X T n S (.AugAssign (.Name x p') op e pos) P := by
  obtain ⟨r, ho, hr⟩ := h
  refine weakS (ps_aug hN hi hx he ho hf) fun D σ H ⟨ad, F, hn, h0, q1, _⟩ => ?_
  obtain ⟨w, hw, rw'⟩ := h0.sl v s1 hs
  refine ⟨w, hw, ad, F, h0, fun u H1 ad1 x1 h1 r1 => ?_⟩
  refine hr ad1 F H1 w u _ h1.hc (rw'.ext x1) r1 fun z H' ad' x2 c2 r2 => ?_
  have x12 := x1.trans h1.hc x2
  exact q1 _ _ H' ad' (x12.s hn) (x12.le hn) ((h1.to x2 c2).set r2 v) q
end
end Dl

namespace Dl
open PySem L2

/-! ### zip of three tuples -/
def It3 (K : PySem.W.Frag) (a b c : Addr) : It :=
  ⟨fun i H => ∃ (xs ys zs : List V) (x y z : V), (SqT K H a xs ∧ SqT K H b ys ∧ SqT K H c zs) ∧ xs[i]? = some x ∧ ys[i]? = some y ∧ zs[i]? = some z,
    fun i H v H' => ∃ T x y z, v = .ref T ∧ H T = none ∧ H' = upd H T (.tup [x, y, z]) ∧ (∀ l, SqT K H a l → l[i]? = some x) ∧ (∀ l, SqT K H b l → l[i]? = some y) ∧ ∀ l, SqT K H c l → l[i]? = some z,
    fun i H => ∃ xs ys zs : List V, (SqT K H a xs ∧ SqT K H b ys ∧ SqT K H c zs) ∧ (i ≤ xs.length ∧ i ≤ ys.length ∧ i ≤ zs.length) ∧ (i = xs.length ∨ i = ys.length ∨ i = zs.length)⟩

theorem turn3 {P : Program} {w : World} {K : PySem.W.Frag} {elts : List Expr} {kk : Nat} {tpos : Pos} {a b c z TI TO i1 i2 i3 : Addr} (D : ZipSep3 z TI TO i1 i2 i3 [i1, a] [i2, b] [i3, c])
    (n1 : a ≠ i1) (n2 : b ≠ i2) (n3 : c ≠ i3) :
    Turn P w K (.Tuple elts kk tpos) (It3 K a b c) [z, TI, TO, i1, i2, i3] z (fun i h => IsZip h z TI TO .none ∧ IsTupOf3 h TI (.ref i1) (.ref i2) (.ref i3) ∧ (∃ x y u, IsTupOf3 h TO x y u) ∧ h.IsTupleIter i1 a i ∧ h.IsTupleIter i2 b i ∧ h.IsTupleIter i3 c i) where
  mem := by simp
  obj := fun i h st q hq => by
    obtain ⟨hz, hTI, ⟨x, y, u, hTO⟩, ⟨o1, e1, _, d1⟩, ⟨o2, e2, _, d2⟩, ⟨o3, e3, _, d3⟩⟩ := st
    have e' : q = z ∨ q = TI ∨ q = TO ∨ q = i1 ∨ q = i2 ∨ q = i3 := by simpa using hq
    rcases e' with r | r | r | r | r | r
    · rw [r]; exact ⟨_, hz, fun v q => nomatch q⟩
    · rw [r]; exact ⟨_, hTI, fun v q => nomatch q⟩
    · rw [r]; exact ⟨_, hTO, fun v q => nomatch q⟩
    · rw [r]; exact ⟨o1, e1, fun v q => by rw [d1] at q; cases q⟩
    · rw [r]; exact ⟨o2, e2, fun v q => by rw [d2] at q; cases q⟩
    · rw [r]; exact ⟨o3, e3, fun v q => by rw [d3] at q; cases q⟩
  keep := fun i h h' st k => by
    obtain ⟨hz, hTI, ⟨x, y, u, hTO⟩, h1, h2, h3⟩ := st
    exact ⟨k z (by simp) _ hz, k TI (by simp) _ hTI, ⟨x, y, u, k TO (by simp) _ hTO⟩, h1.at fun o q => k i1 (by simp) o q, h2.at fun o q => k i2 (by simp) o q, h3.at fun o q => k i3 (by simp) o q⟩
  item := by
    intro X hP hw hK hc i pins s σ H E I hf st hg
    subst hP hw hK
    obtain ⟨hz, hTI, ⟨x0, y0, u0, hTO⟩, h1, h2, h3⟩ := st
    obtain ⟨xs, ys, zs, x, y, u, ⟨hqx, hqy, hqz⟩, hx, hy, hu'⟩ := hg
    obtain ⟨its, rv, p, _⟩ := I.tuple hqx
    obtain ⟨its2, rv2, p2, _⟩ := I.tuple hqy
    obtain ⟨its3, rv3, p3, _⟩ := I.tuple hqz
    obtain ⟨v1, hv1, r1⟩ := rv.get hx
    obtain ⟨v2, hv2, r2⟩ := rv2.get hy
    obtain ⟨v3, hv3, r3⟩ := rv3.get hu'
    have hd : X.A.in1.handled = none := I.ok.hd hc
    have hzl : z < s.heap.objs.size := Heap.lt_size hz
    have lt1 : i < its.toArray.size := by have := List.getElem?_eq_some_iff.mp hv1; simpa using this.1
    have lt2 : i < its2.toArray.size := by have := List.getElem?_eq_some_iff.mp hv2; simpa using this.1
    have lt3 : i < its3.toArray.size := by have := List.getElem?_eq_some_iff.mp hv3; simpa using this.1
    refine wpAny_pyNext_zipD3_item D (Draws.tuple hd i1 a n1 its.toArray) (Draws.tuple hd i2 b n2 its2.toArray) (Draws.tuple hd i3 c n3 its3.toArray) hz hTI hTO ⟨h1, p⟩ ⟨h2, p2⟩ ⟨h3, p3⟩ lt1 lt2 lt3
      fun y1 y2 y3 h' tk q1 q2 q3 z' TO' t1 t2 t3 hT hsz hk => ?_
    have w1 : y1 = v1 := Option.some.inj (q1.symm.trans (by simpa using hv1))
    have w2 : y2 = v2 := Option.some.inj (q2.symm.trans (by simpa using hv2))
    have w3 : y3 = v3 := Option.some.inj (q3.symm.trans (by simpa using hv3))
    subst w1 w2 w3
    refine ⟨_, rfl, wpAny_letOwnedTupleGo_zip (s := { s with heap := h', toks := tk }) z' fun h'' z'' sb => ?_⟩
    have hT2 : h''.get? s.heap.objs.size = some { cls := .type "tuple", data := .seq #[y1, y2, y3] } := (sb.2 _ (Nat.ne_of_gt hzl)).trans hT
    have new : ObjOk X.prog X.w (upd H s.heap.objs.size (.tup [x, y, u])) h'' s.heap.objs.size (.tup [x, y, u]) :=
      ⟨by show 3 ≤ sizeLine; decide, [y1, y2, y3], .cons r1 (.cons r2 (.cons r3 .nil)), ⟨_, hT2, rfl, _, rfl⟩⟩
    have I1 : Inv X pins σ (upd H s.heap.objs.size (.tup [x, y, u])) { s with heap := h'', toks := tk } :=
      I.turnedNew (t' := tk) (ch := [z, TI, TO, i1, i2, i3]) (fun c o hb q => (sb.2 c (fun q' => hb (by simp [q']))).trans (hk c o (fun q' => hb (by simp [q'])) (fun q' => hb (by simp [q'])) (fun q' => hb (by simp [q'])) (fun q' => hb (by simp [q'])) (fun q' => hb (by simp [q'])) q)) hf (Nat.le_refl _) new
    refine ⟨.ref s.heap.objs.size, _, I1, rfl, ⟨_, x, y, u, rfl, I.hok.fresh (Nat.le_refl _), rfl, fun l hl => by rw [I.tuple_inj hl hqx]; exact hx, fun l hl => by rw [I.tuple_inj hl hqy]; exact hy, fun l hl => by rw [I.tuple_inj hl hqz]; exact hu'⟩, ⟨z'', ?_, ⟨y1, y2, y3, ?_⟩, ?_, ?_, ?_⟩, fun q hcm => ?_⟩
    · exact (sb.2 _ D.TIz).trans (hk _ _ D.TIz D.TITO D.TIi1 D.TIi2 D.TIi3 hTI)
    · exact (sb.2 _ D.TOz).trans TO'
    · exact t1.1.at fun o q => (sb.2 _ D.zi1.symm).trans q
    · exact t2.1.at fun o q => (sb.2 _ D.zi2.symm).trans q
    · exact t3.1.at fun o q => (sb.2 _ D.zi3.symm).trans q
    · have hlt : q < s.heap.objs.size := by
        have e' : q = z ∨ q = TI ∨ q = TO ∨ q = i1 ∨ q = i2 ∨ q = i3 := by simpa using hcm
        rcases e' with r | r | r | r | r | r
        · rw [r]; exact hzl
        · rw [r]; exact Heap.lt_size hTI
        · rw [r]; exact Heap.lt_size hTO
        · rw [r]; obtain ⟨_, e1, _⟩ := h1; exact Heap.lt_size e1
        · rw [r]; obtain ⟨_, e2, _⟩ := h2; exact Heap.lt_size e2
        · rw [r]; obtain ⟨_, e3, _⟩ := h3; exact Heap.lt_size e3
      rw [upd_ne (Nat.ne_of_lt hlt)]
      exact (hf q hcm).1
  done := by
    intro X hP hw hK hc i pins s σ H E I hf st hg
    subst hP hw hK
    obtain ⟨hz, hTI, ⟨x0, y0, u0, hTO⟩, h1, h2, h3⟩ := st
    obtain ⟨xs, ys, zs, ⟨hqx, hqy, hqz⟩, hle, hend⟩ := hg
    obtain ⟨its, rv, p, _⟩ := I.tuple hqx
    obtain ⟨its2, rv2, p2, _⟩ := I.tuple hqy
    obtain ⟨its3, rv3, p3, _⟩ := I.tuple hqz
    have hd : X.A.in1.handled = none := I.ok.hd hc
    have l1 := rv.length
    have l2 := rv2.length
    have l3 := rv3.length
    have le1 : i ≤ its.toArray.size := by simp; omega
    have le2 : i ≤ its2.toArray.size := by simp; omega
    have le3 : i ≤ its3.toArray.size := by simp; omega
    have he : i = its.toArray.size ∨ i = its2.toArray.size ∨ i = its3.toArray.size := by simp; omega
    exact wpAny_pyNext_zipD3_end D (Draws.tuple hd i1 a n1 its.toArray) (Draws.tuple hd i2 b n2 its2.toArray) (Draws.tuple hd i3 c n3 its3.toArray) hz hTI hTO ⟨h1, p⟩ ⟨h2, p2⟩ ⟨h3, p3⟩ le1 le2 le3 he
      fun h' tk hk => ⟨rfl, I.turnedL (t' := tk) (ch := [z, TI, TO, i1, i2, i3]) (fun c o hb q =>
      hk c o (fun q' => hb (by simp [q'])) (fun q' => hb (by simp [q'])) (fun q' => hb (by simp [q'])) (fun q' => hb (by simp [q'])) (fun q' => hb (by simp [q'])) q) hf⟩
  self := fun A i s Q E st h => wpAny_pyIter_zip st.1 h

def iZip3 (K : PySem.W.Frag) (ta : TA) : TI := fun σ H R => ta σ H fun vs H1 => ∃ a b c xs ys zs, vs = [.ref a, .ref b, .ref c] ∧ (SqT K H1 a xs ∧ SqT K H1 b ys ∧ SqT K H1 c zs) ∧ R (It3 K a b c) H1
open PySem.Spec PyProof.Rows in
theorem pi_zip3 {X : Cx} {e e2 e3 : Expr} {ta : TA} {p pos tpos : Pos} {elts : List Expr} {kk : Nat} (hg : Gl X "zip") (hm : X.mg "zip" = none) (ha : PA X [e, e2, e3] ta)
    (hs : starEach [e, e2, e3] X.env = (false, eval e X.env) :: starEach [e2, e3] X.env := by rfl) (hpl : (backTo pos (starEach [e2, e3] X.env)).any (·.1) = false := by rfl) :
    PI X (.Tuple elts kk tpos) (.Call (.Name "zip" p) [e, e2, e3] [] pos) (iZip3 X.K ta) := by
  refine ⟨fun pins s σ H R I h => ?_⟩
  refine Call_ (ld_blt I hg hm PyProof.Rows.boot_zip (PyProof.Rows.callWith_type1 (thn (ha.run pos pins s σ H _ I h) fun us s1 ⟨vs, H1, I1, r1, q1⟩ => ?_) hs hpl))
  obtain ⟨a, b, c, xs, ys, zs, ex, ⟨hqx, hqy, hqz⟩, q⟩ := q1
  subst ex
  obtain ⟨v1, l1, rfl, s1', r1'⟩ : ∃ v l, us = v :: l ∧ RelV (.ref a) v ∧ Vals [.ref b, .ref c] l := by
    cases r1 with
    | cons r rr => exact ⟨_, _, rfl, r, rr⟩
  obtain ⟨v2, l2, rfl, r2, r2'⟩ : ∃ v l, l1 = v :: l ∧ RelV (.ref b) v ∧ Vals [.ref c] l := by
    cases r1' with
    | cons r rr => exact ⟨_, _, rfl, r, rr⟩
  obtain ⟨v3, rfl, r3⟩ := vals1 r2'
  cases (show v1 = Value.ref a from s1')
  cases (show v2 = Value.ref b from r2)
  cases (show v3 = Value.ref c from r3)
  obtain ⟨its, rv, p1, _⟩ := I1.tuple hqx
  obtain ⟨its2, rv2, p2, _⟩ := I1.tuple hqy
  obtain ⟨its3, rv3, p3, _⟩ := I1.tuple hqz
  obtain ⟨o1, ho1, _⟩ := id p1
  obtain ⟨o2, ho2, _⟩ := id p2
  obtain ⟨o3, ho3, _⟩ := id p3
  have L1 : a < s1.heap.objs.size := Heap.lt_size ho1
  have L2 : b < s1.heap.objs.size := Heap.lt_size ho2
  have L3 : c < s1.heap.objs.size := Heap.lt_size ho3
  refine zip_begins3 (begins_tuple a its.toArray) (begins_tuple b its2.toArray) (begins_tuple c its3.toArray) p1 p2 p3 fun h' hz hTI hTO h1 h2 h3 hsz hk => wpAny_pyIter_zip hz ?_
  have I2 : Inv X pins σ H1 { s1 with heap := h' } := I1.kept (t' := s1.toks) hk
  have D := zip_sep3 (N := s1.heap.objs.size) (fp1 := [a]) (fp2 := [b]) (fp3 := [c]) (by simpa using L1) (by simpa using L2) (by simpa using L3)
  have n1 : a ≠ s1.heap.objs.size := Nat.ne_of_lt L1
  have n2 : b ≠ s1.heap.objs.size + 1 := Nat.ne_of_lt (Nat.lt_succ_of_lt L2)
  have n3 : c ≠ s1.heap.objs.size + 2 := Nat.ne_of_lt (Nat.lt_succ_of_lt (Nat.lt_succ_of_lt L3))
  exact ⟨s1.heap.objs.size + 5, [s1.heap.objs.size + 5, s1.heap.objs.size + 3, s1.heap.objs.size + 4, s1.heap.objs.size, s1.heap.objs.size + 1, s1.heap.objs.size + 2], _, _, H1, rfl, I2, turn3 D n1 n2 n3, ⟨hz, hTI, ⟨_, _, _, hTO⟩, ⟨_, h1, rfl, rfl⟩, ⟨_, h2, rfl, rfl⟩, ⟨_, h3, rfl, rfl⟩⟩, fun q hcm => by
    have e' : q = s1.heap.objs.size + 5 ∨ q = s1.heap.objs.size + 3 ∨ q = s1.heap.objs.size + 4 ∨ q = s1.heap.objs.size ∨ q = s1.heap.objs.size + 1 ∨ q = s1.heap.objs.size + 2 := by simpa using hcm
    have hle : s1.heap.objs.size ≤ q := by
      rcases e' with z | z | z | z | z | z
      all_goals rw [z]
      all_goals first | exact Nat.le_add_right _ _ | exact Nat.le_refl _
    exact I1.fpOk hle (I1.hok.fresh hle), q⟩

def zip3D (ds es fs : List D) : List D := (ds.zip (es.zip fs)).map fun q => D.tup [q.1, q.2.1, q.2.2]
theorem zip3D_get {ds es fs : List D} {i : Nat} {d : D} (h : (zip3D ds es fs)[i]? = some d) : ∃ x y z, ds[i]? = some x ∧ es[i]? = some y ∧ fs[i]? = some z ∧ d = .tup [x, y, z] := by
  unfold zip3D at h
  rw [List.getElem?_map] at h
  cases q : (ds.zip (es.zip fs))[i]? with
  | none => rw [q] at h; cases h
  | some z =>
    rw [q] at h
    rw [List.getElem?_zip_eq_some] at q
    have q2 := q.2
    rw [List.getElem?_zip_eq_some] at q2
    exact ⟨z.1, z.2.1, z.2.2, q.1, q2.1, q2.2, (Option.some.inj h).symm⟩
theorem di_zip3 {X : Cx} {T : Tab} {S S1 : Sta} {e e2 e3 : Expr} {ds es fs : List D} {p pos tpos : Pos} {elts : List Expr} {kk : Nat} (h : DA X T S [e, e2, e3] [.dat (.tup ds), .dat (.tup es), .dat (.tup fs)] S1) (hm : X.mg "zip" = none) (hg : Gl X "zip" := by rfl)
    (hs : starEach [e, e2, e3] X.env = (false, eval e X.env) :: starEach [e2, e3] X.env := by rfl)
    (hpl : (backTo pos (starEach [e2, e3] X.env)).any (·.1) = false := by rfl) : DI X T S (.Tuple elts kk tpos) (.Call (.Name "zip" p) [e, e2, e3] [] pos) (zip3D ds es fs) S1 :=
  weakI (pi_zip3 hg hm h hs hpl) fun σ H R ⟨ad, F, h0, q⟩ => ⟨ad, F, h0, fun vs H1 ad1 x1 h1' r1 => by
    match vs, r1 with
    | [v, w, u], r1 =>
      have r3 := r1.2.2.1
      have r2 := r1.2.1
      have r1 := r1.1
      cases r1 with
      | @tup a xs _ e1 q1 =>
        cases r2 with
        | @tup b ys _ e2 q2 =>
          cases r3 with
          | @tup c zs _ e3 q3 =>
            refine ⟨a, b, c, xs, ys, zs, rfl, ⟨e1.sq, e2.sq, e3.sq⟩, q _ H1 ad1 x1 h1' fun F2 ad2 H2 cs2 c2 kp i => ⟨fun d hd => ?_, fun hi => ?_⟩⟩
            · obtain ⟨x, y, z, hx, hy, hz, rfl⟩ := zip3D_get hd
              obtain ⟨vx, gx, rx⟩ := (q1.kp kp).get hx
              obtain ⟨vy, gy, ry⟩ := (q2.kp kp).get hy
              obtain ⟨vz, gz, rz⟩ := (q3.kp kp).get hz
              refine ⟨⟨xs, ys, zs, vx, vy, vz, ⟨(e1.kp kp).sq, (e2.kp kp).sq, (e3.kp kp).sq⟩, gx, gy, gz⟩, fun u H3 z => ?_⟩
              obtain ⟨t, x', y', z', rfl, nt, rfl, f1, f2, f3⟩ := z
              have ex : x' = vx := Option.some.inj ((f1 _ (e1.kp kp).sq).symm.trans gx)
              have ey : y' = vy := Option.some.inj ((f2 _ (e2.kp kp).sq).symm.trans gy)
              have ez : z' = vz := Option.some.inj ((f3 _ (e3.kp kp).sq).symm.trans gz)
              subst ex ey ez
              obtain ⟨c3, x3⟩ := c2.newo (o := .tup [x', y', z']) nt
              exact ⟨fun a o ea => by rw [upd_ne (ne_of_none ea nt)]; exact ea, .tup (vs := [x', y', z']) (.inl ⟨c2.new nt, .inl upd_same⟩) (.cons (rx.kp x3.kp) (.cons (ry.kp x3.kp) (.cons (rz.kp x3.kp) .nil)))⟩
            · refine ⟨xs, ys, zs, ⟨(e1.kp kp).sq, (e2.kp kp).sq, (e3.kp kp).sq⟩, ?_⟩
              unfold zip3D at hi
              rw [List.length_map, List.length_zip, List.length_zip] at hi
              rw [q1.length, q2.length, q3.length]
              omega⟩
end Dl

namespace Dl
open PySem L2

/-! ### a, b, .. = a list -/
theorem ds_tupL {X : Cx} {T : Tab} {n m : Nat} {S S1 : Sta} {e : Expr} {es : List Expr} {k : Nat} {pos tpos : Pos} {s1 : Sl} {ds : List D} {P : Post} {ps : List Pat} {sl' : List (Option Sl)} (hc : X.calm = true) (he : DE X T S e s1 S1) (hL : isLst S1.cs ds s1) (hg : DGs X T es ps) (ha : asgPs ps ds S1.sl = some sl') (h : P.nx ⟨sl', S1.cs⟩)
    (hn : (assignEach es X.env).length = m := by rfl) (hp : ps.length = m := by rfl) (hst : (assignEach es X.env).findIdx? (·.1) = none := by rfl)
    (hs : swapsWithSole [.Tuple es k tpos] e pos.line X.env = pure false := by rfl) (hw : swappedStores [.Tuple es k tpos] e X.env = pure none := by rfl)
    (h1 : (assignEach [.Tuple es k tpos] X.env).map (·.2) = [assign (.Tuple es k tpos) X.env] := by rfl) : DS X T n S (.Assign [.Tuple es k tpos] e pos) P :=
  weakS (ps_asg he (pg_unl (n := m) hc hg hn hst) hs hw h1) fun D σ H ⟨ad, F, hn', h0, q, _⟩ => ⟨ad, F, h0, fun v H1 ad1 x1 h1 r1 => by
    obtain ⟨a, ws, rfl, e1, q1⟩ := rd_lst hL h1.hc r1
    exact ⟨a, ws, rfl, SqL.of e1, by rw [q1.length, ← hp]; exact asgPs_len ha, ad1, F, S1, ds, sl', h1, q1, ha, fun σ' _ h2 => q _ _ H1 ad1 (x1.s hn') (x1.le hn') h2 h⟩⟩

/-! ### defs with defaults -/
abbrev cxD (P : Program) (w : World) (K : PySem.W.Frag) (mg : Str → Option Value) (base : Heap) (N : List Str) (qual : Str) (scope : Scope) (f : Addr) (cdv : Value) (A : Around) (outer : List Env) (s : Shared) (H : Hp) (E : XK) : Cx := (cxOf CX0 P w K mg base N qual scope f cdv A outer s H E).nox
theorem fn_okD {T : Tab} {P : Program} {w : World} {K : PySem.W.Frag} {mg : Str → Option Value} {base : Heap} {x qual : Str} {st : Stmt} {dvs : List V} {kws : List (Str × V)} {f : Addr} {fd : FuncData} {N ps : List Str} {k : Nat} {c : Ct} (F : FunD K x qual (defArgs st) (defBody st) (defScope st) dvs kws f fd) (Sc : FnScope N ps (defScope st)) (len : ∀ args cs s cs', c args cs s cs' → args.length = ps.length)
    (body : ∀ cdv A outer sh H E, Room k (cx0 P w K mg base N qual st f cdv A outer sh H E).A → ∀ args cs s cs', c args cs s cs' →
      DSs (cx0 P w K mg base N qual st f cdv A outer sh H E) T cs.length (st0 N args cs) (defBody st) (endOf cs.length s cs')) : FnOk P w K mg base CX0 (k + 1) f fd ps (spC T K c) := by
  refine F.ok Sc (fun vs H Q E h => ?_) (fun cdv A outer s H vs Q E hr h => ?_)
  · obtain ⟨ad, F', args, cs, s, cs', _, r, hc, _⟩ := h
    rw [r.len, len _ _ _ _ hc]
  · obtain ⟨ad, F', args, cs, s0, cs', hc, r, h, q⟩ := h
    refine ⟨_, PSs.nox (body cdv A outer s H E hr args cs s0 cs' h), ad, F', Nat.le_of_eq hc.ln.symm, start_hold hc r, ?_, ?_, fun _ _ _ _ _ _ _ z => z.elim, fun _ _ _ _ _ _ _ z => z.elim, fun _ _ _ _ _ _ _ _ _ _ _ z => z.elim⟩
    · rintro S' σ' H' ad' x hn h' ⟨rfl, e⟩
      subst e
      refine q .non H' (ad'.take cs.length) ⟨by rw [List.take_take, Nat.min_self]; exact x.pre, fun a ha => x.sub a (List.mem_of_mem_take ha), x.keep, x.frm⟩ (by rw [List.length_take]; omega) (h'.hc.take _) Rep.non
    · rintro s2 cs2 v H' ad' x hn c2 r2 ⟨rfl, rfl⟩
      exact q v H' ad' x hn c2 r2

/-! ### comparisons of an own class -/
section
variable {X : Cx} {T : Tab} {C g : Addr} {fd : FuncData} {ps : List Str} {k cn : Nat} {c : Ct} {fn : List Str} {op : CmpOp} {ds es : List D} {d : D} {cs : List Cell}
/-- x op y, two instances of C -/
theorem cop_own2 {sp : Sp} (G : FnOk X.prog X.w X.K X.mg X.base CX0 k g fd ps sp) (hr : Room k X.A) (hb : Binds X.K fd ps []) (hs : PySem.W.findIn X.K (.ref C) (cmpInfo op).2.1 = some (some (.ref g))) (hf : PySem.W.isFn X.K (.ref g) = true) (ho : compareOp op = richCompare op) :
    OpR X (compareOp op) (fun x y H Q => ∃ a b dx dy fs gs, x = .ref a ∧ y = .ref b ∧ H a = some (.ins C dx fs) ∧ H b = some (.ins C dy gs) ∧ sp [x, y] H Q E0) := by
  intro pins s σ H x y v u Q I rx ry h
  obtain ⟨a, b, dx, dy, fs, gs, rfl, rfl, ea, eb, hsp⟩ := h
  cases rx; cases ry
  obtain ⟨mA, J, _⟩ := ins_get I.hok ea
  obtain ⟨mB, J', _⟩ := ins_get I.hok eb
  obtain ⟨od, J, _⟩ := J.look
  obtain ⟨od', J', _⟩ := J'.look
  obtain ⟨m, hF⟩ := I.fr
  rw [ho]
  exact PySem.W.cmp_K (tb := .ref C) hr.units0 hF I.ok.mod.kin J J'.type (by simp [PySem.W.notFirst]) hs hf (thn (run_vals (us := [.ref a, .ref b]) (vs := [.ref a, .ref b]) G hr hb I (.cons rfl (.cons rfl .nil)) hsp) fun _ _ z => cmpb z)
theorem cmp_own2 (hT : T cn = some (C, fn)) (G : FnOk X.prog X.w X.K X.mg X.base CX0 k g fd ps (spC T X.K c)) (hr : Room k X.A) (hb : Binds X.K fd ps []) (hs : PySem.W.findIn X.K (.ref C) (cmpInfo op).2.1 = some (some (.ref g))) (hf : PySem.W.isFn X.K (.ref g) = true)
    (hq : c [.dat (.obj cn ds), .dat (.obj cn es)] [] (.dat d) []) (ho : compareOp op = richCompare op := by rfl) : CmpD X T op (.dat (.obj cn ds)) (.dat (.obj cn es)) cs (.dat d) cs := ⟨_, cop_own2 G hr hb hs hf ho, fun ad F H v w Q cc r1 r2 q => by
  have s1 := r1
  have s2 := r2
  cases r1 with
  | @obj a C' dx _ fn' vs' _ ht na e1 hl r =>
    rw [hT] at ht
    cases ht
    cases r2 with
    | @obj b C' dy _ fn' ws' _ ht nb e2 hl2 r' =>
      rw [hT] at ht
      cases ht
      exact ⟨a, b, dx, dy, _, _, rfl, rfl, e1, e2, spC0 (ds := [.obj cn ds, .obj cn es]) hq cc ⟨s1, s2, trivial⟩ fun v H' x2 c2 r2 => q v H' ad x2 c2 r2⟩⟩
end

/-! ### x in a tuple or list of flat items -/
section
variable {X : Cx} {T : Tab} {ds : List D} {d : D} {cs : List Cell}
def fv : D → Option V
  | .non => some .non
  | .bl b => some (.bl b)
  | .int i => some (.int i)
  | .str x => some (.str x)
  | _ => none
def fvs : List D → Option (List V)
  | [] => some []
  | d :: ds => (fv d).bind fun v => (fvs ds).map (v :: ·)
theorem fv_rep {K : PySem.W.Frag} {M : Addr → Prop} {H : Hp} {v w : V} (r : Rep T K M H v d) (h : fv d = some w) : v = w ∧ flatV w = true := by
  cases r <;> first | (cases h; exact ⟨rfl, rfl⟩) | exact nomatch h
theorem fvs_reps {K : PySem.W.Frag} {M : Addr → Prop} {H : Hp} : ∀ {vs : List V} {ds : List D} {ws : List V}, Reps T K M H vs ds → fvs ds = some ws → vs = ws ∧ ws.all flatV = true
  | _, _, _, .nil, h => by cases h; exact ⟨rfl, rfl⟩
  | _, d :: ds, ws, .cons r rs, h => by
    cases e : fv d with
    | none => rw [fvs, e] at h; cases h
    | some v =>
      cases e2 : fvs ds with
      | none => rw [fvs, e, e2] at h; cases h
      | some l =>
        rw [fvs, e, e2] at h
        cases h
        obtain ⟨a, fa⟩ := fv_rep r e
        obtain ⟨b, fb⟩ := fvs_reps rs e2
        exact ⟨by rw [a, b], by rw [List.all_cons, fa, fb]; rfl⟩
theorem cmp_inT {v : V} {ws : List V} (h1 : fv d = some v) (h2 : fvs ds = some ws) : CmpD X T .In (.dat d) (.dat (.tup ds)) cs (.dat (.bl (inV v ws))) cs := ⟨_, op_in_seq, fun ad F H x y Q c r1 r2 q => by
  cases r2 with
  | @tup a xs _ e1 q1 =>
    obtain ⟨rfl, fx⟩ := fv_rep r1 h1
    obtain ⟨rfl, fs⟩ := fvs_reps q1 h2
    exact ⟨a, _, rfl, .inr e1.sq, fx, fs, q _ H ad .refl c Rep.bl⟩⟩
theorem cmp_ninT {v : V} {ws : List V} (h1 : fv d = some v) (h2 : fvs ds = some ws) : CmpD X T .NotIn (.dat d) (.dat (.tup ds)) cs (.dat (.bl (!inV v ws))) cs := ⟨_, op_notIn_seq, fun ad F H x y Q c r1 r2 q => by
  cases r2 with
  | @tup a xs _ e1 q1 =>
    obtain ⟨rfl, fx⟩ := fv_rep r1 h1
    obtain ⟨rfl, fs⟩ := fvs_reps q1 h2
    exact ⟨a, _, rfl, .inr e1.sq, fx, fs, q _ H ad .refl c Rep.bl⟩⟩
end

/-! ### small helps -/
theorem mul_l {i j : Int} (h1 : -(2 ^ 64) < i) (h2 : i < 2 ^ 64) : IntMulOk i j := CMul.ok (.inl ⟨h1, h2⟩)
theorem mul_r {i j : Int} (h1 : -(2 ^ 64) < j) (h2 : j < 2 ^ 64) : IntMulOk i j := CMul.ok (.inr ⟨h1, h2⟩)
end Dl

namespace Dl
open PySem L2
/-! ### the last cell becomes data -/
def frzS (m : Nat) (ds : List D) : Option Sl → Option Sl
  | some (.cel k) => if k = m then some (.dat (.lst ds)) else if k < m then some (.cel k) else none
  | x => x
theorem dss_freeze {X : Cx} {T : Tab} {n : Nat} {S : Sta} {P : Post} {sts : List Stmt} {ds : List D} (m : Nat) (hm : n ≤ m) (hc : S.cs[m]? = some (.lst ds)) (h : DSs X T n ⟨S.sl.map (frzS m ds), S.cs.take m⟩ sts P) : DSs X T n S sts P :=
  weakSs h fun D σ H ⟨ad, F, hn, h0, q1, q2, q3, q4, q5⟩ => by
    have kp : Kp (Mm ad F) H (Mm (ad.take m) F) H := fun a o e z => ⟨e, fun y => z (y.imp List.mem_of_mem_take id)⟩
    have x : ExtS n ad F H (ad.take m) H := ⟨by rw [List.take_take, Nat.min_eq_left hm], fun a ha => .inl (List.mem_of_mem_take ha), fun _ _ e _ => e, fun _ _ => rfl⟩
    have ml : m < ad.length := by rw [h0.hc.ln]; exact (List.getElem?_eq_some_iff.mp hc).1
    refine tDS.go (σ := σ) x (by rw [List.length_take]; omega) ⟨h0.hc.take m, by rw [h0.sz]; simp, fun i s e => ?_⟩ q1 q2 q3 q4 q5
    have e : (S.sl.map (frzS m ds))[i]? = some (some s) := e
    rw [List.getElem?_map] at e
    cases e0 : S.sl[i]? with
    | none => rw [e0] at e; cases e
    | some o =>
      rw [e0] at e
      have e : frzS m ds o = some s := Option.some.inj e
      cases o with
      | none => cases e
      | some s0 =>
        obtain ⟨v, hv, r⟩ := h0.sl i s0 e0
        refine ⟨v, hv, ?_⟩
        cases s0 with
        | dat d => cases e; exact Rep.kp kp r
        | cel k =>
          obtain ⟨a, ha, ev⟩ := r
          by_cases k1 : k = m
          · subst k1
            have e : some (Sl.dat (.lst ds)) = some s := by simpa [frzS] using e
            cases e
            obtain ⟨vs, e1, r1⟩ := h0.hc.ce k a _ ha hc
            have na : ¬ Mm (ad.take k) F a := fun y => by
              rcases y with y | y
              · obtain ⟨j, hj, ej⟩ := List.getElem_of_mem y
                have hj' : j < k := by rw [List.length_take] at hj; omega
                rw [List.getElem_take] at ej
                have hj2 : j < ad.length := by omega
                have := ix_inj (j := j) h0.hc.nd ha (by rw [List.getElem?_eq_getElem hj2, ej])
                omega
              · exact h0.hc.fr a (List.mem_of_getElem? ha) y
            rw [ev]
            exact Rep.lst na e1 (r1.kp kp)
          · by_cases k2 : k < m
            · have e : some (Sl.cel k) = some s := by simpa [frzS, k1, k2] using e
              cases e
              exact ⟨a, by rw [List.getElem?_take_of_lt k2]; exact ha, ev⟩
            · have e : (none : Option Sl) = some s := by simpa [frzS, k1, k2] using e
              cases e
/-! ### if c: o[i] = e -/
theorem ds_ifSet {X : Cx} {T : Tab} {n : Nat} {S : Sta} {P : Post} {c e o ix : Expr} {k : Bool} {d d0 d' : D} {j m : Nat} {i : Int} {ds : List D} {p1 p2 p3 : Pos} (hc : DT X T S c k S) (he : DE X T S e (.dat d) S) (ho : DE X T S o (.cel j) S) (hi : DE X T S ix (.dat (.int i)) S) (hk : S.cs[j]? = some (.lst ds)) (hj : ixN ds.length i = some m)
    (h0 : ds[m]? = some d0) (hd : (if k then d else d0) = d') (h : P.nx ⟨S.sl, S.cs.set j (.lst (ds.set m d'))⟩) (hs : swapsWithSole [.Subscript o ix p1] e p2.line X.env = pure false := by rfl) (hw : swappedStores [.Subscript o ix p1] e X.env = pure none := by rfl)
    (h1 : (assignEach [.Subscript o ix p1] X.env).map (·.2) = [assign (.Subscript o ix p1) X.env] := by rfl) (ha : ∀ v, assign (.Subscript o ix p1) X.env v = (do
      let ov ← holding [v] (eval o X.env)
      let iv ← holding [v, ov] (eval ix X.env)
      standAt p1
      holding [v, ov, iv] (setItem ov iv v)
      release [v, ov, iv] []) := by intro _; rfl) : DS X T n S (.If c [.Assign [.Subscript o ix p1] e p2] [] p3) P := by
  refine ds_if hc (fun hk' => ?_) (fun hk' => ?_)
  · subst hk'
    have hd : d = d' := hd
    subst hd
    exact dss_cons (ds_setL he ho hi hk hj (dss_nil h) (ha := ha) (hs := hs) (hw := hw) (h1 := h1))
  · subst hk'
    have hd : d0 = d' := hd
    subst hd
    refine dss_nil ?_
    have e1 : ds.set m d0 = ds := by
      obtain ⟨hm, e⟩ := List.getElem?_eq_some_iff.mp h0
      rw [← e]
      exact List.set_getElem_self hm
    have e2 : S.cs.set j (.lst ds) = S.cs := by
      obtain ⟨hm, e⟩ := List.getElem?_eq_some_iff.mp hk
      rw [← e]
      exact List.set_getElem_self hm
    rw [e1, e2] at h
    exact h
end Dl

namespace Dl
open PySem L2
/-! ### the law's end -/
def spL (K : PySem.W.Frag) : Sp := fun vs H Q _ => ∃ (a : Addr) (ns : List Int), vs = [.ref a] ∧ LAt K (fun _ => False) H a (ns.map V.int) ∧ ns.length ≤ 63 ∧ (∀ z ∈ ns, Builtin.Int.intBits z ≤ 1048576) ∧ ∀ H', Q (.bl true) H'
theorem spL_to {T : Tab} {K : PySem.W.Frag} {c : Ct} (h : ∀ ns : List Int, ns.length ≤ 63 → (∀ z ∈ ns, Builtin.Int.intBits z ≤ 1048576) → c [.dat (.scr (ns.map D.int))] [] (.dat (.bl true)) []) {vs : List V} {H : Hp} {Q : VK} {E : XK} (q : spL K vs H Q E) : spC T K c vs H Q E := by
  obtain ⟨a, ns, rfl, hl, hn, hb, hq⟩ := q
  refine ⟨[], fun _ => False, [.dat (.scr (ns.map D.int))], [], _, _, ⟨List.nodup_nil, fun _ z => (nomatch z), fun _ z => z.elim, rfl, fun _ _ _ e => nomatch e⟩, ⟨Rep.scr (vs := ns.map V.int) ?_ (Reps.ints ns), trivial⟩, h ns hn hb, ?_⟩
  · rcases hl with ⟨_, o, e⟩ | e
    · exact .inl ⟨fun z => z.elim (fun z => nomatch z) id, o, e⟩
    · exact .inr e
  · intro v H' ad' _ _ _ r
    cases r
    exact hq H'
theorem spL_of {K : PySem.W.Frag} (H : Hp) (a : Addr) (ns : List Int) (hl : ns.length ≤ 63) (hb : ∀ z ∈ ns, Builtin.Int.intBits z ≤ 1048576) (hO : Only H) (hS : SqL K H a (ns.map V.int)) : spL K [.ref a] H (fun v _ => v = .bl true) fun _ _ _ => False :=
  ⟨a, ns, rfl, LAt.of hO hS, hl, hb, fun _ => rfl⟩
/-- a def with defaults, out of the heap -/
theorem fd_mk {K : PySem.W.Frag} {x qual : Str} {st : Stmt} {f : Addr} {oc dV kV doc pm cdv ct : Value} {od an : Option Addr} {osl : Array (Option Value)} {dvs : List V} {kws : List (Str × V)} (l : K.lookup f = some ⟨oc, od, .func (PySem.W.fnOf x qual (defArgs st) (defBody st) (defScope st) dV kV doc pm an cdv ct), osl⟩)
    (c : PySem.W.codeIn K cdv qual = true) (k : PySem.W.keepIn K (.ref f) = true) (hd : DflV K dV dvs) (hk : KwdV K kV kws) : FunD K x qual (defArgs st) (defBody st) (defScope st) dvs kws f (PySem.W.fnOf x qual (defArgs st) (defBody st) (defScope st) dV kV doc pm an cdv ct) :=
  ⟨⟨oc, od, dV, kV, doc, pm, an, cdv, ct, osl, rfl, l, c, hd, hk⟩, k⟩
theorem dfl0 {K : PySem.W.Frag} : DflV K .none [] := .inl ⟨rfl, rfl⟩
theorem dfl1 {K : PySem.W.Frag} {T : Addr} {o : Obj} {v : V} {u : Value} {n : Nat} (l : K.lookup T = some o) (d : o.data = .seq #[u] n) (r : RelV v u) : DflV K (.ref T) [v] := .inr ⟨by simp, T, o, [u], n, rfl, l, d, .cons r .nil⟩
theorem kwd3 {K : PySem.W.Frag} {D : Addr} {a b c : Str} {x y z : V} {u v w : Value} (h1 : PySem.W.nsIn K D a = some (some u)) (h2 : PySem.W.nsIn K D b = some (some v)) (h3 : PySem.W.nsIn K D c = some (some w)) (r1 : RelV x u) (r2 : RelV y v) (r3 : RelV z w) : KwdV K (.ref D) [(a, x), (b, y), (c, z)] :=
  .inr ⟨D, rfl, List.forall_mem_cons.mpr ⟨⟨u, h1, r1⟩, List.forall_mem_cons.mpr ⟨⟨v, h2, r2⟩, List.forall_mem_cons.mpr ⟨⟨w, h3, r3⟩, fun _ z => nomatch z⟩⟩⟩⟩
theorem kit_self {K : PySem.W.Frag} {C : Addr} : PySem.W.kitOne K (.ref C) (.ref C) = some true := if_pos (beq_self_eq_true _)
theorem kit_sub {K : PySem.W.Frag} {C : Addr} {T : String} {b : Bool} (h : PySem.W.subIn K (.ref C) (.type T) = some b) (hm : PySem.W.kitMeta T = true) : PySem.W.kitOne K (.ref C) (.type T) = some b := by
  show (if (Value.ref C == Value.type T) = true then some true else PySem.W.kitCls K (.ref C) (.type T)) = some b
  rw [if_neg (by intro z; cases (beq_iff_eq.mp z))]
  show (if PySem.W.kitMeta T = true then PySem.W.subIn K (.ref C) (.type T) else none) = some b
  rw [if_pos hm]
  exact h
theorem km_int : PySem.W.kitMeta "int" = true := by decide +kernel
end Dl

namespace K
open PySem L2 Dl
def top (i : Nat) : Stmt := PySem.Challenge.pw_clashcounts_k04_whole_put_and_value.main.body.getD i (.Pass ⟨0, 0, 0, 0⟩)
abbrev FD (K : PySem.W.Frag) (x qual : Str) (st : Stmt) (dvs : List V) (kws : List (Str × V)) (f : Addr) (fd : FuncData) : Prop := FunD K x qual (defArgs st) (defBody st) (defScope st) dvs kws f fd
abbrev s_is_whole : Stmt := top 8
theorem sc_is_whole : FnScope ["value"] ["value"] (defScope s_is_whole) := ⟨rfl, rfl, rfl, by decide +kernel, rfl, by decide +kernel, by decide +kernel⟩
abbrev s_Form___init__ : Stmt := inClass (top 9) 0
theorem sc_Form___init__ : FnScope ["self", "const", "i", "j", "p", "value"] ["self", "const", "i", "j", "p"] (defScope s_Form___init__) := ⟨rfl, rfl, rfl, by decide +kernel, rfl, by decide +kernel, by decide +kernel⟩
abbrev s_Form_const : Stmt := inClass (top 9) 1
theorem sc_Form_const : FnScope ["self"] ["self"] (defScope s_Form_const) := ⟨rfl, rfl, rfl, by decide +kernel, rfl, by decide +kernel, by decide +kernel⟩
abbrev s_Form_i : Stmt := inClass (top 9) 2
theorem sc_Form_i : FnScope ["self"] ["self"] (defScope s_Form_i) := ⟨rfl, rfl, rfl, by decide +kernel, rfl, by decide +kernel, by decide +kernel⟩
abbrev s_Form_j : Stmt := inClass (top 9) 3
theorem sc_Form_j : FnScope ["self"] ["self"] (defScope s_Form_j) := ⟨rfl, rfl, rfl, by decide +kernel, rfl, by decide +kernel, by decide +kernel⟩
abbrev s_Form_p : Stmt := inClass (top 9) 4
theorem sc_Form_p : FnScope ["self"] ["self"] (defScope s_Form_p) := ⟨rfl, rfl, rfl, by decide +kernel, rfl, by decide +kernel, by decide +kernel⟩
abbrev s_Form___eq__ : Stmt := inClass (top 9) 5
theorem sc_Form___eq__ : FnScope ["self", "other"] ["self", "other"] (defScope s_Form___eq__) := ⟨rfl, rfl, rfl, by decide +kernel, rfl, by decide +kernel, by decide +kernel⟩
abbrev s_Form___add__ : Stmt := inClass (top 9) 9
theorem sc_Form___add__ : FnScope ["self", "other", "a", "b"] ["self", "other"] (defScope s_Form___add__) := ⟨rfl, rfl, rfl, by decide +kernel, rfl, by decide +kernel, by decide +kernel⟩
abbrev s_Form___rmul__ : Stmt := inClass (top 9) 14
theorem sc_Form___rmul__ : FnScope ["self", "other", "k"] ["self", "other"] (defScope s_Form___rmul__) := ⟨rfl, rfl, rfl, by decide +kernel, rfl, by decide +kernel, by decide +kernel⟩
abbrev s_Form_value : Stmt := inClass (top 9) 16
theorem sc_Form_value : FnScope ["self", "i", "j", "p"] ["self", "i", "j", "p"] (defScope s_Form_value) := ⟨rfl, rfl, rfl, by decide +kernel, rfl, by decide +kernel, by decide +kernel⟩
abbrev s_Form_put : Stmt := inClass (top 9) 17
theorem sc_Form_put : FnScope ["self", "i", "j", "p"] ["self", "i", "j", "p"] (defScope s_Form_put) := ⟨rfl, rfl, rfl, by decide +kernel, rfl, by decide +kernel, by decide +kernel⟩
abbrev s_form_of : Stmt := top 10
theorem sc_form_of : FnScope ["row"] ["row"] (defScope s_form_of) := ⟨rfl, rfl, rfl, by decide +kernel, rfl, by decide +kernel, by decide +kernel⟩
abbrev s_rows_put : Stmt := top 11
theorem sc_rows_put : FnScope ["i", "j", "p", "one", "two"] ["i", "j", "p"] (defScope s_rows_put) := ⟨rfl, rfl, rfl, by decide +kernel, rfl, by decide +kernel, by decide +kernel⟩
abbrev s_row_put : Stmt := top 12
theorem sc_row_put : FnScope ["row", "others", "one", "two", "three", "found", "k"] ["row", "others"] (defScope s_row_put) := ⟨rfl, rfl, rfl, by decide +kernel, rfl, by decide +kernel, by decide +kernel⟩
abbrev s_unknown : Stmt := top 13
theorem sc_unknown : FnScope ["name"] ["name"] (defScope s_unknown) := ⟨rfl, rfl, rfl, by decide +kernel, rfl, by decide +kernel, by decide +kernel⟩
abbrev s__law_feed : Stmt := top 15
theorem sc__law_feed : FnScope ["_law_script", "_law_k", "_law_cell", "_law_seed"] ["_law_script", "_law_k"] (defScope s__law_feed) := ⟨rfl, rfl, rfl, by decide +kernel, rfl, by decide +kernel, by decide +kernel⟩
abbrev s__law_take : Stmt := top 16
theorem sc__law_take : FnScope ["_law_box", "_law_many", "_law_digit", "_law_one"] ["_law_box", "_law_many"] (defScope s__law_take) := ⟨rfl, rfl, rfl, by decide +kernel, rfl, by decide +kernel, by decide +kernel⟩
abbrev s__law_four : Stmt := top 17
theorem sc__law_four : FnScope ["_law_box", "_law_most", "_law_far", "_law_width", "_law_some", "_law_k"] ["_law_box", "_law_most", "_law_far", "_law_width"] (defScope s__law_four) := ⟨rfl, rfl, rfl, by decide +kernel, rfl, by decide +kernel, by decide +kernel⟩
abbrev s__law_made : Stmt := top 18
theorem sc__law_made : FnScope ["_law_row"] ["_law_row"] (defScope s__law_made) := ⟨rfl, rfl, rfl, by decide +kernel, rfl, by decide +kernel, by decide +kernel⟩
abbrev s__law_told : Stmt := top 19
theorem sc__law_told : FnScope ["_law_form", "_law_found", "_law_bad", "_law_k"] ["_law_form"] (defScope s__law_told) := ⟨rfl, rfl, rfl, by decide +kernel, rfl, by decide +kernel, by decide +kernel⟩
abbrev s__law_number : Stmt := top 20
theorem sc__law_number : FnScope ["_law_box"] ["_law_box"] (defScope s__law_number) := ⟨rfl, rfl, rfl, by decide +kernel, rfl, by decide +kernel, by decide +kernel⟩
abbrev s__law_value : Stmt := top 21
theorem sc__law_value : FnScope ["_law_row", "_law_worths"] ["_law_row", "_law_worths"] (defScope s__law_value) := ⟨rfl, rfl, rfl, by decide +kernel, rfl, by decide +kernel, by decide +kernel⟩
abbrev s__law_put : Stmt := top 22
theorem sc__law_put : FnScope ["_law_row", "_law_others", "_law_one", "_law_two", "_law_three", "_law_found", "_law_a", "_law_b", "_law_c"] ["_law_row", "_law_others"] (defScope s__law_put) := ⟨rfl, rfl, rfl, by decide +kernel, rfl, by decide +kernel, by decide +kernel⟩
abbrev s__law_asked : Stmt := top 23
theorem sc__law_asked : FnScope ["_law_form", "_law_others", "_law_left", "_law_some", "_law_spot", "_law_one", "_law_two", "_law_three"] ["_law_form", "_law_others", "_law_left"] (defScope s__law_asked) := ⟨rfl, rfl, rfl, by decide +kernel, rfl, by decide +kernel, by decide +kernel⟩
abbrev s__law_twice_right : Stmt := top 24
theorem sc__law_twice_right : FnScope ["_law_row", "_law_there", "_law_found", "_law_second", "_law_again", "_law_both", "_law_one", "_law_form", "_law_at_once"] ["_law_row", "_law_there", "_law_found", "_law_second"] (defScope s__law_twice_right) := ⟨rfl, rfl, rfl, by decide +kernel, rfl, by decide +kernel, by decide +kernel⟩
abbrev s__law_values_right : Stmt := top 25
theorem sc__law_values_right : FnScope ["_law_row", "_law_there", "_law_found", "_law_worths", "_law_form", "_law_inner", "_law_one", "_law_value_here", "_law_k"] ["_law_row", "_law_there", "_law_found", "_law_worths"] (defScope s__law_values_right) := ⟨rfl, rfl, rfl, by decide +kernel, rfl, by decide +kernel, by decide +kernel⟩
abbrev s__law_sums_right : Stmt := top 26
theorem sc__law_sums_right : FnScope ["_law_row", "_law_other", "_law_times", "_law_worths", "_law_form", "_law_one", "_law_two", "_law_three", "_law_both"] ["_law_row", "_law_other", "_law_times", "_law_worths"] (defScope s__law_sums_right) := ⟨rfl, rfl, rfl, by decide +kernel, rfl, by decide +kernel, by decide +kernel⟩
abbrev s_law : Stmt := top 27
theorem sc_law : FnScope ["_law_script", "_law_own", "_law_word", "_law_k", "_law_box", "_law_row", "_law_first", "_law_spot", "_law_second", "_law_left", "_law_worths", "_law_there", "_law_form", "_law_found"] ["_law_script"] (defScope s_law) := ⟨rfl, rfl, rfl, by decide +kernel, rfl, by decide +kernel, by decide +kernel⟩
structure Tx (T : Tab) (K : PySem.W.Frag) (mg : Str → Option Value) where
  c_Form : Addr
  T_Form : T 0 = some (c_Form, (["row"] : List Str))
  cl_Form : Cls K c_Form
  i_Form : IsiC K c_Form
  m_Form : mg "Form" = some (.ref c_Form)
  no_Form_row : NoAttr K c_Form "row"
  sub_Form_int : PySem.W.subIn K (.ref c_Form) (.type "int") = some false
  z_isinstance : mg "isinstance" = none
  z_int : mg "int" = none
  z_bool : mg "bool" = none
  z_tuple : mg "tuple" = none
  z_list : mg "list" = none
  z_zip : mg "zip" = none
  z_range : mg "range" = none
  z_len : mg "len" = none
  z_max : mg "max" = none
  z_min : mg "min" = none
  a_is_whole : Addr
  fd_is_whole : FuncData
  F_is_whole : Fun K "is_whole" "is_whole" s_is_whole a_is_whole fd_is_whole
  b_is_whole : Binds K fd_is_whole ["value"] []
  m_is_whole : mg "is_whole" = some (.ref a_is_whole)
  a_Form___init__ : Addr
  fd_Form___init__ : FuncData
  F_Form___init__ : FD K "__init__" "Form.__init__" s_Form___init__ [.int 0] [("i", .int 0), ("j", .int 0), ("p", .int 0)] a_Form___init__ fd_Form___init__
  K_Form : Mk K c_Form a_Form___init__
  a_Form_const : Addr
  fd_Form_const : FuncData
  F_Form_const : Fun K "const" "Form.const" s_Form_const a_Form_const fd_Form_const
  b_Form_const : Binds K fd_Form_const ["self"] []
  p_Form_const : Addr
  P_Form_const : PropOf K c_Form "const" p_Form_const a_Form_const
  a_Form_i : Addr
  fd_Form_i : FuncData
  F_Form_i : Fun K "i" "Form.i" s_Form_i a_Form_i fd_Form_i
  b_Form_i : Binds K fd_Form_i ["self"] []
  p_Form_i : Addr
  P_Form_i : PropOf K c_Form "i" p_Form_i a_Form_i
  a_Form_j : Addr
  fd_Form_j : FuncData
  F_Form_j : Fun K "j" "Form.j" s_Form_j a_Form_j fd_Form_j
  b_Form_j : Binds K fd_Form_j ["self"] []
  p_Form_j : Addr
  P_Form_j : PropOf K c_Form "j" p_Form_j a_Form_j
  a_Form_p : Addr
  fd_Form_p : FuncData
  F_Form_p : Fun K "p" "Form.p" s_Form_p a_Form_p fd_Form_p
  b_Form_p : Binds K fd_Form_p ["self"] []
  p_Form_p : Addr
  P_Form_p : PropOf K c_Form "p" p_Form_p a_Form_p
  a_Form___eq__ : Addr
  fd_Form___eq__ : FuncData
  F_Form___eq__ : Fun K "__eq__" "Form.__eq__" s_Form___eq__ a_Form___eq__ fd_Form___eq__
  b_Form___eq__ : Binds K fd_Form___eq__ ["self", "other"] []
  M_Form___eq__ : Meth K c_Form "__eq__" a_Form___eq__
  a_Form___add__ : Addr
  fd_Form___add__ : FuncData
  F_Form___add__ : Fun K "__add__" "Form.__add__" s_Form___add__ a_Form___add__ fd_Form___add__
  b_Form___add__ : Binds K fd_Form___add__ ["self", "other"] []
  M_Form___add__ : Meth K c_Form "__add__" a_Form___add__
  a_Form___rmul__ : Addr
  fd_Form___rmul__ : FuncData
  F_Form___rmul__ : Fun K "__rmul__" "Form.__rmul__" s_Form___rmul__ a_Form___rmul__ fd_Form___rmul__
  b_Form___rmul__ : Binds K fd_Form___rmul__ ["self", "other"] []
  M_Form___rmul__ : Meth K c_Form "__rmul__" a_Form___rmul__
  a_Form_value : Addr
  fd_Form_value : FuncData
  F_Form_value : FD K "value" "Form.value" s_Form_value [] [("i", .int 0), ("j", .int 0), ("p", .int 0)] a_Form_value fd_Form_value
  M_Form_value : Meth K c_Form "value" a_Form_value
  a_Form_put : Addr
  fd_Form_put : FuncData
  F_Form_put : FD K "put" "Form.put" s_Form_put [] [("i", .non), ("j", .non), ("p", .non)] a_Form_put fd_Form_put
  M_Form_put : Meth K c_Form "put" a_Form_put
  a_form_of : Addr
  fd_form_of : FuncData
  F_form_of : Fun K "form_of" "form_of" s_form_of a_form_of fd_form_of
  b_form_of : Binds K fd_form_of ["row"] []
  m_form_of : mg "form_of" = some (.ref a_form_of)
  a_rows_put : Addr
  fd_rows_put : FuncData
  F_rows_put : Fun K "rows_put" "rows_put" s_rows_put a_rows_put fd_rows_put
  b_rows_put : Binds K fd_rows_put ["i", "j", "p"] []
  m_rows_put : mg "rows_put" = some (.ref a_rows_put)
  a_row_put : Addr
  fd_row_put : FuncData
  F_row_put : Fun K "row_put" "row_put" s_row_put a_row_put fd_row_put
  b_row_put : Binds K fd_row_put ["row", "others"] []
  m_row_put : mg "row_put" = some (.ref a_row_put)
  a_unknown : Addr
  fd_unknown : FuncData
  F_unknown : Fun K "unknown" "unknown" s_unknown a_unknown fd_unknown
  b_unknown : Binds K fd_unknown ["name"] []
  m_unknown : mg "unknown" = some (.ref a_unknown)
  a__law_feed : Addr
  fd__law_feed : FuncData
  F__law_feed : Fun K "_law_feed" "_law_feed" s__law_feed a__law_feed fd__law_feed
  b__law_feed : Binds K fd__law_feed ["_law_script", "_law_k"] []
  m__law_feed : mg "_law_feed" = some (.ref a__law_feed)
  a__law_take : Addr
  fd__law_take : FuncData
  F__law_take : Fun K "_law_take" "_law_take" s__law_take a__law_take fd__law_take
  b__law_take : Binds K fd__law_take ["_law_box", "_law_many"] []
  m__law_take : mg "_law_take" = some (.ref a__law_take)
  a__law_four : Addr
  fd__law_four : FuncData
  F__law_four : Fun K "_law_four" "_law_four" s__law_four a__law_four fd__law_four
  b__law_four : Binds K fd__law_four ["_law_box", "_law_most", "_law_far", "_law_width"] []
  m__law_four : mg "_law_four" = some (.ref a__law_four)
  a__law_made : Addr
  fd__law_made : FuncData
  F__law_made : Fun K "_law_made" "_law_made" s__law_made a__law_made fd__law_made
  b__law_made : Binds K fd__law_made ["_law_row"] []
  m__law_made : mg "_law_made" = some (.ref a__law_made)
  a__law_told : Addr
  fd__law_told : FuncData
  F__law_told : Fun K "_law_told" "_law_told" s__law_told a__law_told fd__law_told
  b__law_told : Binds K fd__law_told ["_law_form"] []
  m__law_told : mg "_law_told" = some (.ref a__law_told)
  a__law_number : Addr
  fd__law_number : FuncData
  F__law_number : Fun K "_law_number" "_law_number" s__law_number a__law_number fd__law_number
  b__law_number : Binds K fd__law_number ["_law_box"] []
  m__law_number : mg "_law_number" = some (.ref a__law_number)
  a__law_value : Addr
  fd__law_value : FuncData
  F__law_value : Fun K "_law_value" "_law_value" s__law_value a__law_value fd__law_value
  b__law_value : Binds K fd__law_value ["_law_row", "_law_worths"] []
  m__law_value : mg "_law_value" = some (.ref a__law_value)
  a__law_put : Addr
  fd__law_put : FuncData
  F__law_put : Fun K "_law_put" "_law_put" s__law_put a__law_put fd__law_put
  b__law_put : Binds K fd__law_put ["_law_row", "_law_others"] []
  m__law_put : mg "_law_put" = some (.ref a__law_put)
  a__law_asked : Addr
  fd__law_asked : FuncData
  F__law_asked : Fun K "_law_asked" "_law_asked" s__law_asked a__law_asked fd__law_asked
  b__law_asked : Binds K fd__law_asked ["_law_form", "_law_others", "_law_left"] []
  m__law_asked : mg "_law_asked" = some (.ref a__law_asked)
  a__law_twice_right : Addr
  fd__law_twice_right : FuncData
  F__law_twice_right : Fun K "_law_twice_right" "_law_twice_right" s__law_twice_right a__law_twice_right fd__law_twice_right
  b__law_twice_right : Binds K fd__law_twice_right ["_law_row", "_law_there", "_law_found", "_law_second"] []
  m__law_twice_right : mg "_law_twice_right" = some (.ref a__law_twice_right)
  a__law_values_right : Addr
  fd__law_values_right : FuncData
  F__law_values_right : Fun K "_law_values_right" "_law_values_right" s__law_values_right a__law_values_right fd__law_values_right
  b__law_values_right : Binds K fd__law_values_right ["_law_row", "_law_there", "_law_found", "_law_worths"] []
  m__law_values_right : mg "_law_values_right" = some (.ref a__law_values_right)
  a__law_sums_right : Addr
  fd__law_sums_right : FuncData
  F__law_sums_right : Fun K "_law_sums_right" "_law_sums_right" s__law_sums_right a__law_sums_right fd__law_sums_right
  b__law_sums_right : Binds K fd__law_sums_right ["_law_row", "_law_other", "_law_times", "_law_worths"] []
  m__law_sums_right : mg "_law_sums_right" = some (.ref a__law_sums_right)
  a_law : Addr
  fd_law : FuncData
  F_law : Fun K "law" "law" s_law a_law fd_law
  b_law : Binds K fd_law ["_law_script"] []
  m_law : mg "law" = some (.ref a_law)
  R_mul : OpR' K c_Form .Mult a_Form___rmul__
  O_add : OpC K c_Form .Add a_Form___add__
/-! ### forms -/
theorem bi_int : bootBuiltins "int" = some (.type "int") := by decide +kernel
theorem bi_bool : bootBuiltins "bool" = some (.type "bool") := by decide +kernel
abbrev r4 (a b c d : Int) : D := .tup [.int a, .int b, .int c, .int d]
abbrev fm (a b c d : Int) : D := .obj 0 [r4 a b c d]
def wh : D → Option Bool
  | .int _ => some true
  | .bl _ => some false
  | .non => some false
  | .str _ => some false
  | .tup _ => some false
  | .lst _ => some false
  | .obj 0 _ => some false
  | _ => none
def ctWhole : Ct := fun args cs s cs' => ∃ d b, args = [.dat d] ∧ wh d = some b ∧ cs = [] ∧ s = .dat (.bl b) ∧ cs' = []
def ctInit : Ct := fun args cs s cs' => ∃ d a b c : Int, args = [.cel 0, .dat (.int d), .dat (.int a), .dat (.int b), .dat (.int c)] ∧ cs = [.ins 0 []] ∧ s = .dat .non ∧ cs' = [.ins 0 [("row", r4 a b c d)]]
section
variable {T : Tab} {P : Program} {w : World} {K : PySem.W.Frag} {mg : Str → Option Value} {base : Heap}
theorem Tx.ok_is_whole (t : Tx T K mg) : FnOk P w K mg base CX0 1 t.a_is_whole t.fd_is_whole ["value"] (spC T K ctWhole) := by
  refine fn_ok t.F_is_whole sc_is_whole (fun args cs s cs' h => ?_) (fun cdv A outer sh H E hr args cs s cs' h => ?_)
  · obtain ⟨d, b, rfl, _⟩ := h; rfl
  · obtain ⟨d, b, rfl, hd, rfl, rfl, rfl⟩ := h
    match d, hd with
    | .int i, hd =>
      obtain rfl := Option.some.inj hd
      exact dss_cons (ds_ret (de_andT (de_isi t.z_isinstance t.z_int bi_int (de_name 0 rfl) rfl rfl) (de_one (de_not (de_isi t.z_isinstance t.z_bool bi_bool (de_name 0 rfl) rfl rfl)))) ⟨rfl, rfl⟩)
    | .bl i, hd =>
      obtain rfl := Option.some.inj hd
      exact dss_cons (ds_ret (de_andT (de_isi t.z_isinstance t.z_int bi_int (de_name 0 rfl) rfl rfl) (de_one (de_not (de_isi t.z_isinstance t.z_bool bi_bool (de_name 0 rfl) rfl rfl)))) ⟨rfl, rfl⟩)
    | .non, hd =>
      obtain rfl := Option.some.inj hd
      exact dss_cons (ds_ret (de_andF (de_isi t.z_isinstance t.z_int bi_int (de_name 0 rfl) rfl rfl)) ⟨rfl, rfl⟩)
    | .str _, hd =>
      obtain rfl := Option.some.inj hd
      exact dss_cons (ds_ret (de_andF (de_isi t.z_isinstance t.z_int bi_int (de_name 0 rfl) rfl rfl)) ⟨rfl, rfl⟩)
    | .tup _, hd =>
      obtain rfl := Option.some.inj hd
      exact dss_cons (ds_ret (de_andF (de_isi t.z_isinstance t.z_int bi_int (de_name 0 rfl) rfl rfl)) ⟨rfl, rfl⟩)
    | .lst _, hd =>
      obtain rfl := Option.some.inj hd
      exact dss_cons (ds_ret (de_andF (de_isi t.z_isinstance t.z_int bi_int (de_name 0 rfl) rfl rfl)) ⟨rfl, rfl⟩)
    | .obj 0 _, hd =>
      obtain rfl := Option.some.inj hd
      exact dss_cons (ds_ret (de_andF (de_isiOB t.z_isinstance t.T_Form t.i_Form t.z_int bi_int (de_name 0 rfl) (kit_sub t.sub_Form_int km_int))) ⟨rfl, rfl⟩)
    | .obj (_ + 1) _, hd => exact nomatch hd
    | .scr _, hd => exact nomatch hd
theorem Tx.ok_init (t : Tx T K mg) : FnOk P w K mg base CX0 2 t.a_Form___init__ t.fd_Form___init__ ["self", "const", "i", "j", "p"] (spC T K ctInit) := by
  refine fn_okD t.F_Form___init__ sc_Form___init__ (fun args cs s cs' h => ?_) (fun cdv A outer sh H E hr args cs s cs' h => ?_)
  · obtain ⟨d, a, b, c, rfl, _⟩ := h; rfl
  · obtain ⟨d, a, b, c, rfl, rfl, rfl, rfl⟩ := h
    have nd := sc_Form___init__.nd
    refine dss_cons (ds_for (di_tup (de_tup (ds := [.int d, .int a, .int b, .int c]) (da_cons (de_name 1 rfl) (da_cons (de_name 2 rfl) (da_cons (de_name 3 rfl) (da_cons (de_name 4 rfl) da_nil)))) (by show (4 : Nat) ≤ sizeLine; decide))) (dg_name 5 nd) ?_)
    iterate 4
      refine ⟨_, rfl, ?_⟩
      show DSs _ _ _ ⟨[_, _, _, _, _, _], _⟩ _ _
      refine dss_cons (ds_if (dt_not (dt_val (de_call t.ok_is_whole (hr.mono (by decide)) t.m_is_whole t.F_is_whole.kp t.b_is_whole (ds := [.int _]) (da_cons (de_name 5 rfl) da_nil) ⟨_, _, rfl, rfl, rfl, rfl, rfl⟩))) (fun hc => nomatch hc) (fun hc => ?_))
      refine dss_nil ?_
      show DSs _ _ _ ⟨[_, _, _, _, _, _], _⟩ _ _
      refine dss_nil ?_
    show DSs _ _ _ ⟨[_, _, _, _, _, _], _⟩ _ _
    refine dss_cons (ds_fldN t.T_Form t.cl_Form t.no_Form_row (de_tup (ds := [.int a, .int b, .int c, .int d]) (da_cons (de_name 2 rfl) (da_cons (de_name 3 rfl) (da_cons (de_name 4 rfl) (da_cons (de_name 1 rfl) da_nil)))) (by show (4 : Nat) ≤ sizeLine; decide)) (de_name 0 rfl) rfl rfl (by decide) ?_)
    exact dss_nil ⟨rfl, rfl⟩
end

/-! ### forms: attributes, making -/
def ctI (j : Nat) : Ct := fun args cs s cs' => ∃ a b c d : Int, args = [.dat (fm a b c d)] ∧ cs = [] ∧ s = .dat (.int ([a, b, c, d].getD j 0)) ∧ cs' = []
def ctFormOf : Ct := fun args cs s cs' => ∃ a b c d : Int, args = [.dat (r4 a b c d)] ∧ cs = [] ∧ s = .dat (fm a b c d) ∧ cs' = []
section
variable {X : Cx} {T : Tab} {S S1 S2 : Sta} {e : Expr} {pos p kp1 kp2 kp3 : Pos} {a b c d : Int} {r : D} {e1 e2 e3 : Expr}
theorem Tx.row (t : Tx T X.K X.mg) (he : DE X T S e (.dat (.obj 0 [r])) S1) (hb : attributeBase e "row" X.env (eval e X.env) = eval e X.env := by rfl) : DE X T S (.Attribute e "row" pos) (.dat r) S1 := de_fld t.T_Form t.cl_Form t.no_Form_row rfl he rfl hb
theorem kb_init {K : PySem.W.Frag} {f : Addr} {fd : FuncData} (F : FD K "__init__" "Form.__init__" s_Form___init__ [.int 0] [("i", .int 0), ("j", .int 0), ("p", .int 0)] f fd) : ∃ its mv : List Value, KBn K fd ["self", "const", "i", "j", "p"] 2 ["i", "j", "p"] (fun us ws => us ++ ws) (fun vs zs => vs ++ zs) :=
  F.kbinds 2 ["i", "j", "p"] [] (fun us _ _ ws => us ++ ws) (by decide) (by decide) (by simp) (fun a _ _ b => a.append b) fun T D doc pm an cdv ct us its mv ws l1 l2 l3 l4 =>
    match us, its, mv, ws, l1, l2, l3, l4 with | [_, _], [_], [], [_, _, _], _, _, _, _ => ⟨_, rfl, rfl⟩
theorem put_app {args kargs : List D} : Put (fun vs zs => vs ++ zs) args kargs (args ++ kargs) := fun x ws zs h1 h2 => ⟨ws ++ zs, rfl, fun _ _ _ _ r1 r2 => r1.append r2⟩
theorem Tx.mkF (t : Tx T X.K X.mg) (hr : Room 3 X.A) (ha : DA X T S [e] [.dat (.int d)] S1) (hk : DK X T S1 [⟨some "i", e1, kp1⟩, ⟨some "j", e2, kp2⟩, ⟨some "p", e3, kp3⟩] [.dat (.int a), .dat (.int b), .dat (.int c)] S2) (hg : Gl X "Form" := by rfl)
    (hall : (backToKw pos (keywordEach [⟨some "i", e1, kp1⟩, ⟨some "j", e2, kp2⟩, ⟨some "p", e3, kp3⟩] X.env)).all (·.1.isSome) = true := by rfl) (hks : (backToKw pos (keywordEach [⟨some "i", e1, kp1⟩, ⟨some "j", e2, kp2⟩, ⟨some "p", e3, kp3⟩] X.env)).filterMap (·.1) = (["i", "j", "p"] : List Str) := by rfl)
    (hs : starEach [e] X.env = (false, eval e X.env) :: starEach [] X.env := by rfl) (hpl : ((backTo pos (starEach [e] X.env)).any (·.1) || (backToKw pos (keywordEach [⟨some "i", e1, kp1⟩, ⟨some "j", e2, kp2⟩, ⟨some "p", e3, kp3⟩] X.env)).any (·.1.isNone)) = false := by rfl) :
    DE X T S (.Call (.Name "Form" p) [e] [⟨some "i", e1, kp1⟩, ⟨some "j", e2, kp2⟩, ⟨some "p", e3, kp3⟩] pos) (.dat (fm a b c d)) S2 := by
  obtain ⟨its, mv, hb⟩ := kb_init t.F_Form___init__
  exact de_makeK (args := [.int d]) (kargs := [.int a, .int b, .int c]) (ds := [r4 a b c d]) t.T_Form t.K_Form t.ok_init hr t.m_Form hb put_app ha hk ⟨d, a, b, c, rfl, rfl, rfl, rfl⟩ rfl rfl rfl hg hall hks (by decide) hs hpl
end
section
variable {T : Tab} {P : Program} {w : World} {K : PySem.W.Frag} {mg : Str → Option Value} {base : Heap}
theorem Tx.ok_i (t : Tx T K mg) : FnOk P w K mg base CX0 1 t.a_Form_i t.fd_Form_i ["self"] (spC T K (ctI 0)) := by
  refine fn_ok t.F_Form_i sc_Form_i (fun args cs s cs' h => ?_) (fun cdv A outer sh H E hr args cs s cs' h => ?_)
  · obtain ⟨_, _, _, _, rfl, _⟩ := h; rfl
  · obtain ⟨a, b, c, d, rfl, rfl, rfl, rfl⟩ := h
    exact dss_cons (ds_ret (de_sub1 (t.row (de_name 0 rfl)) de_int (ix_T rfl)) ⟨rfl, rfl⟩)
theorem Tx.ok_j (t : Tx T K mg) : FnOk P w K mg base CX0 1 t.a_Form_j t.fd_Form_j ["self"] (spC T K (ctI 1)) := by
  refine fn_ok t.F_Form_j sc_Form_j (fun args cs s cs' h => ?_) (fun cdv A outer sh H E hr args cs s cs' h => ?_)
  · obtain ⟨_, _, _, _, rfl, _⟩ := h; rfl
  · obtain ⟨a, b, c, d, rfl, rfl, rfl, rfl⟩ := h
    exact dss_cons (ds_ret (de_sub1 (t.row (de_name 0 rfl)) de_int (ix_T rfl)) ⟨rfl, rfl⟩)
theorem Tx.ok_p (t : Tx T K mg) : FnOk P w K mg base CX0 1 t.a_Form_p t.fd_Form_p ["self"] (spC T K (ctI 2)) := by
  refine fn_ok t.F_Form_p sc_Form_p (fun args cs s cs' h => ?_) (fun cdv A outer sh H E hr args cs s cs' h => ?_)
  · obtain ⟨_, _, _, _, rfl, _⟩ := h; rfl
  · obtain ⟨a, b, c, d, rfl, rfl, rfl, rfl⟩ := h
    exact dss_cons (ds_ret (de_sub1 (t.row (de_name 0 rfl)) de_int (ix_T rfl)) ⟨rfl, rfl⟩)
theorem Tx.ok_const (t : Tx T K mg) : FnOk P w K mg base CX0 1 t.a_Form_const t.fd_Form_const ["self"] (spC T K (ctI 3)) := by
  refine fn_ok t.F_Form_const sc_Form_const (fun args cs s cs' h => ?_) (fun cdv A outer sh H E hr args cs s cs' h => ?_)
  · obtain ⟨_, _, _, _, rfl, _⟩ := h; rfl
  · obtain ⟨a, b, c, d, rfl, rfl, rfl, rfl⟩ := h
    exact dss_cons (ds_ret (de_sub1 (t.row (de_name 0 rfl)) de_int (ix_T rfl)) ⟨rfl, rfl⟩)
theorem Tx.ok_form_of (t : Tx T K mg) : FnOk P w K mg base CX0 4 t.a_form_of t.fd_form_of ["row"] (spC T K ctFormOf) := by
  refine fn_ok t.F_form_of sc_form_of (fun args cs s cs' h => ?_) (fun cdv A outer sh H E hr args cs s cs' h => ?_)
  · obtain ⟨_, _, _, _, rfl, _⟩ := h; rfl
  · obtain ⟨a, b, c, d, rfl, rfl, rfl, rfl⟩ := h
    exact dss_cons (ds_ret (t.mkF hr (da_cons (de_sub1 (de_name 0 rfl) de_int (ix_T rfl)) da_nil) (dk_cons (de_sub1 (de_name 0 rfl) de_int (ix_T rfl)) (dk_cons (de_sub1 (de_name 0 rfl) de_int (ix_T rfl)) (dk_cons (de_sub1 (de_name 0 rfl) de_int (ix_T rfl)) dk_nil)))) ⟨rfl, rfl⟩)
end
section
variable {X : Cx} {T : Tab} {S S1 : Sta} {e : Expr} {pos : Pos} {a b c d : Int}
theorem Tx.pI (t : Tx T X.K X.mg) (hr : Room 2 X.A) (he : DE X T S e (.dat (fm a b c d)) S1) (hab : attributeBase e "i" X.env (eval e X.env) = eval e X.env := by rfl) : DE X T S (.Attribute e "i" pos) (.dat (.int a)) S1 := de_prop t.T_Form t.cl_Form t.P_Form_i t.ok_i hr t.b_Form_i he ⟨a, b, c, d, rfl, rfl, rfl, rfl⟩ hab
theorem Tx.pJ (t : Tx T X.K X.mg) (hr : Room 2 X.A) (he : DE X T S e (.dat (fm a b c d)) S1) (hab : attributeBase e "j" X.env (eval e X.env) = eval e X.env := by rfl) : DE X T S (.Attribute e "j" pos) (.dat (.int b)) S1 := de_prop t.T_Form t.cl_Form t.P_Form_j t.ok_j hr t.b_Form_j he ⟨a, b, c, d, rfl, rfl, rfl, rfl⟩ hab
theorem Tx.pP (t : Tx T X.K X.mg) (hr : Room 2 X.A) (he : DE X T S e (.dat (fm a b c d)) S1) (hab : attributeBase e "p" X.env (eval e X.env) = eval e X.env := by rfl) : DE X T S (.Attribute e "p" pos) (.dat (.int c)) S1 := de_prop t.T_Form t.cl_Form t.P_Form_p t.ok_p hr t.b_Form_p he ⟨a, b, c, d, rfl, rfl, rfl, rfl⟩ hab
theorem Tx.pC (t : Tx T X.K X.mg) (hr : Room 2 X.A) (he : DE X T S e (.dat (fm a b c d)) S1) (hab : attributeBase e "const" X.env (eval e X.env) = eval e X.env := by rfl) : DE X T S (.Attribute e "const" pos) (.dat (.int d)) S1 := de_prop t.T_Form t.cl_Form t.P_Form_const t.ok_const hr t.b_Form_const he ⟨a, b, c, d, rfl, rfl, rfl, rfl⟩ hab
end

/-! ### forms: ==, +, *, value, put -/
abbrev Q4 := Int × Int × Int × Int
abbrev rq (q : Q4) : D := r4 q.1 q.2.1 q.2.2.1 q.2.2.2
abbrev fq (q : Q4) : D := .obj 0 [rq q]
def Sm (x : Int) : Prop := -(2 ^ 64) < x ∧ x < 2 ^ 64
theorem Sm.ok {x : Int} (h : Sm x) (y : Int) : IntMulOk x y := Dl.mul_l h.1 h.2
def addQ (x y : Q4) : Q4 := (x.1 + y.1, x.2.1 + y.2.1, x.2.2.1 + y.2.2.1, x.2.2.2 + y.2.2.2)
def mulQ (n : Int) (x : Q4) : Q4 := (n * x.1, n * x.2.1, n * x.2.2.1, n * x.2.2.2)
def valQ (r : Q4) (x y z : Int) : Int := r.1 * x + r.2.1 * y + r.2.2.1 * z + r.2.2.2
def putQ (r x y z : Q4) : Q4 := (r.1 * x.1 + r.2.1 * y.1 + r.2.2.1 * z.1, r.1 * x.2.1 + r.2.1 * y.2.1 + r.2.2.1 * z.2.1, r.1 * x.2.2.1 + r.2.1 * y.2.2.1 + r.2.2.1 * z.2.2.1, r.1 * x.2.2.2 + r.2.1 * y.2.2.2 + r.2.2.1 * z.2.2.2 + r.2.2.2)
def ctEq : Ct := fun args cs s cs' => ∃ x y : Q4, args = [.dat (fq x), .dat (fq y)] ∧ cs = [] ∧ s = .dat (.bl (eqD (rq x) (rq y))) ∧ cs' = []
def ctAdd : Ct := fun args cs s cs' => ∃ x : Q4, cs = [] ∧ cs' = [] ∧ ((∃ y : Q4, args = [.dat (fq x), .dat (fq y)] ∧ s = .dat (fq (addQ x y))) ∨ ∃ n : Int, args = [.dat (fq x), .dat (.int n)] ∧ s = .dat (fq (x.1, x.2.1, x.2.2.1, x.2.2.2 + n)))
def ctRmul : Ct := fun args cs s cs' => ∃ (x : Q4) (n : Int), args = [.dat (fq x), .dat (.int n)] ∧ (∀ k, IntMulOk n k) ∧ cs = [] ∧ s = .dat (fq (mulQ n x)) ∧ cs' = []
def Sm3 (r : Q4) : Prop := Sm r.1 ∧ Sm r.2.1 ∧ Sm r.2.2.1
def ctValue : Ct := fun args cs s cs' => ∃ (r : Q4) (x y z : Int), args = [.dat (fq r), .dat (.int x), .dat (.int y), .dat (.int z)] ∧ Sm3 r ∧ cs = [] ∧ s = .dat (.int (valQ r x y z)) ∧ cs' = []
def fo : Option Q4 → D
  | none => .non
  | some q => fq q
def uI : Q4 := (1, 0, 0, 0)
def uJ : Q4 := (0, 1, 0, 0)
def uP : Q4 := (0, 0, 1, 0)
def ctRows : Ct := fun args cs s cs' => ∃ x y z : Option Q4, args = [.dat (fo x), .dat (fo y), .dat (fo z)] ∧ cs = [] ∧ s = .dat (.tup [rq (x.getD uI), rq (y.getD uJ), rq (z.getD uP)]) ∧ cs' = []
def ctRowPut : Ct := fun args cs s cs' => ∃ r x y z : Q4, args = [.dat (rq r), .dat (.tup [rq x, rq y, rq z])] ∧ Sm3 r ∧ cs = [] ∧ s = .dat (rq (putQ r x y z)) ∧ cs' = []
def ctPut : Ct := fun args cs s cs' => ∃ (r : Q4) (x y z : Option Q4), args = [.dat (fq r), .dat (fo x), .dat (fo y), .dat (fo z)] ∧ Sm3 r ∧ cs = [] ∧ s = .dat (fq (putQ r (x.getD uI) (y.getD uJ) (z.getD uP))) ∧ cs' = []
section
variable {T : Tab} {P : Program} {w : World} {K : PySem.W.Frag} {mg : Str → Option Value} {base : Heap}
theorem Tx.ok_eq (t : Tx T K mg) : FnOk P w K mg base CX0 1 t.a_Form___eq__ t.fd_Form___eq__ ["self", "other"] (spC T K ctEq) := by
  refine fn_ok t.F_Form___eq__ sc_Form___eq__ (fun args cs s cs' h => ?_) (fun cdv A outer sh H E hr args cs s cs' h => ?_)
  · obtain ⟨_, _, rfl, _⟩ := h; rfl
  · obtain ⟨x, y, rfl, rfl, rfl, rfl⟩ := h
    exact dss_cons (ds_ret (de_andT (de_isiO t.z_isinstance t.T_Form t.i_Form t.m_Form (de_name 1 rfl) kit_self) (de_one (de_cm (t.row (de_name 0 rfl)) (t.row (de_name 1 rfl)) (cmp_eqD hr.units rfl rfl)))) ⟨rfl, rfl⟩)
theorem Tx.ok_add (t : Tx T K mg) : FnOk P w K mg base CX0 5 t.a_Form___add__ t.fd_Form___add__ ["self", "other"] (spC T K ctAdd) := by
  refine fn_ok t.F_Form___add__ sc_Form___add__ (fun args cs s cs' h => ?_) (fun cdv A outer sh H E hr args cs s cs' h => ?_)
  · obtain ⟨_, _, _, ⟨_, rfl, _⟩ | ⟨_, rfl, _⟩⟩ := h <;> rfl
  · obtain ⟨x, rfl, rfl, h⟩ := h
    have nd := sc_Form___add__.nd
    rcases h with ⟨y, rfl, rfl⟩ | ⟨n, rfl, rfl⟩
    · refine dss_cons (ds_if (dt_val (de_call t.ok_is_whole (hr.mono (by decide)) t.m_is_whole t.F_is_whole.kp t.b_is_whole (ds := [fq _]) (da_cons (de_name 1 rfl) da_nil) ⟨_, _, rfl, rfl, rfl, rfl, rfl⟩)) (fun hc => nomatch hc) (fun hc => ?_))
      refine dss_nil ?_
      refine dss_cons (ds_if (dt_not (dt_val (de_isiO t.z_isinstance t.T_Form t.i_Form t.m_Form (de_name 1 rfl) kit_self))) (fun hc => nomatch hc) (fun hc => ?_))
      refine dss_nil ?_
      refine dss_cons (ds_ret (de_call t.ok_form_of (hr.mono (by decide)) t.m_form_of t.F_form_of.kp t.b_form_of (ds := [rq (addQ x y)]) (da_cons (de_cb t.z_tuple (da_cons (de_lc nd (dlc (cs' := []) (acc := [.int _, .int _, .int _, .int _]) (own := [("a", 2), ("b", 3)]) (di_zipT (da_cons (t.row (de_name 0 rfl)) (da_cons (t.row (de_name 1 rfl)) da_nil)) t.z_zip) (blkOk_by (by kernel_rfl)) (fun _ _ _ _ _ => (dg_tup rfl (dgs_cons (dg_name 2 nd) (dgs_cons (dg_name 3 nd) dgs_nil)))) (by decide) ?_ (by show (4 : Nat) < sizeLine; decide))) da_nil) (cb_tupL rfl)) da_nil) ⟨_, _, _, _, rfl, rfl, rfl, rfl⟩) ⟨rfl, rfl⟩)
      iterate 4 refine ⟨_, _, _, _, rfl, lcb (fun _ _ _ _ _ => (de_bin (de_name 2 rfl) (de_name 3 rfl) bin_add)), ?_, rfl⟩
      exact ⟨rfl, rfl⟩
    · refine dss_cons (ds_if (dt_val (de_call t.ok_is_whole (hr.mono (by decide)) t.m_is_whole t.F_is_whole.kp t.b_is_whole (ds := [.int _]) (da_cons (de_name 1 rfl) da_nil) ⟨_, _, rfl, rfl, rfl, rfl, rfl⟩)) (fun hc => ?_) (fun hc => nomatch hc))
      exact dss_cons (ds_ret (de_call t.ok_form_of (hr.mono (by decide)) t.m_form_of t.F_form_of.kp t.b_form_of (ds := [rq (x.1, x.2.1, x.2.2.1, x.2.2.2 + n)]) (da_cons (de_bin (de_slice (t.row (de_name 0 rfl)) do_none (do_some de_int) slc_T) (de_tup (ds := [.int _]) (da_cons (de_bin (de_sub1 (t.row (de_name 0 rfl)) de_int (ix_T rfl)) (de_name 1 rfl) bin_add) da_nil) (by show (1 : Nat) ≤ sizeLine; decide)) (bin_addT (by show (4 : Nat) ≤ sizeLine; decide))) da_nil) ⟨_, _, _, _, rfl, rfl, rfl, rfl⟩) ⟨rfl, rfl⟩)
theorem Tx.ok_rmul (t : Tx T K mg) : FnOk P w K mg base CX0 5 t.a_Form___rmul__ t.fd_Form___rmul__ ["self", "other"] (spC T K ctRmul) := by
  refine fn_ok t.F_Form___rmul__ sc_Form___rmul__ (fun args cs s cs' h => ?_) (fun cdv A outer sh H E hr args cs s cs' h => ?_)
  · obtain ⟨_, _, rfl, _⟩ := h; rfl
  · obtain ⟨x, n, rfl, hm, rfl, rfl, rfl⟩ := h
    have nd := sc_Form___rmul__.nd
    refine dss_cons (ds_if (dt_not (dt_val (de_call t.ok_is_whole (hr.mono (by decide)) t.m_is_whole t.F_is_whole.kp t.b_is_whole (ds := [.int _]) (da_cons (de_name 1 rfl) da_nil) ⟨_, _, rfl, rfl, rfl, rfl, rfl⟩))) (fun hc => nomatch hc) (fun hc => ?_))
    refine dss_nil ?_
    refine dss_cons (ds_ret (de_call t.ok_form_of (hr.mono (by decide)) t.m_form_of t.F_form_of.kp t.b_form_of (ds := [rq (mulQ n x)]) (da_cons (de_cb t.z_tuple (da_cons (de_lc nd (dlc (cs' := []) (acc := [.int _, .int _, .int _, .int _]) (own := [("k", 2)]) (di_tup (t.row (de_name 0 rfl))) (blkOk_by (by kernel_rfl)) (fun _ _ _ _ _ => (dg_name 2 nd)) (by decide) ?_ (by show (4 : Nat) < sizeLine; decide))) da_nil) (cb_tupL rfl)) da_nil) ⟨_, _, _, _, rfl, rfl, rfl, rfl⟩) ⟨rfl, rfl⟩)
    iterate 4 refine ⟨_, _, _, _, rfl, lcb (fun _ _ _ _ _ => (de_bin (de_name 1 rfl) (de_name 2 rfl) (bin_mul (hm _)))), ?_, rfl⟩
    exact ⟨rfl, rfl⟩
theorem Tx.ok_value (t : Tx T K mg) : FnOk P w K mg base CX0 1 t.a_Form_value t.fd_Form_value ["self", "i", "j", "p"] (spC T K ctValue) := by
  refine fn_okD t.F_Form_value sc_Form_value (fun args cs s cs' h => ?_) (fun cdv A outer sh H E hr args cs s cs' h => ?_)
  · obtain ⟨_, _, _, _, rfl, _⟩ := h; rfl
  · obtain ⟨r, x, y, z, rfl, ⟨h1, h2, h3⟩, rfl, rfl, rfl⟩ := h
    exact dss_cons (ds_ret (de_bin (de_bin (de_bin (de_bin (de_sub1 (t.row (de_name 0 rfl)) de_int (ix_T rfl)) (de_name 1 rfl) (bin_mul (h1.ok _))) (de_bin (de_sub1 (t.row (de_name 0 rfl)) de_int (ix_T rfl)) (de_name 2 rfl) (bin_mul (h2.ok _))) bin_add) (de_bin (de_sub1 (t.row (de_name 0 rfl)) de_int (ix_T rfl)) (de_name 3 rfl) (bin_mul (h3.ok _))) bin_add) (de_sub1 (t.row (de_name 0 rfl)) de_int (ix_T rfl)) bin_add) ⟨rfl, rfl⟩)
end
section
variable {X : Cx} {T : Tab} {S : Sta} {e e' u : Expr} {p1 p2 p3 p4 : Pos} {k1 : Nat} {o : Option Q4} {uq : Q4}
theorem Tx.pick (t : Tx T X.K X.mg) (h1 : DE X T S e (.dat (fo o)) S) (h2 : DE X T S e' (.dat (fo o)) S) (h3 : DE X T S u (.dat (rq uq)) S) (hb : attributeBase e' "row" X.env (eval e' X.env) = eval e' X.env := by rfl) : DE X T S (.IfExp (.Compare e [.Is] [.Constant .none k1 p1] p2) u (.Attribute e' "row" p3) p4) (.dat (rq (o.getD uq))) S := by
  cases o with
  | none => exact de_ifT (dt_cm h1 de_non cmp_isN) h3
  | some q => exact de_ifF (dt_cm h1 de_non cmp_isN) (t.row h2 hb)
end
section
variable {T : Tab} {P : Program} {w : World} {K : PySem.W.Frag} {mg : Str → Option Value} {base : Heap}
theorem Tx.ok_rows_put (t : Tx T K mg) : FnOk P w K mg base CX0 1 t.a_rows_put t.fd_rows_put ["i", "j", "p"] (spC T K ctRows) := by
  refine fn_ok t.F_rows_put sc_rows_put (fun args cs s cs' h => ?_) (fun cdv A outer sh H E hr args cs s cs' h => ?_)
  · obtain ⟨_, _, _, rfl, _⟩ := h; rfl
  · obtain ⟨x, y, z, rfl, rfl, rfl, rfl⟩ := h
    have nd := sc_rows_put.nd
    refine dss_cons (ds_asg 3 nd (t.pick (uq := uI) (de_name 0 rfl) (de_name 0 rfl) (de_tup (ds := [.int 1, .int 0, .int 0, .int 0]) (da_cons de_int (da_cons de_int (da_cons de_int (da_cons de_int da_nil)))) (by show (4 : Nat) ≤ sizeLine; decide))) ?_)
    show DSs _ _ _ ⟨[_, _, _, _, _], _⟩ _ _
    refine dss_cons (ds_asg 4 nd (t.pick (uq := uJ) (de_name 1 rfl) (de_name 1 rfl) (de_tup (ds := [.int 0, .int 1, .int 0, .int 0]) (da_cons de_int (da_cons de_int (da_cons de_int (da_cons de_int da_nil)))) (by show (4 : Nat) ≤ sizeLine; decide))) ?_)
    show DSs _ _ _ ⟨[_, _, _, _, _], _⟩ _ _
    exact dss_cons (ds_ret (de_tup (ds := [_, _, _]) (da_cons (de_name 3 rfl) (da_cons (de_name 4 rfl) (da_cons (t.pick (uq := uP) (de_name 2 rfl) (de_name 2 rfl) (de_tup (ds := [.int 0, .int 0, .int 1, .int 0]) (da_cons de_int (da_cons de_int (da_cons de_int (da_cons de_int da_nil)))) (by show (4 : Nat) ≤ sizeLine; decide))) da_nil))) (by show (3 : Nat) ≤ sizeLine; decide)) ⟨rfl, rfl⟩)
theorem Tx.ok_row_put (t : Tx T K mg) : FnOk P w K mg base CX0 1 t.a_row_put t.fd_row_put ["row", "others"] (spC T K ctRowPut) := by
  refine fn_ok t.F_row_put sc_row_put (fun args cs s cs' h => ?_) (fun cdv A outer sh H E hr args cs s cs' h => ?_)
  · obtain ⟨_, _, _, _, rfl, _⟩ := h; rfl
  · obtain ⟨r, x, y, z, rfl, ⟨h1, h2, h3⟩, rfl, rfl, rfl⟩ := h
    have nd := sc_row_put.nd
    refine dss_cons (ds_tup (de_name 1 rfl) (dg_tup rfl (dgs_cons (dg_name 2 nd) (dgs_cons (dg_name 3 nd) (dgs_cons (dg_name 4 nd) dgs_nil)))) rfl ?_)
    show DSs _ _ _ ⟨[_, _, _, _, _, _, _], _⟩ _ _
    refine dss_cons (ds_lc 5 nd (dlc (cs' := []) (acc := [.int (putQ r x y z).1, .int (putQ r x y z).2.1, .int (putQ r x y z).2.2.1, .int (r.1 * x.2.2.2 + r.2.1 * y.2.2.2 + r.2.2.1 * z.2.2.2)]) (own := [("k", 6)]) (di_range1 (da_cons de_int da_nil) t.z_range (by decide) (by decide)) (blkOk_by (by kernel_rfl)) (fun _ _ _ _ _ => (dg_name 6 nd)) (by decide) ?_ (by show (4 : Nat) < sizeLine; decide)) ?_)
    · iterate 4 refine ⟨_, _, _, _, rfl, lcb (fun _ _ _ _ _ => (de_bin (de_bin (de_bin (de_sub1 (de_name 0 rfl) de_int (ix_T rfl)) (de_sub1 (de_name 2 rfl) (de_name 6 rfl) (ix_T rfl)) (bin_mul (h1.ok _))) (de_bin (de_sub1 (de_name 0 rfl) de_int (ix_T rfl)) (de_sub1 (de_name 3 rfl) (de_name 6 rfl) (ix_T rfl)) (bin_mul (h2.ok _))) bin_add) (de_bin (de_sub1 (de_name 0 rfl) de_int (ix_T rfl)) (de_sub1 (de_name 4 rfl) (de_name 6 rfl) (ix_T rfl)) (bin_mul (h3.ok _))) bin_add)), ?_, rfl⟩
      exact ⟨rfl, rfl⟩
    show DSs _ _ _ ⟨[_, _, _, _, _, _, _], _⟩ _ _
    exact dss_cons (ds_ret (de_tup (ds := [.int _, .int _, .int _, .int _]) (da_cons (de_sub1 (de_name 5 rfl) de_int (ix_L rfl)) (da_cons (de_sub1 (de_name 5 rfl) de_int (ix_L rfl)) (da_cons (de_sub1 (de_name 5 rfl) de_int (ix_L rfl)) (da_cons (de_bin (de_sub1 (de_name 5 rfl) de_int (ix_L rfl)) (de_sub1 (de_name 0 rfl) de_int (ix_T rfl)) bin_add) da_nil)))) (by show (4 : Nat) ≤ sizeLine; decide)) ⟨rfl, rfl⟩)
theorem Tx.ok_put (t : Tx T K mg) : FnOk P w K mg base CX0 5 t.a_Form_put t.fd_Form_put ["self", "i", "j", "p"] (spC T K ctPut) := by
  refine fn_okD t.F_Form_put sc_Form_put (fun args cs s cs' h => ?_) (fun cdv A outer sh H E hr args cs s cs' h => ?_)
  · obtain ⟨_, _, _, _, rfl, _⟩ := h; rfl
  · obtain ⟨r, x, y, z, rfl, hs, rfl, rfl, rfl⟩ := h
    exact dss_cons (ds_ret (de_call t.ok_form_of (hr.mono (by decide)) t.m_form_of t.F_form_of.kp t.b_form_of (ds := [_]) (da_cons (de_call t.ok_row_put (hr.mono (by decide)) t.m_row_put t.F_row_put.kp t.b_row_put (ds := [_, _]) (da_cons (t.row (de_name 0 rfl)) (da_cons (de_call t.ok_rows_put (hr.mono (by decide)) t.m_rows_put t.F_rows_put.kp t.b_rows_put (ds := [_, _, _]) (da_cons (de_name 1 rfl) (da_cons (de_name 2 rfl) (da_cons (de_name 3 rfl) da_nil))) ⟨x, y, z, rfl, rfl, rfl, rfl⟩) da_nil)) ⟨r, _, _, _, rfl, hs, rfl, rfl, rfl⟩) da_nil) ⟨_, _, _, _, rfl, rfl, rfl, rfl⟩) ⟨rfl, rfl⟩)
end

/-! ### the box of drawn numbers -/
abbrev B := Int × Int
abbrev bx (b : B) : Cell := .lst [.int b.1, .int b.2]
def tk (b : B) (m : Int) : Int := if 0 < b.1 then b.1 % m else ((b.2 * 69623 % 2147483647) * 2147483647 + (((b.2 * 69623 % 2147483647) * 48271 + 30103) % 2147483629 + 1)) / 8191 % m
def nx (b : B) (m : Int) : B := if 0 < b.1 then (b.1 / m, b.2) else (b.1, ((b.2 * 69623 % 2147483647) * 48271 + 30103) % 2147483629 + 1)
def Ok (b : B) : Prop := 0 ≤ b.2 ∧ b.2 < 2 ^ 32
theorem tk_p {b : B} {m : Int} (h : 0 < b.1) : tk b m = b.1 % m := if_pos h
theorem tk_n {b : B} {m : Int} (h : ¬ 0 < b.1) : tk b m = ((b.2 * 69623 % 2147483647) * 2147483647 + (((b.2 * 69623 % 2147483647) * 48271 + 30103) % 2147483629 + 1)) / 8191 % m := if_neg h
theorem nx_p {b : B} {m : Int} (h : 0 < b.1) : nx b m = (b.1 / m, b.2) := if_pos h
theorem nx_n {b : B} {m : Int} (h : ¬ 0 < b.1) : nx b m = (b.1, ((b.2 * 69623 % 2147483647) * 48271 + 30103) % 2147483629 + 1) := if_neg h
theorem Ok.nx {b : B} (h : Ok b) (m : Int) : Ok (nx b m) := by
  by_cases hp : 0 < b.1
  · rw [nx_p hp]; exact h
  · rw [nx_n hp]; constructor <;> dsimp only <;> omega
theorem tk_lo {b : B} {m : Int} (h : 0 < m) : 0 ≤ tk b m := by
  by_cases hp : 0 < b.1
  · rw [tk_p hp]; exact Int.emod_nonneg _ (by omega)
  · rw [tk_n hp]; exact Int.emod_nonneg _ (by omega)
theorem tk_hi {b : B} {m : Int} (h : 0 < m) : tk b m < m := by
  by_cases hp : 0 < b.1
  · rw [tk_p hp]; exact Int.emod_lt_of_pos _ h
  · rw [tk_n hp]; exact Int.emod_lt_of_pos _ h
theorem lg {m : Int} (h0 : 0 < m) (h : m < 2 ^ 62) : m.natAbs.log2 < 9000 := by
  rw [Nat.log2_lt (by omega)]
  have : m.natAbs < 2 ^ 62 := by omega
  exact Nat.lt_of_lt_of_le this (Nat.pow_le_pow_right (by decide) (by decide))
def ctTake : Ct := fun args cs s cs' => ∃ (b : B) (m : Int), args = [.cel 0, .dat (.int m)] ∧ cs = [bx b] ∧ (0 < m ∧ m < 2 ^ 62) ∧ Ok b ∧ s = .dat (.int (tk b m)) ∧ cs' = [bx (nx b m)]
/-- a script's cell -/
def feedC (ns : List Int) (k : Nat) : Int := if k < ns.length then ns.getD k 0 else if 0 < ns.length then 7919 * (k : Int) + 11 + ns.getD (k % ns.length) 0 % 2147483629 * 69623 else 7919 * (k : Int) + 11
def feedB (ns : List Int) (k : Nat) : B := (if 10 ^ 18 ≤ feedC ns k then feedC ns k else 0, (feedC ns k % 2147483629 + 104729 * (k : Int) + 1) ^ 5 % 2147483647 % 2147483646 + 1)
theorem feedB_ok (ns : List Int) (k : Nat) : Ok (feedB ns k) := by
  unfold Ok feedB
  constructor <;> dsimp only <;> omega
abbrev scD (ns : List Int) : D := .scr (ns.map D.int)
def ctFeed : Ct := fun args cs s cs' => ∃ (ns : List Int) (k : Nat), args = [.dat (scD ns), .dat (.int k)] ∧ k < 100 ∧ cs = [] ∧ s = .cel 0 ∧ cs' = [bx (feedB ns k)]
theorem atI_scr {ns : List Int} {k : Nat} (h : k < ns.length) : atI (ns.map D.int) (k : Int) = some (.int (ns.getD k 0)) := by
  refine atI_nat (j := k) ?_
  rw [List.getElem?_map, List.getElem?_eq_getElem h, List.getD_eq_getElem?_getD, List.getElem?_eq_getElem h]
  rfl
section
variable {T : Tab} {P : Program} {w : World} {K : PySem.W.Frag} {mg : Str → Option Value} {base : Heap}
theorem Tx.ok_take (t : Tx T K mg) : FnOk P w K mg base CX0 1 t.a__law_take t.fd__law_take ["_law_box", "_law_many"] (spC T K ctTake) := by
  refine fn_ok t.F__law_take sc__law_take (fun args cs s cs' h => ?_) (fun cdv A outer sh H E hr args cs s cs' h => ?_)
  · obtain ⟨_, _, rfl, _⟩ := h; rfl
  · obtain ⟨b, m, rfl, rfl, ⟨hm, hm2⟩, ⟨hy, hy2⟩, rfl, rfl⟩ := h
    have hl := lg hm hm2
    have nd := sc__law_take.nd
    refine dss_cons (ds_if (dt_cm (de_sub1 (de_name 0 rfl) de_int (ix_C rfl rfl)) de_int cmp_gt) (fun h1 => ?_) (fun h1 => ?_))
    · refine dss_cons (ds_asg 2 nd (de_bin (de_cb t.z_int (da_cons (de_sub1 (de_name 0 rfl) de_int (ix_C rfl rfl)) da_nil) cb_int) (de_name 1 rfl) (bin_mod hm)) ?_)
      show DSs _ _ _ ⟨[_, _, _, _], [_]⟩ _ _
      refine dss_cons (ds_setL (de_bin (de_sub1 (de_name 0 rfl) de_int (ix_C rfl rfl)) (de_name 1 rfl) (bin_fdiv ⟨hm, hl⟩)) (de_name 0 rfl) de_int rfl rfl ?_)
      show DSs _ _ _ ⟨[_, _, _, _], [_]⟩ _ _
      refine dss_cons (ds_ret (de_name 2 rfl) ?_)
      have h1 : 0 < b.1 := of_decide_eq_true h1
      exact ⟨by rw [tk_p h1], by rw [nx_p h1]; rfl⟩
    · refine dss_nil ?_
      show DSs _ _ _ ⟨[_, _, _, _], [_]⟩ _ _
      refine dss_cons (ds_asg 3 nd (de_bin (de_cb t.z_int (da_cons (de_bin (de_sub1 (de_name 0 rfl) de_int (ix_C rfl rfl)) de_int (bin_mul ?_)) da_nil) cb_int) de_int (bin_mod (by decide))) ?_)
      · exact Dl.mul_l (by omega) (by omega)
      show DSs _ _ _ ⟨[_, _, _, _], [_]⟩ _ _
      refine dss_cons (ds_setL (de_bin (de_bin (de_cb t.z_int (da_cons (de_bin (de_bin (de_name 3 rfl) de_int (bin_mul ?_)) de_int bin_add) da_nil) cb_int) de_int (bin_mod (by decide))) de_int bin_add) (de_name 0 rfl) de_int rfl rfl ?_)
      · exact Dl.mul_l (by omega) (by omega)
      show DSs _ _ _ ⟨[_, _, _, _], [_]⟩ _ _
      refine dss_cons (ds_ret (de_bin (de_cb t.z_int (da_cons (de_bin (de_bin (de_bin (de_name 3 rfl) de_int (bin_mul ?_)) (de_sub1 (de_name 0 rfl) de_int (ix_C rfl rfl)) bin_add) de_int (bin_fdiv ?_)) da_nil) cb_int) (de_name 1 rfl) (bin_mod hm)) ?_)
      · exact Dl.mul_l (by omega) (by omega)
      · exact ⟨by decide, by decide⟩
      have h1 : ¬ 0 < b.1 := of_decide_eq_false h1
      exact ⟨by rw [tk_n h1], by rw [nx_n h1]; rfl⟩
theorem Tx.ok_feed (t : Tx T K mg) : FnOk P w K mg base CX0 1 t.a__law_feed t.fd__law_feed ["_law_script", "_law_k"] (spC T K ctFeed) := by
  refine fn_ok t.F__law_feed sc__law_feed (fun args cs s cs' h => ?_) (fun cdv A outer sh H E hr args cs s cs' h => ?_)
  · obtain ⟨_, _, rfl, _⟩ := h; rfl
  · obtain ⟨ns, k, rfl, hk, rfl, rfl, rfl⟩ := h
    have nd := sc__law_feed.nd
    have tail : ∀ c : Int, c = feedC ns k → DSs (cx0 P w K mg base ["_law_script", "_law_k", "_law_cell", "_law_seed"] "_law_feed" s__law_feed t.a__law_feed cdv A outer sh H E) T 0 ⟨[some (.dat (scD ns)), some (.dat (.int k)), some (.dat (.int c)), none], []⟩ ((defBody s__law_feed).drop 2) (endOf 0 (.cel 0) [bx (feedB ns k)]) := by
      rintro c rfl
      refine dss_cons (ds_asg 3 nd (de_bin (de_bin (de_bin (de_bin (de_bin (de_cb t.z_int (da_cons (de_name 2 rfl) da_nil) cb_int) de_int (bin_mod (by decide))) (de_bin de_int (de_name 1 rfl) (bin_mul ?_)) bin_add) de_int bin_add) de_int (bin_pow ⟨by decide, by decide, ?_⟩)) de_int (bin_mod (by decide))) ?_)
      · exact Dl.mul_l (by decide) (by decide)
      · omega
      show DSs _ _ _ ⟨[_, _, _, _], []⟩ _ _
      refine dss_cons (ds_retC 1 (de_lstC (ds := [.int (if 10 ^ 18 ≤ feedC ns k then feedC ns k else 0), .int _]) (da_cons (de_sub1 (de_lst (ds := [.int 0, .int _]) (da_cons de_int (da_cons (de_name 2 rfl) da_nil)) (by show (2 : Nat) ≤ sizeLine; decide)) (de_cb t.z_int (da_cons (de_cm (de_name 2 rfl) (de_bin de_int de_int (bin_pow ⟨by decide, by decide, by decide⟩)) cmp_ge) da_nil) cb_intB) (ix_L ?_)) (da_cons (de_bin (de_bin (de_cb t.z_int (da_cons (de_name 3 rfl) da_nil) cb_int) de_int (bin_mod (by decide))) de_int bin_add) da_nil)) (by show (2 : Nat) ≤ sizeLine; decide)) (by decide) (Nat.lt_succ_self 0) ⟨rfl, rfl⟩)
      show atI _ (if decide ((10 : Int) ^ 18 ≤ feedC ns k) = true then 1 else 0) = _
      by_cases h : (10 : Int) ^ 18 ≤ feedC ns k
      · rw [if_pos h, if_pos (decide_eq_true h)]; rfl
      · rw [if_neg h, if_neg (by simpa using h)]; rfl
    refine dss_cons (ds_asg 2 nd (de_bin (de_bin de_int (de_name 1 rfl) (bin_mul (Dl.mul_l (by decide) (by decide)))) de_int bin_add) ?_)
    show DSs _ _ _ ⟨[_, _, _, _], []⟩ _ _
    refine dss_cons (ds_if (dt_cm (de_name 1 rfl) (de_cb t.z_len (da_cons (de_name 0 rfl) da_nil) cb_lenR) cmp_lt) (fun hc => ?_) (fun hc => ?_))
    · have hc : k < ns.length := by have := of_decide_eq_true hc; simpa using this
      refine dss_cons (ds_asg 2 nd (de_sub1 (de_name 0 rfl) (de_name 1 rfl) (ix_R (atI_scr hc))) ?_)
      exact dss_nil (tail _ (by unfold feedC; rw [if_pos hc]))
    · have hc : ¬ k < ns.length := by have := of_decide_eq_false hc; simpa using this
      refine dss_cons (ds_if (dt_cm (de_cb t.z_len (da_cons (de_name 0 rfl) da_nil) cb_lenR) de_int cmp_gt) (fun hd => ?_) (fun hd => ?_))
      · have hd : 0 < ns.length := by have := of_decide_eq_true hd; simpa using this
        have hm : ((k : Nat) : Int) % (((ns.map D.int).length : Nat) : Int) = ((k % ns.length : Nat) : Int) := by rw [List.length_map]; exact (Int.natCast_emod k ns.length).symm
        refine dss_cons (ds_asg 2 nd (de_bin (de_name 2 rfl) (de_bin (de_bin (de_cb t.z_int (da_cons (de_sub1 (de_name 0 rfl) (de_bin (de_name 1 rfl) (de_cb t.z_len (da_cons (de_name 0 rfl) da_nil) cb_lenR) (bin_mod ?_)) (ix_R (d := .int (ns.getD (k % ns.length) 0)) ?_)) da_nil) cb_int) de_int (bin_mod (by decide))) de_int (bin_mul ?_)) bin_add) ?_)
        · rw [List.length_map]; omega
        · rw [hm]; exact atI_scr (Nat.mod_lt _ hd)
        · exact Dl.mul_l (by omega) (by omega)
        exact dss_nil (dss_nil (tail _ (by unfold feedC; rw [if_neg hc, if_pos hd])))
      · have hd : ¬ 0 < ns.length := by have := of_decide_eq_false hd; simpa using this
        exact dss_nil (dss_nil (tail _ (by unfold feedC; rw [if_neg hc, if_neg hd])))
end

/-! ### four numbers, made and told -/
def fourV (b : B) (m : Int) : Int := (tk b (2 * m + 1) - m) * (if decide (0 < tk (nx b (2 * m + 1)) 4) = true then 1 else 0)
def fourN (b : B) (m : Int) : B := nx (nx b (2 * m + 1)) 4
def fourQ (b : B) (m f : Int) : Q4 := (fourV b m, fourV (fourN b m) m, fourV (fourN (fourN b m) m) m, tk (fourN (fourN (fourN b m) m) m) (2 * f + 1) - f)
def fourB (b : B) (m f : Int) : B := nx (fourN (fourN (fourN b m) m) m) (2 * f + 1)
theorem Ok.fourN {b : B} (h : Ok b) (m : Int) : Ok (fourN b m) := (h.nx _).nx _
theorem Ok.fourB {b : B} (h : Ok b) (m f : Int) : Ok (fourB b m f) := (((h.fourN m).fourN m).fourN m).nx _
theorem fourV_in {b : B} {m : Int} (h : 0 ≤ m) : -m ≤ fourV b m ∧ fourV b m ≤ m := by
  have h1 : 0 ≤ tk b (2 * m + 1) := tk_lo (by omega)
  have h2 : tk b (2 * m + 1) < 2 * m + 1 := tk_hi (by omega)
  unfold fourV
  split
  · omega
  · omega
def InQ (m f : Int) (q : Q4) : Prop := (-m ≤ q.1 ∧ q.1 ≤ m) ∧ (-m ≤ q.2.1 ∧ q.2.1 ≤ m) ∧ (-m ≤ q.2.2.1 ∧ q.2.2.1 ≤ m) ∧ -f ≤ q.2.2.2 ∧ q.2.2.2 ≤ f
theorem fourQ_in {b : B} {m f : Int} (h : 0 ≤ m) (hf : 0 ≤ f) : InQ m f (fourQ b m f) := by
  have h1 : 0 ≤ tk (K.fourN (K.fourN (K.fourN b m) m) m) (2 * f + 1) := tk_lo (by omega)
  have h2 : tk (K.fourN (K.fourN (K.fourN b m) m) m) (2 * f + 1) < 2 * f + 1 := tk_hi (by omega)
  refine ⟨fourV_in h, fourV_in h, fourV_in h, ?_, ?_⟩
  · show -f ≤ tk (K.fourN (K.fourN (K.fourN b m) m) m) (2 * f + 1) - f; omega
  · show tk (K.fourN (K.fourN (K.fourN b m) m) m) (2 * f + 1) - f ≤ f; omega
def ctFour : Ct := fun args cs s cs' => ∃ (b : B) (m f : Int), args = [.cel 0, .dat (.int m), .dat (.int f), .dat (.int 3)] ∧ cs = [bx b] ∧ (0 ≤ m ∧ m < 2 ^ 40) ∧ (0 ≤ f ∧ f < 2 ^ 40) ∧ Ok b ∧ s = .dat (rq (fourQ b m f)) ∧ cs' = [bx (fourB b m f)]
def ctMade : Ct := fun args cs s cs' => ∃ q : Q4, args = [.dat (rq q)] ∧ cs = [] ∧ s = .dat (fq q) ∧ cs' = []
def ctTold : Ct := fun args cs s cs' => ∃ q : Q4, args = [.dat (fq q)] ∧ cs = [] ∧ s = .dat (rq q) ∧ cs' = []
section
variable {X : Cx} {T : Tab} {S S1 S2 : Sta} {e e2 : Expr} {pos p : Pos} {b : B} {m : Int} {A : Around}
/-- a draw -/
theorem Tx.draw (t : Tx T X.K X.mg) (hr : Room 1 A) (j : Nat) (h1 : DE X T S e (.cel j) S1) (h2 : DE X T S1 e2 (.dat (.int m)) S2) (hj : S2.cs[j]? = some (bx b)) (hm : 0 < m ∧ m < 2 ^ 62) (hb : Ok b) (hA : X.A = A := by rfl) (hg : Gl X "_law_take" := by rfl)
    (he : starEach [e, e2] X.env = (false, eval e X.env) :: starEach [e2] X.env := by rfl) (he2 : starEach [e2] X.env = (false, eval e2 X.env) :: starEach [] X.env := by rfl) (hpl : (backTo pos (starEach [e2] X.env)).any (·.1) = false := by rfl) :
    DE X T S (.Call (.Name "_law_take" p) [e, e2] [] pos) (.dat (.int (tk b m))) ⟨S2.sl, S2.cs.set j (bx (nx b m))⟩ :=
  de_callC t.ok_take (hA ▸ hr) t.m__law_take t.F__law_take.kp t.b__law_take j (da_cons h1 (da_cons h2 da_nil he2) he) hj (by simp [onlyCell]) ⟨b, m, rfl, rfl, hm, hb, rfl, rfl⟩ hg (by decide) he hpl
end
section
variable {T : Tab} {P : Program} {w : World} {K : PySem.W.Frag} {mg : Str → Option Value} {base : Heap}
theorem Tx.ok_four (t : Tx T K mg) : FnOk P w K mg base CX0 2 t.a__law_four t.fd__law_four ["_law_box", "_law_most", "_law_far", "_law_width"] (spC T K ctFour) := by
  refine fn_ok t.F__law_four sc__law_four (fun args cs s cs' h => ?_) (fun cdv A outer sh H E hr args cs s cs' h => ?_)
  · obtain ⟨_, _, _, rfl, _⟩ := h; rfl
  · obtain ⟨b, m, f, rfl, rfl, ⟨hm, hm2⟩, ⟨hf, hf2⟩, hb, rfl, rfl⟩ := h
    have nd := sc__law_four.nd
    have one : ∀ {b : B}, Ok b → IntMulOk (tk b (2 * m + 1) - m) (if decide (0 < tk (nx b (2 * m + 1)) 4) = true then 1 else 0) := fun {b} _ => Dl.mul_r (by split <;> decide) (by split <;> decide)
    refine dss_cons (ds_lc 4 nd (dlc (acc := [.int (fourV b m), .int (fourV (fourN b m) m), .int (fourV (fourN (fourN b m) m) m)]) (cs' := [bx (fourN (fourN (fourN b m) m) m)]) (own := [("_law_k", 5)]) (di_range1 (da_cons (de_name 3 rfl) da_nil) t.z_range (by decide) (by decide)) (blkOk_by (by kernel_rfl)) (fun _ _ _ _ _ => (dg_name 5 nd)) (by decide) ?_ (by show (3 : Nat) < sizeLine; decide)) ?_)
    · refine ⟨_, _, [bx (fourN b m)], _, rfl, lcb (fun _ _ _ _ _ => (de_bin (de_bin (t.draw hr 0 (de_name 0 rfl) (de_bin (de_bin de_int (de_name 1 rfl) (bin_mul (Dl.mul_l (by decide) (by decide)))) de_int bin_add) rfl ⟨by omega, by omega⟩ hb) (de_name 1 rfl) bin_sub) (de_cb t.z_int (da_cons (de_cm (t.draw hr 0 (de_name 0 rfl) de_int rfl ⟨by decide, by decide⟩ (hb.nx _)) de_int cmp_gt) da_nil) cb_intB) (bin_mul (one hb)))), ?_, rfl⟩
      have hb := hb.fourN m
      refine ⟨_, _, [bx (fourN (fourN b m) m)], _, rfl, lcb (fun _ _ _ _ _ => (de_bin (de_bin (t.draw hr 0 (de_name 0 rfl) (de_bin (de_bin de_int (de_name 1 rfl) (bin_mul (Dl.mul_l (by decide) (by decide)))) de_int bin_add) rfl ⟨by omega, by omega⟩ hb) (de_name 1 rfl) bin_sub) (de_cb t.z_int (da_cons (de_cm (t.draw hr 0 (de_name 0 rfl) de_int rfl ⟨by decide, by decide⟩ (hb.nx _)) de_int cmp_gt) da_nil) cb_intB) (bin_mul (one hb)))), ?_, rfl⟩
      have hb := hb.fourN m
      refine ⟨_, _, [bx (fourN (fourN (fourN b m) m) m)], _, rfl, lcb (fun _ _ _ _ _ => (de_bin (de_bin (t.draw hr 0 (de_name 0 rfl) (de_bin (de_bin de_int (de_name 1 rfl) (bin_mul (Dl.mul_l (by decide) (by decide)))) de_int bin_add) rfl ⟨by omega, by omega⟩ hb) (de_name 1 rfl) bin_sub) (de_cb t.z_int (da_cons (de_cm (t.draw hr 0 (de_name 0 rfl) de_int rfl ⟨by decide, by decide⟩ (hb.nx _)) de_int cmp_gt) da_nil) cb_intB) (bin_mul (one hb)))), ?_, rfl⟩
      exact ⟨rfl, rfl⟩
    have hb := ((hb.fourN m).fourN m).fourN m
    show DSs _ _ _ ⟨[_, _, _, _, _, _], [_]⟩ _ _
    exact dss_cons (ds_ret (de_cb t.z_tuple (da_cons (de_bin (de_bin (de_name 4 rfl) (de_bin (de_lst (ds := [.int 0]) (da_cons de_int da_nil) (by show (1 : Nat) ≤ sizeLine; decide)) (de_bin de_int (de_name 3 rfl) bin_sub) (bin_repL rfl (by decide) (by decide) (by show (0 : Nat) ≤ sizeLine; decide))) (bin_addL rfl rfl (by show (3 : Nat) ≤ sizeLine; decide))) (de_lst (ds := [.int _]) (da_cons (de_bin (t.draw hr 0 (de_name 0 rfl) (de_bin (de_bin de_int (de_name 2 rfl) (bin_mul (Dl.mul_l (by decide) (by decide)))) de_int bin_add) rfl ⟨by omega, by omega⟩ hb) (de_name 2 rfl) bin_sub) da_nil) (by show (1 : Nat) ≤ sizeLine; decide)) (bin_addL rfl rfl (by show (4 : Nat) ≤ sizeLine; decide))) da_nil) (cb_tupL rfl)) ⟨rfl, rfl⟩)
theorem Tx.ok_made (t : Tx T K mg) : FnOk P w K mg base CX0 4 t.a__law_made t.fd__law_made ["_law_row"] (spC T K ctMade) := by
  refine fn_ok t.F__law_made sc__law_made (fun args cs s cs' h => ?_) (fun cdv A outer sh H E hr args cs s cs' h => ?_)
  · obtain ⟨_, rfl, _⟩ := h; rfl
  · obtain ⟨q, rfl, rfl, rfl, rfl⟩ := h
    exact dss_cons (ds_ret (t.mkF hr (da_cons (de_sub1 (de_name 0 rfl) de_int (ix_T rfl)) da_nil) (dk_cons (de_sub1 (de_name 0 rfl) de_int (ix_T rfl)) (dk_cons (de_sub1 (de_name 0 rfl) de_int (ix_T rfl)) (dk_cons (de_sub1 (de_name 0 rfl) de_int (ix_T rfl)) dk_nil)))) ⟨rfl, rfl⟩)
theorem Tx.ok_told (t : Tx T K mg) : FnOk P w K mg base CX0 3 t.a__law_told t.fd__law_told ["_law_form"] (spC T K ctTold) := by
  refine fn_ok t.F__law_told sc__law_told (fun args cs s cs' h => ?_) (fun cdv A outer sh H E hr args cs s cs' h => ?_)
  · obtain ⟨_, rfl, _⟩ := h; rfl
  · obtain ⟨q, rfl, rfl, rfl, rfl⟩ := h
    have nd := sc__law_told.nd
    refine dss_cons (ds_asg 1 nd (de_tup (ds := [.int _, .int _, .int _, .int _]) (da_cons (t.pI hr (de_name 0 rfl)) (da_cons (t.pJ hr (de_name 0 rfl)) (da_cons (t.pP hr (de_name 0 rfl)) (da_cons (t.pC hr (de_name 0 rfl)) da_nil)))) (by show (4 : Nat) ≤ sizeLine; decide)) ?_)
    show DSs _ _ _ ⟨[_, _, _, _], _⟩ _ _
    refine dss_cons (ds_lc 2 nd (dlc (acc := []) (cs' := []) (own := [("_law_k", 3)]) (di_tup (de_name 1 rfl)) (blkOk_by (by kernel_rfl)) (fun _ _ _ _ _ => (dg_name 3 nd)) (by decide) ?_ (by show (4 : Nat) < sizeLine; decide)) ?_)
    · iterate 4 refine ⟨_, _, _, _, rfl, lcb_f (fun _ _ _ _ _ => DW.pt (dw_orF (dt_not (k := true) (dt_val (de_isi t.z_isinstance t.z_int bi_int (de_name 3 rfl) rfl rfl))) (dw_or1 (dt_val (de_isi t.z_isinstance t.z_bool bi_bool (de_name 3 rfl) rfl rfl))))), ?_, rfl⟩
      exact ⟨rfl, rfl⟩
    show DSs _ _ _ ⟨[_, _, _, _], _⟩ _ _
    exact dss_cons (ds_ret (de_ifF (dt_cm (de_name 2 rfl) (de_lst (ds := []) da_nil (by show (0 : Nat) ≤ sizeLine; decide)) (cmp_neD hr.units rfl rfl)) (de_name 1 rfl)) ⟨rfl, rfl⟩)
end

/-! ### value and put by keywords (printed by kw.py) -/
theorem kb_value_ijp {K : PySem.W.Frag} {f : Addr} {fd : FuncData} (F : FD K "value" "Form.value" s_Form_value [] [("i", .int 0), ("j", .int 0), ("p", .int 0)] f fd) : ∃ mv : List Value, KBn K fd ["self", "i", "j", "p"] 1 ["i", "j", "p"] (fun us ws => us ++ ((ws.drop 0).take 1) ++ ((ws.drop 1).take 1) ++ ((ws.drop 2).take 1)) (fun us ws => us ++ ((ws.drop 0).take 1) ++ ((ws.drop 1).take 1) ++ ((ws.drop 2).take 1)) :=
  F.kbinds0 1 ["i", "j", "p"] [] (fun us mv ws => us ++ ((ws.drop 0).take 1) ++ ((ws.drop 1).take 1) ++ ((ws.drop 2).take 1)) (by decide) (by decide) (fun a m b => (((a.append ((b.drop 0).take 1)).append ((b.drop 1).take 1)).append ((b.drop 2).take 1))) fun D doc pm an cdv ct us mv ws l1 l2 l3 =>
    match us, mv, ws, l1, l2, l3 with | [_], [], [_, _, _], _, _, _ => rfl
theorem pt_value_ijp {d0 d1 d2 : D} : Put (fun us ws => us ++ ((ws.drop 0).take 1) ++ ((ws.drop 1).take 1) ++ ((ws.drop 2).take 1)) [] [d0, d1, d2] [d0, d1, d2] := fun x ws zs h1 h2 =>
  match ws, zs, h1, h2 with | [], [z0, z1, z2], _, _ => ⟨[z0, z1, z2], rfl, fun _ _ _ _ _ r => match r with | .cons r0 (.cons r1 (.cons r2 .nil)) => .cons r0 (.cons r1 (.cons r2 .nil))⟩
theorem kb_value_pji {K : PySem.W.Frag} {f : Addr} {fd : FuncData} (F : FD K "value" "Form.value" s_Form_value [] [("i", .int 0), ("j", .int 0), ("p", .int 0)] f fd) : ∃ mv : List Value, KBn K fd ["self", "i", "j", "p"] 1 ["p", "j", "i"] (fun us ws => us ++ ((ws.drop 2).take 1) ++ ((ws.drop 1).take 1) ++ ((ws.drop 0).take 1)) (fun us ws => us ++ ((ws.drop 2).take 1) ++ ((ws.drop 1).take 1) ++ ((ws.drop 0).take 1)) :=
  F.kbinds0 1 ["p", "j", "i"] [] (fun us mv ws => us ++ ((ws.drop 2).take 1) ++ ((ws.drop 1).take 1) ++ ((ws.drop 0).take 1)) (by decide) (by decide) (fun a m b => (((a.append ((b.drop 2).take 1)).append ((b.drop 1).take 1)).append ((b.drop 0).take 1))) fun D doc pm an cdv ct us mv ws l1 l2 l3 =>
    match us, mv, ws, l1, l2, l3 with | [_], [], [_, _, _], _, _, _ => rfl
theorem pt_value_pji {d0 d1 d2 : D} : Put (fun us ws => us ++ ((ws.drop 2).take 1) ++ ((ws.drop 1).take 1) ++ ((ws.drop 0).take 1)) [] [d0, d1, d2] [d2, d1, d0] := fun x ws zs h1 h2 =>
  match ws, zs, h1, h2 with | [], [z0, z1, z2], _, _ => ⟨[z2, z1, z0], rfl, fun _ _ _ _ _ r => match r with | .cons r0 (.cons r1 (.cons r2 .nil)) => .cons r2 (.cons r1 (.cons r0 .nil))⟩
theorem kb_value_0 {K : PySem.W.Frag} {f : Addr} {fd : FuncData} (F : FD K "value" "Form.value" s_Form_value [] [("i", .int 0), ("j", .int 0), ("p", .int 0)] f fd) : ∃ mv : List Value, KBn K fd ["self", "i", "j", "p"] 1 [] (fun us ws => us ++ ((mv.drop 0).take 1) ++ ((mv.drop 1).take 1) ++ ((mv.drop 2).take 1)) (fun us ws => us ++ ((([.int 0, .int 0, .int 0] : List V).drop 0).take 1) ++ ((([.int 0, .int 0, .int 0] : List V).drop 1).take 1) ++ ((([.int 0, .int 0, .int 0] : List V).drop 2).take 1)) :=
  F.kbinds0 1 [] [("i", .int 0), ("j", .int 0), ("p", .int 0)] (fun us mv ws => us ++ ((mv.drop 0).take 1) ++ ((mv.drop 1).take 1) ++ ((mv.drop 2).take 1)) (by decide) (by decide) (fun a m b => (((a.append ((m.drop 0).take 1)).append ((m.drop 1).take 1)).append ((m.drop 2).take 1))) fun D doc pm an cdv ct us mv ws l1 l2 l3 =>
    match us, mv, ws, l1, l2, l3 with | [_], [_, _, _], [], _, _, _ => ⟨_, _, _, _, _, _, rfl, rfl, ⟨_, _, _, _, _, _, rfl, rfl, ⟨_, _, _, _, _, _, rfl, rfl, rfl⟩⟩⟩
theorem pt_value_0  : Put (fun us ws => us ++ ((([.int 0, .int 0, .int 0] : List V).drop 0).take 1) ++ ((([.int 0, .int 0, .int 0] : List V).drop 1).take 1) ++ ((([.int 0, .int 0, .int 0] : List V).drop 2).take 1)) [] [] [.int 0, .int 0, .int 0] := fun x ws zs h1 h2 =>
  match ws, zs, h1, h2 with | [], [], _, _ => ⟨[.int 0, .int 0, .int 0], rfl, fun _ _ _ _ _ r => match r with | .nil => .cons Rep.int (.cons Rep.int (.cons Rep.int .nil))⟩
theorem kb_value_i {K : PySem.W.Frag} {f : Addr} {fd : FuncData} (F : FD K "value" "Form.value" s_Form_value [] [("i", .int 0), ("j", .int 0), ("p", .int 0)] f fd) : ∃ mv : List Value, KBn K fd ["self", "i", "j", "p"] 1 ["i"] (fun us ws => us ++ ((ws.drop 0).take 1) ++ ((mv.drop 0).take 1) ++ ((mv.drop 1).take 1)) (fun us ws => us ++ ((ws.drop 0).take 1) ++ ((([.int 0, .int 0] : List V).drop 0).take 1) ++ ((([.int 0, .int 0] : List V).drop 1).take 1)) :=
  F.kbinds0 1 ["i"] [("j", .int 0), ("p", .int 0)] (fun us mv ws => us ++ ((ws.drop 0).take 1) ++ ((mv.drop 0).take 1) ++ ((mv.drop 1).take 1)) (by decide) (by decide) (fun a m b => (((a.append ((b.drop 0).take 1)).append ((m.drop 0).take 1)).append ((m.drop 1).take 1))) fun D doc pm an cdv ct us mv ws l1 l2 l3 =>
    match us, mv, ws, l1, l2, l3 with | [_], [_, _], [_], _, _, _ => ⟨_, _, _, _, _, _, rfl, rfl, ⟨_, _, _, _, _, _, rfl, rfl, rfl⟩⟩
theorem pt_value_i {d0 : D} : Put (fun us ws => us ++ ((ws.drop 0).take 1) ++ ((([.int 0, .int 0] : List V).drop 0).take 1) ++ ((([.int 0, .int 0] : List V).drop 1).take 1)) [] [d0] [d0, .int 0, .int 0] := fun x ws zs h1 h2 =>
  match ws, zs, h1, h2 with | [], [z0], _, _ => ⟨[z0, .int 0, .int 0], rfl, fun _ _ _ _ _ r => match r with | .cons r0 .nil => .cons r0 (.cons Rep.int (.cons Rep.int .nil))⟩
theorem kb_value_j {K : PySem.W.Frag} {f : Addr} {fd : FuncData} (F : FD K "value" "Form.value" s_Form_value [] [("i", .int 0), ("j", .int 0), ("p", .int 0)] f fd) : ∃ mv : List Value, KBn K fd ["self", "i", "j", "p"] 1 ["j"] (fun us ws => us ++ ((mv.drop 0).take 1) ++ ((ws.drop 0).take 1) ++ ((mv.drop 1).take 1)) (fun us ws => us ++ ((([.int 0, .int 0] : List V).drop 0).take 1) ++ ((ws.drop 0).take 1) ++ ((([.int 0, .int 0] : List V).drop 1).take 1)) :=
  F.kbinds0 1 ["j"] [("i", .int 0), ("p", .int 0)] (fun us mv ws => us ++ ((mv.drop 0).take 1) ++ ((ws.drop 0).take 1) ++ ((mv.drop 1).take 1)) (by decide) (by decide) (fun a m b => (((a.append ((m.drop 0).take 1)).append ((b.drop 0).take 1)).append ((m.drop 1).take 1))) fun D doc pm an cdv ct us mv ws l1 l2 l3 =>
    match us, mv, ws, l1, l2, l3 with | [_], [_, _], [_], _, _, _ => ⟨_, _, _, _, _, _, rfl, rfl, ⟨_, _, _, _, _, _, rfl, rfl, rfl⟩⟩
theorem pt_value_j {d0 : D} : Put (fun us ws => us ++ ((([.int 0, .int 0] : List V).drop 0).take 1) ++ ((ws.drop 0).take 1) ++ ((([.int 0, .int 0] : List V).drop 1).take 1)) [] [d0] [.int 0, d0, .int 0] := fun x ws zs h1 h2 =>
  match ws, zs, h1, h2 with | [], [z0], _, _ => ⟨[.int 0, z0, .int 0], rfl, fun _ _ _ _ _ r => match r with | .cons r0 .nil => .cons Rep.int (.cons r0 (.cons Rep.int .nil))⟩
theorem kb_value_p {K : PySem.W.Frag} {f : Addr} {fd : FuncData} (F : FD K "value" "Form.value" s_Form_value [] [("i", .int 0), ("j", .int 0), ("p", .int 0)] f fd) : ∃ mv : List Value, KBn K fd ["self", "i", "j", "p"] 1 ["p"] (fun us ws => us ++ ((mv.drop 0).take 1) ++ ((mv.drop 1).take 1) ++ ((ws.drop 0).take 1)) (fun us ws => us ++ ((([.int 0, .int 0] : List V).drop 0).take 1) ++ ((([.int 0, .int 0] : List V).drop 1).take 1) ++ ((ws.drop 0).take 1)) :=
  F.kbinds0 1 ["p"] [("i", .int 0), ("j", .int 0)] (fun us mv ws => us ++ ((mv.drop 0).take 1) ++ ((mv.drop 1).take 1) ++ ((ws.drop 0).take 1)) (by decide) (by decide) (fun a m b => (((a.append ((m.drop 0).take 1)).append ((m.drop 1).take 1)).append ((b.drop 0).take 1))) fun D doc pm an cdv ct us mv ws l1 l2 l3 =>
    match us, mv, ws, l1, l2, l3 with | [_], [_, _], [_], _, _, _ => ⟨_, _, _, _, _, _, rfl, rfl, ⟨_, _, _, _, _, _, rfl, rfl, rfl⟩⟩
theorem pt_value_p {d0 : D} : Put (fun us ws => us ++ ((([.int 0, .int 0] : List V).drop 0).take 1) ++ ((([.int 0, .int 0] : List V).drop 1).take 1) ++ ((ws.drop 0).take 1)) [] [d0] [.int 0, .int 0, d0] := fun x ws zs h1 h2 =>
  match ws, zs, h1, h2 with | [], [z0], _, _ => ⟨[.int 0, .int 0, z0], rfl, fun _ _ _ _ _ r => match r with | .cons r0 .nil => .cons Rep.int (.cons Rep.int (.cons r0 .nil))⟩
theorem kb_value_ip {K : PySem.W.Frag} {f : Addr} {fd : FuncData} (F : FD K "value" "Form.value" s_Form_value [] [("i", .int 0), ("j", .int 0), ("p", .int 0)] f fd) : ∃ mv : List Value, KBn K fd ["self", "i", "j", "p"] 1 ["i", "p"] (fun us ws => us ++ ((ws.drop 0).take 1) ++ ((mv.drop 0).take 1) ++ ((ws.drop 1).take 1)) (fun us ws => us ++ ((ws.drop 0).take 1) ++ ((([.int 0] : List V).drop 0).take 1) ++ ((ws.drop 1).take 1)) :=
  F.kbinds0 1 ["i", "p"] [("j", .int 0)] (fun us mv ws => us ++ ((ws.drop 0).take 1) ++ ((mv.drop 0).take 1) ++ ((ws.drop 1).take 1)) (by decide) (by decide) (fun a m b => (((a.append ((b.drop 0).take 1)).append ((m.drop 0).take 1)).append ((b.drop 1).take 1))) fun D doc pm an cdv ct us mv ws l1 l2 l3 =>
    match us, mv, ws, l1, l2, l3 with | [_], [_], [_, _], _, _, _ => ⟨_, _, _, _, _, _, rfl, rfl, rfl⟩
theorem pt_value_ip {d0 d1 : D} : Put (fun us ws => us ++ ((ws.drop 0).take 1) ++ ((([.int 0] : List V).drop 0).take 1) ++ ((ws.drop 1).take 1)) [] [d0, d1] [d0, .int 0, d1] := fun x ws zs h1 h2 =>
  match ws, zs, h1, h2 with | [], [z0, z1], _, _ => ⟨[z0, .int 0, z1], rfl, fun _ _ _ _ _ r => match r with | .cons r0 (.cons r1 .nil) => .cons r0 (.cons Rep.int (.cons r1 .nil))⟩
theorem kb_put_p {K : PySem.W.Frag} {f : Addr} {fd : FuncData} (F : FD K "put" "Form.put" s_Form_put [] [("i", .non), ("j", .non), ("p", .non)] f fd) : ∃ mv : List Value, KBn K fd ["self", "i", "j", "p"] 1 ["p"] (fun us ws => us ++ ((mv.drop 0).take 1) ++ ((mv.drop 1).take 1) ++ ((ws.drop 0).take 1)) (fun us ws => us ++ ((([.non, .non] : List V).drop 0).take 1) ++ ((([.non, .non] : List V).drop 1).take 1) ++ ((ws.drop 0).take 1)) :=
  F.kbinds0 1 ["p"] [("i", .non), ("j", .non)] (fun us mv ws => us ++ ((mv.drop 0).take 1) ++ ((mv.drop 1).take 1) ++ ((ws.drop 0).take 1)) (by decide) (by decide) (fun a m b => (((a.append ((m.drop 0).take 1)).append ((m.drop 1).take 1)).append ((b.drop 0).take 1))) fun D doc pm an cdv ct us mv ws l1 l2 l3 =>
    match us, mv, ws, l1, l2, l3 with | [_], [_, _], [_], _, _, _ => ⟨_, _, _, _, _, _, rfl, rfl, ⟨_, _, _, _, _, _, rfl, rfl, rfl⟩⟩
theorem pt_put_p {d0 : D} : Put (fun us ws => us ++ ((([.non, .non] : List V).drop 0).take 1) ++ ((([.non, .non] : List V).drop 1).take 1) ++ ((ws.drop 0).take 1)) [] [d0] [.non, .non, d0] := fun x ws zs h1 h2 =>
  match ws, zs, h1, h2 with | [], [z0], _, _ => ⟨[.non, .non, z0], rfl, fun _ _ _ _ _ r => match r with | .cons r0 .nil => .cons Rep.non (.cons Rep.non (.cons r0 .nil))⟩
theorem kb_put_ji {K : PySem.W.Frag} {f : Addr} {fd : FuncData} (F : FD K "put" "Form.put" s_Form_put [] [("i", .non), ("j", .non), ("p", .non)] f fd) : ∃ mv : List Value, KBn K fd ["self", "i", "j", "p"] 1 ["j", "i"] (fun us ws => us ++ ((ws.drop 1).take 1) ++ ((ws.drop 0).take 1) ++ ((mv.drop 0).take 1)) (fun us ws => us ++ ((ws.drop 1).take 1) ++ ((ws.drop 0).take 1) ++ ((([.non] : List V).drop 0).take 1)) :=
  F.kbinds0 1 ["j", "i"] [("p", .non)] (fun us mv ws => us ++ ((ws.drop 1).take 1) ++ ((ws.drop 0).take 1) ++ ((mv.drop 0).take 1)) (by decide) (by decide) (fun a m b => (((a.append ((b.drop 1).take 1)).append ((b.drop 0).take 1)).append ((m.drop 0).take 1))) fun D doc pm an cdv ct us mv ws l1 l2 l3 =>
    match us, mv, ws, l1, l2, l3 with | [_], [_], [_, _], _, _, _ => ⟨_, _, _, _, _, _, rfl, rfl, rfl⟩
theorem pt_put_ji {d0 d1 : D} : Put (fun us ws => us ++ ((ws.drop 1).take 1) ++ ((ws.drop 0).take 1) ++ ((([.non] : List V).drop 0).take 1)) [] [d0, d1] [d1, d0, .non] := fun x ws zs h1 h2 =>
  match ws, zs, h1, h2 with | [], [z0, z1], _, _ => ⟨[z1, z0, .non], rfl, fun _ _ _ _ _ r => match r with | .cons r0 (.cons r1 .nil) => .cons r1 (.cons r0 (.cons Rep.non .nil))⟩
theorem kb_put_pij {K : PySem.W.Frag} {f : Addr} {fd : FuncData} (F : FD K "put" "Form.put" s_Form_put [] [("i", .non), ("j", .non), ("p", .non)] f fd) : ∃ mv : List Value, KBn K fd ["self", "i", "j", "p"] 1 ["p", "i", "j"] (fun us ws => us ++ ((ws.drop 1).take 1) ++ ((ws.drop 2).take 1) ++ ((ws.drop 0).take 1)) (fun us ws => us ++ ((ws.drop 1).take 1) ++ ((ws.drop 2).take 1) ++ ((ws.drop 0).take 1)) :=
  F.kbinds0 1 ["p", "i", "j"] [] (fun us mv ws => us ++ ((ws.drop 1).take 1) ++ ((ws.drop 2).take 1) ++ ((ws.drop 0).take 1)) (by decide) (by decide) (fun a m b => (((a.append ((b.drop 1).take 1)).append ((b.drop 2).take 1)).append ((b.drop 0).take 1))) fun D doc pm an cdv ct us mv ws l1 l2 l3 =>
    match us, mv, ws, l1, l2, l3 with | [_], [], [_, _, _], _, _, _ => rfl
theorem pt_put_pij {d0 d1 d2 : D} : Put (fun us ws => us ++ ((ws.drop 1).take 1) ++ ((ws.drop 2).take 1) ++ ((ws.drop 0).take 1)) [] [d0, d1, d2] [d1, d2, d0] := fun x ws zs h1 h2 =>
  match ws, zs, h1, h2 with | [], [z0, z1, z2], _, _ => ⟨[z1, z2, z0], rfl, fun _ _ _ _ _ r => match r with | .cons r0 (.cons r1 (.cons r2 .nil)) => .cons r1 (.cons r2 (.cons r0 .nil))⟩
theorem kb_put_ijp {K : PySem.W.Frag} {f : Addr} {fd : FuncData} (F : FD K "put" "Form.put" s_Form_put [] [("i", .non), ("j", .non), ("p", .non)] f fd) : ∃ mv : List Value, KBn K fd ["self", "i", "j", "p"] 1 ["i", "j", "p"] (fun us ws => us ++ ((ws.drop 0).take 1) ++ ((ws.drop 1).take 1) ++ ((ws.drop 2).take 1)) (fun us ws => us ++ ((ws.drop 0).take 1) ++ ((ws.drop 1).take 1) ++ ((ws.drop 2).take 1)) :=
  F.kbinds0 1 ["i", "j", "p"] [] (fun us mv ws => us ++ ((ws.drop 0).take 1) ++ ((ws.drop 1).take 1) ++ ((ws.drop 2).take 1)) (by decide) (by decide) (fun a m b => (((a.append ((b.drop 0).take 1)).append ((b.drop 1).take 1)).append ((b.drop 2).take 1))) fun D doc pm an cdv ct us mv ws l1 l2 l3 =>
    match us, mv, ws, l1, l2, l3 with | [_], [], [_, _, _], _, _, _ => rfl
theorem pt_put_ijp {d0 d1 d2 : D} : Put (fun us ws => us ++ ((ws.drop 0).take 1) ++ ((ws.drop 1).take 1) ++ ((ws.drop 2).take 1)) [] [d0, d1, d2] [d0, d1, d2] := fun x ws zs h1 h2 =>
  match ws, zs, h1, h2 with | [], [z0, z1, z2], _, _ => ⟨[z0, z1, z2], rfl, fun _ _ _ _ _ r => match r with | .cons r0 (.cons r1 (.cons r2 .nil)) => .cons r0 (.cons r1 (.cons r2 .nil))⟩
theorem kb_put_0 {K : PySem.W.Frag} {f : Addr} {fd : FuncData} (F : FD K "put" "Form.put" s_Form_put [] [("i", .non), ("j", .non), ("p", .non)] f fd) : ∃ mv : List Value, KBn K fd ["self", "i", "j", "p"] 1 [] (fun us ws => us ++ ((mv.drop 0).take 1) ++ ((mv.drop 1).take 1) ++ ((mv.drop 2).take 1)) (fun us ws => us ++ ((([.non, .non, .non] : List V).drop 0).take 1) ++ ((([.non, .non, .non] : List V).drop 1).take 1) ++ ((([.non, .non, .non] : List V).drop 2).take 1)) :=
  F.kbinds0 1 [] [("i", .non), ("j", .non), ("p", .non)] (fun us mv ws => us ++ ((mv.drop 0).take 1) ++ ((mv.drop 1).take 1) ++ ((mv.drop 2).take 1)) (by decide) (by decide) (fun a m b => (((a.append ((m.drop 0).take 1)).append ((m.drop 1).take 1)).append ((m.drop 2).take 1))) fun D doc pm an cdv ct us mv ws l1 l2 l3 =>
    match us, mv, ws, l1, l2, l3 with | [_], [_, _, _], [], _, _, _ => ⟨_, _, _, _, _, _, rfl, rfl, ⟨_, _, _, _, _, _, rfl, rfl, ⟨_, _, _, _, _, _, rfl, rfl, rfl⟩⟩⟩
theorem pt_put_0  : Put (fun us ws => us ++ ((([.non, .non, .non] : List V).drop 0).take 1) ++ ((([.non, .non, .non] : List V).drop 1).take 1) ++ ((([.non, .non, .non] : List V).drop 2).take 1)) [] [] [.non, .non, .non] := fun x ws zs h1 h2 =>
  match ws, zs, h1, h2 with | [], [], _, _ => ⟨[.non, .non, .non], rfl, fun _ _ _ _ _ r => match r with | .nil => .cons Rep.non (.cons Rep.non (.cons Rep.non .nil))⟩
section
variable {X : Cx} {T : Tab} {S S1 S2 : Sta} {o : Expr} {pos apos : Pos} {r : Q4} {A : Around}
variable {x y z : Int}
theorem Tx.valueK (t : Tx T X.K X.mg) (hr : Room 1 A) {ks : List Str} {gg : List Value → List Value → List Value} {gV : List V → List V → List V} {kargs : List D} {kws : List Keyword} {fd : FuncData} (hb : KBn X.K fd ["self", "i", "j", "p"] 1 ks gg gV) (hp : Put gV [] kargs [.int x, .int y, .int z]) (he : DE X T S o (.dat (fq r)) S1) (hkw : DK X T S1 kws (kargs.map Sl.dat) S2) (hs : Sm3 r) (l2 : kargs.length = ks.length) (hF : t.fd_Form_value = fd := by rfl) (hA : X.A = A := by rfl)
    (hall : (backToKw pos (keywordEach kws X.env)).all (·.1.isSome) = true := by rfl) (hks : (backToKw pos (keywordEach kws X.env)).filterMap (·.1) = ks := by rfl)
    (hpl : ((backTo pos (starEach [] X.env)).any (·.1) || (backToKw pos (keywordEach kws X.env)).any (·.1.isNone)) = false := by rfl) {pl : Sem Bool}
    (ht : eval (.Call (.Attribute o "value" apos) [] kws pos) X.env = (do
      let ov ← eval o X.env
      standAt apos.atName
      let (f, first) ← holding [ov] (getMethod ov "value" pl)
      callWith pos f first (backTo pos (starEach [] X.env)) (backToKw pos (keywordEach kws X.env))) := by rfl) : DE X T S (.Call (.Attribute o "value" apos) [] kws pos) (.dat (.int (valQ r x y z))) S2 :=
  de_methK0 (pl := pl) t.T_Form t.cl_Form t.M_Form_value rfl t.ok_value (hA ▸ hr) (hF ▸ hb) hp he hkw ⟨r, x, y, z, rfl, hs, rfl, rfl, rfl⟩ l2 hall hks hpl ht
variable {u v w : Option Q4}
theorem Tx.putK (t : Tx T X.K X.mg) (hr : Room 5 A) {ks : List Str} {gg : List Value → List Value → List Value} {gV : List V → List V → List V} {kargs : List D} {kws : List Keyword} {fd : FuncData} (hb : KBn X.K fd ["self", "i", "j", "p"] 1 ks gg gV) (hp : Put gV [] kargs [fo u, fo v, fo w]) (he : DE X T S o (.dat (fq r)) S1) (hkw : DK X T S1 kws (kargs.map Sl.dat) S2) (hs : Sm3 r) (l2 : kargs.length = ks.length) (hF : t.fd_Form_put = fd := by rfl) (hA : X.A = A := by rfl)
    (hall : (backToKw pos (keywordEach kws X.env)).all (·.1.isSome) = true := by rfl) (hks : (backToKw pos (keywordEach kws X.env)).filterMap (·.1) = ks := by rfl)
    (hpl : ((backTo pos (starEach [] X.env)).any (·.1) || (backToKw pos (keywordEach kws X.env)).any (·.1.isNone)) = false := by rfl) {pl : Sem Bool}
    (ht : eval (.Call (.Attribute o "put" apos) [] kws pos) X.env = (do
      let ov ← eval o X.env
      standAt apos.atName
      let (f, first) ← holding [ov] (getMethod ov "put" pl)
      callWith pos f first (backTo pos (starEach [] X.env)) (backToKw pos (keywordEach kws X.env))) := by rfl) : DE X T S (.Call (.Attribute o "put" apos) [] kws pos) (.dat (fq (putQ r (u.getD uI) (v.getD uJ) (w.getD uP)))) S2 :=
  de_methK0 (pl := pl) t.T_Form t.cl_Form t.M_Form_put rfl t.ok_put (hA ▸ hr) (hF ▸ hb) hp he hkw ⟨r, u, v, w, rfl, hs, rfl, rfl, rfl⟩ l2 hall hks hpl ht
end

/-! ### the common calls -/
section
variable {X : Cx} {T : Tab} {S S1 S2 S3 S4 : Sta} {e e2 e3 e4 : Expr} {pos p : Pos} {b : B} {q : Q4} {m f : Int} {A : Around}
theorem Tx.cMade (t : Tx T X.K X.mg) (hr : Room 4 A) (he : DE X T S e (.dat (rq q)) S1) (hA : X.A = A := by rfl) (hg : Gl X "_law_made" := by rfl) (hs : starEach [e] X.env = (false, eval e X.env) :: starEach [] X.env := by rfl) : DE X T S (.Call (.Name "_law_made" p) [e] [] pos) (.dat (fq q)) S1 :=
  de_call (ds := [rq q]) t.ok_made (hA ▸ hr) t.m__law_made t.F__law_made.kp t.b__law_made (da_cons he da_nil hs) ⟨q, rfl, rfl, rfl, rfl⟩ hg (by decide) hs rfl
theorem Tx.cTold (t : Tx T X.K X.mg) (hr : Room 3 A) (he : DE X T S e (.dat (fq q)) S1) (hA : X.A = A := by rfl) (hg : Gl X "_law_told" := by rfl) (hs : starEach [e] X.env = (false, eval e X.env) :: starEach [] X.env := by rfl) : DE X T S (.Call (.Name "_law_told" p) [e] [] pos) (.dat (rq q)) S1 :=
  de_call (ds := [fq q]) t.ok_told (hA ▸ hr) t.m__law_told t.F__law_told.kp t.b__law_told (da_cons he da_nil hs) ⟨q, rfl, rfl, rfl, rfl⟩ hg (by decide) hs rfl
theorem Tx.cFour (t : Tx T X.K X.mg) (hr : Room 2 A) (j : Nat) (h1 : DE X T S e (.cel j) S1) (h2 : DE X T S1 e2 (.dat (.int m)) S2) (h3 : DE X T S2 e3 (.dat (.int f)) S3) (h4 : DE X T S3 e4 (.dat (.int 3)) S4) (hj : S4.cs[j]? = some (bx b)) (hm : 0 ≤ m ∧ m < 2 ^ 40) (hf : 0 ≤ f ∧ f < 2 ^ 40) (hb : Ok b) (hA : X.A = A := by rfl) (hg : Gl X "_law_four" := by rfl)
    (hs : starEach [e, e2, e3, e4] X.env = (false, eval e X.env) :: starEach [e2, e3, e4] X.env := by rfl) (hs2 : starEach [e2, e3, e4] X.env = (false, eval e2 X.env) :: starEach [e3, e4] X.env := by rfl) (hs3 : starEach [e3, e4] X.env = (false, eval e3 X.env) :: starEach [e4] X.env := by rfl) (hs4 : starEach [e4] X.env = (false, eval e4 X.env) :: starEach [] X.env := by rfl)
    (hpl : (backTo pos (starEach [e2, e3, e4] X.env)).any (·.1) = false := by rfl) : DE X T S (.Call (.Name "_law_four" p) [e, e2, e3, e4] [] pos) (.dat (rq (fourQ b m f))) ⟨S4.sl, S4.cs.set j (bx (fourB b m f))⟩ :=
  de_callC t.ok_four (hA ▸ hr) t.m__law_four t.F__law_four.kp t.b__law_four j (da_cons h1 (da_cons h2 (da_cons h3 (da_cons h4 da_nil hs4) hs3) hs2) hs) hj (by simp [onlyCell]) ⟨b, m, f, rfl, rfl, hm, hf, hb, rfl, rfl⟩ hg (by decide) hs hpl
end
theorem ne_no {d e : D} (h : d = e) (ok : okD e = true) : ¬ (!eqD d e) = true := by subst h; rw [eqD_refl ok]; decide
theorem eq_yes {d e : D} (h : d = e) (ok : okD e = true) : eqD d e = true := by subst h; exact eqD_refl ok
theorem mulb {a b m n : Int} (h1 : -m ≤ a ∧ a ≤ m) (h2 : -n ≤ b ∧ b ≤ n) : -(m * n) ≤ a * b ∧ a * b ≤ m * n := by
  have e : (a * b).natAbs ≤ m.natAbs * n.natAbs := by rw [Int.natAbs_mul]; exact Nat.mul_le_mul (by omega) (by omega)
  have e2 : (m * n).natAbs = m.natAbs * n.natAbs := Int.natAbs_mul m n
  have e3 : 0 ≤ m * n := Int.mul_nonneg (by omega) (by omega)
  omega

/-! ### k04: numbers, values, what is put in -/
def numV (b : B) : Int := if tk b 4 = 0 then tk (nx b 4) (10 ^ 12) - 5 * 10 ^ 11 else tk (nx b 4) 19 - 9
def numB (b : B) : B := if tk b 4 = 0 then nx (nx b 4) (10 ^ 12) else nx (nx b 4) 19
theorem Ok.num {b : B} (h : Ok b) : Ok (numB b) := by
  unfold numB
  split
  · exact (h.nx _).nx _
  · exact (h.nx _).nx _
def ctNum : Ct := fun args cs s cs' => ∃ b : B, args = [.cel 0] ∧ cs = [bx b] ∧ Ok b ∧ s = .dat (.int (numV b)) ∧ cs' = [bx (numB b)]
def ctVal : Ct := fun args cs s cs' => ∃ (r : Q4) (x y z : Int), (args = [.dat (rq r), .dat (.tup [.int x, .int y, .int z])] ∨ args = [.dat (rq r), .dat (.lst [.int x, .int y, .int z])]) ∧ Sm3 r ∧ cs = [] ∧ s = .dat (.int (valQ r x y z)) ∧ cs' = []
abbrev l3 (x y z : D) : D := .lst [x, y, z]
def ctLput : Ct := fun args cs s cs' => ∃ r x y z : Q4, args = [.dat (rq r), .dat (l3 (rq x) (rq y) (rq z))] ∧ Sm3 r ∧ cs = [] ∧ s = .dat (rq (putQ r x y z)) ∧ cs' = []
def ctUnknown : Ct := fun args cs s cs' => ∃ (x : Str) (q : Q4), ((x = "i" ∧ q = uI) ∨ (x = "j" ∧ q = uJ) ∨ x = "p" ∧ q = uP) ∧ args = [.dat (.str x)] ∧ cs = [] ∧ s = .dat (fq q) ∧ cs' = []
def pk (l : Bool) (u x : Q4) : Q4 := if l then u else x
def ctAsked : Ct := fun args cs s cs' => ∃ (r x y z : Q4) (l m n : Bool), args = [.dat (fq r), .dat (l3 (rq x) (rq y) (rq z)), .dat (l3 (.bl l) (.bl m) (.bl n))] ∧ Sm3 r ∧ cs = [] ∧ s = .dat (fq (putQ r (pk l uI x) (pk m uJ y) (pk n uP z))) ∧ cs' = []
section
variable {T : Tab} {P : Program} {w : World} {K : PySem.W.Frag} {mg : Str → Option Value} {base : Heap}
theorem Tx.ok_number (t : Tx T K mg) : FnOk P w K mg base CX0 2 t.a__law_number t.fd__law_number ["_law_box"] (spC T K ctNum) := by
  refine fn_ok t.F__law_number sc__law_number (fun args cs s cs' h => ?_) (fun cdv A outer sh H E hr args cs s cs' h => ?_)
  · obtain ⟨_, rfl, _⟩ := h; rfl
  · obtain ⟨b, rfl, rfl, hb, rfl, rfl⟩ := h
    refine dss_cons (ds_if (dt_cm (t.draw hr 0 (de_name 0 rfl) de_int rfl ⟨by decide, by decide⟩ hb) de_int cmp_eqI) (fun hc => ?_) (fun hc => ?_))
    · have hc : tk b 4 = 0 := of_decide_eq_true hc
      refine dss_cons (ds_ret (de_bin (t.draw (b := nx b 4) hr 0 (de_name 0 rfl) (de_bin de_int de_int (bin_pow ⟨by decide, by decide, by decide⟩)) rfl ⟨by decide, by decide⟩ (hb.nx _)) (de_bin de_int (de_bin de_int de_int (bin_pow ⟨by decide, by decide, by decide⟩)) (bin_mul (Dl.mul_l (by decide) (by decide)))) bin_sub) ?_)
      exact ⟨by unfold numV; rw [if_pos hc]; rfl, by unfold numB; rw [if_pos hc]; rfl⟩
    · have hc : ¬ tk b 4 = 0 := of_decide_eq_false hc
      refine dss_nil ?_
      refine dss_cons (ds_ret (de_bin (t.draw (b := nx b 4) hr 0 (de_name 0 rfl) de_int rfl ⟨by decide, by decide⟩ (hb.nx _)) de_int bin_sub) ?_)
      exact ⟨by unfold numV; rw [if_neg hc], by unfold numB; rw [if_neg hc]; rfl⟩
theorem Tx.ok_val (t : Tx T K mg) : FnOk P w K mg base CX0 1 t.a__law_value t.fd__law_value ["_law_row", "_law_worths"] (spC T K ctVal) := by
  refine fn_ok t.F__law_value sc__law_value (fun args cs s cs' h => ?_) (fun cdv A outer sh H E hr args cs s cs' h => ?_)
  · obtain ⟨_, _, _, _, rfl | rfl, _⟩ := h <;> rfl
  · obtain ⟨r, x, y, z, ha, ⟨h1, h2, h3⟩, rfl, rfl, rfl⟩ := h
    rcases ha with rfl | rfl
    · exact dss_cons (ds_ret (de_bin (de_bin (de_bin (de_bin (de_sub1 (de_name 0 rfl) de_int (ix_T rfl)) (de_sub1 (de_name 1 rfl) de_int (ix_T rfl)) (bin_mul (h1.ok _))) (de_bin (de_sub1 (de_name 0 rfl) de_int (ix_T rfl)) (de_sub1 (de_name 1 rfl) de_int (ix_T rfl)) (bin_mul (h2.ok _))) bin_add) (de_bin (de_sub1 (de_name 0 rfl) de_int (ix_T rfl)) (de_sub1 (de_name 1 rfl) de_int (ix_T rfl)) (bin_mul (h3.ok _))) bin_add) (de_sub1 (de_name 0 rfl) de_int (ix_T rfl)) bin_add) ⟨rfl, rfl⟩)
    · exact dss_cons (ds_ret (de_bin (de_bin (de_bin (de_bin (de_sub1 (de_name 0 rfl) de_int (ix_T rfl)) (de_sub1 (de_name 1 rfl) de_int (ix_L rfl)) (bin_mul (h1.ok _))) (de_bin (de_sub1 (de_name 0 rfl) de_int (ix_T rfl)) (de_sub1 (de_name 1 rfl) de_int (ix_L rfl)) (bin_mul (h2.ok _))) bin_add) (de_bin (de_sub1 (de_name 0 rfl) de_int (ix_T rfl)) (de_sub1 (de_name 1 rfl) de_int (ix_L rfl)) (bin_mul (h3.ok _))) bin_add) (de_sub1 (de_name 0 rfl) de_int (ix_T rfl)) bin_add) ⟨rfl, rfl⟩)
theorem Tx.ok_lput (t : Tx T K mg) : FnOk P w K mg base CX0 1 t.a__law_put t.fd__law_put ["_law_row", "_law_others"] (spC T K ctLput) := by
  refine fn_ok t.F__law_put sc__law_put (fun args cs s cs' h => ?_) (fun cdv A outer sh H E hr args cs s cs' h => ?_)
  · obtain ⟨_, _, _, _, rfl, _⟩ := h; rfl
  · obtain ⟨r, x, y, z, rfl, ⟨h1, h2, h3⟩, rfl, rfl, rfl⟩ := h
    have nd := sc__law_put.nd
    refine dss_cons (ds_tupL rfl (de_name 1 rfl) rfl (dgs_cons (dg_name 2 nd) (dgs_cons (dg_name 3 nd) (dgs_cons (dg_name 4 nd) dgs_nil))) rfl ?_)
    show DSs _ _ _ ⟨[_, _, _, _, _, _, _, _, _], _⟩ _ _
    refine dss_cons (ds_lc 5 nd (dlc (acc := [.int (putQ r x y z).1, .int (putQ r x y z).2.1, .int (putQ r x y z).2.2.1, .int (r.1 * x.2.2.2 + r.2.1 * y.2.2.2 + r.2.2.1 * z.2.2.2)]) (cs' := []) (own := [("_law_a", 6), ("_law_b", 7), ("_law_c", 8)]) (di_zip3 (da_cons (de_name 2 rfl) (da_cons (de_name 3 rfl) (da_cons (de_name 4 rfl) da_nil))) t.z_zip) (blkOk_by (by kernel_rfl)) (fun _ _ _ _ _ => (dg_tup rfl (dgs_cons (dg_name 6 nd) (dgs_cons (dg_name 7 nd) (dgs_cons (dg_name 8 nd) dgs_nil))))) (by decide) ?_ (by show (4 : Nat) < sizeLine; decide)) ?_)
    · iterate 4 refine ⟨_, _, _, _, rfl, lcb (fun _ _ _ _ _ => (de_bin (de_bin (de_bin (de_sub1 (de_name 0 rfl) de_int (ix_T rfl)) (de_name 6 rfl) (bin_mul (h1.ok _))) (de_bin (de_sub1 (de_name 0 rfl) de_int (ix_T rfl)) (de_name 7 rfl) (bin_mul (h2.ok _))) bin_add) (de_bin (de_sub1 (de_name 0 rfl) de_int (ix_T rfl)) (de_name 8 rfl) (bin_mul (h3.ok _))) bin_add)), ?_, rfl⟩
      exact ⟨rfl, rfl⟩
    show DSs _ _ _ ⟨[_, _, _, _, _, _, _, _, _], _⟩ _ _
    exact dss_cons (ds_ret (de_tup (ds := [.int _, .int _, .int _, .int _]) (da_cons (de_sub1 (de_name 5 rfl) de_int (ix_L rfl)) (da_cons (de_sub1 (de_name 5 rfl) de_int (ix_L rfl)) (da_cons (de_sub1 (de_name 5 rfl) de_int (ix_L rfl)) (da_cons (de_bin (de_sub1 (de_name 5 rfl) de_int (ix_L rfl)) (de_sub1 (de_name 0 rfl) de_int (ix_T rfl)) bin_add) da_nil)))) (by show (4 : Nat) ≤ sizeLine; decide)) ⟨rfl, rfl⟩)
theorem Tx.ok_unknown (t : Tx T K mg) : FnOk P w K mg base CX0 5 t.a_unknown t.fd_unknown ["name"] (spC T K ctUnknown) := by
  refine fn_ok t.F_unknown sc_unknown (fun args cs s cs' h => ?_) (fun cdv A outer sh H E hr args cs s cs' h => ?_)
  · obtain ⟨_, _, _, rfl, _⟩ := h; rfl
  · obtain ⟨x, q, hx, rfl, rfl, rfl, rfl⟩ := h
    rcases hx with ⟨rfl, rfl⟩ | ⟨rfl, rfl⟩ | ⟨rfl, rfl⟩
    all_goals
      refine dss_cons (ds_if (dt_cm (de_name 0 rfl) (de_tup (ds := [.str "i", .str "j", .str "p"]) (da_cons de_str (da_cons de_str (da_cons de_str da_nil))) (by show (3 : Nat) ≤ sizeLine; decide)) (cmp_ninT rfl rfl)) (fun hc => absurd hc (by decide +kernel)) (fun hc => ?_))
      refine dss_nil ?_
      exact dss_cons (ds_ret (de_call t.ok_form_of (hr.mono (by decide)) t.m_form_of t.F_form_of.kp t.b_form_of (ds := [_]) (da_cons (de_tup (ds := [.int _, .int _, .int _, .int _]) (da_cons (de_cb t.z_int (da_cons (de_cm (de_name 0 rfl) de_str cmp_eqS) da_nil) cb_intB) (da_cons (de_cb t.z_int (da_cons (de_cm (de_name 0 rfl) de_str cmp_eqS) da_nil) cb_intB) (da_cons (de_cb t.z_int (da_cons (de_cm (de_name 0 rfl) de_str cmp_eqS) da_nil) cb_intB) (da_cons de_int da_nil)))) (by show (4 : Nat) ≤ sizeLine; decide)) da_nil) ⟨_, _, _, _, rfl, rfl, rfl, rfl⟩) ⟨rfl, rfl⟩)
end

/-! ### k04: asked, and the three checks -/
section
variable {T : Tab} {P : Program} {w : World} {K : PySem.W.Frag} {mg : Str → Option Value} {base : Heap}
theorem Tx.ok_asked (t : Tx T K mg) : FnOk P w K mg base CX0 6 t.a__law_asked t.fd__law_asked ["_law_form", "_law_others", "_law_left"] (spC T K ctAsked) := by
  refine fn_ok t.F__law_asked sc__law_asked (fun args cs s cs' h => ?_) (fun cdv A outer sh H E hr args cs s cs' h => ?_)
  · obtain ⟨_, _, _, _, _, _, _, rfl, _⟩ := h; rfl
  · obtain ⟨r, x, y, z, l, m, n, rfl, hs, rfl, rfl, rfl⟩ := h
    have nd := sc__law_asked.nd
    have h4 := hr.mono (show 4 ≤ 5 by decide)
    obtain ⟨_, k1⟩ := kb_put_p t.F_Form_put
    obtain ⟨_, k2⟩ := kb_put_ji t.F_Form_put
    obtain ⟨_, k3⟩ := kb_put_pij t.F_Form_put
    refine dss_cons (ds_asg 3 nd (de_lstC (ds := [.non, .non, .non]) (da_cons de_non (da_cons de_non (da_cons de_non da_nil))) (by show (3 : Nat) ≤ sizeLine; decide)) ?_)
    show DSs _ _ _ ⟨[_, _, _, _, _, _, _, _], [_]⟩ _ _
    cases l <;> cases m <;> cases n
    all_goals
      refine dss_cons (ds_for (di_range1 (da_cons de_int da_nil) t.z_range (by decide) (by decide)) (dg_name 4 nd) ?_)
      iterate 3
        refine ⟨_, rfl, ?_⟩
        show DSs _ _ _ ⟨[_, _, _, _, _, _, _, _], [_]⟩ _ _
        first
          | (refine dss_cons (ds_if (dt_not (k := false) (dt_val (de_sub1 (de_name 2 rfl) (de_name 4 rfl) (ix_L rfl)))) (fun hc => ?_) (fun hc => nomatch hc))
             refine dss_cons (ds_setL (t.cMade h4 (de_sub1 (de_name 1 rfl) (de_name 4 rfl) (ix_L rfl))) (de_name 3 rfl) (de_name 4 rfl) rfl rfl ?_)
             refine dss_nil ?_
             refine dss_nil ?_)
          | (refine dss_cons (ds_if (dt_not (k := true) (dt_val (de_sub1 (de_name 2 rfl) (de_name 4 rfl) (ix_L rfl)))) (fun hc => nomatch hc) (fun hc => ?_))
             refine dss_nil ?_
             refine dss_nil ?_)
      show DSs _ _ _ ⟨[_, _, _, _, _, _, _, _], [_]⟩ _ _
      refine dss_cons (ds_tupL rfl (de_name 3 rfl) rfl (dgs_cons (dg_name 5 nd) (dgs_cons (dg_name 6 nd) (dgs_cons (dg_name 7 nd) dgs_nil))) rfl ?_)
      show DSs _ _ _ ⟨[_, _, _, _, _, _, _, _], [_]⟩ _ _
      first
        | (refine dss_cons (ds_if (DW.pt (dw_andT (dt_val (de_sub1 (de_name 2 rfl) de_int (ix_L rfl))) (dw_and1 (k := true) (dt_val (de_sub1 (de_name 2 rfl) de_int (ix_L rfl)))))) (fun hc => ?_) (fun hc => nomatch hc))
           first
             | exact dss_cons (ds_ret (t.putK (u := none) (v := none) (w := none) hr k1 pt_put_p (de_name 0 rfl) (dk_cons (de_name 7 rfl) dk_nil) hs rfl) ⟨rfl, rfl⟩)
             | exact dss_cons (ds_ret (t.putK (u := none) (v := none) (w := some z) hr k1 pt_put_p (de_name 0 rfl) (dk_cons (de_name 7 rfl) dk_nil) hs rfl) ⟨rfl, rfl⟩))
        | (first
             | refine dss_cons (ds_if (DW.pt (dw_andT (dt_val (de_sub1 (de_name 2 rfl) de_int (ix_L rfl))) (dw_and1 (k := false) (dt_val (de_sub1 (de_name 2 rfl) de_int (ix_L rfl)))))) (fun hc => nomatch hc) (fun hc => ?_))
             | refine dss_cons (ds_if (DW.pt (dw_andF (dt_val (de_sub1 (de_name 2 rfl) de_int (ix_L rfl))))) (fun hc => nomatch hc) (fun hc => ?_))
           refine dss_nil ?_
           first
             | (refine dss_cons (ds_if (k := true) (dt_val (de_sub1 (de_name 2 rfl) de_int (ix_L rfl))) (fun hc => ?_) (fun hc => nomatch hc))
                first
                  | exact dss_cons (ds_ret (t.putK (u := none) (v := some y) (w := none) hr k2 pt_put_ji (de_name 0 rfl) (dk_cons (de_name 6 rfl) (dk_cons (de_name 5 rfl) dk_nil)) hs rfl) ⟨rfl, rfl⟩)
                  | exact dss_cons (ds_ret (t.putK (u := some x) (v := none) (w := none) hr k2 pt_put_ji (de_name 0 rfl) (dk_cons (de_name 6 rfl) (dk_cons (de_name 5 rfl) dk_nil)) hs rfl) ⟨rfl, rfl⟩)
                  | exact dss_cons (ds_ret (t.putK (u := some x) (v := some y) (w := none) hr k2 pt_put_ji (de_name 0 rfl) (dk_cons (de_name 6 rfl) (dk_cons (de_name 5 rfl) dk_nil)) hs rfl) ⟨rfl, rfl⟩))
             | (refine dss_cons (ds_if (k := false) (dt_val (de_sub1 (de_name 2 rfl) de_int (ix_L rfl))) (fun hc => nomatch hc) (fun hc => ?_))
                refine dss_nil ?_
                first
                  | exact dss_cons (ds_ret (t.putK (u := none) (v := some y) (w := some z) hr k3 pt_put_pij (de_name 0 rfl) (dk_cons (de_name 7 rfl) (dk_cons (de_name 5 rfl) (dk_cons (de_name 6 rfl) dk_nil))) hs rfl) ⟨rfl, rfl⟩)
                  | exact dss_cons (ds_ret (t.putK (u := some x) (v := none) (w := some z) hr k3 pt_put_pij (de_name 0 rfl) (dk_cons (de_name 7 rfl) (dk_cons (de_name 5 rfl) (dk_cons (de_name 6 rfl) dk_nil))) hs rfl) ⟨rfl, rfl⟩)
                  | exact dss_cons (ds_ret (t.putK (u := some x) (v := some y) (w := some z) hr k3 pt_put_pij (de_name 0 rfl) (dk_cons (de_name 7 rfl) (dk_cons (de_name 5 rfl) (dk_cons (de_name 6 rfl) dk_nil))) hs rfl) ⟨rfl, rfl⟩)))
end

/-! ### k04: the plain laws -/
theorem valQ_put (r x y z : Q4) (a b c : Int) : valQ (putQ r x y z) a b c = valQ r (valQ x a b c) (valQ y a b c) (valQ z a b c) := by
  unfold valQ putQ
  dsimp only
  simp only [Int.add_mul, Int.mul_add, Int.mul_assoc]
  omega
theorem putQ_put (r x y z a b c : Q4) : putQ (putQ r x y z) a b c = putQ r (putQ x a b c) (putQ y a b c) (putQ z a b c) := by
  unfold putQ
  dsimp only
  simp only [Int.add_mul, Int.mul_add, Int.mul_assoc]
  refine Prod.ext ?_ (Prod.ext ?_ (Prod.ext ?_ ?_)) <;> dsimp only <;> omega
theorem valQ_mul (r : Q4) (n a b c : Int) : valQ (mulQ n r) a b c = n * valQ r a b c := by
  unfold valQ mulQ
  dsimp only
  simp only [Int.mul_add, Int.mul_assoc]
theorem valQ_add (r o : Q4) (a b c : Int) : valQ (addQ r o) a b c = valQ r a b c + valQ o a b c := by
  unfold valQ addQ
  dsimp only
  simp only [Int.add_mul]
  omega
theorem putQ_id (r : Q4) : putQ r uI uJ uP = r := by
  unfold putQ uI uJ uP
  dsimp only
  refine Prod.ext ?_ (Prod.ext ?_ (Prod.ext ?_ ?_)) <;> dsimp only <;> omega
theorem InQ.sm {m f : Int} {q : Q4} (h : InQ m f q) (hm : m < 2 ^ 60) : Sm3 q := by
  obtain ⟨h1, h2, h3, h4⟩ := h
  exact ⟨⟨by omega, by omega⟩, ⟨by omega, by omega⟩, ⟨by omega, by omega⟩⟩
theorem put_in {r x y z : Q4} (hr : InQ 9 9 r) (hx : InQ 9 9 x) (hy : InQ 9 9 y) (hz : InQ 9 9 z) : InQ 252 252 (putQ r x y z) := by
  obtain ⟨r1, r2, r3, r4⟩ := hr
  obtain ⟨x1, x2, x3, x4⟩ := hx
  obtain ⟨y1, y2, y3, y4⟩ := hy
  obtain ⟨z1, z2, z3, z4⟩ := hz
  have a1 := mulb r1 x1
  have a2 := mulb r2 y1
  have a3 := mulb r3 z1
  have b1 := mulb r1 x2
  have b2 := mulb r2 y2
  have b3 := mulb r3 z2
  have c1 := mulb r1 x3
  have c2 := mulb r2 y3
  have c3 := mulb r3 z3
  have d1 := mulb r1 x4
  have d2 := mulb r2 y4
  have d3 := mulb r3 z4
  unfold putQ InQ
  dsimp only
  omega
abbrev t3 (x y z : D) : D := .tup [x, y, z]
def ctVals : Ct := fun args cs s cs' => ∃ (r x y z : Q4) (a b c : Int), args = [.dat (rq r), .dat (l3 (rq x) (rq y) (rq z)), .dat (fq (putQ r x y z)), .dat (t3 (.int a) (.int b) (.int c))] ∧ (InQ 9 9 r ∧ InQ 9 9 x ∧ InQ 9 9 y ∧ InQ 9 9 z) ∧ cs = [] ∧ s = .dat (.bl true) ∧ cs' = []
def ctTwice : Ct := fun args cs s cs' => ∃ (r x y z a b c : Q4), args = [.dat (rq r), .dat (l3 (rq x) (rq y) (rq z)), .dat (fq (putQ r x y z)), .dat (l3 (rq a) (rq b) (rq c))] ∧ (InQ 9 9 r ∧ InQ 9 9 x ∧ InQ 9 9 y ∧ InQ 9 9 z) ∧ cs = [] ∧ s = .dat (.bl true) ∧ cs' = []
def ctSums : Ct := fun args cs s cs' => ∃ (r o : Q4) (n a b c : Int), args = [.dat (rq r), .dat (rq o), .dat (.int n), .dat (t3 (.int a) (.int b) (.int c))] ∧ (InQ 9 9 r ∧ InQ 9 9 o ∧ -9 ≤ n ∧ n ≤ 9) ∧ cs = [] ∧ s = .dat (.bl true) ∧ cs' = []
section
variable {X : Cx} {T : Tab} {S S1 S2 : Sta} {e e2 : Expr} {pos p : Pos} {r x y z : Q4} {a b c : Int} {A : Around}
theorem Tx.cValT (t : Tx T X.K X.mg) (hr : Room 1 A) (h1 : DE X T S e (.dat (rq r)) S1) (h2 : DE X T S1 e2 (.dat (t3 (.int a) (.int b) (.int c))) S2) (hs : Sm3 r) (hA : X.A = A := by rfl) (hg : Gl X "_law_value" := by rfl) (he : starEach [e, e2] X.env = (false, eval e X.env) :: starEach [e2] X.env := by rfl) (he2 : starEach [e2] X.env = (false, eval e2 X.env) :: starEach [] X.env := by rfl) (hpl : (backTo pos (starEach [e2] X.env)).any (·.1) = false := by rfl) :
    DE X T S (.Call (.Name "_law_value" p) [e, e2] [] pos) (.dat (.int (valQ r a b c))) S2 :=
  de_call (ds := [rq r, t3 (.int a) (.int b) (.int c)]) t.ok_val (hA ▸ hr) t.m__law_value t.F__law_value.kp t.b__law_value (da_cons h1 (da_cons h2 da_nil he2) he) ⟨r, a, b, c, .inl rfl, hs, rfl, rfl, rfl⟩ hg (by decide) he hpl
theorem Tx.cValL (t : Tx T X.K X.mg) (hr : Room 1 A) (h1 : DE X T S e (.dat (rq r)) S1) (h2 : DE X T S1 e2 (.dat (l3 (.int a) (.int b) (.int c))) S2) (hs : Sm3 r) (hA : X.A = A := by rfl) (hg : Gl X "_law_value" := by rfl) (he : starEach [e, e2] X.env = (false, eval e X.env) :: starEach [e2] X.env := by rfl) (he2 : starEach [e2] X.env = (false, eval e2 X.env) :: starEach [] X.env := by rfl) (hpl : (backTo pos (starEach [e2] X.env)).any (·.1) = false := by rfl) :
    DE X T S (.Call (.Name "_law_value" p) [e, e2] [] pos) (.dat (.int (valQ r a b c))) S2 :=
  de_call (ds := [rq r, l3 (.int a) (.int b) (.int c)]) t.ok_val (hA ▸ hr) t.m__law_value t.F__law_value.kp t.b__law_value (da_cons h1 (da_cons h2 da_nil he2) he) ⟨r, a, b, c, .inr rfl, hs, rfl, rfl, rfl⟩ hg (by decide) he hpl
theorem Tx.cPut (t : Tx T X.K X.mg) (hr : Room 1 A) (h1 : DE X T S e (.dat (rq r)) S1) (h2 : DE X T S1 e2 (.dat (l3 (rq x) (rq y) (rq z))) S2) (hs : Sm3 r) (hA : X.A = A := by rfl) (hg : Gl X "_law_put" := by rfl) (he : starEach [e, e2] X.env = (false, eval e X.env) :: starEach [e2] X.env := by rfl) (he2 : starEach [e2] X.env = (false, eval e2 X.env) :: starEach [] X.env := by rfl) (hpl : (backTo pos (starEach [e2] X.env)).any (·.1) = false := by rfl) :
    DE X T S (.Call (.Name "_law_put" p) [e, e2] [] pos) (.dat (rq (putQ r x y z))) S2 :=
  de_call (ds := [rq r, l3 (rq x) (rq y) (rq z)]) t.ok_lput (hA ▸ hr) t.m__law_put t.F__law_put.kp t.b__law_put (da_cons h1 (da_cons h2 da_nil he2) he) ⟨r, x, y, z, rfl, hs, rfl, rfl, rfl⟩ hg (by decide) he hpl
end
section
variable {T : Tab} {P : Program} {w : World} {K : PySem.W.Frag} {mg : Str → Option Value} {base : Heap}
theorem Tx.ok_vals (t : Tx T K mg) : FnOk P w K mg base CX0 6 t.a__law_values_right t.fd__law_values_right ["_law_row", "_law_there", "_law_found", "_law_worths"] (spC T K ctVals) := by
  refine fn_ok t.F__law_values_right sc__law_values_right (fun args cs s cs' h => ?_) (fun cdv A outer sh H E hr args cs s cs' h => ?_)
  · obtain ⟨_, _, _, _, _, _, _, rfl, _⟩ := h; rfl
  · obtain ⟨r, x, y, z, a, b, c, rfl, ⟨ir, ix, iy, iz⟩, rfl, rfl, rfl⟩ := h
    have nd := sc__law_values_right.nd
    have h4 := hr.mono (show 4 ≤ 5 by decide)
    have h1 := hr.mono (show 1 ≤ 5 by decide)
    obtain ⟨_, k1⟩ := kb_value_ijp t.F_Form_value
    obtain ⟨_, k2⟩ := kb_value_pji t.F_Form_value
    obtain ⟨_, k3⟩ := kb_value_0 t.F_Form_value
    obtain ⟨_, k4⟩ := kb_value_i t.F_Form_value
    obtain ⟨_, k5⟩ := kb_value_j t.F_Form_value
    obtain ⟨_, k6⟩ := kb_value_p t.F_Form_value
    have sr := ir.sm (by decide)
    have sx := ix.sm (by decide)
    have sy := iy.sm (by decide)
    have sz := iz.sm (by decide)
    have sp := (put_in ir ix iy iz).sm (by decide)
    refine dss_cons (ds_par 4 5 nd (da_cons (t.cMade h4 (de_name 0 rfl)) (da_cons (de_lc nd (dlc (acc := [.int (valQ x a b c), .int (valQ y a b c), .int (valQ z a b c)]) (cs' := []) (own := [("_law_one", 6)]) (di_list (de_name 1 rfl)) (blkOk_by (by kernel_rfl)) (fun _ _ _ _ _ => (dg_name 6 nd)) (by decide) ?_ (by show (3 : Nat) < sizeLine; decide))) da_nil)) ?_)
    · refine ⟨_, _, _, _, rfl, lcb (fun _ _ _ _ _ => (t.cValT h1 (de_name 6 rfl) (de_name 3 rfl) sx)), ?_, rfl⟩
      refine ⟨_, _, _, _, rfl, lcb (fun _ _ _ _ _ => (t.cValT h1 (de_name 6 rfl) (de_name 3 rfl) sy)), ?_, rfl⟩
      refine ⟨_, _, _, _, rfl, lcb (fun _ _ _ _ _ => (t.cValT h1 (de_name 6 rfl) (de_name 3 rfl) sz)), ?_, rfl⟩
      exact ⟨rfl, rfl⟩
    show DSs _ _ _ ⟨[_, _, _, _, _, _, _, _, _], _⟩ _ _
    refine dss_cons (ds_asg 7 nd (t.valueK (x := a) (y := b) (z := c) h1 k1 pt_value_ijp (de_name 2 rfl) (dk_cons (de_sub1 (de_name 3 rfl) de_int (ix_T rfl)) (dk_cons (de_sub1 (de_name 3 rfl) de_int (ix_T rfl)) (dk_cons (de_sub1 (de_name 3 rfl) de_int (ix_T rfl)) dk_nil))) sp rfl) ?_)
    show DSs _ _ _ ⟨[_, _, _, _, _, _, _, _, _], _⟩ _ _
    refine dss_cons (ds_if (DW.pt (dw_orF (dt_not (k := true) (dt_val (de_isi t.z_isinstance t.z_int bi_int (de_name 7 rfl) rfl rfl))) (dw_orF (dt_val (de_isi t.z_isinstance t.z_bool bi_bool (de_name 7 rfl) rfl rfl)) (dw_or1 (dt_cm (de_name 7 rfl) (t.cValL h1 (de_name 0 rfl) (de_name 5 rfl) sr) cmp_neI))))) (fun hc => ?_) (fun hc => ?_))
    · exact absurd hc (by rw [valQ_put]; simp)
    refine dss_nil ?_
    show DSs _ _ _ ⟨[_, _, _, _, _, _, _, _, _], _⟩ _ _
    refine dss_cons (ds_if (DW.pt (dw_or (dt_cm (t.valueK (x := valQ x a b c) (y := valQ y a b c) (z := valQ z a b c) h1 k2 pt_value_pji (de_name 4 rfl) (dk_cons (de_sub1 (de_name 5 rfl) de_int (ix_L rfl)) (dk_cons (de_sub1 (de_name 5 rfl) de_int (ix_L rfl)) (dk_cons (de_sub1 (de_name 5 rfl) de_int (ix_L rfl)) dk_nil))) sr rfl) (de_name 7 rfl) cmp_neI) fun _ => (dw_or1 (dt_cm (t.valueK (x := 0) (y := 0) (z := 0) h1 k3 pt_value_0 (de_name 4 rfl) dk_nil sr rfl) (de_sub1 (de_name 0 rfl) de_int (ix_T rfl)) cmp_neI)))) (fun hc => ?_) (fun hc => ?_))
    · exact absurd hc (by rw [valQ_put]; unfold valQ; simp)
    refine dss_nil ?_
    show DSs _ _ _ ⟨[_, _, _, _, _, _, _, _, _], _⟩ _ _
    refine dss_cons (ds_asg 2 nd (de_lst (ds := [.int _, .int _, .int _]) (da_cons (t.valueK (x := a) (y := 0) (z := 0) h1 k4 pt_value_i (de_name 4 rfl) (dk_cons (de_sub1 (de_name 3 rfl) de_int (ix_T rfl)) dk_nil) sr rfl) (da_cons (t.valueK (x := 0) (y := b) (z := 0) h1 k5 pt_value_j (de_name 4 rfl) (dk_cons (de_sub1 (de_name 3 rfl) de_int (ix_T rfl)) dk_nil) sr rfl) (da_cons (t.valueK (x := 0) (y := 0) (z := c) h1 k6 pt_value_p (de_name 4 rfl) (dk_cons (de_sub1 (de_name 3 rfl) de_int (ix_T rfl)) dk_nil) sr rfl) da_nil))) (by show (3 : Nat) ≤ sizeLine; decide)) ?_)
    show DSs _ _ _ ⟨[_, _, _, _, _, _, _, _, _], _⟩ _ _
    refine dss_cons (ds_ret (de_cm (de_name 2 rfl) (de_lc nd (dlc (acc := [.int (r.1 * a + r.2.2.2), .int (r.2.1 * b + r.2.2.2), .int (r.2.2.1 * c + r.2.2.2)]) (cs' := []) (own := [("_law_k", 8)]) (di_range1 (da_cons de_int da_nil) t.z_range (by decide) (by decide)) (blkOk_by (by kernel_rfl)) (fun _ _ _ _ _ => (dg_name 8 nd)) (by decide) ?_ (by show (3 : Nat) < sizeLine; decide))) (cmp_eqD hr.units rfl rfl)) ?_)
    · refine ⟨_, _, _, _, rfl, lcb (fun _ _ _ _ _ => (de_bin (de_bin (de_sub1 (de_name 0 rfl) (de_name 8 rfl) (ix_T rfl)) (de_sub1 (de_name 3 rfl) (de_name 8 rfl) (ix_T rfl)) (bin_mul (sr.1.ok _))) (de_sub1 (de_name 0 rfl) de_int (ix_T rfl)) bin_add)), ?_, rfl⟩
      refine ⟨_, _, _, _, rfl, lcb (fun _ _ _ _ _ => (de_bin (de_bin (de_sub1 (de_name 0 rfl) (de_name 8 rfl) (ix_T rfl)) (de_sub1 (de_name 3 rfl) (de_name 8 rfl) (ix_T rfl)) (bin_mul (sr.2.1.ok _))) (de_sub1 (de_name 0 rfl) de_int (ix_T rfl)) bin_add)), ?_, rfl⟩
      refine ⟨_, _, _, _, rfl, lcb (fun _ _ _ _ _ => (de_bin (de_bin (de_sub1 (de_name 0 rfl) (de_name 8 rfl) (ix_T rfl)) (de_sub1 (de_name 3 rfl) (de_name 8 rfl) (ix_T rfl)) (bin_mul (sr.2.2.ok _))) (de_sub1 (de_name 0 rfl) de_int (ix_T rfl)) bin_add)), ?_, rfl⟩
      exact ⟨rfl, rfl⟩
    refine ⟨?_, rfl⟩
    have e : l3 (.int (valQ r a 0 0)) (.int (valQ r 0 b 0)) (.int (valQ r 0 0 c)) = l3 (.int (r.1 * a + r.2.2.2)) (.int (r.2.1 * b + r.2.2.2)) (.int (r.2.2.1 * c + r.2.2.2)) := by unfold valQ; simp
    show Sl.dat (.bl (eqD (l3 (.int (valQ r a 0 0)) (.int (valQ r 0 b 0)) (.int (valQ r 0 0 c))) _)) = _
    rw [eq_yes e rfl]
theorem Tx.ok_twice (t : Tx T K mg) : FnOk P w K mg base CX0 6 t.a__law_twice_right t.fd__law_twice_right ["_law_row", "_law_there", "_law_found", "_law_second"] (spC T K ctTwice) := by
  refine fn_ok t.F__law_twice_right sc__law_twice_right (fun args cs s cs' h => ?_) (fun cdv A outer sh H E hr args cs s cs' h => ?_)
  · obtain ⟨_, _, _, _, _, _, _, rfl, _⟩ := h; rfl
  · obtain ⟨r, x, y, z, a, b, c, rfl, ⟨ir, ix, iy, iz⟩, rfl, rfl, rfl⟩ := h
    have nd := sc__law_twice_right.nd
    have h4 := hr.mono (show 4 ≤ 5 by decide)
    have h3 := hr.mono (show 3 ≤ 5 by decide)
    have h1 := hr.mono (show 1 ≤ 5 by decide)
    obtain ⟨_, k1⟩ := kb_put_ijp t.F_Form_put
    have sr := ir.sm (by decide)
    have sx := ix.sm (by decide)
    have sy := iy.sm (by decide)
    have sz := iz.sm (by decide)
    have sp := (put_in ir ix iy iz).sm (by decide)
    refine dss_cons (ds_asg 4 nd (t.putK (u := some a) (v := some b) (w := some c) hr k1 pt_put_ijp (de_name 2 rfl) (dk_cons (t.cMade h4 (de_sub1 (de_name 3 rfl) de_int (ix_L rfl))) (dk_cons (t.cMade h4 (de_sub1 (de_name 3 rfl) de_int (ix_L rfl))) (dk_cons (t.cMade h4 (de_sub1 (de_name 3 rfl) de_int (ix_L rfl))) dk_nil))) sp rfl) ?_)
    show DSs _ _ _ ⟨[_, _, _, _, _, _, _, _, _], _⟩ _ _
    refine dss_cons (ds_lc 5 nd (dlc (acc := [rq (putQ x a b c), rq (putQ y a b c), rq (putQ z a b c)]) (cs' := []) (own := [("_law_one", 6)]) (di_list (de_name 1 rfl)) (blkOk_by (by kernel_rfl)) (fun _ _ _ _ _ => (dg_name 6 nd)) (by decide) ?_ (by show (3 : Nat) < sizeLine; decide)) ?_)
    · refine ⟨_, _, _, _, rfl, lcb (fun _ _ _ _ _ => (t.cPut h1 (de_name 6 rfl) (de_name 3 rfl) sx)), ?_, rfl⟩
      refine ⟨_, _, _, _, rfl, lcb (fun _ _ _ _ _ => (t.cPut h1 (de_name 6 rfl) (de_name 3 rfl) sy)), ?_, rfl⟩
      refine ⟨_, _, _, _, rfl, lcb (fun _ _ _ _ _ => (t.cPut h1 (de_name 6 rfl) (de_name 3 rfl) sz)), ?_, rfl⟩
      exact ⟨rfl, rfl⟩
    show DSs _ _ _ ⟨[_, _, _, _, _, _, _, _, _], _⟩ _ _
    refine dss_cons (ds_asg 7 nd (t.cMade h4 (de_name 0 rfl)) ?_)
    show DSs _ _ _ ⟨[_, _, _, _, _, _, _, _, _], _⟩ _ _
    refine dss_cons (ds_asg 8 nd (t.putK (u := some (putQ x a b c)) (v := some (putQ y a b c)) (w := some (putQ z a b c)) hr k1 pt_put_ijp (de_name 7 rfl) (dk_cons (t.cMade h4 (de_sub1 (de_name 5 rfl) de_int (ix_L rfl))) (dk_cons (t.cMade h4 (de_sub1 (de_name 5 rfl) de_int (ix_L rfl))) (dk_cons (t.cMade h4 (de_sub1 (de_name 5 rfl) de_int (ix_L rfl))) dk_nil))) sr rfl) ?_)
    show DSs _ _ _ ⟨[_, _, _, _, _, _, _, _, _], _⟩ _ _
    refine dss_cons (ds_ret (de_and (de_cm (de_name 4 rfl) (de_name 8 rfl) (cmp_own2 t.T_Form t.ok_eq h1 t.b_Form___eq__ t.M_Form___eq__.at_ t.M_Form___eq__.fn ⟨_, _, rfl, rfl, rfl, rfl⟩)) fun _ => (de_one (de_cm (t.cTold h3 (de_name 4 rfl)) (t.cPut h1 (de_name 0 rfl) (de_name 5 rfl) sr) (cmp_eqD hr.units rfl rfl)))) ?_)
    refine ⟨?_, rfl⟩
    have e : rq (putQ (putQ r x y z) a b c) = rq (putQ r (putQ x a b c) (putQ y a b c) (putQ z a b c)) := by rw [putQ_put]
    show Sl.dat (.bl (eqD (rq (putQ (putQ r x y z) a b c)) (rq (putQ r (putQ x a b c) (putQ y a b c) (putQ z a b c))) && eqD (rq (putQ (putQ r x y z) a b c)) (rq (putQ r (putQ x a b c) (putQ y a b c) (putQ z a b c))))) = _
    rw [eq_yes e rfl]
    rfl
theorem Tx.ok_sums (t : Tx T K mg) : FnOk P w K mg base CX0 6 t.a__law_sums_right t.fd__law_sums_right ["_law_row", "_law_other", "_law_times", "_law_worths"] (spC T K ctSums) := by
  refine fn_ok t.F__law_sums_right sc__law_sums_right (fun args cs s cs' h => ?_) (fun cdv A outer sh H E hr args cs s cs' h => ?_)
  · obtain ⟨_, _, _, _, _, _, rfl, _⟩ := h; rfl
  · obtain ⟨r, o, n, a, b, c, rfl, ⟨ir, io, n1, n2⟩, rfl, rfl, rfl⟩ := h
    have nd := sc__law_sums_right.nd
    have h4 := hr.mono (show 4 ≤ 5 by decide)
    have h1 := hr.mono (show 1 ≤ 5 by decide)
    obtain ⟨_, k1⟩ := kb_value_ip t.F_Form_value
    obtain ⟨_, k2⟩ := kb_value_j t.F_Form_value
    have sr := ir.sm (by decide)
    have so := io.sm (by decide)
    have nk : ∀ k, IntMulOk n k := fun k => Dl.mul_l (by omega) (by omega)
    have sm : Sm3 (mulQ n r) := by
      obtain ⟨i1, i2, i3, _⟩ := ir
      have m1 := mulb ⟨n1, n2⟩ i1
      have m2 := mulb ⟨n1, n2⟩ i2
      have m3 := mulb ⟨n1, n2⟩ i3
      exact ⟨⟨by show _ < n * r.1; omega, by show n * r.1 < _; omega⟩, ⟨by show _ < n * r.2.1; omega, by show n * r.2.1 < _; omega⟩, ⟨by show _ < n * r.2.2.1; omega, by show n * r.2.2.1 < _; omega⟩⟩
    have sa : Sm3 (addQ r o) := by
      obtain ⟨i1, i2, i3, _⟩ := ir
      obtain ⟨j1, j2, j3, _⟩ := io
      exact ⟨⟨by show _ < r.1 + o.1; omega, by show r.1 + o.1 < _; omega⟩, ⟨by show _ < r.2.1 + o.2.1; omega, by show r.2.1 + o.2.1 < _; omega⟩, ⟨by show _ < r.2.2.1 + o.2.2.1; omega, by show r.2.2.1 + o.2.2.1 < _; omega⟩⟩
    refine dss_cons (ds_asg 4 nd (t.cMade h4 (de_name 0 rfl)) ?_)
    show DSs _ _ _ ⟨[_, _, _, _, _, _, _, _, _], _⟩ _ _
    refine dss_cons (ds_tup (de_name 3 rfl) (dg_tup rfl (dgs_cons (dg_name 5 nd) (dgs_cons (dg_name 6 nd) (dgs_cons (dg_name 7 nd) dgs_nil)))) rfl ?_)
    show DSs _ _ _ ⟨[_, _, _, _, _, _, _, _, _], _⟩ _ _
    refine dss_cons (ds_if (dt_cm (t.valueK (r := mulQ n r) (x := a) (y := 0) (z := c) h1 k1 pt_value_ip (de_bin (de_name 2 rfl) (de_name 4 rfl) (bin_ownR t.T_Form ni_mul t.R_mul t.ok_rmul hr t.b_Form___rmul__ ⟨r, n, rfl, nk, rfl, rfl, rfl⟩)) (dk_cons (de_name 5 rfl) (dk_cons (de_name 7 rfl) dk_nil)) sm rfl) (de_bin (de_name 2 rfl) (t.cValT h1 (de_name 0 rfl) (de_tup (ds := [.int a, .int 0, .int c]) (da_cons (de_name 5 rfl) (da_cons de_int (da_cons (de_name 7 rfl) da_nil))) (by show (3 : Nat) ≤ sizeLine; decide)) sr) (bin_mul (nk _))) cmp_neI) (fun hc => ?_) (fun hc => ?_))
    · exact absurd hc (by rw [valQ_mul]; simp)
    refine dss_nil ?_
    show DSs _ _ _ ⟨[_, _, _, _, _, _, _, _, _], _⟩ _ _
    refine dss_cons (ds_asg 8 nd (de_bin (de_name 4 rfl) (t.cMade h4 (de_name 1 rfl)) (bin_o2 (d := fq (addQ r o)) t.T_Form t.O_add t.ok_add hr t.b_Form___add__ ⟨r, rfl, rfl, .inl ⟨o, rfl, rfl⟩⟩)) ?_)
    show DSs _ _ _ ⟨[_, _, _, _, _, _, _, _, _], _⟩ _ _
    refine dss_cons (ds_ret (de_cm (t.valueK (r := addQ r o) (x := 0) (y := b) (z := 0) h1 k2 pt_value_j (de_name 8 rfl) (dk_cons (de_name 6 rfl) dk_nil) sa rfl) (de_bin (t.valueK (x := 0) (y := b) (z := 0) h1 k2 pt_value_j (de_name 4 rfl) (dk_cons (de_name 6 rfl) dk_nil) sr rfl) (t.cValT h1 (de_name 1 rfl) (de_tup (ds := [.int 0, .int b, .int 0]) (da_cons de_int (da_cons (de_name 6 rfl) (da_cons de_int da_nil))) (by show (3 : Nat) ≤ sizeLine; decide)) so) bin_add) cmp_eqI) ?_)
    exact ⟨by rw [valQ_add]; simp, rfl⟩
end

/-! ### k04: the law -/
def ctLaw : Ct := fun args cs s cs' => ∃ ns : List Int, args = [.dat (scD ns)] ∧ ns.length ≤ 63 ∧ cs = [] ∧ s = .dat (.bl true) ∧ cs' = []
theorem in_pk {l : Bool} {u x : Q4} (hu : InQ 9 9 u) (hx : InQ 9 9 x) : InQ 9 9 (pk l u x) := by
  cases l
  · exact hx
  · exact hu
theorem in_u : InQ 9 9 uI ∧ InQ 9 9 uJ ∧ InQ 9 9 uP := ⟨by unfold InQ uI; decide, by unfold InQ uJ; decide, by unfold InQ uP; decide⟩
theorem rq_pk (l : Bool) (u x : Q4) : (if l then rq u else rq x) = rq (pk l u x) := by cases l <;> rfl
section
variable {X : Cx} {T : Tab} {S S1 : Sta} {e : Expr} {pos p : Pos} {b : B} {A : Around}
theorem Tx.cNum (t : Tx T X.K X.mg) (hr : Room 2 A) (j : Nat) (h1 : DE X T S e (.cel j) S1) (hj : S1.cs[j]? = some (bx b)) (hb : Ok b) (hA : X.A = A := by rfl) (hg : Gl X "_law_number" := by rfl)
    (he : starEach [e] X.env = (false, eval e X.env) :: starEach [] X.env := by rfl) : DE X T S (.Call (.Name "_law_number" p) [e] [] pos) (.dat (.int (numV b))) ⟨S1.sl, S1.cs.set j (bx (numB b))⟩ :=
  de_callC t.ok_number (hA ▸ hr) t.m__law_number t.F__law_number.kp t.b__law_number j (da_cons h1 da_nil he) hj (by simp [onlyCell]) ⟨b, rfl, rfl, hb, rfl, rfl⟩ hg (by decide) he rfl
end
section
variable {T : Tab} {P : Program} {w : World} {K : PySem.W.Frag} {mg : Str → Option Value} {base : Heap}
theorem Tx.ok_law (t : Tx T K mg) : FnOk P w K mg base CX0 8 t.a_law t.fd_law ["_law_script"] (spC T K ctLaw) := by
  refine fn_ok t.F_law sc_law (fun args cs s cs' h => ?_) (fun cdv A outer sh H E hr args cs s cs' h => ?_)
  · obtain ⟨_, rfl, _⟩ := h; rfl
  · obtain ⟨ns, rfl, hn, rfl, rfl, rfl⟩ := h
    have nd := sc_law.nd
    have h6 := hr.mono (show 6 ≤ 7 by decide)
    have h5 := hr.mono (show 5 ≤ 7 by decide)
    have h4 := hr.mono (show 4 ≤ 7 by decide)
    have h3 := hr.mono (show 3 ≤ 7 by decide)
    have h2 := hr.mono (show 2 ≤ 7 by decide)
    have h1 := hr.mono (show 1 ≤ 7 by decide)
    obtain ⟨_, k0⟩ := kb_put_0 t.F_Form_put
    refine dss_cons (ds_asg 1 nd (de_tup (ds := [rq uI, rq uJ, rq uP]) (da_cons (de_tup (ds := [.int 1, .int 0, .int 0, .int 0]) (da_cons de_int (da_cons de_int (da_cons de_int (da_cons de_int da_nil)))) (by show (4 : Nat) ≤ sizeLine; decide)) (da_cons (de_tup (ds := [.int 0, .int 1, .int 0, .int 0]) (da_cons de_int (da_cons de_int (da_cons de_int (da_cons de_int da_nil)))) (by show (4 : Nat) ≤ sizeLine; decide)) (da_cons (de_tup (ds := [.int 0, .int 0, .int 1, .int 0]) (da_cons de_int (da_cons de_int (da_cons de_int (da_cons de_int da_nil)))) (by show (4 : Nat) ≤ sizeLine; decide)) da_nil))) (by show (3 : Nat) ≤ sizeLine; decide)) ?_)
    show DSs _ _ _ ⟨[_, _, _, _, _, _, _, _, _, _, _, _, _, _], _⟩ _ _
    refine dss_cons (ds_if (dt_cm (de_cb t.z_tuple (da_cons (de_lc nd (dlc (acc := [rq uI, rq uJ, rq uP]) (cs' := []) (own := [("_law_word", 2)]) (di_tup (de_tup (ds := [.str "i", .str "j", .str "p"]) (da_cons de_str (da_cons de_str (da_cons de_str da_nil))) (by show (3 : Nat) ≤ sizeLine; decide))) (blkOk_by (by kernel_rfl)) (fun _ _ _ _ _ => (dg_name 2 nd)) (by decide) ?_ (by show (3 : Nat) < sizeLine; decide))) da_nil) (cb_tupL rfl)) (de_name 1 rfl) (cmp_neD hr.units rfl rfl)) (fun hc => ?_) (fun hc => ?_))
    · refine ⟨_, _, _, _, rfl, lcb (fun _ _ _ _ _ => (t.cTold h3 (de_call (ds := [.str "i"]) t.ok_unknown h5 t.m_unknown t.F_unknown.kp t.b_unknown (da_cons (de_name 2 rfl) da_nil) ⟨_, uI, .inl ⟨rfl, rfl⟩, rfl, rfl, rfl, rfl⟩))), ?_, rfl⟩
      refine ⟨_, _, _, _, rfl, lcb (fun _ _ _ _ _ => (t.cTold h3 (de_call (ds := [.str "j"]) t.ok_unknown h5 t.m_unknown t.F_unknown.kp t.b_unknown (da_cons (de_name 2 rfl) da_nil) ⟨_, uJ, .inr (.inl ⟨rfl, rfl⟩), rfl, rfl, rfl, rfl⟩))), ?_, rfl⟩
      refine ⟨_, _, _, _, rfl, lcb (fun _ _ _ _ _ => (t.cTold h3 (de_call (ds := [.str "p"]) t.ok_unknown h5 t.m_unknown t.F_unknown.kp t.b_unknown (da_cons (de_name 2 rfl) da_nil) ⟨_, uP, .inr (.inr ⟨rfl, rfl⟩), rfl, rfl, rfl, rfl⟩))), ?_, rfl⟩
      exact ⟨rfl, rfl⟩
    · exact absurd hc (ne_no rfl rfl)
    refine dss_nil ?_
    show DSs _ _ _ ⟨[_, _, _, _, _, _, _, _, _, _, _, _, _, _], _⟩ _ _
    refine dss_cons (ds_for (di_range1 (da_cons (de_cb t.z_max (da_cons de_int (da_cons (de_cb t.z_min (da_cons de_int (da_cons (de_cb t.z_len (da_cons (de_name 0 rfl) da_nil) cb_lenR) da_nil)) (cb_min rfl)) da_nil)) (cb_max rfl)) da_nil) t.z_range ?_ ?_) (dg_name 3 nd) ?_)
    · rw [List.length_map]; split <;> split <;> omega
    · rw [List.length_map]; split <;> split <;> omega
    refine dfor_inv (fun _ S => ∃ sl cs, S = ⟨some (.dat (scD ns)) :: some (.dat (t3 (rq uI) (rq uJ) (rq uP))) :: sl, cs⟩ ∧ sl.length = 12) [] _ rfl _ ⟨_, _, rfl, rfl⟩ ?_ ?_
    · rintro pre d post S he ⟨sl, cs, rfl, hl⟩
      obtain ⟨k, hk, rfl⟩ : ∃ k : Nat, k < 100 ∧ d = .int (k : Int) := by
        have hg : (pre ++ d :: post)[pre.length]? = some d := by simp
        rw [he] at hg
        obtain ⟨h1, h2⟩ := rangeD_get hg
        refine ⟨pre.length, ?_, by rw [h2, Int.zero_add]⟩
        rw [List.length_map] at h1
        split at h1 <;> split at h1 <;> omega
      refine ⟨_, rfl, ?_⟩
      refine dss_forget (sl' := [some (.dat (scD ns)), some (.dat (t3 (rq uI) (rq uJ) (rq uP))), none, some (.dat (.int k)), none, none, none, none, none, none, none, none, none, none]) 0 ?_ (Nat.le_refl _) (by simp [hl]) ?_
      rotate_left
      · match sl, hl with
        | [s2, s3, s4, s5, s6, s7, s8, s9, s10, s11, s12, s13], _ =>
          intro i s e
          match i, e with
          | 0, e => cases e; exact ⟨rfl, fun _ z => nomatch z⟩
          | 1, e => cases e; exact ⟨rfl, fun _ z => nomatch z⟩
          | 3, e => cases e; exact ⟨rfl, fun _ z => nomatch z⟩
          | 2, e => exact nomatch e
          | 4, e => exact nomatch e
          | 5, e => exact nomatch e
          | 6, e => exact nomatch e
          | 7, e => exact nomatch e
          | 8, e => exact nomatch e
          | 9, e => exact nomatch e
          | 10, e => exact nomatch e
          | 11, e => exact nomatch e
          | 12, e => exact nomatch e
          | 13, e => exact nomatch e
          | n + 14, e => exact nomatch e
      show DSs _ _ _ ⟨_, []⟩ _ _
      have hb := feedB_ok ns k
      refine dss_cons (ds_asg 4 nd (de_callN t.ok_feed h1 t.m__law_feed t.F__law_feed.kp t.b__law_feed (ds := [scD ns, .int k]) (da_cons (de_name 0 rfl) (da_cons (de_name 3 rfl) da_nil)) ⟨ns, k, rfl, hk, rfl, rfl, rfl⟩) ?_)
      show DSs _ _ _ ⟨[_, _, _, _, some (.cel 0), _, _, _, _, _, _, _, _, _], [_]⟩ _ _
      generalize feedB ns k = b at hb ⊢
      refine dss_cons (ds_asg 5 nd (t.cFour h2 0 (de_name 4 rfl) de_int de_int de_int rfl ⟨by decide, by decide⟩ ⟨by decide, by decide⟩ hb) ?_)
      show DSs _ _ _ ⟨[_, _, _, _, _, _, _, _, _, _, _, _, _, _], [_]⟩ _ _
      have ir : InQ 9 9 (fourQ b 9 9) := fourQ_in (by decide) (by decide)
      have hb := hb.fourB 9 9
      generalize fourQ b 9 9 = r at ir ⊢
      generalize fourB b 9 9 = b at hb ⊢
      have hb1 := hb.fourB 9 9
      have hb2 := hb1.fourB 9 9
      have hb3 := hb2.fourB 9 9
      refine dss_cons (ds_lc 6 nd (dlc (acc := [rq (fourQ b 9 9), rq (fourQ (fourB b 9 9) 9 9), rq (fourQ (fourB (fourB b 9 9) 9 9) 9 9)]) (cs' := [bx (fourB (fourB (fourB b 9 9) 9 9) 9 9)]) (own := [("_law_spot", 7)]) (di_range1 (da_cons de_int da_nil) t.z_range (by decide) (by decide)) (blkOk_by (by kernel_rfl)) (fun _ _ _ _ _ => (dg_name 7 nd)) (by decide) ?_ (by show (3 : Nat) < sizeLine; decide)) ?_)
      · refine ⟨_, _, _, _, rfl, lcb (fun _ _ _ _ _ => (t.cFour h2 0 (de_name 4 rfl) de_int de_int de_int rfl ⟨by decide, by decide⟩ ⟨by decide, by decide⟩ hb)), ?_, rfl⟩
        refine ⟨_, _, _, _, rfl, lcb (fun _ _ _ _ _ => (t.cFour h2 0 (de_name 4 rfl) de_int de_int de_int rfl ⟨by decide, by decide⟩ ⟨by decide, by decide⟩ hb1)), ?_, rfl⟩
        refine ⟨_, _, _, _, rfl, lcb (fun _ _ _ _ _ => (t.cFour h2 0 (de_name 4 rfl) de_int de_int de_int rfl ⟨by decide, by decide⟩ ⟨by decide, by decide⟩ hb2)), ?_, rfl⟩
        exact ⟨rfl, rfl⟩
      show DSs _ _ _ ⟨[_, _, _, _, _, _, _, _, _, _, _, _, _, _], [_]⟩ _ _
      have ix : InQ 9 9 (fourQ b 9 9) := fourQ_in (by decide) (by decide)
      have iy : InQ 9 9 (fourQ (fourB b 9 9) 9 9) := fourQ_in (by decide) (by decide)
      have iz : InQ 9 9 (fourQ (fourB (fourB b 9 9) 9 9) 9 9) := fourQ_in (by decide) (by decide)
      generalize fourQ b 9 9 = x at ix ⊢
      generalize fourQ (fourB b 9 9) 9 9 = y at iy ⊢
      generalize fourQ (fourB (fourB b 9 9) 9 9) 9 9 = z at iz ⊢
      clear hb hb1 hb2
      have hb := hb3
      generalize fourB (fourB (fourB b 9 9) 9 9) 9 9 = b at hb ⊢
      have hb1 := hb.fourB 9 9
      have hb2 := hb1.fourB 9 9
      have hb3 := hb2.fourB 9 9
      refine dss_cons (ds_lc 8 nd (dlc (acc := [rq (fourQ b 9 9), rq (fourQ (fourB b 9 9) 9 9), rq (fourQ (fourB (fourB b 9 9) 9 9) 9 9)]) (cs' := [bx (fourB (fourB (fourB b 9 9) 9 9) 9 9)]) (own := [("_law_spot", 7)]) (di_range1 (da_cons de_int da_nil) t.z_range (by decide) (by decide)) (blkOk_by (by kernel_rfl)) (fun _ _ _ _ _ => (dg_name 7 nd)) (by decide) ?_ (by show (3 : Nat) < sizeLine; decide)) ?_)
      · refine ⟨_, _, _, _, rfl, lcb (fun _ _ _ _ _ => (t.cFour h2 0 (de_name 4 rfl) de_int de_int de_int rfl ⟨by decide, by decide⟩ ⟨by decide, by decide⟩ hb)), ?_, rfl⟩
        refine ⟨_, _, _, _, rfl, lcb (fun _ _ _ _ _ => (t.cFour h2 0 (de_name 4 rfl) de_int de_int de_int rfl ⟨by decide, by decide⟩ ⟨by decide, by decide⟩ hb1)), ?_, rfl⟩
        refine ⟨_, _, _, _, rfl, lcb (fun _ _ _ _ _ => (t.cFour h2 0 (de_name 4 rfl) de_int de_int de_int rfl ⟨by decide, by decide⟩ ⟨by decide, by decide⟩ hb2)), ?_, rfl⟩
        exact ⟨rfl, rfl⟩
      show DSs _ _ _ ⟨[_, _, _, _, _, _, _, _, _, _, _, _, _, _], [_]⟩ _ _
      generalize fourQ b 9 9 = x2
      generalize fourQ (fourB b 9 9) 9 9 = y2
      generalize fourQ (fourB (fourB b 9 9) 9 9) 9 9 = z2
      clear hb hb1 hb2
      have hb := hb3
      generalize fourB (fourB (fourB b 9 9) 9 9) 9 9 = b at hb ⊢
      have hb1 := hb.nx 3
      have hb2 := hb1.nx 3
      have hb3 := hb2.nx 3
      refine dss_cons (ds_lc 9 nd (dlc (acc := [.bl (decide (tk b 3 = 0)), .bl (decide (tk (nx b 3) 3 = 0)), .bl (decide (tk (nx (nx b 3) 3) 3 = 0))]) (cs' := [bx (nx (nx (nx b 3) 3) 3)]) (own := [("_law_spot", 7)]) (di_range1 (da_cons de_int da_nil) t.z_range (by decide) (by decide)) (blkOk_by (by kernel_rfl)) (fun _ _ _ _ _ => (dg_name 7 nd)) (by decide) ?_ (by show (3 : Nat) < sizeLine; decide)) ?_)
      · refine ⟨_, _, _, _, rfl, lcb (fun _ _ _ _ _ => (de_cm (t.draw h1 0 (de_name 4 rfl) de_int rfl ⟨by decide, by decide⟩ hb) de_int cmp_eqI)), ?_, rfl⟩
        refine ⟨_, _, _, _, rfl, lcb (fun _ _ _ _ _ => (de_cm (t.draw h1 0 (de_name 4 rfl) de_int rfl ⟨by decide, by decide⟩ hb1) de_int cmp_eqI)), ?_, rfl⟩
        refine ⟨_, _, _, _, rfl, lcb (fun _ _ _ _ _ => (de_cm (t.draw h1 0 (de_name 4 rfl) de_int rfl ⟨by decide, by decide⟩ hb2) de_int cmp_eqI)), ?_, rfl⟩
        exact ⟨rfl, rfl⟩
      show DSs _ _ _ ⟨[_, _, _, _, _, _, _, _, _, _, _, _, _, _], [_]⟩ _ _
      generalize decide (tk b 3 = 0) = l
      generalize decide (tk (nx b 3) 3 = 0) = m
      generalize decide (tk (nx (nx b 3) 3) 3 = 0) = n
      clear hb hb1 hb2
      have hb := hb3
      generalize nx (nx (nx b 3) 3) 3 = b at hb ⊢
      have hb1 := hb.num
      have hb2 := hb1.num
      have hb3 := hb2.num
      refine dss_cons (ds_asg 10 nd (de_cb t.z_tuple (da_cons (de_lc nd (dlc (acc := [.int (numV b), .int (numV (numB b)), .int (numV (numB (numB b)))]) (cs' := [bx (numB (numB (numB b)))]) (own := [("_law_spot", 7)]) (di_range1 (da_cons de_int da_nil) t.z_range (by decide) (by decide)) (blkOk_by (by kernel_rfl)) (fun _ _ _ _ _ => (dg_name 7 nd)) (by decide) ?_ (by show (3 : Nat) < sizeLine; decide))) da_nil) (cb_tupL rfl)) ?_)
      · refine ⟨_, _, _, _, rfl, lcb (fun _ _ _ _ _ => (t.cNum h2 0 (de_name 4 rfl) rfl hb)), ?_, rfl⟩
        refine ⟨_, _, _, _, rfl, lcb (fun _ _ _ _ _ => (t.cNum h2 0 (de_name 4 rfl) rfl hb1)), ?_, rfl⟩
        refine ⟨_, _, _, _, rfl, lcb (fun _ _ _ _ _ => (t.cNum h2 0 (de_name 4 rfl) rfl hb2)), ?_, rfl⟩
        exact ⟨rfl, rfl⟩
      show DSs _ _ _ ⟨[_, _, _, _, _, _, _, _, _, _, _, _, _, _], [_]⟩ _ _
      generalize numV b = w1
      generalize numV (numB b) = w2
      generalize numV (numB (numB b)) = w3
      clear hb hb1 hb2
      have hb := hb3
      generalize numB (numB (numB b)) = b at hb ⊢
      refine dss_cons (ds_asg 11 nd (de_cbC t.z_list (da_cons (de_name 6 rfl) da_nil) (cb_lstLC rfl)) ?_)
      show DSs _ _ _ ⟨[_, _, _, _, _, _, _, _, _, _, _, some (.cel 1), _, _], [_, _]⟩ _ _
      refine dss_cons (ds_for (di_range1 (da_cons de_int da_nil) t.z_range (by decide) (by decide)) (dg_name 7 nd) ?_)
      refine ⟨_, rfl, ?_⟩
      refine dss_cons (ds_ifSet (dt_val (de_sub1 (de_name 9 rfl) (de_name 7 rfl) (ix_L rfl))) (de_sub1 (de_name 1 rfl) (de_name 7 rfl) (ix_T rfl)) (de_name 11 rfl) (de_name 7 rfl) rfl rfl rfl (rq_pk _ _ _) ?_)
      refine dss_nil ?_
      refine ⟨_, rfl, ?_⟩
      show DSs _ _ _ ⟨[_, _, _, _, _, _, _, _, _, _, _, _, _, _], [_, .lst [_, _, _]]⟩ _ _
      refine dss_cons (ds_ifSet (dt_val (de_sub1 (de_name 9 rfl) (de_name 7 rfl) (ix_L rfl))) (de_sub1 (de_name 1 rfl) (de_name 7 rfl) (ix_T rfl)) (de_name 11 rfl) (de_name 7 rfl) rfl rfl rfl (rq_pk _ _ _) ?_)
      refine dss_nil ?_
      refine ⟨_, rfl, ?_⟩
      show DSs _ _ _ ⟨[_, _, _, _, _, _, _, _, _, _, _, _, _, _], [_, .lst [_, _, _]]⟩ _ _
      refine dss_cons (ds_ifSet (dt_val (de_sub1 (de_name 9 rfl) (de_name 7 rfl) (ix_L rfl))) (de_sub1 (de_name 1 rfl) (de_name 7 rfl) (ix_T rfl)) (de_name 11 rfl) (de_name 7 rfl) rfl rfl rfl (rq_pk _ _ _) ?_)
      refine dss_nil ?_
      show DSs _ _ _ ⟨[_, _, _, _, _, _, _, _, _, _, _, _, _, _], [_, .lst [_, _, _]]⟩ _ _
      refine dss_freeze 1 (Nat.zero_le _) rfl ?_
      show DSs _ _ _ ⟨[_, _, _, _, _, _, _, _, _, _, _, some (.dat (l3 (rq (pk l uI x)) (rq (pk m uJ y)) (rq (pk n uP z)))), _, _], [_]⟩ _ _
      refine dss_cons (ds_asg 12 nd (t.cMade h4 (de_name 5 rfl)) ?_)
      show DSs _ _ _ ⟨[_, _, _, _, _, _, _, _, _, _, _, _, _, _], [_]⟩ _ _
      have sr := ir.sm (by decide)
      obtain ⟨iI, iJ, iP⟩ := in_u
      refine dss_cons (ds_asg 13 nd (de_call (ds := [fq r, l3 (rq x) (rq y) (rq z), l3 (.bl l) (.bl m) (.bl n)]) t.ok_asked h6 t.m__law_asked t.F__law_asked.kp t.b__law_asked (da_cons (de_name 12 rfl) (da_cons (de_name 6 rfl) (da_cons (de_name 9 rfl) da_nil))) ⟨r, x, y, z, l, m, n, rfl, sr, rfl, rfl, rfl⟩) ?_)
      have jx : InQ 9 9 (pk l uI x) := in_pk iI ix
      have jy : InQ 9 9 (pk m uJ y) := in_pk iJ iy
      have jz : InQ 9 9 (pk n uP z) := in_pk iP iz
      generalize pk l uI x = x' at jx ⊢
      generalize pk m uJ y = y' at jy ⊢
      generalize pk n uP z = z' at jz ⊢
      show DSs _ _ _ ⟨[_, _, _, _, _, _, _, _, _, _, _, _, _, _], [_]⟩ _ _
      refine dss_cons (ds_if (DW.pt (dw_or (dt_cm (t.cTold h3 (de_name 13 rfl)) (t.cPut h1 (de_name 5 rfl) (de_name 11 rfl) sr) (cmp_neD hr.units rfl rfl)) fun _ => (dw_or1 (dt_cm (t.cTold h3 (de_name 12 rfl)) (de_name 5 rfl) (cmp_neD hr.units rfl rfl))))) (fun hc => ?_) (fun hc => ?_))
      · exact absurd hc (by rw [eqD_refl rfl, eqD_refl rfl]; decide)
      refine dss_nil ?_
      refine dss_cons (ds_if (DW.pt (dw_or (dt_cm (t.cTold h3 (t.putK (u := none) (v := none) (w := none) h5 k0 pt_put_0 (de_name 12 rfl) dk_nil sr rfl)) (de_name 5 rfl) (cmp_neD hr.units rfl rfl)) fun _ => (dw_or1 (dt_not (k := true) (dt_val (de_call (ds := [rq r, l3 (rq x') (rq y') (rq z'), fq (putQ r x' y' z'), t3 (.int w1) (.int w2) (.int w3)]) t.ok_vals h6 t.m__law_values_right t.F__law_values_right.kp t.b__law_values_right (da_cons (de_name 5 rfl) (da_cons (de_name 11 rfl) (da_cons (de_name 13 rfl) (da_cons (de_name 10 rfl) da_nil)))) ⟨r, x', y', z', w1, w2, w3, rfl, ⟨ir, jx, jy, jz⟩, rfl, rfl, rfl⟩)))))) (fun hc => ?_) (fun hc => ?_))
      · exact absurd hc (by rw [show rq (putQ r ((none : Option Q4).getD uI) ((none : Option Q4).getD uJ) ((none : Option Q4).getD uP)) = rq r from congrArg rq (putQ_id r), eqD_refl rfl]; decide)
      refine dss_nil ?_
      refine dss_cons (ds_if (dt_not (k := true) (dt_val (de_call (ds := [rq r, l3 (rq x') (rq y') (rq z'), fq (putQ r x' y' z'), l3 (rq x2) (rq y2) (rq z2)]) t.ok_twice h6 t.m__law_twice_right t.F__law_twice_right.kp t.b__law_twice_right (da_cons (de_name 5 rfl) (da_cons (de_name 11 rfl) (da_cons (de_name 13 rfl) (da_cons (de_name 8 rfl) da_nil)))) ⟨r, x', y', z', x2, y2, z2, rfl, ⟨ir, jx, jy, jz⟩, rfl, rfl, rfl⟩))) (fun hc => nomatch hc) (fun hc => ?_))
      refine dss_nil ?_
      have u1 : 0 ≤ tk b 19 := tk_lo (by decide)
      have u2 : tk b 19 < 19 := tk_hi (by decide)
      refine dss_cons (ds_if (dt_not (k := true) (dt_val (de_call (ds := [rq r, rq x, .int (tk b 19 - 9), t3 (.int w1) (.int w2) (.int w3)]) t.ok_sums h6 t.m__law_sums_right t.F__law_sums_right.kp t.b__law_sums_right (da_cons (de_name 5 rfl) (da_cons (de_sub1 (de_name 6 rfl) de_int (ix_L rfl)) (da_cons (de_bin (t.draw h1 0 (de_name 4 rfl) de_int rfl ⟨by decide, by decide⟩ hb) de_int bin_sub) (da_cons (de_name 10 rfl) da_nil)))) ⟨r, x, tk b 19 - 9, w1, w2, w3, rfl, ⟨ir, ix, by omega, by omega⟩, rfl, rfl, rfl⟩))) (fun hc => nomatch hc) (fun hc => ?_))
      refine dss_nil ?_
      exact dss_nil ⟨_, _, rfl, rfl⟩
    · rintro S ⟨sl, cs, rfl, _⟩
      exact dss_cons (ds_ret de_bl ⟨rfl, rfl⟩)
end
theorem law_of (ns : List Int) (h : ns.length ≤ 63) (_ : ∀ z ∈ ns, Builtin.Int.intBits z ≤ 1048576) : ctLaw [.dat (.scr (ns.map D.int))] [] (.dat (.bl true)) [] := ⟨ns, rfl, h, rfl, rfl, rfl⟩

def tab (c_Form : Addr) : Tab := fun n => match n with | 0 => some (c_Form, (["row"] : List Str)) | _ => none
set_option maxHeartbeats 0 in
theorem all_mk {l : PySem.W.OpenLaw} {w : World} {K : PySem.W.Frag} {h : Heap} {mg : Str → Option Value} {fa : Addr} (X : K.In h) (G : h.Ns mainGlobals mg) (hfa : mg "law" = some (.ref fa))
    {c_Form : Addr}
    {a_is_whole : Addr} {oc_is_whole kV_is_whole dc_is_whole pm_is_whole cd_is_whole ct_is_whole : Value} {od_is_whole an_is_whole : Option Addr} {sl_is_whole : Array (Option Value)}
    {a_Form___init__ : Addr} {oc_Form___init__ dc_Form___init__ pm_Form___init__ cd_Form___init__ ct_Form___init__ : Value} {od_Form___init__ an_Form___init__ : Option Addr} {sl_Form___init__ : Array (Option Value)}
    {dT_Form___init__ : Addr} {dO_Form___init__ : Obj} {dU_Form___init__ : Value} {dN_Form___init__ : Nat}
    {kD_Form___init__ : Addr} {kU_Form___init__ kW_Form___init__ kX_Form___init__ : Value}
    {a_Form_const : Addr} {oc_Form_const kV_Form_const dc_Form_const pm_Form_const cd_Form_const ct_Form_const : Value} {od_Form_const an_Form_const : Option Addr} {sl_Form_const : Array (Option Value)}
    {p_Form_const : Addr} {rs_Form_const : List Value}
    {a_Form_i : Addr} {oc_Form_i kV_Form_i dc_Form_i pm_Form_i cd_Form_i ct_Form_i : Value} {od_Form_i an_Form_i : Option Addr} {sl_Form_i : Array (Option Value)}
    {p_Form_i : Addr} {rs_Form_i : List Value}
    {a_Form_j : Addr} {oc_Form_j kV_Form_j dc_Form_j pm_Form_j cd_Form_j ct_Form_j : Value} {od_Form_j an_Form_j : Option Addr} {sl_Form_j : Array (Option Value)}
    {p_Form_j : Addr} {rs_Form_j : List Value}
    {a_Form_p : Addr} {oc_Form_p kV_Form_p dc_Form_p pm_Form_p cd_Form_p ct_Form_p : Value} {od_Form_p an_Form_p : Option Addr} {sl_Form_p : Array (Option Value)}
    {p_Form_p : Addr} {rs_Form_p : List Value}
    {a_Form___eq__ : Addr} {oc_Form___eq__ kV_Form___eq__ dc_Form___eq__ pm_Form___eq__ cd_Form___eq__ ct_Form___eq__ : Value} {od_Form___eq__ an_Form___eq__ : Option Addr} {sl_Form___eq__ : Array (Option Value)}
    {a_Form___add__ : Addr} {oc_Form___add__ kV_Form___add__ dc_Form___add__ pm_Form___add__ cd_Form___add__ ct_Form___add__ : Value} {od_Form___add__ an_Form___add__ : Option Addr} {sl_Form___add__ : Array (Option Value)}
    {a_Form___rmul__ : Addr} {oc_Form___rmul__ kV_Form___rmul__ dc_Form___rmul__ pm_Form___rmul__ cd_Form___rmul__ ct_Form___rmul__ : Value} {od_Form___rmul__ an_Form___rmul__ : Option Addr} {sl_Form___rmul__ : Array (Option Value)}
    {a_Form_value : Addr} {oc_Form_value dc_Form_value pm_Form_value cd_Form_value ct_Form_value : Value} {od_Form_value an_Form_value : Option Addr} {sl_Form_value : Array (Option Value)}
    {kD_Form_value : Addr} {kU_Form_value kW_Form_value kX_Form_value : Value}
    {a_Form_put : Addr} {oc_Form_put dc_Form_put pm_Form_put cd_Form_put ct_Form_put : Value} {od_Form_put an_Form_put : Option Addr} {sl_Form_put : Array (Option Value)}
    {kD_Form_put : Addr} {kU_Form_put kW_Form_put kX_Form_put : Value}
    {a_form_of : Addr} {oc_form_of kV_form_of dc_form_of pm_form_of cd_form_of ct_form_of : Value} {od_form_of an_form_of : Option Addr} {sl_form_of : Array (Option Value)}
    {a_rows_put : Addr} {oc_rows_put kV_rows_put dc_rows_put pm_rows_put cd_rows_put ct_rows_put : Value} {od_rows_put an_rows_put : Option Addr} {sl_rows_put : Array (Option Value)}
    {a_row_put : Addr} {oc_row_put kV_row_put dc_row_put pm_row_put cd_row_put ct_row_put : Value} {od_row_put an_row_put : Option Addr} {sl_row_put : Array (Option Value)}
    {a_unknown : Addr} {oc_unknown kV_unknown dc_unknown pm_unknown cd_unknown ct_unknown : Value} {od_unknown an_unknown : Option Addr} {sl_unknown : Array (Option Value)}
    {a__law_feed : Addr} {oc__law_feed kV__law_feed dc__law_feed pm__law_feed cd__law_feed ct__law_feed : Value} {od__law_feed an__law_feed : Option Addr} {sl__law_feed : Array (Option Value)}
    {a__law_take : Addr} {oc__law_take kV__law_take dc__law_take pm__law_take cd__law_take ct__law_take : Value} {od__law_take an__law_take : Option Addr} {sl__law_take : Array (Option Value)}
    {a__law_four : Addr} {oc__law_four kV__law_four dc__law_four pm__law_four cd__law_four ct__law_four : Value} {od__law_four an__law_four : Option Addr} {sl__law_four : Array (Option Value)}
    {a__law_made : Addr} {oc__law_made kV__law_made dc__law_made pm__law_made cd__law_made ct__law_made : Value} {od__law_made an__law_made : Option Addr} {sl__law_made : Array (Option Value)}
    {a__law_told : Addr} {oc__law_told kV__law_told dc__law_told pm__law_told cd__law_told ct__law_told : Value} {od__law_told an__law_told : Option Addr} {sl__law_told : Array (Option Value)}
    {a__law_number : Addr} {oc__law_number kV__law_number dc__law_number pm__law_number cd__law_number ct__law_number : Value} {od__law_number an__law_number : Option Addr} {sl__law_number : Array (Option Value)}
    {a__law_value : Addr} {oc__law_value kV__law_value dc__law_value pm__law_value cd__law_value ct__law_value : Value} {od__law_value an__law_value : Option Addr} {sl__law_value : Array (Option Value)}
    {a__law_put : Addr} {oc__law_put kV__law_put dc__law_put pm__law_put cd__law_put ct__law_put : Value} {od__law_put an__law_put : Option Addr} {sl__law_put : Array (Option Value)}
    {a__law_asked : Addr} {oc__law_asked kV__law_asked dc__law_asked pm__law_asked cd__law_asked ct__law_asked : Value} {od__law_asked an__law_asked : Option Addr} {sl__law_asked : Array (Option Value)}
    {a__law_twice_right : Addr} {oc__law_twice_right kV__law_twice_right dc__law_twice_right pm__law_twice_right cd__law_twice_right ct__law_twice_right : Value} {od__law_twice_right an__law_twice_right : Option Addr} {sl__law_twice_right : Array (Option Value)}
    {a__law_values_right : Addr} {oc__law_values_right kV__law_values_right dc__law_values_right pm__law_values_right cd__law_values_right ct__law_values_right : Value} {od__law_values_right an__law_values_right : Option Addr} {sl__law_values_right : Array (Option Value)}
    {a__law_sums_right : Addr} {oc__law_sums_right kV__law_sums_right dc__law_sums_right pm__law_sums_right cd__law_sums_right ct__law_sums_right : Value} {od__law_sums_right an__law_sums_right : Option Addr} {sl__law_sums_right : Array (Option Value)}
    {a_law : Addr} {oc_law kV_law dc_law pm_law cd_law ct_law : Value} {od_law an_law : Option Addr} {sl_law : Array (Option Value)}
    (aC_Form : PySem.W.nsIn K mainGlobals "Form" = some (some (.ref c_Form)))
    (pg_Form : PySem.W.plainGet K c_Form Str.empty = true)
    (hd_Form : PySem.W.hasDictIn K c_Form = true)
    (po_Form : PySem.W.plainOver K c_Form = true)
    (sa_Form : PySem.W.findIn K (.ref c_Form) "__setattr__" = some (some (.builtin "object.__setattr__")))
    (ca_Form : PySem.W.findIn K (.ref c_Form) "__class__" = some (some (.builtin "object.__class__")))
    (cn_Form : PySem.W.specialIn K (.builtin "object.__class__") "__get__" = some (some (.builtin "getset_descriptor.__get__")))
    (ct_Form : PySem.W.takesIn K (.builtin "object.__class__") = some true)
    (cm_Form : PySem.W.mroIn K c_Form (.type "object") = some true)
    (mk_Form : PySem.W.makesIn K c_Form = true)
    (kc_Form : PySem.W.keepIn K (.ref c_Form) = true)
    (no_Form_row : PySem.W.findIn K (.ref c_Form) "row" = some none)
    (sub_Form_int : PySem.W.subIn K (.ref c_Form) (.type "int") = some false)
    (z_isinstance : PySem.W.nsIn K mainGlobals "isinstance" = some none)
    (z_int : PySem.W.nsIn K mainGlobals "int" = some none)
    (z_bool : PySem.W.nsIn K mainGlobals "bool" = some none)
    (z_tuple : PySem.W.nsIn K mainGlobals "tuple" = some none)
    (z_list : PySem.W.nsIn K mainGlobals "list" = some none)
    (z_zip : PySem.W.nsIn K mainGlobals "zip" = some none)
    (z_range : PySem.W.nsIn K mainGlobals "range" = some none)
    (z_len : PySem.W.nsIn K mainGlobals "len" = some none)
    (z_max : PySem.W.nsIn K mainGlobals "max" = some none)
    (z_min : PySem.W.nsIn K mainGlobals "min" = some none)
    (at_is_whole : PySem.W.nsIn K mainGlobals "is_whole" = some (some (.ref a_is_whole)))
    (l_is_whole : K.lookup a_is_whole = some ⟨oc_is_whole, od_is_whole, .func (PySem.W.fnOf "is_whole" "is_whole" (defArgs s_is_whole) (defBody s_is_whole) (defScope s_is_whole) .none kV_is_whole dc_is_whole pm_is_whole an_is_whole cd_is_whole ct_is_whole), sl_is_whole⟩)
    (cd_is_whole_ : PySem.W.codeIn K cd_is_whole "is_whole" = true)
    (k_is_whole : PySem.W.keepIn K (.ref a_is_whole) = true)
    (at_Form___init__ : PySem.W.findIn K (.ref c_Form) "__init__" = some (some (.ref a_Form___init__)))
    (fn_Form___init__ : PySem.W.isFn K (.ref a_Form___init__) = true)
    (l_Form___init__ : K.lookup a_Form___init__ = some ⟨oc_Form___init__, od_Form___init__, .func (PySem.W.fnOf "__init__" "Form.__init__" (defArgs s_Form___init__) (defBody s_Form___init__) (defScope s_Form___init__) (.ref dT_Form___init__) (.ref kD_Form___init__) dc_Form___init__ pm_Form___init__ an_Form___init__ cd_Form___init__ ct_Form___init__), sl_Form___init__⟩)
    (cd_Form___init___ : PySem.W.codeIn K cd_Form___init__ "Form.__init__" = true)
    (k_Form___init__ : PySem.W.keepIn K (.ref a_Form___init__) = true)
    (dl_Form___init__ : K.lookup dT_Form___init__ = some dO_Form___init__)
    (dd_Form___init__ : dO_Form___init__.data = .seq #[dU_Form___init__] dN_Form___init__)
    (dr_Form___init__ : RelV (.int 0) dU_Form___init__)
    (kUh_Form___init__ : PySem.W.nsIn K kD_Form___init__ "i" = some (some kU_Form___init__))
    (kUr_Form___init__ : RelV (.int 0) kU_Form___init__)
    (kWh_Form___init__ : PySem.W.nsIn K kD_Form___init__ "j" = some (some kW_Form___init__))
    (kWr_Form___init__ : RelV (.int 0) kW_Form___init__)
    (kXh_Form___init__ : PySem.W.nsIn K kD_Form___init__ "p" = some (some kX_Form___init__))
    (kXr_Form___init__ : RelV (.int 0) kX_Form___init__)
    (at_Form_const : PySem.W.findIn K (.ref c_Form) "const" = some (some (.ref p_Form_const)))
    (pg_Form_const : PySem.W.specialIn K (.ref p_Form_const) "__get__" = some (some (.builtin "property.__get__")))
    (pt_Form_const : PySem.W.takesIn K (.ref p_Form_const) = some true)
    (pr_Form_const : PySem.W.recIn K p_Form_const "property" = some (.ref a_Form_const :: rs_Form_const))
    (l_Form_const : K.lookup a_Form_const = some ⟨oc_Form_const, od_Form_const, .func (PySem.W.fnOf "const" "Form.const" (defArgs s_Form_const) (defBody s_Form_const) (defScope s_Form_const) .none kV_Form_const dc_Form_const pm_Form_const an_Form_const cd_Form_const ct_Form_const), sl_Form_const⟩)
    (cd_Form_const_ : PySem.W.codeIn K cd_Form_const "Form.const" = true)
    (k_Form_const : PySem.W.keepIn K (.ref a_Form_const) = true)
    (at_Form_i : PySem.W.findIn K (.ref c_Form) "i" = some (some (.ref p_Form_i)))
    (pg_Form_i : PySem.W.specialIn K (.ref p_Form_i) "__get__" = some (some (.builtin "property.__get__")))
    (pt_Form_i : PySem.W.takesIn K (.ref p_Form_i) = some true)
    (pr_Form_i : PySem.W.recIn K p_Form_i "property" = some (.ref a_Form_i :: rs_Form_i))
    (l_Form_i : K.lookup a_Form_i = some ⟨oc_Form_i, od_Form_i, .func (PySem.W.fnOf "i" "Form.i" (defArgs s_Form_i) (defBody s_Form_i) (defScope s_Form_i) .none kV_Form_i dc_Form_i pm_Form_i an_Form_i cd_Form_i ct_Form_i), sl_Form_i⟩)
    (cd_Form_i_ : PySem.W.codeIn K cd_Form_i "Form.i" = true)
    (k_Form_i : PySem.W.keepIn K (.ref a_Form_i) = true)
    (at_Form_j : PySem.W.findIn K (.ref c_Form) "j" = some (some (.ref p_Form_j)))
    (pg_Form_j : PySem.W.specialIn K (.ref p_Form_j) "__get__" = some (some (.builtin "property.__get__")))
    (pt_Form_j : PySem.W.takesIn K (.ref p_Form_j) = some true)
    (pr_Form_j : PySem.W.recIn K p_Form_j "property" = some (.ref a_Form_j :: rs_Form_j))
    (l_Form_j : K.lookup a_Form_j = some ⟨oc_Form_j, od_Form_j, .func (PySem.W.fnOf "j" "Form.j" (defArgs s_Form_j) (defBody s_Form_j) (defScope s_Form_j) .none kV_Form_j dc_Form_j pm_Form_j an_Form_j cd_Form_j ct_Form_j), sl_Form_j⟩)
    (cd_Form_j_ : PySem.W.codeIn K cd_Form_j "Form.j" = true)
    (k_Form_j : PySem.W.keepIn K (.ref a_Form_j) = true)
    (at_Form_p : PySem.W.findIn K (.ref c_Form) "p" = some (some (.ref p_Form_p)))
    (pg_Form_p : PySem.W.specialIn K (.ref p_Form_p) "__get__" = some (some (.builtin "property.__get__")))
    (pt_Form_p : PySem.W.takesIn K (.ref p_Form_p) = some true)
    (pr_Form_p : PySem.W.recIn K p_Form_p "property" = some (.ref a_Form_p :: rs_Form_p))
    (l_Form_p : K.lookup a_Form_p = some ⟨oc_Form_p, od_Form_p, .func (PySem.W.fnOf "p" "Form.p" (defArgs s_Form_p) (defBody s_Form_p) (defScope s_Form_p) .none kV_Form_p dc_Form_p pm_Form_p an_Form_p cd_Form_p ct_Form_p), sl_Form_p⟩)
    (cd_Form_p_ : PySem.W.codeIn K cd_Form_p "Form.p" = true)
    (k_Form_p : PySem.W.keepIn K (.ref a_Form_p) = true)
    (at_Form___eq__ : PySem.W.findIn K (.ref c_Form) "__eq__" = some (some (.ref a_Form___eq__)))
    (fn_Form___eq__ : PySem.W.isFn K (.ref a_Form___eq__) = true)
    (l_Form___eq__ : K.lookup a_Form___eq__ = some ⟨oc_Form___eq__, od_Form___eq__, .func (PySem.W.fnOf "__eq__" "Form.__eq__" (defArgs s_Form___eq__) (defBody s_Form___eq__) (defScope s_Form___eq__) .none kV_Form___eq__ dc_Form___eq__ pm_Form___eq__ an_Form___eq__ cd_Form___eq__ ct_Form___eq__), sl_Form___eq__⟩)
    (cd_Form___eq___ : PySem.W.codeIn K cd_Form___eq__ "Form.__eq__" = true)
    (k_Form___eq__ : PySem.W.keepIn K (.ref a_Form___eq__) = true)
    (at_Form___add__ : PySem.W.findIn K (.ref c_Form) "__add__" = some (some (.ref a_Form___add__)))
    (fn_Form___add__ : PySem.W.isFn K (.ref a_Form___add__) = true)
    (l_Form___add__ : K.lookup a_Form___add__ = some ⟨oc_Form___add__, od_Form___add__, .func (PySem.W.fnOf "__add__" "Form.__add__" (defArgs s_Form___add__) (defBody s_Form___add__) (defScope s_Form___add__) .none kV_Form___add__ dc_Form___add__ pm_Form___add__ an_Form___add__ cd_Form___add__ ct_Form___add__), sl_Form___add__⟩)
    (cd_Form___add___ : PySem.W.codeIn K cd_Form___add__ "Form.__add__" = true)
    (k_Form___add__ : PySem.W.keepIn K (.ref a_Form___add__) = true)
    (at_Form___rmul__ : PySem.W.findIn K (.ref c_Form) "__rmul__" = some (some (.ref a_Form___rmul__)))
    (fn_Form___rmul__ : PySem.W.isFn K (.ref a_Form___rmul__) = true)
    (l_Form___rmul__ : K.lookup a_Form___rmul__ = some ⟨oc_Form___rmul__, od_Form___rmul__, .func (PySem.W.fnOf "__rmul__" "Form.__rmul__" (defArgs s_Form___rmul__) (defBody s_Form___rmul__) (defScope s_Form___rmul__) .none kV_Form___rmul__ dc_Form___rmul__ pm_Form___rmul__ an_Form___rmul__ cd_Form___rmul__ ct_Form___rmul__), sl_Form___rmul__⟩)
    (cd_Form___rmul___ : PySem.W.codeIn K cd_Form___rmul__ "Form.__rmul__" = true)
    (k_Form___rmul__ : PySem.W.keepIn K (.ref a_Form___rmul__) = true)
    (at_Form_value : PySem.W.findIn K (.ref c_Form) "value" = some (some (.ref a_Form_value)))
    (fn_Form_value : PySem.W.isFn K (.ref a_Form_value) = true)
    (l_Form_value : K.lookup a_Form_value = some ⟨oc_Form_value, od_Form_value, .func (PySem.W.fnOf "value" "Form.value" (defArgs s_Form_value) (defBody s_Form_value) (defScope s_Form_value) .none (.ref kD_Form_value) dc_Form_value pm_Form_value an_Form_value cd_Form_value ct_Form_value), sl_Form_value⟩)
    (cd_Form_value_ : PySem.W.codeIn K cd_Form_value "Form.value" = true)
    (k_Form_value : PySem.W.keepIn K (.ref a_Form_value) = true)
    (kUh_Form_value : PySem.W.nsIn K kD_Form_value "i" = some (some kU_Form_value))
    (kUr_Form_value : RelV (.int 0) kU_Form_value)
    (kWh_Form_value : PySem.W.nsIn K kD_Form_value "j" = some (some kW_Form_value))
    (kWr_Form_value : RelV (.int 0) kW_Form_value)
    (kXh_Form_value : PySem.W.nsIn K kD_Form_value "p" = some (some kX_Form_value))
    (kXr_Form_value : RelV (.int 0) kX_Form_value)
    (at_Form_put : PySem.W.findIn K (.ref c_Form) "put" = some (some (.ref a_Form_put)))
    (fn_Form_put : PySem.W.isFn K (.ref a_Form_put) = true)
    (l_Form_put : K.lookup a_Form_put = some ⟨oc_Form_put, od_Form_put, .func (PySem.W.fnOf "put" "Form.put" (defArgs s_Form_put) (defBody s_Form_put) (defScope s_Form_put) .none (.ref kD_Form_put) dc_Form_put pm_Form_put an_Form_put cd_Form_put ct_Form_put), sl_Form_put⟩)
    (cd_Form_put_ : PySem.W.codeIn K cd_Form_put "Form.put" = true)
    (k_Form_put : PySem.W.keepIn K (.ref a_Form_put) = true)
    (kUh_Form_put : PySem.W.nsIn K kD_Form_put "i" = some (some kU_Form_put))
    (kUr_Form_put : RelV (.non) kU_Form_put)
    (kWh_Form_put : PySem.W.nsIn K kD_Form_put "j" = some (some kW_Form_put))
    (kWr_Form_put : RelV (.non) kW_Form_put)
    (kXh_Form_put : PySem.W.nsIn K kD_Form_put "p" = some (some kX_Form_put))
    (kXr_Form_put : RelV (.non) kX_Form_put)
    (at_form_of : PySem.W.nsIn K mainGlobals "form_of" = some (some (.ref a_form_of)))
    (l_form_of : K.lookup a_form_of = some ⟨oc_form_of, od_form_of, .func (PySem.W.fnOf "form_of" "form_of" (defArgs s_form_of) (defBody s_form_of) (defScope s_form_of) .none kV_form_of dc_form_of pm_form_of an_form_of cd_form_of ct_form_of), sl_form_of⟩)
    (cd_form_of_ : PySem.W.codeIn K cd_form_of "form_of" = true)
    (k_form_of : PySem.W.keepIn K (.ref a_form_of) = true)
    (at_rows_put : PySem.W.nsIn K mainGlobals "rows_put" = some (some (.ref a_rows_put)))
    (l_rows_put : K.lookup a_rows_put = some ⟨oc_rows_put, od_rows_put, .func (PySem.W.fnOf "rows_put" "rows_put" (defArgs s_rows_put) (defBody s_rows_put) (defScope s_rows_put) .none kV_rows_put dc_rows_put pm_rows_put an_rows_put cd_rows_put ct_rows_put), sl_rows_put⟩)
    (cd_rows_put_ : PySem.W.codeIn K cd_rows_put "rows_put" = true)
    (k_rows_put : PySem.W.keepIn K (.ref a_rows_put) = true)
    (at_row_put : PySem.W.nsIn K mainGlobals "row_put" = some (some (.ref a_row_put)))
    (l_row_put : K.lookup a_row_put = some ⟨oc_row_put, od_row_put, .func (PySem.W.fnOf "row_put" "row_put" (defArgs s_row_put) (defBody s_row_put) (defScope s_row_put) .none kV_row_put dc_row_put pm_row_put an_row_put cd_row_put ct_row_put), sl_row_put⟩)
    (cd_row_put_ : PySem.W.codeIn K cd_row_put "row_put" = true)
    (k_row_put : PySem.W.keepIn K (.ref a_row_put) = true)
    (at_unknown : PySem.W.nsIn K mainGlobals "unknown" = some (some (.ref a_unknown)))
    (l_unknown : K.lookup a_unknown = some ⟨oc_unknown, od_unknown, .func (PySem.W.fnOf "unknown" "unknown" (defArgs s_unknown) (defBody s_unknown) (defScope s_unknown) .none kV_unknown dc_unknown pm_unknown an_unknown cd_unknown ct_unknown), sl_unknown⟩)
    (cd_unknown_ : PySem.W.codeIn K cd_unknown "unknown" = true)
    (k_unknown : PySem.W.keepIn K (.ref a_unknown) = true)
    (at__law_feed : PySem.W.nsIn K mainGlobals "_law_feed" = some (some (.ref a__law_feed)))
    (l__law_feed : K.lookup a__law_feed = some ⟨oc__law_feed, od__law_feed, .func (PySem.W.fnOf "_law_feed" "_law_feed" (defArgs s__law_feed) (defBody s__law_feed) (defScope s__law_feed) .none kV__law_feed dc__law_feed pm__law_feed an__law_feed cd__law_feed ct__law_feed), sl__law_feed⟩)
    (cd__law_feed_ : PySem.W.codeIn K cd__law_feed "_law_feed" = true)
    (k__law_feed : PySem.W.keepIn K (.ref a__law_feed) = true)
    (at__law_take : PySem.W.nsIn K mainGlobals "_law_take" = some (some (.ref a__law_take)))
    (l__law_take : K.lookup a__law_take = some ⟨oc__law_take, od__law_take, .func (PySem.W.fnOf "_law_take" "_law_take" (defArgs s__law_take) (defBody s__law_take) (defScope s__law_take) .none kV__law_take dc__law_take pm__law_take an__law_take cd__law_take ct__law_take), sl__law_take⟩)
    (cd__law_take_ : PySem.W.codeIn K cd__law_take "_law_take" = true)
    (k__law_take : PySem.W.keepIn K (.ref a__law_take) = true)
    (at__law_four : PySem.W.nsIn K mainGlobals "_law_four" = some (some (.ref a__law_four)))
    (l__law_four : K.lookup a__law_four = some ⟨oc__law_four, od__law_four, .func (PySem.W.fnOf "_law_four" "_law_four" (defArgs s__law_four) (defBody s__law_four) (defScope s__law_four) .none kV__law_four dc__law_four pm__law_four an__law_four cd__law_four ct__law_four), sl__law_four⟩)
    (cd__law_four_ : PySem.W.codeIn K cd__law_four "_law_four" = true)
    (k__law_four : PySem.W.keepIn K (.ref a__law_four) = true)
    (at__law_made : PySem.W.nsIn K mainGlobals "_law_made" = some (some (.ref a__law_made)))
    (l__law_made : K.lookup a__law_made = some ⟨oc__law_made, od__law_made, .func (PySem.W.fnOf "_law_made" "_law_made" (defArgs s__law_made) (defBody s__law_made) (defScope s__law_made) .none kV__law_made dc__law_made pm__law_made an__law_made cd__law_made ct__law_made), sl__law_made⟩)
    (cd__law_made_ : PySem.W.codeIn K cd__law_made "_law_made" = true)
    (k__law_made : PySem.W.keepIn K (.ref a__law_made) = true)
    (at__law_told : PySem.W.nsIn K mainGlobals "_law_told" = some (some (.ref a__law_told)))
    (l__law_told : K.lookup a__law_told = some ⟨oc__law_told, od__law_told, .func (PySem.W.fnOf "_law_told" "_law_told" (defArgs s__law_told) (defBody s__law_told) (defScope s__law_told) .none kV__law_told dc__law_told pm__law_told an__law_told cd__law_told ct__law_told), sl__law_told⟩)
    (cd__law_told_ : PySem.W.codeIn K cd__law_told "_law_told" = true)
    (k__law_told : PySem.W.keepIn K (.ref a__law_told) = true)
    (at__law_number : PySem.W.nsIn K mainGlobals "_law_number" = some (some (.ref a__law_number)))
    (l__law_number : K.lookup a__law_number = some ⟨oc__law_number, od__law_number, .func (PySem.W.fnOf "_law_number" "_law_number" (defArgs s__law_number) (defBody s__law_number) (defScope s__law_number) .none kV__law_number dc__law_number pm__law_number an__law_number cd__law_number ct__law_number), sl__law_number⟩)
    (cd__law_number_ : PySem.W.codeIn K cd__law_number "_law_number" = true)
    (k__law_number : PySem.W.keepIn K (.ref a__law_number) = true)
    (at__law_value : PySem.W.nsIn K mainGlobals "_law_value" = some (some (.ref a__law_value)))
    (l__law_value : K.lookup a__law_value = some ⟨oc__law_value, od__law_value, .func (PySem.W.fnOf "_law_value" "_law_value" (defArgs s__law_value) (defBody s__law_value) (defScope s__law_value) .none kV__law_value dc__law_value pm__law_value an__law_value cd__law_value ct__law_value), sl__law_value⟩)
    (cd__law_value_ : PySem.W.codeIn K cd__law_value "_law_value" = true)
    (k__law_value : PySem.W.keepIn K (.ref a__law_value) = true)
    (at__law_put : PySem.W.nsIn K mainGlobals "_law_put" = some (some (.ref a__law_put)))
    (l__law_put : K.lookup a__law_put = some ⟨oc__law_put, od__law_put, .func (PySem.W.fnOf "_law_put" "_law_put" (defArgs s__law_put) (defBody s__law_put) (defScope s__law_put) .none kV__law_put dc__law_put pm__law_put an__law_put cd__law_put ct__law_put), sl__law_put⟩)
    (cd__law_put_ : PySem.W.codeIn K cd__law_put "_law_put" = true)
    (k__law_put : PySem.W.keepIn K (.ref a__law_put) = true)
    (at__law_asked : PySem.W.nsIn K mainGlobals "_law_asked" = some (some (.ref a__law_asked)))
    (l__law_asked : K.lookup a__law_asked = some ⟨oc__law_asked, od__law_asked, .func (PySem.W.fnOf "_law_asked" "_law_asked" (defArgs s__law_asked) (defBody s__law_asked) (defScope s__law_asked) .none kV__law_asked dc__law_asked pm__law_asked an__law_asked cd__law_asked ct__law_asked), sl__law_asked⟩)
    (cd__law_asked_ : PySem.W.codeIn K cd__law_asked "_law_asked" = true)
    (k__law_asked : PySem.W.keepIn K (.ref a__law_asked) = true)
    (at__law_twice_right : PySem.W.nsIn K mainGlobals "_law_twice_right" = some (some (.ref a__law_twice_right)))
    (l__law_twice_right : K.lookup a__law_twice_right = some ⟨oc__law_twice_right, od__law_twice_right, .func (PySem.W.fnOf "_law_twice_right" "_law_twice_right" (defArgs s__law_twice_right) (defBody s__law_twice_right) (defScope s__law_twice_right) .none kV__law_twice_right dc__law_twice_right pm__law_twice_right an__law_twice_right cd__law_twice_right ct__law_twice_right), sl__law_twice_right⟩)
    (cd__law_twice_right_ : PySem.W.codeIn K cd__law_twice_right "_law_twice_right" = true)
    (k__law_twice_right : PySem.W.keepIn K (.ref a__law_twice_right) = true)
    (at__law_values_right : PySem.W.nsIn K mainGlobals "_law_values_right" = some (some (.ref a__law_values_right)))
    (l__law_values_right : K.lookup a__law_values_right = some ⟨oc__law_values_right, od__law_values_right, .func (PySem.W.fnOf "_law_values_right" "_law_values_right" (defArgs s__law_values_right) (defBody s__law_values_right) (defScope s__law_values_right) .none kV__law_values_right dc__law_values_right pm__law_values_right an__law_values_right cd__law_values_right ct__law_values_right), sl__law_values_right⟩)
    (cd__law_values_right_ : PySem.W.codeIn K cd__law_values_right "_law_values_right" = true)
    (k__law_values_right : PySem.W.keepIn K (.ref a__law_values_right) = true)
    (at__law_sums_right : PySem.W.nsIn K mainGlobals "_law_sums_right" = some (some (.ref a__law_sums_right)))
    (l__law_sums_right : K.lookup a__law_sums_right = some ⟨oc__law_sums_right, od__law_sums_right, .func (PySem.W.fnOf "_law_sums_right" "_law_sums_right" (defArgs s__law_sums_right) (defBody s__law_sums_right) (defScope s__law_sums_right) .none kV__law_sums_right dc__law_sums_right pm__law_sums_right an__law_sums_right cd__law_sums_right ct__law_sums_right), sl__law_sums_right⟩)
    (cd__law_sums_right_ : PySem.W.codeIn K cd__law_sums_right "_law_sums_right" = true)
    (k__law_sums_right : PySem.W.keepIn K (.ref a__law_sums_right) = true)
    (at_law : PySem.W.nsIn K mainGlobals "law" = some (some (.ref a_law)))
    (l_law : K.lookup a_law = some ⟨oc_law, od_law, .func (PySem.W.fnOf "law" "law" (defArgs s_law) (defBody s_law) (defScope s_law) .none kV_law dc_law pm_law an_law cd_law ct_law), sl_law⟩)
    (cd_law_ : PySem.W.codeIn K cd_law "law" = true)
    (k_law : PySem.W.keepIn K (.ref a_law) = true)
    (R_mul : OpR' K c_Form .Mult a_Form___rmul__)
    (O_add : OpC K c_Form .Add a_Form___add__)
    : ∃ fd : FuncData, (∀ (s : Shared) (v : Value), BindsTo s fd ⟨[v], []⟩ [("_law_script", v)]) ∧ ∀ base : Heap, K.In base → base.Ns mainGlobals mg → FnOk l.prog w K mg base CX0 8 fa fd ["_law_script"] (spL K) := by
  have e : a_law = fa := by
    have e := (PySem.W.mg_of X G at_law).symm.trans hfa
    cases e
    rfl
  subst e
  let t : Tx (tab c_Form) K mg := {
    c_Form := c_Form,
    T_Form := rfl,
    cl_Form := ⟨pg_Form, hd_Form, po_Form, sa_Form⟩,
    i_Form := ⟨⟨pg_Form, hd_Form, po_Form, sa_Form⟩, ca_Form, cn_Form, ct_Form, cm_Form⟩,
    m_Form := PySem.W.mg_of X G aC_Form,
    no_Form_row := no_Form_row,
    sub_Form_int := sub_Form_int,
    z_isinstance := PySem.W.mg_none_of X G z_isinstance,
    z_int := PySem.W.mg_none_of X G z_int,
    z_bool := PySem.W.mg_none_of X G z_bool,
    z_tuple := PySem.W.mg_none_of X G z_tuple,
    z_list := PySem.W.mg_none_of X G z_list,
    z_zip := PySem.W.mg_none_of X G z_zip,
    z_range := PySem.W.mg_none_of X G z_range,
    z_len := PySem.W.mg_none_of X G z_len,
    z_max := PySem.W.mg_none_of X G z_max,
    z_min := PySem.W.mg_none_of X G z_min,
    a_is_whole := a_is_whole,
    fd_is_whole := PySem.W.fnOf "is_whole" "is_whole" (defArgs s_is_whole) (defBody s_is_whole) (defScope s_is_whole) .none kV_is_whole dc_is_whole pm_is_whole an_is_whole cd_is_whole ct_is_whole,
    F_is_whole := fun_mk (st := s_is_whole) l_is_whole cd_is_whole_ k_is_whole,
    b_is_whole := (fun_mk (st := s_is_whole) l_is_whole cd_is_whole_ k_is_whole).binds (ps := ["value"]) fun _ _ _ _ _ _ us hl => match us, hl with | [_], _ => rfl,
    m_is_whole := PySem.W.mg_of X G at_is_whole,
    a_Form___init__ := a_Form___init__,
    fd_Form___init__ := PySem.W.fnOf "__init__" "Form.__init__" (defArgs s_Form___init__) (defBody s_Form___init__) (defScope s_Form___init__) (.ref dT_Form___init__) (.ref kD_Form___init__) dc_Form___init__ pm_Form___init__ an_Form___init__ cd_Form___init__ ct_Form___init__,
    F_Form___init__ := fd_mk (st := s_Form___init__) l_Form___init__ cd_Form___init___ k_Form___init__ (dfl1 dl_Form___init__ dd_Form___init__ dr_Form___init__) (kwd3 kUh_Form___init__ kWh_Form___init__ kXh_Form___init__ kUr_Form___init__ kWr_Form___init__ kXr_Form___init__),
    K_Form := ⟨mk_Form, at_Form___init__, fn_Form___init__, kc_Form⟩,
    a_Form_const := a_Form_const,
    fd_Form_const := PySem.W.fnOf "const" "Form.const" (defArgs s_Form_const) (defBody s_Form_const) (defScope s_Form_const) .none kV_Form_const dc_Form_const pm_Form_const an_Form_const cd_Form_const ct_Form_const,
    F_Form_const := fun_mk (st := s_Form_const) l_Form_const cd_Form_const_ k_Form_const,
    b_Form_const := (fun_mk (st := s_Form_const) l_Form_const cd_Form_const_ k_Form_const).binds (ps := ["self"]) fun _ _ _ _ _ _ us hl => match us, hl with | [_], _ => rfl,
    p_Form_const := p_Form_const,
    P_Form_const := ⟨at_Form_const, pg_Form_const, pt_Form_const, _, pr_Form_const⟩,
    a_Form_i := a_Form_i,
    fd_Form_i := PySem.W.fnOf "i" "Form.i" (defArgs s_Form_i) (defBody s_Form_i) (defScope s_Form_i) .none kV_Form_i dc_Form_i pm_Form_i an_Form_i cd_Form_i ct_Form_i,
    F_Form_i := fun_mk (st := s_Form_i) l_Form_i cd_Form_i_ k_Form_i,
    b_Form_i := (fun_mk (st := s_Form_i) l_Form_i cd_Form_i_ k_Form_i).binds (ps := ["self"]) fun _ _ _ _ _ _ us hl => match us, hl with | [_], _ => rfl,
    p_Form_i := p_Form_i,
    P_Form_i := ⟨at_Form_i, pg_Form_i, pt_Form_i, _, pr_Form_i⟩,
    a_Form_j := a_Form_j,
    fd_Form_j := PySem.W.fnOf "j" "Form.j" (defArgs s_Form_j) (defBody s_Form_j) (defScope s_Form_j) .none kV_Form_j dc_Form_j pm_Form_j an_Form_j cd_Form_j ct_Form_j,
    F_Form_j := fun_mk (st := s_Form_j) l_Form_j cd_Form_j_ k_Form_j,
    b_Form_j := (fun_mk (st := s_Form_j) l_Form_j cd_Form_j_ k_Form_j).binds (ps := ["self"]) fun _ _ _ _ _ _ us hl => match us, hl with | [_], _ => rfl,
    p_Form_j := p_Form_j,
    P_Form_j := ⟨at_Form_j, pg_Form_j, pt_Form_j, _, pr_Form_j⟩,
    a_Form_p := a_Form_p,
    fd_Form_p := PySem.W.fnOf "p" "Form.p" (defArgs s_Form_p) (defBody s_Form_p) (defScope s_Form_p) .none kV_Form_p dc_Form_p pm_Form_p an_Form_p cd_Form_p ct_Form_p,
    F_Form_p := fun_mk (st := s_Form_p) l_Form_p cd_Form_p_ k_Form_p,
    b_Form_p := (fun_mk (st := s_Form_p) l_Form_p cd_Form_p_ k_Form_p).binds (ps := ["self"]) fun _ _ _ _ _ _ us hl => match us, hl with | [_], _ => rfl,
    p_Form_p := p_Form_p,
    P_Form_p := ⟨at_Form_p, pg_Form_p, pt_Form_p, _, pr_Form_p⟩,
    a_Form___eq__ := a_Form___eq__,
    fd_Form___eq__ := PySem.W.fnOf "__eq__" "Form.__eq__" (defArgs s_Form___eq__) (defBody s_Form___eq__) (defScope s_Form___eq__) .none kV_Form___eq__ dc_Form___eq__ pm_Form___eq__ an_Form___eq__ cd_Form___eq__ ct_Form___eq__,
    F_Form___eq__ := fun_mk (st := s_Form___eq__) l_Form___eq__ cd_Form___eq___ k_Form___eq__,
    b_Form___eq__ := (fun_mk (st := s_Form___eq__) l_Form___eq__ cd_Form___eq___ k_Form___eq__).binds (ps := ["self", "other"]) fun _ _ _ _ _ _ us hl => match us, hl with | [_, _], _ => rfl,
    M_Form___eq__ := ⟨at_Form___eq__, fn_Form___eq__, k_Form___eq__⟩,
    a_Form___add__ := a_Form___add__,
    fd_Form___add__ := PySem.W.fnOf "__add__" "Form.__add__" (defArgs s_Form___add__) (defBody s_Form___add__) (defScope s_Form___add__) .none kV_Form___add__ dc_Form___add__ pm_Form___add__ an_Form___add__ cd_Form___add__ ct_Form___add__,
    F_Form___add__ := fun_mk (st := s_Form___add__) l_Form___add__ cd_Form___add___ k_Form___add__,
    b_Form___add__ := (fun_mk (st := s_Form___add__) l_Form___add__ cd_Form___add___ k_Form___add__).binds (ps := ["self", "other"]) fun _ _ _ _ _ _ us hl => match us, hl with | [_, _], _ => rfl,
    M_Form___add__ := ⟨at_Form___add__, fn_Form___add__, k_Form___add__⟩,
    a_Form___rmul__ := a_Form___rmul__,
    fd_Form___rmul__ := PySem.W.fnOf "__rmul__" "Form.__rmul__" (defArgs s_Form___rmul__) (defBody s_Form___rmul__) (defScope s_Form___rmul__) .none kV_Form___rmul__ dc_Form___rmul__ pm_Form___rmul__ an_Form___rmul__ cd_Form___rmul__ ct_Form___rmul__,
    F_Form___rmul__ := fun_mk (st := s_Form___rmul__) l_Form___rmul__ cd_Form___rmul___ k_Form___rmul__,
    b_Form___rmul__ := (fun_mk (st := s_Form___rmul__) l_Form___rmul__ cd_Form___rmul___ k_Form___rmul__).binds (ps := ["self", "other"]) fun _ _ _ _ _ _ us hl => match us, hl with | [_, _], _ => rfl,
    M_Form___rmul__ := ⟨at_Form___rmul__, fn_Form___rmul__, k_Form___rmul__⟩,
    a_Form_value := a_Form_value,
    fd_Form_value := PySem.W.fnOf "value" "Form.value" (defArgs s_Form_value) (defBody s_Form_value) (defScope s_Form_value) .none (.ref kD_Form_value) dc_Form_value pm_Form_value an_Form_value cd_Form_value ct_Form_value,
    F_Form_value := fd_mk (st := s_Form_value) l_Form_value cd_Form_value_ k_Form_value dfl0 (kwd3 kUh_Form_value kWh_Form_value kXh_Form_value kUr_Form_value kWr_Form_value kXr_Form_value),
    M_Form_value := ⟨at_Form_value, fn_Form_value, k_Form_value⟩,
    a_Form_put := a_Form_put,
    fd_Form_put := PySem.W.fnOf "put" "Form.put" (defArgs s_Form_put) (defBody s_Form_put) (defScope s_Form_put) .none (.ref kD_Form_put) dc_Form_put pm_Form_put an_Form_put cd_Form_put ct_Form_put,
    F_Form_put := fd_mk (st := s_Form_put) l_Form_put cd_Form_put_ k_Form_put dfl0 (kwd3 kUh_Form_put kWh_Form_put kXh_Form_put kUr_Form_put kWr_Form_put kXr_Form_put),
    M_Form_put := ⟨at_Form_put, fn_Form_put, k_Form_put⟩,
    a_form_of := a_form_of,
    fd_form_of := PySem.W.fnOf "form_of" "form_of" (defArgs s_form_of) (defBody s_form_of) (defScope s_form_of) .none kV_form_of dc_form_of pm_form_of an_form_of cd_form_of ct_form_of,
    F_form_of := fun_mk (st := s_form_of) l_form_of cd_form_of_ k_form_of,
    b_form_of := (fun_mk (st := s_form_of) l_form_of cd_form_of_ k_form_of).binds (ps := ["row"]) fun _ _ _ _ _ _ us hl => match us, hl with | [_], _ => rfl,
    m_form_of := PySem.W.mg_of X G at_form_of,
    a_rows_put := a_rows_put,
    fd_rows_put := PySem.W.fnOf "rows_put" "rows_put" (defArgs s_rows_put) (defBody s_rows_put) (defScope s_rows_put) .none kV_rows_put dc_rows_put pm_rows_put an_rows_put cd_rows_put ct_rows_put,
    F_rows_put := fun_mk (st := s_rows_put) l_rows_put cd_rows_put_ k_rows_put,
    b_rows_put := (fun_mk (st := s_rows_put) l_rows_put cd_rows_put_ k_rows_put).binds (ps := ["i", "j", "p"]) fun _ _ _ _ _ _ us hl => match us, hl with | [_, _, _], _ => rfl,
    m_rows_put := PySem.W.mg_of X G at_rows_put,
    a_row_put := a_row_put,
    fd_row_put := PySem.W.fnOf "row_put" "row_put" (defArgs s_row_put) (defBody s_row_put) (defScope s_row_put) .none kV_row_put dc_row_put pm_row_put an_row_put cd_row_put ct_row_put,
    F_row_put := fun_mk (st := s_row_put) l_row_put cd_row_put_ k_row_put,
    b_row_put := (fun_mk (st := s_row_put) l_row_put cd_row_put_ k_row_put).binds (ps := ["row", "others"]) fun _ _ _ _ _ _ us hl => match us, hl with | [_, _], _ => rfl,
    m_row_put := PySem.W.mg_of X G at_row_put,
    a_unknown := a_unknown,
    fd_unknown := PySem.W.fnOf "unknown" "unknown" (defArgs s_unknown) (defBody s_unknown) (defScope s_unknown) .none kV_unknown dc_unknown pm_unknown an_unknown cd_unknown ct_unknown,
    F_unknown := fun_mk (st := s_unknown) l_unknown cd_unknown_ k_unknown,
    b_unknown := (fun_mk (st := s_unknown) l_unknown cd_unknown_ k_unknown).binds (ps := ["name"]) fun _ _ _ _ _ _ us hl => match us, hl with | [_], _ => rfl,
    m_unknown := PySem.W.mg_of X G at_unknown,
    a__law_feed := a__law_feed,
    fd__law_feed := PySem.W.fnOf "_law_feed" "_law_feed" (defArgs s__law_feed) (defBody s__law_feed) (defScope s__law_feed) .none kV__law_feed dc__law_feed pm__law_feed an__law_feed cd__law_feed ct__law_feed,
    F__law_feed := fun_mk (st := s__law_feed) l__law_feed cd__law_feed_ k__law_feed,
    b__law_feed := (fun_mk (st := s__law_feed) l__law_feed cd__law_feed_ k__law_feed).binds (ps := ["_law_script", "_law_k"]) fun _ _ _ _ _ _ us hl => match us, hl with | [_, _], _ => rfl,
    m__law_feed := PySem.W.mg_of X G at__law_feed,
    a__law_take := a__law_take,
    fd__law_take := PySem.W.fnOf "_law_take" "_law_take" (defArgs s__law_take) (defBody s__law_take) (defScope s__law_take) .none kV__law_take dc__law_take pm__law_take an__law_take cd__law_take ct__law_take,
    F__law_take := fun_mk (st := s__law_take) l__law_take cd__law_take_ k__law_take,
    b__law_take := (fun_mk (st := s__law_take) l__law_take cd__law_take_ k__law_take).binds (ps := ["_law_box", "_law_many"]) fun _ _ _ _ _ _ us hl => match us, hl with | [_, _], _ => rfl,
    m__law_take := PySem.W.mg_of X G at__law_take,
    a__law_four := a__law_four,
    fd__law_four := PySem.W.fnOf "_law_four" "_law_four" (defArgs s__law_four) (defBody s__law_four) (defScope s__law_four) .none kV__law_four dc__law_four pm__law_four an__law_four cd__law_four ct__law_four,
    F__law_four := fun_mk (st := s__law_four) l__law_four cd__law_four_ k__law_four,
    b__law_four := (fun_mk (st := s__law_four) l__law_four cd__law_four_ k__law_four).binds (ps := ["_law_box", "_law_most", "_law_far", "_law_width"]) fun _ _ _ _ _ _ us hl => match us, hl with | [_, _, _, _], _ => rfl,
    m__law_four := PySem.W.mg_of X G at__law_four,
    a__law_made := a__law_made,
    fd__law_made := PySem.W.fnOf "_law_made" "_law_made" (defArgs s__law_made) (defBody s__law_made) (defScope s__law_made) .none kV__law_made dc__law_made pm__law_made an__law_made cd__law_made ct__law_made,
    F__law_made := fun_mk (st := s__law_made) l__law_made cd__law_made_ k__law_made,
    b__law_made := (fun_mk (st := s__law_made) l__law_made cd__law_made_ k__law_made).binds (ps := ["_law_row"]) fun _ _ _ _ _ _ us hl => match us, hl with | [_], _ => rfl,
    m__law_made := PySem.W.mg_of X G at__law_made,
    a__law_told := a__law_told,
    fd__law_told := PySem.W.fnOf "_law_told" "_law_told" (defArgs s__law_told) (defBody s__law_told) (defScope s__law_told) .none kV__law_told dc__law_told pm__law_told an__law_told cd__law_told ct__law_told,
    F__law_told := fun_mk (st := s__law_told) l__law_told cd__law_told_ k__law_told,
    b__law_told := (fun_mk (st := s__law_told) l__law_told cd__law_told_ k__law_told).binds (ps := ["_law_form"]) fun _ _ _ _ _ _ us hl => match us, hl with | [_], _ => rfl,
    m__law_told := PySem.W.mg_of X G at__law_told,
    a__law_number := a__law_number,
    fd__law_number := PySem.W.fnOf "_law_number" "_law_number" (defArgs s__law_number) (defBody s__law_number) (defScope s__law_number) .none kV__law_number dc__law_number pm__law_number an__law_number cd__law_number ct__law_number,
    F__law_number := fun_mk (st := s__law_number) l__law_number cd__law_number_ k__law_number,
    b__law_number := (fun_mk (st := s__law_number) l__law_number cd__law_number_ k__law_number).binds (ps := ["_law_box"]) fun _ _ _ _ _ _ us hl => match us, hl with | [_], _ => rfl,
    m__law_number := PySem.W.mg_of X G at__law_number,
    a__law_value := a__law_value,
    fd__law_value := PySem.W.fnOf "_law_value" "_law_value" (defArgs s__law_value) (defBody s__law_value) (defScope s__law_value) .none kV__law_value dc__law_value pm__law_value an__law_value cd__law_value ct__law_value,
    F__law_value := fun_mk (st := s__law_value) l__law_value cd__law_value_ k__law_value,
    b__law_value := (fun_mk (st := s__law_value) l__law_value cd__law_value_ k__law_value).binds (ps := ["_law_row", "_law_worths"]) fun _ _ _ _ _ _ us hl => match us, hl with | [_, _], _ => rfl,
    m__law_value := PySem.W.mg_of X G at__law_value,
    a__law_put := a__law_put,
    fd__law_put := PySem.W.fnOf "_law_put" "_law_put" (defArgs s__law_put) (defBody s__law_put) (defScope s__law_put) .none kV__law_put dc__law_put pm__law_put an__law_put cd__law_put ct__law_put,
    F__law_put := fun_mk (st := s__law_put) l__law_put cd__law_put_ k__law_put,
    b__law_put := (fun_mk (st := s__law_put) l__law_put cd__law_put_ k__law_put).binds (ps := ["_law_row", "_law_others"]) fun _ _ _ _ _ _ us hl => match us, hl with | [_, _], _ => rfl,
    m__law_put := PySem.W.mg_of X G at__law_put,
    a__law_asked := a__law_asked,
    fd__law_asked := PySem.W.fnOf "_law_asked" "_law_asked" (defArgs s__law_asked) (defBody s__law_asked) (defScope s__law_asked) .none kV__law_asked dc__law_asked pm__law_asked an__law_asked cd__law_asked ct__law_asked,
    F__law_asked := fun_mk (st := s__law_asked) l__law_asked cd__law_asked_ k__law_asked,
    b__law_asked := (fun_mk (st := s__law_asked) l__law_asked cd__law_asked_ k__law_asked).binds (ps := ["_law_form", "_law_others", "_law_left"]) fun _ _ _ _ _ _ us hl => match us, hl with | [_, _, _], _ => rfl,
    m__law_asked := PySem.W.mg_of X G at__law_asked,
    a__law_twice_right := a__law_twice_right,
    fd__law_twice_right := PySem.W.fnOf "_law_twice_right" "_law_twice_right" (defArgs s__law_twice_right) (defBody s__law_twice_right) (defScope s__law_twice_right) .none kV__law_twice_right dc__law_twice_right pm__law_twice_right an__law_twice_right cd__law_twice_right ct__law_twice_right,
    F__law_twice_right := fun_mk (st := s__law_twice_right) l__law_twice_right cd__law_twice_right_ k__law_twice_right,
    b__law_twice_right := (fun_mk (st := s__law_twice_right) l__law_twice_right cd__law_twice_right_ k__law_twice_right).binds (ps := ["_law_row", "_law_there", "_law_found", "_law_second"]) fun _ _ _ _ _ _ us hl => match us, hl with | [_, _, _, _], _ => rfl,
    m__law_twice_right := PySem.W.mg_of X G at__law_twice_right,
    a__law_values_right := a__law_values_right,
    fd__law_values_right := PySem.W.fnOf "_law_values_right" "_law_values_right" (defArgs s__law_values_right) (defBody s__law_values_right) (defScope s__law_values_right) .none kV__law_values_right dc__law_values_right pm__law_values_right an__law_values_right cd__law_values_right ct__law_values_right,
    F__law_values_right := fun_mk (st := s__law_values_right) l__law_values_right cd__law_values_right_ k__law_values_right,
    b__law_values_right := (fun_mk (st := s__law_values_right) l__law_values_right cd__law_values_right_ k__law_values_right).binds (ps := ["_law_row", "_law_there", "_law_found", "_law_worths"]) fun _ _ _ _ _ _ us hl => match us, hl with | [_, _, _, _], _ => rfl,
    m__law_values_right := PySem.W.mg_of X G at__law_values_right,
    a__law_sums_right := a__law_sums_right,
    fd__law_sums_right := PySem.W.fnOf "_law_sums_right" "_law_sums_right" (defArgs s__law_sums_right) (defBody s__law_sums_right) (defScope s__law_sums_right) .none kV__law_sums_right dc__law_sums_right pm__law_sums_right an__law_sums_right cd__law_sums_right ct__law_sums_right,
    F__law_sums_right := fun_mk (st := s__law_sums_right) l__law_sums_right cd__law_sums_right_ k__law_sums_right,
    b__law_sums_right := (fun_mk (st := s__law_sums_right) l__law_sums_right cd__law_sums_right_ k__law_sums_right).binds (ps := ["_law_row", "_law_other", "_law_times", "_law_worths"]) fun _ _ _ _ _ _ us hl => match us, hl with | [_, _, _, _], _ => rfl,
    m__law_sums_right := PySem.W.mg_of X G at__law_sums_right,
    a_law := a_law,
    fd_law := PySem.W.fnOf "law" "law" (defArgs s_law) (defBody s_law) (defScope s_law) .none kV_law dc_law pm_law an_law cd_law ct_law,
    F_law := fun_mk (st := s_law) l_law cd_law_ k_law,
    b_law := (fun_mk (st := s_law) l_law cd_law_ k_law).binds (ps := ["_law_script"]) fun _ _ _ _ _ _ us hl => match us, hl with | [_], _ => rfl,
    m_law := PySem.W.mg_of X G at_law,
    R_mul := R_mul,
    O_add := O_add }
  exact ⟨PySem.W.fnOf "law" "law" (defArgs s_law) (defBody s_law) (defScope s_law) .none kV_law dc_law pm_law an_law cd_law ct_law, fun s v => .of_eq rfl, fun base _ _ => (Tx.ok_law t).imp fun vs H Q E q => spL_to (T := (tab c_Form)) law_of q⟩
end K
open PySem PySem.W PyProof.Rows in
set_option maxRecDepth 100000 in
set_option maxHeartbeats 0 in
theorem PySem.Challenge.cw_clashcounts_k04_whole_put_and_value_holds : PySem.Challenge.rw_clashcounts_k04_whole_put_and_value.Holds := by
  w_on; o_law; k_head; (case hw => w_witness2)
  k_fill
  refine L2.walk_ofB (l := PySem.Challenge.rw_clashcounts_k04_whole_put_and_value) (n := 63) (k := 8) (x := "_law_script") (CX := fun _ => L2.CX0) (sp := fun w => Dl.spL _) rfl (by decide) rfl ⟨rfl, by decide, by decide⟩ (fun w h Y => PySem.W.kIn_of Y) ?F (fun _ H a ns hl hb hO hS => Dl.spL_of H a ns hl hb hO hS) (fun _ _ _ _ _ h => h)
  case F =>
    intro w mg fa h KX G hmg
    refine' K.all_mk KX G hmg ?aC_Form ?pg_Form ?hd_Form ?po_Form ?sa_Form ?ca_Form ?cn_Form ?ct_Form ?cm_Form ?mk_Form ?kc_Form ?no_Form_row ?sub_Form_int ?z_isinstance ?z_int ?z_bool ?z_tuple ?z_list ?z_zip ?z_range ?z_len ?z_max ?z_min ?at_is_whole ?l_is_whole ?cd_is_whole_ ?k_is_whole ?at_Form___init__ ?fn_Form___init__ ?l_Form___init__ ?cd_Form___init___ ?k_Form___init__ ?dl_Form___init__ ?dd_Form___init__ ?dr_Form___init__ ?kUh_Form___init__ ?kUr_Form___init__ ?kWh_Form___init__ ?kWr_Form___init__ ?kXh_Form___init__ ?kXr_Form___init__ ?at_Form_const ?pg_Form_const ?pt_Form_const ?pr_Form_const ?l_Form_const ?cd_Form_const_ ?k_Form_const ?at_Form_i ?pg_Form_i ?pt_Form_i ?pr_Form_i ?l_Form_i ?cd_Form_i_ ?k_Form_i ?at_Form_j ?pg_Form_j ?pt_Form_j ?pr_Form_j ?l_Form_j ?cd_Form_j_ ?k_Form_j ?at_Form_p ?pg_Form_p ?pt_Form_p ?pr_Form_p ?l_Form_p ?cd_Form_p_ ?k_Form_p ?at_Form___eq__ ?fn_Form___eq__ ?l_Form___eq__ ?cd_Form___eq___ ?k_Form___eq__ ?at_Form___add__ ?fn_Form___add__ ?l_Form___add__ ?cd_Form___add___ ?k_Form___add__ ?at_Form___rmul__ ?fn_Form___rmul__ ?l_Form___rmul__ ?cd_Form___rmul___ ?k_Form___rmul__ ?at_Form_value ?fn_Form_value ?l_Form_value ?cd_Form_value_ ?k_Form_value ?kUh_Form_value ?kUr_Form_value ?kWh_Form_value ?kWr_Form_value ?kXh_Form_value ?kXr_Form_value ?at_Form_put ?fn_Form_put ?l_Form_put ?cd_Form_put_ ?k_Form_put ?kUh_Form_put ?kUr_Form_put ?kWh_Form_put ?kWr_Form_put ?kXh_Form_put ?kXr_Form_put ?at_form_of ?l_form_of ?cd_form_of_ ?k_form_of ?at_rows_put ?l_rows_put ?cd_rows_put_ ?k_rows_put ?at_row_put ?l_row_put ?cd_row_put_ ?k_row_put ?at_unknown ?l_unknown ?cd_unknown_ ?k_unknown ?at__law_feed ?l__law_feed ?cd__law_feed_ ?k__law_feed ?at__law_take ?l__law_take ?cd__law_take_ ?k__law_take ?at__law_four ?l__law_four ?cd__law_four_ ?k__law_four ?at__law_made ?l__law_made ?cd__law_made_ ?k__law_made ?at__law_told ?l__law_told ?cd__law_told_ ?k__law_told ?at__law_number ?l__law_number ?cd__law_number_ ?k__law_number ?at__law_value ?l__law_value ?cd__law_value_ ?k__law_value ?at__law_put ?l__law_put ?cd__law_put_ ?k__law_put ?at__law_asked ?l__law_asked ?cd__law_asked_ ?k__law_asked ?at__law_twice_right ?l__law_twice_right ?cd__law_twice_right_ ?k__law_twice_right ?at__law_values_right ?l__law_values_right ?cd__law_values_right_ ?k__law_values_right ?at__law_sums_right ?l__law_sums_right ?cd__law_sums_right_ ?k__law_sums_right ?at_law ?l_law ?cd_law_ ?k_law ?R_mul ?O_add
    (case aC_Form => k_is)
    (case pg_Form => k_is)
    (case hd_Form => k_is)
    (case po_Form => k_is)
    (case sa_Form => k_is)
    (case ca_Form => k_is)
    (case cn_Form => k_is)
    (case ct_Form => k_is)
    (case cm_Form => k_is)
    (case mk_Form => k_is)
    (case kc_Form => k_is)
    (case no_Form_row => k_is)
    (case sub_Form_int => k_is)
    (case z_isinstance => k_is)
    (case z_int => k_is)
    (case z_bool => k_is)
    (case z_tuple => k_is)
    (case z_list => k_is)
    (case z_zip => k_is)
    (case z_range => k_is)
    (case z_len => k_is)
    (case z_max => k_is)
    (case z_min => k_is)
    (case at_is_whole => k_is)
    (case l_is_whole => k_is)
    (case cd_is_whole_ => k_is)
    (case k_is_whole => k_is)
    (case at_Form___init__ => k_is)
    (case fn_Form___init__ => k_is)
    (case l_Form___init__ => k_is)
    (case cd_Form___init___ => k_is)
    (case k_Form___init__ => k_is)
    (case dl_Form___init__ => k_is)
    (case dd_Form___init__ => rfl)
    (case dr_Form___init__ => first | rfl | exact ⟨_, rfl⟩)
    (case kUh_Form___init__ => k_is)
    (case kUr_Form___init__ => first | rfl | exact ⟨_, rfl⟩)
    (case kWh_Form___init__ => k_is)
    (case kWr_Form___init__ => first | rfl | exact ⟨_, rfl⟩)
    (case kXh_Form___init__ => k_is)
    (case kXr_Form___init__ => first | rfl | exact ⟨_, rfl⟩)
    (case at_Form_const => k_is)
    (case pg_Form_const => k_is)
    (case pt_Form_const => k_is)
    (case pr_Form_const => k_is)
    (case l_Form_const => k_is)
    (case cd_Form_const_ => k_is)
    (case k_Form_const => k_is)
    (case at_Form_i => k_is)
    (case pg_Form_i => k_is)
    (case pt_Form_i => k_is)
    (case pr_Form_i => k_is)
    (case l_Form_i => k_is)
    (case cd_Form_i_ => k_is)
    (case k_Form_i => k_is)
    (case at_Form_j => k_is)
    (case pg_Form_j => k_is)
    (case pt_Form_j => k_is)
    (case pr_Form_j => k_is)
    (case l_Form_j => k_is)
    (case cd_Form_j_ => k_is)
    (case k_Form_j => k_is)
    (case at_Form_p => k_is)
    (case pg_Form_p => k_is)
    (case pt_Form_p => k_is)
    (case pr_Form_p => k_is)
    (case l_Form_p => k_is)
    (case cd_Form_p_ => k_is)
    (case k_Form_p => k_is)
    (case at_Form___eq__ => k_is)
    (case fn_Form___eq__ => k_is)
    (case l_Form___eq__ => k_is)
    (case cd_Form___eq___ => k_is)
    (case k_Form___eq__ => k_is)
    (case at_Form___add__ => k_is)
    (case fn_Form___add__ => k_is)
    (case l_Form___add__ => k_is)
    (case cd_Form___add___ => k_is)
    (case k_Form___add__ => k_is)
    (case at_Form___rmul__ => k_is)
    (case fn_Form___rmul__ => k_is)
    (case l_Form___rmul__ => k_is)
    (case cd_Form___rmul___ => k_is)
    (case k_Form___rmul__ => k_is)
    (case at_Form_value => k_is)
    (case fn_Form_value => k_is)
    (case l_Form_value => k_is)
    (case cd_Form_value_ => k_is)
    (case k_Form_value => k_is)
    (case kUh_Form_value => k_is)
    (case kUr_Form_value => first | rfl | exact ⟨_, rfl⟩)
    (case kWh_Form_value => k_is)
    (case kWr_Form_value => first | rfl | exact ⟨_, rfl⟩)
    (case kXh_Form_value => k_is)
    (case kXr_Form_value => first | rfl | exact ⟨_, rfl⟩)
    (case at_Form_put => k_is)
    (case fn_Form_put => k_is)
    (case l_Form_put => k_is)
    (case cd_Form_put_ => k_is)
    (case k_Form_put => k_is)
    (case kUh_Form_put => k_is)
    (case kUr_Form_put => first | rfl | exact ⟨_, rfl⟩)
    (case kWh_Form_put => k_is)
    (case kWr_Form_put => first | rfl | exact ⟨_, rfl⟩)
    (case kXh_Form_put => k_is)
    (case kXr_Form_put => first | rfl | exact ⟨_, rfl⟩)
    (case at_form_of => k_is)
    (case l_form_of => k_is)
    (case cd_form_of_ => k_is)
    (case k_form_of => k_is)
    (case at_rows_put => k_is)
    (case l_rows_put => k_is)
    (case cd_rows_put_ => k_is)
    (case k_rows_put => k_is)
    (case at_row_put => k_is)
    (case l_row_put => k_is)
    (case cd_row_put_ => k_is)
    (case k_row_put => k_is)
    (case at_unknown => k_is)
    (case l_unknown => k_is)
    (case cd_unknown_ => k_is)
    (case k_unknown => k_is)
    (case at__law_feed => k_is)
    (case l__law_feed => k_is)
    (case cd__law_feed_ => k_is)
    (case k__law_feed => k_is)
    (case at__law_take => k_is)
    (case l__law_take => k_is)
    (case cd__law_take_ => k_is)
    (case k__law_take => k_is)
    (case at__law_four => k_is)
    (case l__law_four => k_is)
    (case cd__law_four_ => k_is)
    (case k__law_four => k_is)
    (case at__law_made => k_is)
    (case l__law_made => k_is)
    (case cd__law_made_ => k_is)
    (case k__law_made => k_is)
    (case at__law_told => k_is)
    (case l__law_told => k_is)
    (case cd__law_told_ => k_is)
    (case k__law_told => k_is)
    (case at__law_number => k_is)
    (case l__law_number => k_is)
    (case cd__law_number_ => k_is)
    (case k__law_number => k_is)
    (case at__law_value => k_is)
    (case l__law_value => k_is)
    (case cd__law_value_ => k_is)
    (case k__law_value => k_is)
    (case at__law_put => k_is)
    (case l__law_put => k_is)
    (case cd__law_put_ => k_is)
    (case k__law_put => k_is)
    (case at__law_asked => k_is)
    (case l__law_asked => k_is)
    (case cd__law_asked_ => k_is)
    (case k__law_asked => k_is)
    (case at__law_twice_right => k_is)
    (case l__law_twice_right => k_is)
    (case cd__law_twice_right_ => k_is)
    (case k__law_twice_right => k_is)
    (case at__law_values_right => k_is)
    (case l__law_values_right => k_is)
    (case cd__law_values_right_ => k_is)
    (case k__law_values_right => k_is)
    (case at__law_sums_right => k_is)
    (case l__law_sums_right => k_is)
    (case cd__law_sums_right_ => k_is)
    (case k__law_sums_right => k_is)
    (case at_law => k_is)
    (case l_law => k_is)
    (case cd_law_ => k_is)
    (case k_law => k_is)
    (case R_mul => exact ⟨by k_is, ⟨_, by k_is⟩, by k_is, by k_is, ⟨_, _, by k_is, by k_is, by rfl⟩, by k_is⟩)
    (case O_add => exact ⟨by k_is, by k_is, by k_is, ⟨_, by k_is, by first | exact Or.inl rfl | exact Or.inr ⟨_, rfl⟩⟩, ⟨_, by k_is⟩, ⟨_, by k_is⟩, by k_is⟩)
