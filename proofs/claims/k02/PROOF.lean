import PyProof.Rows.All
import Wide.All
import OpenK.AllK
import Wide.FinOn
import HandS.ForMost
import HandS.ForExc
import HandS.IsInst
import HandS.Style
import HandS.TupAny
import HandS.Conv
import HandS.SetKeys
import HandS.ExcInit
import HandS.ExcIs
import HandS.ExcField
import HandS.RaiseFrom
import HandS.ClsMeth
import HandS.Small
import PySem.Challenge.RW_knownguards_k02_whole_facts_taken_in_and
import HandS.Defaults
import KE.SortData
import KE.KExcIs
import HandS.TupLe
set_option Elab.async false
set_option linter.all false
set_option maxRecDepth 100000
set_option maxHeartbeats 4000000
/-! A small logic over readings: values as data, private lists, what a loop keeps. -/
namespace KG
open PySem PySem.Spec L2

/-! ### heaps -/
/-- the heap without the addresses at M -/
def wo (M : List Addr) (H : Hp) : Hp := fun a => if a ∈ M then none else H a
def Ex (H H' : Hp) : Prop := ∀ (b : Addr) (u : HO), H b = some u → H' b = some u
/-- all but what stands at V is as it was -/
def ExB (V : List Addr) (H H' : Hp) : Prop := ∀ a o, H a = some o → a ∉ V → H' a = some o
theorem Ex.refl (H : Hp) : Ex H H := fun _ _ e => e
theorem Ex.trans {H H1 H2 : Hp} (f : Ex H H1) (g : Ex H1 H2) : Ex H H2 := fun b u e => g b u (f b u e)
theorem Ex.new {H : Hp} {p : Addr} {o : HO} (free : H p = none) : Ex H (upd H p o) := fun b u e => (upd_ne (ne_of_none e free)).trans e
theorem Ex.b {V : List Addr} {H H' : Hp} (e : Ex H H') : ExB V H H' := fun a o h _ => e a o h
theorem ExB.refl (V : List Addr) (H : Hp) : ExB V H H := fun _ _ h _ => h
theorem ExB.trans {V : List Addr} {H H1 H2 : Hp} (a : ExB V H H1) (b : ExB V H1 H2) : ExB V H H2 := fun x o h n => b x o (a x o h n) n
theorem ExB.mono {V V' : List Addr} {H H' : Hp} (e : ExB V H H') (h : ∀ a, a ∈ V → a ∈ V') : ExB V' H H' := fun a o q n => e a o q fun z => n (h a z)
theorem ExB.upd {V : List Addr} {H : Hp} {p : Addr} {o : HO} (h : p ∈ V) : ExB V H (L2.upd H p o) := fun a u e n => by
  rw [upd_ne (fun z => n (by rw [z]; exact h) : a ≠ p)]
  exact e
theorem wo_in {M : List Addr} {H : Hp} {a : Addr} (h : a ∈ M) : wo M H a = none := if_pos h
theorem wo_out {M : List Addr} {H : Hp} {a : Addr} (h : a ∉ M) : wo M H a = H a := if_neg h
theorem wo_some {M : List Addr} {H : Hp} {a : Addr} {o : HO} (h : wo M H a = some o) : a ∉ M ∧ H a = some o := by
  by_cases q : a ∈ M
  · rw [wo_in q] at h; cases h
  · rw [wo_out q] at h; exact ⟨q, h⟩
theorem wo_mk {M : List Addr} {H : Hp} {a : Addr} {o : HO} (q : a ∉ M) (h : H a = some o) : wo M H a = some o := by rw [wo_out q]; exact h
theorem ExB.wo {V M : List Addr} {H H' : Hp} (e : ExB V H H') (h : ∀ a, a ∈ V → a ∈ M) : Ex (wo M H) (wo M H') := fun a o q => by
  obtain ⟨n, q⟩ := wo_some q
  exact wo_mk n (e a o q fun z => n (h a z))
theorem wo_anti {M M' : List Addr} {H : Hp} (h : ∀ a, a ∈ M' → a ∈ M) : Ex (wo M H) (wo M' H) := fun a o q => by
  obtain ⟨n, q⟩ := wo_some q
  exact wo_mk (fun z => n (h a z)) q
/-- an excluded object may change -/
theorem wo_upd {M : List Addr} {H : Hp} {p : Addr} {o : HO} (h : p ∈ M) : wo M (L2.upd H p o) = wo M H := by
  funext a
  by_cases q : a ∈ M
  · rw [wo_in q, wo_in q]
  · rw [wo_out q, wo_out q, upd_ne (fun z => q (by rw [z]; exact h) : a ≠ p)]

/-! ### values as data -/
/-- a Lot's attributes -/
def lotF (c : Int) (v : V) : List (Str × V) := putF "programs" v (putF "cells" (.int c) [])
mutual
inductive Dt (C : Addr) (G : Hp) : V → PyData → Prop
  | non : Dt C G .non .none
  | bl (b : Bool) : Dt C G (.bl b) (.bool b)
  | int (i : Int) : Dt C G (.int i) (.int i)
  | str (x : Str) : Dt C G (.str x) (.str x)
  | lst {a : Addr} {xs : List V} {ds : List PyData} : G a = some (.lst xs) → DtA C G xs ds → Dt C G (.ref a) (.list ds)
  | tup {a : Addr} {xs : List V} {ds : List PyData} : G a = some (.tup xs) → DtA C G xs ds → Dt C G (.ref a) (.tuple ds)
  | emp {a : Addr} : G a = some (.dK []) → Dt C G (.ref a) (.dict [])
  | lot {a dx : Addr} {c : Int} {v : V} {d : PyData} : G a = some (.ins C dx (lotF c v)) → Dt C G v d → Dt C G (.ref a) (.dict [(.int c, d)])
inductive DtA (C : Addr) (G : Hp) : List V → List PyData → Prop
  | nil : DtA C G [] []
  | cons {v : V} {vs : List V} {d : PyData} {ds : List PyData} : Dt C G v d → DtA C G vs ds → DtA C G (v :: vs) (d :: ds)
end
section
variable {C : Addr} {G G' : Hp}
mutual
theorem Dt.mono (e : Ex G G') : ∀ {v : V} {d : PyData}, Dt C G v d → Dt C G' v d
  | _, _, .non => .non
  | _, _, .bl b => .bl b
  | _, _, .int i => .int i
  | _, _, .str x => .str x
  | _, _, .lst h a => .lst (e _ _ h) (DtA.mono e a)
  | _, _, .tup h a => .tup (e _ _ h) (DtA.mono e a)
  | _, _, .emp h => .emp (e _ _ h)
  | _, _, .lot h a => .lot (e _ _ h) (Dt.mono e a)
theorem DtA.mono (e : Ex G G') : ∀ {vs : List V} {ds : List PyData}, DtA C G vs ds → DtA C G' vs ds
  | _, _, .nil => .nil
  | _, _, .cons h a => .cons (Dt.mono e h) (DtA.mono e a)
end
theorem DtA.length : ∀ {vs : List V} {ds : List PyData}, DtA C G vs ds → vs.length = ds.length
  | _, _, .nil => rfl
  | _, _, .cons _ a => by simp only [List.length_cons, DtA.length a]
theorem DtA.get : ∀ {vs : List V} {ds : List PyData} {i : Nat} {d : PyData}, DtA C G vs ds → ds[i]? = some d → ∃ v, vs[i]? = some v ∧ Dt C G v d
  | _, _, _, _, .nil, h => by simp at h
  | _, _, 0, _, .cons h _, e => by
    simp at e; subst e; exact ⟨_, rfl, h⟩
  | _, _, i + 1, _, .cons _ a, e => by
    obtain ⟨v, h1, h2⟩ := DtA.get (i := i) a (by simpa using e)
    exact ⟨v, by simpa using h1, h2⟩
theorem DtA.getV : ∀ {vs : List V} {ds : List PyData} {i : Nat} {v : V}, DtA C G vs ds → vs[i]? = some v → ∃ d, ds[i]? = some d ∧ Dt C G v d
  | _, _, _, _, .nil, h => by simp at h
  | _, _, 0, _, .cons h _, e => by
    simp at e; subst e; exact ⟨_, rfl, h⟩
  | _, _, i + 1, _, .cons _ a, e => by
    obtain ⟨v, h1, h2⟩ := DtA.getV (i := i) a (by simpa using e)
    exact ⟨v, by simpa using h1, h2⟩
theorem DtA.app : ∀ {vs us : List V} {ds es : List PyData}, DtA C G vs ds → DtA C G us es → DtA C G (vs ++ us) (ds ++ es)
  | _, _, _, _, .nil, b => b
  | _, _, _, _, .cons h a, b => .cons h (DtA.app a b)
theorem DtA.one {v : V} {d : PyData} (h : Dt C G v d) : DtA C G [v] [d] := .cons h .nil
theorem DtA.drop : ∀ {vs : List V} {ds : List PyData} (n : Nat), DtA C G vs ds → DtA C G (vs.drop n) (ds.drop n)
  | _, _, 0, a => a
  | _, _, _ + 1, .nil => .nil
  | _, _, n + 1, .cons _ a => by simpa using DtA.drop n a
theorem DtA.take : ∀ {vs : List V} {ds : List PyData} (n : Nat), DtA C G vs ds → DtA C G (vs.take n) (ds.take n)
  | _, _, 0, _ => by simpa using DtA.nil
  | _, _, _ + 1, .nil => .nil
  | _, _, n + 1, .cons h a => by simpa using DtA.cons h (DtA.take n a)
theorem DtA.set : ∀ {vs : List V} {ds : List PyData} {v : V} {d : PyData} (n : Nat), DtA C G vs ds → Dt C G v d → DtA C G (vs.set n v) (ds.set n d)
  | _, _, _, _, _, .nil, _ => by simpa using DtA.nil
  | _, _, _, _, 0, .cons _ a, h => .cons h a
  | _, _, _, _, n + 1, .cons q a, h => by simpa using DtA.cons q (DtA.set n a h)
theorem DtA.rev : ∀ {vs : List V} {ds : List PyData}, DtA C G vs ds → DtA C G vs.reverse ds.reverse
  | _, _, .nil => .nil
  | _, _, .cons h a => by
    rw [List.reverse_cons, List.reverse_cons]
    exact DtA.app (DtA.rev a) (.one h)
theorem DtA.ints : ∀ ns : List Int, DtA C G (ns.map V.int) (ns.map PyData.int)
  | [] => .nil
  | n :: ns => .cons (.int n) (DtA.ints ns)
theorem DtA.rep {v : V} {d : PyData} (h : Dt C G v d) : ∀ n : Nat, DtA C G (List.replicate n v) (List.replicate n d)
  | 0 => .nil
  | n + 1 => .cons h (DtA.rep h n)
theorem DtA.intsV : ∀ {vs : List V} {ns : List Int}, DtA C G vs (ns.map PyData.int) → vs = ns.map V.int
  | _, [], h => by
    have h' : DtA C G _ [] := h
    cases h'; rfl
  | _, n :: ns, h => by
    have h' : DtA C G _ (.int n :: ns.map PyData.int) := h
    cases h' with
    | cons a b =>
      cases a
      rw [DtA.intsV b]; rfl
/-! inversions -/
theorem Dt.nonE {v : V} (h : Dt C G v .none) : v = .non := by cases h; rfl
theorem Dt.blE {v : V} {b : Bool} (h : Dt C G v (.bool b)) : v = .bl b := by cases h; rfl
theorem Dt.intE {v : V} {i : Int} (h : Dt C G v (.int i)) : v = .int i := by cases h; rfl
theorem Dt.strE {v : V} {x : Str} (h : Dt C G v (.str x)) : v = .str x := by cases h; rfl
theorem Dt.lstE {v : V} {ds : List PyData} (h : Dt C G v (.list ds)) : ∃ a xs, v = .ref a ∧ G a = some (.lst xs) ∧ DtA C G xs ds := by
  cases h with
  | lst h a => exact ⟨_, _, rfl, h, a⟩
theorem Dt.tupE {v : V} {ds : List PyData} (h : Dt C G v (.tuple ds)) : ∃ a xs, v = .ref a ∧ G a = some (.tup xs) ∧ DtA C G xs ds := by
  cases h with
  | tup h a => exact ⟨_, _, rfl, h, a⟩
theorem Dt.lotE {v : V} {c : Int} {d : PyData} (h : Dt C G v (.dict [(.int c, d)])) : ∃ a dx u, v = .ref a ∧ G a = some (.ins C dx (lotF c u)) ∧ Dt C G u d := by
  cases h with
  | lot h a => exact ⟨_, _, _, rfl, h, a⟩
theorem DtA.one1 {v : V} {ds : List PyData} (h : DtA C G [v] ds) : ∃ d, ds = [d] ∧ Dt C G v d := by
  cases h with
  | cons a b => cases b; exact ⟨_, rfl, a⟩
/-! as the library's own reading of data -/
mutual
theorem Dt.dp {K : PySem.W.Frag} : ∀ {v : V} {d : PyData}, Dt C G v d → d.canLay0 = true → Dp K G v d
  | _, _, .non, _ => .non
  | _, _, .bl b, _ => .bl b
  | _, _, .int i, _ => .int i
  | _, _, .str x, _ => .str x
  | _, _, .lst h a, q => .lst (SqL.of h) (DtA.dp a (by simpa [PyData.canLay0] using q))
  | _, _, .tup h a, q => .tup (SqT.of h) (DtA.dp a (by simpa [PyData.canLay0] using q))
  | _, _, .emp h, q => by simp [PyData.canLay0] at q
  | _, _, .lot h a, q => by simp [PyData.canLay0] at q
theorem DtA.dp {K : PySem.W.Frag} : ∀ {vs : List V} {ds : List PyData}, DtA C G vs ds → PyData.canLayAll0 ds = true → DpAll K G vs ds
  | _, _, .nil, _ => .nil
  | _, _, .cons h a, q => by
    rw [PyData.canLayAll0, Bool.and_eq_true] at q
    exact .cons (Dt.dp h q.1) (DtA.dp a q.2)
end
end
theorem Same.of {H H' : Hp} (e : Ex H H') : L2.Same H H' := e
/-- new objects -/
theorem dt_newT {C : Addr} {M : List Addr} {H : Hp} {p : Addr} {xs : List V} {ds : List PyData} (al : ∀ a ∈ M, H a ≠ none) (hp : H p = none) (h : DtA C (wo M H) xs ds) : Dt C (wo M (L2.upd H p (.tup xs))) (.ref p) (.tuple ds) := by
  have n : p ∉ M := fun z => al p z hp
  exact .tup (wo_mk n upd_same) (h.mono ((Ex.new hp).b (V := []) |>.wo (by simp)))
theorem dt_newL {C : Addr} {M : List Addr} {H : Hp} {p : Addr} {xs : List V} {ds : List PyData} (al : ∀ a ∈ M, H a ≠ none) (hp : H p = none) (h : DtA C (wo M H) xs ds) : Dt C (wo M (L2.upd H p (.lst xs))) (.ref p) (.list ds) := by
  have n : p ∉ M := fun z => al p z hp
  exact .lst (wo_mk n upd_same) (h.mono ((Ex.new hp).b (V := []) |>.wo (by simp)))
theorem al_ex {M : List Addr} {H H' : Hp} (al : ∀ a ∈ M, H a ≠ none) (e : Ex H H') : ∀ a ∈ M, H' a ≠ none := fun a m z => by
  cases q : H a with
  | none => exact al a m q
  | some o => rw [e a o q] at z; cases z
end KG
namespace KG
open PySem PySem.Spec L2

/-- h0: the heap at the entry; w: what the caller lets be changed; b: what the caller's data does not speak of; v: the lists that are kept track of (w's first, then one's own); g: data that stays known -/
structure Frm where
  h0 : Hp
  w : List Addr
  b : List Addr
  v : List Addr
  g : List (V × PyData)
abbrev Frm.m (F : Frm) : List Addr := F.v ++ F.b
def HandOk (cs : List Int) (i g t : Int) : Prop := (∀ x ∈ cs, 0 ≤ x) ∧ cs.length ≤ 63 ∧ 0 ≤ i ∧ i ≤ cs.length ∧ 0 ≤ g ∧ 0 ≤ t ∧ t < 2147483563
inductive MO where
  | lst (ds : List PyData)
  | hand
  | dk (I : Int → PyData → Prop) (n : Nat)
  | ins (dx : Addr) (fs : List (Str × V))
def MoAt (C : Addr) (M : List Addr) (H : Hp) (p : Addr) : MO → Prop
  | .lst ds => ∃ xs, H p = some (.lst xs) ∧ DtA C (wo M H) xs ds
  | .hand => ∃ (c : Addr) (cs : List Int) (i g t : Int), H p = some (.lst [.ref c, .int i, .int g, .int t]) ∧ wo M H c = some (.lst (cs.map V.int)) ∧ HandOk cs i g t
  | .dk I n => ∃ ys : List (Key × V), H p = some (.dK ys) ∧ ys.length ≤ n ∧ ∀ kv ∈ ys, ∃ a d, kv.1 = Sum.inl a ∧ Dt C (wo M H) kv.2 d ∧ I a d
  | .ins dx fs => H p = some (.ins C dx fs)
theorem paired_map {α β : Type} {F G : α → β → Prop} : ∀ {l : List α} {m : List β}, Paired F l m → (∀ a b, a ∈ l → F a b → G a b) → Paired G l m
  | _, _, .nil, _ => .nil
  | _, _, .cons r t, f => .cons (f _ _ List.mem_cons_self r) (paired_map t fun a b h => f a b (List.mem_cons_of_mem _ h))
theorem paired_get {α β : Type} {F : α → β → Prop} : ∀ {l : List α} {m : List β} {i : Nat} {b : β}, Paired F l m → m[i]? = some b → ∃ a, l[i]? = some a ∧ F a b
  | _, _, _, _, .nil, h => by simp at h
  | _, _, 0, _, .cons r _, h => by
    simp at h; subst h; exact ⟨_, rfl, r⟩
  | _, _, i + 1, _, .cons _ t, h => by
    obtain ⟨a, h1, h2⟩ := paired_get (i := i) t (by simpa using h)
    exact ⟨a, by simpa using h1, h2⟩
theorem paired_both {α β : Type} {F : α → β → Prop} : ∀ {l : List α} {m : List β} {i : Nat} {a : α} {b : β}, Paired F l m → l[i]? = some a → m[i]? = some b → F a b
  | _, _, _, _, _, .nil, h, _ => by simp at h
  | _, _, 0, _, _, .cons r _, h, k => by
    simp at h k; subst h; subst k; exact r
  | _, _, i + 1, _, _, .cons _ t, h, k => paired_both (i := i) t (by simpa using h) (by simpa using k)
theorem paired_set {α β : Type} {F : α → β → Prop} {a : α} {b : β} (h : F a b) : ∀ {l : List α} {m : List β} (i : Nat), Paired F l m → Paired F (l.set i a) (m.set i b)
  | _, _, _, .nil => .nil
  | _, _, 0, .cons _ t => .cons h t
  | _, _, i + 1, .cons r t => .cons r (paired_set h i t)
theorem MoAt.lift {C : Addr} {M M' : List Addr} {H H' : Hp} {p : Addr} (k : ∀ o, H p = some o → H' p = some o) (e : Ex (wo M H) (wo M' H')) : ∀ {mo : MO}, MoAt C M H p mo → MoAt C M' H' p mo
  | .lst _, ⟨xs, h, a⟩ => ⟨xs, k _ h, a.mono e⟩
  | .hand, ⟨c, cs, i, g, t, h, a, q⟩ => ⟨c, cs, i, g, t, k _ h, e _ _ a, q⟩
  | .dk _ _, ⟨ys, h, l, a⟩ => ⟨ys, k _ h, l, fun kv hk => let ⟨x, d, h1, h2, h3⟩ := a kv hk; ⟨x, d, h1, h2.mono e, h3⟩⟩
  | .ins _ _, h => k _ h
theorem MoAt.there {C : Addr} {M : List Addr} {H : Hp} {p : Addr} : ∀ {mo : MO}, MoAt C M H p mo → H p ≠ none
  | .lst _, ⟨xs, h, a⟩, z => by rw [h] at z; cases z
  | .hand, ⟨c, cs, i, g, t, h, a, q⟩, z => by rw [h] at z; cases z
  | .dk _ _, ⟨ys, h, _, a⟩, z => by rw [h] at z; cases z
  | .ins _ _, h, z => by
    have h' : H p = some _ := h
    rw [h'] at z; cases z

inductive SV where
  | un
  | d (x : PyData)
  | m (k : Nat)
def SlotOk (C : Addr) (F : Frm) (H : Hp) : Option V → SV → Prop
  | _, .un => True
  | some v, .d x => Dt C (wo F.m H) v x
  | some v, .m k => ∃ p, F.v[k]? = some p ∧ v = .ref p
  | none, _ => False
structure Sat (C : Addr) (F : Frm) (μ : List MO) (ρ : List SV) (σ : St) (H : Hp) : Prop where
  nd : F.v.Nodup
  al : ∀ a ∈ F.m, H a ≠ none
  mu : Paired (MoAt C F.m H) F.v μ
  sl : Paired (SlotOk C F H) σ ρ
  fr : ∀ a o, F.h0 a = some o → a ∉ F.w → H a = some o
  wv : ∀ a ∈ F.w, a ∈ F.v
  lc : ∀ a ∈ F.v, a ∈ F.w ∨ F.h0 a = none
  dj : ∀ a ∈ F.v, a ∈ F.b → a ∈ F.w
  gh : ∀ g ∈ F.g, Dt C (wo F.m H) g.1 g.2
theorem SlotOk.lift {C : Addr} {F F' : Frm} {H H' : Hp} (e : Ex (wo F.m H) (wo F'.m H')) (hv : ∀ (k : Nat) (p : Addr), F.v[k]? = some p → F'.v[k]? = some p) : ∀ {o : Option V} {sv : SV}, SlotOk C F H o sv → SlotOk C F' H' o sv
  | _, .un, _ => by cases ‹Option V› <;> trivial
  | some v, .d x, h => Dt.mono e h
  | some v, .m k, ⟨p, h, q⟩ => ⟨p, hv _ _ h, q⟩
  | none, .d x, h => h.elim
  | none, .m k, h => h.elim
section
variable {C : Addr} {F : Frm} {μ : List MO} {ρ : List SV} {σ : St} {H H' : Hp}
theorem Sat.ext (S : Sat C F μ ρ σ H) (e : Ex H H') : Sat C F μ ρ σ H' :=
  have ew : Ex (wo F.m H) (wo F.m H') := (e.b (V := [])).wo (by simp)
  ⟨S.nd, al_ex S.al e, paired_map S.mu fun a _ _ h => h.lift (fun o q => e _ _ q) ew, paired_map S.sl fun _ _ _ h => h.lift ew fun _ _ q => q, fun a o q n => e a o (S.fr a o q n), S.wv, S.lc, S.dj, fun g hg => (S.gh g hg).mono ew⟩
theorem Sat.kn {v : V} {d : PyData} (S : Sat C F μ ρ σ H) (e : ExB F.v H H') (h : Dt C (wo F.m H) v d) : Dt C (wo F.m H') v d := h.mono (e.wo fun a z => List.mem_append_left _ z)
theorem Sat.get {i : Nat} {x : PyData} (S : Sat C F μ ρ σ H) (h : ρ[i]? = some (.d x)) : ∃ v, σ[i]? = some (some v) ∧ Dt C (wo F.m H) v x := by
  obtain ⟨o, h1, h2⟩ := paired_get S.sl h
  cases o with
  | none => exact h2.elim
  | some v => exact ⟨v, h1, h2⟩
theorem Sat.getm {i k : Nat} (S : Sat C F μ ρ σ H) (h : ρ[i]? = some (.m k)) : ∃ p, σ[i]? = some (some (.ref p)) ∧ F.v[k]? = some p := by
  obtain ⟨o, h1, h2⟩ := paired_get S.sl h
  cases o with
  | none => exact h2.elim
  | some v =>
    obtain ⟨p, h3, rfl⟩ := h2
    exact ⟨p, h1, h3⟩
theorem Sat.mo {k : Nat} {p : Addr} {o : MO} (S : Sat C F μ ρ σ H) (h1 : F.v[k]? = some p) (h2 : μ[k]? = some o) : MoAt C F.m H p o := paired_both S.mu h1 h2
theorem Sat.set {i : Nat} {o : Option V} {sv : SV} (S : Sat C F μ ρ σ H) (h : SlotOk C F H o sv) : Sat C F μ (ρ.set i sv) (σ.set i o) H :=
  ⟨S.nd, S.al, S.mu, paired_set h i S.sl, S.fr, S.wv, S.lc, S.dj, S.gh⟩
theorem Sat.setd {i : Nat} {v : V} {x : PyData} (S : Sat C F μ ρ σ H) (h : Dt C (wo F.m H) v x) : Sat C F μ (ρ.set i (.d x)) (σ.set i (some v)) H := S.set h
theorem Sat.forget {i : Nat} (S : Sat C F μ ρ σ H) : Sat C F μ (ρ.set i .un) σ H := by
  refine ⟨S.nd, S.al, S.mu, ?_, S.fr, S.wv, S.lc, S.dj, S.gh⟩
  have := S.sl
  clear S
  induction this generalizing i with
  | nil => exact .nil
  | cons r t ih =>
    cases i with
    | zero =>
      refine .cons ?_ t
      rename_i a b l m
      cases a <;> trivial
    | succ i => exact .cons r ih
theorem Sat.mem {k : Nat} {p : Addr} (S : Sat C F μ ρ σ H) (h : F.v[k]? = some p) : p ∈ F.v := List.mem_of_getElem? h
theorem Sat.fresh0 {p : Addr} (S : Sat C F μ ρ σ H) (h : H p = none) : F.h0 p = none := by
  cases q : F.h0 p with
  | none => rfl
  | some o =>
    by_cases hw : p ∈ F.w
    · exact absurd h (S.al p (List.mem_append_left _ (S.wv p hw)))
    · rw [S.fr p o q hw] at h; cases h
theorem Sat.fresh {p : Addr} (S : Sat C F μ ρ σ H) (h : H p = none) : p ∉ F.m := fun z => S.al p z h
/-- the slots as they were -/
theorem Sat.join {ρ' : List SV} {σ' : St} (S : Sat C F μ ρ σ H) (S' : Sat C F μ ρ' σ' H') (e : ExB F.v H H') : Sat C F μ ρ σ H' :=
  ⟨S'.nd, S'.al, S'.mu, paired_map S.sl fun _ _ _ q => q.lift (e.wo fun a z => List.mem_append_left _ z) fun _ _ z => z, S'.fr, S'.wv, S'.lc, S'.dj, S'.gh⟩
/-- a list that is kept track of changes -/
theorem Sat.put {k : Nat} {p : Addr} {o : HO} {mo : MO} (S : Sat C F μ ρ σ H) (h : F.v[k]? = some p) (hm : MoAt C F.m (upd H p o) p mo) : Sat C F (μ.set k mo) ρ σ (upd H p o) := by
  have hp := S.mem h
  have hpm : p ∈ F.m := List.mem_append_left _ hp
  have ew : Ex (wo F.m H) (wo F.m (upd H p o)) := by rw [wo_upd hpm]; exact Ex.refl _
  refine ⟨S.nd, fun a ha => ?_, ?_, paired_map S.sl fun _ _ _ q => q.lift ew fun _ _ z => z, fun a u q n => ?_, S.wv, S.lc, S.dj, fun g hg => (S.gh g hg).mono ew⟩
  · by_cases e : a = p
    · rw [e, upd_same]; intro z; cases z
    · rw [upd_ne e]; exact S.al a ha
  · have nd := S.nd
    have mu := S.mu
    revert hm
    generalize hM : F.m = M at *
    clear S
    intro hm
    have key : ∀ {l : List Addr} {m : List MO} {k : Nat}, l.Nodup → Paired (MoAt C M H) l m → l[k]? = some p → Paired (MoAt C M (upd H p o)) l (m.set k mo) := by
      intro l
      induction l with
      | nil => intro m k _ _ h; simp at h
      | cons a l ih =>
        intro m k nd pr h
        cases pr with
        | cons r t =>
          cases k with
          | zero =>
            simp at h
            subst h
            refine .cons hm (paired_map t fun b c hb z => z.lift (fun u q => ?_) ew)
            have : b ≠ a := fun e => (List.nodup_cons.mp nd).1 (e ▸ hb)
            rw [upd_ne this]; exact q
          | succ k =>
            have h' : l[k]? = some p := by simpa using h
            refine .cons (r.lift (fun u q => ?_) ew) (ih (List.nodup_cons.mp nd).2 t h')
            have : a ≠ p := fun e => (List.nodup_cons.mp nd).1 (e ▸ List.mem_of_getElem? h')
            rw [upd_ne this]; exact q
    exact key nd mu h
  · have e : a ≠ p := by
      rintro rfl
      rcases S.lc a hp with z | z
      · exact n z
      · rw [z] at q; cases q
    rw [upd_ne e]; exact S.fr a u q n
/-- a new list to be kept track of -/
theorem Sat.newm {p : Addr} {o : HO} {mo : MO} (S : Sat C F μ ρ σ H) (hp : H p = none) (hm : ∀ M, wo M (upd H p o) p = none → Ex (wo F.m H) (wo M (upd H p o)) → MoAt C M (upd H p o) p mo) :
    Sat C { F with v := F.v ++ [p] } (μ ++ [mo]) ρ σ (upd H p o) := by
  have npm := S.fresh hp
  have npv : p ∉ F.v := fun z => npm (List.mem_append_left _ z)
  have npb : p ∉ F.b := fun z => npm (List.mem_append_right _ z)
  have e : Ex H (upd H p o) := Ex.new hp
  have mm : ∀ a, a ∈ (F.v ++ [p]) ++ F.b ↔ a ∈ F.m ∨ a = p := fun a => by
    simp only [List.mem_append, List.mem_singleton]
    constructor
    · rintro ((z | z) | z)
      · exact .inl (.inl z)
      · exact .inr z
      · exact .inl (.inr z)
    · rintro ((z | z) | z)
      · exact .inl (.inl z)
      · exact .inr z
      · exact .inl (.inr z)
  have ew : Ex (wo F.m H) (wo ((F.v ++ [p]) ++ F.b) (upd H p o)) := fun a u q => by
    obtain ⟨n, q⟩ := wo_some q
    refine wo_mk (fun z => ?_) (e a u q)
    rcases (mm a).mp z with z | z
    · exact n z
    · rw [z, hp] at q; cases q
  refine ⟨?_, fun a ha => ?_, ?_, paired_map S.sl fun _ _ _ q => q.lift ew fun k a z => ?_, fun a u q n => e a u (S.fr a u q n), fun a ha => List.mem_append_left _ (S.wv a ha), fun a ha => ?_, fun a ha hb => ?_, fun g hg => (S.gh g hg).mono ew⟩
  · refine List.nodup_append.mpr ⟨S.nd, by simp, ?_⟩
    intro a ha b hb
    simp at hb
    subst hb
    rintro rfl
    exact npv ha
  · rcases (mm a).mp ha with z | z
    · exact al_ex S.al e a z
    · rw [z, upd_same]; intro z; cases z
  · refine Paired.snoc (paired_map S.mu fun a _ _ h => h.lift (fun u q => e _ _ q) ew) (hm _ (wo_in ((mm p).mpr (.inr rfl))) ew)
  · show (F.v ++ [p])[k]? = some a
    rw [List.getElem?_append_left (List.getElem?_eq_some_iff.mp z).1]; exact z
  · rcases List.mem_append.mp ha with z | z
    · exact S.lc a z
    · simp at z; subst z; exact .inr (S.fresh0 hp)
  · rcases List.mem_append.mp ha with z | z
    · exact S.dj a z hb
    · simp at z; subst z; exact absurd hb npb
/-- one's own last list is let go: it may be read as data from now on -/
theorem Sat.pop {p : Addr} {mo : MO} (S : Sat C { F with v := F.v ++ [p] } (μ ++ [mo]) ρ σ H) (hl : μ.length = F.v.length) (hw : ∀ a ∈ F.w, a ∈ F.v) (hρ : ∀ sv ∈ ρ, sv ≠ .m F.v.length) (hp : p ∉ F.w) : Sat C F μ ρ σ H ∧ p ∉ F.m ∧ MoAt C F.m H p mo := by
  have nd : (F.v ++ [p]).Nodup := S.nd
  have npv : p ∉ F.v := fun z => by
    have := (List.nodup_append.mp nd).2.2 p z p (by simp)
    exact this rfl
  have npb : p ∉ F.b := fun z => hp (S.dj p (by simp) z)
  have sub : ∀ a, a ∈ F.m → a ∈ (F.v ++ [p]) ++ F.b := fun a z => by
    rcases List.mem_append.mp z with z | z
    · exact List.mem_append_left _ (List.mem_append_left _ z)
    · exact List.mem_append_right _ z
  have ew : Ex (wo ((F.v ++ [p]) ++ F.b) H) (wo F.m H) := wo_anti sub
  have key : ∀ {l : List Addr} {m : List MO}, m.length = l.length → Paired (MoAt C ((F.v ++ [p]) ++ F.b) H) (l ++ [p]) (m ++ [mo]) → Paired (MoAt C F.m H) l m ∧ MoAt C F.m H p mo := by
    intro l
    induction l with
    | nil =>
      intro m hm pr
      cases m with
      | nil =>
        cases pr with
        | cons r t => exact ⟨.nil, r.lift (fun _ q => q) ew⟩
      | cons a m => simp at hm
    | cons a l ih =>
      intro m hm pr
      cases m with
      | nil => simp at hm
      | cons b m =>
        cases pr with
        | cons r t =>
          obtain ⟨h1, h2⟩ := ih (by simpa using hm) t
          exact ⟨.cons (r.lift (fun _ q => q) ew) h1, h2⟩
  obtain ⟨k1, k2⟩ := key hl S.mu
  refine ⟨⟨(List.nodup_append.mp nd).1, fun a ha => S.al a (sub a ha), k1, ?_, S.fr, hw, fun a ha => S.lc a (List.mem_append_left _ ha), fun a ha hb => S.dj a (List.mem_append_left _ ha) hb, fun g hg => (S.gh g hg).mono ew⟩, fun z => (List.mem_append.mp z).elim npv npb, k2⟩
  have sl := S.sl
  clear S k1 k2 key
  induction sl with
  | nil => exact .nil
  | @cons o sv l m r t ih =>
    refine .cons ?_ (ih fun sv h => hρ sv (List.mem_cons_of_mem _ h))
    cases sv with
    | un => cases o <;> trivial
    | d x =>
      cases o with
      | none => exact (show False from r).elim
      | some v => exact Dt.mono ew (show Dt C _ v x from r)
    | m k =>
      cases o with
      | none => exact (show False from r).elim
      | some v =>
        obtain ⟨q, h1, h2⟩ := (show ∃ q, (F.v ++ [p])[k]? = some q ∧ v = .ref q from r)
        have hk : k ≠ F.v.length := fun e => hρ (.m k) List.mem_cons_self (by rw [e])
        have hk2 : k < (F.v ++ [p]).length := (List.getElem?_eq_some_iff.mp h1).1
        have hk3 : k < F.v.length := by simp at hk2; omega
        rw [List.getElem?_append_left hk3] at h1
        exact ⟨q, h1, h2⟩
/-- data that stays known -/
theorem Sat.gadd {v : V} {d : PyData} (S : Sat C F μ ρ σ H) (h : Dt C (wo F.m H) v d) : Sat C { F with g := (v, d) :: F.g } μ ρ σ H :=
  ⟨S.nd, S.al, S.mu, paired_map S.sl fun _ _ _ q => SlotOk.lift (F := F) (F' := { F with g := (v, d) :: F.g }) (Ex.refl _) (fun _ _ z => z) q, S.fr, S.wv, S.lc, S.dj, fun g hg => (List.mem_cons.mp hg).elim (fun e => by rw [e]; exact h) (S.gh g)⟩
theorem Sat.gdrop {v : V} {d : PyData} (S : Sat C { F with g := (v, d) :: F.g } μ ρ σ H) : Sat C F μ ρ σ H :=
  ⟨S.nd, S.al, S.mu, paired_map S.sl fun _ _ _ q => SlotOk.lift (F := { F with g := (v, d) :: F.g }) (F' := F) (Ex.refl _) (fun _ _ z => z) q, S.fr, S.wv, S.lc, S.dj, fun g hg => S.gh g (List.mem_cons_of_mem _ hg)⟩
theorem Sat.ghd {v : V} {d : PyData} (S : Sat C { F with g := (v, d) :: F.g } μ ρ σ H) : Dt C (wo F.m H) v d := S.gh (v, d) List.mem_cons_self
/-- one more address that the data does not speak of: fresh as yet -/
theorem Sat.badd {p : Addr} {o : HO} (S : Sat C F μ ρ σ H) (hp : H p = none) : Sat C { F with b := p :: F.b } μ ρ σ (upd H p o) := by
  have npm := S.fresh hp
  have npv : p ∉ F.v := fun z => npm (List.mem_append_left _ z)
  have e : Ex H (upd H p o) := Ex.new hp
  have ew : Ex (wo F.m H) (wo (F.v ++ (p :: F.b)) (upd H p o)) := fun a u q => by
    obtain ⟨n, q⟩ := wo_some q
    refine wo_mk (fun z => ?_) (e a u q)
    rcases List.mem_append.mp z with z | z
    · exact n (List.mem_append_left _ z)
    · rcases List.mem_cons.mp z with z | z
      · rw [z, hp] at q; cases q
      · exact n (List.mem_append_right _ z)
  refine ⟨S.nd, fun a ha => ?_, paired_map S.mu fun a _ _ h => h.lift (fun u q => e _ _ q) ew, paired_map S.sl fun _ _ _ q => SlotOk.lift (F := F) (F' := { F with b := p :: F.b }) ew (fun _ _ z => z) q, fun a u q n => e a u (S.fr a u q n), S.wv, S.lc, fun a ha hb => ?_, fun g hg => (S.gh g hg).mono ew⟩
  · rcases List.mem_append.mp ha with z | z
    · exact al_ex S.al e a (List.mem_append_left _ z)
    · rcases List.mem_cons.mp z with z | z
      · rw [z, upd_same]; intro z; cases z
      · exact al_ex S.al e a (List.mem_append_right _ z)
  · rcases List.mem_cons.mp hb with z | z
    · rw [z] at ha; exact absurd ha npv
    · exact S.dj a ha z
/-- what stands at such an address changes -/
theorem Sat.bput {p : Addr} {o : HO} (S : Sat C F μ ρ σ H) (hb : p ∈ F.b) (hv : p ∉ F.v) (h0 : F.h0 p = none) : Sat C F μ ρ σ (upd H p o) := by
  have hpm : p ∈ F.m := List.mem_append_right _ hb
  have ew : Ex (wo F.m H) (wo F.m (upd H p o)) := by rw [wo_upd hpm]; exact Ex.refl _
  refine ⟨S.nd, fun a ha => ?_, paired_map S.mu fun a _ ha h => h.lift (fun u q => ?_) ew, paired_map S.sl fun _ _ _ q => q.lift ew fun _ _ z => z, fun a u q n => ?_, S.wv, S.lc, S.dj, fun g hg => (S.gh g hg).mono ew⟩
  · by_cases e : a = p
    · rw [e, upd_same]; intro z; cases z
    · rw [upd_ne e]; exact S.al a ha
  · have e : a ≠ p := fun e => hv (e ▸ ha)
    rw [upd_ne e]; exact q
  · have e : a ≠ p := fun e => by rw [e, h0] at q; cases q
    rw [upd_ne e]; exact S.fr a u q n
/-- .. and may be spoken of again -/
theorem Sat.bdrop {p : Addr} (S : Sat C { F with b := p :: F.b } μ ρ σ H) : Sat C F μ ρ σ H := by
  have sub : ∀ a, a ∈ F.m → a ∈ F.v ++ (p :: F.b) := fun a z => by
    rcases List.mem_append.mp z with z | z
    · exact List.mem_append_left _ z
    · exact List.mem_append_right _ (List.mem_cons_of_mem _ z)
  have ew : Ex (wo (F.v ++ (p :: F.b)) H) (wo F.m H) := wo_anti sub
  exact ⟨S.nd, fun a ha => S.al a (sub a ha), paired_map S.mu fun a _ _ h => h.lift (fun u q => q) ew, paired_map S.sl fun _ _ _ q => SlotOk.lift (F := { F with b := p :: F.b }) (F' := F) ew (fun _ _ z => z) q, S.fr, S.wv, S.lc, fun a ha hb => S.dj a ha (List.mem_cons_of_mem _ hb), fun g hg => (S.gh g hg).mono ew⟩
end
section
variable {C : Addr} {μ : List MO} {ρ : List SV} {σ : St} {H : Hp} {fh : Hp} {fw fb fv : List Addr} {fg : List (V × PyData)}
theorem Sat.gadd' {v : V} {d : PyData} (S : Sat C ⟨fh, fw, fb, fv, fg⟩ μ ρ σ H) (h : Dt C (wo (fv ++ fb) H) v d) : Sat C ⟨fh, fw, fb, fv, (v, d) :: fg⟩ μ ρ σ H := Sat.gadd S h
theorem Sat.gdrop' {v : V} {d : PyData} (S : Sat C ⟨fh, fw, fb, fv, (v, d) :: fg⟩ μ ρ σ H) : Sat C ⟨fh, fw, fb, fv, fg⟩ μ ρ σ H := Sat.gdrop (F := ⟨fh, fw, fb, fv, fg⟩) S
theorem Sat.ghd' {v : V} {d : PyData} (S : Sat C ⟨fh, fw, fb, fv, (v, d) :: fg⟩ μ ρ σ H) : Dt C (wo (fv ++ fb) H) v d := Sat.ghd (F := ⟨fh, fw, fb, fv, fg⟩) S
theorem Sat.pop' {p : Addr} {mo : MO} (S : Sat C ⟨fh, fw, fb, fv ++ [p], fg⟩ (μ ++ [mo]) ρ σ H) (hl : μ.length = fv.length) (hw : ∀ a ∈ fw, a ∈ fv) (hρ : ∀ sv ∈ ρ, sv ≠ .m fv.length) (hp : p ∉ fw) : Sat C ⟨fh, fw, fb, fv, fg⟩ μ ρ σ H ∧ p ∉ fv ++ fb ∧ MoAt C (fv ++ fb) H p mo :=
  Sat.pop (F := ⟨fh, fw, fb, fv, fg⟩) S hl hw hρ hp
theorem Sat.newm' {p : Addr} {o : HO} {mo : MO} (S : Sat C ⟨fh, fw, fb, fv, fg⟩ μ ρ σ H) (hp : H p = none) (hm : ∀ M, wo M (upd H p o) p = none → Ex (wo (fv ++ fb) H) (wo M (upd H p o)) → MoAt C M (upd H p o) p mo) :
    Sat C ⟨fh, fw, fb, fv ++ [p], fg⟩ (μ ++ [mo]) ρ σ (upd H p o) := Sat.newm S hp hm
/-- one's own last list is read as data from now on -/
theorem Sat.freeze {p : Addr} {ds : List PyData} {i : Nat} (S : Sat C ⟨fh, fw, fb, fv ++ [p], fg⟩ (μ ++ [.lst ds]) ρ σ H) (h1 : ρ[i]? = some (.m fv.length)) (hl : μ.length = fv.length) (hw : ∀ a ∈ fw, a ∈ fv) (hρ : ∀ sv ∈ ρ.set i .un, sv ≠ .m fv.length) (hp : p ∉ fw) :
    Sat C ⟨fh, fw, fb, fv, fg⟩ μ (ρ.set i (.d (.list ds))) σ H := by
  obtain ⟨q, hσ, hv⟩ := S.getm h1
  have e : q = p := by
    have hv' : (fv ++ [p])[fv.length]? = some q := hv
    simpa using hv'.symm
  subst e
  obtain ⟨S1, np, xs, hx, da⟩ := Sat.pop' (S.forget (i := i)) hl hw hρ hp
  have S2 := S1.setd (i := i) (v := .ref q) (x := .list ds) (.lst (wo_mk np hx) da)
  rw [List.set_set] at S2
  have eσ : σ.set i (some (.ref q)) = σ := by
    refine List.ext_getElem? fun j => ?_
    by_cases hj : i = j
    · subst hj
      rw [List.getElem?_set_self (List.getElem?_eq_some_iff.mp hσ).1, hσ]
    · rw [List.getElem?_set_ne hj]
  rw [eσ] at S2
  exact S2
end
end KG
namespace KG
open PySem PySem.Spec L2

/-! ### what evaluates to what -/
def JE (C : Addr) (μ : List MO) (ρ : List SV) (te : TE) (P : PyData → Prop) : Prop := ∀ F σ H, Sat C F μ ρ σ H → ∀ Q : VK, (∀ v H' d, P d → Sat C F μ ρ σ H' → ExB F.v H H' → Dt C (wo F.m H') v d → Q v H') → te σ H Q
def JT (C : Addr) (μ : List MO) (ρ : List SV) (tt : TT) (P : Bool → Prop) : Prop := ∀ F σ H, Sat C F μ ρ σ H → ∀ Q : Bool → Hp → Prop, (∀ H' b, P b → Sat C F μ ρ σ H' → ExB F.v H H' → Q b H') → tt σ H Q
def JA (C : Addr) (μ : List MO) (ρ : List SV) (ta : TA) (P : List PyData → Prop) : Prop := ∀ F σ H, Sat C F μ ρ σ H → ∀ Q : List V → Hp → Prop, (∀ vs H' ds, P ds → Sat C F μ ρ σ H' → ExB F.v H H' → DtA C (wo F.m H') vs ds → Q vs H') → ta σ H Q
def JO (C : Addr) (μ : List MO) (ρ : List SV) (to : TO) (o : Option Int) : Prop := ∀ F σ H, Sat C F μ ρ σ H → ∀ Q : Option Int → Hp → Prop, (∀ H', Sat C F μ ρ σ H' → ExB F.v H H' → Q o H') → to σ H Q
/-- operations by values -/
def RD (C : Addr) (r : R2) (x y : PyData) (P : PyData → Prop) : Prop := ∀ M H v u, (∀ a ∈ M, H a ≠ none) → Dt C (wo M H) v x → Dt C (wo M H) u y → ∀ Q : VK, (∀ w H' d, P d → Ex H H' → Dt C (wo M H') w d → Q w H') → r v u H Q
def UD (C : Addr) (r : V → Hp → VK → Prop) (x : PyData) (P : PyData → Prop) : Prop := ∀ M H v, (∀ a ∈ M, H a ≠ none) → Dt C (wo M H) v x → ∀ Q : VK, (∀ w H' d, P d → Ex H H' → Dt C (wo M H') w d → Q w H') → r v H Q
def CD (C : Addr) (r : List V → Hp → VK → Prop) (xs : List PyData) (P : PyData → Prop) : Prop := ∀ M H vs, (∀ a ∈ M, H a ≠ none) → DtA C (wo M H) vs xs → ∀ Q : VK, (∀ w H' d, P d → Ex H H' → Dt C (wo M H') w d → Q w H') → r vs H Q

section
variable {C : Addr} {μ : List MO} {ρ : List SV} {ta tb te tc : TE} {t u : TT} {P R S : PyData → Prop}
theorem JE.imp (h : JE C μ ρ te P) (k : ∀ d, P d → R d) : JE C μ ρ te R := fun F σ H S Q q => h F σ H S Q fun v H' d p => q v H' d (k d p)
theorem JE.eq {x y : PyData} (h : JE C μ ρ te (· = x)) (e : x = y) : JE C μ ρ te (· = y) := by rw [← e]; exact h
theorem JT.imp {P R : Bool → Prop} (h : JT C μ ρ t P) (k : ∀ d, P d → R d) : JT C μ ρ t R := fun F σ H S Q q => h F σ H S Q fun H' d p => q H' d (k d p)
theorem JT.eq {x y : Bool} (h : JT C μ ρ t (· = x)) (e : x = y) : JT C μ ρ t (· = y) := by rw [← e]; exact h
theorem je_var {i : Nat} {x : PyData} (h : ρ[i]? = some (.d x)) : JE C μ ρ (tVar i) (· = x) := fun F σ H S Q q => by
  obtain ⟨v, h1, h2⟩ := S.get h
  exact ⟨v, h1, q v H x rfl S (ExB.refl _ _) h2⟩
theorem je_int {i : Int} : JE C μ ρ (tC (.int i)) (· = .int i) := fun F σ H S Q q => q _ H _ rfl S (ExB.refl _ _) (.int i)
theorem je_str {i : Str} : JE C μ ρ (tC (.str i)) (· = .str i) := fun F σ H S Q q => q _ H _ rfl S (ExB.refl _ _) (.str i)
theorem je_bl {i : Bool} : JE C μ ρ (tC (.bl i)) (· = .bool i) := fun F σ H S Q q => q _ H _ rfl S (ExB.refl _ _) (.bl i)
theorem je_non : JE C μ ρ (tC .non) (· = .none) := fun F σ H S Q q => q _ H _ rfl S (ExB.refl _ _) .non
theorem jn_op {r : R2} (ha : JE C μ ρ ta P) (hb : JE C μ ρ tb R) (hr : ∀ x y, P x → R y → RD C r x y S) : JE C μ ρ (tOp r ta tb) S := fun F σ H s Q q =>
  ha F σ H s _ fun v H1 x px s1 e1 d1 => hb F σ H1 s1 _ fun w H2 y ry s2 e2 d2 => hr x y px ry F.m H2 v w s2.al (s1.kn e2 d1) d2 Q fun z H3 d pd e3 d3 =>
    q z H3 d pd (s2.ext e3) ((e1.trans e2).trans e3.b) d3
theorem je_op {r : R2} {x y z : PyData} (ha : JE C μ ρ ta (· = x)) (hb : JE C μ ρ tb (· = y)) (hr : RD C r x y (· = z)) : JE C μ ρ (tOp r ta tb) (· = z) := jn_op ha hb (by rintro _ _ rfl rfl; exact hr)
theorem jn_un {r : V → Hp → VK → Prop} (ha : JE C μ ρ ta P) (hr : ∀ x, P x → UD C r x S) : JE C μ ρ (tUn r ta) S := fun F σ H s Q q =>
  ha F σ H s _ fun v H1 x px s1 e1 d1 => hr x px F.m H1 v s1.al d1 Q fun z H3 d pd e3 d3 => q z H3 d pd (s1.ext e3) (e1.trans e3.b) d3
theorem je_un {r : V → Hp → VK → Prop} {x z : PyData} (ha : JE C μ ρ ta (· = x)) (hr : UD C r x (· = z)) : JE C μ ρ (tUn r ta) (· = z) := jn_un ha (by rintro _ rfl; exact hr)
theorem ja_nil : JA C μ ρ tNil (· = []) := fun F σ H S Q q => q [] H [] rfl S (ExB.refl _ _) .nil
theorem jn_cons {tr : TA} {R : List PyData → Prop} {S : List PyData → Prop} (ha : JE C μ ρ ta P) (hr : JA C μ ρ tr R) (k : ∀ x xs, P x → R xs → S (x :: xs)) : JA C μ ρ (tCons ta tr) S := fun F σ H s Q q =>
  ha F σ H s _ fun v H1 x px s1 e1 d1 => hr F σ H1 s1 _ fun vs H2 xs rx s2 e2 d2 => q (v :: vs) H2 (x :: xs) (k x xs px rx) s2 (e1.trans e2) (.cons (s1.kn e2 d1) d2)
theorem ja_cons {tr : TA} {x : PyData} {xs : List PyData} (ha : JE C μ ρ ta (· = x)) (hr : JA C μ ρ tr (· = xs)) : JA C μ ρ (tCons ta tr) (· = (x :: xs)) := jn_cons ha hr (by rintro _ _ rfl rfl; rfl)
theorem jn_tup {ta : TA} {P : List PyData → Prop} (h : JA C μ ρ ta P) (hl : ∀ ds, P ds → ds.length ≤ 1000) : JE C μ ρ (tTup ta) (fun d => ∃ ds, P ds ∧ d = .tuple ds) := fun F σ H s Q q =>
  h F σ H s _ fun vs H1 ds pd s1 e1 d1 => ⟨Nat.le_trans (by rw [d1.length]; exact hl ds pd) (by decide), fun p hp => q _ _ _ ⟨ds, pd, rfl⟩ (s1.ext (.new hp)) (e1.trans (Ex.new hp).b) (dt_newT s1.al hp d1)⟩
theorem je_tup {ta : TA} {ds : List PyData} (h : JA C μ ρ ta (· = ds)) (hl : ds.length ≤ 1000 := by first | simp | decide) : JE C μ ρ (tTup ta) (· = .tuple ds) := (jn_tup h (by rintro _ rfl; exact hl)).imp (by rintro _ ⟨_, rfl, rfl⟩; rfl)
theorem jn_lst {ta : TA} {P : List PyData → Prop} (h : JA C μ ρ ta P) (hl : ∀ ds, P ds → ds.length ≤ 1000) : JE C μ ρ (tLst ta) (fun d => ∃ ds, P ds ∧ d = .list ds) := fun F σ H s Q q =>
  h F σ H s _ fun vs H1 ds pd s1 e1 d1 => ⟨Nat.le_trans (by rw [d1.length]; exact hl ds pd) (by decide), fun p hp => q _ _ _ ⟨ds, pd, rfl⟩ (s1.ext (.new hp)) (e1.trans (Ex.new hp).b) (dt_newL s1.al hp d1)⟩
theorem je_lst {ta : TA} {ds : List PyData} (h : JA C μ ρ ta (· = ds)) (hl : ds.length ≤ 1000 := by first | simp | decide) : JE C μ ρ (tLst ta) (· = .list ds) := (jn_lst h (by rintro _ rfl; exact hl)).imp (by rintro _ ⟨_, rfl, rfl⟩; rfl)
theorem jn_cb {r : List V → Hp → VK → Prop} {ta : TA} {P : List PyData → Prop} (h : JA C μ ρ ta P) (hr : ∀ xs, P xs → CD C r xs S) : JE C μ ρ (tCB r ta) S := fun F σ H s Q q =>
  h F σ H s _ fun vs H1 ds pd s1 e1 d1 => hr ds pd F.m H1 vs s1.al d1 Q fun z H3 d pd e3 d3 => q z H3 d pd (s1.ext e3) (e1.trans e3.b) d3
theorem je_cb {r : List V → Hp → VK → Prop} {ta : TA} {xs : List PyData} (h : JA C μ ρ ta (· = xs)) (hr : CD C r xs S) : JE C μ ρ (tCB r ta) S := jn_cb h (by rintro _ rfl; exact hr)
/-! tests -/
theorem jn_B {P : PyData → Prop} {S : Bool → Prop} (h : JE C μ ρ te P) (k : ∀ x, P x → ∃ b, x = .bool b ∧ S b) : JT C μ ρ (tB te) S := fun F σ H s Q q =>
  h F σ H s _ fun v H1 x px s1 e1 d1 => by
    obtain ⟨b, rfl, hb⟩ := k x px
    exact ⟨b, d1.blE, q H1 b hb s1 e1⟩
theorem jt_B {b : Bool} (h : JE C μ ρ te (· = .bool b)) : JT C μ ρ (tB te) (· = b) := jn_B h (by rintro _ rfl; exact ⟨b, rfl, rfl⟩)
theorem jn_test {P : PyData → Prop} {S : Bool → Prop} (h : JE C μ ρ te P) (k : ∀ x, P x → ∃ b, x = .bool b ∧ S b) : JT C μ ρ (tTest te) S := fun F σ H s Q q =>
  h F σ H s _ fun v H1 x px s1 e1 d1 => by
    obtain ⟨b, rfl, hb⟩ := k x px
    exact ⟨b, d1.blE, q H1 b hb s1 e1⟩
theorem jt_test {b : Bool} (h : JE C μ ρ te (· = .bool b)) : JT C μ ρ (tTest te) (· = b) := jn_test h (by rintro _ rfl; exact ⟨b, rfl, rfl⟩)
theorem jn_and {P R S : Bool → Prop} (h : JT C μ ρ t P) (k : P true → JT C μ ρ u R) (kt : P true → ∀ b, R b → S b) (kf : P false → S false) : JT C μ ρ (tAnd t u) S := fun F σ H s Q q =>
  h F σ H s _ fun H1 b pb s1 e1 => by
    cases b with
    | true => exact (k pb) F σ H1 s1 _ fun H2 c rc s2 e2 => q H2 c (kt pb c rc) s2 (e1.trans e2)
    | false => exact q H1 false (kf pb) s1 e1
theorem jt_and {a b : Bool} (h : JT C μ ρ t (· = a)) (k : a = true → JT C μ ρ u (· = b)) : JT C μ ρ (tAnd t u) (· = (a && b)) := jn_and h (fun e => k e.symm) (by rintro rfl _ rfl; rfl) (by rintro rfl; rfl)
theorem jn_or {P R S : Bool → Prop} (h : JT C μ ρ t P) (k : P false → JT C μ ρ u R) (kf : P false → ∀ b, R b → S b) (kt : P true → S true) : JT C μ ρ (tOr t u) S := fun F σ H s Q q =>
  h F σ H s _ fun H1 b pb s1 e1 => by
    cases b with
    | false => exact (k pb) F σ H1 s1 _ fun H2 c rc s2 e2 => q H2 c (kf pb c rc) s2 (e1.trans e2)
    | true => exact q H1 true (kt pb) s1 e1
theorem jt_or {a b : Bool} (h : JT C μ ρ t (· = a)) (k : a = false → JT C μ ρ u (· = b)) : JT C μ ρ (tOr t u) (· = (a || b)) := jn_or h (fun e => k e.symm) (by rintro rfl _ rfl; rfl) (by rintro rfl; rfl)
theorem jt_not {a : Bool} (h : JT C μ ρ t (· = a)) : JT C μ ρ (tNot t) (· = !a) := fun F σ H s Q q => h F σ H s _ fun H1 b pb s1 e1 => q H1 _ (by rw [pb]) s1 e1
theorem je_andV {a b : Bool} (h : JE C μ ρ ta (· = .bool a)) (k : a = true → JE C μ ρ tb (· = .bool b)) : JE C μ ρ (tAndV ta tb) (· = .bool (a && b)) := fun F σ H s Q q =>
  h F σ H s _ fun v H1 x px s1 e1 d1 => by
    subst px
    refine ⟨a, d1.blE, ?_⟩
    cases a with
    | true => exact (k rfl) F σ H1 s1 _ fun w H2 y py s2 e2 d2 => q w H2 y py s2 (e1.trans e2) d2
    | false => exact q _ H1 _ rfl s1 e1 (.bl false)
theorem je_orV {a b : Bool} (h : JE C μ ρ ta (· = .bool a)) (k : a = false → JE C μ ρ tb (· = .bool b)) : JE C μ ρ (tOrV ta tb) (· = .bool (a || b)) := fun F σ H s Q q =>
  h F σ H s _ fun v H1 x px s1 e1 d1 => by
    subst px
    refine ⟨a, d1.blE, ?_⟩
    cases a with
    | false => exact (k rfl) F σ H1 s1 _ fun w H2 y py s2 e2 d2 => q w H2 y py s2 (e1.trans e2) d2
    | true => exact q _ H1 _ rfl s1 e1 (.bl true)
theorem je_notV {a : Bool} (h : JE C μ ρ ta (· = .bool a)) : JE C μ ρ (tNotV ta) (· = .bool !a) := fun F σ H s Q q =>
  h F σ H s _ fun v H1 x px s1 e1 d1 => by
    subst px
    exact ⟨a, d1.blE, q _ H1 _ rfl s1 e1 (.bl _)⟩
theorem jn_if {P : Bool → Prop} (h : JT C μ ρ t P) (h1 : P true → JE C μ ρ ta S) (h2 : P false → JE C μ ρ tb S) : JE C μ ρ (tIf t ta tb) S := fun F σ H s Q q =>
  h F σ H s _ fun H1 b pb s1 e1 => by
    cases b with
    | true => exact (h1 pb) F σ H1 s1 _ fun w H2 y py s2 e2 d2 => q w H2 y py s2 (e1.trans e2) d2
    | false => exact (h2 pb) F σ H1 s1 _ fun w H2 y py s2 e2 d2 => q w H2 y py s2 (e1.trans e2) d2
theorem je_if {b : Bool} {x y : PyData} (h : JT C μ ρ t (· = b)) (h1 : b = true → JE C μ ρ ta (· = x)) (h2 : b = false → JE C μ ρ tb (· = y)) : JE C μ ρ (tIf t ta tb) (· = if b then x else y) :=
  jn_if h (fun e => (h1 e.symm).eq (by rw [← e]; rfl)) (fun e => (h2 e.symm).eq (by rw [← e]; rfl))
/-! values of operations -/
theorem rd_I0 {g : Int → Int → V} {i j : Int} {z : PyData} (hz : ∀ G, Dt C G (g i j) z) : RD C (rI0 g) (.int i) (.int j) (· = z) := fun M H v u al h1 h2 Q q => ⟨i, j, h1.intE, h2.intE, q _ H z rfl (Ex.refl H) (hz _)⟩
theorem rd_I {c : Int → Int → Prop} {g : Int → Int → V} {i j : Int} {z : PyData} (hc : c i j) (hz : ∀ G, Dt C G (g i j) z) : RD C (rI c g) (.int i) (.int j) (· = z) := fun M H v u al h1 h2 Q q => ⟨i, j, h1.intE, h2.intE, hc, q _ H z rfl (Ex.refl H) (hz _)⟩
theorem rd_add {i j : Int} : RD C (rI0 fun i j => .int (i + j)) (.int i) (.int j) (· = .int (i + j)) := rd_I0 fun _ => .int _
theorem rd_sub {i j : Int} : RD C (rI0 fun i j => .int (i - j)) (.int i) (.int j) (· = .int (i - j)) := rd_I0 fun _ => .int _
theorem rd_lt {i j : Int} : RD C (rI0 fun i j => .bl (decide (i < j))) (.int i) (.int j) (· = .bool (decide (i < j))) := rd_I0 fun _ => .bl _
theorem rd_le {i j : Int} : RD C (rI0 fun i j => .bl (decide (i ≤ j))) (.int i) (.int j) (· = .bool (decide (i ≤ j))) := rd_I0 fun _ => .bl _
theorem rd_gt {i j : Int} : RD C (rI0 fun i j => .bl (decide (j < i))) (.int i) (.int j) (· = .bool (decide (j < i))) := rd_I0 fun _ => .bl _
theorem rd_ge {i j : Int} : RD C (rI0 fun i j => .bl (decide (j ≤ i))) (.int i) (.int j) (· = .bool (decide (j ≤ i))) := rd_I0 fun _ => .bl _
theorem rd_mul {i j : Int} (h : CMul i j) : RD C (rI CMul fun i j => .int (i * j)) (.int i) (.int j) (· = .int (i * j)) := rd_I h fun _ => .int _
theorem rd_fdiv {i j : Int} (h : CDiv i j) : RD C (rI CDiv fun i j => .int (i / j)) (.int i) (.int j) (· = .int (i / j)) := rd_I h fun _ => .int _
theorem rd_mod {i j : Int} (h : 0 < j) : RD C (rI (fun _ j => 0 < j) fun i j => .int (i % j)) (.int i) (.int j) (· = .int (i % j)) := rd_I h fun _ => .int _
theorem rd_pow {i j : Int} (h : CPow i j) : RD C (rI CPow fun i j => .int (i ^ j.toNat)) (.int i) (.int j) (· = .int (i ^ j.toNat)) := rd_I h fun _ => .int _
theorem ud_neg {i : Int} : UD C (rU fun i => .int (-i)) (.int i) (· = .int (-i)) := fun M H v al h Q q => ⟨i, h.intE, q _ H _ rfl (Ex.refl H) (.int _)⟩
theorem rd_eqS {x y : Str} : RD C rEq (.str x) (.str y) (· = .bool (decide (x = y))) := fun M H v u al h1 h2 Q q => by
  rw [h1.strE, h2.strE]
  refine ⟨rfl, ?_⟩
  have e : decide (V.str x = V.str y) = decide (x = y) := by by_cases h : x = y <;> simp [h]
  rw [e]
  exact q _ H _ rfl (Ex.refl H) (.bl _)
theorem rd_neS {x y : Str} : RD C rNe (.str x) (.str y) (· = .bool (!decide (x = y))) := fun M H v u al h1 h2 Q q => by
  rw [h1.strE, h2.strE]
  refine ⟨rfl, ?_⟩
  have e : decide (V.str x = V.str y) = decide (x = y) := by by_cases h : x = y <;> simp [h]
  rw [e]
  exact q _ H _ rfl (Ex.refl H) (.bl _)
theorem rd_eqI {x y : Int} : RD C rEq (.int x) (.int y) (· = .bool (decide (x = y))) := fun M H v u al h1 h2 Q q => by
  rw [h1.intE, h2.intE]
  refine ⟨rfl, ?_⟩
  have e : decide (V.int x = V.int y) = decide (x = y) := by by_cases h : x = y <;> simp [h]
  rw [e]
  exact q _ H _ rfl (Ex.refl H) (.bl _)
theorem rd_neI {x y : Int} : RD C rNe (.int x) (.int y) (· = .bool (!decide (x = y))) := fun M H v u al h1 h2 Q q => by
  rw [h1.intE, h2.intE]
  refine ⟨rfl, ?_⟩
  have e : decide (V.int x = V.int y) = decide (x = y) := by by_cases h : x = y <;> simp [h]
  rw [e]
  exact q _ H _ rfl (Ex.refl H) (.bl _)
theorem rd_neB {x y : Bool} : RD C rNe (.bool x) (.bool y) (· = .bool (!decide (x = y))) := fun M H v u al h1 h2 Q q => by
  rw [h1.blE, h2.blE]
  refine ⟨rfl, ?_⟩
  have e : decide (V.bl x = V.bl y) = decide (x = y) := by by_cases h : x = y <;> simp [h]
  rw [e]
  exact q _ H _ rfl (Ex.refl H) (.bl _)
theorem wo_dp {K : PySem.W.Frag} {M : List Addr} {H : Hp} {v : V} {d : PyData} (h : Dt C (wo M H) v d) (q : d.canLay0 = true) : Dp K H v d := (h.mono fun a o z => (wo_some z).2).dp q
theorem rd_eqD {K : PySem.W.Frag} {x y : PyData} (hx : SeqAt.shaped x = true) (hy : SeqAt.shaped y = true) : RD C (rEqD K) x y (· = .bool (PyData.eqv x y)) := fun M H v u al h1 h2 Q q =>
  ⟨x, y, wo_dp h1 (SeqAt.canLay_of_shaped hx), wo_dp h2 (SeqAt.canLay_of_shaped hy), hx, hy, q _ H _ rfl (Ex.refl H) (.bl _)⟩
theorem rd_neD {K : PySem.W.Frag} {x y : PyData} (hx : SeqAt.shaped x = true) (hy : SeqAt.shaped y = true) : RD C (rNeD K) x y (· = .bool (!PyData.eqv x y)) := fun M H v u al h1 h2 Q q =>
  ⟨x, y, wo_dp h1 (SeqAt.canLay_of_shaped hx), wo_dp h2 (SeqAt.canLay_of_shaped hy), hx, hy, q _ H _ rfl (Ex.refl H) (.bl _)⟩
theorem ix_at {α : Type} {xs : List α} {n : Nat} {a : α} (h : xs[n]? = some a) : atI xs (n : Int) = some a := by
  have hl : n < xs.length := (List.getElem?_eq_some_iff.mp h).1
  unfold atI ixN
  rw [if_pos (by omega), if_pos (by omega)]
  simpa using h
theorem rd_ixT {K : PySem.W.Frag} {ds : List PyData} {n : Nat} {d : PyData} (h : ds[n]? = some d) : RD C (rIxT K) (.tuple ds) (.int (n : Int)) (· = d) := fun M H v u al h1 h2 Q q => by
  obtain ⟨a, xs, rfl, hx, da⟩ := h1.tupE
  obtain ⟨w, hw, dw⟩ := da.get h
  exact ⟨a, xs, _, w, rfl, h2.intE, SqT.of (wo_some hx).2, ix_at hw, q w H d rfl (Ex.refl H) dw⟩
theorem rd_ixL {K : PySem.W.Frag} {ds : List PyData} {n : Nat} {d : PyData} (h : ds[n]? = some d) : RD C (rIxL K) (.list ds) (.int (n : Int)) (· = d) := fun M H v u al h1 h2 Q q => by
  obtain ⟨a, xs, rfl, hx, da⟩ := h1.lstE
  obtain ⟨w, hw, dw⟩ := da.get h
  exact ⟨a, xs, _, w, rfl, h2.intE, SqL.of (wo_some hx).2, ix_at hw, q w H d rfl (Ex.refl H) dw⟩
/-- a list or a tuple -/
def sqD : PyData → Option (List PyData)
  | .list ds => some ds
  | .tuple ds => some ds
  | _ => none
theorem rd_ix {K : PySem.W.Frag} {x : PyData} {ds : List PyData} {n : Nat} {d : PyData} (hx : sqD x = some ds) (h : ds[n]? = some d) : RD C (rIx K) x (.int (n : Int)) (· = d) := fun M H v u al h1 h2 Q q => by
  cases x with
  | list es => cases hx; exact .inl (rd_ixL h M H v u al h1 h2 Q q)
  | tuple es => cases hx; exact .inr (.inl (rd_ixT h M H v u al h1 h2 Q q))
  | none => cases hx
  | bool => cases hx
  | int => cases hx
  | str => cases hx
  | dict => cases hx
/-- len -/
theorem cd_len {K : PySem.W.Frag} {x : PyData} {ds : List PyData} (hx : sqD x = some ds) : CD C (fun xs H Q => ∃ p ys, xs = [.ref p] ∧ (SqL K H p ys ∨ SqT K H p ys) ∧ Q (.int ys.length) H) [x] (· = .int (ds.length : Int)) := fun M H vs al h Q q => by
  cases h with
  | cons h1 hn =>
    cases hn
    cases x with
    | list es =>
      cases hx
      obtain ⟨a, xs, rfl, hx, da⟩ := h1.lstE
      exact ⟨a, xs, rfl, .inl (SqL.of (wo_some hx).2), q _ H _ rfl (Ex.refl H) (by rw [da.length]; exact .int _)⟩
    | tuple es =>
      cases hx
      obtain ⟨a, xs, rfl, hx, da⟩ := h1.tupE
      exact ⟨a, xs, rfl, .inr (SqT.of (wo_some hx).2), q _ H _ rfl (Ex.refl H) (by rw [da.length]; exact .int _)⟩
    | none => cases hx
    | bool => cases hx
    | int => cases hx
    | str => cases hx
    | dict => cases hx
/-- tuple(..) of a list or a tuple, list(..) -/
theorem cd_tuple {K : PySem.W.Frag} {x : PyData} {ds : List PyData} (hx : sqD x = some ds) :
    CD C (fun xs H Q => ∃ p ys, xs = [.ref p] ∧ ((SqL K H p ys ∧ ∀ l, H l = none → Q (.ref l) (upd H l (.tup ys))) ∨ (SqT K H p ys ∧ Q (.ref p) H))) [x] (· = .tuple ds) := fun M H vs al h Q q => by
  cases h with
  | cons h1 hn =>
    cases hn
    cases x with
    | list es =>
      cases hx
      obtain ⟨a, xs, rfl, hx, da⟩ := h1.lstE
      exact ⟨a, xs, rfl, .inl ⟨SqL.of (wo_some hx).2, fun l hl => q _ _ _ rfl (.new hl) (dt_newT al hl da)⟩⟩
    | tuple es =>
      cases hx
      obtain ⟨a, xs, rfl, hx, da⟩ := id h1.tupE
      exact ⟨a, xs, rfl, .inr ⟨SqT.of (wo_some hx).2, q _ H _ rfl (Ex.refl H) h1⟩⟩
    | none => cases hx
    | bool => cases hx
    | int => cases hx
    | str => cases hx
    | dict => cases hx
theorem cd_list {K : PySem.W.Frag} {x : PyData} {ds : List PyData} (hx : sqD x = some ds) :
    CD C (fun xs H Q => ∃ p ys, xs = [.ref p] ∧ (SqL K H p ys ∨ SqT K H p ys) ∧ ∀ l, H l = none → Q (.ref l) (upd H l (.lst ys))) [x] (· = .list ds) := fun M H vs al h Q q => by
  cases h with
  | cons h1 hn =>
    cases hn
    cases x with
    | list es =>
      cases hx
      obtain ⟨a, xs, rfl, hx, da⟩ := h1.lstE
      exact ⟨a, xs, rfl, .inl (SqL.of (wo_some hx).2), fun l hl => q _ _ _ rfl (.new hl) (dt_newL al hl da)⟩
    | tuple es =>
      cases hx
      obtain ⟨a, xs, rfl, hx, da⟩ := id h1.tupE
      exact ⟨a, xs, rfl, .inr (SqT.of (wo_some hx).2), fun l hl => q _ _ _ rfl (.new hl) (dt_newL al hl da)⟩
    | none => cases hx
    | bool => cases hx
    | int => cases hx
    | str => cases hx
    | dict => cases hx
/-- int(..), abs, min, max -/
theorem cd_int {i : Int} : CD C (fun xs H Q => (∃ i, xs = [.int i] ∧ Q (.int i) H) ∨ ∃ k, xs = [.bl k] ∧ Q (.int (if k then 1 else 0)) H) [.int i] (· = .int i) := fun M H vs al h Q q => by
  cases h with
  | cons h1 hn =>
    cases hn
    exact .inl ⟨i, by rw [h1.intE], q _ H _ rfl (Ex.refl H) (.int i)⟩
theorem cd_abs {i : Int} : CD C (fun xs H Q => ∃ i, xs = [.int i] ∧ Q (.int (if i < 0 then -i else i)) H) [.int i] (· = .int (if i < 0 then -i else i)) := fun M H vs al h Q q => by
  cases h with
  | cons h1 hn =>
    cases hn
    exact ⟨i, by rw [h1.intE], q _ H _ rfl (Ex.refl H) (.int _)⟩
theorem cd_max2 {i j : Int} : CD C (fun xs H Q => ∃ i j, xs = [.int i, .int j] ∧ Q (.int (if j > i then j else i)) H) [.int i, .int j] (· = .int (if j > i then j else i)) := fun M H vs al h Q q => by
  cases h with
  | cons h1 hn =>
    cases hn with
    | cons h2 hn =>
      cases hn
      exact ⟨i, j, by rw [h1.intE, h2.intE], q _ H _ rfl (Ex.refl H) (.int _)⟩
theorem cd_min2 {i j : Int} : CD C (fun xs H Q => ∃ i j, xs = [.int i, .int j] ∧ Q (.int (if j < i then j else i)) H) [.int i, .int j] (· = .int (if j < i then j else i)) := fun M H vs al h Q q => by
  cases h with
  | cons h1 hn =>
    cases hn with
    | cons h2 hn =>
      cases hn
      exact ⟨i, j, by rw [h1.intE, h2.intE], q _ H _ rfl (Ex.refl H) (.int _)⟩
theorem cd_sum {K : PySem.W.Frag} {ns : List Int} : CD C (rSum K) [.list (ns.map .int)] (· = .int ns.sum) := fun M H vs al h Q q => by
  cases h with
  | cons h1 hn =>
    cases hn
    obtain ⟨a, xs, rfl, hx, da⟩ := h1.lstE
    rw [da.intsV] at hx
    exact ⟨a, ns, rfl, SqL.of (wo_some hx).2, q _ H _ rfl (Ex.refl H) (.int _)⟩
end
end KG
namespace KG
open PySem PySem.Spec L2

/-! ### slices, joins, in -/
def cutD {α : Type} (xs : List α) (lo hi : Option Int) : List α := (xs.drop (HT.sIx xs.length 0 lo)).take (HT.sIx xs.length xs.length hi - HT.sIx xs.length 0 lo)
section
variable {C : Addr} {μ : List MO} {ρ : List SV} {ta tb te tc : TE} {t u : TT} {P R S : PyData → Prop}
theorem DtA.cut {G : Hp} {vs : List V} {ds : List PyData} {lo hi : Option Int} (h : DtA C G vs ds) : DtA C G (cutV vs lo hi) (cutD ds lo hi) := by
  unfold cutV cutD
  rw [h.length]
  exact (h.drop _).take _
theorem cutD_len {α : Type} (xs : List α) (lo hi : Option Int) : (cutD xs lo hi).length ≤ xs.length := by
  unfold cutD; rw [List.length_take, List.length_drop]; omega
theorem jo_none : JO C μ ρ tNoPart none := fun F σ H s Q q => q H s (ExB.refl _ _)
theorem jo_some {i : Int} (h : JE C μ ρ te (· = .int i)) : JO C μ ρ (tPart te) (some i) := fun F σ H s Q q => h F σ H s _ fun v H1 d pd s1 e1 d1 => by
  subst pd
  exact ⟨i, d1.intE, q H1 s1 e1⟩
theorem je_slT {K : PySem.W.Frag} {ds : List PyData} {tl th : TO} {lo hi : Option Int} (h : JE C μ ρ te (· = .tuple ds)) (h1 : JO C μ ρ tl lo) (h2 : JO C μ ρ th hi) : JE C μ ρ (tSl (rSlA K) te tl th) (· = .tuple (cutD ds lo hi)) := fun F σ H s Q q =>
  h F σ H s _ fun v H1 d pd s1 e1 d1 => h1 F σ H1 s1 _ fun H2 s2 e2 => h2 F σ H2 s2 _ fun H3 s3 e3 => by
    subst pd
    have d3 := s2.kn e3 (s1.kn e2 d1)
    obtain ⟨a, xs, rfl, hx, da⟩ := id d3.tupE
    refine ⟨a, xs, rfl, SqT.of (wo_some hx).2, fun z => ?_, fun z p hp => ?_⟩
    · refine q _ _ _ rfl s3 ((e1.trans e2).trans e3) (.tup hx ?_)
      have e : cutD ds lo hi = ds := by
        unfold cutD
        rw [← da.length, z.1, z.2, List.drop_zero, Nat.sub_zero, List.take_of_length_le (by rw [da.length]; exact Nat.le_refl _)]
      rw [e]; exact da
    · exact q _ _ _ rfl (s3.ext (.new hp)) (((e1.trans e2).trans e3).trans (Ex.new hp).b) (dt_newT s3.al hp da.cut)
theorem je_slL {K : PySem.W.Frag} {ds : List PyData} {tl th : TO} {lo hi : Option Int} (h : JE C μ ρ te (· = .list ds)) (h1 : JO C μ ρ tl lo) (h2 : JO C μ ρ th hi) : JE C μ ρ (tSl (rSlL K) te tl th) (· = .list (cutD ds lo hi)) := fun F σ H s Q q =>
  h F σ H s _ fun v H1 d pd s1 e1 d1 => h1 F σ H1 s1 _ fun H2 s2 e2 => h2 F σ H2 s2 _ fun H3 s3 e3 => by
    subst pd
    obtain ⟨a, xs, rfl, hx, da⟩ := (s2.kn e3 (s1.kn e2 d1)).lstE
    exact ⟨a, xs, rfl, SqL.of (wo_some hx).2, fun p hp => q _ _ _ rfl (s3.ext (.new hp)) (((e1.trans e2).trans e3).trans (Ex.new hp).b) (dt_newL s3.al hp da.cut)⟩
theorem rd_catT {K : PySem.W.Frag} {ds es : List PyData} (hl : ds.length + es.length ≤ 10000) : RD C (rCatA K) (.tuple ds) (.tuple es) (· = .tuple (ds ++ es)) := fun M H v u al h1 h2 Q q => by
  obtain ⟨a, xs, rfl, hx, da⟩ := id h1.tupE
  obtain ⟨b, ys, rfl, hy, db⟩ := id h2.tupE
  refine ⟨a, b, xs, ys, rfl, rfl, SqT.of (wo_some hx).2, SqT.of (wo_some hy).2, Nat.le_trans (by rw [da.length, db.length]; exact hl) (by decide), fun e => ?_, fun _ e => ?_, fun _ _ p hp => q _ _ _ rfl (.new hp) (dt_newT al hp (da.app db))⟩
  · subst e
    cases da
    exact q _ H _ rfl (Ex.refl H) h2
  · subst e
    cases db
    rw [List.append_nil] at q
    exact q _ H _ rfl (Ex.refl H) h1
theorem rd_cat {ds es : List PyData} (hl : ds.length + es.length ≤ 10000) : RD C rCat (.list ds) (.list es) (· = .list (ds ++ es)) := fun M H v u al h1 h2 Q q => by
  obtain ⟨a, xs, rfl, hx, da⟩ := h1.lstE
  obtain ⟨b, ys, rfl, hy, db⟩ := h2.lstE
  exact ⟨a, b, xs, ys, rfl, rfl, (wo_some hx).2, (wo_some hy).2, Nat.le_trans (by rw [da.length, db.length]; exact hl) (by decide), fun p hp => q _ _ _ rfl (.new hp) (dt_newL al hp (da.app db))⟩
theorem rd_ltT {K : PySem.W.Frag} {ns ms : List Int} : RD C (rLtT K) (.tuple (ns.map .int)) (.tuple (ms.map .int)) (· = .bool (HT.lexLt ns ms)) := fun M H v u al h1 h2 Q q => by
  obtain ⟨a, xs, rfl, hx, da⟩ := h1.tupE
  obtain ⟨b, ys, rfl, hy, db⟩ := h2.tupE
  rw [da.intsV] at hx
  rw [db.intsV] at hy
  exact ⟨a, b, ns, ms, rfl, rfl, SqT.of (wo_some hx).2, SqT.of (wo_some hy).2, q _ H _ rfl (Ex.refl H) (.bl _)⟩
theorem DtA.strsV {G : Hp} : ∀ {vs : List V} {ns : List Str}, DtA C G vs (ns.map PyData.str) → vs = ns.map V.str
  | _, [], h => by
    have h' : DtA C G _ [] := h
    cases h'; rfl
  | _, n :: ns, h => by
    have h' : DtA C G _ (.str n :: ns.map PyData.str) := h
    cases h' with
    | cons a b =>
      cases a
      rw [DtA.strsV b]; rfl
theorem inV_str (x : Str) (ns : List Str) : inV (.str x) (ns.map V.str) = decide (x ∈ ns) := by
  unfold inV
  induction ns with
  | nil => rfl
  | cons n ns ih =>
    rw [List.map_cons, List.any_cons, ih]
    show ((n == x) || decide (x ∈ ns)) = decide (x ∈ n :: ns)
    by_cases h : x = n
    · subst h; simp
    · have h2 : ¬ n = x := fun e => h e.symm
      simp [h, h2]
theorem inV_int (x : Int) (ns : List Int) : inV (.int x) (ns.map V.int) = decide (x ∈ ns) := by
  unfold inV
  induction ns with
  | nil => rfl
  | cons n ns ih =>
    rw [List.map_cons, List.any_cons, ih]
    show ((n == x) || decide (x ∈ ns)) = decide (x ∈ n :: ns)
    by_cases h : x = n
    · subst h; simp
    · have h2 : ¬ n = x := fun e => h e.symm
      simp [h, h2]
theorem flat_str : ∀ ns : List Str, (ns.map V.str).all flatV = true
  | [] => rfl
  | n :: ns => by simp [flatV]
theorem flat_int : ∀ ns : List Int, (ns.map V.int).all flatV = true
  | [] => rfl
  | n :: ns => by simp [flatV]
theorem rd_inS {K : PySem.W.Frag} {neg : Bool} {x : Str} {ns : List Str} : RD C (rIn K neg) (.str x) (.tuple (ns.map .str)) (· = .bool (if neg then !decide (x ∈ ns) else decide (x ∈ ns))) := fun M H v u al h1 h2 Q q => by
  obtain ⟨b, ys, rfl, hy, db⟩ := h2.tupE
  rw [db.strsV] at hy
  rw [h1.strE]
  refine ⟨b, _, rfl, .inr (SqT.of (wo_some hy).2), rfl, flat_str ns, ?_⟩
  rw [inV_str]
  exact q _ H _ rfl (Ex.refl H) (.bl _)
theorem rd_inI {K : PySem.W.Frag} {neg : Bool} {x : Int} {ns : List Int} : RD C (rIn K neg) (.int x) (.tuple (ns.map .int)) (· = .bool (if neg then !decide (x ∈ ns) else decide (x ∈ ns))) := fun M H v u al h1 h2 Q q => by
  obtain ⟨b, ys, rfl, hy, db⟩ := h2.tupE
  rw [db.intsV] at hy
  rw [h1.intE]
  refine ⟨b, _, rfl, .inr (SqT.of (wo_some hy).2), rfl, flat_int ns, ?_⟩
  rw [inV_int]
  exact q _ H _ rfl (Ex.refl H) (.bl _)
/-! ### a Lot's attributes -/
theorem kCP : ¬ (("cells" : Str) = "programs") := by decide +kernel
theorem lotF_c (c : Int) (v : V) : (lotF c v).lookup ("cells" : Str) = some (.int c) := by
  unfold lotF
  rw [lookup_putF, if_neg kCP, lookup_putF, if_pos rfl]
theorem lotF_p (c : Int) (v : V) : (lotF c v).lookup ("programs" : Str) = some v := by
  unfold lotF
  rw [lookup_putF, if_pos rfl]
theorem je_cells {K : PySem.W.Frag} {c : Int} {d : PyData} (cl : Cls K C) (na : NoAttr K C "cells") (h : JE C μ ρ te (· = .dict [(.int c, d)])) : JE C μ ρ (tFld K te "cells") (· = .int c) := fun F σ H s Q q =>
  h F σ H s _ fun v H1 x px s1 e1 d1 => by
    subst px
    obtain ⟨a, dx, u, rfl, hx, du⟩ := d1.lotE
    exact ⟨a, C, dx, _, _, rfl, (wo_some hx).2, cl, na, lotF_c c u, q _ H1 _ rfl s1 e1 (.int c)⟩
theorem je_programs {K : PySem.W.Frag} {c : Int} {d : PyData} (cl : Cls K C) (na : NoAttr K C "programs") (h : JE C μ ρ te (· = .dict [(.int c, d)])) : JE C μ ρ (tFld K te "programs") (· = d) := fun F σ H s Q q =>
  h F σ H s _ fun v H1 x px s1 e1 d1 => by
    subst px
    obtain ⟨a, dx, u, rfl, hx, du⟩ := d1.lotE
    exact ⟨a, C, dx, _, _, rfl, (wo_some hx).2, cl, na, lotF_p c u, q _ H1 _ rfl s1 e1 du⟩
/-! ### a list that is kept track of, read -/
theorem je_lenm {K : PySem.W.Frag} {i k : Nat} {ds : List PyData} (h1 : ρ[i]? = some (.m k)) (h2 : μ[k]? = some (.lst ds)) :
    JE C μ ρ (tCB (fun xs H Q => ∃ p ys, xs = [.ref p] ∧ (SqL K H p ys ∨ SqT K H p ys) ∧ Q (.int ys.length) H) (tCons (tVar i) tNil)) (· = .int (ds.length : Int)) := fun F σ H s Q q => by
  obtain ⟨p, hσ, hv⟩ := s.getm h1
  obtain ⟨xs, hp, da⟩ := s.mo hv h2
  exact ⟨_, hσ, p, xs, rfl, .inl (SqL.of hp), q _ H _ rfl s (ExB.refl _ _) (by rw [da.length]; exact .int _)⟩
theorem je_tuplem {K : PySem.W.Frag} {i k : Nat} {ds : List PyData} (h1 : ρ[i]? = some (.m k)) (h2 : μ[k]? = some (.lst ds)) :
    JE C μ ρ (tCB (fun xs H Q => ∃ p ys, xs = [.ref p] ∧ ((SqL K H p ys ∧ ∀ l, H l = none → Q (.ref l) (upd H l (.tup ys))) ∨ (SqT K H p ys ∧ Q (.ref p) H))) (tCons (tVar i) tNil)) (· = .tuple ds) := fun F σ H s Q q => by
  obtain ⟨p, hσ, hv⟩ := s.getm h1
  obtain ⟨xs, hp, da⟩ := s.mo hv h2
  exact ⟨_, hσ, p, xs, rfl, .inl ⟨SqL.of hp, fun l hl => q _ _ _ rfl (s.ext (.new hl)) (Ex.new hl).b (dt_newT s.al hl da)⟩⟩
theorem je_ixm {K : PySem.W.Frag} {i k : Nat} {ds : List PyData} {n : Nat} {d : PyData} (h1 : ρ[i]? = some (.m k)) (h2 : μ[k]? = some (.lst ds)) (hb : JE C μ ρ tb (· = .int (n : Int))) (hd : ds[n]? = some d) : JE C μ ρ (tOp (rIx K) (tVar i) tb) (· = d) := fun F σ H s Q q => by
  obtain ⟨p, hσ, hv⟩ := s.getm h1
  refine ⟨_, hσ, hb F σ H s _ fun w H1 x px s1 e1 d1 => ?_⟩
  subst px
  obtain ⟨xs, hp, da⟩ := s1.mo hv h2
  obtain ⟨u, hu, du⟩ := da.get hd
  exact .inl ⟨p, xs, _, u, rfl, d1.intE, SqL.of hp, ix_at hu, q _ H1 _ rfl s1 e1 du⟩
theorem je_catm {i k : Nat} {ds es : List PyData} (h1 : ρ[i]? = some (.m k)) (h2 : μ[k]? = some (.lst ds)) (hb : JE C μ ρ tb (· = .list es)) (hl : ds.length + es.length ≤ 10000) : JE C μ ρ (tOp rCat (tVar i) tb) (· = .list (ds ++ es)) := fun F σ H s Q q => by
  obtain ⟨p, hσ, hv⟩ := s.getm h1
  refine ⟨_, hσ, hb F σ H s _ fun w H1 x px s1 e1 d1 => ?_⟩
  subst px
  obtain ⟨xs, hp, da⟩ := s1.mo hv h2
  obtain ⟨b, ys, rfl, hy, db⟩ := d1.lstE
  exact ⟨p, b, xs, ys, rfl, rfl, hp, (wo_some hy).2, Nat.le_trans (by rw [da.length, db.length]; exact hl) (by decide), fun l hl => q _ _ _ rfl (s1.ext (.new hl)) (e1.trans (Ex.new hl).b) (dt_newL s1.al hl (da.app db))⟩
theorem je_slm {K : PySem.W.Frag} {i k : Nat} {ds : List PyData} {tl th : TO} {lo hi : Option Int} (hm1 : ρ[i]? = some (.m k)) (hm2 : μ[k]? = some (.lst ds)) (h1 : JO C μ ρ tl lo) (h2 : JO C μ ρ th hi) : JE C μ ρ (tSl (rSlL K) (tVar i) tl th) (· = .list (cutD ds lo hi)) := fun F σ H s Q q => by
  obtain ⟨p, hσ, hv⟩ := s.getm hm1
  refine ⟨_, hσ, h1 F σ H s _ fun H2 s2 e2 => h2 F σ H2 s2 _ fun H3 s3 e3 => ?_⟩
  obtain ⟨xs, hp, da⟩ := s3.mo hv hm2
  exact ⟨p, xs, rfl, SqL.of hp, fun l hl => q _ _ _ rfl (s3.ext (.new hl)) ((e2.trans e3).trans (Ex.new hl).b) (dt_newL s3.al hl da.cut)⟩
/-! ### comprehensions -/
theorem jt_yes : JT C μ ρ tYes (· = true) := fun F σ H s Q q => q H true rfl s (ExB.refl _ _)
def outs (c : PyData → Bool) (f : PyData → PyData) (ds : List PyData) : List PyData := (ds.filter c).map f
theorem outs_snoc {c : PyData → Bool} {f : PyData → PyData} {ds : List PyData} {d : PyData} : outs c f (ds ++ [d]) = if c d = true then outs c f ds ++ [f d] else outs c f ds := by
  unfold outs
  by_cases h : c d = true
  · rw [if_pos h, List.filter_append, List.map_append]; simp [h]
  · rw [if_neg h, List.filter_append, List.map_append]; simp [h]
theorem outs_len {c : PyData → Bool} {f : PyData → PyData} {ds : List PyData} : (outs c f ds).length ≤ ds.length := by
  unfold outs; rw [List.length_map]; exact List.length_filter_le _ _
theorem outs_small {c : PyData → Bool} {f : PyData → PyData} {ds : List PyData} {j : Nat} (hl : ds.length ≤ 1000) : (outs c f (ds.take j)).length ≤ 10000 := by
  have q := outs_len (c := c) (f := f) (ds := ds.take j)
  rw [List.length_take] at q
  omega
theorem take_snoc {α : Type} {xs : List α} {i : Nat} {x : α} (h : xs[i]? = some x) : xs.take (i + 1) = xs.take i ++ [x] := by
  rw [List.take_succ, h]; rfl
theorem small_of {n : Nat} (h : n ≤ 10000) : n < sizeLine := Nat.lt_of_le_of_lt h (by decide)
/-- what a comprehension's turn keeps -/
def LcI (C : Addr) (F : Frm) (μ : List MO) (ρ : List SV) (σ : St) (H1 : Hp) (D : Addr) (os : Nat → List PyData) (i : Nat) (H : Hp) : Prop :=
  ∃ acc, H D = some (.lst acc) ∧ DtA C (wo ((F.v ++ D :: F.b)) H) acc (os i) ∧ Sat C { F with b := D :: F.b } μ ρ σ H ∧ ExB F.v H1 H
theorem LcI.start {F : Frm} {σ : St} {H1 : Hp} {D : Addr} {os : Nat → List PyData} (h0 : os 0 = []) (s : Sat C F μ ρ σ H1) (hD : H1 D = none) : LcI C F μ ρ σ H1 D os 0 (upd H1 D (.lst [])) :=
  ⟨[], upd_same, by rw [h0]; exact .nil, s.badd hD, (Ex.new hD).b⟩
theorem LcI.done {F : Frm} {σ : St} {H1 H : Hp} {D : Addr} {os : Nat → List PyData} {n : Nat} (s : Sat C F μ ρ σ H1) (hD : H1 D = none) (h : LcI C F μ ρ σ H1 D os n H) : Sat C F μ ρ σ H ∧ ExB F.v H1 H ∧ Dt C (wo F.m H) (.ref D) (.list (os n)) := by
  obtain ⟨acc, hd, da, s2, e⟩ := h
  refine ⟨s2.bdrop, e, .lst (wo_mk (s.fresh hD) hd) (da.mono (wo_anti fun a z => ?_))⟩
  rcases List.mem_append.mp z with z | z
  · exact List.mem_append_left _ z
  · exact List.mem_append_right _ (List.mem_cons_of_mem _ z)
theorem LcI.turn {F : Frm} {σ : St} {H1 H : Hp} {D : Addr} {os : Nat → List PyData} {j i : Nat} {x : V} {d y : PyData} {b : Bool} {tt : TT} {te : TE} (s : Sat C F μ ρ σ H1) (hD : H1 D = none) (I : LcI C F μ ρ σ H1 D os j H) (hx : Dt C (wo F.m H) x d)
    (ht : JT C μ (ρ.set i (.d d)) tt (· = b)) (he : b = true → JE C μ (ρ.set i (.d d)) te (· = y)) (ho : os (j + 1) = if b = true then os j ++ [y] else os j) (hl : (os j).length ≤ 10000) (hxD : Dt C (wo (F.v ++ D :: F.b) H) x d) :
    gName i x (wipe σ [i]) H fun σ2 H2 => wipe σ2 [i] = wipe σ [i] ∧ tt σ2 H2 fun b H3 => if b = true then te σ2 H3 fun y H4 => ∃ acc, H4 D = some (.lst acc) ∧ acc.length < sizeLine ∧ LcI C F μ ρ σ H1 D os (j + 1) (upd H4 D (.lst (acc ++ [y]))) else LcI C F μ ρ σ H1 D os (j + 1) H3 := by
  obtain ⟨acc, hd, da, s2, e⟩ := I
  have nDv : D ∉ F.v := fun z => s.fresh hD (List.mem_append_left _ z)
  have w0 : wipe σ [i] = σ.set i none := rfl
  have s3 : Sat C { F with b := D :: F.b } μ (ρ.set i (.d d)) ((wipe σ [i]).set i (some x)) H := by
    have q := (s2.forget (i := i)).set (o := none) (sv := .un) (i := i) trivial
    have q2 := q.setd (i := i) (x := d) (v := x) hxD
    rw [List.set_set, List.set_set] at q2
    rw [w0, List.set_set]
    rw [List.set_set] at q2
    exact q2
  refine ⟨by show ((wipe σ [i]).set i (some x)).set i none = σ.set i none; rw [w0, List.set_set, List.set_set], ?_⟩
  refine ht _ _ H s3 _ fun H2 b2 hb2 s4 e4 => ?_
  subst hb2
  cases b2 with
  | false =>
    show LcI C F μ ρ σ H1 D os (j + 1) H2
    rw [if_neg Bool.false_ne_true] at ho
    refine ⟨acc, e4 D _ hd nDv, ?_, s2.join s4 e4, e.trans e4⟩
    rw [ho]
    exact da.mono (e4.wo fun a z => List.mem_append_left _ z)
  | true =>
    rw [if_pos rfl] at ho
    show te _ H2 _
    refine he rfl _ _ H2 s4 _ fun v H3 d3 hd3 s5 e5 dv => ?_
    subst hd3
    have hd5 := e5 D _ (e4 D _ hd nDv) nDv
    have da5 := da.mono ((e4.trans e5).wo fun a z => List.mem_append_left (D :: F.b) z)
    have hDm : D ∈ F.v ++ D :: F.b := List.mem_append_right _ List.mem_cons_self
    refine ⟨acc, hd5, small_of (by rw [da5.length]; exact hl), acc ++ [v], upd_same, ?_, ?_, ?_⟩
    · rw [ho, wo_upd hDm]
      exact da5.app (.one dv)
    · exact Sat.bput (s2.join s5 (e4.trans e5)) List.mem_cons_self nDv (s.fresh0 hD)
    · intro a o z n
      rw [upd_ne (ne_of_none z hD)]
      exact (e.trans (e4.trans e5)) a o z n
theorem je_lcT {K : PySem.W.Frag} {te0 : TE} {ds : List PyData} {i : Nat} {tt : TT} (c : PyData → Bool) (f : PyData → PyData) (h0 : JE C μ ρ te0 (· = .tuple ds)) (hl : ds.length ≤ 1000)
    (ht : ∀ d ∈ ds, JT C μ (ρ.set i (.d d)) tt (· = c d)) (he : ∀ d ∈ ds, c d = true → JE C μ (ρ.set i (.d d)) te (· = f d)) :
    JE C μ ρ (tLc (iTup K te0) (gName i) tt te [i]) (· = .list (outs c f ds)) := fun F σ H s0 Q q =>
  h0 F σ H s0 _ fun v H1 d0 p0 s e0 dt => by
    subst p0
    have dt0 := dt
    obtain ⟨a, xs, rfl, hx, da⟩ := id dt.tupE
    refine ⟨a, rfl, ⟨xs, SqT.of (wo_some hx).2⟩, fun D hD => lc_tup (K := K) (a := a) (xs := xs) (LcI C F μ ρ σ H1 D fun j => outs c f (ds.take j)) (LcI.start (by simp [outs]) s hD) ?_ ?_ ?_⟩
    · rintro j H2 hj ⟨acc, hd, _, s2, e⟩
      have z := e a _ (wo_some hx).2 fun z => (wo_some hx).1 (List.mem_append_left _ z)
      exact SqT.of z
    · rintro j x H2 hj I
      obtain ⟨acc, hd, _, s2, e⟩ := id I
      obtain ⟨d, hdj, hxd⟩ := da.getV hj
      have hm : d ∈ ds := List.mem_of_getElem? hdj
      have k1 : Ex (wo F.m H1) (wo (F.v ++ D :: F.b) H2) := fun b o z => by
        obtain ⟨n, z⟩ := wo_some z
        refine wo_mk (fun m => ?_) (e b o z fun m => n (List.mem_append_left _ m))
        rcases List.mem_append.mp m with m | m
        · exact n (List.mem_append_left _ m)
        · rcases List.mem_cons.mp m with m | m
          · rw [m, hD] at z; cases z
          · exact n (List.mem_append_right _ m)
      refine LcI.turn (F := F) s hD I (hxd.mono ((e.wo fun b z => List.mem_append_left _ z))) (ht d hm) (he d hm) ?_ ?_ (hxd.mono k1)
      · show outs c f (ds.take (j + 1)) = _
        rw [take_snoc hdj, outs_snoc]
      · exact outs_small hl
    · intro H2 I
      have eq : ds.take xs.length = ds := by rw [da.length]; exact List.take_length
      obtain ⟨s3, e3, d3⟩ := LcI.done (F := F) s hD I
      simp only [eq] at d3
      exact q _ _ _ rfl s3 (e0.trans e3) d3
theorem je_lcL {K : PySem.W.Frag} {te0 : TE} {ds : List PyData} {i : Nat} {tt : TT} (c : PyData → Bool) (f : PyData → PyData) (h0 : JE C μ ρ te0 (· = .list ds)) (hl : ds.length ≤ 1000)
    (ht : ∀ d ∈ ds, JT C μ (ρ.set i (.d d)) tt (· = c d)) (he : ∀ d ∈ ds, c d = true → JE C μ (ρ.set i (.d d)) te (· = f d)) :
    JE C μ ρ (tLc (iList K te0) (gName i) tt te [i]) (· = .list (outs c f ds)) := fun F σ H s0 Q q =>
  h0 F σ H s0 _ fun v H1 d0 p0 s e0 dt => by
    subst p0
    have dt0 := dt
    obtain ⟨a, xs, rfl, hx, da⟩ := id dt.lstE
    refine ⟨a, rfl, ⟨xs, SqL.of (wo_some hx).2⟩, fun D hD => lc_list (K := K) (a := a) (xs := xs) (LcI C F μ ρ σ H1 D fun j => outs c f (ds.take j)) (LcI.start (by simp [outs]) s hD) ?_ ?_ ?_⟩
    · rintro j H2 hj ⟨acc, hd, _, s2, e⟩
      have z := e a _ (wo_some hx).2 fun z => (wo_some hx).1 (List.mem_append_left _ z)
      exact SqL.of z
    · rintro j x H2 hj I
      obtain ⟨acc, hd, _, s2, e⟩ := id I
      obtain ⟨d, hdj, hxd⟩ := da.getV hj
      have hm : d ∈ ds := List.mem_of_getElem? hdj
      have k1 : Ex (wo F.m H1) (wo (F.v ++ D :: F.b) H2) := fun b o z => by
        obtain ⟨n, z⟩ := wo_some z
        refine wo_mk (fun m => ?_) (e b o z fun m => n (List.mem_append_left _ m))
        rcases List.mem_append.mp m with m | m
        · exact n (List.mem_append_left _ m)
        · rcases List.mem_cons.mp m with m | m
          · rw [m, hD] at z; cases z
          · exact n (List.mem_append_right _ m)
      refine LcI.turn (F := F) s hD I (hxd.mono ((e.wo fun b z => List.mem_append_left _ z))) (ht d hm) (he d hm) ?_ ?_ (hxd.mono k1)
      · show outs c f (ds.take (j + 1)) = _
        rw [take_snoc hdj, outs_snoc]
      · exact outs_small hl
    · intro H2 I
      have eq : ds.take xs.length = ds := by rw [da.length]; exact List.take_length
      obtain ⟨s3, e3, d3⟩ := LcI.done (F := F) s hD I
      simp only [eq] at d3
      exact q _ _ _ rfl s3 (e0.trans e3) d3
/-- over a list that is kept track of -/
theorem je_lcM {K : PySem.W.Frag} {ds : List PyData} {i m k : Nat} {tt : TT} (c : PyData → Bool) (f : PyData → PyData) (h1 : ρ[m]? = some (.m k)) (h2 : μ[k]? = some (.lst ds)) (hl : ds.length ≤ 1000)
    (ht : ∀ d ∈ ds, JT C μ (ρ.set i (.d d)) tt (· = c d)) (he : ∀ d ∈ ds, c d = true → JE C μ (ρ.set i (.d d)) te (· = f d)) :
    JE C μ ρ (tLc (iList K (tVar m)) (gName i) tt te [i]) (· = .list (outs c f ds)) := fun F σ H1 s Q q => by
  obtain ⟨a, hσ, hv⟩ := s.getm h1
  obtain ⟨xs0, hp0, da0⟩ := s.mo hv h2
  refine ⟨_, hσ, a, rfl, ⟨xs0, SqL.of hp0⟩, fun D hD => ⟨fun j m H2 => m = ds.length - j ∧ j ≤ ds.length ∧ LcI C F μ ρ σ H1 D (fun j => outs c f (ds.take j)) j H2, ⟨ds.length, rfl, Nat.zero_le _, LcI.start (by simp [outs]) s hD⟩, ?_⟩⟩
  rintro j m H2 ⟨rfl, hj, I⟩
  obtain ⟨acc, hd, _, s2, e⟩ := id I
  obtain ⟨xs, hp, da⟩ := s2.mo (k := k) (p := a) hv h2
  by_cases hlt : j < ds.length
  · have hjx : j < xs.length := by rw [da.length]; exact hlt
    refine .inr ⟨⟨xs, xs[j], SqL.of hp, by simp [hjx]⟩, fun H3 => LcI C F μ ρ σ H1 D (fun j => outs c f (ds.take j)) (j + 1) H3, fun H3 I3 => ⟨ds.length - (j + 1), by omega, rfl, hlt, I3⟩, fun x H3 y => ?_⟩
    obtain ⟨e3, y⟩ := y
    subst e3
    obtain ⟨d, hdj, hxd⟩ := da.getV (y xs (SqL.of hp))
    have hm : d ∈ ds := List.mem_of_getElem? hdj
    exact LcI.turn (F := F) s hD I (hxd.mono (wo_anti fun b z => (List.mem_append.mp z).elim (fun z => List.mem_append_left _ z) fun z => List.mem_append_right _ (List.mem_cons_of_mem _ z))) (ht d hm) (he d hm)
      (by show outs c f (ds.take (j + 1)) = _; rw [take_snoc hdj, outs_snoc]) (outs_small hl) hxd
  · have ej : j = ds.length := by omega
    subst ej
    obtain ⟨s3, e3, d3⟩ := LcI.done (F := F) s hD I
    simp only [List.take_length] at d3
    exact .inl ⟨⟨xs, SqL.of hp, by rw [da.length]; exact Nat.le_refl _⟩, q _ _ _ rfl s3 e3 d3⟩
/-- over range(n) -/
theorem je_lcR {ta : TA} {n : Nat} {i : Nat} {tt : TT} (c : Nat → Bool) (f : Nat → PyData) (h0 : JA C μ ρ ta (· = [.int (n : Int)])) (hl : n ≤ 1000)
    (ht : ∀ j, j < n → JT C μ (ρ.set i (.d (.int (j : Int)))) tt (· = c j)) (he : ∀ j, j < n → c j = true → JE C μ (ρ.set i (.d (.int (j : Int)))) te (· = f j)) :
    JE C μ ρ (tLc (iRng1 ta) (gName i) tt te [i]) (· = .list (((List.range n).filter c).map f)) := fun F σ H s0 Q q =>
  h0 F σ H s0 _ fun vs H1 d0 p0 s e0 dt => by
    subst p0
    cases dt with
    | cons d1 dn =>
      cases dn
      refine ⟨(n : Int), by rw [d1.intE], by omega, by omega, fun D hD => lc_range (lo := 0) (n := (n : Int).toNat) (LcI C F μ ρ σ H1 D fun j => ((List.range j).filter c).map f) (LcI.start (by simp) s hD) ?_ ?_⟩
      · rintro j H2 hj I
        have hj' : j < n := by omega
        rw [Int.zero_add]
        refine LcI.turn (F := F) s hD I (.int _) (ht j hj') (he j hj') ?_ ?_ (.int _)
        · show ((List.range (j + 1)).filter c).map f = _
          rw [List.range_succ, List.filter_append, List.map_append]
          by_cases h : c j = true
          · rw [if_pos h]; simp [h]
          · rw [if_neg h]; simp [h]
        · rw [List.length_map]
          exact Nat.le_trans (List.length_filter_le _ _) (by rw [List.length_range]; omega)
      · intro H2 I
        rw [Int.toNat_natCast] at I
        obtain ⟨s3, e3, d3⟩ := LcI.done (F := F) s hD I
        exact q _ _ _ rfl s3 (e0.trans e3) d3
end
end KG
namespace KG
open PySem PySem.Spec L2

/-! ### promises -/
/-- a def that changes nothing: R tells of the arguments what the answers are -/
abbrev Rel := List PyData → (PyData → Prop) → Prop
def spP (C : Addr) (R : Rel) : Sp := fun vs H Q _ => ∃ B ds P, (∀ a ∈ B, H a ≠ none) ∧ DtA C (wo B H) vs ds ∧ R ds P ∧ ∀ v H' d, P d → Ex H H' → Dt C (wo B H') v d → Q v H'
/-- a def that draws from the hand, its first argument -/
def spH (C : Addr) (R : Rel) : Sp := fun vs H Q _ => ∃ B h vs' ds P, vs = .ref h :: vs' ∧ h ∈ B ∧ (∀ a ∈ B, H a ≠ none) ∧ MoAt C B H h .hand ∧ DtA C (wo B H) vs' ds ∧ R ds P ∧ ∀ v H' d, P d → ExB [h] H H' → MoAt C B H' h .hand → Dt C (wo B H') v d → Q v H'
section
variable {C : Addr} {μ : List MO} {ρ : List SV} {ta tb te tc : TE} {t u : TT} {P S : PyData → Prop} {R : Rel}
theorem jn_call {E : XK} {ta : TA} {A : List PyData → Prop} (h : JA C μ ρ ta A) (hr : ∀ ds, A ds → R ds S) : JE C μ ρ (tCall (spP C R) [] E ta) S := fun F σ H s Q q =>
  h F σ H s _ fun vs H1 ds hd s1 e1 d1 => ⟨F.m, ds, S, s1.al, by rw [List.append_nil]; exact d1, hr ds hd, fun v H' d pd e2 dv => q v H' d pd (s1.ext e2) (e1.trans e2.b) dv⟩
theorem je_call {E : XK} {ta : TA} {ds : List PyData} (h : JA C μ ρ ta (· = ds)) (hr : R ds S) : JE C μ ρ (tCall (spP C R) [] E ta) S := jn_call h (by rintro _ rfl; exact hr)
/-- behind a call that changed the hand alone -/
theorem Sat.hand {F : Frm} {σ : St} {H H' : Hp} {k : Nat} {h : Addr} (s : Sat C F μ ρ σ H) (hv : F.v[k]? = some h) (hm : μ[k]? = some .hand) (e : ExB [h] H H') (m : MoAt C F.m H' h .hand) : Sat C F μ ρ σ H' := by
  have hin := s.mem hv
  have ew : Ex (wo F.m H) (wo F.m H') := e.wo fun a z => by
    rw [List.mem_singleton.mp z]
    exact List.mem_append_left _ hin
  have keep : ∀ a, a ≠ h → ∀ o, H a = some o → H' a = some o := fun a n o q => e a o q (by simpa using n)
  refine ⟨s.nd, fun a ha => ?_, ?_, paired_map s.sl fun _ _ _ q => q.lift ew fun _ _ z => z, fun a o q n => ?_, s.wv, s.lc, s.dj, fun g hg => (s.gh g hg).mono ew⟩
  · by_cases n : a = h
    · rw [n]; exact m.there
    · cases q : H a with
      | none => exact absurd q (s.al a ha)
      | some o => rw [keep a n o q]; intro z; cases z
  · have nd := s.nd
    have mu := s.mu
    generalize hM : F.m = M at *
    clear hM
    have key : ∀ {l : List Addr} {mm : List MO} {k : Nat}, l.Nodup → Paired (MoAt C M H) l mm → l[k]? = some h → mm[k]? = some .hand → Paired (MoAt C M H') l mm := by
      intro l
      induction l with
      | nil => intro mm k _ _ q; simp at q
      | cons a l ih =>
        intro mm k nd pr hk hmk
        cases pr with
        | cons r t =>
          cases k with
          | zero =>
            simp at hk hmk
            subst hk
            rw [hmk]
            exact .cons m (paired_map t fun b c hb z => z.lift (keep b fun q => (List.nodup_cons.mp nd).1 (q ▸ hb)) ew)
          | succ k =>
            have h' : l[k]? = some h := by simpa using hk
            exact .cons (r.lift (keep a fun q => (List.nodup_cons.mp nd).1 (q ▸ List.mem_of_getElem? h')) ew) (ih (List.nodup_cons.mp nd).2 t h' (by simpa using hmk))
    exact key nd mu hv hm
  · refine keep a (fun z => ?_) o (s.fr a o q n)
    subst z
    rcases s.lc a hin with z | z
    · exact n z
    · rw [z] at q; cases q
theorem jn_callH {E : XK} {ta : TA} {A : List PyData → Prop} {i k : Nat} (h1 : ρ[i]? = some (.m k)) (h2 : μ[k]? = some .hand) (h : JA C μ ρ ta A) (hr : ∀ ds, A ds → R ds S) : JE C μ ρ (tCall (spH C R) [] E (tCons (tVar i) ta)) S := fun F σ H s Q q => by
  obtain ⟨p, hσ, hv⟩ := s.getm h1
  refine ⟨_, hσ, h F σ H s _ fun vs H1 ds hd s1 e1 d1 => ?_⟩
  refine ⟨F.m, p, vs, ds, S, by rw [List.append_nil], List.mem_append_left _ (s.mem hv), s1.al, s1.mo hv h2, d1, hr ds hd, fun v H' d pd e2 m dv => q v H' d pd (s1.hand hv h2 e2 m) (e1.trans (e2.mono fun a z => ?_)) dv⟩
  rw [List.mem_singleton.mp z]; exact s.mem hv
theorem je_callH {E : XK} {ta : TA} {ds : List PyData} {i k : Nat} (h1 : ρ[i]? = some (.m k)) (h2 : μ[k]? = some .hand) (h : JA C μ ρ ta (· = ds)) (hr : R ds S) : JE C μ ρ (tCall (spH C R) [] E (tCons (tVar i) ta)) S := jn_callH h1 h2 h (by rintro _ rfl; exact hr)
/-- f(hand) alone -/
theorem je_callH1 {E : XK} {i k : Nat} (h1 : ρ[i]? = some (.m k)) (h2 : μ[k]? = some .hand) (hr : R [] S) : JE C μ ρ (tCall (spH C R) [] E (tCons (tVar i) tNil)) S := je_callH h1 h2 ja_nil hr

/-! ### the start of a body -/
theorem sl_start {F : Frm} {H : Hp} : ∀ {vs : List V} {ds : List PyData} (n : Nat), DtA C (wo F.m H) vs ds → Paired (SlotOk C F H) (vs.map some ++ List.replicate n none) (ds.map SV.d ++ List.replicate n .un)
  | _, _, 0, .nil => .nil
  | _, _, n + 1, .nil => .cons trivial (sl_start (vs := []) (ds := []) n .nil)
  | _, _, n, .cons h a => .cons h (sl_start n a)
def ρ0 (N : List Str) (ds : List PyData) : List SV := ds.map SV.d ++ List.replicate (N.length - ds.length) .un
theorem satP {N : List Str} {vs : List V} {ds : List PyData} {B : List Addr} {H : Hp} (al : ∀ a ∈ B, H a ≠ none) (da : DtA C (wo B H) vs ds) : Sat C ⟨H, [], B, [], []⟩ [] (ρ0 N ds) (L2.start N vs) H := by
  refine ⟨List.nodup_nil, al, .nil, ?_, fun a o q _ => q, fun a z => (by cases z), fun a z => (by cases z), fun a z => (by cases z), fun g z => (by cases z)⟩
  unfold L2.start ρ0
  rw [da.length]
  exact sl_start _ da
theorem satH {N : List Str} {h : Addr} {vs : List V} {ds : List PyData} {B : List Addr} {H : Hp} (hB : h ∈ B) (al : ∀ a ∈ B, H a ≠ none) (m : MoAt C B H h .hand) (da : DtA C (wo B H) vs ds) :
    Sat C ⟨H, [h], B, [h], []⟩ [.hand] (.m 0 :: (ds.map SV.d ++ List.replicate (N.length - (ds.length + 1)) .un)) (L2.start N (.ref h :: vs)) H := by
  have ew : Ex (wo B H) (wo ([h] ++ B) H) := wo_anti fun a z => by
    rcases List.mem_append.mp z with z | z
    · rw [List.mem_singleton.mp z]; exact hB
    · exact z
  refine ⟨by simp, fun a ha => ?_, .cons (m.lift (fun _ q => q) ew) .nil, ?_, fun a o q _ => q, fun a z => z, fun a z => .inl z, fun a z _ => z, fun g z => (by cases z)⟩
  · rcases List.mem_append.mp ha with z | z
    · rw [List.mem_singleton.mp z]; exact al h hB
    · exact al a z
  · unfold L2.start
    rw [List.length_cons, da.length]
    exact .cons ⟨h, rfl, rfl⟩ (sl_start _ (da.mono ew))

/-! ### statements -/
variable {F : Frm} {σ : St} {H : Hp} {nx : L2.St → Hp → Prop} {rt : VK} {bk ct : L2.St → Hp → Prop}
theorem s_seq {t u : TS} (h : t ⟨u ⟨nx, rt, bk, ct⟩, rt, bk, ct⟩ σ H) : tSeq t u ⟨nx, rt, bk, ct⟩ σ H := h
theorem s_nx (h : nx σ H) : tNext ⟨nx, rt, bk, ct⟩ σ H := h
theorem s_asg {i : Nat} (S : Sat C F μ ρ σ H) (h : JE C μ ρ te P) (k : ∀ d σ' H', P d → Sat C F μ (ρ.set i (.d d)) σ' H' → nx σ' H') : tAsg te (gName i) ⟨nx, rt, bk, ct⟩ σ H :=
  h F σ H S _ fun v H1 d pd s1 e1 d1 => k d _ H1 pd (s1.setd d1)
theorem s_asg1 {i : Nat} {x : PyData} (S : Sat C F μ ρ σ H) (h : JE C μ ρ te (· = x)) (k : ∀ σ' H', Sat C F μ (ρ.set i (.d x)) σ' H' → nx σ' H') : tAsg te (gName i) ⟨nx, rt, bk, ct⟩ σ H :=
  s_asg S h (by rintro _ σ' H' rfl s; exact k σ' H' s)
/-- targets -/
def JG (C : Addr) (g : TG) (d : PyData) (up : List SV → List SV) : Prop := ∀ F μ ρ σ H v, Sat C F μ ρ σ H → Dt C (wo F.m H) v d → ∀ Q : St → Hp → Prop, (∀ σ', Sat C F μ (up ρ) σ' H → Q σ' H) → g v σ H Q
theorem jg_name {i : Nat} {d : PyData} : JG C (gName i) d (fun ρ => ρ.set i (.d d)) := fun F μ ρ σ H v S dv Q q => q _ (S.setd dv)
theorem jg_tup4 {K : PySem.W.Frag} {i j k l : Nat} {a b c d : PyData} : JG C (gTup K 4 (gCons (gName i) (gCons (gName j) (gCons (gName k) (gCons (gName l) gNil))))) (.tuple [a, b, c, d])
    (fun ρ => (((ρ.set i (.d a)).set j (.d b)).set k (.d c)).set l (.d d)) := fun F μ ρ σ H v S dv Q q => by
  obtain ⟨p, xs, rfl, hx, da⟩ := dv.tupE
  cases da with
  | cons h1 da =>
    cases da with
    | cons h2 da =>
      cases da with
      | cons h3 da =>
        cases da with
        | cons h4 da =>
          cases da
          exact ⟨p, _, rfl, SqT.of (wo_some hx).2, rfl, _, _, rfl, _, _, rfl, _, _, rfl, _, _, rfl, rfl, q _ ((((S.setd h1).setd h2).setd h3).setd h4)⟩
theorem s_asgG {g : TG} {x : PyData} {up : List SV → List SV} (S : Sat C F μ ρ σ H) (h : JE C μ ρ te (· = x)) (hg : JG C g x up) (k : ∀ σ' H', Sat C F μ (up ρ) σ' H' → nx σ' H') : tAsg te g ⟨nx, rt, bk, ct⟩ σ H :=
  h F σ H S _ fun v H1 d pd s1 e1 d1 => by
    subst pd
    exact hg F μ ρ σ H1 v s1 d1 _ fun σ' s2 => k σ' H1 s2
theorem s_par {i j : Nat} {ta : TA} {x y : PyData} (S : Sat C F μ ρ σ H) (h : JA C μ ρ ta (· = [x, y])) (k : ∀ σ' H', Sat C F μ ((ρ.set i (.d x)).set j (.d y)) σ' H' → nx σ' H') : tPar i j ta ⟨nx, rt, bk, ct⟩ σ H :=
  h F σ H S _ fun vs H1 d pd s1 e1 d1 => by
    subst pd
    cases d1 with
    | cons h1 d1 =>
      cases d1 with
      | cons h2 d1 =>
        cases d1
        exact ⟨_, _, rfl, k _ H1 ((s1.setd h1).setd h2)⟩
theorem s_ifn {t u : TS} {tc : TT} {P : Bool → Prop} (S : Sat C F μ ρ σ H) (h : JT C μ ρ tc P) (kt : P true → ∀ H', Sat C F μ ρ σ H' → t ⟨nx, rt, bk, ct⟩ σ H') (kf : P false → ∀ H', Sat C F μ ρ σ H' → u ⟨nx, rt, bk, ct⟩ σ H') : tIfS tc t u ⟨nx, rt, bk, ct⟩ σ H :=
  h F σ H S _ fun H1 b pb s1 e1 => by
    cases b with
    | true => exact kt pb H1 s1
    | false => exact kf pb H1 s1
theorem s_if {t u : TS} {tc : TT} {b : Bool} (S : Sat C F μ ρ σ H) (h : JT C μ ρ tc (· = b)) (kt : b = true → ∀ H', Sat C F μ ρ σ H' → t ⟨nx, rt, bk, ct⟩ σ H') (kf : b = false → ∀ H', Sat C F μ ρ σ H' → u ⟨nx, rt, bk, ct⟩ σ H') : tIfS tc t u ⟨nx, rt, bk, ct⟩ σ H :=
  s_ifn S h (fun e => kt e.symm) (fun e => kf e.symm)
theorem Sat.out {v : V} {d : PyData} (S : Sat C F μ ρ σ H) (h : Dt C (wo F.m H) v d) : Dt C (wo F.b H) v d := h.mono (wo_anti fun a z => List.mem_append_right _ z)
theorem s_ret (S : Sat C F μ ρ σ H) (h : JE C μ ρ te P) (k : ∀ v H' d, P d → Sat C F μ ρ σ H' → Dt C (wo F.b H') v d → rt v H') : tRet te ⟨nx, rt, bk, ct⟩ σ H :=
  h F σ H S _ fun v H1 d pd s1 e1 d1 => k v H1 d pd s1 (s1.out d1)
/-- .. of a def that changes nothing -/
theorem s_retP {H0 : Hp} {B V' : List Addr} {G : List (V × PyData)} {P' : PyData → Prop} (S : Sat C ⟨H0, [], B, V', G⟩ μ ρ σ H) (h : JE C μ ρ te P) (k : ∀ v H' d, P' d → Ex H0 H' → Dt C (wo B H') v d → rt v H') (hp : ∀ d, P d → P' d) : tRet te ⟨nx, rt, bk, ct⟩ σ H :=
  s_ret S h fun v H' d pd s1 dv => k v H' d (hp d pd) (fun a o q => s1.fr a o q (by simp)) dv
/-- .. of one that draws -/
theorem s_retH {H0 : Hp} {B V' : List Addr} {h : Addr} {G : List (V × PyData)} {μ' : List MO} {P' : PyData → Prop} (hB : h ∈ B) (S : Sat C ⟨H0, [h], B, h :: V', G⟩ (.hand :: μ') ρ σ H) (hj : JE C (.hand :: μ') ρ te P)
    (k : ∀ v H' d, P' d → ExB [h] H0 H' → MoAt C B H' h .hand → Dt C (wo B H') v d → rt v H') (hp : ∀ d, P d → P' d) : tRet te ⟨nx, rt, bk, ct⟩ σ H :=
  s_ret S hj fun v H' d pd s1 dv => k v H' d (hp d pd) (fun a o q n => s1.fr a o q n) ((s1.mo (k := 0) (p := h) rfl rfl).lift (fun _ q => q) (wo_anti fun a z => List.mem_append_right _ z)) dv
/-- x = [] -/
theorem s_new {fh : Hp} {fw fb fv : List Addr} {fg : List (V × PyData)} {i : Nat} (S : Sat C ⟨fh, fw, fb, fv, fg⟩ μ ρ σ H) (hi : fv.length = μ.length) (k : ∀ p σ' H', p ∉ fw → Sat C ⟨fh, fw, fb, fv ++ [p], fg⟩ (μ ++ [.lst []]) (ρ.set i (.m μ.length)) σ' H' → nx σ' H') : tAsg (tLst tNil) (gName i) ⟨nx, rt, bk, ct⟩ σ H :=
  ⟨Nat.zero_le _, fun p hp => by
    have s1 := S.newm' (p := p) (o := .lst []) (mo := .lst []) hp fun M _ _ => ⟨[], upd_same, .nil⟩
    have s2 := s1.set (i := i) (o := some (.ref p)) (sv := .m μ.length) ⟨p, by show (fv ++ [p])[μ.length]? = some p; rw [← hi]; simp, rfl⟩
    exact k p _ _ (fun z => S.al p (List.mem_append_left _ (S.wv p z)) hp) s2⟩
/-- x.append(e) -/
theorem s_app {K : PySem.W.Frag} {i k : Nat} {ds : List PyData} (S : Sat C F μ ρ σ H) (h1 : ρ[i]? = some (.m k)) (h2 : μ[k]? = some (.lst ds)) (h : JE C μ ρ te P) (hl : ds.length ≤ 10000) (kk : ∀ d H', P d → Sat C F (μ.set k (.lst (ds ++ [d]))) ρ σ H' → nx σ H') :
    tDrop (tBM K "list" rAppend (tVar i) (tCons te tNil)) ⟨nx, rt, bk, ct⟩ σ H := by
  obtain ⟨p, hσ, hv⟩ := S.getm h1
  obtain ⟨xs0, hp0, _⟩ := S.mo hv h2
  refine ⟨_, hσ, .inl ⟨rfl, _, SqL.of hp0⟩, h F σ H S _ fun v H1 d pd s1 e1 d1 => ?_⟩
  obtain ⟨xs, hp, da⟩ := s1.mo hv h2
  refine ⟨p, xs, v, rfl, rfl, hp, small_of (by rw [da.length]; exact hl), kk d _ pd (s1.put hv ⟨_, upd_same, ?_⟩)⟩
  rw [wo_upd (List.mem_append_left _ (s1.mem hv))]
  exact da.app (.one d1)
/-- return x, x a list of one's own -/
theorem s_retM {fh : Hp} {fw fb fv : List Addr} {fg : List (V × PyData)} {i : Nat} {p : Addr} {ds : List PyData} {μ0 : List MO} (S : Sat C ⟨fh, fw, fb, fv ++ [p], fg⟩ (μ0 ++ [.lst ds]) ρ σ H) (hi : fv.length = μ0.length) (hw : ∀ a ∈ fw, a ∈ fv) (hp : p ∉ fw) (h1 : ρ[i]? = some (.m μ0.length))
    (k : ∀ H', Sat C ⟨fh, fw, fb, fv, fg⟩ μ0 [] [] H' → Dt C (wo fb H') (.ref p) (.list ds) → rt (.ref p) H') : tRet (tVar i) ⟨nx, rt, bk, ct⟩ σ H := by
  obtain ⟨q, hσ, hv⟩ := S.getm h1
  have e : q = p := by
    have hv' : (fv ++ [p])[μ0.length]? = some q := hv
    rw [← hi] at hv'
    simpa using hv'.symm
  subst e
  have S0 : Sat C ⟨fh, fw, fb, fv ++ [q], fg⟩ (μ0 ++ [.lst ds]) [] [] H := ⟨S.nd, S.al, S.mu, .nil, S.fr, S.wv, S.lc, S.dj, S.gh⟩
  obtain ⟨S1, np, xs, hx, da⟩ := S0.pop' hi.symm hw (by simp) hp
  refine ⟨_, hσ, k H S1 (.lst (wo_mk (fun z => np (List.mem_append_right _ z)) hx) (da.mono (wo_anti fun a z => List.mem_append_right _ z)))⟩
/-! loops: I tells by the turn what is kept track of and what the slots hold -/
theorem s_forT {fh : Hp} {fw fb fv : List Addr} {fg : List (V × PyData)} {K : PySem.W.Frag} {g : TG} {tb : TS} {ds : List PyData} {up : PyData → List SV → List SV} (I : Nat → List MO → List SV → Prop) (S : Sat C ⟨fh, fw, fb, fv, fg⟩ μ ρ σ H) (h : JE C μ ρ te (· = .tuple ds)) (hg : ∀ d ∈ ds, JG C g d (up d)) (h0 : I 0 μ ρ)
    (hs : ∀ j d, ds[j]? = some d → ∀ v μ' ρ' σ' H', I j μ' ρ' → Sat C ⟨fh, fw, fb, fv, (v, .tuple ds) :: fg⟩ μ' (up d ρ') σ' H' →
      tb ⟨fun σ H => ∃ μ ρ, I (j + 1) μ ρ ∧ Sat C ⟨fh, fw, fb, fv, (v, .tuple ds) :: fg⟩ μ ρ σ H, rt, nx, fun σ H => ∃ μ ρ, I (j + 1) μ ρ ∧ Sat C ⟨fh, fw, fb, fv, (v, .tuple ds) :: fg⟩ μ ρ σ H⟩ σ' H')
    (hd : ∀ μ' ρ' σ' H', I ds.length μ' ρ' → Sat C ⟨fh, fw, fb, fv, fg⟩ μ' ρ' σ' H' → nx σ' H') : tFor (iTup K te) g tb ⟨nx, rt, bk, ct⟩ σ H :=
  h ⟨fh, fw, fb, fv, fg⟩ σ H S _ fun v H1 d pd s1 e1 d1 => by
    subst pd
    have d2 := d1
    obtain ⟨a, xs, rfl, hx, da⟩ := id d1.tupE
    refine ⟨a, rfl, ⟨_, SqT.of (wo_some hx).2⟩, fun j m σ H => m = ds.length - j ∧ j ≤ ds.length ∧ ∃ μ ρ, I j μ ρ ∧ Sat C ⟨fh, fw, fb, fv, (.ref a, .tuple ds) :: fg⟩ μ ρ σ H, ⟨ds.length, rfl, Nat.zero_le _, μ, ρ, h0, s1.gadd' d2⟩, ?_⟩
    rintro j m σ' H' ⟨rfl, hj, μ', ρ', hI, s2⟩
    obtain ⟨b, ys, e2, hy, db⟩ := s2.ghd'.tupE
    cases e2
    have hq : SqT K H' a ys := SqT.of (wo_some hy).2
    by_cases hlt : j < ds.length
    · have hjy : j < ys.length := by rw [db.length]; exact hlt
      refine .inr ⟨⟨ys, ys[j], hq, by simp [hjy]⟩, fun σ H => ∃ μ ρ, I (j + 1) μ ρ ∧ Sat C ⟨fh, fw, fb, fv, (.ref a, .tuple ds) :: fg⟩ μ ρ σ H, fun σ3 H3 z => ⟨ds.length - (j + 1), by omega, rfl, hlt, z⟩, fun x H3 y => ?_⟩
      obtain ⟨e3, y⟩ := y
      subst e3
      obtain ⟨d, hdj, hxd⟩ := db.getV (y ys hq)
      exact hg d (List.mem_of_getElem? hdj) ⟨fh, fw, fb, fv, (.ref a, .tuple ds) :: fg⟩ μ' ρ' σ' H3 x s2 hxd _ fun σ4 s4 => hs j d hdj _ μ' ρ' σ4 H3 hI s4
    · have ej : j = ds.length := by omega
      subst ej
      exact .inl ⟨⟨ys, hq, by rw [db.length]; exact Nat.le_refl _⟩, hd μ' ρ' σ' H' hI s2.gdrop'⟩
theorem s_forL {fh : Hp} {fw fb fv : List Addr} {fg : List (V × PyData)} {K : PySem.W.Frag} {g : TG} {tb : TS} {ds : List PyData} {up : PyData → List SV → List SV} (I : Nat → List MO → List SV → Prop) (S : Sat C ⟨fh, fw, fb, fv, fg⟩ μ ρ σ H) (h : JE C μ ρ te (· = .list ds)) (hg : ∀ d ∈ ds, JG C g d (up d)) (h0 : I 0 μ ρ)
    (hs : ∀ j d, ds[j]? = some d → ∀ v μ' ρ' σ' H', I j μ' ρ' → Sat C ⟨fh, fw, fb, fv, (v, .list ds) :: fg⟩ μ' (up d ρ') σ' H' →
      tb ⟨fun σ H => ∃ μ ρ, I (j + 1) μ ρ ∧ Sat C ⟨fh, fw, fb, fv, (v, .list ds) :: fg⟩ μ ρ σ H, rt, nx, fun σ H => ∃ μ ρ, I (j + 1) μ ρ ∧ Sat C ⟨fh, fw, fb, fv, (v, .list ds) :: fg⟩ μ ρ σ H⟩ σ' H')
    (hd : ∀ μ' ρ' σ' H', I ds.length μ' ρ' → Sat C ⟨fh, fw, fb, fv, fg⟩ μ' ρ' σ' H' → nx σ' H') : tFor (iList K te) g tb ⟨nx, rt, bk, ct⟩ σ H :=
  h ⟨fh, fw, fb, fv, fg⟩ σ H S _ fun v H1 d pd s1 e1 d1 => by
    subst pd
    have d2 := d1
    obtain ⟨a, xs, rfl, hx, da⟩ := id d1.lstE
    refine ⟨a, rfl, ⟨_, SqL.of (wo_some hx).2⟩, fun j m σ H => m = ds.length - j ∧ j ≤ ds.length ∧ ∃ μ ρ, I j μ ρ ∧ Sat C ⟨fh, fw, fb, fv, (.ref a, .list ds) :: fg⟩ μ ρ σ H, ⟨ds.length, rfl, Nat.zero_le _, μ, ρ, h0, s1.gadd' d2⟩, ?_⟩
    rintro j m σ' H' ⟨rfl, hj, μ', ρ', hI, s2⟩
    obtain ⟨b, ys, e2, hy, db⟩ := s2.ghd'.lstE
    cases e2
    have hq : SqL K H' a ys := SqL.of (wo_some hy).2
    by_cases hlt : j < ds.length
    · have hjy : j < ys.length := by rw [db.length]; exact hlt
      refine .inr ⟨⟨ys, ys[j], hq, by simp [hjy]⟩, fun σ H => ∃ μ ρ, I (j + 1) μ ρ ∧ Sat C ⟨fh, fw, fb, fv, (.ref a, .list ds) :: fg⟩ μ ρ σ H, fun σ3 H3 z => ⟨ds.length - (j + 1), by omega, rfl, hlt, z⟩, fun x H3 y => ?_⟩
      obtain ⟨e3, y⟩ := y
      subst e3
      obtain ⟨d, hdj, hxd⟩ := db.getV (y ys hq)
      exact hg d (List.mem_of_getElem? hdj) ⟨fh, fw, fb, fv, (.ref a, .list ds) :: fg⟩ μ' ρ' σ' H3 x s2 hxd _ fun σ4 s4 => hs j d hdj _ μ' ρ' σ4 H3 hI s4
    · have ej : j = ds.length := by omega
      subst ej
      exact .inl ⟨⟨ys, hq, by rw [db.length]; exact Nat.le_refl _⟩, hd μ' ρ' σ' H' hI s2.gdrop'⟩
theorem s_forR {tb : TS} {ta : TA} {n i : Nat} (I : Nat → List MO → List SV → Prop) (S : Sat C F μ ρ σ H) (h : JA C μ ρ ta (· = [.int (n : Int)])) (hn : n ≤ 10000) (h0 : I 0 μ ρ)
    (hs : ∀ j, j < n → ∀ μ' ρ' σ' H', I j μ' ρ' → Sat C F μ' (ρ'.set i (.d (.int (j : Int)))) σ' H' →
      tb ⟨fun σ H => ∃ μ ρ, I (j + 1) μ ρ ∧ Sat C F μ ρ σ H, rt, nx, fun σ H => ∃ μ ρ, I (j + 1) μ ρ ∧ Sat C F μ ρ σ H⟩ σ' H')
    (hd : ∀ μ' ρ' σ' H', I n μ' ρ' → Sat C F μ' ρ' σ' H' → nx σ' H') : tFor (iRng1 ta) (gName i) tb ⟨nx, rt, bk, ct⟩ σ H :=
  h F σ H S _ fun vs H1 d pd s1 e1 d1 => by
    subst pd
    cases d1 with
    | cons d1 dn =>
      cases dn
      refine ⟨(n : Int), by rw [d1.intE], by omega, by omega, for_range (lo := 0) (n := (n : Int).toNat) (fun j σ H => ∃ μ ρ, I j μ ρ ∧ Sat C F μ ρ σ H) ⟨μ, ρ, h0, s1⟩ ?_ ?_⟩
      · rintro j σ' H' hj ⟨μ', ρ', hI, s2⟩
        rw [Int.zero_add]
        exact hs j (by omega) μ' ρ' _ H' hI (s2.setd (.int _))
      · rintro σ' H' ⟨μ', ρ', hI, s2⟩
        rw [Int.toNat_natCast] at hI
        exact hd μ' ρ' σ' H' hI s2
end
/-- a def that changes nothing, by its body -/
theorem okP {P : Program} {w : World} {K : PySem.W.Frag} {mg : Str → Option Value} {base : Heap} {C : Addr} {R : Rel} {x qual : Str} {st : Stmt} {f : Addr} {fd : FuncData} {N ps : List Str} {k : Nat} (F : Fun K x qual st f fd) (S : FnScope N ps (defScope st))
    (len : ∀ ds P, R ds P → ds.length = ps.length)
    (hbody : ∀ (cdv : Value) (A : Around) (outer : List Env) (s : Shared) (H : Hp) (E : XK), Room k (A.deeper (PyProof.Rows.envOfC qual (defScope st) s.heap.objs.size f cdv)) →
      ∃ t, PSs (cxOf CX0 P w K mg base N qual (defScope st) f cdv A outer s H E).nox (defBody st) t ∧
        ∀ (B : List Addr) (σ : St) (ds : List PyData) (P' : PyData → Prop) (Q : VK), R ds P' → Sat C ⟨H, [], B, [], []⟩ [] (ρ0 N ds) σ H → (∀ v H' d, P' d → Ex H H' → Dt C (wo B H') v d → Q v H') → t { nx := fun _ H' => Q .non H', rt := Q } σ H) :
    FnOk P w K mg base CX0 (k + 1) f fd ps (spP C R) := by
  refine F.ok S (fun vs H Q E h => ?_) (fun cdv A outer s H vs Q E hr h => ?_)
  · obtain ⟨B, ds, P', al, da, r, _⟩ := h
    rw [da.length]; exact len ds P' r
  · obtain ⟨B, ds, P', al, da, r, q⟩ := h
    obtain ⟨t, ht, hq⟩ := hbody cdv A outer s H E hr
    exact ⟨t, ht, hq B _ ds P' Q r (satP al da) q⟩
/-- a def that draws, by its body -/
theorem okH {P : Program} {w : World} {K : PySem.W.Frag} {mg : Str → Option Value} {base : Heap} {C : Addr} {R : Rel} {x qual : Str} {st : Stmt} {f : Addr} {fd : FuncData} {N ps : List Str} {k : Nat} (F : Fun K x qual st f fd) (S : FnScope N ps (defScope st))
    (len : ∀ ds P, R ds P → ds.length + 1 = ps.length)
    (hbody : ∀ (cdv : Value) (A : Around) (outer : List Env) (s : Shared) (H : Hp) (E : XK), Room k (A.deeper (PyProof.Rows.envOfC qual (defScope st) s.heap.objs.size f cdv)) →
      ∃ t, PSs (cxOf CX0 P w K mg base N qual (defScope st) f cdv A outer s H E).nox (defBody st) t ∧
        ∀ (B : List Addr) (h : Addr) (σ : St) (ds : List PyData) (P' : PyData → Prop) (Q : VK), h ∈ B → R ds P' → Sat C ⟨H, [h], B, [h], []⟩ [.hand] (.m 0 :: (ds.map SV.d ++ List.replicate (N.length - (ds.length + 1)) .un)) σ H →
          (∀ v H' d, P' d → ExB [h] H H' → MoAt C B H' h .hand → Dt C (wo B H') v d → Q v H') → t { nx := fun _ H' => Q .non H', rt := Q } σ H) :
    FnOk P w K mg base CX0 (k + 1) f fd ps (spH C R) := by
  refine F.ok S (fun vs H Q E h => ?_) (fun cdv A outer s H vs Q E hr h => ?_)
  · obtain ⟨B, h, vs', ds, P', rfl, hB, al, m, da, r, _⟩ := h
    rw [List.length_cons, da.length]; exact len ds P' r
  · obtain ⟨B, h, vs', ds, P', rfl, hB, al, m, da, r, q⟩ := h
    obtain ⟨t, ht, hq⟩ := hbody cdv A outer s H E hr
    exact ⟨t, ht, hq B h _ ds P' Q hB r (satH hB al m da) q⟩
end KG
/-! The mirror: steps, programs, facts, and what facts make of programs; no program in sight. -/
namespace KG

inductive Kd where
  | any | kept | adds
  deriving DecidableEq
structure Stp where
  c : Int
  k : Kd
  b : List Int
  n : Int
  deriving DecidableEq
abbrev Prg := List Stp
inductive Fct where
  | without (p k q : Nat)
  | kept (p k : Nat)
  | adds (p k : Nat)
  | same (p k p' k' : Nat)
  deriving DecidableEq
def Fct.isSame : Fct → Bool
  | .same .. => true
  | _ => false
def Fct.p : Fct → Nat
  | .without p _ _ => p
  | .kept p _ => p
  | .adds p _ => p
  | .same p _ _ _ => p
def Fct.k : Fct → Nat
  | .without _ k _ => k
  | .kept _ k => k
  | .adds _ k => k
  | .same _ k _ _ => k
def s0 : Stp := ⟨0, .kept, [], -1⟩

/-! ### a good lot -/
def Asc : Int → Int → List Int → Prop
  | _, _, [] => True
  | lo, hi, x :: xs => lo + 1 ≤ x ∧ x ≤ hi ∧ Asc x hi xs
def lastP (k : Kd) (pl : Nat) : Int := match k with
  | .any => pl
  | .adds => (pl : Int) - 1
  | .kept => -1
structure StepOk (c : Int) (pl : Nat) (s : Stp) : Prop where
  cell : 0 ≤ s.c ∧ s.c ≤ c - 1
  asc : Asc (-1) (lastP s.k pl) s.b
  nk : s.k = .kept → s.n = -1
  nn : s.k ≠ .kept → 0 ≤ s.n ∧ s.n ≤ 99
def shape (s : Stp) : Kd × Nat × Int := (s.k, s.b.length, if s.k = .adds then s.c else -1)
structure ProgOk (c : Int) (p : Prg) : Prop where
  len : 1 ≤ p.length ∧ p.length ≤ 4
  st : ∀ k s, p[k]? = some s → StepOk c k s
  na : ∀ s ∈ p, ∀ q ∈ s.b, ∀ t, p[q.toNat]? = some t → t.k ≠ .adds
def Con (L : List Stp) : Prop := ∀ s ∈ L, ∀ t ∈ L, s.k ≠ .kept → t.k ≠ .kept → s.n = t.n → shape s = shape t
structure LotOk (c : Int) (ps : List Prg) : Prop where
  cells : 1 ≤ c ∧ c ≤ 3
  len : 1 ≤ ps.length ∧ ps.length ≤ 3
  pr : ∀ p ∈ ps, ProgOk c p
  total : (ps.map List.length).sum ≤ 7
  con : Con ps.flatten
theorem Asc.lo {lo lo' hi : Int} (h : lo' ≤ lo) : ∀ {xs : List Int}, Asc lo hi xs → Asc lo' hi xs
  | [], _ => trivial
  | _ :: _, ⟨a, b, c⟩ => ⟨by omega, b, c⟩
theorem Asc.filter {hi : Int} (P : Int → Bool) : ∀ {lo : Int} {xs : List Int}, Asc lo hi xs → Asc lo hi (xs.filter P)
  | _, [], _ => trivial
  | lo, x :: xs, ⟨a, b, c⟩ => by
    rw [List.filter_cons]
    split
    · exact ⟨a, b, Asc.filter P c⟩
    · exact (Asc.filter P c).lo (by omega)
theorem Asc.mem {hi : Int} : ∀ {lo : Int} {xs : List Int}, Asc lo hi xs → ∀ x ∈ xs, lo + 1 ≤ x ∧ x ≤ hi
  | _, [], _, _, h => by cases h
  | lo, x :: xs, ⟨a, b, c⟩, y, h => by
    rcases List.mem_cons.mp h with e | h
    · subst e; exact ⟨a, b⟩
    · have := Asc.mem c y h; omega
theorem Asc.hi {hi hi' : Int} : ∀ {lo : Int} {xs : List Int}, Asc lo hi xs → (∀ x ∈ xs, x ≤ hi') → Asc lo hi' xs
  | _, [], _, _ => trivial
  | _, x :: _, ⟨a, _, c⟩, h => ⟨a, h x List.mem_cons_self, Asc.hi c fun y hy => h y (List.mem_cons_of_mem _ hy)⟩

/-! ### what a fact makes of steps -/
def dropQ (b : List Int) (q : Int) : List Int := b.filter fun k => !decide (k = q)
def chg (s : Stp) (k : Nat) : Fct → Stp
  | .without _ k' q => if k = k' then ⟨s.c, s.k, dropQ s.b (q : Int), s.n⟩ else s
  | .kept _ k' => if k = k' then ⟨s.c, .kept, [], -1⟩ else s
  | .adds _ k' => if k = k' then ⟨s.c, .adds, dropQ s.b (k' : Int), s.n⟩ else ⟨s.c, s.k, dropQ s.b (k' : Int), s.n⟩
  | .same .. => s
def clash (s : Stp) (k : Nat) : Fct → Bool
  | .without _ _ q => !decide (s.k = .any) && decide (q = k)
  | .kept _ _ => match s.k with
    | .any => !decide ((k : Int) ∈ s.b)
    | .adds => true
    | .kept => false
  | .adds _ _ => match s.k with
    | .any => !decide ((k : Int) ∈ s.b)
    | .kept => true
    | .adds => false
  | .same .. => false
def taken (p : Prg) (f : Fct) : Prg := (List.range p.length).map fun k => chg (p.getD k s0) k f
def cnt (ps : List Prg) (n : Int) : Nat := (ps.map fun p => (p.filter fun s => decide (s.n = n)).length).sum
def moved (ps : List Prg) (p : Prg) (f : Fct) (j : Nat) : Bool := !decide (chg (p.getD j s0) j f = p.getD j s0) && decide (1 < cnt ps (p.getD j s0).n)
def wpf (ps : List Prg) (f : Fct) : Option (List Prg) :=
  let p := ps.getD f.p []
  if clash (p.getD f.k s0) f.k f = true then none else if (List.range p.length).any (moved ps p f) = true then none else some (ps.set f.p (taken p f))
def ren (lo hi : Int) (s : Stp) : Stp := ⟨s.c, s.k, s.b, if s.n = hi then lo else s.n⟩
def stAt (ps : List Prg) (p k : Nat) : Stp := (ps.getD p []).getD k s0
def wsm (ps : List Prg) (a b : Stp) : Option (List Prg) :=
  if a.k = .kept ∨ shape a ≠ shape b then none else some (ps.map fun p => p.map (ren (min a.n b.n) (max a.n b.n)))
def wsf (ps : List Prg) : Fct → Option (List Prg)
  | .same p k p' k' => wsm ps (stAt ps p k) (stAt ps p' k')
  | _ => none
def isAt (ps : List Prg) (p k : Nat) : Bool := decide (p < ps.length) && decide (k < (ps.getD p []).length)
def okF (ps : List Prg) : Fct → Bool
  | .without p k q => isAt ps p k && decide (q ≤ k)
  | .kept p k => isAt ps p k
  | .adds p k => isAt ps p k
  | .same p k p' k' => isAt ps p k && isAt ps p' k' && (decide (p < p') || decide (p = p') && decide (k < k'))
def pass1 : List Fct → Nat → List Prg → Except Int (List Prg)
  | [], _, ps => .ok ps
  | f :: fs, i, ps => if f.isSame = true then pass1 fs (i + 1) ps else match wpf ps f with
    | none => .error i
    | some ps' => pass1 fs (i + 1) ps'
def pass2 : List Fct → Nat → List Prg → Except Int (List Prg)
  | [], _, ps => .ok ps
  | f :: fs, i, ps => if f.isSame = true then (match wsf ps f with
    | none => .error i
    | some ps' => pass2 fs (i + 1) ps') else pass2 fs (i + 1) ps
def withF (ps : List Prg) (fs : List Fct) : Except Int (List Prg) := match pass1 fs 0 ps with
  | .error i => .error i
  | .ok ps' => pass2 fs 0 ps'
def sizes (ps : List Prg) : List Nat := ps.map List.length

/-! ### the sizes stay -/
theorem getD_of {α : Type} {xs : List α} {i : Nat} {x d : α} (h : xs[i]? = some x) : xs.getD i d = x := by rw [List.getD_eq_getElem?_getD, h]; rfl
theorem get_of_lt {α : Type} {xs : List α} {i : Nat} (d : α) (h : i < xs.length) : xs[i]? = some (xs.getD i d) := by rw [List.getD_eq_getElem?_getD, List.getElem?_eq_getElem h]; rfl
theorem taken_len (p : Prg) (f : Fct) : (taken p f).length = p.length := by unfold taken; rw [List.length_map, List.length_range]
theorem taken_get {p : Prg} {f : Fct} {j : Nat} {s : Stp} (h : p[j]? = some s) : (taken p f)[j]? = some (chg s j f) := by
  have hj := (List.getElem?_eq_some_iff.mp h).1
  unfold taken
  rw [List.getElem?_map, List.getElem?_range hj]
  simp only [Option.map_some, getD_of h]
theorem sizes_set {ps : List Prg} {i : Nat} {p : Prg} (h : p.length = (ps.getD i []).length) : sizes (ps.set i p) = sizes ps := by
  unfold sizes
  rw [List.map_set]
  by_cases hi : i < ps.length
  · have e : (ps.map List.length)[i]? = some p.length := by rw [List.getElem?_map, get_of_lt [] hi, h]; rfl
    exact List.ext_getElem? fun j => by
      by_cases hj : i = j
      · subst hj; rw [List.getElem?_set_self (by simpa using hi), e]
      · rw [List.getElem?_set_ne hj]
  · rw [List.set_eq_of_length_le (by simpa using Nat.le_of_not_lt hi)]
theorem wpf_sizes {ps ps' : List Prg} {f : Fct} (h : wpf ps f = some ps') : sizes ps' = sizes ps := by
  unfold wpf at h
  dsimp only at h
  split at h
  · cases h
  · split at h
    · cases h
    · cases h; exact sizes_set (taken_len _ _)
theorem wsm_sizes {ps ps' : List Prg} {a b : Stp} (h : wsm ps a b = some ps') : sizes ps' = sizes ps := by
  unfold wsm at h
  split at h
  · cases h
  · cases h
    unfold sizes
    rw [List.map_map]
    exact List.map_congr_left fun p _ => by simp
theorem wsf_sizes {ps ps' : List Prg} {f : Fct} (h : wsf ps f = some ps') : sizes ps' = sizes ps := by
  cases f with
  | same p k p' k' => exact wsm_sizes h
  | _ => cases h
theorem isAt_sizes {ps ps' : List Prg} (h : sizes ps' = sizes ps) (p k : Nat) : isAt ps' p k = isAt ps p k := by
  have e1 : ps'.length = ps.length := by have := congrArg List.length h; simpa [sizes] using this
  have e2 : (ps'.getD p []).length = (ps.getD p []).length := by
    have q : (sizes ps').getD p 0 = (sizes ps).getD p 0 := by rw [h]
    unfold sizes at q
    rw [List.getD_eq_getElem?_getD, List.getD_eq_getElem?_getD, List.getElem?_map, List.getElem?_map] at q
    rw [List.getD_eq_getElem?_getD, List.getD_eq_getElem?_getD]
    cases h1 : ps'[p]? <;> cases h2 : ps[p]? <;> simp_all
  unfold isAt
  rw [e1, e2]
theorem okF_sizes {ps ps' : List Prg} (h : sizes ps' = sizes ps) (f : Fct) : okF ps' f = okF ps f := by
  cases f <;> simp only [okF, isAt_sizes h]
end KG
/-! What facts make of a good lot is a good lot. -/
namespace KG
open PySem

theorem dropQ_mem {b : List Int} {q x : Int} : x ∈ dropQ b q ↔ x ∈ b ∧ x ≠ q := by
  unfold dropQ
  rw [List.mem_filter]
  simp
theorem chg_sub {s : Stp} {j : Nat} {f : Fct} {q : Int} (h : q ∈ (chg s j f).b) : q ∈ s.b := by
  cases f with
  | without p k z =>
    simp only [chg] at h
    split at h
    · exact (dropQ_mem.mp h).1
    · exact h
  | kept p k =>
    simp only [chg] at h
    split at h
    · cases h
    · exact h
  | adds p k =>
    simp only [chg] at h
    split at h
    · exact (dropQ_mem.mp h).1
    · exact (dropQ_mem.mp h).1
  | same => exact h
theorem chg_adds {s : Stp} {j p k : Nat} {q : Int} (h : q ∈ (chg s j (.adds p k)).b) : q ≠ (k : Int) := by
  simp only [chg] at h
  split at h
  · exact (dropQ_mem.mp h).2
  · exact (dropQ_mem.mp h).2
theorem chg_kind {s : Stp} {j : Nat} {f : Fct} (h : (chg s j f).k = .adds) : s.k = .adds ∨ ∃ p, f = .adds p j := by
  cases f with
  | without p k z =>
    simp only [chg] at h
    split at h
    · exact .inl h
    · exact .inl h
  | kept p k =>
    simp only [chg] at h
    split at h
    · cases h
    · exact .inl h
  | adds p k =>
    simp only [chg] at h
    split at h
    · rename_i e; subst e; exact .inr ⟨p, rfl⟩
    · exact .inl h
  | same => exact .inl h
theorem chg_ok {c : Int} {s : Stp} {j : Nat} {f : Fct} (h : StepOk c j s) (hc : j = f.k → clash s j f = false) : StepOk c j (chg s j f) := by
  cases f with
  | without p k z =>
    simp only [chg]
    split
    · exact ⟨h.cell, h.asc.filter _, h.nk, h.nn⟩
    · exact h
  | kept p k =>
    simp only [chg]
    split
    · exact ⟨h.cell, trivial, fun _ => rfl, fun e => absurd rfl e⟩
    · exact h
  | adds p k =>
    simp only [chg]
    split
    · rename_i e
      have hc1 := hc e
      simp only [clash] at hc1
      subst e
      have nk : s.k ≠ .kept := fun e => by rw [e] at hc1; cases hc1
      refine ⟨h.cell, ?_, fun e => (by cases e), fun _ => h.nn nk⟩
      show Asc (-1) ((j : Int) - 1) (dropQ s.b (j : Int))
      refine (h.asc.filter _).hi fun x hx => ?_
      obtain ⟨h1, h2⟩ := dropQ_mem.mp hx
      have h3 := (h.asc.mem x h1).2
      have : lastP s.k j ≤ (j : Int) := by unfold lastP; split <;> omega
      omega
    · exact ⟨h.cell, h.asc.filter _, h.nk, h.nn⟩
  | same => exact h
theorem chg_nk {s : Stp} {j : Nat} {f : Fct} (hc : j = f.k → clash s j f = false) (h : (chg s j f).k ≠ .kept) : s.k ≠ .kept ∧ (chg s j f).n = s.n := by
  cases f with
  | without p k z =>
    simp only [chg] at h ⊢
    split
    · rename_i e; rw [if_pos e] at h; exact ⟨h, rfl⟩
    · rename_i e; rw [if_neg e] at h; exact ⟨h, rfl⟩
  | kept p k =>
    simp only [chg] at h ⊢
    split
    · rename_i e; rw [if_pos e] at h; exact absurd rfl h
    · rename_i e; rw [if_neg e] at h; exact ⟨h, rfl⟩
  | adds p k =>
    simp only [chg] at h ⊢
    split
    · rename_i e
      have hc := hc e
      simp only [clash] at hc
      exact ⟨fun e => (by rw [e] at hc; cases hc), rfl⟩
    · rename_i e; rw [if_neg e] at h; exact ⟨h, rfl⟩
  | same => exact ⟨h, rfl⟩
theorem taken_mem {p : Prg} {f : Fct} {s' : Stp} (h : s' ∈ taken p f) : ∃ j s, p[j]? = some s ∧ s' = chg s j f := by
  unfold taken at h
  obtain ⟨j, hj, rfl⟩ := List.mem_map.mp h
  have hj := List.mem_range.mp hj
  exact ⟨j, p.getD j s0, get_of_lt s0 hj, rfl⟩
theorem taken_getI {p : Prg} {f : Fct} {j : Nat} {s' : Stp} (h : (taken p f)[j]? = some s') : ∃ s, p[j]? = some s ∧ s' = chg s j f := by
  have hj : j < p.length := by have := (List.getElem?_eq_some_iff.mp h).1; rwa [taken_len] at this
  have e := get_of_lt s0 hj
  rw [taken_get e] at h
  cases h
  exact ⟨_, e, rfl⟩
theorem taken_ok {c : Int} {p : Prg} {f : Fct} (h : ProgOk c p) (hc : clash (p.getD f.k s0) f.k f = false) : ProgOk c (taken p f) := by
  have hcl : ∀ j s, p[j]? = some s → j = f.k → clash s j f = false := fun j s hs e => by
    subst e; rw [getD_of hs] at hc; exact hc
  refine ⟨by rw [taken_len]; exact h.len, fun j s' hs' => ?_, fun s' hs' q hq t' ht' => ?_⟩
  · obtain ⟨s, hs, rfl⟩ := taken_getI hs'
    exact chg_ok (h.st j s hs) (hcl j s hs)
  · obtain ⟨j, s, hs, rfl⟩ := taken_mem hs'
    obtain ⟨t, ht, rfl⟩ := taken_getI ht'
    intro e
    rcases chg_kind e with e | ⟨pp, e⟩
    · exact h.na s (List.mem_of_getElem? hs) q (chg_sub hq) t ht e
    · subst e
      have h1 := chg_adds hq
      have h2 := ((h.st j s hs).asc.mem q (chg_sub hq)).1
      omega
theorem cnt_flat (ps : List Prg) (n : Int) : cnt ps n = (ps.flatten.filter fun s => decide (s.n = n)).length := by
  unfold cnt
  rw [List.filter_flatten, List.length_flatten, List.map_map]
  rfl
theorem two_pos {P : Stp → Bool} : ∀ {L : List Stp} {i j : Nat} {a b : Stp}, (L.filter P).length ≤ 1 → L[i]? = some a → L[j]? = some b → P a = true → P b = true → i = j
  | [], _, _, _, _, _, h, _, _, _ => by simp at h
  | x :: L, 0, 0, _, _, _, _, _, _, _ => rfl
  | x :: L, 0, j + 1, a, b, hl, h1, h2, pa, pb => by
    simp at h1 h2
    subst h1
    rw [List.filter_cons, if_pos pa, List.length_cons] at hl
    have : b ∈ L.filter P := List.mem_filter.mpr ⟨List.mem_of_getElem? h2, pb⟩
    have : 0 < (L.filter P).length := List.length_pos_of_mem this
    omega
  | x :: L, i + 1, 0, a, b, hl, h1, h2, pa, pb => by
    simp at h1 h2
    subst h2
    rw [List.filter_cons, if_pos pb, List.length_cons] at hl
    have : a ∈ L.filter P := List.mem_filter.mpr ⟨List.mem_of_getElem? h1, pa⟩
    have : 0 < (L.filter P).length := List.length_pos_of_mem this
    omega
  | x :: L, i + 1, j + 1, a, b, hl, h1, h2, pa, pb => by
    simp at h1 h2
    rw [List.filter_cons] at hl
    have : (L.filter P).length ≤ 1 := by
      split at hl
      · rw [List.length_cons] at hl; omega
      · exact hl
    rw [two_pos this h1 h2 pa pb]
theorem paired_app {α β : Type} {F : α → β → Prop} : ∀ {l l' : List α} {m m' : List β}, Paired F l m → Paired F l' m' → Paired F (l ++ l') (m ++ m')
  | _, _, _, _, .nil, b => b
  | _, _, _, _, .cons r t, b => .cons r (paired_app t b)
theorem paired_refl {α : Type} {F : α → α → Prop} (h : ∀ a, F a a) : ∀ l : List α, Paired F l l
  | [] => .nil
  | a :: l => .cons (h a) (paired_refl h l)
theorem flat_rel {R : Stp → Stp → Prop} (rf : ∀ a, R a a) {q : Prg} : ∀ {ps : List Prg} {i : Nat}, (i < ps.length → Paired R (ps.getD i []) q) → Paired R ps.flatten (ps.set i q).flatten
  | [], _, _ => by simpa using Paired.nil
  | p :: ps, 0, h => by
    rw [List.set_cons_zero, List.flatten_cons, List.flatten_cons]
    exact paired_app (by simpa using h (by simp)) (paired_refl rf _)
  | p :: ps, i + 1, h => by
    rw [List.set_cons_succ, List.flatten_cons, List.flatten_cons]
    exact paired_app (paired_refl rf _) (flat_rel rf fun hi => by simpa using h (by simpa using hi))
theorem paired_ix {α β : Type} {F : α → β → Prop} : ∀ {l : List α} {m : List β}, l.length = m.length → (∀ (i : Nat) (a : α) (b : β), l[i]? = some a → m[i]? = some b → F a b) → Paired F l m
  | [], [], _, _ => .nil
  | [], _ :: _, h, _ => by simp at h
  | _ :: _, [], h, _ => by simp at h
  | a :: l, b :: m, h, k => .cons (k 0 a b rfl rfl) (paired_ix (by simpa using h) fun i x y e1 e2 => k (i + 1) x y (by simpa using e1) (by simpa using e2))
theorem set_total {ps ps' : List Prg} (h : sizes ps' = sizes ps) : (ps'.map List.length).sum = (ps.map List.length).sum := by
  show (sizes ps').sum = (sizes ps).sum
  rw [h]
theorem sizes_len {ps ps' : List Prg} (h : sizes ps' = sizes ps) : ps'.length = ps.length := by have := congrArg List.length h; simpa [sizes] using this
theorem wpf_ok {c : Int} {ps ps' : List Prg} {f : Fct} (L : LotOk c ps) (hi : f.p < ps.length) (h : wpf ps f = some ps') : LotOk c ps' := by
  have hz := wpf_sizes h
  unfold wpf at h
  dsimp only at h
  split at h
  · cases h
  rename_i hcl
  have hcl : clash ((ps.getD f.p []).getD f.k s0) f.k f = false := by simpa using hcl
  split at h
  · cases h
  rename_i hmv
  cases h
  have hp : ps.getD f.p [] ∈ ps := List.mem_of_getElem? (get_of_lt [] hi)
  have hclj : ∀ j s, (ps.getD f.p [])[j]? = some s → j = f.k → clash s j f = false := fun j s hs e => by
    subst e; rw [getD_of hs] at hcl; exact hcl
  refine ⟨L.cells, by rw [sizes_len hz]; exact L.len, fun q hq => ?_, by rw [set_total hz]; exact L.total, ?_⟩
  · rcases List.mem_or_eq_of_mem_set hq with z | z
    · exact L.pr q z
    · rw [z]; exact taken_ok (L.pr _ hp) hcl
  · let R : Stp → Stp → Prop := fun a a' => a' = a ∨ (cnt ps a.n ≤ 1 ∧ (a'.k ≠ .kept → a.k ≠ .kept ∧ a'.n = a.n))
    have pr : Paired R ps.flatten (ps.set f.p (taken (ps.getD f.p []) f)).flatten := flat_rel (fun a => .inl rfl) fun _ => paired_ix (taken_len _ _).symm fun j a a' e1 e2 => by
      rw [taken_get e1] at e2
      cases e2
      by_cases e : chg a j f = a
      · exact .inl e
      · refine .inr ⟨?_, chg_nk (hclj j a e1)⟩
        have hj := (List.getElem?_eq_some_iff.mp e1).1
        have q : moved ps (ps.getD f.p []) f j = false := by
          cases z : moved ps (ps.getD f.p []) f j with
          | false => rfl
          | true => exact absurd (List.any_eq_true.mpr ⟨j, List.mem_range.mpr hj, z⟩) hmv
        unfold moved at q
        rw [getD_of e1] at q
        simp [e] at q
        exact q
    intro s' hs' t' ht' ks kt en
    obtain ⟨i, hi', e1⟩ := List.mem_iff_getElem?.mp hs' |>.imp fun i h => (⟨trivial, h⟩ : True ∧ _)
    obtain ⟨j, hj', e2⟩ := List.mem_iff_getElem?.mp ht' |>.imp fun i h => (⟨trivial, h⟩ : True ∧ _)
    obtain ⟨a, ha, ra⟩ := paired_get pr e1
    obtain ⟨b, hb, rb⟩ := paired_get pr e2
    have na : a.k ≠ .kept ∧ s'.n = a.n := by
      rcases ra with z | z
      · rw [← z]; exact ⟨ks, rfl⟩
      · exact z.2 ks
    have nb : b.k ≠ .kept ∧ t'.n = b.n := by
      rcases rb with z | z
      · rw [← z]; exact ⟨kt, rfl⟩
      · exact z.2 kt
    have same : cnt ps a.n ≤ 1 → shape s' = shape t' := fun hc => by
      rw [cnt_flat] at hc
      have e : i = j := two_pos hc ha hb (by simp) (by simp; rw [← na.2, ← nb.2, en])
      subst e
      rw [e1] at e2
      cases e2
      rfl
    rcases ra with za | za
    · rcases rb with zb | zb
      · rw [za, zb]
        rw [za] at en ks
        rw [zb] at en kt
        exact L.con a (List.mem_of_getElem? ha) b (List.mem_of_getElem? hb) ks kt en
      · exact same (by rw [← na.2, en, nb.2]; exact zb.1)
    · exact same za.1
theorem ren_shape (lo hi : Int) (s : Stp) : shape (ren lo hi s) = shape s := rfl
theorem wsm_ok {c : Int} {ps ps' : List Prg} {a b : Stp} (L : LotOk c ps) (ha : a ∈ ps.flatten) (hb : b ∈ ps.flatten) (h : wsm ps a b = some ps') : LotOk c ps' := by
  have hz := wsm_sizes h
  unfold wsm at h
  split at h
  · cases h
  rename_i hn
  have ka : a.k ≠ .kept := fun e => hn (.inl e)
  have sh : shape a = shape b := Decidable.of_not_not fun e => hn (.inr e)
  have kb : b.k ≠ .kept := fun e => ka (by have := congrArg Prod.fst sh; exact this.trans e)
  cases h
  have okS : ∀ s ∈ ps.flatten, s.k ≠ .kept → 0 ≤ s.n ∧ s.n ≤ 99 := fun s hs hk => by
    obtain ⟨p, hp, hs⟩ := List.mem_flatten.mp hs
    obtain ⟨i, hi⟩ := List.mem_iff_getElem?.mp hs
    exact ((L.pr p hp).st i s hi).nn hk
  have na := okS a ha ka
  have nb := okS b hb kb
  refine ⟨L.cells, by rw [sizes_len hz]; exact L.len, fun q hq => ?_, by rw [set_total hz]; exact L.total, ?_⟩
  · obtain ⟨p, hp, rfl⟩ := List.mem_map.mp hq
    have P := L.pr p hp
    refine ⟨by rw [List.length_map]; exact P.len, fun k s hs => ?_, fun s hs q hq t ht => ?_⟩
    · rw [List.getElem?_map] at hs
      cases e : p[k]? with
      | none => rw [e] at hs; cases hs
      | some s1 =>
        rw [e] at hs
        cases hs
        have S := P.st k s1 e
        refine ⟨S.cell, S.asc, fun hk => ?_, fun hk => ?_⟩
        · show (if s1.n = max a.n b.n then min a.n b.n else s1.n) = -1
          have := S.nk hk
          rw [if_neg (by omega)]; exact this
        · show 0 ≤ (if s1.n = max a.n b.n then min a.n b.n else s1.n) ∧ (if s1.n = max a.n b.n then min a.n b.n else s1.n) ≤ 99
          have := S.nn hk
          split <;> omega
    · obtain ⟨s1, hs1, rfl⟩ := List.mem_map.mp hs
      rw [List.getElem?_map] at ht
      cases e : p[q.toNat]? with
      | none => rw [e] at ht; cases ht
      | some t1 =>
        rw [e] at ht
        cases ht
        exact P.na s1 hs1 q hq t1 e
  · intro s hs t ht ks kt en
    have hs' : s ∈ ps.flatten.map (ren (min a.n b.n) (max a.n b.n)) := by rw [List.map_flatten]; exact hs
    have ht' : t ∈ ps.flatten.map (ren (min a.n b.n) (max a.n b.n)) := by rw [List.map_flatten]; exact ht
    obtain ⟨s1, h1, rfl⟩ := List.mem_map.mp hs'
    obtain ⟨t1, h2, rfl⟩ := List.mem_map.mp ht'
    rw [ren_shape, ren_shape]
    have ks1 : s1.k ≠ .kept := ks
    have kt1 : t1.k ≠ .kept := kt
    have en : (if s1.n = max a.n b.n then min a.n b.n else s1.n) = (if t1.n = max a.n b.n then min a.n b.n else t1.n) := en
    by_cases e : s1.n = t1.n
    · exact L.con s1 h1 t1 h2 ks1 kt1 e
    · have key : ∀ u ∈ ps.flatten, u.k ≠ .kept → (u.n = a.n ∨ u.n = b.n) → shape u = shape a := fun u hu ku z => by
        rcases z with z | z
        · exact L.con u hu a ha ku ka z
        · rw [sh]; exact L.con u hu b hb ku kb z
      have hs2 : s1.n = a.n ∨ s1.n = b.n := by
        split at en <;> split at en <;> omega
      have ht2 : t1.n = a.n ∨ t1.n = b.n := by
        split at en <;> split at en <;> omega
      rw [key s1 h1 ks1 hs2, key t1 h2 kt1 ht2]
theorem stAt_mem {ps : List Prg} {p k : Nat} (h : isAt ps p k = true) : stAt ps p k ∈ ps.flatten := by
  unfold isAt at h
  simp only [Bool.and_eq_true, decide_eq_true_eq] at h
  exact List.mem_flatten.mpr ⟨_, List.mem_of_getElem? (get_of_lt [] h.1), List.mem_of_getElem? (get_of_lt s0 h.2)⟩
theorem wsf_ok {c : Int} {ps ps' : List Prg} {f : Fct} (L : LotOk c ps) (hf : okF ps f = true) (h : wsf ps f = some ps') : LotOk c ps' := by
  cases f with
  | same p k p' k' =>
    simp only [okF, Bool.and_eq_true] at hf
    exact wsm_ok L (stAt_mem hf.1.1) (stAt_mem hf.1.2) h
  | _ => cases h
theorem okF_p {ps : List Prg} {f : Fct} (h : okF ps f = true) : isAt ps f.p f.k = true := by
  cases f <;> simp only [okF, Bool.and_eq_true] at h
  · exact h.1
  · exact h
  · exact h
  · exact h.1.1
theorem okF_lt {ps : List Prg} {f : Fct} (h : okF ps f = true) : f.p < ps.length := by
  have q := okF_p h
  unfold isAt at q
  simp only [Bool.and_eq_true, decide_eq_true_eq] at q
  exact q.1
theorem pass1_ok {c : Int} : ∀ {fs : List Fct} {i : Nat} {ps ps' : List Prg}, LotOk c ps → (∀ f ∈ fs, okF ps f = true) → pass1 fs i ps = .ok ps' → LotOk c ps' ∧ sizes ps' = sizes ps
  | [], _, ps, ps', L, _, h => by cases h; exact ⟨L, rfl⟩
  | f :: fs, i, ps, ps', L, hf, h => by
    unfold pass1 at h
    split at h
    · exact pass1_ok L (fun g hg => hf g (List.mem_cons_of_mem _ hg)) h
    · split at h
      · cases h
      · rename_i ps1 e
        have hz := wpf_sizes e
        obtain ⟨h1, h2⟩ := pass1_ok (wpf_ok L (okF_lt (hf f List.mem_cons_self)) e) (fun g hg => by rw [okF_sizes hz]; exact hf g (List.mem_cons_of_mem _ hg)) h
        exact ⟨h1, h2.trans hz⟩
theorem pass2_ok {c : Int} : ∀ {fs : List Fct} {i : Nat} {ps ps' : List Prg}, LotOk c ps → (∀ f ∈ fs, okF ps f = true) → pass2 fs i ps = .ok ps' → LotOk c ps' ∧ sizes ps' = sizes ps
  | [], _, ps, ps', L, _, h => by cases h; exact ⟨L, rfl⟩
  | f :: fs, i, ps, ps', L, hf, h => by
    unfold pass2 at h
    split at h
    · split at h
      · cases h
      · rename_i ps1 e
        have hz := wsf_sizes e
        obtain ⟨h1, h2⟩ := pass2_ok (wsf_ok L (hf f List.mem_cons_self) e) (fun g hg => by rw [okF_sizes hz]; exact hf g (List.mem_cons_of_mem _ hg)) h
        exact ⟨h1, h2.trans hz⟩
    · exact pass2_ok L (fun g hg => hf g (List.mem_cons_of_mem _ hg)) h
theorem withF_ok {c : Int} {fs : List Fct} {ps ps' : List Prg} (L : LotOk c ps) (hf : ∀ f ∈ fs, okF ps f = true) (h : withF ps fs = .ok ps') : LotOk c ps' := by
  unfold withF at h
  split at h
  · cases h
  · rename_i ps1 e
    obtain ⟨h1, h2⟩ := pass1_ok L hf e
    exact (pass2_ok h1 (fun g hg => by rw [okF_sizes h2]; exact hf g hg) h).1
end KG
/-! The cells floor; the lot with names of its own; told steps. -/
namespace KG
open PySem

theorem flat_len (ps : List Prg) : ps.flatten.length = (ps.map List.length).sum := by rw [List.length_flatten]
/-- a lot remade step by step: at the i-th step of all (by program, then by place) -/
def remP (g : Nat → Nat → Stp → Stp) (i : Nat) (p : Prg) : Prg := (List.range p.length).map fun k => g (i + k) k (p.getD k s0)
def remL (g : Nat → Nat → Stp → Stp) : Nat → List Prg → List Prg
  | _, [] => []
  | i, p :: ps => remP g i p :: remL g (i + p.length) ps
theorem remP_len (g : Nat → Nat → Stp → Stp) (i : Nat) (p : Prg) : (remP g i p).length = p.length := by unfold remP; rw [List.length_map, List.length_range]
theorem remP_get {g : Nat → Nat → Stp → Stp} {i : Nat} {p : Prg} {k : Nat} {s : Stp} (h : p[k]? = some s) : (remP g i p)[k]? = some (g (i + k) k s) := by
  have hk := (List.getElem?_eq_some_iff.mp h).1
  unfold remP
  rw [List.getElem?_map, List.getElem?_range hk]
  simp only [Option.map_some, getD_of h]
theorem remP_getI {g : Nat → Nat → Stp → Stp} {i : Nat} {p : Prg} {k : Nat} {s' : Stp} (h : (remP g i p)[k]? = some s') : ∃ s, p[k]? = some s ∧ s' = g (i + k) k s := by
  have hk : k < p.length := by have := (List.getElem?_eq_some_iff.mp h).1; rwa [remP_len] at this
  have e := get_of_lt s0 hk
  rw [remP_get e] at h
  cases h
  exact ⟨_, e, rfl⟩
theorem remL_sizes (g : Nat → Nat → Stp → Stp) : ∀ (i : Nat) (ps : List Prg), sizes (remL g i ps) = sizes ps
  | _, [] => rfl
  | i, p :: ps => by
    show (remP g i p).length :: sizes (remL g (i + p.length) ps) = p.length :: sizes ps
    rw [remP_len, remL_sizes g]
theorem remL_mem {g : Nat → Nat → Stp → Stp} : ∀ {i : Nat} {ps : List Prg} {q : Prg}, q ∈ remL g i ps → ∃ j p, p ∈ ps ∧ q = remP g j p ∧ j + p.length ≤ i + (ps.map List.length).sum
  | _, [], _, h => by cases h
  | i, p :: ps, q, h => by
    rcases List.mem_cons.mp h with e | h
    · exact ⟨i, p, List.mem_cons_self, e, by rw [List.map_cons, List.sum_cons]; omega⟩
    · obtain ⟨j, p', h1, h2, h3⟩ := remL_mem h
      exact ⟨j, p', List.mem_cons_of_mem _ h1, h2, by rw [List.map_cons, List.sum_cons]; omega⟩
theorem remL_flat {g : Nat → Nat → Stp → Stp} : ∀ {i : Nat} {ps : List Prg} {m : Nat} {s' : Stp}, (remL g i ps).flatten[m]? = some s' → ∃ k s, s ∈ ps.flatten ∧ s' = g (i + m) k s
  | _, [], m, _, h => by simp [remL] at h
  | i, p :: ps, m, s', h => by
    have h' : (remP g i p ++ (remL g (i + p.length) ps).flatten)[m]? = some s' := h
    by_cases hm : m < p.length
    · rw [List.getElem?_append_left (by rw [remP_len]; exact hm)] at h'
      obtain ⟨s, h1, h2⟩ := remP_getI h'
      exact ⟨m, s, List.mem_flatten.mpr ⟨p, List.mem_cons_self, List.mem_of_getElem? h1⟩, h2⟩
    · rw [List.getElem?_append_right (by rw [remP_len]; omega), remP_len] at h'
      obtain ⟨k, s, h1, h2⟩ := remL_flat h'
      refine ⟨k, s, ?_, ?_⟩
      · rw [List.flatten_cons]; exact List.mem_append_right _ h1
      · rw [h2]; congr 1; omega
theorem con_ix {L : List Stp} (f : Nat → Int) (hf : ∀ i j, i < L.length → j < L.length → f i = f j → i = j) (h : ∀ i s, L[i]? = some s → s.k ≠ .kept → s.n = f i) : Con L := fun s hs t ht ks kt e => by
  obtain ⟨i, hi⟩ := List.mem_iff_getElem?.mp hs
  obtain ⟨j, hj⟩ := List.mem_iff_getElem?.mp ht
  have li := (List.getElem?_eq_some_iff.mp hi).1
  have lj := (List.getElem?_eq_some_iff.mp hj).1
  have ij := hf i j li lj (by rw [← h i s hi ks, ← h j t hj kt, e])
  subst ij
  rw [hi] at hj
  cases hj
  rfl
/-- the floor -/
def flS (i k : Nat) (s : Stp) : Stp := ⟨s.c, .any, (List.range (k + 1)).map Int.ofNat, (i : Int)⟩
def floorL (ps : List Prg) : List Prg := remL flS 0 ps
theorem asc_range : ∀ (n a : Nat) (hi : Int), ((a + n : Nat) : Int) ≤ hi + 1 → Asc ((a : Int) - 1) hi ((List.range' a n).map Int.ofNat)
  | 0, _, _, _ => trivial
  | n + 1, a, hi, h => by
    rw [List.range'_succ, List.map_cons]
    refine ⟨by show (a : Int) - 1 + 1 ≤ (a : Int); omega, by show (a : Int) ≤ hi; omega, ?_⟩
    have e : ((a : Int)) = (((a + 1 : Nat) : Int) - 1) := by omega
    show Asc (a : Int) hi _
    rw [e]
    exact asc_range n (a + 1) hi (by omega)
theorem floor_ok {c : Int} {ps : List Prg} (L : LotOk c ps) : LotOk c (floorL ps) := by
  have hz := remL_sizes flS 0 ps
  refine ⟨L.cells, by rw [floorL, sizes_len hz]; exact L.len, fun q hq => ?_, by rw [floorL, set_total hz]; exact L.total, ?_⟩
  · obtain ⟨j, p, hp, rfl, hj⟩ := remL_mem hq
    have P := L.pr p hp
    have := L.total
    refine ⟨by rw [remP_len]; exact P.len, fun k s' hs' => ?_, fun s' hs' q hq t' ht' e => ?_⟩
    · obtain ⟨s, hs, rfl⟩ := remP_getI hs'
      have hk := (List.getElem?_eq_some_iff.mp hs).1
      refine ⟨(P.st k s hs).cell, ?_, fun e => (by cases e), fun _ => ?_⟩
      · show Asc (-1) ((k : Nat) : Int) ((List.range (k + 1)).map Int.ofNat)
        rw [List.range_eq_range']
        exact asc_range (k + 1) 0 _ (by omega)
      · show 0 ≤ (((j + k : Nat) : Int)) ∧ (((j + k : Nat) : Int)) ≤ 99
        omega
    · obtain ⟨s, hs, rfl⟩ := remP_getI ht'
      cases e
  · refine con_ix (fun i => (i : Int)) (fun i j _ _ e => by omega) fun i s hs _ => ?_
    obtain ⟨k, t, _, rfl⟩ := remL_flat hs
    show (((0 + i : Nat) : Int)) = i
    omega
/-- names of their own -/
def unN (fall : Bool) (i : Nat) : Int := if fall then 93 - 5 * (i : Int) else 5 * (i : Int) + 3
def unS (fall : Bool) (i _k : Nat) (s : Stp) : Stp := ⟨s.c, s.k, s.b, if s.k = .kept then -1 else unN fall i⟩
def unlL (fall : Bool) (ps : List Prg) : List Prg := remL (unS fall) 0 ps
theorem unl_ok {c : Int} {fall : Bool} {ps : List Prg} (L : LotOk c ps) : LotOk c (unlL fall ps) := by
  have hz := remL_sizes (unS fall) 0 ps
  refine ⟨L.cells, by rw [unlL, sizes_len hz]; exact L.len, fun q hq => ?_, by rw [unlL, set_total hz]; exact L.total, ?_⟩
  · obtain ⟨j, p, hp, rfl, hj⟩ := remL_mem hq
    have P := L.pr p hp
    have := L.total
    refine ⟨by rw [remP_len]; exact P.len, fun k s' hs' => ?_, fun s' hs' q hq t' ht' => ?_⟩
    · obtain ⟨s, hs, rfl⟩ := remP_getI hs'
      have hk := (List.getElem?_eq_some_iff.mp hs).1
      have S := P.st k s hs
      refine ⟨S.cell, S.asc, fun e => ?_, fun e => ?_⟩
      · show (if s.k = .kept then -1 else _) = -1
        exact if_pos e
      · show 0 ≤ (if s.k = .kept then -1 else unN fall (j + k)) ∧ (if s.k = .kept then -1 else unN fall (j + k)) ≤ 99
        rw [if_neg (show ¬ s.k = .kept from e)]
        unfold unN
        split <;> omega
    · obtain ⟨i, hi⟩ := List.mem_iff_getElem?.mp hs'
      obtain ⟨s, hs, rfl⟩ := remP_getI hi
      obtain ⟨t, ht, rfl⟩ := remP_getI ht'
      exact P.na s (List.mem_of_getElem? hs) q hq t ht
  · refine con_ix (unN fall) (fun i j _ _ e => by unfold unN at e; split at e <;> omega) fun i s hs hk => ?_
    obtain ⟨k, t, _, rfl⟩ := remL_flat hs
    show (if t.k = .kept then -1 else unN fall (0 + i)) = unN fall i
    rw [if_neg (show ¬ t.k = .kept from hk), Nat.zero_add]
end KG
/-! The mirror as data. -/
namespace KG
open PySem PySem.Spec L2

def Kd.s : Kd → Str
  | .any => "any"
  | .kept => "kept"
  | .adds => "adds"
def enc (s : Stp) : PyData := .tuple [.int s.c, .str s.k.s, .tuple (s.b.map .int), .int s.n]
def encP (p : Prg) : PyData := .tuple (p.map enc)
def encPs (ps : List Prg) : PyData := .tuple (ps.map encP)
def lotD (c : Int) (ps : List Prg) : PyData := .dict [(.int c, encPs ps)]
def plainD (c : Int) (ps : List Prg) : PyData := .tuple [.int c, encPs ps]
def encF : Fct → List PyData
  | .without p k q => [.str "without", .int (p : Int), .int (k : Int), .int (q : Int)]
  | .kept p k => [.str "kept", .int (p : Int), .int (k : Int)]
  | .adds p k => [.str "adds", .int (p : Int), .int (k : Int)]
  | .same p k p' k' => [.str "same", .int (p : Int), .int (k : Int), .int (p' : Int), .int (k' : Int)]
def shapeD (s : Stp) : PyData := .tuple [.str s.k.s, .int (s.b.length : Int), .int (if s.k = .adds then s.c else -1)]
theorem s_ak : ¬ (("any" : Str) = "kept") := by decide +kernel
theorem s_ad : ¬ (("any" : Str) = "adds") := by decide +kernel
theorem s_kd : ¬ (("kept" : Str) = "adds") := by decide +kernel
theorem s_ka : ¬ (("kept" : Str) = "any") := by decide +kernel
theorem s_da : ¬ (("adds" : Str) = "any") := by decide +kernel
theorem s_dk : ¬ (("adds" : Str) = "kept") := by decide +kernel
theorem Kd.s_inj {a b : Kd} : a.s = b.s ↔ a = b := by
  constructor
  · cases a <;> cases b <;> intro h <;> first | rfl | exact absurd h s_ak | exact absurd h s_ad | exact absurd h s_kd | exact absurd h s_ka | exact absurd h s_da | exact absurd h s_dk
  · rintro rfl; rfl
theorem kd_any (k : Kd) : decide (k.s = ("any" : Str)) = decide (k = .any) := by
  have : ("any" : Str) = Kd.any.s := rfl
  rw [this]; by_cases h : k = .any
  · simp [h]
  · simp [h, Kd.s_inj]
theorem kd_kept (k : Kd) : decide (k.s = ("kept" : Str)) = decide (k = .kept) := by
  have : ("kept" : Str) = Kd.kept.s := rfl
  rw [this]; by_cases h : k = .kept
  · simp [h]
  · simp [h, Kd.s_inj]
theorem kd_adds (k : Kd) : decide (k.s = ("adds" : Str)) = decide (k = .adds) := by
  have : ("adds" : Str) = Kd.adds.s := rfl
  rw [this]; by_cases h : k = .adds
  · simp [h]
  · simp [h, Kd.s_inj]

/-! ### which things are facts -/
def isWh : PyData → Int → Int → Bool
  | .int i, lo, hi => decide (lo ≤ i) && decide (i ≤ hi)
  | _, _, _ => false
def isPl (ps : List Prg) : PyData → PyData → Bool
  | .int i, y => decide (0 ≤ i) && decide (i < ps.length) && isWh y 0 ((ps.getD i.toNat []).length - 1)
  | _, _ => false
def ltP : PyData → PyData → PyData → PyData → Bool
  | .int a, .int b, .int c, .int d => HT.lexLt [a, b] [c, d]
  | _, _, _, _ => false
def whTo : PyData → PyData → Bool
  | z, .int y => isWh z 0 y
  | _, _ => false
def isFactL (ps : List Prg) : List PyData → Bool
  | .str w :: x :: y :: rest => isPl ps x y && (if w = "without" then (match rest with
      | [z] => whTo z y
      | _ => false) else if w = "kept" ∨ w = "adds" then rest.isEmpty else if w = "same" then (match rest with
      | [x', y'] => isPl ps x' y' && ltP x y x' y'
      | _ => false) else false)
  | _ => false
def isFact (ps : List Prg) (d : PyData) : Bool := match sqD d with
  | some ds => isFactL ps ds
  | none => false
theorem w_wk : ¬ (("without" : Str) = "kept") := by decide +kernel
theorem w_wa : ¬ (("without" : Str) = "adds") := by decide +kernel
theorem w_ws : ¬ (("without" : Str) = "same") := by decide +kernel
theorem w_kw : ¬ (("kept" : Str) = "without") := by decide +kernel
theorem w_aw : ¬ (("adds" : Str) = "without") := by decide +kernel
theorem w_sw : ¬ (("same" : Str) = "without") := by decide +kernel
theorem w_sk : ¬ (("same" : Str) = "kept") := by decide +kernel
theorem w_sa : ¬ (("same" : Str) = "adds") := by decide +kernel
theorem w_ks : ¬ (("kept" : Str) = "same") := by decide +kernel
theorem w_as : ¬ (("adds" : Str) = "same") := by decide +kernel
theorem isWh_int {i lo hi : Int} : isWh (.int i) lo hi = true ↔ lo ≤ i ∧ i ≤ hi := by simp [isWh]
theorem isPl_nat {ps : List Prg} {p k : Nat} : isPl ps (.int (p : Int)) (.int (k : Int)) = isAt ps p k := by
  simp only [isPl, isWh, isAt, Int.toNat_natCast]
  rw [Bool.eq_iff_iff]
  simp only [Bool.and_eq_true, decide_eq_true_eq]
  omega
theorem isPl_nats {ps : List Prg} {x y : PyData} (h : isPl ps x y = true) : ∃ p k : Nat, x = .int (p : Int) ∧ y = .int (k : Int) ∧ isAt ps p k = true := by
  cases x with
  | int i =>
    cases y with
    | int j =>
      have h' := h
      simp only [isPl, isWh, Bool.and_eq_true, decide_eq_true_eq] at h
      refine ⟨i.toNat, j.toNat, by congr 1; omega, by congr 1; omega, ?_⟩
      rw [← isPl_nat]
      have e1 : ((i.toNat : Nat) : Int) = i := by omega
      have e2 : ((j.toNat : Nat) : Int) = j := by omega
      rw [e1, e2]; exact h'
    | _ => simp [isPl, isWh] at h
  | _ => simp [isPl] at h
theorem lex_nat {a b c d : Nat} : HT.lexLt [(a : Int), (b : Int)] [(c : Int), (d : Int)] = (decide (a < c) || decide (a = c) && decide (b < d)) := by
  rw [Bool.eq_iff_iff]
  simp only [HT.lexLt, Bool.or_eq_true, Bool.and_eq_true, decide_eq_true_eq]
  by_cases h : a = c
  · subst h
    by_cases h2 : b = d
    · subst h2; simp
    · simp [h2]; omega
  · have h3 : ¬ (a : Int) = (c : Int) := by omega
    simp [h, h3]
theorem isFactL_of {ps : List Prg} {f : Fct} (h : okF ps f = true) : isFactL ps (encF f) = true := by
  cases f with
  | without p k q =>
    simp only [okF, Bool.and_eq_true, decide_eq_true_eq] at h
    simp only [encF, isFactL, isPl_nat, if_true, whTo, isWh, h.1, Bool.true_and, Bool.and_eq_true, decide_eq_true_eq]
    omega
  | kept p k =>
    simp only [okF] at h
    simp [encF, isFactL, isPl_nat, h, w_kw]
  | adds p k =>
    simp only [okF] at h
    simp [encF, isFactL, isPl_nat, h, w_aw]
  | same p k p' k' =>
    simp only [okF, Bool.and_eq_true] at h
    have h3 := h.2
    simp only [encF, isFactL, isPl_nat, h.1.1, h.1.2, if_neg w_sw, if_neg (show ¬ (("same" : Str) = "kept" ∨ ("same" : Str) = "adds") from fun z => z.elim w_sk w_sa), if_true, Bool.true_and, ltP, lex_nat]
    exact h3
theorem isFactL_ok {ps : List Prg} {ds : List PyData} (h : isFactL ps ds = true) : ∃ f, okF ps f = true ∧ ds = encF f := by
  unfold isFactL at h
  split at h
  · rename_i w x y rest
    rw [Bool.and_eq_true] at h
    obtain ⟨p, k, rfl, rfl, hat⟩ := isPl_nats h.1
    have h2 := h.2
    split at h2
    · rename_i e
      subst e
      split at h2
      · rename_i z
        cases z with
        | int q =>
          simp only [whTo, isWh, Bool.and_eq_true, decide_eq_true_eq] at h2
          refine ⟨.without p k q.toNat, ?_, ?_⟩
          · simp only [okF, hat, Bool.true_and, decide_eq_true_eq]; omega
          · have e : ((q.toNat : Nat) : Int) = q := by omega
            simp only [encF, e]
        | _ => simp [whTo, isWh] at h2
      · cases h2
    · split at h2
      · rename_i e
        cases rest with
        | nil =>
          rcases e with e | e
          · subst e; exact ⟨.kept p k, hat, rfl⟩
          · subst e; exact ⟨.adds p k, hat, rfl⟩
        | cons a b => simp at h2
      · split at h2
        · rename_i e
          subst e
          split at h2
          · rename_i x' y'
            rw [Bool.and_eq_true] at h2
            obtain ⟨p', k', rfl, rfl, hat'⟩ := isPl_nats h2.1
            refine ⟨.same p k p' k', ?_, rfl⟩
            have h3 := h2.2
            simp only [ltP, lex_nat] at h3
            simp only [okF, hat, hat', Bool.true_and]
            exact h3
          · cases h2
        · cases h2
  · cases h
/-- the fact that a row of data tells -/
def toF : List PyData → Fct
  | [.str w, .int p, .int k] => if w = "kept" then .kept p.toNat k.toNat else .adds p.toNat k.toNat
  | [_, .int p, .int k, .int q] => .without p.toNat k.toNat q.toNat
  | [_, .int p, .int k, .int p', .int k'] => .same p.toNat k.toNat p'.toNat k'.toNat
  | _ => .kept 0 0
theorem toF_enc (f : Fct) : toF (encF f) = f := by
  cases f <;> simp [encF, toF, w_aw, s_dk]
def facD (d : PyData) : Fct := toF ((sqD d).getD [])
theorem isFact_ok {ps : List Prg} {d : PyData} (h : isFact ps d = true) : okF ps (facD d) = true ∧ sqD d = some (encF (facD d)) := by
  unfold isFact at h
  split at h
  · rename_i ds e
    obtain ⟨f, hf, rfl⟩ := isFactL_ok h
    have z : facD d = f := by unfold facD; rw [e]; exact toF_enc f
    rw [z]; exact ⟨hf, e⟩
  · cases h
theorem isFact_of {ps : List Prg} {d : PyData} {f : Fct} (h : okF ps f = true) (e : sqD d = some (encF f)) : isFact ps d = true ∧ facD d = f := by
  refine ⟨?_, ?_⟩
  · unfold isFact; rw [e]; exact isFactL_of h
  · unfold facD; rw [e]; exact toF_enc f
def formBad (ps : List Prg) : List PyData → Nat → Option Nat
  | [], _ => none
  | d :: ds, i => if isFact ps d = true then formBad ps ds (i + 1) else some i
def withRow (ps : List Prg) (x : PyData) : Except Int (List Prg) := match sqD x with
  | none => .error (-1)
  | some ds => if 40 < ds.length then .error (-1) else match formBad ps ds 0 with
    | some i => .error i
    | none => withF ps (ds.map facD)
def resD : Except Int (List Prg) → PyData
  | .error i => .tuple [.str "index", .int i]
  | .ok ps => encPs ps
theorem formBad_none {ps : List Prg} : ∀ {ds : List PyData} {i : Nat}, formBad ps ds i = none → ∀ d ∈ ds, isFact ps d = true
  | [], _, _, _, h => by cases h
  | d :: ds, i, h, e, he => by
    unfold formBad at h
    split at h
    · rename_i q
      rcases List.mem_cons.mp he with z | z
      · rw [z]; exact q
      · exact formBad_none h e z
    · cases h
theorem withRow_ok {c : Int} {ps ps' : List Prg} {x : PyData} (L : LotOk c ps) (h : withRow ps x = .ok ps') : LotOk c ps' := by
  unfold withRow at h
  split at h
  · cases h
  · split at h
    · cases h
    · split at h
      · cases h
      · rename_i e
        refine withF_ok L (fun f hf => ?_) h
        obtain ⟨d, hd, rfl⟩ := List.mem_map.mp hf
        exact (isFact_ok (formBad_none e d hd)).1
end KG
/-! The text by places; what the top has written; calls. -/
namespace KG
open PySem PySem.Spec L2
def top (i : Nat) : Stmt := PySem.Challenge.pw_knownguards_k02_whole_facts_taken_in_and.main.body.getD i (.Pass ⟨0, 0, 0, 0⟩)
/-- what the top has written: the class Lot at C, the class GuardError at CG, BadFact at CF; the built-in names are as they were -/
structure Txt (K : PySem.W.Frag) (mg : Str → Option Value) (C : Addr) : Prop where
  cl : Cls K C
  nC : NoAttr K C "cells"
  nP : NoAttr K C "programs"
  g_Lot : mg "Lot" = some (.ref C)
  (ha : PySem.W.findIn K (.ref C) "__class__" = some (some (.builtin "object.__class__")))
  (hn : PySem.W.specialIn K (.builtin "object.__class__") "__get__" = some (some (.builtin "getset_descriptor.__get__")))
  (htk : PySem.W.takesIn K (.builtin "object.__class__") = some true)
  (hm : PySem.W.mroIn K C (.type "object") = some true)
  kinds : ∃ k, mg "KINDS" = some (.ref k) ∧ ∀ H, SqT K H k [.str "any", .str "kept", .str "adds"]
  isinstance_ : mg "isinstance" = none
  int_ : mg "int" = none
  bool_ : mg "bool" = none
  str_ : mg "str" = none
  list_ : mg "list" = none
  tuple_ : mg "tuple" = none
  len_ : mg "len" = none
  range_ : mg "range" = none
  sum_ : mg "sum" = none
  abs_ : mg "abs" = none
  min_ : mg "min" = none
  max_ : mg "max" = none
  sorted_ : mg "sorted" = none
theorem Txt.r_Lot {K : PySem.W.Frag} {mg : Str → Option Value} {C : Addr} (T : Txt K mg C) : RelV (.ref C) (.ref C) := rfl
/-- a def as it stands behind the top -/
def Df (K : PySem.W.Frag) (mg : Str → Option Value) (x : Str) (st : Stmt) (ps : List Str) : Prop := ∃ f fd, Fun K x x st f fd ∧ mg x = some (.ref f) ∧ Binds K fd ps []
/-- a def that keeps a promise -/
def Cal (P : Program) (w : World) (K : PySem.W.Frag) (mg : Str → Option Value) (base : Heap) (CX : CXT) (k : Nat) (x : Str) (ps : List Str) (sp : Sp) : Prop :=
  ∃ f fd, FnOk P w K mg base CX k f fd ps sp ∧ mg x = some (.ref f) ∧ PySem.W.keepIn K (.ref f) = true ∧ Binds K fd ps []
section
variable {X : Cx} {x : Str} {e : Expr} {es : List Expr} {te : TE} {t : TA} {p pos : Pos} {j k : Nat} {ps : List Str} {sp : Sp}
theorem xcall (G : Cal X.prog X.w X.K X.mg X.base CX0 k x ps sp) (hr : Room j X.A) (ha : PA X (e :: es) t) (hk : k ≤ j := by decide) (hg : Gl X x := by rfl) (hd : (x == ("__debug__" : Str)) = false := by decide +kernel)
    (he : starEach (e :: es) X.env = (false, eval e X.env) :: starEach es X.env := by rfl) (hpl : (backTo pos (starEach es X.env)).any (·.1) = false := by rfl) : PE X (.Call (.Name x p) (e :: es) [] pos) (tCall sp [] E0 t) := by
  obtain ⟨f, fd, F, hm, kp, b⟩ := G
  exact pe_call F (hr.mono hk) hg hm kp b .nil pass0 ha hd he hpl
theorem xset (i : Nat) {pos' : Pos} (hN : X.N.Nodup) (he : PE X e te) (hi : X.N[i]? = some x := by rfl) (hx : Loc X.env.scope x := by first | exact Or.inl rfl | exact Or.inr rfl) (hs : swapsWith e (some (.Name x pos')) pos.line X.env = pure false := by rfl)
    (hf : X.fn x = true ∨ X.env.scope.names.lookup x = some .local := by first | exact .inl rfl | exact .inr rfl) : PS X (.Assign [.Name x pos'] e pos) (tAsg te (gName i)) := ps_set hN hi hx he hs hf
end
theorem Df.cal {P : Program} {w : World} {K : PySem.W.Frag} {mg : Str → Option Value} {base : Heap} {CX : CXT} {k : Nat} {x : Str} {st : Stmt} {ps : List Str} {sp : Sp} (D : Df K mg x st ps) (h : ∀ f fd, Fun K x x st f fd → FnOk P w K mg base CX k f fd ps sp) : Cal P w K mg base CX k x ps sp := by
  obtain ⟨f, fd, F, hm, b⟩ := D
  exact ⟨f, fd, h f fd F, hm, F.kp, b⟩
/-! ### isinstance -/
def tyD : PyData → String
  | .none => "NoneType"
  | .bool _ => "bool"
  | .int _ => "int"
  | .str _ => "str"
  | .list _ => "list"
  | .tuple _ => "tuple"
  | .dict _ => "dict"
/-- no Lot -/
def noLot : PyData → Bool
  | .dict (_ :: _) => false
  | _ => true
theorem tyx_of {K : PySem.W.Frag} {C : Addr} {G : Hp} {v : V} {d : PyData} (h : Dt C G v d) (hn : noLot d = true) : TyX K G v (.type (tyD d)) := by
  cases h with
  | non => exact .base .non
  | bl b => exact .base (.bl b)
  | int i => exact .base (.int i)
  | str x => exact .base (.str x)
  | lst h _ => exact .base (.lst h)
  | tup h _ => exact .base (.tup h)
  | emp h => exact .base (.dK h)
  | lot h _ => cases hn
section
variable {C : Addr} {μ : List MO} {ρ : List SV} {te : TE} {K : PySem.W.Frag}
theorem je_isi {x : PyData} {n : String} {b : Bool} (h : JE C μ ρ te (· = x)) (hn : noLot x = true) (hb : kitB (tyD x) n = some b) : JE C μ ρ (tCB (rIsi K) (tCons te (tCons (tC (.ty n)) tNil))) (· = .bool b) := fun F σ H s Q q =>
  h F σ H s _ fun v H1 d pd s1 e1 d1 => by
    subst pd
    exact ⟨v, _, _, _, b, rfl, .ty n, tyx_of (d1.mono fun a o z => (wo_some z).2) hn, kit_ty hb, q _ H1 _ rfl s1 e1 (.bl b)⟩
def isSq : PyData → Bool
  | .list _ => true
  | .tuple _ => true
  | _ => false
theorem kit_lt {x : PyData} (hn : noLot x = true) : PySem.W.kitAny K (.type (tyD x)) [.type "list", .type "tuple"] = some (isSq x) := by
  cases x with
  | none => exact kitAny_cons (b := false) (kit_ty (by show kitB "NoneType" "list" = some false; decide +kernel)) (fun _ => kitAny_cons (b := false) (kit_ty (by show kitB "NoneType" "tuple" = some false; decide +kernel)) (fun _ => kitAny_nil) (fun z => by cases z)) (fun z => by cases z)
  | bool => exact kitAny_cons (b := false) (kit_ty (by show kitB "bool" "list" = some false; decide +kernel)) (fun _ => kitAny_cons (b := false) (kit_ty (by show kitB "bool" "tuple" = some false; decide +kernel)) (fun _ => kitAny_nil) (fun z => by cases z)) (fun z => by cases z)
  | int => exact kitAny_cons (b := false) (kit_ty (by show kitB "int" "list" = some false; decide +kernel)) (fun _ => kitAny_cons (b := false) (kit_ty (by show kitB "int" "tuple" = some false; decide +kernel)) (fun _ => kitAny_nil) (fun z => by cases z)) (fun z => by cases z)
  | str => exact kitAny_cons (b := false) (kit_ty (by show kitB "str" "list" = some false; decide +kernel)) (fun _ => kitAny_cons (b := false) (kit_ty (by show kitB "str" "tuple" = some false; decide +kernel)) (fun _ => kitAny_nil) (fun z => by cases z)) (fun z => by cases z)
  | dict => exact kitAny_cons (b := false) (kit_ty (by show kitB "dict" "list" = some false; decide +kernel)) (fun _ => kitAny_cons (b := false) (kit_ty (by show kitB "dict" "tuple" = some false; decide +kernel)) (fun _ => kitAny_nil) (fun z => by cases z)) (fun z => by cases z)
  | list => exact kitAny_cons (b := true) (kit_ty (by show kitB "list" "list" = some true; decide +kernel)) (fun z => by cases z) (fun _ => rfl)
  | tuple => exact kitAny_cons (b := false) (kit_ty (by show kitB "tuple" "list" = some false; decide +kernel)) (fun _ => kitAny_cons (b := true) (kit_ty (by show kitB "tuple" "tuple" = some true; decide +kernel)) (fun z => by cases z) (fun _ => rfl)) (fun z => by cases z)
theorem je_isiT {x : PyData} (h : JE C μ ρ te (· = x)) (hn : noLot x = true) : JE C μ ρ (tCB (rIsiT K) (tCons te (tCons (tTup (tCons (tC (.ty "list")) (tCons (tC (.ty "tuple")) tNil))) tNil))) (· = .bool (isSq x)) := fun F σ H s Q q =>
  h F σ H s _ fun v H1 d pd s1 e1 d1 => by
    subst pd
    refine ⟨by show 2 ≤ sizeLine; decide, fun p hp => ?_⟩
    have d2 : Dt C (upd H1 p (.tup [.ty "list", .ty "tuple"])) v d := (d1.mono fun a o z => (wo_some z).2).mono (.new hp)
    exact ⟨v, p, _, _, _, isSq d, rfl, upd_same, .cons (.ty _) (.cons (.ty _) .nil), tyx_of d2 hn, kit_lt hn, q _ _ _ rfl (s1.ext (.new hp)) (e1.trans (Ex.new hp).b) (.bl _)⟩
theorem je_isLot {mg : Str → Option Value} {c : Int} {d : PyData} (T : Txt K mg C) (h : JE C μ ρ te (· = .dict [(.int c, d)])) : JE C μ ρ (tCB (rIsi K) (tCons te (tCons (tC (.ref C)) tNil))) (· = .bool true) := fun F σ H s Q q =>
  h F σ H s _ fun v H1 x px s1 e1 d1 => by
    subst px
    obtain ⟨a, dx, u, rfl, hx, du⟩ := d1.lotE
    refine ⟨_, _, _, _, true, rfl, .own C, .base (.ins (wo_some hx).2 T.cl T.ha T.hn T.htk T.hm), ?_, q _ H1 _ rfl s1 e1 (.bl _)⟩
    show (if (Value.ref C == Value.ref C) = true then some true else _) = some true
    rw [if_pos (by simp)]
end
end KG
namespace KG
open PySem PySem.Spec L2
section
variable {C : Addr} {μ : List MO} {ρ : List SV} {ta tb te tc : TE} {P : PyData → Prop} {F : Frm} {σ : St} {H : Hp} {nx : L2.St → Hp → Prop} {rt : VK} {bk ct : L2.St → Hp → Prop}
theorem rd_notN {x : PyData} : RD C (fun x y H Q => y = V.non ∧ Q (.bl (!decide (x = .non))) H) x .none (· = .bool (match x with | .none => false | _ => true)) := fun M H v u al h1 h2 Q q => by
  refine ⟨h2.nonE, q _ H _ rfl (Ex.refl H) ?_⟩
  cases h1 <;> exact .bl _
theorem rd_isN {x : PyData} : RD C (fun x y H Q => y = V.non ∧ Q (.bl (decide (x = .non))) H) x .none (· = .bool (match x with | .none => true | _ => false)) := fun M H v u al h1 h2 Q q => by
  refine ⟨h2.nonE, q _ H _ rfl (Ex.refl H) ?_⟩
  cases h1 <;> exact .bl _
theorem rd_notB {x y : Bool} : RD C (fun x y H Q => ∃ a b, x = V.bl a ∧ y = V.bl b ∧ Q (.bl (!decide (a = b))) H) (.bool x) (.bool y) (· = .bool (!decide (x = y))) := fun M H v u al h1 h2 Q q =>
  ⟨x, y, h1.blE, h2.blE, q _ H _ rfl (Ex.refl H) (.bl _)⟩
/-- x not in a tuple of texts that the top has written -/
theorem je_niK {K : PySem.W.Frag} {k : Addr} {x : Str} {ns : List Str} (h : JE C μ ρ te (· = .str x)) (hk : ∀ H, SqT K H k (ns.map V.str)) : JE C μ ρ (tOp (rIn K true) te (tC (.ref k))) (· = .bool !decide (x ∈ ns)) := fun F σ H s Q q =>
  h F σ H s _ fun v H1 d pd s1 e1 d1 => by
    subst pd
    rw [d1.strE]
    refine ⟨k, _, rfl, .inr (hk H1), rfl, flat_str ns, ?_⟩
    rw [inV_str]
    exact q _ H1 _ rfl s1 e1 (.bl _)
/-- x = {} -/
theorem s_newd {fh : Hp} {fw fb fv : List Addr} {fg : List (V × PyData)} {i : Nat} (I : Int → PyData → Prop) (S : Sat C ⟨fh, fw, fb, fv, fg⟩ μ ρ σ H) (hi : fv.length = μ.length) (k : ∀ p σ' H', p ∉ fw → Sat C ⟨fh, fw, fb, fv ++ [p], fg⟩ (μ ++ [.dk I 0]) (ρ.set i (.m μ.length)) σ' H' → nx σ' H') : tAsg tDNewK (gName i) ⟨nx, rt, bk, ct⟩ σ H :=
  fun p hp => by
    have s1 := S.newm' (p := p) (o := .dK []) (mo := .dk I 0) hp fun M _ _ => ⟨[], upd_same, Nat.le_refl _, fun kv h => by cases h⟩
    have s2 := s1.set (i := i) (o := some (.ref p)) (sv := .m μ.length) ⟨p, by show (fv ++ [p])[μ.length]? = some p; rw [← hi]; simp, rfl⟩
    exact k p _ _ (fun z => S.al p (List.mem_append_left _ (S.wv p z)) hp) s2
/-- if d.setdefault(n, x) != x, where all that the dict holds at n is x -/
theorem s_ifd {K : PySem.W.Frag} {ty tx : TE} {t u : TS} {i k n : Nat} {I : Int → PyData → Prop} {a : Int} {x : PyData} (S : Sat C F μ ρ σ H) (h1 : ρ[i]? = some (.m k)) (h2 : μ[k]? = some (.dk I n)) (hy : JE C μ ρ ty (· = .int a)) (hx : JE C μ ρ tx (· = x)) (hb : JE C (μ.set k (.dk I (n + 1))) ρ tb (· = x))
    (hi : I a x) (hu : ∀ d, I a d → d = x) (hs : SeqAt.shaped x = true) (hr : PyData.eqv x x = true) (hn : n ≤ 10000) (kk : ∀ σ' H', Sat C F (μ.set k (.dk I (n + 1))) ρ σ' H' → u ⟨nx, rt, bk, ct⟩ σ' H') : tIfS (tTest (tOp (rNeD K) (tDSetd (tVar i) ty tx) tb)) t u ⟨nx, rt, bk, ct⟩ σ H := by
  obtain ⟨p, hσ, hv⟩ := S.getm h1
  obtain ⟨ys0, hp0, _, _⟩ := S.mo hv h2
  refine ⟨_, hσ, p, rfl, .inl ⟨_, .inl hp0⟩, hy F σ H S _ fun v H1 d pd s1 e1 d1 => hx F σ H1 s1 _ fun w H2 d' pd' s2 e2 d2 => ?_⟩
  subst pd
  have d2 : Dt C (wo F.m H2) w x := by rw [← pd']; exact d2
  obtain ⟨ys, hp, hl, hA⟩ := s2.mo hv h2
  have hpm : p ∈ F.m := List.mem_append_left _ (s2.mem hv)
  refine ⟨ys, Sum.inl a, hp, d1.intE, Nat.lt_of_le_of_lt hl (small_of hn), fun z hz => ?_, fun hz => ?_⟩
  · -- found
    have hz' : (ys.find? fun kv => decide (kv.1 = Sum.inl a)).map (·.2) = some z := hz
    cases e : ys.find? fun kv => decide (kv.1 = Sum.inl a) with
    | none => rw [e] at hz'; cases hz'
    | some kv =>
      rw [e] at hz'
      cases hz'
      have hm := List.mem_of_find?_eq_some e
      have hk : kv.1 = Sum.inl a := by simpa using List.find?_some e
      obtain ⟨a', d, e1', dd, hI⟩ := hA kv hm
      have ea : a' = a := Sum.inl.inj (e1'.symm.trans hk)
      subst ea
      have ed := hu d hI
      subst ed
      have s3 : Sat C F (μ.set k (.dk I (n + 1))) ρ σ (upd H2 p (.dK ys)) := s2.put hv ⟨ys, upd_same, Nat.le_succ_of_le hl, by rw [wo_upd hpm]; exact hA⟩
      have eu : upd H2 p (.dK ys) = H2 := by
        funext b
        by_cases q : b = p
        · rw [q, upd_same, hp]
        · rw [upd_ne q]
      rw [eu] at s3
      refine hb F σ H2 s3 _ fun y H3 d3 pd3 s4 e4 d4 => ?_
      subst pd3
      refine ⟨_, _, wo_dp (s3.kn e4 dd) (SeqAt.canLay_of_shaped hs), wo_dp d4 (SeqAt.canLay_of_shaped hs), hs, hs, false, by rw [hr]; rfl, ?_⟩
      exact iteF (kk σ H3 s4)
  · rw [putK_new _ hz]
    have s3 : Sat C F (μ.set k (.dk I (n + 1))) ρ σ (upd H2 p (.dK (ys ++ [(Sum.inl a, w)]))) := s2.put hv ⟨_, upd_same, by rw [List.length_append]; exact Nat.succ_le_succ hl, by
      rw [wo_upd hpm]
      intro kv hkv
      rcases List.mem_append.mp hkv with z | z
      · exact hA kv z
      · rw [List.mem_singleton.mp z]; exact ⟨a, x, rfl, d2, hi⟩⟩
    have d2' : Dt C (wo F.m (upd H2 p (.dK (ys ++ [(Sum.inl a, w)])))) w x := by rw [wo_upd hpm]; exact d2
    refine hb F σ _ s3 _ fun y H3 d3 pd3 s4 e4 d4 => ?_
    subst pd3
    refine ⟨_, _, wo_dp (s3.kn e4 d2') (SeqAt.canLay_of_shaped hs), wo_dp d4 (SeqAt.canLay_of_shaped hs), hs, hs, false, by rw [hr]; rfl, ?_⟩
    exact iteF (kk σ H3 s4)
end
end KG
namespace KG
open PySem PySem.Spec L2
/-! a list or a tuple, walked -/
def iSeq (K : PySem.W.Frag) (tl : TE) : TI := fun σ H R => iList K tl σ H R ∨ iTup K tl σ H R
theorem pi_seq {X : Cx} {tg l : Expr} {tl : TE} (h : PE X l tl) : PI X tg l (iSeq X.K tl) :=
  ⟨fun pins s σ H R I h' => h'.elim (fun z => (pi_list (tg := tg) h).run pins s σ H R I z) fun z => (pi_tup (tg := tg) h).run pins s σ H R I z⟩
section
variable {C : Addr} {μ : List MO} {ρ : List SV} {ta tb te tc : TE} {P : PyData → Prop} {F : Frm} {σ : St} {H : Hp} {nx : L2.St → Hp → Prop} {rt : VK} {bk ct : L2.St → Hp → Prop}
theorem s_forS {fh : Hp} {fw fb fv : List Addr} {fg : List (V × PyData)} {K : PySem.W.Frag} {g : TG} {tb : TS} {y : PyData} {ds : List PyData} {up : PyData → List SV → List SV} (I : Nat → List MO → List SV → Prop) (S : Sat C ⟨fh, fw, fb, fv, fg⟩ μ ρ σ H) (h : JE C μ ρ te (· = y)) (hy : sqD y = some ds) (hg : ∀ d ∈ ds, JG C g d (up d)) (h0 : I 0 μ ρ)
    (hs : ∀ j d, ds[j]? = some d → ∀ v μ' ρ' σ' H', I j μ' ρ' → Sat C ⟨fh, fw, fb, fv, (v, y) :: fg⟩ μ' (up d ρ') σ' H' →
      tb ⟨fun σ H => ∃ μ ρ, I (j + 1) μ ρ ∧ Sat C ⟨fh, fw, fb, fv, (v, y) :: fg⟩ μ ρ σ H, rt, nx, fun σ H => ∃ μ ρ, I (j + 1) μ ρ ∧ Sat C ⟨fh, fw, fb, fv, (v, y) :: fg⟩ μ ρ σ H⟩ σ' H')
    (hd : ∀ μ' ρ' σ' H', I ds.length μ' ρ' → Sat C ⟨fh, fw, fb, fv, fg⟩ μ' ρ' σ' H' → nx σ' H') : tFor (iSeq K te) g tb ⟨nx, rt, bk, ct⟩ σ H := by
  cases y with
  | list es => cases hy; exact .inl (s_forL I S h hg h0 hs hd)
  | tuple es => cases hy; exact .inr (s_forT I S h hg h0 hs hd)
  | none => cases hy
  | bool => cases hy
  | int => cases hy
  | str => cases hy
  | dict => cases hy
theorem je_lcS {K : PySem.W.Frag} {te0 : TE} {y : PyData} {ds : List PyData} {i : Nat} {tt : TT} (c : PyData → Bool) (f : PyData → PyData) (h0 : JE C μ ρ te0 (· = y)) (hy : sqD y = some ds) (hl : ds.length ≤ 1000)
    (ht : ∀ d ∈ ds, JT C μ (ρ.set i (.d d)) tt (· = c d)) (he : ∀ d ∈ ds, c d = true → JE C μ (ρ.set i (.d d)) te (· = f d)) :
    JE C μ ρ (tLc (iSeq K te0) (gName i) tt te [i]) (· = .list (outs c f ds)) := by
  cases y with
  | list es => cases hy; exact fun F σ H s Q q => .inl (je_lcL c f h0 hl ht he F σ H s Q q)
  | tuple es => cases hy; exact fun F σ H s Q q => .inr (je_lcT c f h0 hl ht he F σ H s Q q)
  | none => cases hy
  | bool => cases hy
  | int => cases hy
  | str => cases hy
  | dict => cases hy
theorem je_lcSM {K : PySem.W.Frag} {ds : List PyData} {i m k : Nat} {tt : TT} (c : PyData → Bool) (f : PyData → PyData) (h1 : ρ[m]? = some (.m k)) (h2 : μ[k]? = some (.lst ds)) (hl : ds.length ≤ 1000)
    (ht : ∀ d ∈ ds, JT C μ (ρ.set i (.d d)) tt (· = c d)) (he : ∀ d ∈ ds, c d = true → JE C μ (ρ.set i (.d d)) te (· = f d)) :
    JE C μ ρ (tLc (iSeq K (tVar m)) (gName i) tt te [i]) (· = .list (outs c f ds)) := fun F σ H s Q q => .inl (je_lcM c f h1 h2 hl ht he F σ H s Q q)
/-- no test -/
theorem outs_map (f : PyData → PyData) (ds : List PyData) : outs (fun _ => true) f ds = ds.map f := by
  unfold outs
  rw [List.filter_eq_self.mpr (fun _ _ => rfl)]
/-- self.f = e -/
theorem s_fld {K : PySem.W.Frag} {i k : Nat} {f : Str} {dx : Addr} {fs : List (Str × V)} (cl : Cls K C) (na : NoAttr K C f) (S : Sat C F μ ρ σ H) (h1 : ρ[i]? = some (.m k)) (h2 : μ[k]? = some (.ins dx fs)) (h : JE C μ ρ te P) (hl : fs.length < 1000)
    (kk : ∀ v d H1, P d → Sat C F μ ρ σ H1 → Dt C (wo F.m H1) v d → ∀ a, F.v[k]? = some a → Sat C F (μ.set k (.ins dx (putF f v fs))) ρ σ (upd H1 a (.ins C dx (putF f v fs))) → nx σ (upd H1 a (.ins C dx (putF f v fs)))) : sFld K (tVar i) te f ⟨nx, rt, bk, ct⟩ σ H :=
  h F σ H S _ fun v H1 d pd s1 e1 d1 => by
    obtain ⟨a, hσ, hv⟩ := s1.getm h1
    have hp : H1 a = some (.ins C dx fs) := s1.mo hv h2
    exact ⟨_, hσ, a, C, dx, fs, rfl, hp, cl, na, hl, kk v d H1 pd s1 d1 a hv (s1.put hv upd_same)⟩
end
theorem lay_noLot {d : PyData} (h : d.canLay0 = true) : noLot d = true := by
  cases d with
  | dict => simp [PyData.canLay0] at h
  | _ => rfl
theorem lay_all {ds : List PyData} (h : PyData.canLayAll0 ds = true) : ∀ d ∈ ds, d.canLay0 = true := by
  induction ds with
  | nil => intro d hd; cases hd
  | cons a ds ih =>
    rw [PyData.canLayAll0, Bool.and_eq_true] at h
    intro d hd
    rcases List.mem_cons.mp hd with e | hd
    · rw [e]; exact h.1
    · exact ih h.2 d hd
theorem lay_sq {x : PyData} {ds : List PyData} (h : x.canLay0 = true) (e : sqD x = some ds) : ∀ d ∈ ds, d.canLay0 = true := by
  cases x with
  | list es => cases e; exact lay_all (by simpa [PyData.canLay0] using h)
  | tuple es => cases e; exact lay_all (by simpa [PyData.canLay0] using h)
  | _ => cases e
theorem sq_is {x : PyData} : isSq x = (sqD x).isSome := by cases x <;> rfl
end KG
namespace KG
open PySem PySem.Spec L2
/-! the rules with the written part told by name (a comprehension's block wants its readings the same in every block) -/
section
variable {X : Cx} (K : PySem.W.Frag) (hK : X.K = K := by rfl)
include hK
theorem xix : IxR X (rIx K) := by subst hK; exact ix_seq
theorem xin : OpR X (compareOp .In) (rIn K false) := by subst hK; exact op_in_seq
theorem xnin : OpR X (compareOp .NotIn) (rIn K true) := by subst hK; exact op_notIn_seq
theorem xeqD (hu : X.A.units + 64 < cLine) : OpR X (compareOp .Eq) (rEqD K) := by subst hK; exact op_eqD hu
theorem xneD (hu : X.A.units + 64 < cLine) : OpR X (compareOp .NotEq) (rNeD K) := by subst hK; exact op_neD hu
theorem xltT (hu : X.A.units < cLine) : OpR X (compareOp .Lt) (rLtT K) := by subst hK; exact op_ltT hu
theorem xcatA : OpR X (binaryOp .Add) (rCatA K) := by subst hK; exact op_catA
theorem xslT : SlR X (rSlA K) := by subst hK; exact sl_tupA
theorem xslL : SlR X (rSlL K) := by subst hK; exact sl_list
theorem xlen : CallR X (.builtin "len") (fun xs H Q => ∃ p ys, xs = [.ref p] ∧ (SqL K H p ys ∨ SqT K H p ys) ∧ Q (.int ys.length) H) := by subst hK; exact call_len_seq
theorem xlist : CallR X (.type "list") (fun xs H Q => ∃ p ys, xs = [.ref p] ∧ (SqL K H p ys ∨ SqT K H p ys) ∧ ∀ l, H l = none → Q (.ref l) (upd H l (.lst ys))) := by subst hK; exact call_list_of
theorem xtuple : CallR X (.type "tuple") (fun xs H Q => ∃ p ys, xs = [.ref p] ∧ ((SqL K H p ys ∧ ∀ l, H l = none → Q (.ref l) (upd H l (.tup ys))) ∨ (SqT K H p ys ∧ Q (.ref p) H))) := by subst hK; exact call_tuple_of
theorem xsum (hc : X.calm = true) : CallR X (.builtin "sum") (rSum K) := by subst hK; exact cr_sum hc
theorem xisi : CallR X (.builtin "isinstance") (rIsi K) := by subst hK; exact call_isi
theorem xisiT : CallR X (.builtin "isinstance") (rIsiT K) := by subst hK; exact call_isiT
theorem xfld {e : Expr} {ta : TE} {f : Str} {pos : Pos} (he : PE X e ta) (hb : attributeBase e f X.env (eval e X.env) = eval e X.env) : PE X (.Attribute e f pos) (tFld K ta f) := by subst hK; exact pe_fld he hb
theorem xseq {tg l : Expr} {tl : TE} (h : PE X l tl) : PI X tg l (iSeq K tl) := by subst hK; exact pi_seq h
end
end KG
namespace KG
open PySem PySem.Spec L2
section
variable {P : Program} {w : World} {K : PySem.W.Frag} {mg : Str → Option Value} {base : Heap} {C : Addr}
theorem kit_is {a b : String} {r : Bool} (h : kitB a b = some r) : kitB a b = some r := h
/-- a def that changes nothing and has defaults -/
theorem okPD {R : Rel} {x qual : Str} {st : Stmt} {dvs : List V} {kws : List (Str × V)} {f : Addr} {fd : FuncData} {N ps : List Str} {k : Nat} (F : FunD K x qual (defArgs st) (defBody st) (defScope st) dvs kws f fd) (S : FnScope N ps (defScope st))
    (len : ∀ ds P, R ds P → ds.length = ps.length)
    (hbody : ∀ (cdv : Value) (A : Around) (outer : List Env) (s : Shared) (H : Hp) (E : XK), Room k (A.deeper (PyProof.Rows.envOfC qual (defScope st) s.heap.objs.size f cdv)) →
      ∃ t, PSs (cxOf CX0 P w K mg base N qual (defScope st) f cdv A outer s H E).nox (defBody st) t ∧
        ∀ (B : List Addr) (σ : L2.St) (ds : List PyData) (P' : PyData → Prop) (Q : VK), R ds P' → Sat C ⟨H, [], B, [], []⟩ [] (ρ0 N ds) σ H → (∀ v H' d, P' d → Ex H H' → Dt C (wo B H') v d → Q v H') → t { nx := fun _ H' => Q .non H', rt := Q } σ H) :
    FnOk P w K mg base CX0 (k + 1) f fd ps (spP C R) := by
  refine F.ok S (fun vs H Q E h => ?_) (fun cdv A outer s H vs Q E hr h => ?_)
  · obtain ⟨B, ds, P', al, da, r, _⟩ := h
    rw [da.length]; exact len ds P' r
  · obtain ⟨B, ds, P', al, da, r, q⟩ := h
    obtain ⟨t, ht, hq⟩ := hbody cdv A outer s H E hr
    exact ⟨t, ht.nox, hq B _ ds P' Q r (satP al da) q⟩
/-- is_whole as it stands: two defaults -/
def DfW (K : PySem.W.Frag) (mg : Str → Option Value) : Prop := ∃ f fd, FunD K "is_whole" "is_whole" (defArgs (top 7)) (defBody (top 7)) (defScope (top 7)) [.non, .non] [] f fd ∧ mg "is_whole" = some (.ref f) ∧ Binds K fd (["thing", "low", "high"]) []
/-! is_sequence -/
def R_is_sequence : Rel := fun ds P => ∃ x, ds = [x] ∧ noLot x = true ∧ P = (· = .bool (isSq x))
theorem sc_is_sequence : FnScope (["thing"]) (["thing"]) (defScope (top 8)) := ⟨rfl, rfl, rfl, by decide +kernel, rfl, by decide +kernel, by decide +kernel⟩
theorem ok_is_sequence (T : Txt K mg C) (F : Df K mg "is_sequence" (top 8) (["thing"])) : Cal P w K mg base CX0 1 "is_sequence" (["thing"]) (spP C R_is_sequence) := by
  refine F.cal fun f fd F => ?_
  have nd := sc_is_sequence.nd
  refine okP F sc_is_sequence (fun ds P h => by obtain ⟨x, rfl, _⟩ := h; rfl) fun cdv A outer s H E hr => ⟨_, (pss_one (ps_ret (pe_callB (xisiT K) (by rfl) T.isinstance_ (by decide +kernel) (pa_cons (pv 0) (pa_cons (pe_tup (pa_cons (pe_bltn (v := .ty "list") (by rfl) T.list_ (by decide +kernel) rfl) (pa_cons (pe_bltn (v := .ty "tuple") (by rfl) T.tuple_ (by decide +kernel) rfl) pa_nil))) pa_nil))))), fun B σ ds P' Q r S k => ?_⟩
  obtain ⟨x, rfl, hn, rfl⟩ := r
  exact s_retP S (je_isiT (je_var rfl) hn) k fun _ h => h
/-! is_whole -/
def R_is_whole : Rel := fun ds P => ∃ x lo hi, ds = [x, .int lo, .int hi] ∧ noLot x = true ∧ P = (· = .bool (isWh x lo hi))
theorem sc_is_whole : FnScope (["thing", "low", "high"]) (["thing", "low", "high"]) (defScope (top 7)) := ⟨rfl, rfl, rfl, by decide +kernel, rfl, by decide +kernel, by decide +kernel⟩
theorem isWh_no {x : PyData} {lo hi : Int} (h : tyD x ≠ "int") : isWh x lo hi = false := by
  cases x <;> first | rfl | exact absurd rfl h
theorem wh_no {μ : List MO} {ρ : List SV} {σ : St} {H H0 : Hp} {B V' : List Addr} {G : List (V × PyData)} {D : Ends} {T1 : TS} {P' : PyData → Prop} {x : PyData} {b1 b2 : Bool} (S : Sat C ⟨H0, [], B, V', G⟩ μ ρ σ H) (h0 : ρ[0]? = some (.d x)) (hn : noLot x = true) (k : ∀ v H' d, P' d → Ex H0 H' → Dt C (wo B H') v d → D.rt v H')
    (hp : P' (.bool false)) (h1 : kitB (tyD x) "int" = some b1) (h2 : kitB (tyD x) "bool" = some b2) (hb : (!b1 || b2) = true) :
    tSeq (tIfS (tOr (tNot (tB (tCB (rIsi K) (tCons (tVar 0) (tCons (tC (.ty "int")) tNil))))) (tB (tCB (rIsi K) (tCons (tVar 0) (tCons (tC (.ty "bool")) tNil))))) (tRet (tC (.bl false))) tNext) T1 D σ H :=
  s_seq (s_if (b := true) S ((jt_or (jt_not (jt_B (je_isi (b := b1) (je_var h0) hn h1))) (fun _ => jt_B (je_isi (b := b2) (je_var h0) hn h2))).eq hb) (fun _ H S => s_retP S je_bl k (by rintro _ rfl; exact hp)) fun z => by cases z)
theorem ok_is_whole (T : Txt K mg C) (F : DfW K mg) : Cal P w K mg base CX0 1 "is_whole" (["thing", "low", "high"]) (spP C R_is_whole) := by
  obtain ⟨f, fd, F, hm, b⟩ := F
  refine ⟨f, fd, ?_, hm, F.kp, b⟩
  have nd := sc_is_whole.nd
  refine okPD F sc_is_whole (fun ds P h => by obtain ⟨x, lo, hi, rfl, _⟩ := h; rfl) fun cdv A outer s H E hr => ⟨_, (pss_cons (ps_if (PW.pt (pw_or (pt_not (pt_val (pe_callB (xisi K) (by rfl) T.isinstance_ (by decide +kernel) (pa_cons (pv 0) (pa_cons (pe_bltn (v := .ty "int") (by rfl) T.int_ (by decide +kernel) rfl) pa_nil))))) (pw_or1 (pt_val (pe_callB (xisi K) (by rfl) T.isinstance_ (by decide +kernel) (pa_cons (pv 0) (pa_cons (pe_bltn (v := .ty "bool") (by rfl) T.bool_ (by decide +kernel) rfl) pa_nil))))))) (pss_one (ps_ret pe_bl)) pss_nil)
      (pss_cons (ps_if (PW.pt (pw_and (pt_cmpR op_notN (pv 1) pe_non (nomark _)) (pw_and1 (pt_cmpR op_lt (pv 0) (pv 1) (nomark _))))) (pss_one (ps_ret pe_bl)) pss_nil)
      (pss_one (ps_ret (pe_or (pe_cmpR op_isN (pv 2) pe_non (nomark _)) (pe_one (pe_cmpR op_le (pv 0) (pv 2) (nomark _)))))))), fun B σ ds P' Q r S k => ?_⟩
  obtain ⟨x, lo, hi, rfl, hn, rfl⟩ := r
  cases x with
  | int i =>
    refine s_seq (s_if S (jt_or (jt_not (jt_B (je_isi (b := true) (je_var rfl) hn (by show kitB "int" "int" = some true; decide +kernel)))) (fun _ => jt_B (je_isi (b := false) (je_var rfl) hn (by show kitB "int" "bool" = some false; decide +kernel)))) (fun z => by cases z) fun _ H S => s_nx ?_)
    refine s_seq (s_if S (jt_and (jt_test (je_op (je_var rfl) je_non rd_notN)) fun _ => jt_test (je_op (je_var rfl) (je_var rfl) rd_lt)) (fun z H S => ?_) fun z H S => s_nx ?_)
    · refine s_retP S je_bl k ?_
      rintro _ rfl
      have z' : i < lo := by simpa using z
      simp only [isWh]
      rw [decide_eq_false (by omega)]; rfl
    · refine s_retP S (je_orV (je_op (je_var rfl) je_non rd_isN) fun _ => je_op (je_var rfl) (je_var rfl) rd_le) k ?_
      rintro _ rfl
      have z' : ¬ i < lo := by simpa using z
      simp only [isWh]
      rw [decide_eq_true (show lo ≤ i by omega)]; rfl
  | none => exact wh_no (b1 := false) (b2 := false) S rfl hn k rfl (by show kitB "NoneType" "int" = _; decide +kernel) (by show kitB "NoneType" "bool" = _; decide +kernel) rfl
  | bool b => exact wh_no (b1 := true) (b2 := true) S rfl hn k rfl (by show kitB "bool" "int" = _; decide +kernel) (by show kitB "bool" "bool" = _; decide +kernel) rfl
  | str b => exact wh_no (b1 := false) (b2 := false) S rfl hn k rfl (by show kitB "str" "int" = _; decide +kernel) (by show kitB "str" "bool" = _; decide +kernel) rfl
  | list b => exact wh_no (b1 := false) (b2 := false) S rfl hn k rfl (by show kitB "list" "int" = _; decide +kernel) (by show kitB "list" "bool" = _; decide +kernel) rfl
  | tuple b => exact wh_no (b1 := false) (b2 := false) S rfl hn k rfl (by show kitB "tuple" "int" = _; decide +kernel) (by show kitB "tuple" "bool" = _; decide +kernel) rfl
  | dict b => exact wh_no (b1 := false) (b2 := false) S rfl hn k rfl (by show kitB "dict" "int" = _; decide +kernel) (by show kitB "dict" "bool" = _; decide +kernel) rfl
/-! is_ascending -/
def R_is_ascending : Rel := fun ds P => ∃ (b : List Int) (hi : Int), ds = [.tuple (b.map .int), .int hi] ∧ Asc (-1) hi b ∧ P = (· = .bool true)
theorem sc_is_ascending : FnScope (["thing", "high", "last", "number"]) (["thing", "high"]) (defScope (top 9)) := ⟨rfl, rfl, rfl, by decide +kernel, rfl, by decide +kernel, by decide +kernel⟩
theorem drop_cons {α : Type} {xs : List α} {j : Nat} {x : α} (h : xs[j]? = some x) : xs.drop j = x :: xs.drop (j + 1) := by
  obtain ⟨hl, e⟩ := List.getElem?_eq_some_iff.mp h
  rw [List.drop_eq_getElem_cons hl, e]
theorem map_get {α β : Type} {f : α → β} {xs : List α} {j : Nat} {d : β} (h : (xs.map f)[j]? = some d) : ∃ x, xs[j]? = some x ∧ d = f x := by
  rw [List.getElem?_map] at h
  cases e : xs[j]? with
  | none => rw [e] at h; cases h
  | some x => rw [e] at h; cases h; exact ⟨x, rfl, rfl⟩
theorem ok_is_ascending (T : Txt K mg C) (F : Df K mg "is_ascending" (top 9) (["thing", "high"])) (G_is_sequence : Cal P w K mg base CX0 1 "is_sequence" (["thing"]) (spP C R_is_sequence)) (G_is_whole : Cal P w K mg base CX0 1 "is_whole" (["thing", "low", "high"]) (spP C R_is_whole)) :
    Cal P w K mg base CX0 2 "is_ascending" (["thing", "high"]) (spP C R_is_ascending) := by
  refine F.cal fun f fd F => ?_
  have nd := sc_is_ascending.nd
  refine okP F sc_is_ascending (fun ds P h => by obtain ⟨x, hi, rfl, _⟩ := h; rfl) fun cdv A outer s H E hr => ⟨_, (pss_cons (ps_if (pt_not (pt_val (xcall G_is_sequence hr (pa_cons (pv 0) pa_nil)))) (pss_one (ps_ret pe_bl)) pss_nil)
      (pss_cons (xset 2 nd (pe_un un_neg pe_int))
      (pss_cons (ps_for PassesOwn.never rfl (xseq K (h := (pv 0))) (pg_name (i := 3) nd rfl (by first | exact Or.inl rfl | exact Or.inr rfl)) (pss_cons (ps_if (pt_not (pt_val (xcall G_is_whole hr (pa_cons (pv 3) (pa_cons (pe_op op_add (pv 2) pe_int) (pa_cons (pv 1) pa_nil)))))) (pss_one (ps_ret pe_bl)) pss_nil)
      (pss_one (xset 2 nd (pv 3)))))
      (pss_one (ps_ret pe_bl))))), fun B σ ds P' Q r S k => ?_⟩
  obtain ⟨b, hi, rfl, ha, rfl⟩ := r
  refine s_seq (s_if S (jt_not (jt_B (je_call (ja_cons (je_var rfl) ja_nil) ⟨_, rfl, rfl, rfl⟩))) (fun z => by cases z) fun _ H S => s_nx ?_)
  refine s_seq (s_asg1 S (je_un je_int ud_neg) fun σ H S => ?_)
  refine s_seq (s_forS (fun j μ ρ => μ = [] ∧ ∃ l n, ρ = [.d (.tuple (b.map .int)), .d (.int hi), .d (.int l), n] ∧ Asc l hi (b.drop j)) S (je_var rfl) rfl (fun d _ => jg_name) ⟨rfl, _, _, rfl, ha⟩ ?_ ?_)
  · rintro j d hd v μ' ρ' σ' H' ⟨rfl, l, n, rfl, ha⟩ S
    obtain ⟨x, hx, rfl⟩ := map_get hd
    rw [drop_cons hx] at ha
    obtain ⟨h1, h2, h3⟩ := ha
    refine s_seq (s_if S (jt_not (jt_B (je_call (ja_cons (je_var rfl) (ja_cons (je_op (je_var rfl) je_int rd_add) (ja_cons (je_var rfl) ja_nil))) ⟨_, _, _, rfl, rfl, rfl⟩))) (fun z => ?_) fun _ H S => s_nx ?_)
    · rw [show isWh (.int x) (l + 1) hi = true from isWh_int.mpr ⟨h1, h2⟩] at z; cases z
    · exact s_asg1 S (je_var rfl) fun σ H S => ⟨_, _, ⟨rfl, x, _, rfl, h3⟩, S⟩
  · rintro μ' ρ' σ' H' ⟨rfl, l, n, rfl, _⟩ S
    exact s_retP S je_bl k fun _ h => h
/-! last_pocket -/
def R_last_pocket : Rel := fun ds P => ∃ (kd : Kd) (pl : Nat), ds = [.str kd.s, .int (pl : Int)] ∧ P = (· = .int (lastP kd pl))
theorem sc_last_pocket : FnScope (["kind", "place"]) (["kind", "place"]) (defScope (top 13)) := ⟨rfl, rfl, rfl, by decide +kernel, rfl, by decide +kernel, by decide +kernel⟩
theorem ok_last_pocket (T : Txt K mg C) (F : Df K mg "last_pocket" (top 13) (["kind", "place"])) : Cal P w K mg base CX0 1 "last_pocket" (["kind", "place"]) (spP C R_last_pocket) := by
  refine F.cal fun f fd F => ?_
  have nd := sc_last_pocket.nd
  refine okP F sc_last_pocket (fun ds P h => by obtain ⟨x, hi, rfl, _⟩ := h; rfl) fun cdv A outer s H E hr => ⟨_, (pss_cons (ps_if (pt_cmpR op_eq (pv 0) pe_str (nomark _)) (pss_one (ps_ret (pv 1))) pss_nil)
      (pss_cons (ps_if (pt_cmpR op_eq (pv 0) pe_str (nomark _)) (pss_one (ps_ret (pe_op op_sub (pv 1) pe_int))) pss_nil)
      (pss_one (ps_ret (pe_un un_neg pe_int))))), fun B σ ds P' Q r S k => ?_⟩
  obtain ⟨kd, pl, rfl, rfl⟩ := r
  refine s_seq (s_if S ((jt_test (je_op (je_var rfl) je_str rd_eqS)).eq (kd_any kd)) (fun z H S => s_retP S (je_var rfl) k ?_) fun z1 H S => s_nx ?_)
  · rintro _ rfl; have z := of_decide_eq_true z; subst z; rfl
  refine s_seq (s_if S ((jt_test (je_op (je_var rfl) je_str rd_eqS)).eq (kd_adds kd)) (fun z H S => s_retP S (je_op (je_var rfl) je_int rd_sub) k ?_) fun z2 H S => s_nx ?_)
  · rintro _ rfl; have z := of_decide_eq_true z; subst z; rfl
  refine s_retP S (je_un je_int ud_neg) k ?_
  rintro _ rfl
  cases kd with
  | any => cases z1
  | adds => cases z2
  | kept => rfl
/-! function_shape -/
def R_function_shape : Rel := fun ds P => ∃ s : Stp, ds = [enc s] ∧ P = (· = shapeD s)
theorem sc_function_shape : FnScope (["step", "cell"]) (["step"]) (defScope (top 17)) := ⟨rfl, rfl, rfl, by decide +kernel, rfl, by decide +kernel, by decide +kernel⟩
theorem ok_function_shape (T : Txt K mg C) (F : Df K mg "function_shape" (top 17) (["step"])) : Cal P w K mg base CX0 1 "function_shape" (["step"]) (spP C R_function_shape) := by
  refine F.cal fun f fd F => ?_
  have nd := sc_function_shape.nd
  refine okP F sc_function_shape (fun ds P h => by obtain ⟨x, rfl, _⟩ := h; rfl) fun cdv A outer s H E hr => ⟨_, (pss_cons (xset 1 nd (pe_un un_neg pe_int))
      (pss_cons (ps_if (pt_cmpR op_eq (pe_ix (xix K) (pv 0) pe_int (fun _ _ => rfl)) pe_str (nomark _)) (pss_one (xset 1 nd (pe_ix (xix K) (pv 0) pe_int (fun _ _ => rfl)))) pss_nil)
      (pss_one (ps_ret (pe_tup (pa_cons (pe_ix (xix K) (pv 0) pe_int (fun _ _ => rfl)) (pa_cons (pe_callB (xlen K) (by rfl) T.len_ (by decide +kernel) (pa_cons (pe_ix (xix K) (pv 0) pe_int (fun _ _ => rfl)) pa_nil)) (pa_cons (pv 1) pa_nil)))))))), fun B σ ds P' Q r S k => ?_⟩
  obtain ⟨st, rfl, rfl⟩ := r
  have ix1 : ∀ {ρ : List SV}, ρ[0]? = some (.d (enc st)) → JE C [] ρ (tOp (rIx K) (tVar 0) (tC (.int 1))) (· = .str st.k.s) := fun h => je_op (je_var h) je_int (rd_ix (n := 1) rfl rfl)
  refine s_seq (s_asg1 S (je_un je_int ud_neg) fun σ H S => ?_)
  refine s_seq (s_if S ((jt_test (je_op (ix1 rfl) je_str rd_eqS)).eq (kd_adds st.k)) (fun z H S => ?_) fun z H S => s_nx ?_)
  · have z := of_decide_eq_true z
    refine s_asg1 S (je_op (je_var rfl) je_int (rd_ix (n := 0) rfl rfl)) fun σ H S => ?_
    refine s_retP S (je_tup (ja_cons (ix1 rfl) (ja_cons (je_cb (ja_cons (je_op (je_var rfl) je_int (rd_ix (n := 2) rfl rfl)) ja_nil) (cd_len rfl)) (ja_cons (je_var rfl) ja_nil)))) k ?_
    rintro _ rfl
    simp only [shapeD, z, if_true, List.length_map]
  · have z := of_decide_eq_false z
    refine s_retP S (je_tup (ja_cons (ix1 rfl) (ja_cons (je_cb (ja_cons (je_op (je_var rfl) je_int (rd_ix (n := 2) rfl rfl)) ja_nil) (cd_len rfl)) (ja_cons (je_var rfl) ja_nil)))) k ?_
    rintro _ rfl
    simp only [shapeD, if_neg z, List.length_map]
/-! check_step -/
def R_check_step : Rel := fun ds P => ∃ (st : Stp) (c : Int) (pl : Nat), ds = [enc st, .int c, .int (pl : Int)] ∧ StepOk c pl st ∧ P = (· = enc st)
theorem sc_check_step : FnScope (["step", "cells", "place", "cell", "kind", "goes_by", "name"]) (["step", "cells", "place"]) (defScope (top 12)) := ⟨rfl, rfl, rfl, by decide +kernel, rfl, by decide +kernel, by decide +kernel⟩
theorem kit_ss : kitB "str" "str" = some true := by decide +kernel
theorem ok_check_step (T : Txt K mg C) (F : Df K mg "check_step" (top 12) (["step", "cells", "place"])) (G_is_sequence : Cal P w K mg base CX0 1 "is_sequence" (["thing"]) (spP C R_is_sequence)) (G_is_whole : Cal P w K mg base CX0 1 "is_whole" (["thing", "low", "high"]) (spP C R_is_whole))
    (G_is_ascending : Cal P w K mg base CX0 2 "is_ascending" (["thing", "high"]) (spP C R_is_ascending)) (G_last_pocket : Cal P w K mg base CX0 1 "last_pocket" (["kind", "place"]) (spP C R_last_pocket)) : Cal P w K mg base CX0 3 "check_step" (["step", "cells", "place"]) (spP C R_check_step) := by
  refine F.cal fun f fd F => ?_
  have nd := sc_check_step.nd
  obtain ⟨kk, gk, hk⟩ := T.kinds
  refine okP F sc_check_step (fun ds P h => by obtain ⟨x, c, pl, rfl, _⟩ := h; rfl) fun cdv A outer s H E hr => ⟨_, (pss_cons (ps_if (PW.pt (pw_or (pt_not (pt_val (xcall G_is_sequence hr (pa_cons (pv 0) pa_nil)))) (pw_or1 (pt_cmpR op_ne (pe_callB (xlen K) (by rfl) T.len_ (by decide +kernel) (pa_cons (pv 0) pa_nil)) pe_int (nomark _))))) (pss_one ps_never) pss_nil)
      (pss_cons (ps_asg (pv 0) (pg_tup rfl (pgs_cons (pg_name (i := 3) nd rfl (by first | exact Or.inl rfl | exact Or.inr rfl)) (pgs_cons (pg_name (i := 4) nd rfl (by first | exact Or.inl rfl | exact Or.inr rfl)) (pgs_cons (pg_name (i := 5) nd rfl (by first | exact Or.inl rfl | exact Or.inr rfl)) (pgs_cons (pg_name (i := 6) nd rfl (by first | exact Or.inl rfl | exact Or.inr rfl)) pgs_nil))))))
      (pss_cons (ps_if (pt_not (pt_val (xcall G_is_whole hr (pa_cons (pv 3) (pa_cons pe_int (pa_cons (pe_op op_sub (pv 1) pe_int) pa_nil)))))) (pss_one ps_never) pss_nil)
      (pss_cons (ps_if (PW.pt (pw_or (pt_not (pt_val (pe_callB (xisi K) (by rfl) T.isinstance_ (by decide +kernel) (pa_cons (pv 4) (pa_cons (pe_bltn (v := .ty "str") (by rfl) T.str_ (by decide +kernel) rfl) pa_nil))))) (pw_or1 (pt_cmpR (xnin K) (pv 4) (pe_glob (v := .ref kk) (by rfl) gk rfl) (by rfl))))) (pss_one ps_never) pss_nil)
      (pss_cons (ps_if (pt_not (pt_val (xcall G_is_ascending hr (pa_cons (pv 5) (pa_cons (xcall G_last_pocket hr (pa_cons (pv 4) (pa_cons (pv 2) pa_nil))) pa_nil))))) (pss_one ps_never) pss_nil)
      (pss_cons (ps_if (PW.pt (pw_and (pt_cmpR op_eq (pv 4) pe_str (nomark _)) (pw_and1 (pt_not (pt_val (xcall G_is_whole hr (pa_cons (pv 6) (pa_cons (pe_un un_neg pe_int) (pa_cons (pe_un un_neg pe_int) pa_nil))))))))) (pss_one ps_never) pss_nil)
      (pss_cons (ps_if (PW.pt (pw_and (pt_cmpR op_ne (pv 4) pe_str (nomark _)) (pw_and1 (pt_not (pt_val (xcall G_is_whole hr (pa_cons (pv 6) (pa_cons pe_int (pa_cons pe_int pa_nil))))))))) (pss_one ps_never) pss_nil)
      (pss_one (ps_ret (pe_tup (pa_cons (pv 3) (pa_cons (pv 4) (pa_cons (pe_callTy (xtuple K) (by rfl) T.tuple_ (by decide +kernel) (pa_cons (pv 5) pa_nil)) (pa_cons (pv 6) pa_nil)))))))))))))), fun B σ ds P' Q r S k => ?_⟩
  obtain ⟨st, c, pl, rfl, ok, rfl⟩ := r
  refine s_seq (s_if S (jt_or (jt_not (jt_B (je_call (ja_cons (je_var rfl) ja_nil) ⟨_, rfl, rfl, rfl⟩))) fun _ => jt_test (je_op (je_cb (ja_cons (je_var rfl) ja_nil) (cd_len rfl)) je_int rd_neI)) (fun z => by cases z) fun _ H S => s_nx ?_)
  refine s_seq (s_asgG S (je_var rfl) (jg_tup4 (a := .int st.c) (b := .str st.k.s) (c := .tuple (st.b.map .int)) (d := .int st.n)) fun σ H S => ?_)
  refine s_seq (s_if S (jt_not (jt_B (je_call (ja_cons (je_var rfl) (ja_cons je_int (ja_cons (je_op (je_var rfl) je_int rd_sub) ja_nil))) ⟨_, _, _, rfl, rfl, rfl⟩))) (fun z => ?_) fun _ H S => s_nx ?_)
  · rw [show isWh (.int st.c) 0 (c - 1) = true from isWh_int.mpr ok.cell] at z; cases z
  refine s_seq (s_if S (jt_or (jt_not (jt_B (je_isi (x := .str st.k.s) (b := true) (je_var rfl) rfl kit_ss))) fun _ => jt_test (je_niK (ns := ["any", "kept", "adds"]) (je_var rfl) hk)) (fun z => ?_) fun _ H S => s_nx ?_)
  · have e : decide (st.k.s ∈ (["any", "kept", "adds"] : List Str)) = true := by
      cases st.k <;> simp [Kd.s]
    rw [e] at z; cases z
  refine s_seq (s_if S (jt_not (jt_B (je_call (ja_cons (je_var rfl) (ja_cons (je_call (ja_cons (je_var rfl) (ja_cons (je_var rfl) ja_nil)) ⟨_, _, rfl, rfl⟩) ja_nil)) ⟨_, _, rfl, ok.asc, rfl⟩))) (fun z => by cases z) fun _ H S => s_nx ?_)
  refine s_seq (s_if S (jt_and ((jt_test (je_op (je_var rfl) je_str rd_eqS)).eq (kd_kept st.k)) fun _ => jt_not (jt_B (je_call (ja_cons (je_var rfl) (ja_cons (je_un je_int ud_neg) (ja_cons (je_un je_int ud_neg) ja_nil))) ⟨_, _, _, rfl, rfl, rfl⟩))) (fun z => ?_) fun _ H S => s_nx ?_)
  · rw [Bool.and_eq_true] at z
    have e := ok.nk (of_decide_eq_true z.1)
    rw [show isWh (.int st.n) (-1) (-1) = true from isWh_int.mpr (by omega)] at z; cases z.2
  refine s_seq (s_if S (jt_and ((jt_test (je_op (je_var rfl) je_str rd_neS)).eq (congrArg (fun b => !b) (kd_kept st.k))) fun _ => jt_not (jt_B (je_call (ja_cons (je_var rfl) (ja_cons je_int (ja_cons je_int ja_nil))) ⟨_, _, _, rfl, rfl, rfl⟩))) (fun z => ?_) fun _ H S => s_nx ?_)
  · rw [Bool.and_eq_true] at z
    have e := ok.nn (by simpa using z.1)
    rw [show isWh (.int st.n) 0 99 = true from isWh_int.mpr e] at z; cases z.2
  exact s_retP S (je_tup (ja_cons (je_var rfl) (ja_cons (je_var rfl) (ja_cons (je_cb (ja_cons (je_var rfl) ja_nil) (cd_tuple rfl)) (ja_cons (je_var rfl) ja_nil))))) k fun _ h => h
end
end KG

namespace KG
open PySem PySem.Spec L2
theorem map_at {α β : Type} {f : α → β} {xs : List α} {i : Nat} {x : α} (h : xs[i]? = some x) : (xs.map f)[i]? = some (f x) := by rw [List.getElem?_map, h]; rfl
section
variable {P : Program} {w : World} {K : PySem.W.Frag} {mg : Str → Option Value} {base : Heap} {C : Addr}
/-! goes_by_adds -/
def R_goes_by_adds : Rel := fun ds P => ∃ p : Prg, ds = [encP p] ∧ (∀ s ∈ p, ∀ q ∈ s.b, ∃ (j : Nat) (t : Stp), q = (j : Int) ∧ p[j]? = some t ∧ t.k ≠ .adds) ∧ P = (· = .bool false)
theorem sc_goes_by_adds : FnScope (["program", "step", "place"]) (["program"]) (defScope (top 16)) := ⟨rfl, rfl, rfl, by decide +kernel, rfl, by decide +kernel, by decide +kernel⟩
theorem ok_goes_by_adds (T : Txt K mg C) (F : Df K mg "goes_by_adds" (top 16) (["program"])) : Cal P w K mg base CX0 1 "goes_by_adds" (["program"]) (spP C R_goes_by_adds) := by
  refine F.cal fun f fd F => ?_
  have nd := sc_goes_by_adds.nd
  refine okP F sc_goes_by_adds (fun ds P h => by obtain ⟨x, rfl, _⟩ := h; rfl) fun cdv A outer s H E hr => ⟨_, (pss_cons (ps_for PassesOwn.never rfl (xseq K (h := (pv 0))) (pg_name (i := 1) nd rfl (by first | exact Or.inl rfl | exact Or.inr rfl)) (pss_one (ps_for PassesOwn.never rfl (xseq K (h := (pe_ix (xix K) (pv 1) pe_int (fun _ _ => rfl)))) (pg_name (i := 2) nd rfl (by first | exact Or.inl rfl | exact Or.inr rfl)) (pss_one (ps_if (pt_cmpR op_eq (pe_ix (xix K) (pe_ix (xix K) (pv 0) (pv 2) (fun _ _ => rfl)) pe_int (fun _ _ => rfl)) pe_str (nomark _)) (pss_one (ps_ret pe_bl)) pss_nil)))))
      (pss_one (ps_ret pe_bl))), fun B σ ds P' Q r S k => ?_⟩
  obtain ⟨p, rfl, hp, rfl⟩ := r
  refine s_seq (s_forS (fun j μ ρ => μ = [] ∧ ∃ a b, ρ = [.d (encP p), a, b]) S (je_var rfl) rfl (fun d _ => jg_name) ⟨rfl, _, _, rfl⟩ ?_ ?_)
  · rintro j d hd v μ' ρ' σ' H' ⟨rfl, a, b, rfl⟩ S
    obtain ⟨s, hs, rfl⟩ := map_get hd
    have hsm := List.mem_of_getElem? hs
    refine s_forS (fun j μ ρ => μ = [] ∧ ∃ b, ρ = [.d (encP p), .d (enc s), b]) S (je_op (je_var rfl) je_int (rd_ix (n := 2) rfl rfl)) rfl (fun d _ => jg_name) ⟨rfl, _, rfl⟩ ?_ ?_
    · rintro j d hd v μ' ρ' σ' H' ⟨rfl, b, rfl⟩ S
      obtain ⟨q, hq, rfl⟩ := map_get hd
      obtain ⟨i, t, rfl, ht, hk⟩ := hp s hsm q (List.mem_of_getElem? hq)
      refine s_if S ((jt_test (je_op (je_op (je_op (je_var rfl) (je_var rfl) (rd_ix (n := i) rfl (map_at ht))) je_int (rd_ix (n := 1) rfl rfl)) je_str rd_eqS)).eq (kd_adds t.k)) (fun z => absurd (of_decide_eq_true z) hk) fun _ H S => s_nx ⟨_, _, ⟨rfl, _, rfl⟩, S⟩
    · rintro μ' ρ' σ' H' ⟨rfl, b, rfl⟩ S
      exact ⟨_, _, ⟨rfl, _, _, rfl⟩, S⟩
  · rintro μ' ρ' σ' H' ⟨rfl, a, b, rfl⟩ S
    exact s_retP S je_bl k fun _ h => h
/-! has_unlike_names -/
theorem shapeD_of {s t : Stp} (h : shape s = shape t) : shapeD s = shapeD t := by
  have h1 := congrArg Prod.fst h
  have h2 := congrArg (fun x => x.2.1) h
  have h3 := congrArg (fun x => x.2.2) h
  simp only [shape] at h1 h2 h3
  simp only [shapeD]
  rw [h2, h3, h1]
theorem shapeD_iff {s t : Stp} : shapeD s = shapeD t ↔ shape s = shape t := by
  refine ⟨fun h => ?_, shapeD_of⟩
  simp only [shapeD, PyData.tuple.injEq, List.cons.injEq, PyData.str.injEq, PyData.int.injEq] at h
  obtain ⟨h1, h2, h3, _⟩ := h
  have h1 := Kd.s_inj.mp h1
  simp only [shape]
  rw [h3, h1]
  have : s.b.length = t.b.length := by omega
  rw [this]
theorem kd_strOk (k : Kd) : PyData.canLay0 (.str k.s) = true := by cases k <;> decide +kernel
theorem shapeD_shaped (s : Stp) : SeqAt.shaped (shapeD s) = true := by
  unfold SeqAt.shaped shapeD
  have h := kd_strOk s.k
  simp only [PyData.canLay0, PyData.canLayAll0, Bool.and_true, PyData.depth, PyData.depthAll] at h ⊢
  rw [h]; rfl
theorem shapeD_refl (s : Stp) : PyData.eqv (shapeD s) (shapeD s) = true := SeqAt.eqv_refl _ (SeqAt.canLay_of_shaped (shapeD_shaped s))
def R_has_unlike_names : Rel := fun ds P => ∃ ps : List Prg, ds = [encPs ps] ∧ Con ps.flatten ∧ ps.length ≤ 3 ∧ (∀ p ∈ ps, p.length ≤ 4) ∧ P = (· = .bool false)
theorem sc_has_unlike_names : FnScope (["programs", "shapes", "program", "step", "shape"]) (["programs"]) (defScope (top 18)) := ⟨rfl, rfl, rfl, by decide +kernel, rfl, by decide +kernel, by decide +kernel⟩
theorem ok_has_unlike_names (T : Txt K mg C) (F : Df K mg "has_unlike_names" (top 18) (["programs"])) (G_function_shape : Cal P w K mg base CX0 1 "function_shape" (["step"]) (spP C R_function_shape)) : Cal P w K mg base CX0 2 "has_unlike_names" (["programs"]) (spP C R_has_unlike_names) := by
  refine F.cal fun f fd F => ?_
  have nd := sc_has_unlike_names.nd
  refine okP F sc_has_unlike_names (fun ds P h => by obtain ⟨x, rfl, _⟩ := h; rfl) fun cdv A outer s H E hr => ⟨_, (pss_cons (xset 1 nd pe_dnewK)
      (pss_cons (ps_for PassesOwn.never rfl (xseq K (h := (pv 0))) (pg_name (i := 2) nd rfl (by first | exact Or.inl rfl | exact Or.inr rfl)) (pss_one (ps_for PassesOwn.never rfl (xseq K (h := (pv 2))) (pg_name (i := 3) nd rfl (by first | exact Or.inl rfl | exact Or.inr rfl)) (pss_one (ps_if (pt_cmpR op_ne (pe_ix (xix K) (pv 3) pe_int (fun _ _ => rfl)) pe_str (nomark _)) (pss_cons (xset 4 nd (xcall G_function_shape hr (pa_cons (pv 3) pa_nil)))
      (pss_one (ps_if (pt_cmpR (xneD K (hu := hr.units)) (pe_dsetd (pv 1) (pe_ix (xix K) (pv 3) pe_int (fun _ _ => rfl)) (pv 4) ⟨rfl, rfl, rfl, rfl⟩) (pv 4) (nomark _)) (pss_one (ps_ret pe_bl)) pss_nil))) pss_nil)))))
      (pss_one (ps_ret pe_bl)))), fun B σ ds P' Q r S k => ?_⟩
  obtain ⟨ps, rfl, con, hl, hl4, rfl⟩ := r
  let I : Int → PyData → Prop := fun n d => ∀ s ∈ ps.flatten, s.k ≠ .kept → s.n = n → d = shapeD s
  refine s_seq (s_newd I S rfl fun pd σ H hpd S => ?_)
  refine s_seq (s_forS (fun j μ ρ => (∃ m, m ≤ 100 * j ∧ μ = [.dk I m]) ∧ ∃ a b c, ρ = [.d (encPs ps), .m 0, a, b, c]) S (je_var rfl) rfl (fun d _ => jg_name) ⟨⟨0, by omega, rfl⟩, _, _, _, rfl⟩ ?_ ?_)
  · rintro j d hd v μ' ρ' σ' H' ⟨⟨m, hm, rfl⟩, a, b, c, rfl⟩ S
    obtain ⟨p, hp, rfl⟩ := map_get hd
    have hpm := List.mem_of_getElem? hp
    have hj : j < ps.length := (List.getElem?_eq_some_iff.mp hp).1
    refine s_forS (fun i μ ρ => (∃ m, m ≤ 100 * j + i ∧ μ = [.dk I m]) ∧ ∃ b c, ρ = [.d (encPs ps), .m 0, .d (encP p), b, c]) S (je_var rfl) rfl (fun d _ => jg_name) ⟨⟨m, hm, rfl⟩, _, _, rfl⟩ ?_ ?_
    · rintro i d hd v μ' ρ' σ' H' ⟨⟨m, hm, rfl⟩, b, c, rfl⟩ S
      obtain ⟨st, hst, rfl⟩ := map_get hd
      have hi : i < p.length := (List.getElem?_eq_some_iff.mp hst).1
      have hsm : st ∈ ps.flatten := List.mem_flatten.mpr ⟨p, hpm, List.mem_of_getElem? hst⟩
      have := hl4 p hpm
      refine s_if S ((jt_test (je_op (je_op (je_var rfl) je_int (rd_ix (n := 1) rfl rfl)) je_str rd_neS)).eq (congrArg (fun b => !b) (kd_kept st.k))) (fun z H S => ?_) fun _ H S => s_nx ⟨_, _, ⟨⟨m, by omega, rfl⟩, _, _, rfl⟩, S⟩
      have nk : st.k ≠ .kept := by simpa using z
      refine s_seq (s_asg1 S (je_call (ja_cons (je_var rfl) ja_nil) ⟨_, rfl, rfl⟩) fun σ H S => ?_)
      exact s_ifd (I := I) (n := m) (a := st.n) (x := shapeD st) S rfl rfl (je_op (je_var rfl) je_int (rd_ix (n := 3) rfl rfl)) (je_var rfl) (je_var rfl)
        (fun t ht kt en => shapeD_of (con st hsm t ht nk kt en.symm)) (fun d hd => hd st hsm nk rfl) (shapeD_shaped st) (shapeD_refl st) (by omega) fun σ H S => s_nx ⟨_, _, ⟨⟨m + 1, by omega, rfl⟩, _, _, rfl⟩, S⟩
    · rintro μ' ρ' σ' H' ⟨⟨m, hm, rfl⟩, b, c, rfl⟩ S
      have := hl4 p hpm
      rw [List.length_map] at hm
      exact ⟨_, _, ⟨⟨m, by omega, rfl⟩, _, _, _, rfl⟩, S⟩
  · rintro μ' ρ' σ' H' ⟨⟨m, hm, rfl⟩, a, b, c, rfl⟩ S
    exact s_retP S je_bl k fun _ h => h
/-! checked_steps -/
def R_checked_steps : Rel := fun ds P => ∃ (c : Int) (p : Prg), ds = [.int c, encP p] ∧ (∀ k s, p[k]? = some s → StepOk c k s) ∧ p.length ≤ 100 ∧ P = (· = encP p)
theorem sc_checked_steps : FnScope (["cells", "program", "told", "place"]) (["cells", "program"]) (defScope (top 15)) := ⟨rfl, rfl, rfl, by decide +kernel, rfl, by decide +kernel, by decide +kernel⟩
theorem ok_checked_steps (T : Txt K mg C) (F : Df K mg "checked_steps" (top 15) (["cells", "program"])) (G_check_step : Cal P w K mg base CX0 3 "check_step" (["step", "cells", "place"]) (spP C R_check_step)) : Cal P w K mg base CX0 4 "checked_steps" (["cells", "program"]) (spP C R_checked_steps) := by
  refine F.cal fun f fd F => ?_
  have nd := sc_checked_steps.nd
  refine okP F sc_checked_steps (fun ds P h => by obtain ⟨c, x, rfl, _⟩ := h; rfl) fun cdv A outer s H E hr => ⟨_, (pss_cons (xset 2 nd (pe_lst pa_nil))
      (pss_cons (ps_for PassesOwn.never rfl (pi_range1 (by rfl) T.range_ (pa_cons (pe_callB (xlen K) (by rfl) T.len_ (by decide +kernel) (pa_cons (pv 1) pa_nil)) pa_nil)) (pg_name (i := 3) nd rfl (by first | exact Or.inl rfl | exact Or.inr rfl)) (pss_one (ps_try_thru0 (pss_one (ps_expr (pe_bm PySem.F.plainAttrs_list PySem.F.slot_list_append PySem.F.type_list_append mt_append (pv 2) (pa_cons (xcall G_check_step hr (pa_cons (pe_ix (xix K) (pv 1) (pv 3) (fun _ _ => rfl)) (pa_cons (pv 0) (pa_cons (pv 3) pa_nil)))) pa_nil)))))))
      (pss_one (ps_ret (pe_callTy (xtuple K) (by rfl) T.tuple_ (by decide +kernel) (pa_cons (pv 2) pa_nil)))))), fun B σ ds P' Q r S k => ?_⟩
  obtain ⟨c, p, rfl, ok, hl, rfl⟩ := r
  refine s_seq (s_new S rfl fun pd σ H hpd S => ?_)
  refine s_seq (s_forR (n := p.length) (fun j μ ρ => μ = [.lst ((p.take j).map enc)] ∧ ∃ a, ρ = [.d (.int c), .d (encP p), .m 0, a]) S (ja_cons ((je_cb (ja_cons (je_var rfl) ja_nil) (cd_len rfl)).eq (by rw [List.length_map])) ja_nil) (by omega) ⟨rfl, _, rfl⟩ ?_ ?_)
  · rintro j hj μ' ρ' σ' H' ⟨rfl, a, rfl⟩ S
    obtain ⟨st, hst⟩ : ∃ st, p[j]? = some st := ⟨_, List.getElem?_eq_getElem hj⟩
    refine s_app S rfl rfl (je_call (ja_cons (je_op (je_var rfl) (je_var rfl) (rd_ix (n := j) rfl (map_at hst))) (ja_cons (je_var rfl) (ja_cons (je_var rfl) ja_nil))) ⟨st, c, j, rfl, ok j st hst, rfl⟩) (by rw [List.length_map, List.length_take]; omega) ?_
    rintro _ H rfl S
    refine ⟨_, _, ⟨?_, _, rfl⟩, S⟩
    rw [take_snoc hst, List.map_append]; rfl
  · rintro μ' ρ' σ' H' ⟨rfl, a, rfl⟩ S
    refine s_retP S (je_tuplem rfl rfl) k ?_
    rintro _ rfl
    rw [List.take_length]; rfl
/-! is_place -/
def R_is_place : Rel := fun ds P => ∃ (c : Int) (ps : List Prg) (x y : PyData), ds = [lotD c ps, x, y] ∧ noLot x = true ∧ noLot y = true ∧ P = (· = .bool (isPl ps x y))
theorem sc_is_place : FnScope (["lot", "program", "place"]) (["lot", "program", "place"]) (defScope (top 21)) := ⟨rfl, rfl, rfl, by decide +kernel, rfl, by decide +kernel, by decide +kernel⟩
theorem ok_is_place (T : Txt K mg C) (F : Df K mg "is_place" (top 21) (["lot", "program", "place"])) (G_is_whole : Cal P w K mg base CX0 1 "is_whole" (["thing", "low", "high"]) (spP C R_is_whole)) : Cal P w K mg base CX0 2 "is_place" (["lot", "program", "place"]) (spP C R_is_place) := by
  refine F.cal fun f fd F => ?_
  have nd := sc_is_place.nd
  refine okP F sc_is_place (fun ds P h => by obtain ⟨c, ps, x, y, rfl, _⟩ := h; rfl) fun cdv A outer s H E hr => ⟨_, (pss_cons (ps_if (pt_not (pt_val (xcall G_is_whole hr (pa_cons (pv 1) (pa_cons pe_int (pa_cons (pe_op op_sub (pe_callB (xlen K) (by rfl) T.len_ (by decide +kernel) (pa_cons (xfld K (he := (pv 0)) (hb := rfl)) pa_nil)) pe_int) pa_nil)))))) (pss_one (ps_ret pe_bl)) pss_nil)
      (pss_one (ps_ret (xcall G_is_whole hr (pa_cons (pv 2) (pa_cons pe_int (pa_cons (pe_op op_sub (pe_callB (xlen K) (by rfl) T.len_ (by decide +kernel) (pa_cons (pe_ix (xix K) (xfld K (he := (pv 0)) (hb := rfl)) (pv 1) (fun _ _ => rfl)) pa_nil)) pe_int) pa_nil))))))), fun B σ ds P' Q r S k => ?_⟩
  obtain ⟨c, ps, x, y, rfl, hx, hy, rfl⟩ := r
  refine s_seq (s_if S (jt_not (jt_B (je_call (ja_cons (je_var rfl) (ja_cons je_int (ja_cons (je_op (je_cb (ja_cons (je_programs T.cl T.nP (je_var rfl)) ja_nil) (cd_len rfl)) je_int rd_sub) ja_nil))) ⟨x, 0, _, rfl, hx, rfl⟩))) (fun z H S => ?_) fun z H S => s_nx ?_)
  · refine s_retP S je_bl k ?_
    rintro _ rfl
    rw [List.length_map] at z
    cases x with
    | int i =>
      have z : isWh (.int i) 0 ((ps.length : Int) - 1) = false := by simpa using z
      simp only [isWh, Bool.and_eq_false_iff, decide_eq_false_iff_not] at z
      simp only [isPl]
      congr 1
      rcases z with z | z
      · rw [decide_eq_false z]; rfl
      · rw [decide_eq_false (show ¬ i < (ps.length : Int) by omega), Bool.and_false]; rfl
    | _ => rfl
  · rw [List.length_map] at z
    cases x with
    | int i =>
      have z : isWh (.int i) 0 ((ps.length : Int) - 1) = true := by simpa using z
      obtain ⟨h1, h2⟩ := isWh_int.mp z
      obtain ⟨n, rfl⟩ : ∃ n : Nat, i = (n : Int) := ⟨i.toNat, by omega⟩
      have hn : n < ps.length := by omega
      refine s_retP S (je_call (ja_cons (je_var rfl) (ja_cons je_int (ja_cons (je_op (je_cb (ja_cons (je_op (je_programs T.cl T.nP (je_var rfl)) (je_var rfl) (rd_ix (n := n) rfl (map_at (get_of_lt [] hn)))) ja_nil) (cd_len rfl)) je_int rd_sub) ja_nil))) ⟨y, 0, _, rfl, hy, rfl⟩) k ?_
      rintro _ rfl
      simp only [isPl, Int.toNat_natCast, List.length_map]
      rw [decide_eq_true (show (0 : Int) ≤ n by omega), decide_eq_true (show (n : Int) < (ps.length : Int) by omega)]
      rfl
    | _ => simp [isWh] at z
/-! is_fact -/
def R_is_fact : Rel := fun ds P => ∃ (c : Int) (ps : List Prg) (x : PyData), ds = [lotD c ps, x] ∧ x.canLay0 = true ∧ P = (· = .bool (isFact ps x))
theorem sc_is_fact : FnScope (["lot", "fact"]) (["lot", "fact"]) (defScope (top 22)) := ⟨rfl, rfl, rfl, by decide +kernel, rfl, by decide +kernel, by decide +kernel⟩
theorem kit_str {x : PyData} : ∃ b, kitB (tyD x) "str" = some b ∧ (b = true ↔ ∃ s, x = .str s) := by
  cases x with
  | str s => exact ⟨true, by show kitB "str" "str" = _; decide +kernel, by simp⟩
  | none => exact ⟨false, by show kitB "NoneType" "str" = _; decide +kernel, by simp⟩
  | bool => exact ⟨false, by show kitB "bool" "str" = _; decide +kernel, by simp⟩
  | int => exact ⟨false, by show kitB "int" "str" = _; decide +kernel, by simp⟩
  | list => exact ⟨false, by show kitB "list" "str" = _; decide +kernel, by simp⟩
  | tuple => exact ⟨false, by show kitB "tuple" "str" = _; decide +kernel, by simp⟩
  | dict => exact ⟨false, by show kitB "dict" "str" = _; decide +kernel, by simp⟩
theorem ok_is_fact (T : Txt K mg C) (F : Df K mg "is_fact" (top 22) (["lot", "fact"])) (G_is_sequence : Cal P w K mg base CX0 1 "is_sequence" (["thing"]) (spP C R_is_sequence)) (G_is_whole : Cal P w K mg base CX0 1 "is_whole" (["thing", "low", "high"]) (spP C R_is_whole)) (G_is_place : Cal P w K mg base CX0 2 "is_place" (["lot", "program", "place"]) (spP C R_is_place)) : Cal P w K mg base CX0 3 "is_fact" (["lot", "fact"]) (spP C R_is_fact) := by
  refine F.cal fun f fd F => ?_
  have nd := sc_is_fact.nd
  refine okP F sc_is_fact (fun ds P h => by obtain ⟨c, ps, x, rfl, _⟩ := h; rfl) fun cdv A outer s H E hr => ⟨_, (pss_cons (ps_if (PW.pt (pw_or (pt_not (pt_val (xcall G_is_sequence hr (pa_cons (pv 1) pa_nil)))) (pw_or (pt_cmpR op_lt (pe_callB (xlen K) (by rfl) T.len_ (by decide +kernel) (pa_cons (pv 1) pa_nil)) pe_int (nomark _)) (pw_or1 (pt_not (pt_val (pe_callB (xisi K) (by rfl) T.isinstance_ (by decide +kernel) (pa_cons (pe_ix (xix K) (pv 1) pe_int (fun _ _ => rfl)) (pa_cons (pe_bltn (v := .ty "str") (by rfl) T.str_ (by decide +kernel) rfl) pa_nil))))))))) (pss_one (ps_ret pe_bl)) pss_nil)
      (pss_cons (ps_if (pt_not (pt_val (xcall G_is_place hr (pa_cons (pv 0) (pa_cons (pe_ix (xix K) (pv 1) pe_int (fun _ _ => rfl)) (pa_cons (pe_ix (xix K) (pv 1) pe_int (fun _ _ => rfl)) pa_nil)))))) (pss_one (ps_ret pe_bl)) pss_nil)
      (pss_cons (ps_if (pt_cmpR op_eq (pe_ix (xix K) (pv 1) pe_int (fun _ _ => rfl)) pe_str (nomark _)) (pss_one (ps_ret (pe_and (pe_cmpR op_eq (pe_callB (xlen K) (by rfl) T.len_ (by decide +kernel) (pa_cons (pv 1) pa_nil)) pe_int (nomark _)) (pe_one (xcall G_is_whole hr (pa_cons (pe_ix (xix K) (pv 1) pe_int (fun _ _ => rfl)) (pa_cons pe_int (pa_cons (pe_ix (xix K) (pv 1) pe_int (fun _ _ => rfl)) pa_nil)))))))) pss_nil)
      (pss_cons (ps_if (PW.pt (pw_or (pt_cmpR op_eq (pe_ix (xix K) (pv 1) pe_int (fun _ _ => rfl)) pe_str (nomark _)) (pw_or1 (pt_cmpR op_eq (pe_ix (xix K) (pv 1) pe_int (fun _ _ => rfl)) pe_str (nomark _))))) (pss_one (ps_ret (pe_cmpR op_eq (pe_callB (xlen K) (by rfl) T.len_ (by decide +kernel) (pa_cons (pv 1) pa_nil)) pe_int (nomark _)))) pss_nil)
      (pss_cons (ps_if (PW.pt (pw_or (pt_cmpR op_ne (pe_ix (xix K) (pv 1) pe_int (fun _ _ => rfl)) pe_str (nomark _)) (pw_or (pt_cmpR op_ne (pe_callB (xlen K) (by rfl) T.len_ (by decide +kernel) (pa_cons (pv 1) pa_nil)) pe_int (nomark _)) (pw_or1 (pt_not (pt_val (xcall G_is_place hr (pa_cons (pv 0) (pa_cons (pe_ix (xix K) (pv 1) pe_int (fun _ _ => rfl)) (pa_cons (pe_ix (xix K) (pv 1) pe_int (fun _ _ => rfl)) pa_nil)))))))))) (pss_one (ps_ret pe_bl)) pss_nil)
      (pss_one (ps_ret (pe_cmpR (xltT K (hu := hr.units0)) (pe_tup (pa_cons (pe_ix (xix K) (pv 1) pe_int (fun _ _ => rfl)) (pa_cons (pe_ix (xix K) (pv 1) pe_int (fun _ _ => rfl)) pa_nil))) (pe_tup (pa_cons (pe_ix (xix K) (pv 1) pe_int (fun _ _ => rfl)) (pa_cons (pe_ix (xix K) (pv 1) pe_int (fun _ _ => rfl)) pa_nil))) (nomark _))))))))), fun B σ ds P' Q r S k => ?_⟩
  obtain ⟨c, ps, x, rfl, hx, rfl⟩ := r
  have hseq : JT C [] (ρ0 (["lot", "fact"]) [lotD c ps, x]) (tNot (tB (tCall (spP C R_is_sequence) [] E0 (tCons (tVar 1) tNil)))) (· = !isSq x) := jt_not (jt_B (je_call (ja_cons (je_var rfl) ja_nil) ⟨x, rfl, lay_noLot hx, rfl⟩))
  cases hs : sqD x with
  | none =>
    have e : isSq x = false := by rw [sq_is, hs]; rfl
    rw [e] at hseq
    refine s_seq (s_ifn S (jn_or (R := fun _ => False) (S := (· = true)) hseq (fun z => by cases z) (fun z => by cases z) fun _ => rfl) (fun _ H S => s_retP S je_bl k ?_) (fun z => by cases z))
    rintro _ rfl
    simp only [isFact, hs]
  | some ds =>
    have e : isSq x = true := by rw [sq_is, hs]; rfl
    have lay := lay_sq hx hs
    have isf : isFact ps x = isFactL ps ds := by simp only [isFact, hs]
    rw [isf] at k
    rw [e] at hseq
    have hlen : JT C [] (ρ0 (["lot", "fact"]) [lotD c ps, x]) (tTest (tOp (rI0 fun i j => V.bl (decide (i < j))) (tCB (fun xs H Q => ∃ p ys, xs = [.ref p] ∧ (SqL K H p ys ∨ SqT K H p ys) ∧ Q (.int ys.length) H) (tCons (tVar 1) tNil)) (tC (.int 3)))) (· = decide ((ds.length : Int) < 3)) := jt_test (je_op (je_cb (ja_cons (je_var rfl) ja_nil) (cd_len hs)) je_int rd_lt)
    rcases ds with _ | ⟨a, _ | ⟨b, _ | ⟨d, rest⟩⟩⟩
    · exact s_seq (s_if S (jt_or hseq fun _ => jt_or (b := true) hlen fun z => by cases z) (fun _ H S => s_retP S je_bl k (by rintro _ rfl; rfl)) (fun z => by cases z))
    · exact s_seq (s_if S (jt_or hseq fun _ => jt_or (b := true) hlen fun z => by cases z) (fun _ H S => s_retP S je_bl k (by rintro _ rfl; simp [isFactL])) (fun z => by cases z))
    · exact s_seq (s_if S (jt_or hseq fun _ => jt_or (b := true) hlen fun z => by cases z) (fun _ H S => s_retP S je_bl k (by rintro _ rfl; simp [isFactL])) (fun z => by cases z))
    · skip
      have n3 : decide (((a :: b :: d :: rest).length : Int) < 3) = false := decide_eq_false (by simp only [List.length_cons]; omega)
      rw [n3] at hlen
      obtain ⟨bs, hbs, hiff⟩ := kit_str (x := a)
      have ix : ∀ {μ : List MO} {ρ : List SV} {n : Nat} {y : PyData}, ρ[1]? = some (.d x) → (a :: b :: d :: rest)[n]? = some y → JE C μ ρ (tOp (rIx K) (tVar 1) (tC (.int (n : Int)))) (· = y) := fun h1 h2 => je_op (je_var h1) je_int (rd_ix hs h2)
      refine s_seq (s_if S (jt_or hseq fun _ => jt_or hlen fun _ => jt_not (jt_B (je_isi (ix (n := 0) rfl rfl) (lay_noLot (lay a (by simp))) hbs))) (fun z H S => s_retP S je_bl k ?_) fun z H S => s_nx ?_)
      · rintro _ rfl
        have hb : bs = false := by simpa using z
        subst hb
        congr 1
        unfold isFactL
        split
        · rename_i w x' y' r' he
          cases he
          exact absurd (hiff.mpr ⟨w, rfl⟩) (by simp)
        · rfl
      · have hb : bs = true := by simpa using z
        obtain ⟨w, rfl⟩ := hiff.mp hb
        simp only [isFactL] at k
        refine s_seq (s_if S (jt_not (jt_B (je_call (ja_cons (je_var rfl) (ja_cons (ix (n := 1) rfl rfl) (ja_cons (ix (n := 2) rfl rfl) ja_nil))) ⟨c, ps, b, d, rfl, lay_noLot (lay b (by simp)), lay_noLot (lay d (by simp)), rfl⟩))) (fun z H S => s_retP S je_bl k ?_) fun z H S => s_nx ?_)
        · rintro _ rfl
          have hp : isPl ps b d = false := by simpa using z
          rw [hp]; rfl
        have hp : isPl ps b d = true := by simpa using z
        obtain ⟨pb, pd, rfl, rfl, _⟩ := isPl_nats hp
        rw [hp] at k
        have lens : ∀ {μ : List MO} {ρ : List SV}, ρ[1]? = some (.d x) → JE C μ ρ (tCB (fun xs H Q => ∃ p ys, xs = [.ref p] ∧ (SqL K H p ys ∨ SqT K H p ys) ∧ Q (.int ys.length) H) (tCons (tVar 1) tNil)) (· = .int ((rest.length + 3 : Nat) : Int)) := fun h1 => je_cb (ja_cons (je_var h1) ja_nil) (cd_len hs)
        refine s_seq (s_if S (jt_test (je_op (ix (n := 0) rfl rfl) je_str rd_eqS)) (fun z H S => ?_) fun z H S => s_nx ?_)
        · have ew := of_decide_eq_true z
          subst ew
          simp only [if_true, Bool.true_and] at k
          rcases rest with _ | ⟨y, _ | ⟨y2, r3⟩⟩
          · exact s_retP S (je_andV (b := false) (je_op (lens rfl) je_int rd_eqI) fun z => by cases z) k (by rintro _ rfl; rfl)
          · refine s_retP S (je_andV (je_op (lens rfl) je_int rd_eqI) fun _ => je_call (ja_cons (ix (n := 3) rfl rfl) (ja_cons je_int (ja_cons (ix (n := 2) rfl rfl) ja_nil))) ⟨y, 0, _, rfl, lay_noLot (lay y (by simp)), rfl⟩) k ?_
            rintro _ rfl
            rfl
          · refine s_retP S (je_andV (b := false) (je_op (lens rfl) je_int rd_eqI) fun z => ?_) k ?_
            · have := of_decide_eq_true z; simp only [List.length_cons] at this; omega
            · rintro _ rfl
              rw [Bool.and_false]
        have nw := of_decide_eq_false z
        rw [if_neg nw] at k
        refine s_seq (s_if S (jt_or (jt_test (je_op (ix (n := 0) rfl rfl) je_str rd_eqS)) fun _ => jt_test (je_op (ix (n := 0) rfl rfl) je_str rd_eqS)) (fun z H S => ?_) fun z H S => s_nx ?_)
        · have ew : w = "kept" ∨ w = "adds" := by simpa using z
          rw [if_pos ew] at k
          refine s_retP S (je_op (lens rfl) je_int rd_eqI) k ?_
          rintro _ rfl
          congr 1
          cases rest with
          | nil => rfl
          | cons y r => simp; omega
        have ew : ¬ (w = "kept" ∨ w = "adds") := by simpa using z
        rw [if_neg ew] at k
        by_cases es : w = "same"
        · subst es
          simp only [if_true, Bool.true_and] at k
          have hw : JT C [] (ρ0 (["lot", "fact"]) [lotD c ps, x]) (tTest (tOp rNe (tOp (rIx K) (tVar 1) (tC (.int 0))) (tC (.str "same")))) (· = false) := (jt_test (je_op (ix (n := 0) rfl rfl) je_str rd_neS)).eq (by simp)
          rcases rest with _ | ⟨y1, _ | ⟨y2, _ | ⟨y3, r4⟩⟩⟩
          · exact s_seq (s_if S (jt_or hw fun _ => jt_or (b := true) (jt_test (je_op (lens rfl) je_int rd_neI)) fun z => by cases z) (fun _ H S => s_retP S je_bl k (by rintro _ rfl; rfl)) (fun z => by cases z))
          · exact s_seq (s_if S (jt_or hw fun _ => jt_or (b := true) (jt_test (je_op (lens rfl) je_int rd_neI)) fun z => by cases z) (fun _ H S => s_retP S je_bl k (by rintro _ rfl; rfl)) (fun z => by cases z))
          · refine s_seq (s_if S (jt_or hw fun _ => jt_or (jt_test (je_op (lens rfl) je_int rd_neI)) fun _ => jt_not (jt_B (je_call (ja_cons (je_var rfl) (ja_cons (ix (n := 3) rfl rfl) (ja_cons (ix (n := 4) rfl rfl) ja_nil))) ⟨c, ps, y1, y2, rfl, lay_noLot (lay y1 (by simp)), lay_noLot (lay y2 (by simp)), rfl⟩))) (fun z H S => s_retP S je_bl k ?_) fun z H S => s_nx ?_)
            · rintro _ rfl
              have hp2 : isPl ps y1 y2 = false := by simpa using z
              dsimp only
              rw [hp2]; rfl
            · have hp2 : isPl ps y1 y2 = true := by simpa using z
              obtain ⟨qb, qd, rfl, rfl, _⟩ := isPl_nats hp2
              refine s_retP S (je_op (je_tup (ja_cons (ix (n := 1) rfl rfl) (ja_cons (ix (n := 2) rfl rfl) ja_nil))) (je_tup (ja_cons (ix (n := 3) rfl rfl) (ja_cons (ix (n := 4) rfl rfl) ja_nil))) (rd_ltT (ns := [(pb : Int), (pd : Int)]) (ms := [(qb : Int), (qd : Int)]))) k ?_
              rintro _ rfl
              dsimp only
              rw [hp2]; rfl
          · have h5 : (!decide (((((y1 :: y2 :: y3 :: r4).length + 3 : Nat)) : Int) = 5)) = true := by simp; omega
            exact s_seq (s_if S (jt_or hw fun _ => jt_or (b := true) ((jt_test (je_op (lens rfl) je_int rd_neI)).eq h5) fun z => by cases z) (fun _ H S => s_retP S je_bl k (by rintro _ rfl; rfl)) (fun z => by cases z))
        · rw [if_neg es] at k
          refine s_seq (s_if S (jt_or (b := true) ((jt_test (je_op (ix (n := 0) rfl rfl) je_str rd_neS)).eq (y := true) (by simp [es])) fun z => by cases z) (fun _ H S => s_retP S je_bl k ?_) (fun z => by cases z))
          rintro _ rfl
          rfl
end
end KG
namespace KG
open PySem PySem.Spec L2
def lenD (d : PyData) : Nat := ((sqD d).getD []).length
/-- Lot.__init__ -/
def spLot (C : Addr) : Sp := fun vs H Q _ => ∃ B x dx v1 v2 c ps y, vs = [.ref x, v1, v2] ∧ x ∈ B ∧ (∀ a ∈ B, H a ≠ none) ∧ H x = some (.ins C dx []) ∧ DtA C (wo B H) [v1, v2] [.int c, y] ∧ sqD y = some (ps.map encP) ∧ noLot y = true ∧ LotOk c ps ∧
  ∀ H' v', ExB [x] H H' → H' x = some (.ins C dx (lotF c v')) → Dt C (wo B H') v' (encPs ps) → Q .non H'
def LotI (P : Program) (w : World) (K : PySem.W.Frag) (mg : Str → Option Value) (base : Heap) (C : Addr) (k : Nat) : Prop :=
  ∃ f fd, Mk K C f ∧ FnOk P w K mg base CX0 k f fd (["self", "cells", "programs"]) (spLot C) ∧ Binds K fd (["self", "cells", "programs"]) []
theorem xlot {X : Cx} {C : Addr} {e : Expr} {es : List Expr} {t : TA} {p pos : Pos} {j k : Nat} (G : LotI X.prog X.w X.K X.mg X.base C k) (hr : Room j X.A) (T : Txt X.K X.mg C) (ha : PA X (e :: es) t) (hk : k + 1 ≤ j := by decide) (hg : Gl X "Lot" := by rfl)
    (he : starEach (e :: es) X.env = (false, eval e X.env) :: starEach es X.env := by rfl) (hpl : (backTo pos (starEach es X.env)).any (·.1) = false := by rfl) : PE X (.Call (.Name "Lot" p) (e :: es) [] pos) (tMake C (spLot C) [] E0 t) := by
  obtain ⟨f, fd, M, F, b⟩ := G
  exact pe_make M F (hr.mono hk) hg T.g_Lot b .nil pass0 ha (by decide +kernel) he hpl
theorem je_lot {C : Addr} {μ : List MO} {ρ : List SV} {ta : TA} {E : XK} {c : Int} {ps : List Prg} {y : PyData} (h : JA C μ ρ ta (· = [.int c, y])) (hy : sqD y = some (ps.map encP)) (L : LotOk c ps) : JE C μ ρ (tMake C (spLot C) [] E ta) (· = lotD c ps) := fun F σ H s Q q =>
  h F σ H s _ fun vs H1 ds hd s1 e1 d1 x dx hx hdx ne => by
    subst hd
    have nl : noLot y = true := by cases y <;> first | rfl | cases hy
    have k1 : Ex H1 (upd (upd H1 dx (.own x)) x (.ins C dx [])) := fun a o z => by
      rw [upd_ne (ne_of_none z hx), upd_ne (ne_of_none z hdx)]; exact z
    have kw : Ex (wo F.m H1) (wo (x :: F.m) (upd (upd H1 dx (.own x)) x (.ins C dx []))) := fun a o z => by
      obtain ⟨n, z⟩ := wo_some z
      refine wo_mk (fun m => ?_) (k1 a o z)
      rcases List.mem_cons.mp m with m | m
      · rw [m, hx] at z; cases z
      · exact n m
    have d2 := d1.mono kw
    cases d2 with
    | cons a1 d2 =>
      cases d2 with
      | cons a2 d2 =>
        cases d2
        refine ⟨x :: F.m, x, dx, _, _, c, ps, y, rfl, List.mem_cons_self, fun a ha => ?_, upd_same, .cons a1 (.cons a2 .nil), hy, nl, L, fun H' v' e2 hx' dv => ⟨rfl, ?_⟩⟩
        · rcases List.mem_cons.mp ha with z | z
          · rw [z, upd_same]; intro z; cases z
          · exact al_ex s1.al k1 a z
        · have ex : Ex H1 H' := fun a o z => e2 a o (k1 a o z) (by simpa using ne_of_none z hx)
          exact q _ H' _ rfl (s1.ext ex) (e1.trans ex.b) (.lot (wo_mk (s1.fresh hx) hx') (dv.mono (wo_anti fun a z => List.mem_cons_of_mem _ z)))
section
variable {P : Program} {w : World} {K : PySem.W.Frag} {mg : Str → Option Value} {base : Heap} {C : Addr}
abbrev sLotInit : Stmt := inClass (top 19) 0
theorem sc_Lot : FnScope (["self", "cells", "programs", "program", "told"]) (["self", "cells", "programs"]) (defScope sLotInit) := ⟨rfl, rfl, rfl, by decide +kernel, rfl, by decide +kernel, by decide +kernel⟩
theorem ok_Lot {f : Addr} {fd : FuncData} (T : Txt K mg C) (F : Fun K "__init__" "Lot.__init__" sLotInit f fd) (G_is_sequence : Cal P w K mg base CX0 1 "is_sequence" (["thing"]) (spP C R_is_sequence)) (G_is_whole : Cal P w K mg base CX0 1 "is_whole" (["thing", "low", "high"]) (spP C R_is_whole))
    (G_checked_steps : Cal P w K mg base CX0 4 "checked_steps" (["cells", "program"]) (spP C R_checked_steps)) (G_goes_by_adds : Cal P w K mg base CX0 1 "goes_by_adds" (["program"]) (spP C R_goes_by_adds)) (G_has_unlike_names : Cal P w K mg base CX0 2 "has_unlike_names" (["programs"]) (spP C R_has_unlike_names)) :
    FnOk P w K mg base CX0 5 f fd (["self", "cells", "programs"]) (spLot C) := by
  have nd := sc_Lot.nd
  refine F.ok sc_Lot (fun vs H Q E h => ?_) (fun cdv A outer s H vs Q E hr h => ⟨_, (pss_cons (ps_if (pt_not (pt_val (xcall G_is_whole hr (pa_cons (pv 1) (pa_cons pe_int (pa_cons pe_int pa_nil)))))) (pss_one ps_never) pss_nil)
      (pss_cons (ps_if (PW.pt (pw_or (pt_not (pt_val (xcall G_is_sequence hr (pa_cons (pv 2) pa_nil)))) (pw_or (pt_cmpR op_lt (pe_callB (xlen K) (by rfl) T.len_ (by decide +kernel) (pa_cons (pv 2) pa_nil)) pe_int (nomark _)) (pw_or1 (pt_cmpR op_gt (pe_callB (xlen K) (by rfl) T.len_ (by decide +kernel) (pa_cons (pv 2) pa_nil)) pe_int (nomark _)))))) (pss_one ps_never) pss_nil)
      (pss_cons (ps_for PassesOwn.never rfl (xseq K (h := (pv 2))) (pg_name (i := 3) nd rfl (by first | exact Or.inl rfl | exact Or.inr rfl)) (pss_one (ps_if (PW.pt (pw_or (pt_not (pt_val (xcall G_is_sequence hr (pa_cons (pv 3) pa_nil)))) (pw_or (pt_cmpR op_lt (pe_callB (xlen K) (by rfl) T.len_ (by decide +kernel) (pa_cons (pv 3) pa_nil)) pe_int (nomark _)) (pw_or1 (pt_cmpR op_gt (pe_callB (xlen K) (by rfl) T.len_ (by decide +kernel) (pa_cons (pv 3) pa_nil)) pe_int (nomark _)))))) (pss_one ps_never) pss_nil)))
      (pss_cons (ps_if (pt_cmpR op_gt (pe_callB (xsum K (hc := rfl)) (by rfl) T.sum_ (by decide +kernel) (pa_cons (pe_lc (own := [("program", 3)]) (g := gName 3) rfl nd (xseq K (h := (pv 2))) (blkOk_by (N := ["self", "cells", "programs", "program", "told"]) (sc := (defScope (inClass (top 19) 0))) (by decide +kernel)) (fun _ _ _ _ _ => pg_name (i := 3) nd rfl (Or.inl rfl)) (fun _ _ _ _ _ => pts_nil) (fun _ _ _ _ _ => (pe_callB (xlen K) (by rfl) T.len_ (by decide +kernel) (pa_cons (pv 3) pa_nil)))) pa_nil)) pe_int (nomark _)) (pss_one ps_never) pss_nil)
      (pss_cons (xset 4 nd (pe_callTy (xtuple K) (by rfl) T.tuple_ (by decide +kernel) (pa_cons (pe_lc (own := [("program", 3)]) (g := gName 3) rfl nd (xseq K (h := (pv 2))) (blkOk_by (N := ["self", "cells", "programs", "program", "told"]) (sc := (defScope (inClass (top 19) 0))) (by decide +kernel)) (fun _ _ _ _ _ => pg_name (i := 3) nd rfl (Or.inl rfl)) (fun _ _ _ _ _ => pts_nil) (fun _ _ _ _ _ => (xcall G_checked_steps hr (pa_cons (pv 1) (pa_cons (pv 3) pa_nil))))) pa_nil)))
      (pss_cons (ps_for PassesOwn.never rfl (xseq K (h := (pv 4))) (pg_name (i := 3) nd rfl (by first | exact Or.inl rfl | exact Or.inr rfl)) (pss_one (ps_if (pt_val (xcall G_goes_by_adds hr (pa_cons (pv 3) pa_nil))) (pss_one ps_never) pss_nil)))
      (pss_cons (ps_if (pt_val (xcall G_has_unlike_names hr (pa_cons (pv 4) pa_nil))) (pss_one ps_never) pss_nil)
      (pss_cons (ps_fld (pv 0) (pv 1) rfl)
      (pss_one (ps_fld (pv 0) (pv 4) rfl)))))))))), ?_⟩)
  · obtain ⟨B, x, dx, v1, v2, c, ps, y, rfl, _⟩ := h; rfl
  obtain ⟨B, x, dx, v1, v2, c, ps, y, rfl, hB, al, hx, da, hy, nl, L, k⟩ := h
  have ew : Ex (wo B H) (wo ([x] ++ B) H) := wo_anti fun a z => by
    rcases List.mem_append.mp z with z | z
    · rw [List.mem_singleton.mp z]; exact hB
    · exact z
  have S : Sat C ⟨H, [x], B, [x], []⟩ [.ins dx []] [.m 0, .d (.int c), .d y, .un, .un] (L2.start (["self", "cells", "programs", "program", "told"]) [.ref x, v1, v2]) H := by
    refine ⟨by simp, fun a ha => ?_, .cons hx .nil, ?_, fun a o q _ => q, fun a z => z, fun a z => .inl z, fun a z _ => z, fun g z => (by cases z)⟩
    · rcases List.mem_append.mp ha with z | z
      · rw [List.mem_singleton.mp z]; exact al x hB
      · exact al a z
    · have d2 := da.mono ew
      cases d2 with
      | cons a1 d2 =>
        cases d2 with
        | cons a2 d2 =>
          cases d2
          exact .cons ⟨x, rfl, rfl⟩ (.cons a1 (.cons a2 (.cons trivial (.cons trivial .nil))))
  have hlen : ps.length ≤ 3 := L.len.2
  have h4 : ∀ p ∈ ps, p.length ≤ 4 := fun p hp => (L.pr p hp).len.2
  have cm : ∀ {d : PyData}, d ∈ ps.map encP → ∃ p ∈ ps, d = encP p := fun h => by obtain ⟨p, hp, rfl⟩ := List.mem_map.mp h; exact ⟨p, hp, rfl⟩
  refine s_seq (s_if S (jt_not (jt_B (je_call (ja_cons (je_var rfl) (ja_cons je_int (ja_cons je_int ja_nil))) ⟨_, _, _, rfl, rfl, rfl⟩))) (fun z => ?_) fun _ H S => s_nx ?_)
  · rw [show isWh (.int c) 1 3 = true from isWh_int.mpr L.cells] at z; cases z
  have hsq : isSq y = true := by rw [sq_is, hy]; rfl
  refine s_seq (s_if (b := false) S ((jt_or (jt_not (jt_B (je_call (ja_cons (je_var rfl) ja_nil) ⟨_, rfl, nl, rfl⟩))) fun _ => jt_or (jt_test (je_op (je_cb (ja_cons (je_var rfl) ja_nil) (cd_len hy)) je_int rd_lt)) fun _ => jt_test (je_op (je_cb (ja_cons (je_var rfl) ja_nil) (cd_len hy)) je_int rd_gt)).eq ?_) (fun z => by cases z) fun _ H S => s_nx ?_)
  · have := L.len
    rw [hsq, List.length_map, decide_eq_false (show ¬ ((ps.length : Nat) : Int) < 1 by omega), decide_eq_false (show ¬ (3 : Int) < ((ps.length : Nat) : Int) by omega)]; rfl
  refine s_seq (s_forS (fun j μ ρ => μ = [.ins dx []] ∧ ∃ a, ρ = [.m 0, .d (.int c), .d y, a, .un]) S (je_var rfl) hy (fun d _ => jg_name) ⟨rfl, _, rfl⟩ ?_ ?_)
  · rintro j d hd v μ' ρ' σ' H' ⟨rfl, a, rfl⟩ S
    obtain ⟨p, hp, rfl⟩ := map_get hd
    have hpl := (L.pr p (List.mem_of_getElem? hp)).len
    refine s_if (b := false) S ((jt_or (jt_not (jt_B (je_call (ja_cons (je_var rfl) ja_nil) ⟨_, rfl, rfl, rfl⟩))) fun _ => jt_or (jt_test (je_op (je_cb (ja_cons (je_var rfl) ja_nil) (cd_len rfl)) je_int rd_lt)) fun _ => jt_test (je_op (je_cb (ja_cons (je_var rfl) ja_nil) (cd_len rfl)) je_int rd_gt)).eq ?_) (fun z => by cases z) fun _ H S => s_nx ⟨_, _, ⟨rfl, _, rfl⟩, S⟩
    rw [List.length_map, decide_eq_false (show ¬ ((p.length : Nat) : Int) < 1 by omega), decide_eq_false (show ¬ (4 : Int) < ((p.length : Nat) : Int) by omega)]; rfl
  rintro μ' ρ' σ' H' ⟨rfl, a, rfl⟩ S
  refine s_seq (s_if (b := false) S ((jt_test (je_op (je_cb (ja_cons ((je_lcS (fun _ => true) (fun d => .int (lenD d : Nat)) (je_var rfl) hy (by rw [List.length_map]; omega) (fun d _ => jt_yes) (fun d hd _ => ?_)).eq (y := .list ((ps.map fun p => ((p.length : Nat) : Int)).map .int)) ?_) ja_nil) cd_sum) je_int rd_gt)).eq ?_) (fun z => by cases z) fun _ H S => s_nx ?_)
  · obtain ⟨p, hp, rfl⟩ := cm hd
    exact je_cb (ja_cons (je_var rfl) ja_nil) (cd_len rfl)
  · rw [outs_map, List.map_map, List.map_map]
    congr 1
    refine List.map_congr_left fun p _ => ?_
    show PyData.int (lenD (encP p) : Nat) = PyData.int ((p.length : Nat) : Int)
    unfold lenD encP sqD
    simp
  · refine decide_eq_false ?_
    have h7 := L.total
    have e : (ps.map fun p => ((p.length : Nat) : Int)).sum = (((ps.map List.length).sum : Nat) : Int) := by
      clear S k L da hx hy hlen h4 cm h7
      induction ps with
      | nil => rfl
      | cons p ps ih => rw [List.map_cons, List.sum_cons, List.map_cons, List.sum_cons, ih]; omega
    rw [e]; omega
  refine s_seq (s_asg1 S (je_cb (ja_cons ((je_lcS (fun _ => true) (fun d => d) (je_var rfl) hy (by rw [List.length_map]; omega) (fun d _ => jt_yes) (fun d hd _ => ?_)).eq (y := .list (ps.map encP)) (by rw [outs_map]; simp)) ja_nil) (cd_tuple rfl)) fun σ H S => ?_)
  · obtain ⟨p, hp, rfl⟩ := cm hd
    have := h4 p hp
    exact je_call (ja_cons (je_var rfl) (ja_cons (je_var rfl) ja_nil)) ⟨c, p, rfl, (L.pr p hp).st, by omega, rfl⟩
  refine s_seq (s_forS (fun j μ ρ => μ = [.ins dx []] ∧ ∃ a, ρ = [.m 0, .d (.int c), .d y, a, .d (encPs ps)]) S (je_var rfl) rfl (fun d _ => jg_name) ⟨rfl, _, rfl⟩ ?_ ?_)
  · rintro j d hd v μ' ρ' σ' H' ⟨rfl, a, rfl⟩ S
    obtain ⟨p, hp, rfl⟩ := map_get hd
    have PO := L.pr p (List.mem_of_getElem? hp)
    refine s_if S (jt_B (je_call (ja_cons (je_var rfl) ja_nil) ⟨p, rfl, fun s hs q hq => ?_, rfl⟩)) (fun z => by cases z) fun _ H S => s_nx ⟨_, _, ⟨rfl, _, rfl⟩, S⟩
    obtain ⟨i, hi⟩ := List.mem_iff_getElem?.mp hs
    have hil := (List.getElem?_eq_some_iff.mp hi).1
    have h1 := (PO.st i s hi).asc.mem q hq
    have h2 : lastP s.k i ≤ (i : Int) := by unfold lastP; split <;> omega
    have hq2 : q.toNat < p.length := by omega
    exact ⟨q.toNat, _, by omega, get_of_lt s0 hq2, PO.na s hs q hq _ (get_of_lt s0 hq2)⟩
  rintro μ' ρ' σ' H' ⟨rfl, a, rfl⟩ S
  refine s_seq (s_if S (jt_B (je_call (ja_cons (je_var rfl) ja_nil) ⟨ps, rfl, L.con, hlen, h4, rfl⟩)) (fun z => by cases z) fun _ H S => s_nx ?_)
  refine s_seq (s_fld T.cl T.nC S rfl rfl (je_var rfl) (by show 0 < 1000; decide) ?_)
  rintro v d H1 rfl S0 dv a ha S
  have ea : a = x := by simpa using ha.symm
  subst ea
  cases dv.intE
  refine s_fld T.cl T.nP S rfl rfl (je_var rfl) (by show 1 < 1000; decide) ?_
  rintro v' d H2 rfl S0' dv' a' ha' S'
  have ea : a' = a := by simpa using ha'.symm
  subst ea
  refine k _ v' (fun b o q n => S'.fr b o q (by simpa using n)) upd_same ?_
  have hm : a' ∈ ([a'] ++ B) := by simp
  have := (S'.out (v := v') (d := encPs ps) (by rw [wo_upd hm]; exact dv'))
  exact this
end
end KG
namespace KG
open PySem PySem.Spec L2
/-! comparisons of data -/
theorem eqvAll_ints : ∀ (a b : List Int), PyData.eqvAll (a.map .int) (b.map .int) = decide (a = b)
  | [], [] => by simp [PyData.eqvAll]
  | [], _ :: _ => by simp [PyData.eqvAll]
  | _ :: _, [] => by simp [PyData.eqvAll]
  | x :: a, y :: b => by
    rw [List.map_cons, List.map_cons, PyData.eqvAll, eqvAll_ints a b, PyData.eqv]
    by_cases h : x = y
    · subst h; simp
    · simp [h]
theorem eqv_str (a b : Str) : PyData.eqv (.str a) (.str b) = decide (a = b) := by
  rw [PyData.eqv]
  by_cases h : a = b
  · subst h; simp
  · simp [h]
theorem enc_eqv (s t : Stp) : PyData.eqv (enc s) (enc t) = decide (s = t) := by
  obtain ⟨c, k, b, n⟩ := s
  obtain ⟨c', k', b', n'⟩ := t
  unfold enc
  simp only [PyData.eqv, PyData.eqvAll, eqvAll_ints, Bool.and_true]
  rw [Bool.eq_iff_iff]
  simp only [Bool.and_eq_true, decide_eq_true_eq, beq_iff_eq, Kd.s_inj, Stp.mk.injEq]
theorem shapeD_eqv (s t : Stp) : PyData.eqv (shapeD s) (shapeD t) = decide (shape s = shape t) := by
  unfold shapeD
  simp only [PyData.eqv, PyData.eqvAll, Bool.and_true]
  rw [Bool.eq_iff_iff]
  simp only [Bool.and_eq_true, decide_eq_true_eq, beq_iff_eq, Kd.s_inj, shape, Prod.mk.injEq]
  constructor
  · rintro ⟨h1, h2, h3⟩; exact ⟨h1, by omega, h3⟩
  · rintro ⟨h1, h2, h3⟩; exact ⟨h1, by omega, h3⟩
theorem lay_ints : ∀ (b : List Int), PyData.canLayAll0 (b.map .int) = true
  | [] => rfl
  | x :: b => by rw [List.map_cons, PyData.canLayAll0, lay_ints b]; rfl
theorem dep_ints : ∀ (b : List Int), PyData.depthAll (b.map .int) = 0
  | [] => rfl
  | x :: b => by rw [List.map_cons, PyData.depthAll, dep_ints b]; rfl
theorem enc_lay (s : Stp) : (enc s).canLay0 = true := by
  have h := kd_strOk s.k
  simp only [PyData.canLay0] at h
  simp only [enc, PyData.canLay0, PyData.canLayAll0, lay_ints, h, Bool.and_true]
theorem enc_dep (s : Stp) : (enc s).depth = 2 := by
  simp only [enc, PyData.depth, PyData.depthAll, dep_ints]; rfl
theorem layAll_of {ds : List PyData} (h : ∀ d ∈ ds, d.canLay0 = true) : PyData.canLayAll0 ds = true := by
  induction ds with
  | nil => rfl
  | cons d ds ih => rw [PyData.canLayAll0, h d List.mem_cons_self, ih fun e he => h e (List.mem_cons_of_mem _ he)]; rfl
theorem depAll_of {ds : List PyData} {n : Nat} (h : ∀ d ∈ ds, d.depth ≤ n) : PyData.depthAll ds ≤ n := by
  induction ds with
  | nil => exact Nat.zero_le _
  | cons d ds ih => rw [PyData.depthAll]; exact Nat.max_le.mpr ⟨h d List.mem_cons_self, ih fun e he => h e (List.mem_cons_of_mem _ he)⟩
theorem enc_shaped (s : Stp) : SeqAt.shaped (enc s) = true := by
  unfold SeqAt.shaped
  rw [enc_lay, enc_dep]; rfl
theorem encP_lay (p : Prg) : (encP p).canLay0 = true := by
  simp only [encP, PyData.canLay0]
  exact layAll_of fun d hd => by obtain ⟨s, _, rfl⟩ := List.mem_map.mp hd; exact enc_lay s
theorem encP_dep (p : Prg) : (encP p).depth ≤ 3 := by
  simp only [encP, PyData.depth]
  have : PyData.depthAll (p.map enc) ≤ 2 := depAll_of fun d hd => by obtain ⟨s, _, rfl⟩ := List.mem_map.mp hd; rw [enc_dep]; exact Nat.le_refl _
  omega
theorem encPs_lay (ps : List Prg) : (encPs ps).canLay0 = true := by
  simp only [encPs, PyData.canLay0]
  exact layAll_of fun d hd => by obtain ⟨s, _, rfl⟩ := List.mem_map.mp hd; exact encP_lay s
theorem encPs_dep (ps : List Prg) : (encPs ps).depth ≤ 4 := by
  simp only [encPs, PyData.depth]
  have : PyData.depthAll (ps.map encP) ≤ 3 := depAll_of fun d hd => by obtain ⟨s, _, rfl⟩ := List.mem_map.mp hd; exact encP_dep s
  omega
theorem encPs_shaped (ps : List Prg) : SeqAt.shaped (encPs ps) = true := by
  unfold SeqAt.shaped
  rw [encPs_lay, decide_eq_true (Nat.le_trans (encPs_dep ps) (by decide))]; rfl
theorem resD_shaped (r : Except Int (List Prg)) : SeqAt.shaped (resD r) = true := by
  cases r with
  | ok ps => exact encPs_shaped ps
  | error i =>
    have h : PyData.canLay0 (.str "index") = true := by decide +kernel
    unfold SeqAt.shaped resD
    simp only [PyData.canLay0, PyData.canLayAll0, Bool.and_true, PyData.depth, PyData.depthAll] at h ⊢
    rw [h]; rfl
/-! ints kept and left out -/
def notQ (q : Int) : PyData → Bool
  | .int z => !decide (z = q)
  | _ => false
theorem outs_drop (b : List Int) (q : Int) : outs (notQ q) (fun d => d) (b.map .int) = (dropQ b q).map .int := by
  unfold outs dropQ
  rw [List.map_id']
  induction b with
  | nil => rfl
  | cons x b ih =>
    rw [List.map_cons, List.filter_cons, List.filter_cons]
    show (if (!decide (x = q)) = true then _ else _) = _
    split
    · rw [ih]; rfl
    · exact ih
theorem cut_to {α : Type} (xs : List α) (n : Nat) : cutD xs none (some (n : Int)) = xs.take n := by
  unfold cutD
  rw [HT.sIx_none, HT.sIx_nat, List.drop_zero, Nat.sub_zero]
  rcases Nat.le_total n xs.length with h | h
  · rw [Nat.min_eq_left h]
  · rw [Nat.min_eq_right h, List.take_length, List.take_of_length_le h]
theorem cut_from {α : Type} (xs : List α) (n : Nat) : cutD xs (some (n : Int)) none = xs.drop n := by
  unfold cutD
  rw [HT.sIx_none, HT.sIx_nat]
  rcases Nat.le_total n xs.length with h | h
  · rw [Nat.min_eq_left h, List.take_of_length_le (by rw [List.length_drop]; exact Nat.le_refl _)]
  · rw [Nat.min_eq_right h, List.drop_length, List.drop_of_length_le h, List.take_nil]
theorem set_split {α : Type} {xs : List α} {n : Nat} {a : α} (h : n < xs.length) : xs.take n ++ [a] ++ xs.drop (n + 1) = xs.set n a := by
  rw [List.set_eq_take_append_cons_drop, if_pos h, List.append_assoc]; rfl
theorem remL_snoc (g : Nat → Nat → Stp → Stp) (p : Prg) : ∀ (i : Nat) (xs : List Prg), remL g i (xs ++ [p]) = remL g i xs ++ [remP g (i + (xs.map List.length).sum) p]
  | i, [] => by simp [remL]
  | i, x :: xs => by
    show remP g i x :: remL g (i + x.length) (xs ++ [p]) = remP g i x :: remL g (i + x.length) xs ++ [_]
    rw [remL_snoc g p (i + x.length) xs, List.map_cons, List.sum_cons, Nat.add_assoc]; rfl
theorem remP_take {g : Nat → Nat → Stp → Stp} {i k : Nat} {p : Prg} {s : Stp} (h : p[k]? = some s) : (remP g i p).take (k + 1) = (remP g i p).take k ++ [g (i + k) k s] := take_snoc (remP_get h)
section
variable {C : Addr} {μ : List MO} {ρ : List SV} {te : TE}
theorem je_tupRg {n : Nat} (h : JE C μ ρ te (· = .int (n : Int))) (hn : n ≤ 1000) : JE C μ ρ (tTupRg (tRg1 te)) (· = .tuple (((List.range n).map Int.ofNat).map .int)) := fun F σ H s Q q =>
  h F σ H s _ fun v H1 d pd s1 e1 d1 => by
    subst pd
    refine ⟨(n : Int), d1.intE, ⟨by omega, by omega, by omega, by omega, by omega⟩, fun p hp => q _ _ _ rfl (s1.ext (.new hp)) (e1.trans (Ex.new hp).b) (dt_newT s1.al hp ?_)⟩
    have e : rgV 0 (n : Int) = ((List.range n).map Int.ofNat).map V.int := by
      unfold rgV
      rw [List.map_map]
      have : ((n : Int) - 0).toNat = n := by omega
      rw [this]
      refine List.map_congr_left fun i _ => ?_
      show V.int (0 + (i : Int)) = V.int (i : Int)
      rw [Int.zero_add]
    rw [e]
    exact DtA.ints _
end
end KG
namespace KG
open PySem PySem.Spec L2
section
variable {P : Program} {w : World} {K : PySem.W.Frag} {mg : Str → Option Value} {base : Heap} {C : Addr}
/-! cells_floor -/
def R_cells_floor : Rel := fun ds P => ∃ c ps, ds = [lotD c ps] ∧ LotOk c ps ∧ P = (· = lotD c (floorL ps))
theorem sc_cells_floor : FnScope (["lot", "told", "name", "program", "steps", "place"]) (["lot"]) (defScope (top 24)) := ⟨rfl, rfl, rfl, by decide +kernel, rfl, by decide +kernel, by decide +kernel⟩
theorem ok_cells_floor (T : Txt K mg C) (F : Df K mg "cells_floor" (top 24) (["lot"])) (G_Lot : LotI P w K mg base C 5) : Cal P w K mg base CX0 7 "cells_floor" (["lot"]) (spP C R_cells_floor) := by
  refine F.cal fun f fd F => ?_
  have nd := sc_cells_floor.nd
  refine okP F sc_cells_floor (fun ds P h => by obtain ⟨c, x, rfl, _⟩ := h; rfl) fun cdv A outer s H E hr => ⟨_, (pss_cons (xset 1 nd (pe_lst pa_nil))
      (pss_cons (xset 2 nd pe_int)
      (pss_cons (ps_for PassesOwn.never rfl (xseq K (h := (xfld K (he := (pv 0)) (hb := rfl)))) (pg_name (i := 3) nd rfl (by first | exact Or.inl rfl | exact Or.inr rfl)) (pss_cons (xset 4 nd (pe_lst pa_nil))
      (pss_cons (ps_for PassesOwn.never rfl (pi_range1 (by rfl) T.range_ (pa_cons (pe_callB (xlen K) (by rfl) T.len_ (by decide +kernel) (pa_cons (pv 3) pa_nil)) pa_nil)) (pg_name (i := 5) nd rfl (by first | exact Or.inl rfl | exact Or.inr rfl)) (pss_cons (ps_expr (pe_bm PySem.F.plainAttrs_list PySem.F.slot_list_append PySem.F.type_list_append mt_append (pv 4) (pa_cons (pe_tup (pa_cons (pe_ix (xix K) (pe_ix (xix K) (pv 3) (pv 5) (fun _ _ => rfl)) pe_int (fun _ _ => rfl)) (pa_cons pe_str (pa_cons (pe_tupRg rfl (by rfl) T.tuple_ (prg_1 (by rfl) T.range_ (pe_op op_add (pv 5) pe_int))) (pa_cons (pv 2) pa_nil))))) pa_nil)))
      (pss_one (xset 2 nd (pe_op op_add (pv 2) pe_int)))))
      (pss_one (ps_expr (pe_bm PySem.F.plainAttrs_list PySem.F.slot_list_append PySem.F.type_list_append mt_append (pv 1) (pa_cons (pe_callTy (xtuple K) (by rfl) T.tuple_ (by decide +kernel) (pa_cons (pv 4) pa_nil)) pa_nil)))))))
      (pss_one (ps_ret (xlot G_Lot hr T (pa_cons (xfld K (he := (pv 0)) (hb := rfl)) (pa_cons (pv 1) pa_nil)))))))), fun B σ ds P' Q r S k => ?_⟩
  obtain ⟨c, ps, rfl, L, rfl⟩ := r
  have hl3 := L.len.2
  have htot := L.total
  have hl4 : ∀ p ∈ ps, p.length ≤ 4 := fun p hp => (L.pr p hp).len.2
  refine s_seq (s_new S rfl fun pt σ H hpt S => ?_)
  refine s_seq (s_asg1 S je_int fun σ H S => ?_)
  refine s_seq (s_forS (fun j μ ρ => μ = [.lst ((remL flS 0 (ps.take j)).map encP)] ∧ ρ = [.d (lotD c ps), .m 0, .d (.int ((((ps.take j).map List.length).sum : Nat) : Int)), .un, .un, .un]) S (je_programs T.cl T.nP (je_var rfl)) rfl (fun d _ => jg_name) ⟨rfl, rfl⟩ ?_ ?_)
  · rintro j d hd v μ' ρ' σ' H' ⟨rfl, rfl⟩ S
    obtain ⟨p, hp, rfl⟩ := map_get hd
    have hp4 := hl4 p (List.mem_of_getElem? hp)
    have hj : j < ps.length := (List.getElem?_eq_some_iff.mp hp).1
    refine s_seq (s_new S rfl fun pst σ H hpst S => ?_)
    refine s_seq (s_forR (n := p.length) (fun k μ ρ => μ = [.lst ((remL flS 0 (ps.take j)).map encP), .lst (((remP flS ((ps.take j).map List.length).sum p).take k).map enc)] ∧ ρ = [.d (lotD c ps), .m 0, .d (.int ((((ps.take j).map List.length).sum + k : Nat) : Int)), .d (encP p), .m 1, .un]) S (ja_cons ((je_cb (ja_cons (je_var rfl) ja_nil) (cd_len rfl)).eq (by rw [List.length_map])) ja_nil) (by omega) ⟨rfl, rfl⟩ ?_ ?_)
    · rintro m hm μ' ρ' σ' H' ⟨rfl, rfl⟩ S
      obtain ⟨st, hst⟩ : ∃ st, p[m]? = some st := ⟨_, List.getElem?_eq_getElem hm⟩
      refine s_seq (s_app S rfl rfl ((je_tup (ja_cons (je_op (je_op (je_var rfl) (je_var rfl) (rd_ix (n := m) rfl (map_at hst))) je_int (rd_ix (n := 0) rfl rfl)) (ja_cons je_str (ja_cons (je_tupRg (n := m + 1) (je_op (je_var rfl) je_int rd_add) (by omega)) (ja_cons (je_var rfl) ja_nil))))).eq (y := enc (flS (((ps.take j).map List.length).sum + m) m st)) rfl) (by rw [List.length_map, List.length_take, remP_len]; omega) ?_)
      rintro _ H rfl S
      refine s_asg1 S ((je_op (je_var rfl) je_int rd_add).eq (y := .int ((((ps.take j).map List.length).sum + (m + 1) : Nat) : Int)) (by congr 1)) fun σ H S => ⟨_, _, ⟨?_, rfl⟩, S.forget (i := 5)⟩
      rw [remP_take hst, List.map_append]; rfl
    · rintro μ' ρ' σ' H' ⟨rfl, rfl⟩ S
      refine s_app S rfl rfl (je_tuplem rfl rfl) (by rw [List.length_map]; have := sizes_len (remL_sizes flS 0 (ps.take j)); rw [this, List.length_take]; omega) ?_
      rintro _ H rfl S
      obtain ⟨S2, _, _⟩ := Sat.pop' (fv := [pt]) (μ := [_]) (p := pst) ((S.forget (i := 4)).forget (i := 3)) rfl (by simp) (by simp) (by simp)
      refine ⟨_, _, ?_, S2⟩
      have e : (remP flS ((ps.take j).map List.length).sum p).take p.length = remP flS ((ps.take j).map List.length).sum p := List.take_of_length_le (by rw [remP_len]; exact Nat.le_refl _)
      have e2 : (((ps.take j) ++ [p]).map List.length).sum = ((ps.take j).map List.length).sum + p.length := by rw [List.map_append, List.sum_append]; simp
      rw [take_snoc hp, remL_snoc, List.map_append, Nat.zero_add, e, e2]
      exact ⟨rfl, rfl⟩
  · rintro μ' ρ' σ' H' ⟨rfl, rfl⟩ S
    rw [List.length_map, List.take_length] at S
    have S := Sat.freeze (fv := []) (μ := []) (i := 1) S rfl rfl (by simp) (by simp) (by simp)
    exact s_retP S (je_lot (ja_cons (je_cells T.cl T.nC (je_var rfl)) (ja_cons (je_var rfl) ja_nil)) rfl (floor_ok L)) k fun _ h => h
/-! is_clash -/
def R_is_clash : Rel := fun ds P => ∃ (s : Stp) (k : Nat) (x : PyData) (f : Fct), ds = [enc s, .int (k : Int), x] ∧ sqD x = some (encF f) ∧ f.isSame = false ∧ P = (· = .bool (clash s k f))
theorem sc_is_clash : FnScope (["step", "place", "fact"]) (["step", "place", "fact"]) (defScope (top 25)) := ⟨rfl, rfl, rfl, by decide +kernel, rfl, by decide +kernel, by decide +kernel⟩
theorem dnat (a b : Nat) : decide ((a : Int) = (b : Int)) = decide (a = b) := by
  by_cases h : a = b
  · subst h; simp
  · rw [decide_eq_false h, decide_eq_false (by omega)]
theorem ok_is_clash (T : Txt K mg C) (F : Df K mg "is_clash" (top 25) (["step", "place", "fact"])) : Cal P w K mg base CX0 1 "is_clash" (["step", "place", "fact"]) (spP C R_is_clash) := by
  refine F.cal fun f fd F => ?_
  have nd := sc_is_clash.nd
  refine okP F sc_is_clash (fun ds P h => by obtain ⟨s, k, x, f, rfl, _⟩ := h; rfl) fun cdv A outer s H E hr => ⟨_, (pss_cons (ps_if (pt_cmpR op_eq (pe_ix (xix K) (pv 2) pe_int (fun _ _ => rfl)) pe_str (nomark _)) (pss_one (ps_ret (pe_and (pe_cmpR op_ne (pe_ix (xix K) (pv 0) pe_int (fun _ _ => rfl)) pe_str (nomark _)) (pe_one (pe_cmpR op_eq (pe_ix (xix K) (pv 2) pe_int (fun _ _ => rfl)) (pv 1) (nomark _)))))) pss_nil)
      (pss_cons (ps_if (pt_cmpR op_eq (pe_ix (xix K) (pv 0) pe_int (fun _ _ => rfl)) pe_str (nomark _)) (pss_one (ps_ret (pe_cmpR (xnin K) (pv 1) (pe_ix (xix K) (pv 0) pe_int (fun _ _ => rfl)) (by rfl)))) pss_nil)
      (pss_one (ps_ret (pe_cmpR op_ne (pe_ix (xix K) (pv 0) pe_int (fun _ _ => rfl)) (pe_ix (xix K) (pv 2) pe_int (fun _ _ => rfl)) (nomark _)))))), fun B σ ds P' Q r S k => ?_⟩
  obtain ⟨s, pl, x, f, rfl, hx, hf, rfl⟩ := r
  have kd : ∀ {ρ : List SV}, ρ[0]? = some (.d (enc s)) → JE C [] ρ (tOp (rIx K) (tVar 0) (tC (.int 1))) (· = .str s.k.s) := fun h => je_op (je_var h) je_int (rd_ix (n := 1) rfl rfl)
  have ix : ∀ {μ : List MO} {ρ : List SV} {n : Nat} {y : PyData}, ρ[2]? = some (.d x) → (encF f)[n]? = some y → JE C μ ρ (tOp (rIx K) (tVar 2) (tC (.int (n : Int)))) (· = y) := fun h1 h2 => je_op (je_var h1) je_int (rd_ix hx h2)
  have nin : ∀ {ρ : List SV}, ρ[0]? = some (.d (enc s)) → ρ[1]? = some (.d (.int (pl : Int))) → JE C [] ρ (tOp (rIn K true) (tVar 1) (tOp (rIx K) (tVar 0) (tC (.int 2)))) (· = .bool (!decide ((pl : Int) ∈ s.b))) := fun h h1 => je_op (je_var h1) (je_op (je_var h) je_int (rd_ix (n := 2) rfl rfl)) rd_inI
  cases f with
  | without p j q =>
    refine s_seq (s_if (b := true) S (jt_test (je_op (ix (n := 0) rfl rfl) je_str rd_eqS)) (fun _ H S => ?_) (fun z => by cases z))
    refine s_retP S (je_andV (je_op (kd rfl) je_str rd_neS) fun _ => je_op (ix (n := 3) rfl rfl) (je_var rfl) rd_eqI) k ?_
    rintro _ rfl
    simp only [clash, kd_any, dnat]
  | kept p j =>
    refine s_seq (s_if (b := false) S (jt_test (je_op (ix (n := 0) rfl rfl) je_str rd_eqS)) (fun z => by cases z) fun _ H S => s_nx ?_)
    refine s_seq (s_if S ((jt_test (je_op (kd rfl) je_str rd_eqS)).eq (kd_any s.k)) (fun z H S => s_retP S (nin rfl rfl) k ?_) fun z H S => s_nx (s_retP S (je_op (kd rfl) (ix (n := 0) rfl rfl) rd_neS) k ?_))
    · rintro _ rfl
      have z := of_decide_eq_true z
      simp only [clash, z]
    · rintro _ rfl
      have z := of_decide_eq_false z
      rw [kd_kept]
      simp only [clash]
      cases hk : s.k with
      | any => exact absurd hk z
      | kept => rfl
      | adds => rfl
  | adds p j =>
    refine s_seq (s_if (b := false) S (jt_test (je_op (ix (n := 0) rfl rfl) je_str rd_eqS)) (fun z => by cases z) fun _ H S => s_nx ?_)
    refine s_seq (s_if S ((jt_test (je_op (kd rfl) je_str rd_eqS)).eq (kd_any s.k)) (fun z H S => s_retP S (nin rfl rfl) k ?_) fun z H S => s_nx (s_retP S (je_op (kd rfl) (ix (n := 0) rfl rfl) rd_neS) k ?_))
    · rintro _ rfl
      have z := of_decide_eq_true z
      simp only [clash, z]
    · rintro _ rfl
      have z := of_decide_eq_false z
      rw [kd_adds]
      simp only [clash]
      cases hk : s.k with
      | any => exact absurd hk z
      | kept => rfl
      | adds => rfl
  | same => cases hf
/-! changed_step -/
def R_changed_step : Rel := fun ds P => ∃ (s : Stp) (k : Nat) (x : PyData) (f : Fct), ds = [enc s, .int (k : Int), x] ∧ s.b.length ≤ 100 ∧ sqD x = some (encF f) ∧ f.isSame = false ∧ P = (· = enc (chg s k f))
theorem sc_changed_step : FnScope (["step", "place", "fact", "cell", "kind", "goes_by", "name", "k"]) (["step", "place", "fact"]) (defScope (top 26)) := ⟨rfl, rfl, rfl, by decide +kernel, rfl, by decide +kernel, by decide +kernel⟩
theorem ok_changed_step (T : Txt K mg C) (F : Df K mg "changed_step" (top 26) (["step", "place", "fact"])) : Cal P w K mg base CX0 1 "changed_step" (["step", "place", "fact"]) (spP C R_changed_step) := by
  refine F.cal fun f fd F => ?_
  have nd := sc_changed_step.nd
  refine okP F sc_changed_step (fun ds P h => by obtain ⟨s, k, x, f, rfl, _⟩ := h; rfl) fun cdv A outer s H E hr => ⟨_, (pss_cons (ps_asg (pv 0) (pg_tup rfl (pgs_cons (pg_name (i := 3) nd rfl (by first | exact Or.inl rfl | exact Or.inr rfl)) (pgs_cons (pg_name (i := 4) nd rfl (by first | exact Or.inl rfl | exact Or.inr rfl)) (pgs_cons (pg_name (i := 5) nd rfl (by first | exact Or.inl rfl | exact Or.inr rfl)) (pgs_cons (pg_name (i := 6) nd rfl (by first | exact Or.inl rfl | exact Or.inr rfl)) pgs_nil))))))
      (pss_cons (ps_if (PW.pt (pw_and (pt_cmpR op_eq (pe_ix (xix K) (pv 2) pe_int (fun _ _ => rfl)) pe_str (nomark _)) (pw_and1 (pt_cmpR op_eq (pv 1) (pe_ix (xix K) (pv 2) pe_int (fun _ _ => rfl)) (nomark _))))) (pss_one (ps_ret (pe_tup (pa_cons (pv 3) (pa_cons (pv 4) (pa_cons (pe_callTy (xtuple K) (by rfl) T.tuple_ (by decide +kernel) (pa_cons (pe_lc (own := [("k", 7)]) (g := gName 7) rfl nd (xseq K (h := (pv 5))) (blkOk_by (N := ["step", "place", "fact", "cell", "kind", "goes_by", "name", "k"]) (sc := (defScope (top 26))) (by decide +kernel)) (fun _ _ _ _ _ => pg_name (i := 7) nd rfl (Or.inl rfl)) (fun _ _ _ _ _ => pts_one (pt_cmpR op_ne (pv 7) (pe_ix (xix K) (pv 2) pe_int (fun _ _ => rfl)) (nomark _))) (fun _ _ _ _ _ => (pv 7))) pa_nil)) (pa_cons (pv 6) pa_nil))))))) pss_nil)
      (pss_cons (ps_if (PW.pt (pw_and (pt_cmpR op_eq (pe_ix (xix K) (pv 2) pe_int (fun _ _ => rfl)) pe_str (nomark _)) (pw_and1 (pt_cmpR op_eq (pv 1) (pe_ix (xix K) (pv 2) pe_int (fun _ _ => rfl)) (nomark _))))) (pss_one (ps_ret (pe_tup (pa_cons (pv 3) (pa_cons pe_str (pa_cons (pe_tup pa_nil) (pa_cons (pe_un un_neg pe_int) pa_nil))))))) pss_nil)
      (pss_cons (ps_if (PW.pt (pw_and (pt_cmpR op_eq (pe_ix (xix K) (pv 2) pe_int (fun _ _ => rfl)) pe_str (nomark _)) (pw_and1 (pt_cmpR op_eq (pv 1) (pe_ix (xix K) (pv 2) pe_int (fun _ _ => rfl)) (nomark _))))) (pss_one (ps_ret (pe_tup (pa_cons (pv 3) (pa_cons pe_str (pa_cons (pe_callTy (xtuple K) (by rfl) T.tuple_ (by decide +kernel) (pa_cons (pe_lc (own := [("k", 7)]) (g := gName 7) rfl nd (xseq K (h := (pv 5))) (blkOk_by (N := ["step", "place", "fact", "cell", "kind", "goes_by", "name", "k"]) (sc := (defScope (top 26))) (by decide +kernel)) (fun _ _ _ _ _ => pg_name (i := 7) nd rfl (Or.inl rfl)) (fun _ _ _ _ _ => pts_one (pt_cmpR op_ne (pv 7) (pv 1) (nomark _))) (fun _ _ _ _ _ => (pv 7))) pa_nil)) (pa_cons (pv 6) pa_nil))))))) pss_nil)
      (pss_cons (ps_if (pt_cmpR op_eq (pe_ix (xix K) (pv 2) pe_int (fun _ _ => rfl)) pe_str (nomark _)) (pss_one (ps_ret (pe_tup (pa_cons (pv 3) (pa_cons (pv 4) (pa_cons (pe_callTy (xtuple K) (by rfl) T.tuple_ (by decide +kernel) (pa_cons (pe_lc (own := [("k", 7)]) (g := gName 7) rfl nd (xseq K (h := (pv 5))) (blkOk_by (N := ["step", "place", "fact", "cell", "kind", "goes_by", "name", "k"]) (sc := (defScope (top 26))) (by decide +kernel)) (fun _ _ _ _ _ => pg_name (i := 7) nd rfl (Or.inl rfl)) (fun _ _ _ _ _ => pts_one (pt_cmpR op_ne (pv 7) (pe_ix (xix K) (pv 2) pe_int (fun _ _ => rfl)) (nomark _))) (fun _ _ _ _ _ => (pv 7))) pa_nil)) (pa_cons (pv 6) pa_nil))))))) pss_nil)
      (pss_one (ps_ret (pv 0)))))))), fun B σ ds P' Q r S k => ?_⟩
  obtain ⟨s, pl, x, f, rfl, hl, hx, hf, rfl⟩ := r
  have ix : ∀ {μ : List MO} {ρ : List SV} {n : Nat} {y : PyData}, ρ[2]? = some (.d x) → (encF f)[n]? = some y → JE C μ ρ (tOp (rIx K) (tVar 2) (tC (.int (n : Int)))) (· = y) := fun h1 h2 => je_op (je_var h1) je_int (rd_ix hx h2)
  have drp : ∀ {ρ : List SV} {tq : TE} {q : Int}, ρ[5]? = some (.d (.tuple (s.b.map .int))) → (∀ z : Int, JE C [] (ρ.set 7 (.d (.int z))) tq (· = .int q)) → (∀ z, (ρ.set 7 (.d (.int z)))[7]? = some (.d (.int z))) →
      JE C [] ρ (tCB (fun xs H Q => ∃ p ys, xs = [.ref p] ∧ ((SqL K H p ys ∧ ∀ l, H l = none → Q (.ref l) (upd H l (.tup ys))) ∨ (SqT K H p ys ∧ Q (.ref p) H))) (tCons (tLc (iSeq K (tVar 5)) (gName 7) (tTest (tOp rNe (tVar 7) tq)) (tVar 7) [7]) tNil)) (· = .tuple ((dropQ s.b q).map .int)) := fun {ρ tq q} h hq h7 => by
    refine je_cb (ja_cons ((je_lcS (notQ q) (fun d => d) (je_var h) rfl (by rw [List.length_map]; omega) (fun d hd => ?_) (fun d hd _ => ?_)).eq (y := .list ((dropQ s.b q).map .int)) (by rw [outs_drop])) ja_nil) (cd_tuple rfl)
    · obtain ⟨z, _, rfl⟩ := List.mem_map.mp hd
      exact jt_test (je_op (je_var (h7 z)) (hq z) rd_neI)
    · obtain ⟨z, _, rfl⟩ := List.mem_map.mp hd
      exact je_var (h7 z)
  refine s_seq (s_asgG S (je_var rfl) (jg_tup4 (a := .int s.c) (b := .str s.k.s) (c := .tuple (s.b.map .int)) (d := .int s.n)) fun σ H S => ?_)
  cases f with
  | without p j q =>
    refine s_seq (s_if (b := decide (pl = j)) S ((jt_and (jt_test (je_op (ix (n := 0) rfl rfl) je_str rd_eqS)) fun _ => jt_test (je_op (je_var rfl) (ix (n := 2) rfl rfl) rd_eqI)).eq (by rw [dnat]; rfl)) (fun z H S => ?_) fun z H S => s_nx ?_)
    · refine s_retP S (je_tup (ja_cons (je_var rfl) (ja_cons (je_var rfl) (ja_cons (drp rfl (fun z => ix (n := 3) rfl rfl) fun z => rfl) (ja_cons (je_var rfl) ja_nil))))) k ?_
      rintro _ rfl
      simp only [chg, if_pos (of_decide_eq_true z)]; rfl
    refine s_seq (s_if (b := false) S (jt_and (a := false) (b := false) (jt_test (je_op (ix (n := 0) rfl rfl) je_str rd_eqS)) fun z => by cases z) (fun z => by cases z) fun _ H S => s_nx ?_)
    refine s_seq (s_if (b := false) S (jt_and (a := false) (b := false) (jt_test (je_op (ix (n := 0) rfl rfl) je_str rd_eqS)) fun z => by cases z) (fun z => by cases z) fun _ H S => s_nx ?_)
    refine s_seq (s_if (b := false) S (jt_test (je_op (ix (n := 0) rfl rfl) je_str rd_eqS)) (fun z => by cases z) fun _ H S => s_nx ?_)
    refine s_retP S (je_var rfl) k ?_
    rintro _ rfl
    simp only [chg, if_neg (of_decide_eq_false z)]
  | kept p j =>
    refine s_seq (s_if (b := false) S (jt_and (a := false) (b := false) (jt_test (je_op (ix (n := 0) rfl rfl) je_str rd_eqS)) fun z => by cases z) (fun z => by cases z) fun _ H S => s_nx ?_)
    refine s_seq (s_if (b := decide (pl = j)) S ((jt_and (jt_test (je_op (ix (n := 0) rfl rfl) je_str rd_eqS)) fun _ => jt_test (je_op (je_var rfl) (ix (n := 2) rfl rfl) rd_eqI)).eq (by rw [dnat]; rfl)) (fun z H S => ?_) fun z H S => s_nx ?_)
    · refine s_retP S (je_tup (ja_cons (je_var rfl) (ja_cons je_str (ja_cons (je_tup ja_nil) (ja_cons (je_un je_int ud_neg) ja_nil))))) k ?_
      rintro _ rfl
      simp only [chg, if_pos (of_decide_eq_true z)]; rfl
    refine s_seq (s_if (b := false) S (jt_and (a := false) (b := false) (jt_test (je_op (ix (n := 0) rfl rfl) je_str rd_eqS)) fun z => by cases z) (fun z => by cases z) fun _ H S => s_nx ?_)
    refine s_seq (s_if (b := false) S (jt_test (je_op (ix (n := 0) rfl rfl) je_str rd_eqS)) (fun z => by cases z) fun _ H S => s_nx ?_)
    refine s_retP S (je_var rfl) k ?_
    rintro _ rfl
    simp only [chg, if_neg (of_decide_eq_false z)]
  | adds p j =>
    refine s_seq (s_if (b := false) S (jt_and (a := false) (b := false) (jt_test (je_op (ix (n := 0) rfl rfl) je_str rd_eqS)) fun z => by cases z) (fun z => by cases z) fun _ H S => s_nx ?_)
    refine s_seq (s_if (b := false) S (jt_and (a := false) (b := false) (jt_test (je_op (ix (n := 0) rfl rfl) je_str rd_eqS)) fun z => by cases z) (fun z => by cases z) fun _ H S => s_nx ?_)
    refine s_seq (s_if (b := decide (pl = j)) S ((jt_and (jt_test (je_op (ix (n := 0) rfl rfl) je_str rd_eqS)) fun _ => jt_test (je_op (je_var rfl) (ix (n := 2) rfl rfl) rd_eqI)).eq (by rw [dnat]; rfl)) (fun z H S => ?_) fun z H S => s_nx ?_)
    · refine s_retP S (je_tup (ja_cons (je_var rfl) (ja_cons je_str (ja_cons (drp rfl (fun z => je_var rfl) fun z => rfl) (ja_cons (je_var rfl) ja_nil))))) k ?_
      rintro _ rfl
      have z := of_decide_eq_true z
      subst z
      simp only [chg, if_true]; rfl
    refine s_seq (s_if (b := true) S (jt_test (je_op (ix (n := 0) rfl rfl) je_str rd_eqS)) (fun _ H S => ?_) (fun z => by cases z))
    refine s_retP S (je_tup (ja_cons (je_var rfl) (ja_cons (je_var rfl) (ja_cons (drp rfl (fun z => ix (n := 2) rfl rfl) fun z => rfl) (ja_cons (je_var rfl) ja_nil))))) k ?_
    rintro _ rfl
    simp only [chg, if_neg (of_decide_eq_false z)]; rfl
  | same => cases hf
/-! name_count -/
def R_name_count : Rel := fun ds P => ∃ (ps : List Prg) (n : Int), ds = [encPs ps, .int n] ∧ ps.length ≤ 100 ∧ (∀ p ∈ ps, p.length ≤ 100) ∧ P = (· = .int (cnt ps n : Nat))
theorem sc_name_count : FnScope (["programs", "name", "program", "step"]) (["programs", "name"]) (defScope (top 27)) := ⟨rfl, rfl, rfl, by decide +kernel, rfl, by decide +kernel, by decide +kernel⟩
/-- a step's name -/
def nmD : PyData → Option PyData
  | .tuple ds => ds[3]?
  | _ => none
def isNm (n : Int) (d : PyData) : Bool := match nmD d with
  | some (.int m) => decide (m = n)
  | _ => false
theorem outs_nm (n : Int) (p : Prg) : outs (isNm n) (fun d => d) (p.map enc) = (p.filter fun s => decide (s.n = n)).map enc := by
  unfold outs
  rw [List.map_id', List.filter_map]
  rfl
theorem ok_name_count (T : Txt K mg C) (F : Df K mg "name_count" (top 27) (["programs", "name"])) : Cal P w K mg base CX0 1 "name_count" (["programs", "name"]) (spP C R_name_count) := by
  refine F.cal fun f fd F => ?_
  have nd := sc_name_count.nd
  refine okP F sc_name_count (fun ds P h => by obtain ⟨s, k, rfl, _⟩ := h; rfl) fun cdv A outer s H E hr => ⟨_, (pss_one (ps_ret (pe_callB (xsum K (hc := rfl)) (by rfl) T.sum_ (by decide +kernel) (pa_cons (pe_lc (own := [("program", 2)]) (g := gName 2) rfl nd (xseq K (h := (pv 0))) (blkOk_by (N := ["programs", "name", "program", "step"]) (sc := (defScope (top 27))) (by decide +kernel)) (fun _ _ _ _ _ => pg_name (i := 2) nd rfl (Or.inl rfl)) (fun _ _ _ _ _ => pts_nil) (fun _ _ _ _ _ => (pe_callB (xlen K) (by rfl) T.len_ (by decide +kernel) (pa_cons (pe_lc (own := [("step", 3)]) (g := gName 3) rfl nd (xseq K (h := (pv 2))) (blkOk_by (N := ["programs", "name", "program", "step"]) (sc := { kind := .function, names := [(".0", .local), ("program", .local), ("len", .globalImplicit), ("name", .cell)], isGenerator := false, isCoroutine := false, more := [] }) (by decide +kernel)) (fun _ _ _ _ _ => pg_name (i := 3) nd rfl (Or.inl rfl)) (fun _ _ _ _ _ => pts_one (pt_cmpR op_eq (pe_ix (xix K) (pv 3) pe_int (fun _ _ => rfl)) (pv 1) (nomark _))) (fun _ _ _ _ _ => (pv 3))) pa_nil)))) pa_nil)))), fun B σ ds P' Q r S k => ?_⟩
  obtain ⟨ps, n, rfl, hl, hp, rfl⟩ := r
  refine s_retP S (je_cb (ja_cons ((je_lcS (fun _ => true) (fun d => .int ((outs (isNm n) (fun d => d) ((sqD d).getD [])).length : Nat)) (je_var rfl) rfl (by rw [List.length_map]; omega) (fun d _ => jt_yes) (fun d hd _ => ?_)).eq (y := .list ((ps.map fun p => (((p.filter fun s => decide (s.n = n)).length : Nat) : Int)).map .int)) ?_) ja_nil) cd_sum) k ?_
  · obtain ⟨p, hpm, rfl⟩ := List.mem_map.mp hd
    have := hp p hpm
    refine je_cb (ja_cons (je_lcS (isNm n) (fun d => d) (je_var rfl) rfl (by rw [List.length_map]; omega) (fun d hd => ?_) (fun d hd _ => je_var rfl)) ja_nil) (cd_len rfl)
    obtain ⟨st, _, rfl⟩ := List.mem_map.mp hd
    exact jt_test (je_op (je_op (je_var rfl) je_int (rd_ix (n := 3) rfl rfl)) (je_var rfl) rd_eqI)
  · rw [outs_map, List.map_map, List.map_map]
    congr 1
    refine List.map_congr_left fun p _ => ?_
    show PyData.int ((outs (isNm n) (fun d => d) (p.map enc)).length : Nat) = PyData.int _
    rw [outs_nm, List.length_map]
  · rintro _ rfl
    congr 1
    clear S k hl hp
    unfold cnt
    induction ps with
    | nil => rfl
    | cons p ps ih => rw [List.map_cons, List.sum_cons, List.map_cons, List.sum_cons, ih]; omega
end
end KG
namespace KG
open PySem PySem.Spec L2
theorem Asc.len {hi : Int} : ∀ {lo : Int} {xs : List Int}, Asc lo hi xs → xs = [] ∨ (xs.length : Int) ≤ hi - lo
  | _, [], _ => .inl rfl
  | lo, x :: xs, ⟨a, b, c⟩ => by
    right
    rw [List.length_cons]
    rcases Asc.len c with e | e
    · subst e; simp; omega
    · omega
theorem LotOk.small {c : Int} {ps : List Prg} (L : LotOk c ps) : ps.length ≤ 100 ∧ ∀ p ∈ ps, p.length ≤ 100 ∧ ∀ s ∈ p, s.b.length ≤ 100 := by
  have := L.len
  refine ⟨by omega, fun p hp => ?_⟩
  have PO := L.pr p hp
  have := PO.len
  refine ⟨by omega, fun s hs => ?_⟩
  obtain ⟨i, hi⟩ := List.mem_iff_getElem?.mp hs
  have hil := (List.getElem?_eq_some_iff.mp hi).1
  have h2 : lastP s.k i ≤ (i : Int) := by unfold lastP; split <;> omega
  rcases (PO.st i s hi).asc.len with e | e
  · rw [e]; exact Nat.zero_le _
  · omega
def optD : Option (List Prg) → PyData
  | none => .none
  | some ps => encPs ps
section
variable {P : Program} {w : World} {K : PySem.W.Frag} {mg : Str → Option Value} {base : Heap} {C : Addr}
/-! with_plain_fact -/
def R_with_plain_fact : Rel := fun ds P => ∃ (c : Int) (ps : List Prg) (x : PyData) (f : Fct), ds = [encPs ps, x] ∧ LotOk c ps ∧ sqD x = some (encF f) ∧ okF ps f = true ∧ f.isSame = false ∧ P = (· = optD (wpf ps f))
theorem sc_with_plain_fact : FnScope (["programs", "fact", "program", "place", "steps", "told", "k"]) (["programs", "fact"]) (defScope (top 28)) := ⟨rfl, rfl, rfl, by decide +kernel, rfl, by decide +kernel, by decide +kernel⟩
theorem encF_pk (f : Fct) : (encF f)[1]? = some (.int (f.p : Int)) ∧ (encF f)[2]? = some (.int (f.k : Int)) := by cases f <;> exact ⟨rfl, rfl⟩
theorem ok_with_plain_fact (T : Txt K mg C) (F : Df K mg "with_plain_fact" (top 28) (["programs", "fact"])) (G_is_clash : Cal P w K mg base CX0 1 "is_clash" (["step", "place", "fact"]) (spP C R_is_clash)) (G_changed_step : Cal P w K mg base CX0 1 "changed_step" (["step", "place", "fact"]) (spP C R_changed_step))
    (G_name_count : Cal P w K mg base CX0 1 "name_count" (["programs", "name"]) (spP C R_name_count)) : Cal P w K mg base CX0 2 "with_plain_fact" (["programs", "fact"]) (spP C R_with_plain_fact) := by
  refine F.cal fun f fd F => ?_
  have nd := sc_with_plain_fact.nd
  refine okP F sc_with_plain_fact (fun ds P h => by obtain ⟨c, ps, x, f, rfl, _⟩ := h; rfl) fun cdv A outer s H E hr => ⟨_, (pss_cons (ps_par (i := 2) (j := 3) rfl nd rfl rfl (by decide) rfl rfl (pa_cons (pe_ix (xix K) (pv 1) pe_int (fun _ _ => rfl)) (pa_cons (pe_ix (xix K) (pv 1) pe_int (fun _ _ => rfl)) pa_nil)) rfl)
      (pss_cons (xset 4 nd (pe_ix (xix K) (pv 0) (pv 2) (fun _ _ => rfl)))
      (pss_cons (ps_if (pt_val (xcall G_is_clash hr (pa_cons (pe_ix (xix K) (pv 4) (pv 3) (fun _ _ => rfl)) (pa_cons (pv 3) (pa_cons (pv 1) pa_nil))))) (pss_one (ps_ret pe_non)) pss_nil)
      (pss_cons (xset 5 nd (pe_callTy (xtuple K) (by rfl) T.tuple_ (by decide +kernel) (pa_cons (pe_lc (own := [("k", 6)]) (g := gName 6) rfl nd (pi_range1 (by rfl) T.range_ (pa_cons (pe_callB (xlen K) (by rfl) T.len_ (by decide +kernel) (pa_cons (pv 4) pa_nil)) pa_nil)) (blkOk_by (N := ["programs", "fact", "program", "place", "steps", "told", "k"]) (sc := (defScope (top 28))) (by decide +kernel)) (fun _ _ _ _ _ => pg_name (i := 6) nd rfl (Or.inl rfl)) (fun _ _ _ _ _ => pts_nil) (fun _ _ _ _ _ => (xcall G_changed_step hr (pa_cons (pe_ix (xix K) (pv 4) (pv 6) (fun _ _ => rfl)) (pa_cons (pv 6) (pa_cons (pv 1) pa_nil)))))) pa_nil)))
      (pss_cons (ps_for PassesOwn.never rfl (pi_range1 (by rfl) T.range_ (pa_cons (pe_callB (xlen K) (by rfl) T.len_ (by decide +kernel) (pa_cons (pv 4) pa_nil)) pa_nil)) (pg_name (i := 6) nd rfl (by first | exact Or.inl rfl | exact Or.inr rfl)) (pss_one (ps_if (PW.pt (pw_and (pt_cmpR (xneD K (hu := hr.units)) (pe_ix (xix K) (pv 5) (pv 6) (fun _ _ => rfl)) (pe_ix (xix K) (pv 4) (pv 6) (fun _ _ => rfl)) (nomark _)) (pw_and1 (pt_cmpR op_gt (xcall G_name_count hr (pa_cons (pv 0) (pa_cons (pe_ix (xix K) (pe_ix (xix K) (pv 4) (pv 6) (fun _ _ => rfl)) pe_int (fun _ _ => rfl)) pa_nil))) pe_int (nomark _))))) (pss_one (ps_ret pe_non)) pss_nil)))
      (pss_one (ps_ret (pe_op (xcatA K) (pe_op (xcatA K) (pe_slice (xslT K) (pv 0) po_none (po_some (pv 2))) (pe_tup (pa_cons (pv 5) pa_nil))) (pe_slice (xslT K) (pv 0) (po_some (pe_op op_add (pv 2) pe_int)) po_none))))))))), fun B σ ds P' Q r S k => ?_⟩
  obtain ⟨c, ps, x, f, rfl, L, hx, hok, hsm, rfl⟩ := r
  obtain ⟨hl, hsml⟩ := L.small
  have hat := okF_p hok
  unfold isAt at hat
  simp only [Bool.and_eq_true, decide_eq_true_eq] at hat
  obtain ⟨hpl, hkl⟩ := hat
  obtain ⟨p, hp⟩ : ∃ p, ps[f.p]? = some p := ⟨_, List.getElem?_eq_getElem hpl⟩
  have epD : ps.getD f.p [] = p := getD_of hp
  rw [epD] at hkl
  have hpm := List.mem_of_getElem? hp
  obtain ⟨hp100, hs100⟩ := hsml p hpm
  have ix : ∀ {μ : List MO} {ρ : List SV} {n : Nat} {y : PyData}, ρ[1]? = some (.d x) → (encF f)[n]? = some y → JE C μ ρ (tOp (rIx K) (tVar 1) (tC (.int (n : Int)))) (· = y) := fun h1 h2 => je_op (je_var h1) je_int (rd_ix hx h2)
  refine s_seq (s_par S (ja_cons (ix (n := 1) rfl (encF_pk f).1) (ja_cons (ix (n := 2) rfl (encF_pk f).2) ja_nil)) fun σ H S => ?_)
  refine s_seq (s_asg1 S (je_op (je_var rfl) (je_var rfl) (rd_ix (n := f.p) rfl (map_at hp))) fun σ H S => ?_)
  have est : p[f.k]? = some (p.getD f.k s0) := get_of_lt s0 hkl
  refine s_seq (s_if S (jt_B (je_call (ja_cons (je_op (je_var rfl) (je_var rfl) (rd_ix (n := f.k) rfl (map_at est))) (ja_cons (je_var rfl) (ja_cons (je_var rfl) ja_nil))) ⟨p.getD f.k s0, f.k, x, f, rfl, hx, hsm, rfl⟩)) (fun z H S => ?_) fun z H S => s_nx ?_)
  · refine s_retP S je_non k ?_
    rintro _ rfl
    simp only [wpf, epD, z, if_true]; rfl
  refine s_seq (s_asg1 S (je_cb (ja_cons ((je_lcR (n := p.length) (fun _ => true) (fun j => enc (chg (p.getD j s0) j f)) (ja_cons ((je_cb (ja_cons (je_var rfl) ja_nil) (cd_len rfl)).eq (by rw [List.length_map])) ja_nil) (by omega) (fun j _ => jt_yes) (fun j hj _ => ?_)).eq (y := .list ((taken p f).map enc)) ?_) ja_nil) (cd_tuple rfl)) fun σ H S => ?_)
  · have ej := get_of_lt s0 hj
    exact je_call (ja_cons (je_op (je_var rfl) (je_var rfl) (rd_ix (n := j) rfl (map_at ej))) (ja_cons (je_var rfl) (ja_cons (je_var rfl) ja_nil))) ⟨p.getD j s0, j, x, f, rfl, hs100 _ (List.mem_of_getElem? ej), hx, hsm, rfl⟩
  · rw [List.filter_eq_self.mpr (fun _ _ => rfl)]
    unfold taken
    rw [List.map_map]; rfl
  refine s_seq (s_forR (n := p.length) (fun j μ ρ => (∀ i, i < j → moved ps p f i = false) ∧ μ = [] ∧ ∃ a, ρ = [.d (encPs ps), .d x, .d (.int (f.p : Int)), .d (.int (f.k : Int)), .d (encP p), .d (encP (taken p f)), a]) S (ja_cons ((je_cb (ja_cons (je_var rfl) ja_nil) (cd_len rfl)).eq (by rw [List.length_map])) ja_nil) (by omega) ⟨fun i hi => absurd hi (Nat.not_lt_zero _), rfl, _, rfl⟩ ?_ ?_)
  · rintro j hj μ' ρ' σ' H' ⟨hm, rfl, a, rfl⟩ S
    have ej := get_of_lt s0 hj
    refine s_if (b := moved ps p f j) S ((jt_and (jt_test (je_op (je_op (je_var rfl) (je_var rfl) (rd_ix (n := j) rfl (map_at (taken_get ej)))) (je_op (je_var rfl) (je_var rfl) (rd_ix (n := j) rfl (map_at ej))) (rd_neD (enc_shaped _) (enc_shaped _)))) fun _ => jt_test (je_op (je_call (ja_cons (je_var rfl) (ja_cons (je_op (je_op (je_var rfl) (je_var rfl) (rd_ix (n := j) rfl (map_at ej))) je_int (rd_ix (n := 3) rfl rfl)) ja_nil)) ⟨ps, _, rfl, hl, fun p hp => (hsml p hp).1, rfl⟩) je_int rd_gt)).eq ?_) (fun z H S => ?_) fun z H S => s_nx ⟨_, _, ⟨fun i hi => ?_, rfl, _, rfl⟩, S⟩
    · rw [enc_eqv]
      unfold moved
      congr 1
      have := dnat 1 0
      by_cases h : 1 < cnt ps (p.getD j s0).n
      · rw [decide_eq_true h, decide_eq_true (by omega)]
      · rw [decide_eq_false h, decide_eq_false (by omega)]
    · refine s_retP S je_non k ?_
      rintro _ rfl
      have hc : clash (p.getD f.k s0) f.k f = false := by assumption
      simp only [wpf, epD, hc, Bool.false_eq_true, if_false]
      rw [if_pos (List.any_eq_true.mpr ⟨j, List.mem_range.mpr hj, z⟩)]; rfl
    · by_cases e : i = j
      · rw [e]; exact z
      · exact hm i (by omega)
  · rintro μ' ρ' σ' H' ⟨hm, rfl, a, rfl⟩ S
    refine s_retP S (je_op (je_op (je_slT (je_var rfl) jo_none (jo_some (je_var rfl))) (je_tup (ja_cons (je_var rfl) ja_nil)) (rd_catT ?_)) (je_slT (je_var rfl) (jo_some ((je_op (je_var rfl) je_int rd_add).eq (y := .int ((f.p + 1 : Nat) : Int)) (by congr 1))) jo_none) (rd_catT ?_)) k ?_
    · have := cutD_len (ps.map encP) none (some ((f.p : Nat) : Int))
      rw [List.length_map] at this
      simp; omega
    · have h1 := cutD_len (ps.map encP) none (some ((f.p : Nat) : Int))
      have h2 := cutD_len (ps.map encP) (some ((f.p + 1 : Nat) : Int)) none
      rw [List.length_map] at h1 h2
      rw [List.length_append]
      simp only [List.length_cons, List.length_nil]
      omega
    · rintro _ rfl
      have hc : clash (p.getD f.k s0) f.k f = false := by assumption
      have na : (List.range p.length).any (moved ps p f) = false := by
        rw [Bool.eq_false_iff]
        intro q
        obtain ⟨i, hi, q⟩ := List.any_eq_true.mp q
        rw [hm i (List.mem_range.mp hi)] at q; cases q
      simp only [wpf, epD, hc, na, Bool.false_eq_true, if_false, optD]
      rw [cut_to, cut_from]
      have : ps.map encP = ps.map encP := rfl
      show PyData.tuple _ = encPs _
      unfold encPs
      rw [set_split (by rw [List.length_map]; exact hpl), List.map_set]
/-! with_same -/
def R_with_same : Rel := fun ds P => ∃ (c : Int) (ps : List Prg) (x : PyData) (f : Fct), ds = [encPs ps, x] ∧ LotOk c ps ∧ sqD x = some (encF f) ∧ okF ps f = true ∧ f.isSame = true ∧ P = (· = optD (wsf ps f))
theorem sc_with_same : FnScope (["programs", "fact", "one", "other", "low", "high", "told", "steps", "row", "cell", "kind", "goes_by", "name"]) (["programs", "fact"]) (defScope (top 29)) := ⟨rfl, rfl, rfl, by decide +kernel, rfl, by decide +kernel, by decide +kernel⟩
theorem je_step {μ : List MO} {ρ : List SV} {tp tk te : TE} {ps : List Prg} {p k : Nat} (hat : isAt ps p k = true) (h : JE C μ ρ te (· = encPs ps)) (hp : JE C μ ρ tp (· = .int (p : Int))) (hk : JE C μ ρ tk (· = .int (k : Int))) : JE C μ ρ (tOp (rIx K) (tOp (rIx K) te tp) tk) (· = enc (stAt ps p k)) := by
  unfold isAt at hat
  simp only [Bool.and_eq_true, decide_eq_true_eq] at hat
  exact je_op (je_op h hp (rd_ix (n := p) rfl (map_at (get_of_lt [] hat.1)))) hk (rd_ix (n := k) rfl (map_at (get_of_lt s0 hat.2)))
theorem ok_with_same (T : Txt K mg C) (F : Df K mg "with_same" (top 29) (["programs", "fact"])) (G_function_shape : Cal P w K mg base CX0 1 "function_shape" (["step"]) (spP C R_function_shape)) : Cal P w K mg base CX0 2 "with_same" (["programs", "fact"]) (spP C R_with_same) := by
  refine F.cal fun f fd F => ?_
  have nd := sc_with_same.nd
  refine okP F sc_with_same (fun ds P h => by obtain ⟨c, ps, x, f, rfl, _⟩ := h; rfl) fun cdv A outer s H E hr => ⟨_, (pss_cons (xset 2 nd (pe_ix (xix K) (pe_ix (xix K) (pv 0) (pe_ix (xix K) (pv 1) pe_int (fun _ _ => rfl)) (fun _ _ => rfl)) (pe_ix (xix K) (pv 1) pe_int (fun _ _ => rfl)) (fun _ _ => rfl)))
      (pss_cons (xset 3 nd (pe_ix (xix K) (pe_ix (xix K) (pv 0) (pe_ix (xix K) (pv 1) pe_int (fun _ _ => rfl)) (fun _ _ => rfl)) (pe_ix (xix K) (pv 1) pe_int (fun _ _ => rfl)) (fun _ _ => rfl)))
      (pss_cons (ps_if (PW.pt (pw_or (pt_cmpR op_eq (pe_ix (xix K) (pv 2) pe_int (fun _ _ => rfl)) pe_str (nomark _)) (pw_or1 (pt_cmpR (xneD K (hu := hr.units)) (xcall G_function_shape hr (pa_cons (pv 2) pa_nil)) (xcall G_function_shape hr (pa_cons (pv 3) pa_nil)) (nomark _))))) (pss_one (ps_ret pe_non)) pss_nil)
      (pss_cons (xset 4 nd (pe_callB (call_min2 rfl) (by rfl) T.min_ (by decide +kernel) (pa_cons (pe_ix (xix K) (pv 2) pe_int (fun _ _ => rfl)) (pa_cons (pe_ix (xix K) (pv 3) pe_int (fun _ _ => rfl)) pa_nil))))
      (pss_cons (xset 5 nd (pe_callB (call_max2 rfl) (by rfl) T.max_ (by decide +kernel) (pa_cons (pe_ix (xix K) (pv 2) pe_int (fun _ _ => rfl)) (pa_cons (pe_ix (xix K) (pv 3) pe_int (fun _ _ => rfl)) pa_nil))))
      (pss_cons (xset 6 nd (pe_lst pa_nil))
      (pss_cons (ps_for PassesOwn.never rfl (xseq K (h := (pv 0))) (pg_name (i := 7) nd rfl (by first | exact Or.inl rfl | exact Or.inr rfl)) (pss_cons (xset 8 nd (pe_lst pa_nil))
      (pss_cons (ps_for PassesOwn.never rfl (xseq K (h := (pv 7))) (pg_tup rfl (pgs_cons (pg_name (i := 9) nd rfl (by first | exact Or.inl rfl | exact Or.inr rfl)) (pgs_cons (pg_name (i := 10) nd rfl (by first | exact Or.inl rfl | exact Or.inr rfl)) (pgs_cons (pg_name (i := 11) nd rfl (by first | exact Or.inl rfl | exact Or.inr rfl)) (pgs_cons (pg_name (i := 12) nd rfl (by first | exact Or.inl rfl | exact Or.inr rfl)) pgs_nil))))) (pss_cons (ps_if (pt_cmpR op_eq (pv 12) (pv 5) (nomark _)) (pss_one (xset 12 nd (pv 4))) pss_nil)
      (pss_one (ps_expr (pe_bm PySem.F.plainAttrs_list PySem.F.slot_list_append PySem.F.type_list_append mt_append (pv 8) (pa_cons (pe_tup (pa_cons (pv 9) (pa_cons (pv 10) (pa_cons (pv 11) (pa_cons (pv 12) pa_nil))))) pa_nil))))))
      (pss_one (ps_expr (pe_bm PySem.F.plainAttrs_list PySem.F.slot_list_append PySem.F.type_list_append mt_append (pv 6) (pa_cons (pe_callTy (xtuple K) (by rfl) T.tuple_ (by decide +kernel) (pa_cons (pv 8) pa_nil)) pa_nil)))))))
      (pss_one (ps_ret (pe_callTy (xtuple K) (by rfl) T.tuple_ (by decide +kernel) (pa_cons (pv 6) pa_nil))))))))))), fun B σ ds P' Q r S k => ?_⟩
  obtain ⟨c, ps, x, f, rfl, L, hx, hok, hsm, rfl⟩ := r
  cases f with
  | same p1 k1 p2 k2 =>
    obtain ⟨hl, hsml⟩ := L.small
    simp only [okF, Bool.and_eq_true] at hok
    obtain ⟨⟨hat1, hat2⟩, _⟩ := hok
    have ix : ∀ {μ : List MO} {ρ : List SV} {n : Nat} {y : PyData}, ρ[1]? = some (.d x) → (encF (.same p1 k1 p2 k2))[n]? = some y → JE C μ ρ (tOp (rIx K) (tVar 1) (tC (.int (n : Int)))) (· = y) := fun h1 h2 => je_op (je_var h1) je_int (rd_ix hx h2)
    refine s_seq (s_asg1 S (je_step hat1 (je_var rfl) (ix (n := 1) rfl rfl) (ix (n := 2) rfl rfl)) fun σ H S => ?_)
    refine s_seq (s_asg1 S (je_step hat2 (je_var rfl) (ix (n := 3) rfl rfl) (ix (n := 4) rfl rfl)) fun σ H S => ?_)
    generalize ha : stAt ps p1 k1 = a at *
    generalize hb : stAt ps p2 k2 = b at *
    have ew : wsf ps (.same p1 k1 p2 k2) = wsm ps a b := by simp only [wsf, ha, hb]
    rw [ew] at k
    refine s_seq (s_if (b := decide (a.k = .kept ∨ shape a ≠ shape b)) S ((jt_or ((jt_test (je_op (je_op (je_var rfl) je_int (rd_ix (n := 1) rfl rfl)) je_str rd_eqS)).eq (kd_kept a.k)) fun _ => jt_test (je_op (je_call (ja_cons (je_var rfl) ja_nil) ⟨_, rfl, rfl⟩) (je_call (ja_cons (je_var rfl) ja_nil) ⟨_, rfl, rfl⟩) (rd_neD (shapeD_shaped _) (shapeD_shaped _)))).eq ?_) (fun z H S => ?_) fun z H S => s_nx ?_)
    · rw [shapeD_eqv, Bool.eq_iff_iff]
      simp only [Bool.or_eq_true, decide_eq_true_eq, Bool.not_eq_true', decide_eq_false_iff_not, ne_eq]
    · refine s_retP S je_non k ?_
      rintro _ rfl
      simp only [wsm, if_pos (of_decide_eq_true z)]; rfl
    have z := of_decide_eq_false z
    have nm : ∀ {ρ : List SV} {i : Nat} {s : Stp}, ρ[i]? = some (.d (enc s)) → JE C [] ρ (tOp (rIx K) (tVar i) (tC (.int 3))) (· = .int s.n) := fun h => je_op (je_var h) je_int (rd_ix (n := 3) rfl rfl)
    refine s_seq (s_asg1 S ((je_cb (ja_cons (nm rfl) (ja_cons (nm rfl) ja_nil)) cd_min2).eq (y := .int (min a.n b.n)) (by congr 1; omega)) fun σ H S => ?_)
    refine s_seq (s_asg1 S ((je_cb (ja_cons (nm rfl) (ja_cons (nm rfl) ja_nil)) cd_max2).eq (y := .int (max a.n b.n)) (by congr 1; omega)) fun σ H S => ?_)
    refine s_seq (s_new S rfl fun pt σ H hpt S => ?_)
    let R := ren (min a.n b.n) (max a.n b.n)
    refine s_seq (s_forS (fun j μ ρ => μ = [.lst (((ps.take j).map (·.map R)).map encP)] ∧ ρ = [.d (encPs ps), .d x, .d (enc a), .d (enc b), .d (.int (min a.n b.n)), .d (.int (max a.n b.n)), .m 0, .un, .un, .un, .un, .un, .un]) S (je_var rfl) rfl (fun d _ => jg_name) ⟨rfl, rfl⟩ ?_ ?_)
    · rintro j d hd v μ' ρ' σ' H' ⟨rfl, rfl⟩ S
      obtain ⟨p, hp, rfl⟩ := map_get hd
      have hp4 := (hsml p (List.mem_of_getElem? hp)).1
      have hj : j < ps.length := (List.getElem?_eq_some_iff.mp hp).1
      refine s_seq (s_new S rfl fun pst σ H hpst S => ?_)
      refine s_seq (s_forS (fun i μ ρ => μ = [.lst (((ps.take j).map (·.map R)).map encP), .lst (((p.take i).map R).map enc)] ∧ ρ = [.d (encPs ps), .d x, .d (enc a), .d (enc b), .d (.int (min a.n b.n)), .d (.int (max a.n b.n)), .m 0, .d (encP p), .m 1, .un, .un, .un, .un]) S (je_var rfl) rfl (up := fun d ρ => match d with
        | .tuple [d1, d2, d3, d4] => (((ρ.set 9 (.d d1)).set 10 (.d d2)).set 11 (.d d3)).set 12 (.d d4)
        | _ => ρ) (fun d hd => ?_) ⟨rfl, rfl⟩ ?_ ?_)
      · obtain ⟨st, _, rfl⟩ := List.mem_map.mp hd
        exact jg_tup4
      · rintro i d hd v μ' ρ' σ' H' ⟨rfl, rfl⟩ S
        obtain ⟨st, hst, rfl⟩ := map_get hd
        have hi := (List.getElem?_eq_some_iff.mp hst).1
        have fin : ∀ (n : Int), n = (R st).n → ∀ {σ : L2.St} {H : Hp} {fr : Frm}, Sat C fr [.lst (((ps.take j).map (·.map R)).map encP), .lst (((p.take i).map R).map enc)] [.d (encPs ps), .d x, .d (enc a), .d (enc b), .d (.int (min a.n b.n)), .d (.int (max a.n b.n)), .m 0, .d (encP p), .m 1, .d (.int st.c), .d (.str st.k.s), .d (.tuple (st.b.map .int)), .d (.int n)] σ H → ∀ {nx : L2.St → Hp → Prop} {rt : VK} {bk ct : L2.St → Hp → Prop},
            (∀ σ H, Sat C fr [.lst (((ps.take j).map (·.map R)).map encP), .lst (((p.take (i + 1)).map R).map enc)] [.d (encPs ps), .d x, .d (enc a), .d (enc b), .d (.int (min a.n b.n)), .d (.int (max a.n b.n)), .m 0, .d (encP p), .m 1, .un, .un, .un, .un] σ H → nx σ H) →
            tDrop (tBM K "list" rAppend (tVar 8) (tCons (tTup (tCons (tVar 9) (tCons (tVar 10) (tCons (tVar 11) (tCons (tVar 12) tNil))))) tNil)) ⟨nx, rt, bk, ct⟩ σ H := fun n hn σ H fr S nx rt bk ct kk => by
          subst hn
          refine s_app S rfl rfl ((je_tup (ja_cons (je_var rfl) (ja_cons (je_var rfl) (ja_cons (je_var rfl) (ja_cons (je_var rfl) ja_nil))))).eq (y := enc (R st)) rfl) (by rw [List.length_map, List.length_map, List.length_take]; omega) ?_
          rintro _ H rfl S
          refine kk _ _ ?_
          rw [take_snoc hst, List.map_append, List.map_append]
          exact (((S.forget (i := 9)).forget (i := 10)).forget (i := 11)).forget (i := 12)
        refine s_seq (s_if S (jt_test (je_op (je_var rfl) (je_var rfl) rd_eqI)) (fun z H S => ?_) fun z H S => s_nx ?_)
        · have z := of_decide_eq_true z
          refine s_asg1 S (je_var rfl) fun σ H S => fin (min a.n b.n) ?_ S fun σ H S => ⟨_, _, ⟨rfl, rfl⟩, S⟩
          show min a.n b.n = if st.n = max a.n b.n then min a.n b.n else st.n
          rw [if_pos z]
        · have z := of_decide_eq_false z
          refine fin st.n ?_ S fun σ H S => ⟨_, _, ⟨rfl, rfl⟩, S⟩
          show st.n = if st.n = max a.n b.n then min a.n b.n else st.n
          rw [if_neg z]
      · rintro μ' ρ' σ' H' ⟨rfl, rfl⟩ S
        refine s_app S rfl rfl (je_tuplem rfl rfl) (by rw [List.length_map, List.length_map, List.length_take]; omega) ?_
        rintro _ H rfl S
        obtain ⟨S2, _, _⟩ := Sat.pop' (fv := [pt]) (μ := [_]) (p := pst) ((S.forget (i := 8)).forget (i := 7)) rfl (by simp) (by simp) (by simp)
        refine ⟨_, _, ⟨?_, rfl⟩, S2⟩
        rw [take_snoc hp, List.map_append, List.map_append, List.length_map, List.take_length]; rfl
    · rintro μ' ρ' σ' H' ⟨rfl, rfl⟩ S
      refine s_retP S (je_tuplem rfl rfl) k ?_
      rintro _ rfl
      rw [List.length_map, List.take_length]
      simp only [wsm, if_neg z, optD]
      rfl
  | without => cases hsm
  | kept => cases hsm
  | adds => cases hsm
end
end KG
namespace KG
open PySem PySem.Spec L2
section
variable {P : Program} {w : World} {K : PySem.W.Frag} {mg : Str → Option Value} {base : Heap} {C : Addr}
/-! _law_whole -/
def isI : PyData → Bool
  | .int _ => true
  | _ => false
def R__law_whole : Rel := fun ds P => ∃ x, ds = [x] ∧ noLot x = true ∧ P = (· = .bool (isI x))
theorem sc__law_whole : FnScope (["_law_thing"]) (["_law_thing"]) (defScope (top 35)) := ⟨rfl, rfl, rfl, by decide +kernel, rfl, by decide +kernel, by decide +kernel⟩
theorem kit_ib {x : PyData} : ∃ b1 b2, kitB (tyD x) "int" = some b1 ∧ kitB (tyD x) "bool" = some b2 ∧ (b1 && !b2) = isI x := by
  cases x with
  | int s => exact ⟨true, false, by show kitB "int" "int" = _; decide +kernel, by show kitB "int" "bool" = _; decide +kernel, rfl⟩
  | str s => exact ⟨false, false, by show kitB "str" "int" = _; decide +kernel, by show kitB "str" "bool" = _; decide +kernel, rfl⟩
  | none => exact ⟨false, false, by show kitB "NoneType" "int" = _; decide +kernel, by show kitB "NoneType" "bool" = _; decide +kernel, rfl⟩
  | bool => exact ⟨true, true, by show kitB "bool" "int" = _; decide +kernel, by show kitB "bool" "bool" = _; decide +kernel, rfl⟩
  | list => exact ⟨false, false, by show kitB "list" "int" = _; decide +kernel, by show kitB "list" "bool" = _; decide +kernel, rfl⟩
  | tuple => exact ⟨false, false, by show kitB "tuple" "int" = _; decide +kernel, by show kitB "tuple" "bool" = _; decide +kernel, rfl⟩
  | dict => exact ⟨false, false, by show kitB "dict" "int" = _; decide +kernel, by show kitB "dict" "bool" = _; decide +kernel, rfl⟩
theorem ok__law_whole (T : Txt K mg C) (F : Df K mg "_law_whole" (top 35) (["_law_thing"])) : Cal P w K mg base CX0 1 "_law_whole" (["_law_thing"]) (spP C R__law_whole) := by
  refine F.cal fun f fd F => ?_
  have nd := sc__law_whole.nd
  refine okP F sc__law_whole (fun ds P h => by obtain ⟨x, rfl, _⟩ := h; rfl) fun cdv A outer s H E hr => ⟨_, (pss_one (ps_ret (pe_and (pe_callB (xisi K) (by rfl) T.isinstance_ (by decide +kernel) (pa_cons (pv 0) (pa_cons (pe_bltn (v := .ty "int") (by rfl) T.int_ (by decide +kernel) rfl) pa_nil))) (pe_one (pe_not (pe_callB (xisi K) (by rfl) T.isinstance_ (by decide +kernel) (pa_cons (pv 0) (pa_cons (pe_bltn (v := .ty "bool") (by rfl) T.bool_ (by decide +kernel) rfl) pa_nil)))))))), fun B σ ds P' Q r S k => ?_⟩
  obtain ⟨x, rfl, hn, rfl⟩ := r
  obtain ⟨b1, b2, h1, h2, e⟩ := kit_ib (x := x)
  exact s_retP S (je_andV (je_isi (je_var rfl) hn h1) fun _ => je_notV (je_isi (je_var rfl) hn h2)) k (by rintro _ rfl; rw [e])
/-! _law_shape -/
def R__law_shape : Rel := fun ds P => ∃ s, ds = [enc s] ∧ P = (· = shapeD s)
theorem sc__law_shape : FnScope (["_law_step"]) (["_law_step"]) (defScope (top 37)) := ⟨rfl, rfl, rfl, by decide +kernel, rfl, by decide +kernel, by decide +kernel⟩
theorem ok__law_shape (T : Txt K mg C) (F : Df K mg "_law_shape" (top 37) (["_law_step"])) : Cal P w K mg base CX0 1 "_law_shape" (["_law_step"]) (spP C R__law_shape) := by
  refine F.cal fun f fd F => ?_
  have nd := sc__law_shape.nd
  refine okP F sc__law_shape (fun ds P h => by obtain ⟨s, rfl, _⟩ := h; rfl) fun cdv A outer s H E hr => ⟨_, (pss_cons (ps_if (pt_cmpR op_eq (pe_ix (xix K) (pv 0) pe_int (fun _ _ => rfl)) pe_str (nomark _)) (pss_one (ps_ret (pe_tup (pa_cons (pe_ix (xix K) (pv 0) pe_int (fun _ _ => rfl)) (pa_cons (pe_callB (xlen K) (by rfl) T.len_ (by decide +kernel) (pa_cons (pe_ix (xix K) (pv 0) pe_int (fun _ _ => rfl)) pa_nil)) (pa_cons (pe_ix (xix K) (pv 0) pe_int (fun _ _ => rfl)) pa_nil)))))) pss_nil)
      (pss_one (ps_ret (pe_tup (pa_cons (pe_ix (xix K) (pv 0) pe_int (fun _ _ => rfl)) (pa_cons (pe_callB (xlen K) (by rfl) T.len_ (by decide +kernel) (pa_cons (pe_ix (xix K) (pv 0) pe_int (fun _ _ => rfl)) pa_nil)) (pa_cons (pe_un un_neg pe_int) pa_nil))))))), fun B σ ds P' Q r S k => ?_⟩
  obtain ⟨s, rfl, rfl⟩ := r
  have ix : ∀ {n : Nat} {y : PyData}, [PyData.int s.c, .str s.k.s, .tuple (s.b.map .int), .int s.n][n]? = some y → JE C [] [.d (enc s)] (tOp (rIx K) (tVar 0) (tC (.int (n : Int)))) (· = y) := fun h => je_op (je_var rfl) je_int (rd_ix rfl h)
  refine s_seq (s_if S ((jt_test (je_op (ix (n := 1) rfl) je_str rd_eqS)).eq (kd_adds s.k)) (fun z H S => ?_) fun z H S => s_nx ?_)
  · refine s_retP S (je_tup (ja_cons (ix (n := 1) rfl) (ja_cons (je_cb (ja_cons (ix (n := 2) rfl) ja_nil) (cd_len rfl)) (ja_cons (ix (n := 0) rfl) ja_nil)))) k ?_
    rintro _ rfl
    unfold shapeD
    rw [if_pos (of_decide_eq_true z), List.length_map]
  · refine s_retP S (je_tup (ja_cons (ix (n := 1) rfl) (ja_cons (je_cb (ja_cons (ix (n := 2) rfl) ja_nil) (cd_len rfl)) (ja_cons (je_un je_int ud_neg) ja_nil)))) k ?_
    rintro _ rfl
    unfold shapeD
    rw [if_neg (of_decide_eq_false z), List.length_map]
/-! _law_is_place -/
def R__law_is_place : Rel := fun ds P => ∃ (c : Int) (ps : List Prg) (x y : PyData), ds = [plainD c ps, x, y] ∧ noLot x = true ∧ noLot y = true ∧ P = (· = .bool (isPl ps x y))
theorem sc__law_is_place : FnScope (["_law_lot_here", "_law_p", "_law_place"]) (["_law_lot_here", "_law_p", "_law_place"]) (defScope (top 41)) := ⟨rfl, rfl, rfl, by decide +kernel, rfl, by decide +kernel, by decide +kernel⟩
theorem ok__law_is_place (T : Txt K mg C) (F : Df K mg "_law_is_place" (top 41) (["_law_lot_here", "_law_p", "_law_place"])) (G__law_whole : Cal P w K mg base CX0 1 "_law_whole" (["_law_thing"]) (spP C R__law_whole)) : Cal P w K mg base CX0 2 "_law_is_place" (["_law_lot_here", "_law_p", "_law_place"]) (spP C R__law_is_place) := by
  refine F.cal fun f fd F => ?_
  have nd := sc__law_is_place.nd
  refine okP F sc__law_is_place (fun ds P h => by obtain ⟨c, ps, x, y, rfl, _⟩ := h; rfl) fun cdv A outer s H E hr => ⟨_, (pss_cons (ps_if (PW.pt (pw_or (pt_not (pt_val (xcall G__law_whole hr (pa_cons (pv 1) pa_nil)))) (pw_or (pt_cmpR op_lt (pv 1) pe_int (nomark _)) (pw_or1 (pt_cmpR op_ge (pv 1) (pe_callB (xlen K) (by rfl) T.len_ (by decide +kernel) (pa_cons (pe_ix (xix K) (pv 0) pe_int (fun _ _ => rfl)) pa_nil)) (nomark _)))))) (pss_one (ps_ret pe_bl)) pss_nil)
      (pss_one (ps_ret (pe_and (xcall G__law_whole hr (pa_cons (pv 2) pa_nil)) (pe_and (pe_cmpR op_ge (pv 2) pe_int (nomark _)) (pe_one (pe_cmpR op_lt (pv 2) (pe_callB (xlen K) (by rfl) T.len_ (by decide +kernel) (pa_cons (pe_ix (xix K) (pe_ix (xix K) (pv 0) pe_int (fun _ _ => rfl)) (pv 1) (fun _ _ => rfl)) pa_nil)) (nomark _)))))))), fun B σ ds P' Q r S k => ?_⟩
  obtain ⟨c, ps, x, y, rfl, hx, hy, rfl⟩ := r
  have pr : JE C [] [.d (plainD c ps), .d x, .d y] (tOp (rIx K) (tVar 0) (tC (.int 1))) (· = encPs ps) := je_op (je_var rfl) je_int (rd_ix (n := 1) rfl rfl)
  have wh : ∀ {i : Nat} {z : PyData}, noLot z = true → [SV.d (plainD c ps), .d x, .d y][i]? = some (.d z) → JE C [] [.d (plainD c ps), .d x, .d y] (tCall (spP C R__law_whole) [] E0 (tCons (tVar i) tNil)) (· = .bool (isI z)) := fun hz h => je_call (ja_cons (je_var h) ja_nil) ⟨_, rfl, hz, rfl⟩
  cases x with
  | int i =>
    refine s_seq (s_if S (jt_or (jt_not (jt_B (wh hx rfl))) fun _ => jt_or (jt_test (je_op (je_var rfl) je_int rd_lt)) fun _ => jt_test (je_op (je_var rfl) (je_cb (ja_cons pr ja_nil) (cd_len rfl)) rd_ge)) (fun z H S => ?_) fun z H S => s_nx ?_)
    · refine s_retP S je_bl k ?_
      rintro _ rfl
      rw [List.length_map] at z
      have z : i < 0 ∨ (ps.length : Int) ≤ i := by simpa [isI] using z
      simp only [isPl]
      congr 1
      rcases z with z | z
      · rw [decide_eq_false (by omega)]; rfl
      · rw [decide_eq_false (show ¬ i < (ps.length : Int) by omega), Bool.and_false]; rfl
    · rw [List.length_map] at z
      have z : 0 ≤ i ∧ i < (ps.length : Int) := by simpa [isI] using z
      obtain ⟨n, rfl⟩ : ∃ n : Nat, i = (n : Int) := ⟨i.toNat, by omega⟩
      have hn : n < ps.length := by omega
      cases y with
      | int j =>
        refine s_retP S (je_andV (wh hy rfl) fun _ => je_andV (je_op (je_var rfl) je_int rd_ge) fun _ => je_op (je_var rfl) (je_cb (ja_cons (je_op pr (je_var rfl) (rd_ix (n := n) rfl (map_at (get_of_lt [] hn)))) ja_nil) (cd_len rfl)) rd_lt) k ?_
        rintro _ rfl
        simp only [isPl, isWh, isI, Int.toNat_natCast, List.length_map]
        rw [decide_eq_true (show (0 : Int) ≤ n by omega), decide_eq_true (show (n : Int) < (ps.length : Int) by omega), Bool.true_and, Bool.true_and, Bool.true_and]
        congr 2
        rw [Bool.eq_iff_iff, decide_eq_true_eq, decide_eq_true_eq]; omega
      | none => exact s_retP S (je_andV (b := false) (wh hy rfl) fun z => by cases z) k (by rintro _ rfl; simp [isPl, isWh, isI])
      | bool => exact s_retP S (je_andV (b := false) (wh hy rfl) fun z => by cases z) k (by rintro _ rfl; simp [isPl, isWh, isI])
      | str => exact s_retP S (je_andV (b := false) (wh hy rfl) fun z => by cases z) k (by rintro _ rfl; simp [isPl, isWh, isI])
      | list => exact s_retP S (je_andV (b := false) (wh hy rfl) fun z => by cases z) k (by rintro _ rfl; simp [isPl, isWh, isI])
      | tuple => exact s_retP S (je_andV (b := false) (wh hy rfl) fun z => by cases z) k (by rintro _ rfl; simp [isPl, isWh, isI])
      | dict => exact s_retP S (je_andV (b := false) (wh hy rfl) fun z => by cases z) k (by rintro _ rfl; simp [isPl, isWh, isI])
  | none => exact s_seq (s_if S (jt_or (b := true) (jt_not (jt_B (wh hx rfl))) fun z => by cases z) (fun _ H S => s_retP S je_bl k (by rintro _ rfl; rfl)) (fun z => by cases z))
  | bool => exact s_seq (s_if S (jt_or (b := true) (jt_not (jt_B (wh hx rfl))) fun z => by cases z) (fun _ H S => s_retP S je_bl k (by rintro _ rfl; rfl)) (fun z => by cases z))
  | str => exact s_seq (s_if S (jt_or (b := true) (jt_not (jt_B (wh hx rfl))) fun z => by cases z) (fun _ H S => s_retP S je_bl k (by rintro _ rfl; rfl)) (fun z => by cases z))
  | list => exact s_seq (s_if S (jt_or (b := true) (jt_not (jt_B (wh hx rfl))) fun z => by cases z) (fun _ H S => s_retP S je_bl k (by rintro _ rfl; rfl)) (fun z => by cases z))
  | tuple => exact s_seq (s_if S (jt_or (b := true) (jt_not (jt_B (wh hx rfl))) fun z => by cases z) (fun _ H S => s_retP S je_bl k (by rintro _ rfl; rfl)) (fun z => by cases z))
  | dict => exact s_seq (s_if S (jt_or (b := true) (jt_not (jt_B (wh hx rfl))) fun z => by cases z) (fun _ H S => s_retP S je_bl k (by rintro _ rfl; rfl)) (fun z => by cases z))
/-! _law_is_fact -/
def R__law_is_fact : Rel := fun ds P => ∃ (c : Int) (ps : List Prg) (x : PyData), ds = [plainD c ps, x] ∧ x.canLay0 = true ∧ P = (· = .bool (isFact ps x))
theorem sc__law_is_fact : FnScope (["_law_lot_here", "_law_fact"]) (["_law_lot_here", "_law_fact"]) (defScope (top 42)) := ⟨rfl, rfl, rfl, by decide +kernel, rfl, by decide +kernel, by decide +kernel⟩
theorem ok__law_is_fact (T : Txt K mg C) (F : Df K mg "_law_is_fact" (top 42) (["_law_lot_here", "_law_fact"])) (G__law_whole : Cal P w K mg base CX0 1 "_law_whole" (["_law_thing"]) (spP C R__law_whole)) (G__law_is_place : Cal P w K mg base CX0 2 "_law_is_place" (["_law_lot_here", "_law_p", "_law_place"]) (spP C R__law_is_place)) : Cal P w K mg base CX0 3 "_law_is_fact" (["_law_lot_here", "_law_fact"]) (spP C R__law_is_fact) := by
  refine F.cal fun f fd F => ?_
  have nd := sc__law_is_fact.nd
  refine okP F sc__law_is_fact (fun ds P h => by obtain ⟨c, ps, x, rfl, _⟩ := h; rfl) fun cdv A outer s H E hr => ⟨_, (pss_cons (ps_if (PW.pt (pw_or (pt_not (pt_val (pe_callB (xisiT K) (by rfl) T.isinstance_ (by decide +kernel) (pa_cons (pv 1) (pa_cons (pe_tup (pa_cons (pe_bltn (v := .ty "list") (by rfl) T.list_ (by decide +kernel) rfl) (pa_cons (pe_bltn (v := .ty "tuple") (by rfl) T.tuple_ (by decide +kernel) rfl) pa_nil))) pa_nil))))) (pw_or (pt_cmpR op_lt (pe_callB (xlen K) (by rfl) T.len_ (by decide +kernel) (pa_cons (pv 1) pa_nil)) pe_int (nomark _)) (pw_or1 (pt_not (pt_val (pe_callB (xisi K) (by rfl) T.isinstance_ (by decide +kernel) (pa_cons (pe_ix (xix K) (pv 1) pe_int (fun _ _ => rfl)) (pa_cons (pe_bltn (v := .ty "str") (by rfl) T.str_ (by decide +kernel) rfl) pa_nil))))))))) (pss_one (ps_ret pe_bl)) pss_nil)
      (pss_cons (ps_if (PW.pt (pw_or (pt_cmpR (xnin K) (pe_ix (xix K) (pv 1) pe_int (fun _ _ => rfl)) (pe_tup (pa_cons pe_str (pa_cons pe_str (pa_cons pe_str (pa_cons pe_str pa_nil))))) (by rfl)) (pw_or1 (pt_not (pt_val (xcall G__law_is_place hr (pa_cons (pv 0) (pa_cons (pe_ix (xix K) (pv 1) pe_int (fun _ _ => rfl)) (pa_cons (pe_ix (xix K) (pv 1) pe_int (fun _ _ => rfl)) pa_nil))))))))) (pss_one (ps_ret pe_bl)) pss_nil)
      (pss_cons (ps_if (pt_cmpR op_eq (pe_ix (xix K) (pv 1) pe_int (fun _ _ => rfl)) pe_str (nomark _)) (pss_one (ps_ret (pe_and (pe_cmpR op_eq (pe_callB (xlen K) (by rfl) T.len_ (by decide +kernel) (pa_cons (pv 1) pa_nil)) pe_int (nomark _)) (pe_and (xcall G__law_whole hr (pa_cons (pe_ix (xix K) (pv 1) pe_int (fun _ _ => rfl)) pa_nil)) (pe_and (pe_cmpR op_ge (pe_ix (xix K) (pv 1) pe_int (fun _ _ => rfl)) pe_int (nomark _)) (pe_one (pe_cmpR op_le (pe_ix (xix K) (pv 1) pe_int (fun _ _ => rfl)) (pe_ix (xix K) (pv 1) pe_int (fun _ _ => rfl)) (nomark _)))))))) pss_nil)
      (pss_cons (ps_if (pt_cmpR op_eq (pe_ix (xix K) (pv 1) pe_int (fun _ _ => rfl)) pe_str (nomark _)) (pss_cons (ps_if (PW.pt (pw_or (pt_cmpR op_ne (pe_callB (xlen K) (by rfl) T.len_ (by decide +kernel) (pa_cons (pv 1) pa_nil)) pe_int (nomark _)) (pw_or1 (pt_not (pt_val (xcall G__law_is_place hr (pa_cons (pv 0) (pa_cons (pe_ix (xix K) (pv 1) pe_int (fun _ _ => rfl)) (pa_cons (pe_ix (xix K) (pv 1) pe_int (fun _ _ => rfl)) pa_nil))))))))) (pss_one (ps_ret pe_bl)) pss_nil)
      (pss_one (ps_ret (pe_or (pe_cmpR op_lt (pe_ix (xix K) (pv 1) pe_int (fun _ _ => rfl)) (pe_ix (xix K) (pv 1) pe_int (fun _ _ => rfl)) (nomark _)) (pe_one (pe_and (pe_cmpR op_eq (pe_ix (xix K) (pv 1) pe_int (fun _ _ => rfl)) (pe_ix (xix K) (pv 1) pe_int (fun _ _ => rfl)) (nomark _)) (pe_one (pe_cmpR op_lt (pe_ix (xix K) (pv 1) pe_int (fun _ _ => rfl)) (pe_ix (xix K) (pv 1) pe_int (fun _ _ => rfl)) (nomark _))))))))) pss_nil)
      (pss_one (ps_ret (pe_cmpR op_eq (pe_callB (xlen K) (by rfl) T.len_ (by decide +kernel) (pa_cons (pv 1) pa_nil)) pe_int (nomark _)))))))), fun B σ ds P' Q r S k => ?_⟩
  obtain ⟨c, ps, x, rfl, hx, rfl⟩ := r
  have hseq : JT C [] (ρ0 (["_law_lot_here", "_law_fact"]) [plainD c ps, x]) (tNot (tB (tCB (rIsiT K) (tCons (tVar 1) (tCons (tTup (tCons (tC (.ty "list")) (tCons (tC (.ty "tuple")) tNil))) tNil))))) (· = !isSq x) := jt_not (jt_B (je_isiT (je_var rfl) (lay_noLot hx)))
  cases hs : sqD x with
  | none =>
    have e : isSq x = false := by rw [sq_is, hs]; rfl
    rw [e] at hseq
    refine s_seq (s_ifn S (jn_or (R := fun _ => False) (S := (· = true)) hseq (fun z => by cases z) (fun z => by cases z) fun _ => rfl) (fun _ H S => s_retP S je_bl k ?_) (fun z => by cases z))
    rintro _ rfl
    simp only [isFact, hs]
  | some ds =>
    have e : isSq x = true := by rw [sq_is, hs]; rfl
    have lay := lay_sq hx hs
    have isf : isFact ps x = isFactL ps ds := by simp only [isFact, hs]
    rw [isf] at k
    rw [e] at hseq
    have hlen : JT C [] (ρ0 (["_law_lot_here", "_law_fact"]) [plainD c ps, x]) (tTest (tOp (rI0 fun i j => V.bl (decide (i < j))) (tCB (fun xs H Q => ∃ p ys, xs = [.ref p] ∧ (SqL K H p ys ∨ SqT K H p ys) ∧ Q (.int ys.length) H) (tCons (tVar 1) tNil)) (tC (.int 3)))) (· = decide ((ds.length : Int) < 3)) := jt_test (je_op (je_cb (ja_cons (je_var rfl) ja_nil) (cd_len hs)) je_int rd_lt)
    rcases ds with _ | ⟨a, _ | ⟨b, _ | ⟨d, rest⟩⟩⟩
    · exact s_seq (s_if S (jt_or hseq fun _ => jt_or (b := true) hlen fun z => by cases z) (fun _ H S => s_retP S je_bl k (by rintro _ rfl; rfl)) (fun z => by cases z))
    · exact s_seq (s_if S (jt_or hseq fun _ => jt_or (b := true) hlen fun z => by cases z) (fun _ H S => s_retP S je_bl k (by rintro _ rfl; simp [isFactL])) (fun z => by cases z))
    · exact s_seq (s_if S (jt_or hseq fun _ => jt_or (b := true) hlen fun z => by cases z) (fun _ H S => s_retP S je_bl k (by rintro _ rfl; simp [isFactL])) (fun z => by cases z))
    · skip
      have n3 : decide (((a :: b :: d :: rest).length : Int) < 3) = false := decide_eq_false (by simp only [List.length_cons]; omega)
      rw [n3] at hlen
      obtain ⟨bs, hbs, hiff⟩ := kit_str (x := a)
      have ix : ∀ {μ : List MO} {ρ : List SV} {n : Nat} {y : PyData}, ρ[1]? = some (.d x) → (a :: b :: d :: rest)[n]? = some y → JE C μ ρ (tOp (rIx K) (tVar 1) (tC (.int (n : Int)))) (· = y) := fun h1 h2 => je_op (je_var h1) je_int (rd_ix hs h2)
      refine s_seq (s_if S (jt_or hseq fun _ => jt_or hlen fun _ => jt_not (jt_B (je_isi (ix (n := 0) rfl rfl) (lay_noLot (lay a (by simp))) hbs))) (fun z H S => s_retP S je_bl k ?_) fun z H S => s_nx ?_)
      · rintro _ rfl
        have hb : bs = false := by simpa using z
        subst hb
        congr 1
        unfold isFactL
        split
        · rename_i w x' y' r' he
          cases he
          exact absurd (hiff.mpr ⟨w, rfl⟩) (by simp)
        · rfl
      · have hb : bs = true := by simpa using z
        obtain ⟨w, rfl⟩ := hiff.mp hb
        simp only [isFactL] at k
        refine s_seq (s_if S (jt_or (jt_test (je_op (ix (n := 0) rfl rfl) ((je_tup (ja_cons je_str (ja_cons je_str (ja_cons je_str (ja_cons je_str ja_nil))))).eq (y := .tuple ((["without", "kept", "adds", "same"] : List Str).map .str)) rfl) rd_inS)) fun _ => jt_not (jt_B (je_call (ja_cons (je_var rfl) (ja_cons (ix (n := 1) rfl rfl) (ja_cons (ix (n := 2) rfl rfl) ja_nil))) ⟨c, ps, b, d, rfl, lay_noLot (lay b (by simp)), lay_noLot (lay d (by simp)), rfl⟩))) (fun z H S => s_retP S je_bl k ?_) fun z H S => s_nx ?_)
        · rintro _ rfl
          cases hp : isPl ps b d with
          | false => rfl
          | true =>
            have z : ¬ (w = "without" ∨ w = "kept" ∨ w = "adds" ∨ w = "same") := by simpa [hp] using z
            rw [if_neg (fun e => z (.inl e)), if_neg (fun e => z (.inr (e.elim .inl fun e => .inr (.inl e)))), if_neg (fun e => z (.inr (.inr (.inr e))))]; rfl
        have z : (¬ w = "without" → ¬ w = "kept" → ¬ w = "adds" → w = "same") ∧ isPl ps b d = true := by simpa using z
        have z : (w = "without" ∨ w = "kept" ∨ w = "adds" ∨ w = "same") ∧ isPl ps b d = true := ⟨by
          by_cases q1 : w = "without"
          · exact .inl q1
          by_cases q2 : w = "kept"
          · exact .inr (.inl q2)
          by_cases q3 : w = "adds"
          · exact .inr (.inr (.inl q3))
          exact .inr (.inr (.inr (z.1 q1 q2 q3))), z.2⟩
        obtain ⟨hw4, hp⟩ := z
        obtain ⟨pb, pd, rfl, rfl, _⟩ := isPl_nats hp
        rw [hp] at k
        have lens : ∀ {μ : List MO} {ρ : List SV}, ρ[1]? = some (.d x) → JE C μ ρ (tCB (fun xs H Q => ∃ p ys, xs = [.ref p] ∧ (SqL K H p ys ∨ SqT K H p ys) ∧ Q (.int ys.length) H) (tCons (tVar 1) tNil)) (· = .int ((rest.length + 3 : Nat) : Int)) := fun h1 => je_cb (ja_cons (je_var h1) ja_nil) (cd_len hs)
        refine s_seq (s_if S (jt_test (je_op (ix (n := 0) rfl rfl) je_str rd_eqS)) (fun z H S => ?_) fun z H S => s_nx ?_)
        · have ew := of_decide_eq_true z
          subst ew
          simp only [if_true, Bool.true_and] at k
          rcases rest with _ | ⟨y, _ | ⟨y2, r3⟩⟩
          · exact s_retP S (je_andV (b := false) (je_op (lens rfl) je_int rd_eqI) fun z => by cases z) k (by rintro _ rfl; rfl)
          · have wh := fun (ρ : List SV) (h : ρ[1]? = some (.d x)) => je_call (C := C) (μ := []) (ρ := ρ) (R := R__law_whole) (E := E0) (ja_cons (ix (n := 3) h rfl) ja_nil) ⟨y, rfl, lay_noLot (lay y (by simp)), rfl⟩
            cases y with
            | int j =>
              refine s_retP S (je_andV (je_op (lens rfl) je_int rd_eqI) fun _ => je_andV (wh _ rfl) fun _ => je_andV (je_op (ix (n := 3) rfl rfl) je_int rd_ge) fun _ => je_op (ix (n := 3) rfl rfl) (ix (n := 2) rfl rfl) rd_le) k ?_
              rintro _ rfl
              rfl
            | none => exact s_retP S (je_andV (b := false) (je_op (lens rfl) je_int rd_eqI) fun _ => je_andV (b := false) (wh _ rfl) fun z => by cases z) k (by rintro _ rfl; rfl)
            | bool => exact s_retP S (je_andV (b := false) (je_op (lens rfl) je_int rd_eqI) fun _ => je_andV (b := false) (wh _ rfl) fun z => by cases z) k (by rintro _ rfl; rfl)
            | str => exact s_retP S (je_andV (b := false) (je_op (lens rfl) je_int rd_eqI) fun _ => je_andV (b := false) (wh _ rfl) fun z => by cases z) k (by rintro _ rfl; rfl)
            | list => exact s_retP S (je_andV (b := false) (je_op (lens rfl) je_int rd_eqI) fun _ => je_andV (b := false) (wh _ rfl) fun z => by cases z) k (by rintro _ rfl; rfl)
            | tuple => exact s_retP S (je_andV (b := false) (je_op (lens rfl) je_int rd_eqI) fun _ => je_andV (b := false) (wh _ rfl) fun z => by cases z) k (by rintro _ rfl; rfl)
            | dict => exact s_retP S (je_andV (b := false) (je_op (lens rfl) je_int rd_eqI) fun _ => je_andV (b := false) (wh _ rfl) fun z => by cases z) k (by rintro _ rfl; rfl)
          · refine s_retP S (je_andV (b := false) (je_op (lens rfl) je_int rd_eqI) fun z => ?_) k ?_
            · have := of_decide_eq_true z; simp only [List.length_cons] at this; omega
            · rintro _ rfl
              rw [Bool.and_false]
        have nw := of_decide_eq_false z
        rw [if_neg nw] at k
        refine s_seq (s_if S (jt_test (je_op (ix (n := 0) rfl rfl) je_str rd_eqS)) (fun z H S => ?_) fun z H S => s_nx ?_)
        · have es := of_decide_eq_true z
          subst es
          rw [if_neg (fun e : ("same" : Str) = "kept" ∨ ("same" : Str) = "adds" => e.elim w_sk w_sa)] at k
          simp only [if_true, Bool.true_and] at k
          rcases rest with _ | ⟨y1, _ | ⟨y2, _ | ⟨y3, r4⟩⟩⟩
          · exact s_seq (s_if S (jt_or (b := true) (jt_test (je_op (lens rfl) je_int rd_neI)) fun z => by cases z) (fun _ H S => s_retP S je_bl k (by rintro _ rfl; rfl)) (fun z => by cases z))
          · exact s_seq (s_if S (jt_or (b := true) (jt_test (je_op (lens rfl) je_int rd_neI)) fun z => by cases z) (fun _ H S => s_retP S je_bl k (by rintro _ rfl; rfl)) (fun z => by cases z))
          · refine s_seq (s_if S (jt_or (jt_test (je_op (lens rfl) je_int rd_neI)) fun _ => jt_not (jt_B (je_call (ja_cons (je_var rfl) (ja_cons (ix (n := 3) rfl rfl) (ja_cons (ix (n := 4) rfl rfl) ja_nil))) ⟨c, ps, y1, y2, rfl, lay_noLot (lay y1 (by simp)), lay_noLot (lay y2 (by simp)), rfl⟩))) (fun z H S => s_retP S je_bl k ?_) fun z H S => s_nx ?_)
            · rintro _ rfl
              have hp2 : isPl ps y1 y2 = false := by simpa using z
              dsimp only
              rw [hp2]; rfl
            · have hp2 : isPl ps y1 y2 = true := by simpa using z
              obtain ⟨qb, qd, rfl, rfl, _⟩ := isPl_nats hp2
              refine s_retP S (je_orV (je_op (ix (n := 1) rfl rfl) (ix (n := 3) rfl rfl) rd_lt) fun _ => je_andV (je_op (ix (n := 1) rfl rfl) (ix (n := 3) rfl rfl) rd_eqI) fun _ => je_op (ix (n := 2) rfl rfl) (ix (n := 4) rfl rfl) rd_lt) k ?_
              rintro _ rfl
              dsimp only
              rw [hp2]
              simp only [ltP, lex_nat, Bool.true_and]
              congr 1
              rw [Bool.eq_iff_iff]
              simp only [Bool.or_eq_true, Bool.and_eq_true, decide_eq_true_eq]
              omega
          · have h5 : (!decide (((((y1 :: y2 :: y3 :: r4).length + 3 : Nat)) : Int) = 5)) = true := by simp; omega
            exact s_seq (s_if S (jt_or (b := true) ((jt_test (je_op (lens rfl) je_int rd_neI)).eq h5) fun z => by cases z) (fun _ H S => s_retP S je_bl k (by rintro _ rfl; rfl)) (fun z => by cases z))
        · have es := of_decide_eq_false z
          have ew : w = "kept" ∨ w = "adds" := by
            rcases hw4 with e | e | e | e
            · exact absurd e nw
            · exact .inl e
            · exact .inr e
            · exact absurd e es
          rw [if_pos ew] at k
          refine s_retP S (je_op (lens rfl) je_int rd_eqI) k ?_
          rintro _ rfl
          congr 1
          cases rest with
          | nil => rfl
          | cons y r => simp; omega
end
end KG
namespace KG
open PySem PySem.Spec L2
section
variable {P : Program} {w : World} {K : PySem.W.Frag} {mg : Str → Option Value} {base : Heap} {C : Addr}
/-! _law_floor -/
def R__law_floor : Rel := fun ds P => ∃ c ps, ds = [plainD c ps] ∧ LotOk c ps ∧ P = (· = plainD c (floorL ps))
theorem sc__law_floor : FnScope (["_law_lot_here", "_law_told", "_law_name", "_law_program", "_law_steps_here", "_law_place"]) (["_law_lot_here"]) (defScope (top 40)) := ⟨rfl, rfl, rfl, by decide +kernel, rfl, by decide +kernel, by decide +kernel⟩
theorem ok__law_floor (T : Txt K mg C) (F : Df K mg "_law_floor" (top 40) (["_law_lot_here"])) : Cal P w K mg base CX0 1 "_law_floor" (["_law_lot_here"]) (spP C R__law_floor) := by
  refine F.cal fun f fd F => ?_
  have nd := sc__law_floor.nd
  refine okP F sc__law_floor (fun ds P h => by obtain ⟨c, x, rfl, _⟩ := h; rfl) fun cdv A outer s H E hr => ⟨_, (pss_cons (xset 1 nd (pe_lst pa_nil))
      (pss_cons (xset 2 nd pe_int)
      (pss_cons (ps_for PassesOwn.never rfl (xseq K (h := (pe_ix (xix K) (pv 0) pe_int (fun _ _ => rfl)))) (pg_name (i := 3) nd rfl (by first | exact Or.inl rfl | exact Or.inr rfl)) (pss_cons (xset 4 nd (pe_lst pa_nil))
      (pss_cons (ps_for PassesOwn.never rfl (pi_range1 (by rfl) T.range_ (pa_cons (pe_callB (xlen K) (by rfl) T.len_ (by decide +kernel) (pa_cons (pv 3) pa_nil)) pa_nil)) (pg_name (i := 5) nd rfl (by first | exact Or.inl rfl | exact Or.inr rfl)) (pss_cons (ps_expr (pe_bm PySem.F.plainAttrs_list PySem.F.slot_list_append PySem.F.type_list_append mt_append (pv 4) (pa_cons (pe_tup (pa_cons (pe_ix (xix K) (pe_ix (xix K) (pv 3) (pv 5) (fun _ _ => rfl)) pe_int (fun _ _ => rfl)) (pa_cons pe_str (pa_cons (pe_tupRg rfl (by rfl) T.tuple_ (prg_1 (by rfl) T.range_ (pe_op op_add (pv 5) pe_int))) (pa_cons (pv 2) pa_nil))))) pa_nil)))
      (pss_one (xset 2 nd (pe_op op_add (pv 2) pe_int)))))
      (pss_one (ps_expr (pe_bm PySem.F.plainAttrs_list PySem.F.slot_list_append PySem.F.type_list_append mt_append (pv 1) (pa_cons (pe_callTy (xtuple K) (by rfl) T.tuple_ (by decide +kernel) (pa_cons (pv 4) pa_nil)) pa_nil)))))))
      (pss_one (ps_ret (pe_tup (pa_cons (pe_ix (xix K) (pv 0) pe_int (fun _ _ => rfl)) (pa_cons (pe_callTy (xtuple K) (by rfl) T.tuple_ (by decide +kernel) (pa_cons (pv 1) pa_nil)) pa_nil)))))))), fun B σ ds P' Q r S k => ?_⟩
  obtain ⟨c, ps, rfl, L, rfl⟩ := r
  have hl3 := L.len.2
  have htot := L.total
  have hl4 : ∀ p ∈ ps, p.length ≤ 4 := fun p hp => (L.pr p hp).len.2
  refine s_seq (s_new S rfl fun pt σ H hpt S => ?_)
  refine s_seq (s_asg1 S je_int fun σ H S => ?_)
  refine s_seq (s_forS (fun j μ ρ => μ = [.lst ((remL flS 0 (ps.take j)).map encP)] ∧ ρ = [.d (plainD c ps), .m 0, .d (.int ((((ps.take j).map List.length).sum : Nat) : Int)), .un, .un, .un]) S (je_op (je_var rfl) je_int (rd_ix (n := 1) rfl rfl)) rfl (fun d _ => jg_name) ⟨rfl, rfl⟩ ?_ ?_)
  · rintro j d hd v μ' ρ' σ' H' ⟨rfl, rfl⟩ S
    obtain ⟨p, hp, rfl⟩ := map_get hd
    have hp4 := hl4 p (List.mem_of_getElem? hp)
    have hj : j < ps.length := (List.getElem?_eq_some_iff.mp hp).1
    refine s_seq (s_new S rfl fun pst σ H hpst S => ?_)
    refine s_seq (s_forR (n := p.length) (fun k μ ρ => μ = [.lst ((remL flS 0 (ps.take j)).map encP), .lst (((remP flS ((ps.take j).map List.length).sum p).take k).map enc)] ∧ ρ = [.d (plainD c ps), .m 0, .d (.int ((((ps.take j).map List.length).sum + k : Nat) : Int)), .d (encP p), .m 1, .un]) S (ja_cons ((je_cb (ja_cons (je_var rfl) ja_nil) (cd_len rfl)).eq (by rw [List.length_map])) ja_nil) (by omega) ⟨rfl, rfl⟩ ?_ ?_)
    · rintro m hm μ' ρ' σ' H' ⟨rfl, rfl⟩ S
      obtain ⟨st, hst⟩ : ∃ st, p[m]? = some st := ⟨_, List.getElem?_eq_getElem hm⟩
      refine s_seq (s_app S rfl rfl ((je_tup (ja_cons (je_op (je_op (je_var rfl) (je_var rfl) (rd_ix (n := m) rfl (map_at hst))) je_int (rd_ix (n := 0) rfl rfl)) (ja_cons je_str (ja_cons (je_tupRg (n := m + 1) (je_op (je_var rfl) je_int rd_add) (by omega)) (ja_cons (je_var rfl) ja_nil))))).eq (y := enc (flS (((ps.take j).map List.length).sum + m) m st)) rfl) (by rw [List.length_map, List.length_take, remP_len]; omega) ?_)
      rintro _ H rfl S
      refine s_asg1 S ((je_op (je_var rfl) je_int rd_add).eq (y := .int ((((ps.take j).map List.length).sum + (m + 1) : Nat) : Int)) (by congr 1)) fun σ H S => ⟨_, _, ⟨?_, rfl⟩, S.forget (i := 5)⟩
      rw [remP_take hst, List.map_append]; rfl
    · rintro μ' ρ' σ' H' ⟨rfl, rfl⟩ S
      refine s_app S rfl rfl (je_tuplem rfl rfl) (by rw [List.length_map]; have := sizes_len (remL_sizes flS 0 (ps.take j)); rw [this, List.length_take]; omega) ?_
      rintro _ H rfl S
      obtain ⟨S2, _, _⟩ := Sat.pop' (fv := [pt]) (μ := [_]) (p := pst) ((S.forget (i := 4)).forget (i := 3)) rfl (by simp) (by simp) (by simp)
      refine ⟨_, _, ?_, S2⟩
      have e : (remP flS ((ps.take j).map List.length).sum p).take p.length = remP flS ((ps.take j).map List.length).sum p := List.take_of_length_le (by rw [remP_len]; exact Nat.le_refl _)
      have e2 : (((ps.take j) ++ [p]).map List.length).sum = ((ps.take j).map List.length).sum + p.length := by rw [List.map_append, List.sum_append]; simp
      rw [take_snoc hp, remL_snoc, List.map_append, Nat.zero_add, e, e2]
      exact ⟨rfl, rfl⟩
  · rintro μ' ρ' σ' H' ⟨rfl, rfl⟩ S
    rw [List.length_map, List.take_length] at S
    refine s_retP S (je_tup (ja_cons (je_op (je_var rfl) je_int (rd_ix (n := 0) rfl rfl)) (ja_cons (je_tuplem rfl rfl) ja_nil))) k ?_
    rintro _ rfl
    rfl
/-! _law_clash -/
def R__law_clash : Rel := fun ds P => ∃ (s : Stp) (k : Nat) (x : PyData) (f : Fct), ds = [enc s, .int (k : Int), x] ∧ sqD x = some (encF f) ∧ f.isSame = false ∧ P = (· = .bool (clash s k f))
theorem sc__law_clash : FnScope (["_law_step", "_law_place", "_law_fact"]) (["_law_step", "_law_place", "_law_fact"]) (defScope (top 44)) := ⟨rfl, rfl, rfl, by decide +kernel, rfl, by decide +kernel, by decide +kernel⟩
theorem kd_in (k : Kd) : decide (k.s ∈ (["kept", "adds"] : List Str)) = !decide (k = .any) := by
  cases k <;> decide +kernel
theorem ok__law_clash (T : Txt K mg C) (F : Df K mg "_law_clash" (top 44) (["_law_step", "_law_place", "_law_fact"])) : Cal P w K mg base CX0 1 "_law_clash" (["_law_step", "_law_place", "_law_fact"]) (spP C R__law_clash) := by
  refine F.cal fun f fd F => ?_
  have nd := sc__law_clash.nd
  refine okP F sc__law_clash (fun ds P h => by obtain ⟨s, k, x, f, rfl, _⟩ := h; rfl) fun cdv A outer s H E hr => ⟨_, (pss_cons (ps_if (pt_cmpR op_eq (pe_ix (xix K) (pv 2) pe_int (fun _ _ => rfl)) pe_str (nomark _)) (pss_one (ps_ret (pe_and (pe_cmpR op_eq (pe_ix (xix K) (pv 2) pe_int (fun _ _ => rfl)) (pv 1) (nomark _)) (pe_one (pe_cmpR (xin K) (pe_ix (xix K) (pv 0) pe_int (fun _ _ => rfl)) (pe_tup (pa_cons pe_str (pa_cons pe_str pa_nil))) (by rfl)))))) pss_nil)
      (pss_cons (ps_if (pt_cmpR op_eq (pe_ix (xix K) (pv 2) pe_int (fun _ _ => rfl)) pe_str (nomark _)) (pss_one (ps_ret (pe_or (pe_cmpR op_eq (pe_ix (xix K) (pv 0) pe_int (fun _ _ => rfl)) pe_str (nomark _)) (pe_one (pe_and (pe_cmpR op_eq (pe_ix (xix K) (pv 0) pe_int (fun _ _ => rfl)) pe_str (nomark _)) (pe_one (pe_cmpR (xnin K) (pv 1) (pe_ix (xix K) (pv 0) pe_int (fun _ _ => rfl)) (by rfl)))))))) pss_nil)
      (pss_one (ps_ret (pe_or (pe_cmpR op_eq (pe_ix (xix K) (pv 0) pe_int (fun _ _ => rfl)) pe_str (nomark _)) (pe_one (pe_and (pe_cmpR op_eq (pe_ix (xix K) (pv 0) pe_int (fun _ _ => rfl)) pe_str (nomark _)) (pe_one (pe_cmpR (xnin K) (pv 1) (pe_ix (xix K) (pv 0) pe_int (fun _ _ => rfl)) (by rfl)))))))))), fun B σ ds P' Q r S k => ?_⟩
  obtain ⟨s, pl, x, f, rfl, hx, hf, rfl⟩ := r
  have kd : ∀ {ρ : List SV}, ρ[0]? = some (.d (enc s)) → JE C [] ρ (tOp (rIx K) (tVar 0) (tC (.int 1))) (· = .str s.k.s) := fun h => je_op (je_var h) je_int (rd_ix (n := 1) rfl rfl)
  have ix : ∀ {μ : List MO} {ρ : List SV} {n : Nat} {y : PyData}, ρ[2]? = some (.d x) → (encF f)[n]? = some y → JE C μ ρ (tOp (rIx K) (tVar 2) (tC (.int (n : Int)))) (· = y) := fun h1 h2 => je_op (je_var h1) je_int (rd_ix hx h2)
  have nin : ∀ {ρ : List SV}, ρ[0]? = some (.d (enc s)) → ρ[1]? = some (.d (.int (pl : Int))) → JE C [] ρ (tOp (rIn K true) (tVar 1) (tOp (rIx K) (tVar 0) (tC (.int 2)))) (· = .bool (!decide ((pl : Int) ∈ s.b))) := fun h h1 => je_op (je_var h1) (je_op (je_var h) je_int (rd_ix (n := 2) rfl rfl)) rd_inI
  cases f with
  | without p j q =>
    refine s_seq (s_if (b := true) S (jt_test (je_op (ix (n := 0) rfl rfl) je_str rd_eqS)) (fun _ H S => ?_) (fun z => by cases z))
    refine s_retP S (je_andV (je_op (ix (n := 3) rfl rfl) (je_var rfl) rd_eqI) fun _ => je_op (kd rfl) ((je_tup (ja_cons je_str (ja_cons je_str ja_nil))).eq (y := .tuple ((["kept", "adds"] : List Str).map .str)) rfl) rd_inS) k ?_
    rintro _ rfl
    simp only [clash, dnat, Bool.false_eq_true, if_false, kd_in, Bool.and_comm]
  | kept p j =>
    refine s_seq (s_if (b := false) S (jt_test (je_op (ix (n := 0) rfl rfl) je_str rd_eqS)) (fun z => by cases z) fun _ H S => s_nx ?_)
    refine s_seq (s_if (b := true) S (jt_test (je_op (ix (n := 0) rfl rfl) je_str rd_eqS)) (fun _ H S => ?_) (fun z => by cases z))
    refine s_retP S (je_orV (je_op (kd rfl) je_str rd_eqS) fun _ => je_andV (je_op (kd rfl) je_str rd_eqS) fun _ => nin rfl rfl) k ?_
    rintro _ rfl
    rw [kd_any, kd_adds]
    simp only [clash]
    cases hk : s.k <;> rfl
  | adds p j =>
    refine s_seq (s_if (b := false) S (jt_test (je_op (ix (n := 0) rfl rfl) je_str rd_eqS)) (fun z => by cases z) fun _ H S => s_nx ?_)
    refine s_seq (s_if (b := false) S (jt_test (je_op (ix (n := 0) rfl rfl) je_str rd_eqS)) (fun z => by cases z) fun _ H S => s_nx ?_)
    refine s_retP S (je_orV (je_op (kd rfl) je_str rd_eqS) fun _ => je_andV (je_op (kd rfl) je_str rd_eqS) fun _ => nin rfl rfl) k ?_
    rintro _ rfl
    rw [kd_any, kd_kept]
    simp only [clash]
    cases hk : s.k <;> rfl
  | same => cases hf
/-! _law_taken_in -/
def R__law_taken_in : Rel := fun ds P => ∃ (p : Prg) (x : PyData) (f : Fct), ds = [encP p, x] ∧ p.length ≤ 100 ∧ (∀ s ∈ p, s.b.length ≤ 100) ∧ sqD x = some (encF f) ∧ f.isSame = false ∧ P = (· = encP (taken p f))
theorem sc__law_taken_in : FnScope (["_law_steps_here", "_law_fact", "_law_told", "_law_place", "_law_cell", "_law_kind", "_law_by", "_law_name", "_law_left", "_law_k"]) (["_law_steps_here", "_law_fact"]) (defScope (top 45)) := ⟨rfl, rfl, rfl, by decide +kernel, rfl, by decide +kernel, by decide +kernel⟩
theorem ok__law_taken_in (T : Txt K mg C) (F : Df K mg "_law_taken_in" (top 45) (["_law_steps_here", "_law_fact"])) : Cal P w K mg base CX0 1 "_law_taken_in" (["_law_steps_here", "_law_fact"]) (spP C R__law_taken_in) := by
  refine F.cal fun f fd F => ?_
  have nd := sc__law_taken_in.nd
  refine okP F sc__law_taken_in (fun ds P h => by obtain ⟨p, x, f, rfl, _⟩ := h; rfl) fun cdv A outer s H E hr => ⟨_, (pss_cons (xset 2 nd (pe_lst pa_nil))
      (pss_cons (ps_for PassesOwn.never rfl (pi_range1 (by rfl) T.range_ (pa_cons (pe_callB (xlen K) (by rfl) T.len_ (by decide +kernel) (pa_cons (pv 0) pa_nil)) pa_nil)) (pg_name (i := 3) nd rfl (by first | exact Or.inl rfl | exact Or.inr rfl)) (pss_cons (ps_asg (pe_ix (xix K) (pv 0) (pv 3) (fun _ _ => rfl)) (pg_tup rfl (pgs_cons (pg_name (i := 4) nd rfl (by first | exact Or.inl rfl | exact Or.inr rfl)) (pgs_cons (pg_name (i := 5) nd rfl (by first | exact Or.inl rfl | exact Or.inr rfl)) (pgs_cons (pg_name (i := 6) nd rfl (by first | exact Or.inl rfl | exact Or.inr rfl)) (pgs_cons (pg_name (i := 7) nd rfl (by first | exact Or.inl rfl | exact Or.inr rfl)) pgs_nil))))))
      (pss_one (ps_if (PW.pt (pw_and (pt_cmpR op_eq (pe_ix (xix K) (pv 1) pe_int (fun _ _ => rfl)) pe_str (nomark _)) (pw_and1 (pt_cmpR op_eq (pv 3) (pe_ix (xix K) (pv 1) pe_int (fun _ _ => rfl)) (nomark _))))) (pss_one (ps_expr (pe_bm PySem.F.plainAttrs_list PySem.F.slot_list_append PySem.F.type_list_append mt_append (pv 2) (pa_cons (pe_tup (pa_cons (pv 4) (pa_cons pe_str (pa_cons (pe_tup pa_nil) (pa_cons (pe_un un_neg pe_int) pa_nil))))) pa_nil)))) (pss_one (ps_if (pt_cmpR op_eq (pe_ix (xix K) (pv 1) pe_int (fun _ _ => rfl)) pe_str (nomark _)) (pss_cons (xset 8 nd (pe_callTy (xtuple K) (by rfl) T.tuple_ (by decide +kernel) (pa_cons (pe_lc (own := [("_law_k", 9)]) (g := gName 9) rfl nd (xseq K (h := (pv 6))) (blkOk_by (N := ["_law_steps_here", "_law_fact", "_law_told", "_law_place", "_law_cell", "_law_kind", "_law_by", "_law_name", "_law_left", "_law_k"]) (sc := (defScope (top 45))) (by decide +kernel)) (fun _ _ _ _ _ => pg_name (i := 9) nd rfl (Or.inl rfl)) (fun _ _ _ _ _ => pts_one (pt_cmpR op_ne (pv 9) (pe_ix (xix K) (pv 1) pe_int (fun _ _ => rfl)) (nomark _))) (fun _ _ _ _ _ => (pv 9))) pa_nil)))
      (pss_one (ps_expr (pe_bm PySem.F.plainAttrs_list PySem.F.slot_list_append PySem.F.type_list_append mt_append (pv 2) (pa_cons (pe_tup (pa_cons (pv 4) (pa_cons (pe_ifExp (pt_cmpR op_eq (pv 3) (pe_ix (xix K) (pv 1) pe_int (fun _ _ => rfl)) (nomark _)) pe_str (pv 5)) (pa_cons (pv 8) (pa_cons (pv 7) pa_nil))))) pa_nil))))) (pss_one (ps_if (PW.pt (pw_and (pt_cmpR op_eq (pe_ix (xix K) (pv 1) pe_int (fun _ _ => rfl)) pe_str (nomark _)) (pw_and1 (pt_cmpR op_eq (pv 3) (pe_ix (xix K) (pv 1) pe_int (fun _ _ => rfl)) (nomark _))))) (pss_one (ps_expr (pe_bm PySem.F.plainAttrs_list PySem.F.slot_list_append PySem.F.type_list_append mt_append (pv 2) (pa_cons (pe_tup (pa_cons (pv 4) (pa_cons (pv 5) (pa_cons (pe_callTy (xtuple K) (by rfl) T.tuple_ (by decide +kernel) (pa_cons (pe_lc (own := [("_law_k", 9)]) (g := gName 9) rfl nd (xseq K (h := (pv 6))) (blkOk_by (N := ["_law_steps_here", "_law_fact", "_law_told", "_law_place", "_law_cell", "_law_kind", "_law_by", "_law_name", "_law_left", "_law_k"]) (sc := (defScope (top 45))) (by decide +kernel)) (fun _ _ _ _ _ => pg_name (i := 9) nd rfl (Or.inl rfl)) (fun _ _ _ _ _ => pts_one (pt_cmpR op_ne (pv 9) (pe_ix (xix K) (pv 1) pe_int (fun _ _ => rfl)) (nomark _))) (fun _ _ _ _ _ => (pv 9))) pa_nil)) (pa_cons (pv 7) pa_nil))))) pa_nil)))) (pss_one (ps_expr (pe_bm PySem.F.plainAttrs_list PySem.F.slot_list_append PySem.F.type_list_append mt_append (pv 2) (pa_cons (pe_ix (xix K) (pv 0) (pv 3) (fun _ _ => rfl)) pa_nil))))))))))))
      (pss_one (ps_ret (pe_callTy (xtuple K) (by rfl) T.tuple_ (by decide +kernel) (pa_cons (pv 2) pa_nil)))))), fun B σ ds P' Q r S k => ?_⟩
  obtain ⟨p, x, f, rfl, hp, hps, hx, hf, rfl⟩ := r
  have ix : ∀ {μ : List MO} {ρ : List SV} {n : Nat} {y : PyData}, ρ[1]? = some (.d x) → (encF f)[n]? = some y → JE C μ ρ (tOp (rIx K) (tVar 1) (tC (.int (n : Int)))) (· = y) := fun h1 h2 => je_op (je_var h1) je_int (rd_ix hx h2)
  refine s_seq (s_new S rfl fun pt σ H hpt S => ?_)
  refine s_seq (s_forR (n := p.length) (fun j μ ρ => μ = [.lst (((taken p f).take j).map enc)] ∧ ∃ a3 a4 a5 a6 a7 a8, ρ = [.d (encP p), .d x, .m 0, a3, a4, a5, a6, a7, a8, .un]) S (ja_cons ((je_cb (ja_cons (je_var rfl) ja_nil) (cd_len rfl)).eq (by rw [List.length_map])) ja_nil) (by omega) ⟨rfl, _, _, _, _, _, _, rfl⟩ ?_ ?_)
  · rintro j hj μ' ρ' σ' H' ⟨rfl, a3, a4, a5, a6, a7, a8, rfl⟩ S
    obtain ⟨st, hst⟩ : ∃ st, p[j]? = some st := ⟨_, List.getElem?_eq_getElem hj⟩
    have hb := hps st (List.mem_of_getElem? hst)
    have fin : ∀ {te : TE} {a8 : SV} {σ : L2.St} {H : Hp} {fr : Frm}, Sat C fr [.lst (((taken p f).take j).map enc)] [.d (encP p), .d x, .m 0, .d (.int (j : Int)), .d (.int st.c), .d (.str st.k.s), .d (.tuple (st.b.map .int)), .d (.int st.n), a8, .un] σ H → JE C [.lst (((taken p f).take j).map enc)] [.d (encP p), .d x, .m 0, .d (.int (j : Int)), .d (.int st.c), .d (.str st.k.s), .d (.tuple (st.b.map .int)), .d (.int st.n), a8, .un] te (· = enc (chg st j f)) → ∀ {nx : L2.St → Hp → Prop} {rt : VK} {bk ct : L2.St → Hp → Prop},
        (∀ σ H, Sat C fr [.lst (((taken p f).take (j + 1)).map enc)] [.d (encP p), .d x, .m 0, .d (.int (j : Int)), .d (.int st.c), .d (.str st.k.s), .d (.tuple (st.b.map .int)), .d (.int st.n), a8, .un] σ H → nx σ H) →
        tDrop (tBM K "list" rAppend (tVar 2) (tCons te tNil)) ⟨nx, rt, bk, ct⟩ σ H := fun {te a8 σ H fr} S h {nx rt bk ct} kk => by
      refine s_app S rfl rfl h (by rw [List.length_map, List.length_take, taken_len]; omega) ?_
      rintro _ H rfl S
      refine kk _ _ ?_
      rw [take_snoc (taken_get hst), List.map_append]
      exact S
    have drp : ∀ {μ : List MO} {ρ : List SV} {tq : TE} {q : Int}, ρ[6]? = some (.d (.tuple (st.b.map .int))) → (∀ z : Int, JE C μ (ρ.set 9 (.d (.int z))) tq (· = .int q)) → (∀ z, (ρ.set 9 (.d (.int z)))[9]? = some (.d (.int z))) →
        JE C μ ρ (tCB (fun xs H Q => ∃ p ys, xs = [.ref p] ∧ ((SqL K H p ys ∧ ∀ l, H l = none → Q (.ref l) (upd H l (.tup ys))) ∨ (SqT K H p ys ∧ Q (.ref p) H))) (tCons (tLc (iSeq K (tVar 6)) (gName 9) (tTest (tOp rNe (tVar 9) tq)) (tVar 9) [9]) tNil)) (· = .tuple ((dropQ st.b q).map .int)) := fun {μ ρ tq q} h hq h7 => by
      refine je_cb (ja_cons ((je_lcS (notQ q) (fun d => d) (je_var h) rfl (by rw [List.length_map]; omega) (fun d hd => ?_) (fun d hd _ => ?_)).eq (y := .list ((dropQ st.b q).map .int)) (by rw [outs_drop])) ja_nil) (cd_tuple rfl)
      · obtain ⟨z, _, rfl⟩ := List.mem_map.mp hd
        exact jt_test (je_op (je_var (h7 z)) (hq z) rd_neI)
      · obtain ⟨z, _, rfl⟩ := List.mem_map.mp hd
        exact je_var (h7 z)
    refine s_seq (s_asgG S (je_op (je_var rfl) (je_var rfl) (rd_ix (n := j) rfl (map_at hst))) (jg_tup4 (a := .int st.c) (b := .str st.k.s) (c := .tuple (st.b.map .int)) (d := .int st.n)) fun σ H S => ?_)
    cases f with
    | without p0 j0 q0 =>
      refine s_if (b := false) S (jt_and (a := false) (b := false) (jt_test (je_op (ix (n := 0) rfl rfl) je_str rd_eqS)) fun z => by cases z) (fun z => by cases z) fun _ H S => ?_
      refine s_if (b := false) S (jt_test (je_op (ix (n := 0) rfl rfl) je_str rd_eqS)) (fun z => by cases z) fun _ H S => ?_
      refine s_if (b := decide (j = j0)) S ((jt_and (jt_test (je_op (ix (n := 0) rfl rfl) je_str rd_eqS)) fun _ => jt_test (je_op (je_var rfl) (ix (n := 2) rfl rfl) rd_eqI)).eq (by rw [dnat]; rfl)) (fun z H S => ?_) fun z H S => ?_
      · refine fin S ((je_tup (ja_cons (je_var rfl) (ja_cons (je_var rfl) (ja_cons (drp rfl (fun z => ix (n := 3) rfl rfl) fun z => rfl) (ja_cons (je_var rfl) ja_nil))))).eq ?_) fun σ H S => ⟨_, _, ⟨rfl, _, _, _, _, _, _, rfl⟩, S⟩
        simp only [chg, if_pos (of_decide_eq_true z)]; rfl
      · refine fin S ((je_op (je_var rfl) (je_var rfl) (rd_ix (n := j) rfl (map_at hst))).eq ?_) fun σ H S => ⟨_, _, ⟨rfl, _, _, _, _, _, _, rfl⟩, S⟩
        simp only [chg, if_neg (of_decide_eq_false z)]
    | kept p0 j0 =>
      refine s_if (b := decide (j = j0)) S ((jt_and (jt_test (je_op (ix (n := 0) rfl rfl) je_str rd_eqS)) fun _ => jt_test (je_op (je_var rfl) (ix (n := 2) rfl rfl) rd_eqI)).eq (by rw [dnat]; rfl)) (fun z H S => ?_) fun z H S => ?_
      · refine fin S ((je_tup (ja_cons (je_var rfl) (ja_cons je_str (ja_cons (je_tup ja_nil) (ja_cons (je_un je_int ud_neg) ja_nil))))).eq ?_) fun σ H S => ⟨_, _, ⟨rfl, _, _, _, _, _, _, rfl⟩, S⟩
        simp only [chg, if_pos (of_decide_eq_true z)]; rfl
      refine s_if (b := false) S (jt_test (je_op (ix (n := 0) rfl rfl) je_str rd_eqS)) (fun z => by cases z) fun _ H S => ?_
      refine s_if (b := false) S (jt_and (a := false) (b := false) (jt_test (je_op (ix (n := 0) rfl rfl) je_str rd_eqS)) fun z => by cases z) (fun z => by cases z) fun _ H S => ?_
      refine fin S ((je_op (je_var rfl) (je_var rfl) (rd_ix (n := j) rfl (map_at hst))).eq ?_) fun σ H S => ⟨_, _, ⟨rfl, _, _, _, _, _, _, rfl⟩, S⟩
      simp only [chg, if_neg (of_decide_eq_false z)]
    | adds p0 j0 =>
      refine s_if (b := false) S (jt_and (a := false) (b := false) (jt_test (je_op (ix (n := 0) rfl rfl) je_str rd_eqS)) fun z => by cases z) (fun z => by cases z) fun _ H S => ?_
      refine s_if (b := true) S (jt_test (je_op (ix (n := 0) rfl rfl) je_str rd_eqS)) (fun _ H S => ?_) (fun z => by cases z)
      refine s_seq (s_asg1 S (drp rfl (fun z => ix (n := 2) rfl rfl) fun z => rfl) fun σ H S => ?_)
      refine fin S ((je_tup (ja_cons (je_var rfl) (ja_cons (je_if ((jt_test (je_op (je_var rfl) (ix (n := 2) rfl rfl) rd_eqI)).eq (y := decide (j = j0)) (dnat _ _)) (fun _ => je_str) (fun _ => je_var rfl)) (ja_cons (je_var rfl) (ja_cons (je_var rfl) ja_nil))))).eq ?_) fun σ H S => ⟨_, _, ⟨rfl, _, _, _, _, _, _, rfl⟩, S⟩
      by_cases z : j = j0
      · simp only [chg, if_pos z, decide_eq_true z, if_true]; rfl
      · simp only [chg, if_neg z, decide_eq_false z, Bool.false_eq_true, if_false]; rfl
    | same => cases hf
  · rintro μ' ρ' σ' H' ⟨rfl, a3, a4, a5, a6, a7, a8, rfl⟩ S
    refine s_retP S (je_tuplem rfl rfl) k ?_
    rintro _ rfl
    rw [List.take_of_length_le (by rw [taken_len]; exact Nat.le_refl _)]; rfl
/-! _law_bearers -/
def R__law_bearers : Rel := fun ds P => ∃ (ps : List Prg) (n : Int), ds = [encPs ps, .int n] ∧ ps.length ≤ 100 ∧ (∀ p ∈ ps, p.length ≤ 100) ∧ P = (· = .int (cnt ps n : Nat))
theorem sc__law_bearers : FnScope (["_law_programs", "_law_name", "_law_total", "_law_steps_here", "_law_step"]) (["_law_programs", "_law_name"]) (defScope (top 46)) := ⟨rfl, rfl, rfl, by decide +kernel, rfl, by decide +kernel, by decide +kernel⟩
theorem cnt_snoc (ps : List Prg) (p : Prg) (n : Int) : cnt (ps ++ [p]) n = cnt ps n + (p.filter fun s => decide (s.n = n)).length := by
  unfold cnt
  rw [List.map_append, List.sum_append]; simp
theorem ok__law_bearers (T : Txt K mg C) (F : Df K mg "_law_bearers" (top 46) (["_law_programs", "_law_name"])) : Cal P w K mg base CX0 1 "_law_bearers" (["_law_programs", "_law_name"]) (spP C R__law_bearers) := by
  refine F.cal fun f fd F => ?_
  have nd := sc__law_bearers.nd
  refine okP F sc__law_bearers (fun ds P h => by obtain ⟨ps, n, rfl, _⟩ := h; rfl) fun cdv A outer s H E hr => ⟨_, (pss_cons (xset 2 nd pe_int)
      (pss_cons (ps_for PassesOwn.never rfl (xseq K (h := (pv 0))) (pg_name (i := 3) nd rfl (by first | exact Or.inl rfl | exact Or.inr rfl)) (pss_one (xset 2 nd (pe_op op_add (pv 2) (pe_callB (xlen K) (by rfl) T.len_ (by decide +kernel) (pa_cons (pe_lc (own := [("_law_step", 4)]) (g := gName 4) rfl nd (xseq K (h := (pv 3))) (blkOk_by (N := ["_law_programs", "_law_name", "_law_total", "_law_steps_here", "_law_step"]) (sc := (defScope (top 46))) (by decide +kernel)) (fun _ _ _ _ _ => pg_name (i := 4) nd rfl (Or.inl rfl)) (fun _ _ _ _ _ => pts_one (pt_cmpR op_eq (pe_ix (xix K) (pv 4) pe_int (fun _ _ => rfl)) (pv 1) (nomark _))) (fun _ _ _ _ _ => (pv 4))) pa_nil))))))
      (pss_one (ps_ret (pv 2))))), fun B σ ds P' Q r S k => ?_⟩
  obtain ⟨ps, n, rfl, hl, hp, rfl⟩ := r
  refine s_seq (s_asg1 S je_int fun σ H S => ?_)
  refine s_seq (s_forS (fun j μ ρ => μ = [] ∧ ∃ a, ρ = [.d (encPs ps), .d (.int n), .d (.int (cnt (ps.take j) n : Nat)), a, .un]) S (je_var rfl) rfl (fun d _ => jg_name) ⟨rfl, _, rfl⟩ ?_ ?_)
  · rintro j d hd v μ' ρ' σ' H' ⟨rfl, a, rfl⟩ S
    obtain ⟨p, hpp, rfl⟩ := map_get hd
    have h100 := hp p (List.mem_of_getElem? hpp)
    refine s_asg1 S ((je_op (je_var rfl) (je_cb (ja_cons ((je_lcS (isNm n) (fun d => d) (je_var rfl) rfl (by rw [List.length_map]; omega) (fun d hd => ?_) (fun d hd _ => je_var rfl)).eq (y := .list ((p.filter fun s => decide (s.n = n)).map enc)) (by rw [outs_nm])) ja_nil) (cd_len rfl)) rd_add).eq (y := .int (cnt (ps.take (j + 1)) n : Nat)) ?_) fun σ H S => ⟨_, _, ⟨rfl, _, rfl⟩, S⟩
    · obtain ⟨st, _, rfl⟩ := List.mem_map.mp hd
      exact jt_test (je_op (je_op (je_var rfl) je_int (rd_ix (n := 3) rfl rfl)) (je_var rfl) rd_eqI)
    · rw [take_snoc hpp, cnt_snoc, List.length_map]
      congr 1
  · rintro μ' ρ' σ' H' ⟨rfl, a, rfl⟩ S
    refine s_retP S (je_var rfl) k ?_
    rintro _ rfl
    rw [List.length_map, List.take_length]
end
end KG
namespace KG
open PySem PySem.Spec L2
def nameF : Fct → Str
  | .without .. => "without"
  | .kept .. => "kept"
  | .adds .. => "adds"
  | .same .. => "same"
theorem encF_0 (f : Fct) : (encF f)[0]? = some (.str (nameF f)) := by cases f <;> rfl
theorem nameF_same (f : Fct) : decide (nameF f = "same") = f.isSame := by
  cases f
  · show decide (("without" : Str) = "same") = false; decide +kernel
  · show decide (("kept" : Str) = "same") = false; decide +kernel
  · show decide (("adds" : Str) = "same") = false; decide +kernel
  · show decide (("same" : Str) = "same") = true; decide +kernel
theorem formBad_cons {ps : List Prg} {d : PyData} {ds : List PyData} {i : Nat} (h : isFact ps d = true) : formBad ps (d :: ds) i = formBad ps ds (i + 1) := by
  simp only [formBad, h, if_true]
theorem formBad_at {ps : List Prg} {d : PyData} {ds : List PyData} {i : Nat} (h : isFact ps d = false) : formBad ps (d :: ds) i = some i := by
  simp only [formBad, h, Bool.false_eq_true, if_false]
theorem pass1_same {f : Fct} {fs : List Fct} {i : Nat} {ps : List Prg} (h : f.isSame = true) : pass1 (f :: fs) i ps = pass1 fs (i + 1) ps := by
  simp only [pass1, h, if_true]
theorem pass1_none {f : Fct} {fs : List Fct} {i : Nat} {ps : List Prg} (h : f.isSame = false) (e : wpf ps f = none) : pass1 (f :: fs) i ps = .error i := by
  simp only [pass1, h, Bool.false_eq_true, if_false, e]
theorem pass1_some {f : Fct} {fs : List Fct} {i : Nat} {ps ps' : List Prg} (h : f.isSame = false) (e : wpf ps f = some ps') : pass1 (f :: fs) i ps = pass1 fs (i + 1) ps' := by
  simp only [pass1, h, Bool.false_eq_true, if_false, e]
theorem pass2_not {f : Fct} {fs : List Fct} {i : Nat} {ps : List Prg} (h : f.isSame = false) : pass2 (f :: fs) i ps = pass2 fs (i + 1) ps := by
  simp only [pass2, h, Bool.false_eq_true, if_false]
theorem pass2_none {f : Fct} {fs : List Fct} {i : Nat} {ps : List Prg} (h : f.isSame = true) (e : wsf ps f = none) : pass2 (f :: fs) i ps = .error i := by
  simp only [pass2, h, if_true, e]
theorem pass2_some {f : Fct} {fs : List Fct} {i : Nat} {ps ps' : List Prg} (h : f.isSame = true) (e : wsf ps f = some ps') : pass2 (f :: fs) i ps = pass2 fs (i + 1) ps' := by
  simp only [pass2, h, if_true, e]
theorem withRow_none {ps : List Prg} {x : PyData} (h : sqD x = none) : withRow ps x = .error (-1) := by simp only [withRow, h]
theorem withRow_long {ps : List Prg} {x : PyData} {es : List PyData} (h : sqD x = some es) (hl : 40 < es.length) : withRow ps x = .error (-1) := by simp only [withRow, h, if_pos hl]
theorem withRow_bad {ps : List Prg} {x : PyData} {es : List PyData} {i : Nat} (h : sqD x = some es) (hl : ¬ 40 < es.length) (hb : formBad ps es 0 = some i) : withRow ps x = .error (i : Int) := by simp only [withRow, h, if_neg hl, hb]
theorem withRow_with {ps : List Prg} {x : PyData} {es : List PyData} (h : sqD x = some es) (hl : ¬ 40 < es.length) (hb : formBad ps es 0 = none) : withRow ps x = withF ps (es.map facD) := by simp only [withRow, h, if_neg hl, hb]
theorem withF_err {ps : List Prg} {fs : List Fct} {i : Int} (h : pass1 fs 0 ps = .error i) : withF ps fs = .error i := by simp only [withF, h]
theorem withF_ok1 {ps ps' : List Prg} {fs : List Fct} (h : pass1 fs 0 ps = .ok ps') : withF ps fs = pass2 fs 0 ps' := by simp only [withF, h]
/-- a test over ints of a list -/
def numIs (c : Nat → Bool) : PyData → Bool
  | .int z => c z.toNat
  | _ => false
theorem outs_num (c : Nat → Bool) (ns : List Nat) : outs (numIs c) (fun d => d) (ns.map fun n : Nat => PyData.int (n : Int)) = (ns.filter c).map fun n : Nat => PyData.int (n : Int) := by
  unfold outs
  rw [List.map_id', List.filter_map]
  rfl
theorem take3 {s : Stp} : cutD [PyData.int s.c, .str s.k.s, .tuple (s.b.map .int), .int s.n] none (some 3) = [PyData.int s.c, .str s.k.s, .tuple (s.b.map .int)] := cut_to _ 3
theorem ren_pair (a b : Stp) (s : Stp) : ren (min a.n b.n) (max a.n b.n) s = if s.n ∈ [a.n, b.n] then ⟨s.c, s.k, s.b, min a.n b.n⟩ else s := by
  obtain ⟨c, k, bb, n⟩ := s
  simp only [ren, List.mem_cons, List.not_mem_nil, or_false]
  by_cases h : n = a.n ∨ n = b.n
  · rw [if_pos h]
    congr 1
    by_cases e : n = max a.n b.n
    · rw [if_pos e]
    · rw [if_neg e]; omega
  · rw [if_neg h, if_neg (by omega)]
section
variable {P : Program} {w : World} {K : PySem.W.Frag} {mg : Str → Option Value} {base : Heap} {C : Addr}
/-! _law_with -/
def layRow (x : PyData) : Prop := noLot x = true ∧ ∀ es, sqD x = some es → ∀ d ∈ es, d.canLay0 = true
def R__law_with : Rel := fun ds P => ∃ (c : Int) (ps : List Prg) (x : PyData), ds = [plainD c ps, x] ∧ LotOk c ps ∧ layRow x ∧ P = (· = resD (withRow ps x))
theorem sc__law_with : FnScope (["_law_lot_here", "_law_facts_here", "_law_index", "_law_programs", "_law_fact", "_law_p", "_law_steps_here", "_law_told", "_law_moved", "_law_one", "_law_other", "_law_pair", "_law_low", "_law_k", "_law_step"]) (["_law_lot_here", "_law_facts_here"]) (defScope (top 47)) := ⟨rfl, rfl, rfl, by decide +kernel, rfl, by decide +kernel, by decide +kernel⟩
theorem ok__law_with (T : Txt K mg C) (F : Df K mg "_law_with" (top 47) (["_law_lot_here", "_law_facts_here"])) (G__law_is_fact : Cal P w K mg base CX0 3 "_law_is_fact" (["_law_lot_here", "_law_fact"]) (spP C R__law_is_fact))
    (G__law_taken_in : Cal P w K mg base CX0 1 "_law_taken_in" (["_law_steps_here", "_law_fact"]) (spP C R__law_taken_in)) (G__law_clash : Cal P w K mg base CX0 1 "_law_clash" (["_law_step", "_law_place", "_law_fact"]) (spP C R__law_clash))
    (G__law_bearers : Cal P w K mg base CX0 1 "_law_bearers" (["_law_programs", "_law_name"]) (spP C R__law_bearers)) (G__law_shape : Cal P w K mg base CX0 1 "_law_shape" (["_law_step"]) (spP C R__law_shape)) : Cal P w K mg base CX0 4 "_law_with" (["_law_lot_here", "_law_facts_here"]) (spP C R__law_with) := by
  refine F.cal fun f fd F => ?_
  have nd := sc__law_with.nd
  refine okP F sc__law_with (fun ds P h => by obtain ⟨c, ps, x, rfl, _⟩ := h; rfl) fun cdv A outer s H E hr => ⟨_, (pss_cons (ps_if (PW.pt (pw_or (pt_not (pt_val (pe_callB (xisiT K) (by rfl) T.isinstance_ (by decide +kernel) (pa_cons (pv 1) (pa_cons (pe_tup (pa_cons (pe_bltn (v := .ty "list") (by rfl) T.list_ (by decide +kernel) rfl) (pa_cons (pe_bltn (v := .ty "tuple") (by rfl) T.tuple_ (by decide +kernel) rfl) pa_nil))) pa_nil))))) (pw_or1 (pt_cmpR op_gt (pe_callB (xlen K) (by rfl) T.len_ (by decide +kernel) (pa_cons (pv 1) pa_nil)) pe_int (nomark _))))) (pss_one (ps_ret (pe_tup (pa_cons pe_str (pa_cons (pe_un un_neg pe_int) pa_nil))))) pss_nil)
      (pss_cons (ps_for PassesOwn.never rfl (pi_range1 (by rfl) T.range_ (pa_cons (pe_callB (xlen K) (by rfl) T.len_ (by decide +kernel) (pa_cons (pv 1) pa_nil)) pa_nil)) (pg_name (i := 2) nd rfl (by first | exact Or.inl rfl | exact Or.inr rfl)) (pss_one (ps_if (pt_not (pt_val (xcall G__law_is_fact hr (pa_cons (pv 0) (pa_cons (pe_ix (xix K) (pv 1) (pv 2) (fun _ _ => rfl)) pa_nil))))) (pss_one (ps_ret (pe_tup (pa_cons pe_str (pa_cons (pv 2) pa_nil))))) pss_nil)))
      (pss_cons (xset 3 nd (pe_ix (xix K) (pv 0) pe_int (fun _ _ => rfl)))
      (pss_cons (ps_for PassesOwn.never rfl (pi_range1 (by rfl) T.range_ (pa_cons (pe_callB (xlen K) (by rfl) T.len_ (by decide +kernel) (pa_cons (pv 1) pa_nil)) pa_nil)) (pg_name (i := 2) nd rfl (by first | exact Or.inl rfl | exact Or.inr rfl)) (pss_cons (xset 4 nd (pe_ix (xix K) (pv 1) (pv 2) (fun _ _ => rfl)))
      (pss_one (ps_if (pt_cmpR op_ne (pe_ix (xix K) (pv 4) pe_int (fun _ _ => rfl)) pe_str (nomark _)) (pss_cons (xset 5 nd (pe_ix (xix K) (pv 4) pe_int (fun _ _ => rfl)))
      (pss_cons (xset 6 nd (pe_ix (xix K) (pv 3) (pv 5) (fun _ _ => rfl)))
      (pss_cons (xset 7 nd (xcall G__law_taken_in hr (pa_cons (pv 6) (pa_cons (pv 4) pa_nil))))
      (pss_cons (ps_setLc (i := 8) rfl nd rfl rfl (sw_true rfl rfl rfl (by decide +kernel)) (own := [("_law_k", 13)]) (g := gName 13) (pi_range1 (by rfl) T.range_ (pa_cons (pe_callB (xlen K) (by rfl) T.len_ (by decide +kernel) (pa_cons (pv 6) pa_nil)) pa_nil)) (blkOk_by (N := ["_law_lot_here", "_law_facts_here", "_law_index", "_law_programs", "_law_fact", "_law_p", "_law_steps_here", "_law_told", "_law_moved", "_law_one", "_law_other", "_law_pair", "_law_low", "_law_k", "_law_step"]) (sc := (defScope (top 47))) (by decide +kernel)) (fun _ _ _ _ _ => pg_name (i := 13) nd rfl (Or.inl rfl)) (fun _ _ _ _ _ => pts_one (pt_cmpR (xneD K (hu := hr.units)) (pe_ix (xix K) (pv 6) (pv 13) (fun _ _ => rfl)) (pe_ix (xix K) (pv 7) (pv 13) (fun _ _ => rfl)) (nomark _))) (fun _ _ _ _ _ => (pv 13)))
      (pss_cons (ps_if (pt_val (xcall G__law_clash hr (pa_cons (pe_ix (xix K) (pv 6) (pe_ix (xix K) (pv 4) pe_int (fun _ _ => rfl)) (fun _ _ => rfl)) (pa_cons (pe_ix (xix K) (pv 4) pe_int (fun _ _ => rfl)) (pa_cons (pv 4) pa_nil))))) (pss_one (ps_ret (pe_tup (pa_cons pe_str (pa_cons (pv 2) pa_nil))))) pss_nil)
      (pss_cons (ps_if (pt_cmpR op_gt (pe_callB (xlen K) (by rfl) T.len_ (by decide +kernel) (pa_cons (pe_lc (own := [("_law_k", 13)]) (g := gName 13) rfl nd (xseq K (h := (pv 8))) (blkOk_by (N := ["_law_lot_here", "_law_facts_here", "_law_index", "_law_programs", "_law_fact", "_law_p", "_law_steps_here", "_law_told", "_law_moved", "_law_one", "_law_other", "_law_pair", "_law_low", "_law_k", "_law_step"]) (sc := (defScope (top 47))) (by decide +kernel)) (fun _ _ _ _ _ => pg_name (i := 13) nd rfl (Or.inl rfl)) (fun _ _ _ _ _ => pts_one (pt_cmpR op_gt (xcall G__law_bearers hr (pa_cons (pv 3) (pa_cons (pe_ix (xix K) (pe_ix (xix K) (pv 6) (pv 13) (fun _ _ => rfl)) pe_int (fun _ _ => rfl)) pa_nil))) pe_int (nomark _))) (fun _ _ _ _ _ => (pv 13))) pa_nil)) pe_int (nomark _)) (pss_one (ps_ret (pe_tup (pa_cons pe_str (pa_cons (pv 2) pa_nil))))) pss_nil)
      (pss_one (xset 3 nd (pe_op (xcatA K) (pe_op (xcatA K) (pe_slice (xslT K) (pv 3) po_none (po_some (pv 5))) (pe_tup (pa_cons (pv 7) pa_nil))) (pe_slice (xslT K) (pv 3) (po_some (pe_op op_add (pv 5) pe_int)) po_none)))))))))) pss_nil))))
      (pss_cons (ps_for PassesOwn.never rfl (pi_range1 (by rfl) T.range_ (pa_cons (pe_callB (xlen K) (by rfl) T.len_ (by decide +kernel) (pa_cons (pv 1) pa_nil)) pa_nil)) (pg_name (i := 2) nd rfl (by first | exact Or.inl rfl | exact Or.inr rfl)) (pss_cons (xset 4 nd (pe_ix (xix K) (pv 1) (pv 2) (fun _ _ => rfl)))
      (pss_one (ps_if (pt_cmpR op_eq (pe_ix (xix K) (pv 4) pe_int (fun _ _ => rfl)) pe_str (nomark _)) (pss_cons (xset 9 nd (pe_ix (xix K) (pe_ix (xix K) (pv 3) (pe_ix (xix K) (pv 4) pe_int (fun _ _ => rfl)) (fun _ _ => rfl)) (pe_ix (xix K) (pv 4) pe_int (fun _ _ => rfl)) (fun _ _ => rfl)))
      (pss_cons (xset 10 nd (pe_ix (xix K) (pe_ix (xix K) (pv 3) (pe_ix (xix K) (pv 4) pe_int (fun _ _ => rfl)) (fun _ _ => rfl)) (pe_ix (xix K) (pv 4) pe_int (fun _ _ => rfl)) (fun _ _ => rfl)))
      (pss_cons (ps_if (PW.pt (pw_or (pt_cmpR op_eq (pe_ix (xix K) (pv 9) pe_int (fun _ _ => rfl)) pe_str (nomark _)) (pw_or1 (pt_cmpR (xneD K (hu := hr.units)) (xcall G__law_shape hr (pa_cons (pv 9) pa_nil)) (xcall G__law_shape hr (pa_cons (pv 10) pa_nil)) (nomark _))))) (pss_one (ps_ret (pe_tup (pa_cons pe_str (pa_cons (pv 2) pa_nil))))) pss_nil)
      (pss_cons (xset 11 nd (pe_tup (pa_cons (pe_ix (xix K) (pv 9) pe_int (fun _ _ => rfl)) (pa_cons (pe_ix (xix K) (pv 10) pe_int (fun _ _ => rfl)) pa_nil))))
      (pss_cons (xset 12 nd (pe_callB (call_min2 rfl) (by rfl) T.min_ (by decide +kernel) (pa_cons (pe_ix (xix K) (pv 9) pe_int (fun _ _ => rfl)) (pa_cons (pe_ix (xix K) (pv 10) pe_int (fun _ _ => rfl)) pa_nil))))
      (pss_one (xset 3 nd (pe_callTy (xtuple K) (by rfl) T.tuple_ (by decide +kernel) (pa_cons (pe_lc (own := [("_law_steps_here", 6)]) (g := gName 6) rfl nd (xseq K (h := (pv 3))) (blkOk_by (N := ["_law_lot_here", "_law_facts_here", "_law_index", "_law_programs", "_law_fact", "_law_p", "_law_steps_here", "_law_told", "_law_moved", "_law_one", "_law_other", "_law_pair", "_law_low", "_law_k", "_law_step"]) (sc := (defScope (top 47))) (by decide +kernel)) (fun _ _ _ _ _ => pg_name (i := 6) nd rfl (Or.inl rfl)) (fun _ _ _ _ _ => pts_nil) (fun _ _ _ _ _ => (pe_callTy (xtuple K) (by rfl) T.tuple_ (by decide +kernel) (pa_cons (pe_lc (own := [("_law_step", 14)]) (g := gName 14) rfl nd (xseq K (h := (pv 6))) (blkOk_by (N := ["_law_lot_here", "_law_facts_here", "_law_index", "_law_programs", "_law_fact", "_law_p", "_law_steps_here", "_law_told", "_law_moved", "_law_one", "_law_other", "_law_pair", "_law_low", "_law_k", "_law_step"]) (sc := { kind := .function, names := [(".0", .local), ("_law_steps_here", .local), ("tuple", .globalImplicit), ("_law_low", .cell), ("_law_pair", .cell)], isGenerator := false, isCoroutine := false, more := [] }) (by decide +kernel)) (fun _ _ _ _ _ => pg_name (i := 14) nd rfl (Or.inl rfl)) (fun _ _ _ _ _ => pts_nil) (fun _ _ _ _ _ => (pe_ifExp (pt_cmpR (xin K) (pe_ix (xix K) (pv 14) pe_int (fun _ _ => rfl)) (pv 11) (by rfl)) (pe_op (xcatA K) (pe_slice (xslT K) (pv 14) po_none (po_some pe_int)) (pe_tup (pa_cons (pv 12) pa_nil))) (pv 14)))) pa_nil)))) pa_nil))))))))) pss_nil))))
      (pss_one (ps_ret (pv 3)))))))), fun B σ ds P' Q r S k => ?_⟩
  obtain ⟨c, ps, x, rfl, L, ⟨hn, hlay⟩, rfl⟩ := r
  have err : ∀ {i : Int} {μ : List MO} {ρ : List SV} {te : TE}, JE C μ ρ te (· = .int i) → withRow ps x = .error i → JE C μ ρ (tTup (tCons (tC (.str "index")) (tCons te tNil))) (· = resD (withRow ps x)) := fun h e => (je_tup (ja_cons je_str (ja_cons h ja_nil))).eq (by rw [e]; rfl)
  have hseq : JT C [] (ρ0 (["_law_lot_here", "_law_facts_here", "_law_index", "_law_programs", "_law_fact", "_law_p", "_law_steps_here", "_law_told", "_law_moved", "_law_one", "_law_other", "_law_pair", "_law_low", "_law_k", "_law_step"]) [plainD c ps, x]) (tNot (tB (tCB (rIsiT K) (tCons (tVar 1) (tCons (tTup (tCons (tC (.ty "list")) (tCons (tC (.ty "tuple")) tNil))) tNil))))) (· = !isSq x) := jt_not (jt_B (je_isiT (je_var rfl) hn))
  cases hs : sqD x with
  | none =>
    have e : isSq x = false := by rw [sq_is, hs]; rfl
    rw [e] at hseq
    refine s_seq (s_ifn S (jn_or (R := fun _ => False) (S := (· = true)) hseq (fun z => by cases z) (fun z => by cases z) fun _ => rfl) (fun _ H S => ?_) (fun z => by cases z))
    exact s_retP S (err (je_un je_int ud_neg) (withRow_none hs)) k fun _ h => h
  | some es =>
    have e : isSq x = true := by rw [sq_is, hs]; rfl
    have lay := hlay es hs
    rw [e] at hseq
    have lens : ∀ {μ : List MO} {ρ : List SV}, ρ[1]? = some (.d x) → JE C μ ρ (tCB (fun xs H Q => ∃ p ys, xs = [.ref p] ∧ (SqL K H p ys ∨ SqT K H p ys) ∧ Q (.int ys.length) H) (tCons (tVar 1) tNil)) (· = .int (es.length : Int)) := fun h1 => je_cb (ja_cons (je_var h1) ja_nil) (cd_len hs)
    refine s_seq (s_if S (jt_or hseq fun _ => jt_test (je_op (lens rfl) je_int rd_gt)) (fun z H S => ?_) fun z H S => s_nx ?_)
    · have z : (40 : Int) < es.length := by simpa using z
      exact s_retP S (err (je_un je_int ud_neg) (withRow_long hs (by omega))) k fun _ h => h
    have z : ¬ (40 : Int) < es.length := by simpa using z
    have h40 : ¬ 40 < es.length := by omega
    clear z hseq
    refine s_seq (s_forR (n := es.length) (fun j μ ρ => formBad ps es 0 = formBad ps (es.drop j) j ∧ μ = [] ∧ ∃ a2, ρ = [.d (plainD c ps), .d x, a2, .un, .un, .un, .un, .un, .un, .un, .un, .un, .un, .un, .un]) S (ja_cons (lens rfl) ja_nil) (by omega) ⟨rfl, rfl, _, rfl⟩ ?_ ?_)
    · rintro j hj μ' ρ' σ' H' ⟨hfb, rfl, a2, rfl⟩ S
      obtain ⟨d, hd⟩ : ∃ d, es[j]? = some d := ⟨_, List.getElem?_eq_getElem hj⟩
      rw [drop_cons hd] at hfb
      refine s_if S (jt_not (jt_B (je_call (ja_cons (je_var rfl) (ja_cons (je_op (je_var rfl) (je_var rfl) (rd_ix (n := j) hs hd)) ja_nil)) ⟨c, ps, d, rfl, lay d (List.mem_of_getElem? hd), rfl⟩))) (fun z H S => ?_) fun z H S => s_nx ⟨_, _, ⟨?_, rfl, _, rfl⟩, S⟩
      · have z : isFact ps d = false := by simpa using z
        rw [formBad_at z] at hfb
        exact s_retP S (err (je_var rfl) (withRow_bad hs h40 hfb)) k fun _ h => h
      · have z : isFact ps d = true := by simpa using z
        rw [formBad_cons z] at hfb
        exact hfb
    rintro μ' ρ' σ' H' ⟨hfb, rfl, a2, rfl⟩ S
    rw [List.drop_length] at hfb
    have hfb : formBad ps es 0 = none := hfb
    have hw := withRow_with hs h40 hfb
    have facts : ∀ {j : Nat} {d : PyData}, es[j]? = some d → okF ps (facD d) = true ∧ sqD d = some (encF (facD d)) := fun h => isFact_ok (formBad_none hfb _ (List.mem_of_getElem? h))
    have fdrop : ∀ {j : Nat} {d : PyData}, es[j]? = some d → (es.map facD).drop j = facD d :: (es.map facD).drop (j + 1) := fun h => drop_cons (map_at h)
    refine s_seq (s_asg1 S (je_op (je_var rfl) je_int (rd_ix (n := 1) rfl rfl)) fun σ H S => ?_)
    refine s_seq (s_forR (n := es.length) (fun j μ ρ => μ = [] ∧ ∃ cur a2 a4 a5 a6 a7 a8, pass1 (es.map facD) 0 ps = pass1 ((es.map facD).drop j) j cur ∧ LotOk c cur ∧ sizes cur = sizes ps ∧ ρ = [.d (plainD c ps), .d x, a2, .d (encPs cur), a4, a5, a6, a7, a8, .un, .un, .un, .un, .un, .un]) S (ja_cons (lens rfl) ja_nil) (by omega) ⟨rfl, ps, _, _, _, _, _, _, rfl, L, rfl, rfl⟩ ?_ ?_)
    · rintro j hj μ' ρ' σ' H' ⟨rfl, cur, a2, a4, a5, a6, a7, a8, hp1, L1, hz, rfl⟩ S
      obtain ⟨d, hd⟩ : ∃ d, es[j]? = some d := ⟨_, List.getElem?_eq_getElem hj⟩
      obtain ⟨hok, hx⟩ := facts hd
      rw [fdrop hd] at hp1
      generalize facD d = f at *
      have hok1 : okF cur f = true := by rw [okF_sizes hz]; exact hok
      have ix : ∀ {μ : List MO} {ρ : List SV} {n : Nat} {y : PyData}, ρ[4]? = some (.d d) → (encF f)[n]? = some y → JE C μ ρ (tOp (rIx K) (tVar 4) (tC (.int (n : Int)))) (· = y) := fun h1 h2 => je_op (je_var h1) je_int (rd_ix hx h2)
      refine s_seq (s_asg1 S (je_op (je_var rfl) (je_var rfl) (rd_ix (n := j) hs hd)) fun σ H S => ?_)
      refine s_if (b := !f.isSame) S ((jt_test (je_op (ix (n := 0) rfl (encF_0 f)) je_str rd_neS)).eq (by rw [nameF_same])) (fun z H S => ?_) fun z H S => s_nx ?_
      · have hsm : f.isSame = false := by simpa using z
        have hat := okF_p hok1
        unfold isAt at hat
        simp only [Bool.and_eq_true, decide_eq_true_eq] at hat
        obtain ⟨hpl, hkl⟩ := hat
        obtain ⟨hl, hsml⟩ := L1.small
        obtain ⟨p, hp⟩ : ∃ p, cur[f.p]? = some p := ⟨_, List.getElem?_eq_getElem hpl⟩
        have epD : cur.getD f.p [] = p := getD_of hp
        rw [epD] at hkl
        obtain ⟨hp100, hs100⟩ := hsml p (List.mem_of_getElem? hp)
        have est : p[f.k]? = some (p.getD f.k s0) := get_of_lt s0 hkl
        refine s_seq (s_asg1 S (ix (n := 1) rfl (encF_pk f).1) fun σ H S => ?_)
        refine s_seq (s_asg1 S (je_op (je_var rfl) (je_var rfl) (rd_ix (n := f.p) rfl (map_at hp))) fun σ H S => ?_)
        refine s_seq (s_asg1 S (je_call (ja_cons (je_var rfl) (ja_cons (je_var rfl) ja_nil)) ⟨p, d, f, rfl, hp100, hs100, hx, hsm, rfl⟩) fun σ H S => ?_)
        refine s_seq (s_asg1 S (je_lcR (n := p.length) (fun i => !decide (chg (p.getD i s0) i f = p.getD i s0)) (fun n => .int (n : Int)) (ja_cons ((je_cb (ja_cons (je_var rfl) ja_nil) (cd_len rfl)).eq (by rw [List.length_map])) ja_nil) (by omega) (fun i hi => ?_) (fun i hi _ => je_var rfl)) fun σ H S => ?_)
        · have ei := get_of_lt s0 hi
          refine (jt_test (je_op (je_op (je_var rfl) (je_var rfl) (rd_ix (n := i) rfl (map_at ei))) (je_op (je_var rfl) (je_var rfl) (rd_ix (n := i) rfl (map_at (taken_get ei)))) (rd_neD (enc_shaped _) (enc_shaped _)))).eq ?_
          rw [enc_eqv]
          congr 1
          rw [Bool.eq_iff_iff, decide_eq_true_eq, decide_eq_true_eq]
          exact eq_comm
        refine s_seq (s_if S (jt_B (je_call (ja_cons (je_op (je_var rfl) (ix (n := 2) rfl (encF_pk f).2) (rd_ix (n := f.k) rfl (map_at est))) (ja_cons (ix (n := 2) rfl (encF_pk f).2) (ja_cons (je_var rfl) ja_nil))) ⟨p.getD f.k s0, f.k, d, f, rfl, hx, hsm, rfl⟩)) (fun z H S => ?_) fun z H S => s_nx ?_)
        · have e1 : wpf cur f = none := by simp only [wpf, epD, z, if_true]
          exact s_retP S (err (je_var rfl) (hw.trans (withF_err (hp1.trans (pass1_none hsm e1))))) k fun _ h => h
        refine s_seq (s_if (b := (List.range p.length).any (moved cur p f)) S ((jt_test (je_op (je_cb (ja_cons ((je_lcS (numIs fun i => decide (1 < cnt cur (p.getD i s0).n)) (fun d => d) (je_var rfl) rfl ?_ (fun d hd => ?_) (fun d hd _ => je_var rfl)).eq (y := .list ((((List.range p.length).filter fun i => !decide (chg (p.getD i s0) i f = p.getD i s0)).filter fun i => decide (1 < cnt cur (p.getD i s0).n)).map fun n : Nat => PyData.int (n : Int))) (by rw [outs_num])) ja_nil) (cd_len rfl)) je_int rd_gt)).eq ?_) (fun z2 H S => ?_) fun z2 H S => s_nx ?_)
        · rw [List.length_map]
          exact Nat.le_trans (List.length_filter_le _ _) (by rw [List.length_range]; omega)
        · obtain ⟨i, hi, rfl⟩ := List.mem_map.mp hd
          have hi := List.mem_range.mp (List.mem_filter.mp hi).1
          have ei := get_of_lt s0 hi
          refine (jt_test (je_op (je_call (ja_cons (je_var rfl) (ja_cons (je_op (je_op (je_var rfl) (je_var rfl) (rd_ix (n := i) rfl (map_at ei))) je_int (rd_ix (n := 3) rfl rfl)) ja_nil)) ⟨cur, _, rfl, hl, fun p hp => (hsml p hp).1, rfl⟩) je_int rd_gt)).eq ?_
          show _ = decide (1 < cnt cur (p.getD ((i : Int).toNat) s0).n)
          rw [Int.toNat_natCast, Bool.eq_iff_iff, decide_eq_true_eq, decide_eq_true_eq]
          omega
        · rw [List.length_map, Bool.eq_iff_iff, decide_eq_true_eq, List.any_eq_true]
          constructor
          · intro h
            have h : 0 < (((List.range p.length).filter fun i => !decide (chg (p.getD i s0) i f = p.getD i s0)).filter fun i => decide (1 < cnt cur (p.getD i s0).n)).length := by omega
            obtain ⟨i, hi⟩ := List.exists_mem_of_length_pos h
            obtain ⟨h1, h3⟩ := List.mem_filter.mp hi
            obtain ⟨h1, h2⟩ := List.mem_filter.mp h1
            exact ⟨i, h1, by unfold moved; rw [show (!decide (chg (p.getD i s0) i f = p.getD i s0)) = true from h2, show decide (1 < cnt cur (p.getD i s0).n) = true from h3]; rfl⟩
          · rintro ⟨i, h1, h2⟩
            unfold moved at h2
            rw [Bool.and_eq_true] at h2
            have := List.length_pos_of_mem (l := (((List.range p.length).filter fun i => !decide (chg (p.getD i s0) i f = p.getD i s0)).filter fun i => decide (1 < cnt cur (p.getD i s0).n))) (List.mem_filter.mpr ⟨List.mem_filter.mpr ⟨h1, h2.1⟩, h2.2⟩)
            omega
        · have e1 : wpf cur f = none := by simp only [wpf, epD, z, Bool.false_eq_true, if_false, z2, if_true]
          exact s_retP S (err (je_var rfl) (hw.trans (withF_err (hp1.trans (pass1_none hsm e1))))) k fun _ h => h
        have e1 : wpf cur f = some (cur.set f.p (taken p f)) := by simp only [wpf, epD, z, Bool.false_eq_true, if_false, z2]
        refine s_asg1 S ((je_op (je_op (je_slT (je_var rfl) jo_none (jo_some (je_var rfl))) (je_tup (ja_cons (je_var rfl) ja_nil)) (rd_catT ?_)) (je_slT (je_var rfl) (jo_some ((je_op (je_var rfl) je_int rd_add).eq (y := .int ((f.p + 1 : Nat) : Int)) (by congr 1))) jo_none) (rd_catT ?_)).eq (y := encPs (cur.set f.p (taken p f))) ?_) fun σ H S => ⟨_, _, ⟨rfl, _, _, _, _, _, _, _, hp1.trans (pass1_some hsm e1), wpf_ok L1 hpl e1, (wpf_sizes e1).trans hz, rfl⟩, S⟩
        · have := cutD_len (cur.map encP) none (some ((f.p : Nat) : Int))
          rw [List.length_map] at this
          simp; omega
        · have h1 := cutD_len (cur.map encP) none (some ((f.p : Nat) : Int))
          have h2 := cutD_len (cur.map encP) (some ((f.p + 1 : Nat) : Int)) none
          rw [List.length_map] at h1 h2
          rw [List.length_append]
          simp only [List.length_cons, List.length_nil]
          omega
        · rw [cut_to, cut_from]
          unfold encPs
          rw [set_split (by rw [List.length_map]; exact hpl), List.map_set]
      · have hsm : f.isSame = true := by simpa using z
        exact ⟨_, _, ⟨rfl, _, _, _, _, _, _, _, hp1.trans (pass1_same hsm), L1, hz, rfl⟩, S⟩
    rintro μ' ρ' σ' H' ⟨rfl, cur0, a2, a4, a5, a6, a7, a8, hp1, L0, hz0, rfl⟩ S
    have hp1 : pass1 (es.map facD) 0 ps = .ok cur0 := by rw [List.drop_of_length_le (by rw [List.length_map]; exact Nat.le_refl _)] at hp1; exact hp1
    have hw := hw.trans (withF_ok1 hp1)
    refine s_seq (s_forR (n := es.length) (fun j μ ρ => μ = [] ∧ ∃ cur a2 a4 a9 a10 a11 a12, pass2 (es.map facD) 0 cur0 = pass2 ((es.map facD).drop j) j cur ∧ LotOk c cur ∧ sizes cur = sizes ps ∧ ρ = [.d (plainD c ps), .d x, a2, .d (encPs cur), a4, a5, a6, a7, a8, a9, a10, a11, a12, .un, .un]) S (ja_cons (lens rfl) ja_nil) (by omega) ⟨rfl, cur0, _, _, _, _, _, _, rfl, L0, hz0, rfl⟩ ?_ ?_)
    · rintro j hj μ' ρ' σ' H' ⟨rfl, cur, a2, a4, a9, a10, a11, a12, hp2, L1, hz, rfl⟩ S
      obtain ⟨d, hd⟩ : ∃ d, es[j]? = some d := ⟨_, List.getElem?_eq_getElem hj⟩
      obtain ⟨hok, hx⟩ := facts hd
      rw [fdrop hd] at hp2
      generalize facD d = f at *
      have hok1 : okF cur f = true := by rw [okF_sizes hz]; exact hok
      have ix : ∀ {μ : List MO} {ρ : List SV} {n : Nat} {y : PyData}, ρ[4]? = some (.d d) → (encF f)[n]? = some y → JE C μ ρ (tOp (rIx K) (tVar 4) (tC (.int (n : Int)))) (· = y) := fun h1 h2 => je_op (je_var h1) je_int (rd_ix hx h2)
      refine s_seq (s_asg1 S (je_op (je_var rfl) (je_var rfl) (rd_ix (n := j) hs hd)) fun σ H S => ?_)
      refine s_if (b := f.isSame) S ((jt_test (je_op (ix (n := 0) rfl (encF_0 f)) je_str rd_eqS)).eq (by rw [nameF_same])) (fun hsm H S => ?_) fun hsm H S => s_nx ?_
      · cases f with
        | same p1 k1 p2 k2 =>
          obtain ⟨hl, hsml⟩ := L1.small
          have hok2 := hok1
          simp only [okF, Bool.and_eq_true] at hok1
          obtain ⟨⟨hat1, hat2⟩, _⟩ := hok1
          refine s_seq (s_asg1 S (je_step hat1 (je_var rfl) (ix (n := 1) rfl rfl) (ix (n := 2) rfl rfl)) fun σ H S => ?_)
          refine s_seq (s_asg1 S (je_step hat2 (je_var rfl) (ix (n := 3) rfl rfl) (ix (n := 4) rfl rfl)) fun σ H S => ?_)
          generalize ha : stAt cur p1 k1 = a at *
          generalize hb : stAt cur p2 k2 = b at *
          have ew : wsf cur (.same p1 k1 p2 k2) = wsm cur a b := by simp only [wsf, ha, hb]
          have nm : ∀ {ρ : List SV} {i : Nat} {s : Stp}, ρ[i]? = some (.d (enc s)) → JE C [] ρ (tOp (rIx K) (tVar i) (tC (.int 3))) (· = .int s.n) := fun h => je_op (je_var h) je_int (rd_ix (n := 3) rfl rfl)
          refine s_seq (s_if (b := decide (a.k = .kept ∨ shape a ≠ shape b)) S ((jt_or ((jt_test (je_op (je_op (je_var rfl) je_int (rd_ix (n := 1) rfl rfl)) je_str rd_eqS)).eq (kd_kept a.k)) fun _ => jt_test (je_op (je_call (ja_cons (je_var rfl) ja_nil) ⟨_, rfl, rfl⟩) (je_call (ja_cons (je_var rfl) ja_nil) ⟨_, rfl, rfl⟩) (rd_neD (shapeD_shaped _) (shapeD_shaped _)))).eq ?_) (fun z H S => ?_) fun z H S => s_nx ?_)
          · rw [shapeD_eqv, Bool.eq_iff_iff]
            simp only [Bool.or_eq_true, decide_eq_true_eq, Bool.not_eq_true', decide_eq_false_iff_not, ne_eq]
          · have e1 : wsf cur (.same p1 k1 p2 k2) = none := by rw [ew]; simp only [wsm, if_pos (of_decide_eq_true z)]
            exact s_retP S (err (je_var rfl) (hw.trans (hp2.trans (pass2_none rfl e1)))) k fun _ h => h
          have z := of_decide_eq_false z
          have e1 : wsf cur (.same p1 k1 p2 k2) = some (cur.map fun p => p.map (ren (min a.n b.n) (max a.n b.n))) := by rw [ew]; simp only [wsm, if_neg z]
          refine s_seq (s_asg1 S ((je_tup (ja_cons (nm rfl) (ja_cons (nm rfl) ja_nil))).eq (y := .tuple (([a.n, b.n] : List Int).map .int)) rfl) fun σ H S => ?_)
          refine s_seq (s_asg1 S ((je_cb (ja_cons (nm rfl) (ja_cons (nm rfl) ja_nil)) cd_min2).eq (y := .int (min a.n b.n)) (by congr 1; omega)) fun σ H S => ?_)
          have hpn : ∀ {d : PyData}, d ∈ cur.map encP → ∃ p ∈ cur, d = encP p := fun h => by obtain ⟨p, hp, rfl⟩ := List.mem_map.mp h; exact ⟨p, hp, rfl⟩
          let gD : PyData → PyData := fun d => match d with
            | .tuple [.int c, .str s, b', .int n] => if n ∈ [a.n, b.n] then .tuple [.int c, .str s, b', .int (min a.n b.n)] else .tuple [.int c, .str s, b', .int n]
            | _ => d
          have gDe : ∀ s : Stp, gD (enc s) = enc (ren (min a.n b.n) (max a.n b.n) s) := fun s => by
            show (if s.n ∈ [a.n, b.n] then _ else _) = enc (ren _ _ s)
            rw [ren_pair]
            by_cases hm : s.n ∈ [a.n, b.n]
            · rw [if_pos hm, if_pos hm]; rfl
            · rw [if_neg hm, if_neg hm]; rfl
          refine s_asg1 S (je_cb (ja_cons ((je_lcS (fun _ => true) (fun d => .tuple (((sqD d).getD []).map gD)) (je_var rfl) rfl (by rw [List.length_map]; omega) (fun d _ => jt_yes) (fun d hd _ => ?_)).eq (y := .list ((cur.map fun p : Prg => p.map (ren (min a.n b.n) (max a.n b.n))).map encP)) ?_) ja_nil) (cd_tuple (ds := ((cur.map fun p : Prg => p.map (ren (min a.n b.n) (max a.n b.n))).map encP)) rfl)) fun σ H S => ⟨_, _, ⟨rfl, _, _, _, _, _, _, _, hp2.trans (pass2_some rfl e1), wsf_ok L1 hok2 e1, (wsf_sizes e1).trans hz, rfl⟩, S⟩
          · obtain ⟨p, hp, rfl⟩ := hpn hd
            have hp100 := (hsml p hp).1
            refine je_cb (ja_cons ((je_lcS (fun _ => true) gD (je_var rfl) rfl (by rw [List.length_map]; omega) (fun d _ => jt_yes) (fun d hd _ => ?_)).eq (y := .list ((p.map enc).map gD)) (by rw [outs_map])) ja_nil) (cd_tuple rfl)
            obtain ⟨s, hs, rfl⟩ := List.mem_map.mp hd
            refine (je_if (jt_test (je_op (je_op (je_var rfl) je_int (rd_ix (n := 3) rfl rfl)) (je_var rfl) rd_inI)) (fun _ => (je_op (je_slT (je_var rfl) jo_none (jo_some je_int)) (je_tup (ja_cons (je_var rfl) ja_nil)) (rd_catT ?_))) (fun _ => je_var rfl)).eq ?_
            · rw [take3]; show 3 + 1 ≤ 10000; decide
            · rw [take3]
              show _ = (if s.n ∈ [a.n, b.n] then _ else _)
              by_cases hm : s.n ∈ [a.n, b.n]
              · rw [if_pos hm]; simp only [Bool.false_eq_true, if_false, decide_eq_true hm, if_true]; rfl
              · rw [if_neg hm]; simp only [Bool.false_eq_true, if_false, decide_eq_false hm]; rfl
          · rw [outs_map, List.map_map, List.map_map]
            congr 1
            refine List.map_congr_left fun p _ => ?_
            show PyData.tuple ((p.map enc).map gD) = encP (p.map (ren (min a.n b.n) (max a.n b.n)))
            unfold encP
            rw [List.map_map, List.map_map]
            congr 1
            exact List.map_congr_left fun s _ => gDe s
        | without => cases hsm
        | kept => cases hsm
        | adds => cases hsm
      · exact ⟨_, _, ⟨rfl, _, _, _, _, _, _, _, hp2.trans (pass2_not hsm), L1, hz, rfl⟩, S⟩
    rintro μ' ρ' σ' H' ⟨rfl, cur, a2, a4, a9, a10, a11, a12, hp2, L1, hz, rfl⟩ S
    refine s_retP S (je_var rfl) k ?_
    rintro _ rfl
    rw [hw, hp2, List.drop_of_length_le (by rw [List.length_map]; exact Nat.le_refl _)]; rfl
end
end KG
namespace KG
open PySem PySem.Spec L2
/-! the hand, opened as a list of data and closed again; a list's place set -/
def handD (cs : List Int) (i g t : Int) : List PyData := [.list (cs.map .int), .int i, .int g, .int t]
section
variable {C : Addr} {μ : List MO} {ρ : List SV} {ta tb te tc : TE} {P : PyData → Prop} {σ : St} {H : Hp} {nx : L2.St → Hp → Prop} {rt : VK} {bk ct : L2.St → Hp → Prop}
theorem mo_hand {M : List Addr} {p : Addr} : MoAt C M H p .hand ↔ ∃ cs i g t, HandOk cs i g t ∧ MoAt C M H p (.lst (handD cs i g t)) := by
  constructor
  · rintro ⟨c, cs, i, g, t, h1, h2, h3⟩
    exact ⟨cs, i, g, t, h3, _, h1, .cons (.lst h2 (DtA.ints cs)) (.cons (.int i) (.cons (.int g) (.cons (.int t) .nil)))⟩
  · rintro ⟨cs, i, g, t, h3, xs, h1, da⟩
    unfold handD at da
    cases da with
    | cons a1 da =>
      cases da with
      | cons a2 da =>
        cases da with
        | cons a3 da =>
          cases da with
          | cons a4 da =>
            cases da
            obtain ⟨c, ys, rfl, hc, dy⟩ := a1.lstE
            cases a2.intE
            cases a3.intE
            cases a4.intE
            rw [dy.intsV] at hc
            exact ⟨c, cs, i, g, t, h1, hc, h3⟩
theorem Sat.open' {F : Frm} (S : Sat C F (.hand :: μ) ρ σ H) : ∃ cs i g t, HandOk cs i g t ∧ Sat C F (.lst (handD cs i g t) :: μ) ρ σ H := by
  obtain ⟨nd, al, mu, sl, fr, wv, lc, dj, gh⟩ := S
  generalize hv : F.v = vv at mu
  cases mu with
  | cons r tt =>
    obtain ⟨cs, i, g, t, h1, h2⟩ := mo_hand.mp r
    exact ⟨cs, i, g, t, h1, nd, al, by rw [hv]; exact .cons h2 tt, sl, fr, wv, lc, dj, gh⟩
theorem Sat.close' {F : Frm} {cs : List Int} {i g t : Int} (S : Sat C F (.lst (handD cs i g t) :: μ) ρ σ H) (h : HandOk cs i g t) : Sat C F (.hand :: μ) ρ σ H := by
  obtain ⟨nd, al, mu, sl, fr, wv, lc, dj, gh⟩ := S
  generalize hv : F.v = vv at mu
  cases mu with
  | cons r tt => exact ⟨nd, al, by rw [hv]; exact .cons (mo_hand.mpr ⟨cs, i, g, t, h, r⟩) tt, sl, fr, wv, lc, dj, gh⟩
theorem s_retHL {H0 : Hp} {B V' : List Addr} {h : Addr} {G : List (V × PyData)} {μ' : List MO} {P' : PyData → Prop} {cs : List Int} {i g t : Int} (hB : h ∈ B) (S : Sat C ⟨H0, [h], B, h :: V', G⟩ (.lst (handD cs i g t) :: μ') ρ σ H) (ho : HandOk cs i g t) (hj : JE C (.lst (handD cs i g t) :: μ') ρ te P)
    (k : ∀ v H' d, P' d → ExB [h] H0 H' → MoAt C B H' h .hand → Dt C (wo B H') v d → rt v H') (hp : ∀ d, P d → P' d) : tRet te ⟨nx, rt, bk, ct⟩ σ H :=
  s_ret S hj fun v H' d pd s1 dv => by
    have s2 := s1.close' ho
    exact k v H' d (hp d pd) (fun a o q n => s2.fr a o q n) ((s2.mo (k := 0) (p := h) rfl rfl).lift (fun _ q => q) (wo_anti fun a z => List.mem_append_right _ z)) dv
theorem ixN_nat {n l : Nat} (h : n < l) : ixN l (n : Int) = some n := by
  unfold ixN
  rw [if_pos (by omega), if_pos (by omega)]; simp
/-- x[n] = e -/
theorem s_setm {F : Frm} {i k n : Nat} {ds : List PyData} (S : Sat C F μ ρ σ H) (h1 : ρ[i]? = some (.m k)) (h2 : μ[k]? = some (.lst ds)) (h : JE C μ ρ te P) (hb : JE C μ ρ tb (· = .int (n : Int))) (hn : n < ds.length)
    (kk : ∀ d H', P d → Sat C F (μ.set k (.lst (ds.set n d))) ρ σ H' → nx σ H') : tAsg te (gSub (tVar i) tb rSetL) ⟨nx, rt, bk, ct⟩ σ H :=
  h F σ H S _ fun v H1 d pd s1 e1 d1 => by
    obtain ⟨p, hσ, hv⟩ := s1.getm h1
    refine ⟨_, hσ, hb F σ H1 s1 _ fun u H2 y py s2 e2 d2 => ?_⟩
    subst py
    obtain ⟨xs, hp, da⟩ := s2.mo hv h2
    refine ⟨p, xs, _, n, rfl, d2.intE, hp, ixN_nat (by rw [da.length]; exact hn), kk d _ pd (s2.put hv ⟨_, upd_same, ?_⟩)⟩
    rw [wo_upd (List.mem_append_left _ (s2.mem hv))]
    exact da.set n (s1.kn e2 d1)
/-- a new hand, of the script -/
def spNewH (K : PySem.W.Frag) (C : Addr) : Sp := fun vs H Q _ => ∃ (B : List Addr) (ns : List Int) (a : Addr), vs = [.ref a] ∧ (∀ a ∈ B, H a ≠ none) ∧ SqL K H a (ns.map V.int) ∧ ns.length ≤ 63 ∧ ∀ h H', H h = none → H' h ≠ none → Ex H H' → MoAt C (h :: B) H' h .hand → Q (.ref h) H'
theorem Sat.grow {F : Frm} {p : Addr} {mo : MO} {H' : Hp} (S : Sat C F μ ρ σ H) (hp : H p = none) (hn : H' p ≠ none) (e : Ex H H') (hm : MoAt C (p :: F.m) H' p mo) : Sat C { F with v := F.v ++ [p] } (μ ++ [mo]) ρ σ H' := by
  have npm := S.fresh hp
  have npv : p ∉ F.v := fun z => npm (List.mem_append_left _ z)
  have npb : p ∉ F.b := fun z => npm (List.mem_append_right _ z)
  have mm : ∀ a, a ∈ (F.v ++ [p]) ++ F.b ↔ a ∈ F.m ∨ a = p := fun a => by
    simp only [List.mem_append, List.mem_singleton]
    constructor
    · rintro ((z | z) | z)
      · exact .inl (.inl z)
      · exact .inr z
      · exact .inl (.inr z)
    · rintro ((z | z) | z)
      · exact .inl (.inl z)
      · exact .inr z
      · exact .inl (.inr z)
  have ew : Ex (wo F.m H) (wo ((F.v ++ [p]) ++ F.b) H') := fun a u q => by
    obtain ⟨n, q⟩ := wo_some q
    refine wo_mk (fun z => ?_) (e a u q)
    rcases (mm a).mp z with z | z
    · exact n z
    · rw [z, hp] at q; cases q
  refine ⟨?_, fun a ha => ?_, ?_, paired_map S.sl fun _ _ _ q => q.lift ew fun k a z => ?_, fun a u q n => e a u (S.fr a u q n), fun a ha => List.mem_append_left _ (S.wv a ha), fun a ha => ?_, fun a ha hb => ?_, fun g hg => (S.gh g hg).mono ew⟩
  · refine List.nodup_append.mpr ⟨S.nd, by simp, ?_⟩
    intro a ha b hb
    simp at hb
    subst hb
    rintro rfl
    exact npv ha
  · rcases (mm a).mp ha with z | z
    · exact al_ex S.al e a z
    · rw [z]; exact hn
  · refine Paired.snoc (paired_map S.mu fun a _ _ h => h.lift (fun u q => e _ _ q) ew) (hm.lift (fun _ q => q) (wo_anti fun a z => ?_))
    rcases (mm a).mp z with z | z
    · exact List.mem_cons_of_mem _ z
    · rw [z]; exact List.mem_cons_self
  · show (F.v ++ [p])[k]? = some a
    rw [List.getElem?_append_left (List.getElem?_eq_some_iff.mp z).1]; exact z
  · rcases List.mem_append.mp ha with z | z
    · exact S.lc a z
    · simp at z; subst z; exact .inr (S.fresh0 hp)
  · rcases List.mem_append.mp ha with z | z
    · exact S.dj a z hb
    · simp at z; subst z; exact absurd hb npb
theorem s_newH {K : PySem.W.Frag} {fh : Hp} {fw fb fv : List Addr} {fg : List (V × PyData)} {E : XK} {i : Nat} {ns : List Int} {a : Addr} (S : Sat C ⟨fh, fw, fb, fv, fg⟩ μ ρ σ H) (h : ∀ Q : VK, Q (.ref a) H → te σ H Q) (hS : SqL K H a (ns.map V.int)) (hl : ns.length ≤ 63) (hi : fv.length = μ.length)
    (kk : ∀ p σ' H', Sat C ⟨fh, fw, fb, fv ++ [p], fg⟩ (μ ++ [.hand]) (ρ.set i (.m μ.length)) σ' H' → nx σ' H') : tAsg (tCall (spNewH K C) [] E (tCons te tNil)) (gName i) ⟨nx, rt, bk, ct⟩ σ H :=
  h _ ⟨fv ++ fb, ns, a, rfl, S.al, hS, hl, fun p H' hp hn e m => by
    have s2 : Sat C ⟨fh, fw, fb, fv ++ [p], fg⟩ (μ ++ [.hand]) ρ σ H' := Sat.grow S hp hn e m
    exact kk p _ _ (s2.set (i := i) (o := some (.ref p)) (sv := .m μ.length) ⟨p, by show (fv ++ [p])[μ.length]? = some p; rw [← hi]; simp, rfl⟩)⟩
/-- a loop over the script -/
theorem s_forFz {K : PySem.W.Frag} {fh : Hp} {fb fv : List Addr} {fg : List (V × PyData)} {tb : TS} {i : Nat} {a : Addr} {ns : List Int} (I : Nat → List MO → List SV → Prop) (S : Sat C ⟨fh, [], fb, fv, fg⟩ μ ρ σ H) (hS : SqL K fh a (ns.map V.int)) (h : ∀ Q : VK, Q (.ref a) H → te σ H Q) (h0 : I 0 μ ρ)
    (hs : ∀ j z, ns[j]? = some z → ∀ μ' ρ' σ' H', I j μ' ρ' → Sat C ⟨fh, [], fb, fv, fg⟩ μ' (ρ'.set i (.d (.int z))) σ' H' →
      tb ⟨fun σ H => ∃ μ ρ, I (j + 1) μ ρ ∧ Sat C ⟨fh, [], fb, fv, fg⟩ μ ρ σ H, rt, nx, fun σ H => ∃ μ ρ, I (j + 1) μ ρ ∧ Sat C ⟨fh, [], fb, fv, fg⟩ μ ρ σ H⟩ σ' H')
    (hd : ∀ μ' ρ' σ' H', I ns.length μ' ρ' → Sat C ⟨fh, [], fb, fv, fg⟩ μ' ρ' σ' H' → nx σ' H') : tFor (iSeq K te) (gName i) tb ⟨nx, rt, bk, ct⟩ σ H := .inl <| h _ <| by
  have sq : ∀ {μ' ρ' σ' H'}, Sat C ⟨fh, [], fb, fv, fg⟩ μ' ρ' σ' H' → SqL K H' a (ns.map V.int) := fun S' => Same.seq (fun b o z => S'.fr b o z (by simp)) hS
  refine ⟨a, rfl, ⟨_, sq S⟩, fun j m σ H => m = ns.length - j ∧ j ≤ ns.length ∧ ∃ μ ρ, I j μ ρ ∧ Sat C ⟨fh, [], fb, fv, fg⟩ μ ρ σ H, ⟨ns.length, rfl, Nat.zero_le _, μ, ρ, h0, S⟩, ?_⟩
  rintro j m σ' H' ⟨rfl, hj, μ', ρ', hI, s2⟩
  have hq := sq s2
  by_cases hlt : j < ns.length
  · have hjy : j < (ns.map V.int).length := by rw [List.length_map]; exact hlt
    refine .inr ⟨⟨_, (ns.map V.int)[j], hq, by simp [hlt]⟩, fun σ H => ∃ μ ρ, I (j + 1) μ ρ ∧ Sat C ⟨fh, [], fb, fv, fg⟩ μ ρ σ H, fun σ3 H3 z => ⟨ns.length - (j + 1), by omega, rfl, hlt, z⟩, fun x H3 y => ?_⟩
    obtain ⟨e3, y⟩ := y
    subst e3
    have hx := y _ hq
    obtain ⟨z, hz⟩ : ∃ z, ns[j]? = some z := ⟨_, List.getElem?_eq_getElem hlt⟩
    rw [List.getElem?_map, hz] at hx
    cases hx
    exact hs j z hz μ' ρ' _ H3 hI (s2.setd (.int z))
  · have ej : j = ns.length := by omega
    subst ej
    exact .inl ⟨⟨_, hq, by rw [List.length_map]; exact Nat.le_refl _⟩, hd μ' ρ' σ' H' hI s2⟩
end
end KG
namespace KG
open PySem PySem.Spec L2
section
variable {P : Program} {w : World} {K : PySem.W.Frag} {mg : Str → Option Value} {base : Heap} {C : Addr}
/-! _law_hand -/
/-- x = [], the slots told -/
theorem s_newX {μ : List MO} {ρ : List SV} {σ : L2.St} {H : Hp} {nx : L2.St → Hp → Prop} {rt : VK} {bk ct : L2.St → Hp → Prop} {fh : Hp} {fw fb fv : List Addr} {fg : List (V × PyData)} {i : Nat} (S : Sat C ⟨fh, fw, fb, fv, fg⟩ μ ρ σ H) (hi : fv.length = μ.length) (k : ∀ p H', p ∉ fw → Sat C ⟨fh, fw, fb, fv ++ [p], fg⟩ (μ ++ [.lst []]) (ρ.set i (.m μ.length)) (σ.set i (some (.ref p))) H' → nx (σ.set i (some (.ref p))) H') : tAsg (tLst tNil) (gName i) ⟨nx, rt, bk, ct⟩ σ H :=
  ⟨Nat.zero_le _, fun p hp => by
    have s1 := S.newm' (p := p) (o := .lst []) (mo := .lst []) hp fun M _ _ => ⟨[], upd_same, .nil⟩
    have s2 := s1.set (i := i) (o := some (.ref p)) (sv := .m μ.length) ⟨p, by show (fv ++ [p])[μ.length]? = some p; rw [← hi]; simp, rfl⟩
    exact k p _ (fun z => S.al p (List.mem_append_left _ (S.wv p z)) hp) s2⟩
def absI (i : Int) : Int := if i < 0 then -i else i
theorem cmulR {i j : Int} (h1 : -(2 ^ 64) < j) (h2 : j < 2 ^ 64) : CMul i j := .inr ⟨h1, h2⟩
theorem sc__law_hand : FnScope (["_law_script", "_law_total", "_law_cells", "_law_cell"]) (["_law_script"]) (defScope (top 32)) := ⟨rfl, rfl, rfl, by decide +kernel, rfl, by decide +kernel, by decide +kernel⟩
theorem ok__law_hand (T : Txt K mg C) (F : Df K mg "_law_hand" (top 32) (["_law_script"])) : Cal P w K mg base CX0 1 "_law_hand" (["_law_script"]) (spNewH K C) := by
  refine F.cal fun f fd F => ?_
  have nd := sc__law_hand.nd
  refine F.ok sc__law_hand (fun vs H Q E h => ?_) (fun cdv A outer s H vs Q E hr h => ⟨_, (pss_cons (xset 1 nd (pe_op op_add (pe_callB (xlen K) (by rfl) T.len_ (by decide +kernel) (pa_cons (pv 0) pa_nil)) pe_int))
      (pss_cons (xset 2 nd (pe_lst pa_nil))
      (pss_cons (ps_for PassesOwn.never rfl (xseq K (h := (pv 0))) (pg_name (i := 3) nd rfl (by first | exact Or.inl rfl | exact Or.inr rfl)) (pss_cons (xset 1 nd (pe_op op_mod (pe_callTy call_int1 (by rfl) T.int_ (by decide +kernel) (pa_cons (pe_op op_add (pe_op op_mul (pv 1) pe_int) (pe_callTy call_int1 (by rfl) T.int_ (by decide +kernel) (pa_cons (pv 3) pa_nil))) pa_nil)) pe_int))
      (pss_one (ps_expr (pe_bm PySem.F.plainAttrs_list PySem.F.slot_list_append PySem.F.type_list_append mt_append (pv 2) (pa_cons (pe_callB call_abs (by rfl) T.abs_ (by decide +kernel) (pa_cons (pe_callTy call_int1 (by rfl) T.int_ (by decide +kernel) (pa_cons (pv 3) pa_nil)) pa_nil)) pa_nil))))))
      (pss_one (ps_ret (pe_lst (pa_cons (pv 2) (pa_cons pe_int (pa_cons pe_int (pa_cons (pv 1) pa_nil)))))))))), ?_⟩)
  · obtain ⟨B, ns, v, rfl, _⟩ := h; rfl
  obtain ⟨B, ns, v, rfl, al, hS, hl, k⟩ := h
  have S : Sat C ⟨H, [], B, [], []⟩ [] [.un, .un, .un, .un] (L2.start (["_law_script", "_law_total", "_law_cells", "_law_cell"]) [.ref v]) H :=
    ⟨by simp, al, .nil, .cons trivial (.cons trivial (.cons trivial (.cons trivial .nil))), fun a o q _ => q, fun a z => z, fun a z => .inl z, fun a z _ => z, fun g z => (by cases z)⟩
  have hx : (L2.start (["_law_script", "_law_total", "_law_cells", "_law_cell"]) [.ref v])[0]? = some (some (.ref v)) := rfl
  generalize L2.start (["_law_script", "_law_total", "_law_cells", "_law_cell"]) [.ref v] = σ0 at *
  have hx1 : ∀ (i : Nat) (o : Option V), i ≠ 0 → (σ0.set i o)[0]? = some (some (.ref v)) := fun i o hi => by rw [List.getElem?_set_ne hi]; exact hx
  refine s_seq (⟨_, hx, v, _, rfl, .inl hS, ?_⟩)
  have S := S.setd (i := 1) (v := .int (((ns.map V.int).length : Int) + 43)) (x := .int ((ns.length : Int) + 43)) (by rw [List.length_map]; exact .int _)
  refine ⟨_, _, rfl, rfl, ?_⟩
  refine s_seq (s_newX S rfl fun pt H1 hpt S => ?_)
  refine s_seq (s_forFz (ns := ns) (fun j μ ρ => μ = [.lst (((ns.take j).map absI).map .int)] ∧ ∃ t, 0 ≤ t ∧ t < 2147483563 ∧ ρ = [.un, .d (.int t), .m 0, .un]) S hS (fun Q q => ⟨_, by rw [List.getElem?_set_ne (by decide)]; exact hx1 1 _ (by decide), q⟩) ⟨rfl, _, by omega, by omega, rfl⟩ ?_ ?_)
  · rintro j z hz μ' ρ' σ' H' ⟨rfl, t, h1, h2, rfl⟩ S
    have hj := (List.getElem?_eq_some_iff.mp hz).1
    refine s_seq (s_asg1 S (je_op (je_cb (ja_cons (je_op (je_op (je_var rfl) je_int (rd_mul (cmulR (by decide) (by decide)))) (je_cb (ja_cons (je_var rfl) ja_nil) cd_int) rd_add) ja_nil) cd_int) je_int (rd_mod (by decide))) fun σ H S => ?_)
    refine s_app S rfl rfl ((je_cb (ja_cons (je_cb (ja_cons (je_var rfl) ja_nil) cd_int) ja_nil) cd_abs).eq (y := .int (absI z)) rfl) (by rw [List.length_map, List.length_map, List.length_take]; omega) ?_
    rintro _ H rfl S
    refine ⟨_, _, ⟨?_, _, Int.emod_nonneg _ (by decide), Int.emod_lt_of_pos _ (by decide), rfl⟩, S.forget (i := 3)⟩
    rw [take_snoc hz, List.map_append, List.map_append]; rfl
  · rintro μ' ρ' σ' H' ⟨rfl, t, h1, h2, rfl⟩ S
    rw [List.take_length] at S
    have S := Sat.freeze (fv := []) (μ := []) (i := 2) S rfl rfl (by simp) (by simp) (by simp)
    have J : JA C [] [.un, .d (.int t), .d (.list ((ns.map absI).map .int)), .un] (tCons (tVar 2) (tCons (tC (.int 0)) (tCons (tC (.int 0)) (tCons (tVar 1) tNil)))) (· = handD (ns.map absI) 0 0 t) := ja_cons (je_var rfl) (ja_cons je_int (ja_cons je_int (ja_cons (je_var rfl) ja_nil)))
    refine J _ σ' H' S (fun xs H1 => xs.length ≤ sizeLine ∧ ∀ p, H1 p = none → Q (.ref p) (upd H1 p (.lst xs))) fun vs H1 ds pd s1 e1 d1 => ?_
    subst pd
    refine ⟨Nat.le_trans (by rw [d1.length]; exact (show 4 ≤ 1000 by decide)) (by decide), fun q hq => ?_⟩
    refine k q _ (s1.fresh0 hq) (by rw [upd_same]; intro z; cases z) (fun b o z => Ex.new hq b o (s1.fr b o z (by simp))) (mo_hand.mpr ⟨ns.map absI, 0, 0, t, ⟨?_, by rw [List.length_map]; exact hl, by decide, by omega, by decide, h1, h2⟩, vs, upd_same, ?_⟩)
    · intro z hz
      obtain ⟨y, _, rfl⟩ := List.mem_map.mp hz
      unfold absI
      split <;> omega
    · refine d1.mono fun b o z => ?_
      obtain ⟨n, z⟩ := wo_some z
      refine wo_mk (fun m => ?_) (Ex.new hq b o z)
      rcases List.mem_cons.mp m with m | m
      · rw [m, hq] at z; cases z
      · exact n m
/-! _law_mixed -/
def R__law_mixed : Rel := fun ds P => ∃ n t : Int, ds = [.int n, .int t] ∧ P = fun d => ∃ r : Int, 0 ≤ r ∧ d = .int r
theorem sc__law_mixed : FnScope (["_law_number", "_law_turn", "_law_once", "_law_twice"]) (["_law_number", "_law_turn"]) (defScope (top 33)) := ⟨rfl, rfl, rfl, by decide +kernel, rfl, by decide +kernel, by decide +kernel⟩
theorem ok__law_mixed (T : Txt K mg C) (F : Df K mg "_law_mixed" (top 33) (["_law_number", "_law_turn"])) : Cal P w K mg base CX0 1 "_law_mixed" (["_law_number", "_law_turn"]) (spP C R__law_mixed) := by
  refine F.cal fun f fd F => ?_
  have nd := sc__law_mixed.nd
  refine okP F sc__law_mixed (fun ds P h => by obtain ⟨n, t, rfl, _⟩ := h; rfl) fun cdv A outer s H E hr => ⟨_, (pss_cons (xset 2 nd (pe_op op_mod (pe_callTy call_int1 (by rfl) T.int_ (by decide +kernel) (pa_cons (pe_op op_add (pe_op op_add (pe_op op_mul (pv 0) pe_int) (pe_op op_mul (pv 1) pe_int)) pe_int) pa_nil)) pe_int))
      (pss_cons (xset 3 nd (pe_op op_mod (pe_callTy call_int1 (by rfl) T.int_ (by decide +kernel) (pa_cons (pe_op op_add (pe_op op_add (pe_op op_mul (pv 2) (pv 2)) (pe_op op_mul (pv 1) pe_int)) (pe_op op_fdiv (pv 2) pe_int)) pa_nil)) pe_int))
      (pss_one (ps_ret (pe_op op_fdiv (pe_callTy call_int1 (by rfl) T.int_ (by decide +kernel) (pa_cons (pe_op op_mod (pe_callTy call_int1 (by rfl) T.int_ (by decide +kernel) (pa_cons (pe_op op_add (pe_op op_mul (pv 3) pe_int) (pe_op op_fdiv (pv 2) pe_int)) pa_nil)) pe_int) pa_nil)) pe_int))))), fun B σ ds P' Q r S k => ?_⟩
  obtain ⟨n, t, rfl, rfl⟩ := r
  refine s_seq (s_asg1 S (je_op (je_cb (ja_cons (je_op (je_op (je_op (je_var rfl) je_int (rd_mul (cmulR (by decide) (by decide)))) (je_op (je_var rfl) je_int (rd_mul (cmulR (by decide) (by decide)))) rd_add) je_int rd_add) ja_nil) cd_int) je_int (rd_mod (by decide))) fun σ H S => ?_)
  generalize ho : (n * 39373 + t * 6151 + 50021) % 2147483399 = once at *
  have o1 : 0 ≤ once := by rw [← ho]; exact Int.emod_nonneg _ (by decide)
  have o2 : once < 2147483399 := by rw [← ho]; exact Int.emod_lt_of_pos _ (by decide)
  refine s_seq (s_asg1 S (je_op (je_cb (ja_cons (je_op (je_op (je_op (je_var rfl) (je_var rfl) (rd_mul (cmulR (by omega) (by omega)))) (je_op (je_var rfl) je_int (rd_mul (cmulR (by decide) (by decide)))) rd_add) (je_op (je_var rfl) je_int (rd_fdiv ⟨by decide, by decide⟩)) rd_add) ja_nil) cd_int) je_int (rd_mod (by decide))) fun σ H S => ?_)
  refine s_retP S (je_op (je_cb (ja_cons (je_op (je_cb (ja_cons (je_op (je_op (je_var rfl) je_int (rd_mul (cmulR (by decide) (by decide)))) (je_op (je_var rfl) je_int (rd_fdiv ⟨by decide, by decide⟩)) rd_add) ja_nil) cd_int) je_int (rd_mod (by decide))) ja_nil) cd_int) je_int (rd_fdiv ⟨by decide, by decide⟩)) k ?_
  rintro _ rfl
  exact ⟨_, Int.ediv_nonneg (Int.emod_nonneg _ (by decide)) (by decide), rfl⟩
/-! _law_take -/
def isLt (m : Nat) (d : PyData) : Prop := ∃ r : Nat, r < m ∧ d = .int (r : Int)
def R__law_take : Rel := fun ds P => ∃ m : Nat, ds = [.int (m : Int)] ∧ 0 < m ∧ m < 1073741824 ∧ P = isLt m
theorem sc__law_take : FnScope (["_law_hand_here", "_law_many", "_law_cell", "_law_rest"]) (["_law_hand_here", "_law_many"]) (defScope (top 34)) := ⟨rfl, rfl, rfl, by decide +kernel, rfl, by decide +kernel, by decide +kernel⟩
theorem isLt_mod {m : Nat} (h : 0 < m) (i : Int) : isLt m (.int (i % (m : Int))) := by
  have h1 := Int.emod_nonneg i (show (m : Int) ≠ 0 by omega)
  have h2 := Int.emod_lt_of_pos i (show 0 < (m : Int) by omega)
  exact ⟨(i % (m : Int)).toNat, by omega, by congr 1; omega⟩
theorem ok__law_take (T : Txt K mg C) (F : Df K mg "_law_take" (top 34) (["_law_hand_here", "_law_many"])) (G__law_mixed : Cal P w K mg base CX0 1 "_law_mixed" (["_law_number", "_law_turn"]) (spP C R__law_mixed)) : Cal P w K mg base CX0 2 "_law_take" (["_law_hand_here", "_law_many"]) (spH C R__law_take) := by
  refine F.cal fun f fd F => ?_
  have nd := sc__law_take.nd
  refine okH F sc__law_take (fun ds P h => by obtain ⟨m, rfl, _⟩ := h; rfl) fun cdv A outer s H E hr => ⟨_, (pss_cons (ps_if (PW.pt (pw_and (pt_cmpR op_eq (pe_ix (xix K) (pv 0) pe_int (fun _ _ => rfl)) pe_int (nomark _)) (pw_and1 (pt_cmpR op_lt (pe_ix (xix K) (pv 0) pe_int (fun _ _ => rfl)) (pe_callB (xlen K) (by rfl) T.len_ (by decide +kernel) (pa_cons (pe_ix (xix K) (pv 0) pe_int (fun _ _ => rfl)) pa_nil)) (nomark _))))) (pss_cons (xset 2 nd (pe_ix (xix K) (pe_ix (xix K) (pv 0) pe_int (fun _ _ => rfl)) (pe_ix (xix K) (pv 0) pe_int (fun _ _ => rfl)) (fun _ _ => rfl)))
      (pss_cons (ps_asg (pe_op op_add (pe_ix (xix K) (pv 0) pe_int (fun _ _ => rfl)) pe_int) (pg_sub (pv 0) pe_int set_list))
      (pss_cons (ps_if (pt_cmpR op_lt (pv 2) (pe_op op_pow pe_int pe_int) (nomark _)) (pss_one (ps_ret (pe_op op_mod (pe_callTy call_int1 (by rfl) T.int_ (by decide +kernel) (pa_cons (xcall G__law_mixed hr (pa_cons (pe_op op_mod (pe_callTy call_int1 (by rfl) T.int_ (by decide +kernel) (pa_cons (pv 2) pa_nil)) pe_int) (pa_cons (pe_ix (xix K) (pv 0) pe_int (fun _ _ => rfl)) pa_nil))) pa_nil)) (pv 1)))) pss_nil)
      (pss_one (ps_asg (pv 2) (pg_sub (pv 0) pe_int set_list)))))) pss_nil)
      (pss_cons (ps_if (pt_cmpR op_gt (pe_ix (xix K) (pv 0) pe_int (fun _ _ => rfl)) pe_int (nomark _)) (pss_cons (xset 3 nd (pe_ix (xix K) (pv 0) pe_int (fun _ _ => rfl)))
      (pss_cons (ps_asg (pe_op op_fdiv (pe_callTy call_int1 (by rfl) T.int_ (by decide +kernel) (pa_cons (pv 3) pa_nil)) (pv 1)) (pg_sub (pv 0) pe_int set_list))
      (pss_one (ps_ret (pe_op op_mod (pe_callTy call_int1 (by rfl) T.int_ (by decide +kernel) (pa_cons (pv 3) pa_nil)) (pv 1)))))) pss_nil)
      (pss_cons (ps_asg (pe_op op_mod (pe_callTy call_int1 (by rfl) T.int_ (by decide +kernel) (pa_cons (pe_op op_add (pe_ix (xix K) (pv 0) pe_int (fun _ _ => rfl)) pe_int) pa_nil)) pe_int) (pg_sub (pv 0) pe_int set_list))
      (pss_one (ps_ret (pe_op op_mod (pe_callTy call_int1 (by rfl) T.int_ (by decide +kernel) (pa_cons (xcall G__law_mixed hr (pa_cons (pe_ix (xix K) (pv 0) pe_int (fun _ _ => rfl)) (pa_cons (pe_ix (xix K) (pv 0) pe_int (fun _ _ => rfl)) pa_nil))) pa_nil)) (pv 1))))))), fun B h σ ds P' Q hB r S k => ?_⟩
  obtain ⟨m, rfl, hm, hm2, rfl⟩ := r
  obtain ⟨cs, i, g, t, ho, S⟩ := S.open'
  obtain ⟨n, rfl⟩ : ∃ n : Nat, i = (n : Int) := ⟨i.toNat, by have := ho.2.2.1; omega⟩
  have mixed : ∀ {μ : List MO} {ρ : List SV} {ta tb : TE} {x y : Int}, ρ[1]? = some (.d (.int (m : Int))) → JE C μ ρ ta (· = .int x) → JE C μ ρ tb (· = .int y) →
      JE C μ ρ (tOp (rI (fun _ j => 0 < j) fun i j => .int (i % j)) (tCB (fun xs H Q => (∃ i, xs = [.int i] ∧ Q (.int i) H) ∨ ∃ k, xs = [.bl k] ∧ Q (.int (if k then 1 else 0)) H) (tCons (tCall (spP C R__law_mixed) [] E0 (tCons ta (tCons tb tNil))) tNil)) (tVar 1)) (isLt m) := fun {μ ρ ta tb x y} hm1 ha hb => by
    refine jn_op (P := fun d => ∃ r : Int, 0 ≤ r ∧ d = .int r) (R := (· = .int (m : Int))) (jn_cb (P := fun ds => ∃ r : Int, 0 ≤ r ∧ ds = [.int r]) (jn_cons (P := fun d => ∃ r : Int, 0 ≤ r ∧ d = .int r) (R := (· = [])) (je_call (ja_cons ha (ja_cons hb ja_nil)) ⟨x, y, rfl, rfl⟩) ja_nil ?_) ?_) (je_var hm1) ?_
    · rintro _ _ ⟨r, hr, rfl⟩ rfl; exact ⟨r, hr, rfl⟩
    · rintro _ ⟨r, hr, rfl⟩
      exact fun M H vs al h Q q => cd_int M H vs al h Q fun v H' d pd e dv => q v H' d ⟨r, hr, pd⟩ e dv
    · rintro _ _ ⟨r, hr, rfl⟩ rfl
      exact fun M H v u al h1 h2 Q q => rd_mod (by omega) M H v u al h1 h2 Q fun v H' d pd e dv => q v H' d (by rw [pd]; exact isLt_mod hm r) e dv
  have tail : ∀ {cs : List Int} {n : Nat} {g t : Int} {a2 : SV} {σ : L2.St} {H' : Hp}, HandOk cs n g t → Sat C ⟨H, [h], B, [h], []⟩ [.lst (handD cs n g t)] [.m 0, .d (.int (m : Int)), a2, .un] σ H' →
      (tSeq (tIfS (tTest (tOp (rI0 fun i j => V.bl (decide (j < i))) (tOp (rIx K) (tVar 0) (tC (.int 2))) (tC (.int 0)))) (tSeq (tAsg (tOp (rIx K) (tVar 0) (tC (.int 2))) (gName 3)) (tSeq (tAsg (tOp (rI CDiv fun i j => .int (i / j)) (tCB (fun xs H Q => (∃ i, xs = [.int i] ∧ Q (.int i) H) ∨ ∃ k, xs = [.bl k] ∧ Q (.int (if k then 1 else 0)) H) (tCons (tVar 3) tNil)) (tVar 1)) (gSub (tVar 0) (tC (.int 2)) rSetL))
        (tRet (tOp (rI (fun _ j => 0 < j) fun i j => .int (i % j)) (tCB (fun xs H Q => (∃ i, xs = [.int i] ∧ Q (.int i) H) ∨ ∃ k, xs = [.bl k] ∧ Q (.int (if k then 1 else 0)) H) (tCons (tVar 3) tNil)) (tVar 1))))) tNext)
        (tSeq (tAsg (tOp (rI (fun _ j => 0 < j) fun i j => .int (i % j)) (tCB (fun xs H Q => (∃ i, xs = [.int i] ∧ Q (.int i) H) ∨ ∃ k, xs = [.bl k] ∧ Q (.int (if k then 1 else 0)) H) (tCons (tOp (rI0 fun i j => .int (i + j)) (tOp (rIx K) (tVar 0) (tC (.int 3))) (tC (.int 1))) tNil)) (tC (.int 2147483549))) (gSub (tVar 0) (tC (.int 3)) rSetL))
          (tRet (tOp (rI (fun _ j => 0 < j) fun i j => .int (i % j)) (tCB (fun xs H Q => (∃ i, xs = [.int i] ∧ Q (.int i) H) ∨ ∃ k, xs = [.bl k] ∧ Q (.int (if k then 1 else 0)) H) (tCons (tCall (spP C R__law_mixed) [] E0 (tCons (tOp (rIx K) (tVar 0) (tC (.int 3))) (tCons (tOp (rIx K) (tVar 0) (tC (.int 1))) tNil))) tNil)) (tVar 1))))) ⟨fun _ H' => Q .non H', Q, fun _ _ => False, fun _ _ => False⟩ σ H' := fun {cs n g t a2 σ H'} ho S => by
    obtain ⟨c1, c2, c3, c4, c5, c6, c7⟩ := ho
    refine s_seq (s_if S (jt_test (je_op (je_ixm (n := 2) rfl rfl je_int rfl) je_int rd_gt)) (fun z H S => ?_) fun z H S => s_nx ?_)
    · refine s_seq (s_asg1 S (je_ixm (n := 2) rfl rfl je_int rfl) fun σ H S => ?_)
      refine s_seq (s_setm (n := 2) S rfl rfl (je_op (je_cb (ja_cons (je_var rfl) ja_nil) cd_int) (je_var rfl) (rd_fdiv ⟨by omega, by omega⟩)) je_int (by show 2 < 4; decide) ?_)
      rintro _ H rfl S
      refine s_retHL hB S ⟨c1, c2, c3, c4, Int.ediv_nonneg c5 (by omega), c6, c7⟩ (je_op (je_cb (ja_cons (je_var rfl) ja_nil) cd_int) (je_var rfl) (rd_mod (by omega))) k ?_
      rintro _ rfl
      exact isLt_mod hm _
    · refine s_seq (s_setm (n := 3) S rfl rfl (je_op (je_cb (ja_cons (je_op (je_ixm (n := 3) rfl rfl je_int rfl) je_int rd_add) ja_nil) cd_int) je_int (rd_mod (by decide))) je_int (by show 3 < 4; decide) ?_)
      rintro _ H rfl S
      have e1 := Int.emod_nonneg (t + 1) (show (2147483549 : Int) ≠ 0 by decide)
      have e2 := Int.emod_lt_of_pos (t + 1) (show (0 : Int) < 2147483549 by decide)
      exact s_retHL hB S (cs := cs) (i := n) (g := g) ⟨c1, c2, c3, c4, c5, e1, by omega⟩ (mixed rfl (je_ixm (n := 3) rfl rfl je_int rfl) (je_ixm (n := 1) rfl rfl je_int rfl)) k fun _ h => h
  have ho' := ho
  obtain ⟨c1, c2, c3, c4, c5, c6, c7⟩ := ho
  refine s_seq (s_if S (jt_and (jt_test (je_op (je_ixm (n := 2) rfl rfl je_int rfl) je_int rd_eqI)) fun _ => jt_test (je_op (je_ixm (n := 1) rfl rfl je_int rfl) (je_cb (ja_cons (je_ixm (n := 0) rfl rfl je_int rfl) ja_nil) (cd_len rfl)) rd_lt)) (fun z H S => ?_) fun z H S => s_nx (tail ho' S))
  have z : g = 0 ∧ (n : Int) < cs.length := by simpa using z
  have hn : n < cs.length := by omega
  obtain ⟨x, hx⟩ : ∃ x, cs[n]? = some x := ⟨_, List.getElem?_eq_getElem hn⟩
  have hx0 := c1 x (List.mem_of_getElem? hx)
  refine s_seq (s_asg1 S (je_op (je_ixm (n := 0) rfl rfl je_int rfl) (je_ixm (n := 1) rfl rfl je_int rfl) (rd_ix (n := n) rfl (map_at hx))) fun σ H S => ?_)
  refine s_seq (s_setm (n := 1) S rfl rfl ((je_op (je_ixm (n := 1) rfl rfl je_int rfl) je_int rd_add).eq (y := .int ((n + 1 : Nat) : Int)) (by congr 1)) je_int (by show 1 < 4; decide) ?_)
  rintro _ H rfl S
  have S : Sat C ⟨_, [h], B, [h], []⟩ [.lst (handD cs ((n + 1 : Nat) : Int) g t)] _ _ _ := S
  have ho2 : HandOk cs ((n + 1 : Nat) : Int) g t := ⟨c1, c2, by omega, by omega, c5, c6, c7⟩
  refine s_seq (s_if S (jt_test (je_op (je_var rfl) (je_op je_int je_int (rd_pow ⟨by decide, by decide, by decide⟩)) rd_lt)) (fun z H S => ?_) fun z H S => s_nx ?_)
  · exact s_retHL hB S ho2 (mixed rfl (je_op (je_cb (ja_cons (je_var rfl) ja_nil) cd_int) je_int (rd_mod (by decide))) (je_ixm (n := 1) rfl rfl je_int rfl)) k fun _ h => h
  · refine s_setm (n := 2) S rfl rfl (je_var rfl) je_int (by show 2 < 4; decide) ?_
    rintro _ H rfl S
    exact tail (cs := cs) (n := n + 1) (g := x) (t := t) ⟨c1, c2, by omega, by omega, hx0, c6, c7⟩ S
/-! _law_sizes -/
def R__law_sizes : Rel := fun ds P => ds = [] ∧ P = fun d => ∃ ns : List Nat, d = .list (ns.map fun n : Nat => PyData.int (n : Int)) ∧ 1 ≤ ns.length ∧ ns.length ≤ 3 ∧ (∀ n ∈ ns, 1 ≤ n ∧ n ≤ 4) ∧ ns.sum ≤ 7
theorem sc__law_sizes : FnScope (["_law_hand_here"]) (["_law_hand_here"]) (defScope (top 36)) := ⟨rfl, rfl, rfl, by decide +kernel, rfl, by decide +kernel, by decide +kernel⟩
end
end KG
namespace KG
open PySem PySem.Spec L2
section
variable {C : Addr} {μ : List MO} {ρ : List SV} {ta tb te tc : TE} {P R : PyData → Prop} {F : Frm} {σ : St} {H : Hp} {nx : L2.St → Hp → Prop} {rt : VK} {bk ct : L2.St → Hp → Prop} {K : PySem.W.Frag}
/-! draws -/
theorem je_take {E : XK} {i k m : Nat} (h1 : ρ[i]? = some (.m k)) (h2 : μ[k]? = some .hand) (h : JE C μ ρ te (· = .int (m : Int))) (hm : 0 < m) (hm2 : m < 1073741824) : JE C μ ρ (tCall (spH C R__law_take) [] E (tCons (tVar i) (tCons te tNil))) (isLt m) :=
  je_callH h1 h2 (ja_cons h ja_nil) ⟨m, rfl, hm, hm2, rfl⟩
theorem jn_ixq {x : PyData} {ds : List PyData} {m : Nat} (ha : JE C μ ρ ta (· = x)) (hx : sqD x = some ds) (hb : JE C μ ρ tb (isLt m)) (k : ∀ r, r < m → ∃ d, ds[r]? = some d ∧ P d) : JE C μ ρ (tOp (rIx K) ta tb) P := by
  refine jn_op ha hb ?_
  rintro _ _ rfl ⟨r, hr, rfl⟩
  obtain ⟨d, hd, pd⟩ := k r hr
  exact fun M H v u al h1 h2 Q q => rd_ix hx hd M H v u al h1 h2 Q fun w H' e pe ee de => q w H' e (by rw [pe]; exact pd) ee de
theorem jt_lt_eq {m : Nat} {z : Int} (ha : JE C μ ρ ta (isLt m)) : JT C μ ρ (tTest (tOp rEq ta (tC (.int z)))) (fun _ => True) := by
  refine jn_test (P := fun d => ∃ b, d = .bool b) (jn_op ha (je_int (i := z)) ?_) (by rintro _ ⟨b, rfl⟩; exact ⟨b, rfl, trivial⟩)
  rintro _ _ ⟨r, hr, rfl⟩ rfl
  exact fun M H v u al h1 h2 Q q => rd_eqI M H v u al h1 h2 Q fun w H' e pe ee de => q w H' e ⟨_, pe⟩ ee de
theorem jt_lt_gt {m : Nat} {z : Int} (ha : JE C μ ρ ta (isLt m)) : JT C μ ρ (tTest (tOp (rI0 fun i j => .bl (decide (j < i))) ta (tC (.int z)))) (fun _ => True) := by
  refine jn_test (P := fun d => ∃ b, d = .bool b) (jn_op ha (je_int (i := z)) ?_) (by rintro _ ⟨b, rfl⟩; exact ⟨b, rfl, trivial⟩)
  rintro _ _ ⟨r, hr, rfl⟩ rfl
  exact fun M H v u al h1 h2 Q q => rd_gt M H v u al h1 h2 Q fun w H' e pe ee de => q w H' e ⟨_, pe⟩ ee de
theorem jn_andB {t u : TT} {b : Bool} (h : JT C μ ρ t (· = b)) (k : b = true → JT C μ ρ u (fun _ => True)) : JT C μ ρ (tAnd t u) (fun c => c = true → b = true) :=
  jn_and h (fun e => k e.symm) (fun e _ _ _ => e.symm) (fun _ z => by cases z)
theorem s_cut {t : TS} (I : List MO → List SV → Prop) (S : Sat C F μ ρ σ H) (h : ∀ nx' : L2.St → Hp → Prop, (∀ μ ρ σ H, I μ ρ → Sat C F μ ρ σ H → nx' σ H) → t ⟨nx', rt, bk, ct⟩ σ H) (k : ∀ μ ρ σ H, I μ ρ → Sat C F μ ρ σ H → nx σ H) : t ⟨nx, rt, bk, ct⟩ σ H := h nx k
end
section
variable {P : Program} {w : World} {K : PySem.W.Frag} {mg : Str → Option Value} {base : Heap} {C : Addr}
/-! _law_sizes -/
def szD (ns : List Nat) : PyData := .list (ns.map fun n : Nat => PyData.int (n : Int))
def SzOk (ns : List Nat) : Prop := 1 ≤ ns.length ∧ ns.length ≤ 3 ∧ (∀ n ∈ ns, 1 ≤ n ∧ n ≤ 4) ∧ ns.sum ≤ 7
def R__law_sizes' : Rel := fun ds P => ds = [] ∧ P = fun d => ∃ ns : List Nat, d = szD ns ∧ SzOk ns
theorem ok__law_sizes (T : Txt K mg C) (F : Df K mg "_law_sizes" (top 36) (["_law_hand_here"])) (G__law_take : Cal P w K mg base CX0 2 "_law_take" (["_law_hand_here", "_law_many"]) (spH C R__law_take)) : Cal P w K mg base CX0 3 "_law_sizes" (["_law_hand_here"]) (spH C R__law_sizes') := by
  refine F.cal fun f fd F => ?_
  have nd := sc__law_sizes.nd
  refine okH F sc__law_sizes (fun ds P h => by obtain ⟨rfl, _⟩ := h; rfl) fun cdv A outer s H E hr => ⟨_, (pss_cons (ps_if (pt_cmpR op_eq (xcall G__law_take hr (pa_cons (pv 0) (pa_cons pe_int pa_nil))) pe_int (nomark _)) (pss_one (ps_ret (pe_ix (xix K) (pe_lst (pa_cons (pe_lst (pa_cons pe_int (pa_cons pe_int (pa_cons pe_int pa_nil)))) (pa_cons (pe_lst (pa_cons pe_int (pa_cons pe_int (pa_cons pe_int pa_nil)))) (pa_cons (pe_lst (pa_cons pe_int (pa_cons pe_int (pa_cons pe_int pa_nil)))) (pa_cons (pe_lst (pa_cons pe_int (pa_cons pe_int (pa_cons pe_int pa_nil)))) pa_nil))))) (xcall G__law_take hr (pa_cons (pv 0) (pa_cons pe_int pa_nil))) (fun _ _ => rfl)))) pss_nil)
      (pss_one (ps_ret (pe_lst (pa_cons (pe_ix (xix K) (pe_lst (pa_cons pe_int (pa_cons pe_int (pa_cons pe_int (pa_cons pe_int (pa_cons pe_int pa_nil)))))) (xcall G__law_take hr (pa_cons (pv 0) (pa_cons pe_int pa_nil))) (fun _ _ => rfl)) (pa_cons (pe_ix (xix K) (pe_lst (pa_cons pe_int (pa_cons pe_int (pa_cons pe_int (pa_cons pe_int (pa_cons pe_int pa_nil)))))) (xcall G__law_take hr (pa_cons (pv 0) (pa_cons pe_int pa_nil))) (fun _ _ => rfl)) pa_nil)))))), fun B h σ ds P' Q hB r S k => ?_⟩
  obtain ⟨rfl, rfl⟩ := r
  have tk : ∀ {m : Nat}, 0 < m → m < 1073741824 → JE C [.hand] [.m 0] (tCall (spH C R__law_take) [] E0 (tCons (tVar 0) (tCons (tC (.int (m : Int))) tNil))) (isLt m) := fun h1 h2 => je_take rfl rfl je_int h1 h2
  refine s_seq (s_ifn S (jt_lt_eq (tk (m := 4) (by decide) (by decide))) (fun _ H S => ?_) fun _ H S => s_nx ?_)
  · have r3 : ∀ a b c : Int, JE C [.hand] [.m 0] (tLst (tCons (tC (.int a)) (tCons (tC (.int b)) (tCons (tC (.int c)) tNil)))) (· = .list [.int a, .int b, .int c]) := fun a b c => je_lst (ja_cons je_int (ja_cons je_int (ja_cons je_int ja_nil)))
    refine s_retH hB S (jn_ixq (P := fun d => ∃ ns : List Nat, d = szD ns ∧ SzOk ns) (je_lst (ja_cons (r3 _ _ _) (ja_cons (r3 _ _ _) (ja_cons (r3 _ _ _) (ja_cons (r3 _ _ _) ja_nil))))) rfl (tk (m := 4) (by decide) (by decide)) ?_) k fun _ h => h
    intro r hr
    rcases r with _ | _ | _ | _ | r
    · exact ⟨_, rfl, [2, 2, 1], rfl, by decide, by decide, by decide, by decide⟩
    · exact ⟨_, rfl, [2, 1, 2], rfl, by decide, by decide, by decide, by decide⟩
    · exact ⟨_, rfl, [1, 2, 2], rfl, by decide, by decide, by decide, by decide⟩
    · exact ⟨_, rfl, [2, 1, 1], rfl, by decide, by decide, by decide, by decide⟩
    · omega
  · have r5 : JE C [.hand] [.m 0] (tOp (rIx K) (tLst (tCons (tC (.int 2)) (tCons (tC (.int 3)) (tCons (tC (.int 2)) (tCons (tC (.int 3)) (tCons (tC (.int 1)) tNil)))))) (tCall (spH C R__law_take) [] E0 (tCons (tVar 0) (tCons (tC (.int 5)) tNil)))) (fun d => ∃ n : Nat, d = .int (n : Int) ∧ 1 ≤ n ∧ n ≤ 3) := by
      refine jn_ixq (je_lst (ja_cons je_int (ja_cons je_int (ja_cons je_int (ja_cons je_int (ja_cons je_int ja_nil)))))) rfl (tk (m := 5) (by decide) (by decide)) ?_
      intro r hr
      rcases r with _ | _ | _ | _ | _ | r
      · exact ⟨_, rfl, 2, rfl, by decide, by decide⟩
      · exact ⟨_, rfl, 3, rfl, by decide, by decide⟩
      · exact ⟨_, rfl, 2, rfl, by decide, by decide⟩
      · exact ⟨_, rfl, 3, rfl, by decide, by decide⟩
      · exact ⟨_, rfl, 1, rfl, by decide, by decide⟩
      · omega
    refine s_retH hB S (jn_lst (P := fun ds => ∃ a b : Nat, ds = [.int (a : Int), .int (b : Int)] ∧ (1 ≤ a ∧ a ≤ 3) ∧ 1 ≤ b ∧ b ≤ 3) (jn_cons r5 (jn_cons (R := (· = [])) (S := fun ds => ∃ b : Nat, ds = [.int (b : Int)] ∧ 1 ≤ b ∧ b ≤ 3) r5 ja_nil ?_) ?_) ?_) k ?_
    · rintro _ _ ⟨n, rfl, h1, h2⟩ rfl; exact ⟨n, rfl, h1, h2⟩
    · rintro _ _ ⟨n, rfl, h1, h2⟩ ⟨b, rfl, h3, h4⟩; exact ⟨n, b, rfl, ⟨h1, h2⟩, h3, h4⟩
    · rintro _ ⟨a, b, rfl, _⟩; show 2 ≤ 1000; decide
    · rintro _ ⟨_, ⟨a, b, rfl, ⟨h1, h2⟩, h3, h4⟩, rfl⟩
      refine ⟨[a, b], rfl, by show 1 ≤ 2; decide, by show 2 ≤ 3; decide, ?_, ?_⟩
      · intro n hn
        simp only [List.mem_cons, List.not_mem_nil, or_false] at hn
        omega
      · simp only [List.sum_cons, List.sum_nil]; omega
end
/-! steps told so far -/
structure TOk (L : List Stp) : Prop where
  con : Con L
  nm : ∀ s ∈ L, s.k ≠ .kept → 0 ≤ s.n ∧ s.n < L.length
def NmOk (L : List Stp) (s : Stp) : Prop := (s.k = .kept → s.n = -1) ∧ (s.k ≠ .kept → s.n = L.length ∨ ∃ u ∈ L, shape u = shape s ∧ s.n = u.n)
theorem TOk.snoc {L : List Stp} {s : Stp} (T : TOk L) (h : NmOk L s) : TOk (L ++ [s]) := by
  have hs : s.k ≠ .kept → 0 ≤ s.n ∧ s.n < L.length + 1 := fun hk => by
    rcases h.2 hk with e | ⟨u, hu, sh, e⟩
    · rw [e]; omega
    · have ku : u.k ≠ .kept := fun q => hk ((congrArg Prod.fst sh).symm.trans q)
      have := T.nm u hu ku
      rw [e]; omega
  have key : ∀ t ∈ L, s.k ≠ .kept → t.k ≠ .kept → s.n = t.n → shape s = shape t := fun t ht hk kt e => by
    rcases h.2 hk with e2 | ⟨u, hu, sh, e2⟩
    · have := T.nm t ht kt; omega
    · have ku : u.k ≠ .kept := fun q => hk ((congrArg Prod.fst sh).symm.trans q)
      rw [← sh]
      exact T.con u hu t ht ku kt (by rw [← e2, e])
  refine ⟨fun a ha b hb ka kb e => ?_, fun a ha ka => ?_⟩
  · rcases List.mem_append.mp ha with za | za
    · rcases List.mem_append.mp hb with zb | zb
      · exact T.con a za b zb ka kb e
      · rw [List.mem_singleton.mp zb] at kb e ⊢
        exact (key a za kb ka e.symm).symm
    · rw [List.mem_singleton.mp za] at ka e ⊢
      rcases List.mem_append.mp hb with zb | zb
      · exact key b zb ka kb e
      · rw [List.mem_singleton.mp zb]
  · rw [List.length_append]
    simp only [List.length_cons, List.length_nil]
    rcases List.mem_append.mp ha with za | za
    · have := T.nm a za ka; omega
    · rw [List.mem_singleton.mp za] at ka ⊢
      have := hs ka; omega
theorem Asc.snoc {x : Int} : ∀ {lo hi : Int} {xs : List Int}, Asc lo hi xs → hi < x → lo < x → Asc lo x (xs ++ [x])
  | lo, hi, [], _, _, h => ⟨by omega, Int.le_refl _, trivial⟩
  | lo, hi, y :: ys, ⟨a, b, c⟩, h1, h2 => ⟨a, by omega, Asc.snoc c h1 (by omega)⟩
/-- the step that data tells -/
def kdOf (s : Str) : Kd := if s = "any" then .any else if s = "kept" then .kept else .adds
theorem kdOf_s (k : Kd) : kdOf k.s = k := by
  cases k
  · show (if ("any" : Str) = "any" then Kd.any else _) = _; exact if_pos rfl
  · show (if ("kept" : Str) = "any" then Kd.any else if ("kept" : Str) = "kept" then Kd.kept else _) = _; rw [if_neg s_ka, if_pos rfl]
  · show (if ("adds" : Str) = "any" then Kd.any else if ("adds" : Str) = "kept" then Kd.kept else _) = _; rw [if_neg s_da, if_neg s_dk]
def intD : PyData → Int
  | .int z => z
  | _ => 0
def decS : PyData → Stp
  | .tuple [.int c, .str k, .tuple b, .int n] => ⟨c, kdOf k, b.map intD, n⟩
  | _ => s0
theorem decS_enc (s : Stp) : decS (enc s) = s := by
  obtain ⟨c, k, b, n⟩ := s
  show Stp.mk c (kdOf k.s) ((b.map .int).map intD) n = _
  rw [kdOf_s, List.map_map]
  congr 1
  exact List.map_id'' (fun _ => rfl) b
theorem outs_dec (q : Stp → Bool) (L : List Stp) : outs (fun d => q (decS d)) (fun d => d) (L.map enc) = (L.filter q).map enc := by
  unfold outs
  rw [List.map_id', List.filter_map]
  congr 1
  refine List.filter_congr fun s _ => ?_
  show q (decS (enc s)) = q s
  rw [decS_enc]
/-! a program under way -/
structure PrgW (c : Int) (p : Prg) : Prop where
  st : ∀ k s, p[k]? = some s → StepOk c k s
  na : ∀ s ∈ p, ∀ q ∈ s.b, ∀ t, p[q.toNat]? = some t → t.k ≠ .adds
theorem PrgW.snoc {c : Int} {p : Prg} {s : Stp} (W : PrgW c p) (h : StepOk c p.length s) (hn : ∀ q ∈ s.b, ∀ t, p[q.toNat]? = some t → t.k ≠ .adds) : PrgW c (p ++ [s]) := by
  have gt : ∀ {i : Nat} {t : Stp}, (p ++ [s])[i]? = some t → p[i]? = some t ∨ (i = p.length ∧ t = s) := fun {i t} hi => by
    by_cases l : i < p.length
    · rw [List.getElem?_append_left l] at hi; exact .inl hi
    · have l2 := (List.getElem?_eq_some_iff.mp hi).1
      rw [List.length_append] at l2
      simp only [List.length_cons, List.length_nil] at l2
      have e : i = p.length := by omega
      subst e
      simp at hi
      exact .inr ⟨rfl, hi.symm⟩
  refine ⟨fun k t hk => ?_, fun t ht q hq u hu => ?_⟩
  · rcases gt hk with z | ⟨rfl, rfl⟩
    · exact W.st k t z
    · exact h
  · rcases List.mem_append.mp ht with z | z
    · obtain ⟨i, hi⟩ := List.mem_iff_getElem?.mp z
      have hil := (List.getElem?_eq_some_iff.mp hi).1
      have h1 := (W.st i t hi).asc.mem q hq
      have h2 : lastP t.k i ≤ (i : Int) := by unfold lastP; split <;> omega
      rcases gt hu with z2 | ⟨z2, _⟩
      · exact W.na t z q hq u z2
      · omega
    · rw [List.mem_singleton.mp z] at hq
      rcases gt hu with z2 | ⟨z2, rfl⟩
      · exact hn q hq u z2
      · intro e
        have h1 := h.asc.mem q hq
        rw [e] at h1
        have h2 : lastP .adds p.length = (p.length : Int) - 1 := rfl
        omega
end KG
namespace KG
open PySem PySem.Spec L2
section
variable {P : Program} {w : World} {K : PySem.W.Frag} {mg : Str → Option Value} {base : Heap} {C : Addr}
/-! _law_steps -/
def spSteps (C : Addr) : Sp := fun vs H Q _ => ∃ (B : List Addr) (h t : Addr) (c n : Nat) (L : List Stp), vs = [.ref h, .int (c : Int), .int (n : Int), .ref t] ∧ h ∈ B ∧ t ∈ B ∧ h ≠ t ∧ (∀ a ∈ B, H a ≠ none) ∧ MoAt C B H h .hand ∧ MoAt C B H t (.lst (L.map enc)) ∧ 1 ≤ c ∧ c ≤ 3 ∧ n ≤ 4 ∧ L.length + n ≤ 7 ∧ TOk L ∧
  ∀ v H' p, PrgW (c : Int) p → p.length = n → TOk (L ++ p) → ExB [h, t] H H' → MoAt C B H' h .hand → MoAt C B H' t (.lst ((L ++ p).map enc)) → Dt C (wo B H') v (encP p) → Q v H'
theorem sc__law_steps : FnScope (["_law_hand_here", "_law_cells", "_law_size", "_law_told", "_law_steps_here", "_law_place", "_law_kind", "_law_cell", "_law_by", "_law_k", "_law_name", "_law_alike", "_law_step"]) (["_law_hand_here", "_law_cells", "_law_size", "_law_told"]) (defScope (top 38)) := ⟨rfl, rfl, rfl, by decide +kernel, rfl, by decide +kernel, by decide +kernel⟩
theorem kds6 : ∀ r, r < 6 → ∃ d, [PyData.str "any", .str "any", .str "any", .str "kept", .str "kept", .str "adds"][r]? = some d ∧ ∃ k : Kd, d = .str k.s := by
  intro r hr
  rcases r with _ | _ | _ | _ | _ | _ | r
  · exact ⟨_, rfl, .any, rfl⟩
  · exact ⟨_, rfl, .any, rfl⟩
  · exact ⟨_, rfl, .any, rfl⟩
  · exact ⟨_, rfl, .kept, rfl⟩
  · exact ⟨_, rfl, .kept, rfl⟩
  · exact ⟨_, rfl, .adds, rfl⟩
  · omega
theorem Asc.last {kd : Kd} {j : Nat} {b : List Int} (h : Asc (-1) ((j : Int) - 1) b) (hk : kd = .kept → b = []) : Asc (-1) (lastP kd j) b := by
  cases kd with
  | any => exact h.hi fun x hx => by have := (h.mem x hx).2; show x ≤ (j : Int); omega
  | kept => rw [hk rfl]; trivial
  | adds => exact h
theorem ok__law_steps (T : Txt K mg C) (F : Df K mg "_law_steps" (top 38) (["_law_hand_here", "_law_cells", "_law_size", "_law_told"])) (G__law_take : Cal P w K mg base CX0 2 "_law_take" (["_law_hand_here", "_law_many"]) (spH C R__law_take)) (G__law_shape : Cal P w K mg base CX0 1 "_law_shape" (["_law_step"]) (spP C R__law_shape)) : Cal P w K mg base CX0 3 "_law_steps" (["_law_hand_here", "_law_cells", "_law_size", "_law_told"]) (spSteps C) := by
  refine F.cal fun f fd F => ?_
  have nd := sc__law_steps.nd
  refine F.ok sc__law_steps (fun vs H Q E h => ?_) (fun cdv A outer s H vs Q E hr h => ⟨_, (pss_cons (xset 4 nd (pe_lst pa_nil))
      (pss_cons (ps_for PassesOwn.never rfl (pi_range1 (by rfl) T.range_ (pa_cons (pv 2) pa_nil)) (pg_name (i := 5) nd rfl (by first | exact Or.inl rfl | exact Or.inr rfl)) (pss_cons (xset 6 nd (pe_ix (xix K) (pe_lst (pa_cons pe_str (pa_cons pe_str (pa_cons pe_str (pa_cons pe_str (pa_cons pe_str (pa_cons pe_str pa_nil))))))) (xcall G__law_take hr (pa_cons (pv 0) (pa_cons pe_int pa_nil))) (fun _ _ => rfl)))
      (pss_cons (xset 7 nd (xcall G__law_take hr (pa_cons (pv 0) (pa_cons (pv 1) pa_nil))))
      (pss_cons (xset 8 nd (pe_lst pa_nil))
      (pss_cons (ps_if (pt_cmpR op_ne (pv 6) pe_str (nomark _)) (pss_one (ps_for PassesOwn.never rfl (pi_range1 (by rfl) T.range_ (pa_cons (pv 5) pa_nil)) (pg_name (i := 9) nd rfl (by first | exact Or.inl rfl | exact Or.inr rfl)) (pss_one (ps_if (PW.pt (pw_and (pt_cmpR op_ne (pe_ix (xix K) (pe_ix (xix K) (pv 4) (pv 9) (fun _ _ => rfl)) pe_int (fun _ _ => rfl)) pe_str (nomark _)) (pw_and1 (pt_cmpR op_eq (xcall G__law_take hr (pa_cons (pv 0) (pa_cons pe_int pa_nil))) pe_int (nomark _))))) (pss_one (ps_expr (pe_bm PySem.F.plainAttrs_list PySem.F.slot_list_append PySem.F.type_list_append mt_append (pv 8) (pa_cons (pv 9) pa_nil)))) pss_nil)))) pss_nil)
      (pss_cons (ps_if (PW.pt (pw_and (pt_cmpR op_eq (pv 6) pe_str (nomark _)) (pw_and1 (pt_cmpR op_gt (xcall G__law_take hr (pa_cons (pv 0) (pa_cons pe_int pa_nil))) pe_int (nomark _))))) (pss_one (ps_expr (pe_bm PySem.F.plainAttrs_list PySem.F.slot_list_append PySem.F.type_list_append mt_append (pv 8) (pa_cons (pv 5) pa_nil)))) pss_nil)
      (pss_cons (xset 10 nd (pe_un un_neg pe_int))
      (pss_cons (ps_if (pt_cmpR op_ne (pv 6) pe_str (nomark _)) (pss_cons (xset 10 nd (pe_callB (xlen K) (by rfl) T.len_ (by decide +kernel) (pa_cons (pv 3) pa_nil)))
      (pss_one (ps_if (pt_cmpR op_eq (xcall G__law_take hr (pa_cons (pv 0) (pa_cons pe_int pa_nil))) pe_int (nomark _)) (pss_cons (ps_setLc (i := 11) rfl nd rfl rfl (sw_true rfl rfl rfl (by decide +kernel)) (own := [("_law_step", 12)]) (g := gName 12) (xseq K (h := (pv 3))) (blkOk_by (N := ["_law_hand_here", "_law_cells", "_law_size", "_law_told", "_law_steps_here", "_law_place", "_law_kind", "_law_cell", "_law_by", "_law_k", "_law_name", "_law_alike", "_law_step"]) (sc := (defScope (top 38))) (by decide +kernel)) (fun _ _ _ _ _ => pg_name (i := 12) nd rfl (Or.inl rfl)) (fun _ _ _ _ _ => pts_one (pt_cmpR (xeqD K (hu := hr.units)) (xcall G__law_shape hr (pa_cons (pv 12) pa_nil)) (xcall G__law_shape hr (pa_cons (pe_tup (pa_cons (pv 7) (pa_cons (pv 6) (pa_cons (pe_callTy (xtuple K) (by rfl) T.tuple_ (by decide +kernel) (pa_cons (pv 8) pa_nil)) (pa_cons pe_int pa_nil))))) pa_nil)) (nomark _))) (fun _ _ _ _ _ => (pv 12)))
      (pss_one (ps_if (pt_cmpR op_gt (pe_callB (xlen K) (by rfl) T.len_ (by decide +kernel) (pa_cons (pv 11) pa_nil)) pe_int (nomark _)) (pss_one (xset 10 nd (pe_ix (xix K) (pe_ix (xix K) (pv 11) (xcall G__law_take hr (pa_cons (pv 0) (pa_cons (pe_callB (xlen K) (by rfl) T.len_ (by decide +kernel) (pa_cons (pv 11) pa_nil)) pa_nil))) (fun _ _ => rfl)) pe_int (fun _ _ => rfl)))) pss_nil))) pss_nil))) pss_nil)
      (pss_cons (ps_expr (pe_bm PySem.F.plainAttrs_list PySem.F.slot_list_append PySem.F.type_list_append mt_append (pv 4) (pa_cons (pe_tup (pa_cons (pv 7) (pa_cons (pv 6) (pa_cons (pe_callTy (xtuple K) (by rfl) T.tuple_ (by decide +kernel) (pa_cons (pv 8) pa_nil)) (pa_cons (pv 10) pa_nil))))) pa_nil)))
      (pss_one (ps_expr (pe_bm PySem.F.plainAttrs_list PySem.F.slot_list_append PySem.F.type_list_append mt_append (pv 3) (pa_cons (pe_ix (xix K) (pv 4) (pv 5) (fun _ _ => rfl)) pa_nil)))))))))))))
      (pss_one (ps_ret (pe_callTy (xtuple K) (by rfl) T.tuple_ (by decide +kernel) (pa_cons (pv 4) pa_nil)))))), ?_⟩)
  · obtain ⟨B, h, t, c, n, L, rfl, _⟩ := h; rfl
  obtain ⟨B, h, t, c, n, L, rfl, hB, tB, hne, al, mh, mt, c1, c3, n4, hl, TL, k⟩ := h
  have sub : ∀ a, a ∈ [h, t] ++ B → a ∈ B := fun a z => by
    rcases List.mem_append.mp z with z | z
    · simp only [List.mem_cons, List.not_mem_nil, or_false] at z
      rcases z with z | z
      · rw [z]; exact hB
      · rw [z]; exact tB
    · exact z
  have ew : Ex (wo B H) (wo ([h, t] ++ B) H) := wo_anti sub
  have S : Sat C ⟨H, [h, t], B, [h, t], []⟩ [.hand, .lst (L.map enc)] [.m 0, .d (.int (c : Int)), .d (.int (n : Int)), .m 1, .un, .un, .un, .un, .un, .un, .un, .un, .un] (L2.start (["_law_hand_here", "_law_cells", "_law_size", "_law_told", "_law_steps_here", "_law_place", "_law_kind", "_law_cell", "_law_by", "_law_k", "_law_name", "_law_alike", "_law_step"]) [.ref h, .int (c : Int), .int (n : Int), .ref t]) H := by
    refine ⟨by simpa using hne, fun a ha => al a (sub a ha), .cons (mh.lift (fun _ q => q) ew) (.cons (mt.lift (fun _ q => q) ew) .nil), ?_, fun a o q _ => q, fun a z => z, fun a z => .inl z, fun a z _ => z, fun g z => (by cases z)⟩
    exact .cons ⟨h, rfl, rfl⟩ (.cons (.int _) (.cons (.int _) (.cons ⟨t, rfl, rfl⟩ (.cons trivial (.cons trivial (.cons trivial (.cons trivial (.cons trivial (.cons trivial (.cons trivial (.cons trivial (.cons trivial .nil))))))))))))
  refine s_seq (s_new S rfl fun pst σ H1 hpst S => ?_)
  refine s_seq (s_forR (n := n) (fun j μ ρ => ∃ p : Prg, p.length = j ∧ PrgW (c : Int) p ∧ TOk (L ++ p) ∧ μ = [.hand, .lst ((L ++ p).map enc), .lst (p.map enc)] ∧ ρ = [.m 0, .d (.int (c : Int)), .d (.int (n : Int)), .m 1, .m 2, .un, .un, .un, .un, .un, .un, .un, .un]) S (ja_cons (je_var rfl) ja_nil) (by omega) ⟨[], rfl, ⟨fun k s h => by simp at h, fun s hs => by cases hs⟩, by rw [List.append_nil]; exact TL, by rw [List.append_nil]; rfl, rfl⟩ ?_ ?_)
  · rintro j hj μ' ρ' σ' H' ⟨p, hp, W, TO, rfl, rfl⟩ S
    refine s_seq (s_asg S (jn_ixq (P := fun d => ∃ k : Kd, d = .str k.s) (je_lst (ja_cons je_str (ja_cons je_str (ja_cons je_str (ja_cons je_str (ja_cons je_str (ja_cons je_str ja_nil))))))) rfl (je_take (m := 6) rfl rfl je_int (by decide) (by decide)) kds6) ?_)
    rintro _ σ H ⟨kd, rfl⟩ S
    refine s_seq (s_asg S (je_take (m := c) rfl rfl (je_var rfl) (by omega) (by omega)) ?_)
    rintro _ σ H ⟨cl, hcl, rfl⟩ S
    refine s_seq (s_new S rfl fun pb σ H hpb S => ?_)
    refine s_seq (s_cut (fun μ ρ => ∃ b : List Int, Asc (-1) ((j : Int) - 1) b ∧ (kd = .kept → b = []) ∧ (∀ q ∈ b, ∀ t, p[q.toNat]? = some t → t.k ≠ .adds) ∧ μ = [.hand, .lst ((L ++ p).map enc), .lst (p.map enc), .lst (b.map .int)] ∧ ρ = [.m 0, .d (.int (c : Int)), .d (.int (n : Int)), .m 1, .m 2, .d (.int (j : Int)), .d (.str kd.s), .d (.int (cl : Int)), .m 3, .un, .un, .un, .un]) S (fun nx' k' => ?_) ?_)
    · refine s_if (b := !decide (kd = .kept)) S ((jt_test (je_op (je_var rfl) je_str rd_neS)).eq (by rw [kd_kept])) (fun z H S => ?_) fun z H S => s_nx (k' _ _ _ _ ⟨[], trivial, fun _ => rfl, fun q hq => (by cases hq), rfl, rfl⟩ S)
      have nk : kd ≠ .kept := by simpa using z
      refine s_forR (n := j) (fun i μ ρ => ∃ b : List Int, Asc (-1) ((i : Int) - 1) b ∧ (∀ q ∈ b, ∀ t, p[q.toNat]? = some t → t.k ≠ .adds) ∧ μ = [.hand, .lst ((L ++ p).map enc), .lst (p.map enc), .lst (b.map .int)] ∧ ρ = [.m 0, .d (.int (c : Int)), .d (.int (n : Int)), .m 1, .m 2, .d (.int (j : Int)), .d (.str kd.s), .d (.int (cl : Int)), .m 3, .un, .un, .un, .un]) S (ja_cons (je_var rfl) ja_nil) (by omega) ⟨[], trivial, fun q hq => (by cases hq), rfl, rfl⟩ ?_ ?_
      · rintro i hi μ' ρ' σ' H' ⟨b, ha, hq, rfl, rfl⟩ S
        have ei := get_of_lt s0 (show i < p.length by omega)
        have bl : (b.map PyData.int).length ≤ 10000 := by
          rw [List.length_map]
          rcases ha.len with e | e
          · rw [e]; decide
          · omega
        refine s_ifn S (jn_andB (jt_test (je_op (je_op (je_ixm (n := i) rfl rfl (je_var rfl) (map_at ei)) je_int (rd_ix (n := 1) rfl rfl)) je_str rd_neS)) fun _ => jt_lt_eq (je_take (m := 2) rfl rfl je_int (by decide) (by decide))) (fun z H S => ?_) fun z H S => s_nx ⟨_, _, ⟨b, ha.hi fun x hx => ?_, hq, rfl, rfl⟩, S.forget (i := 9)⟩
        · have z := z rfl
          rw [kd_adds] at z
          have na : (p.getD i s0).k ≠ .adds := by simpa using z
          refine s_app S rfl rfl (je_var rfl) bl ?_
          rintro _ H rfl S
          refine ⟨_, _, ⟨b ++ [(i : Int)], ?_, ?_, ?_, rfl⟩, S.forget (i := 9)⟩
          · have e : ((i + 1 : Nat) : Int) - 1 = (i : Int) := by omega
            rw [e]
            exact ha.snoc (by omega) (by omega)
          · intro q hq1 t ht
            rcases List.mem_append.mp hq1 with y | y
            · exact hq q y t ht
            · rw [List.mem_singleton.mp y, Int.toNat_natCast, ei] at ht
              cases ht
              exact na
          · rw [List.map_append (l₁ := b)]; rfl
        · have := (ha.mem x hx).2
          omega
      · rintro μ' ρ' σ' H' ⟨b, ha, hq, rfl, rfl⟩ S
        exact k' _ _ _ _ ⟨b, ha, fun e => absurd e nk, hq, rfl, rfl⟩ S
    rintro μ' ρ' σ H ⟨b, ha, hbk, hq, rfl, rfl⟩ S
    refine s_seq (s_cut (fun μ ρ => ∃ b : List Int, Asc (-1) (lastP kd j) b ∧ (∀ q ∈ b, ∀ t, p[q.toNat]? = some t → t.k ≠ .adds) ∧ μ = [.hand, .lst ((L ++ p).map enc), .lst (p.map enc), .lst (b.map .int)] ∧ ρ = [.m 0, .d (.int (c : Int)), .d (.int (n : Int)), .m 1, .m 2, .d (.int (j : Int)), .d (.str kd.s), .d (.int (cl : Int)), .m 3, .un, .un, .un, .un]) S (fun nx' k' => ?_) ?_)
    · have bl : (b.map PyData.int).length ≤ 10000 := by
        rw [List.length_map]
        rcases ha.len with e | e
        · rw [e]; decide
        · omega
      refine s_ifn S (jn_andB ((jt_test (je_op (je_var rfl) je_str rd_eqS)).eq (kd_any kd)) fun _ => jt_lt_gt (je_take (m := 5) rfl rfl je_int (by decide) (by decide))) (fun z H S => ?_) fun z H S => s_nx (k' _ _ _ _ ⟨b, ha.last hbk, hq, rfl, rfl⟩ S)
      have ka := of_decide_eq_true (z rfl)
      subst ka
      refine s_app S rfl rfl (je_var rfl) bl ?_
      rintro _ H rfl S
      refine k' _ _ _ _ ⟨b ++ [(j : Int)], show Asc (-1) (j : Int) (b ++ [(j : Int)]) from ha.snoc (by omega) (by omega), ?_, ?_, rfl⟩ S
      · intro q hq1 t ht
        rcases List.mem_append.mp hq1 with y | y
        · exact hq q y t ht
        · rw [List.mem_singleton.mp y, Int.toNat_natCast] at ht
          have := (List.getElem?_eq_some_iff.mp ht).1
          omega
      · rw [List.map_append (l₁ := b)]; rfl
    clear S hq hbk ha b σ H
    rintro μ' ρ' σ H ⟨b, ha, hq, rfl, rfl⟩ S
    refine s_seq (s_asg1 S (je_un je_int ud_neg) fun σ H S => ?_)
    have L7 : (L ++ p).length ≤ 7 := by rw [List.length_append]; omega
    refine s_seq (s_cut (fun μ ρ => ∃ nm : Int, NmOk (L ++ p) ⟨(cl : Int), kd, b, nm⟩ ∧ μ = [.hand, .lst ((L ++ p).map enc), .lst (p.map enc), .lst (b.map .int)] ∧ ρ = [.m 0, .d (.int (c : Int)), .d (.int (n : Int)), .m 1, .m 2, .d (.int (j : Int)), .d (.str kd.s), .d (.int (cl : Int)), .m 3, .un, .d (.int nm), .un, .un]) S (fun nx' k' => ?_) ?_)
    · refine s_if (b := !decide (kd = .kept)) S ((jt_test (je_op (je_var rfl) je_str rd_neS)).eq (by rw [kd_kept])) (fun z H S => ?_) fun z H S => s_nx (k' _ _ _ _ ⟨-1, ⟨fun _ => rfl, fun e => absurd (by simpa using z) e⟩, rfl, rfl⟩ S)
      have nk : kd ≠ .kept := by simpa using z
      refine s_seq (s_asg1 S ((je_lenm rfl rfl).eq (y := .int ((L ++ p).length : Int)) (by rw [List.length_map])) fun σ H S => ?_)
      refine s_ifn S (jt_lt_eq (je_take (m := 3) rfl rfl je_int (by decide) (by decide))) (fun _ H S => ?_) fun _ H S => s_nx (k' _ _ _ _ ⟨_, ⟨fun e => absurd e nk, fun _ => .inl rfl⟩, rfl, rfl⟩ S)
      let q : Stp → Bool := fun s => decide (shape s = shape ⟨(cl : Int), kd, b, 0⟩)
      refine s_seq (s_asg1 S ((je_lcSM (fun d => q (decS d)) (fun d => d) rfl rfl (by rw [List.length_map]; omega) (fun d hd => ?_) (fun d hd _ => je_var rfl)).eq (y := .list (((L ++ p).filter q).map enc)) (by rw [outs_dec])) fun σ H S => ?_)
      · obtain ⟨s, _, rfl⟩ := List.mem_map.mp hd
        refine (jt_test (je_op (je_call (ja_cons (je_var rfl) ja_nil) ⟨s, rfl, rfl⟩) (je_call (ja_cons ((je_tup (ja_cons (je_var rfl) (ja_cons (je_var rfl) (ja_cons (je_tuplem rfl rfl) (ja_cons je_int ja_nil))))).eq (y := enc ⟨(cl : Int), kd, b, 0⟩) rfl) ja_nil) ⟨_, rfl, rfl⟩) (rd_eqD (shapeD_shaped _) (shapeD_shaped _)))).eq ?_
        rw [decS_enc, shapeD_eqv]
      have lenA : ∀ {μ : List MO} {ρ : List SV}, ρ[11]? = some (.d (.list (((L ++ p).filter q).map enc))) → JE C μ ρ (tCB (fun xs H Q => ∃ p ys, xs = [.ref p] ∧ (SqL K H p ys ∨ SqT K H p ys) ∧ Q (.int ys.length) H) (tCons (tVar 11) tNil)) (· = .int ((((L ++ p).filter q).length : Nat) : Int)) := fun h => (je_cb (ja_cons (je_var h) ja_nil) (cd_len rfl)).eq (by rw [List.length_map])
      refine s_if S (jt_test (je_op (lenA rfl) je_int rd_gt)) (fun z H S => ?_) fun z H S => s_nx (k' _ _ _ _ ⟨_, ⟨fun e => absurd e nk, fun _ => .inl rfl⟩, rfl, rfl⟩ (S.forget (i := 11)))
      have z := of_decide_eq_true z
      have fl : ((L ++ p).filter q).length ≤ 7 := Nat.le_trans (List.length_filter_le _ _) L7
      refine s_asg S (jn_op (S := fun d => ∃ u ∈ (L ++ p).filter q, d = .int u.n) (jn_ixq (P := fun d => ∃ u ∈ (L ++ p).filter q, d = enc u) (je_var rfl) rfl (je_take rfl rfl (lenA rfl) (by omega) (by omega)) fun r hr => ⟨_, map_at (get_of_lt s0 hr), _, List.mem_of_getElem? (get_of_lt s0 hr), rfl⟩) je_int ?_) ?_
      · rintro _ _ ⟨u, hu, rfl⟩ rfl
        exact fun M H v w al h1 h2 Q qq => rd_ix (n := 3) (d := .int u.n) rfl rfl M H v w al h1 h2 Q fun z H' e pe ee de => qq z H' e ⟨u, hu, pe⟩ ee de
      · rintro _ σ H ⟨u, hu, rfl⟩ S
        obtain ⟨h1, h2⟩ := List.mem_filter.mp hu
        exact k' _ _ _ _ ⟨u.n, ⟨fun e => absurd e nk, fun _ => .inr ⟨u, h1, of_decide_eq_true h2, rfl⟩⟩, rfl, rfl⟩ (S.forget (i := 11))
    clear S σ H
    rintro μ' ρ' σ H ⟨nm, hnm, rfl, rfl⟩ S
    refine s_seq (s_app S rfl rfl ((je_tup (ja_cons (je_var rfl) (ja_cons (je_var rfl) (ja_cons (je_tuplem rfl rfl) (ja_cons (je_var rfl) ja_nil))))).eq (y := enc ⟨(cl : Int), kd, b, nm⟩) rfl) (by rw [List.length_map]; omega) ?_)
    rintro _ H rfl S
    refine s_app S rfl rfl (je_ixm (n := j) rfl rfl (je_var rfl) (d := enc ⟨(cl : Int), kd, b, nm⟩) ?_) (by rw [List.length_map]; omega) ?_
    · have e : (p.map enc).length = j := by rw [List.length_map]; exact hp
      rw [← e]; simp
    rintro _ H rfl S
    obtain ⟨S2, _, _⟩ := Sat.pop' (fv := [h, t, pst]) (μ := [_, _, _]) (p := pb) ((((((S.forget (i := 5)).forget (i := 6)).forget (i := 7)).forget (i := 8)).forget (i := 10))) rfl (by simp) (by simp) (by simpa using hpb)
    have T2 := TO.snoc hnm
    refine ⟨_, _, ⟨p ++ [⟨(cl : Int), kd, b, nm⟩], by rw [List.length_append, hp]; rfl, W.snoc ⟨⟨by show (0 : Int) ≤ (cl : Int); omega, by show (cl : Int) ≤ (c : Int) - 1; omega⟩, by rw [hp]; exact ha, hnm.1, fun hk => ?_⟩ hq, by rw [← List.append_assoc]; exact T2, ?_, rfl⟩, S2⟩
    · have := T2.nm ⟨(cl : Int), kd, b, nm⟩ (by simp) hk
      rw [List.length_append] at this
      simp only [List.length_cons, List.length_nil] at this
      dsimp only at this ⊢
      omega
    · rw [← List.append_assoc, List.map_append (l₁ := L ++ p), List.map_append (l₁ := p) (l₂ := [_])]; rfl
  · rintro μ' ρ' σ' H' ⟨p, hp, W, TO, rfl, rfl⟩ S
    refine s_ret S (je_tuplem rfl rfl) ?_
    rintro v H2 _ rfl s1 dv
    exact k v H2 p W hp TO (fun a o q n => s1.fr a o q n) ((s1.mo (k := 0) (p := h) rfl rfl).lift (fun _ q => q) (wo_anti fun a z => List.mem_append_right _ z)) ((s1.mo (k := 1) (p := t) rfl rfl).lift (fun _ q => q) (wo_anti fun a z => List.mem_append_right _ z)) dv
end
end KG
namespace KG
open PySem PySem.Spec L2
section
variable {C : Addr} {μ : List MO} {ρ : List SV} {ta tb te tc : TE} {σ : St} {H H' : Hp} {K : PySem.W.Frag}
theorem Sat.join2 {F : Frm} {μ' : List MO} {ρ' : List SV} {σ' : St} (S : Sat C F μ ρ σ H) (S' : Sat C F μ' ρ' σ' H') (e : ExB F.v H H') : Sat C F μ' ρ σ H' :=
  ⟨S'.nd, S'.al, S'.mu, paired_map S.sl fun _ _ _ q => q.lift (e.wo fun a z => List.mem_append_left _ z) fun _ _ z => z, S'.fr, S'.wv, S'.lc, S'.dj, S'.gh⟩
/-- a comprehension whose turns change what is kept track of -/
theorem lc_st {fh : Hp} {fw fb fv : List Addr} {fg : List (V × PyData)} {te0 : TE} {ds : List PyData} {i : Nat} (I : Nat → List MO → List PyData → Prop) (S : Sat C ⟨fh, fw, fb, fv, fg⟩ μ ρ σ H) (h0 : JE C μ ρ te0 (· = .list ds)) (i0 : I 0 μ []) (hlen : ∀ j μ' os, j < ds.length → I j μ' os → os.length ≤ 10000)
    (hs : ∀ j d μ' os b' σ' H', ds[j]? = some d → I j μ' os → Sat C ⟨fh, fw, b', fv, fg⟩ μ' (ρ.set i (.d d)) σ' H' → ∀ Q : VK, (∀ v H'' e μ'', I (j + 1) μ'' (os ++ [e]) → Sat C ⟨fh, fw, b', fv, fg⟩ μ'' (ρ.set i (.d d)) σ' H'' → ExB fv H' H'' → Dt C (wo (fv ++ b') H'') v e → Q v H'') → te σ' H' Q) :
    ∀ Q : VK, (∀ v H' μ' os, I ds.length μ' os → Sat C ⟨fh, fw, fb, fv, fg⟩ μ' ρ σ H' → Dt C (wo (fv ++ fb) H') v (.list os) → Q v H') → tLc (iSeq K te0) (gName i) tYes te [i] σ H Q := fun Q q => .inl <|
  h0 _ σ H S _ fun v H1 d0 p0 s e0 dt => by
    subst p0
    obtain ⟨a, xs, rfl, hx, da⟩ := id dt.lstE
    refine ⟨a, rfl, ⟨xs, SqL.of (wo_some hx).2⟩, fun D hD => ?_⟩
    have nDv : D ∉ fv := fun z => s.fresh hD (List.mem_append_left _ z)
    let J : Nat → Hp → Prop := fun j H => ∃ μ' os acc, I j μ' os ∧ H D = some (.lst acc) ∧ DtA C (wo (fv ++ D :: fb) H) acc os ∧ Sat C ⟨fh, fw, D :: fb, fv, fg⟩ μ' ρ σ H ∧ ExB fv H1 H
    refine lc_list (K := K) (a := a) (xs := xs) J ⟨μ, [], [], i0, upd_same, .nil, Sat.badd (F := ⟨fh, fw, fb, fv, fg⟩) s hD, (Ex.new hD).b⟩ ?_ ?_ ?_
    · rintro j H2 hj ⟨μ', os, acc, _, _, _, _, e⟩
      exact SqL.of (e a _ (wo_some hx).2 fun z => (wo_some hx).1 (List.mem_append_left _ z))
    · rintro j x H2 hj ⟨μ', os, acc, hI, hd, dacc, s2, e⟩
      obtain ⟨d, hdj, hxd⟩ := da.getV hj
      have hjd : j < ds.length := (List.getElem?_eq_some_iff.mp hdj).1
      have k1 : Ex (wo (fv ++ fb) H1) (wo (fv ++ D :: fb) H2) := fun b o z => by
        obtain ⟨n, z⟩ := wo_some z
        refine wo_mk (fun m => ?_) (e b o z fun m => n (List.mem_append_left _ m))
        rcases List.mem_append.mp m with m | m
        · exact n (List.mem_append_left _ m)
        · rcases List.mem_cons.mp m with m | m
          · rw [m, hD] at z; cases z
          · exact n (List.mem_append_right _ m)
      have w0 : wipe σ [i] = σ.set i none := rfl
      have s3 : Sat C ⟨fh, fw, D :: fb, fv, fg⟩ μ' (ρ.set i (.d d)) ((wipe σ [i]).set i (some x)) H2 := by
        have q := (s2.forget (i := i)).set (o := none) (sv := .un) (i := i) trivial
        have q2 := q.setd (i := i) (x := d) (v := x) (hxd.mono k1)
        rw [List.set_set, List.set_set] at q2
        rw [w0, List.set_set]
        rw [List.set_set] at q2
        exact q2
      refine ⟨by show ((wipe σ [i]).set i (some x)).set i none = σ.set i none; rw [w0, List.set_set, List.set_set], ?_⟩
      show te _ H2 _
      refine hs j d μ' os _ _ H2 hdj hI s3 _ fun v H3 e3 μ3 hI3 s5 e5 dv => ?_
      have hd5 := e5 D _ hd nDv
      have da5 := dacc.mono (e5.wo fun a z => List.mem_append_left (D :: fb) z)
      have hDm : D ∈ fv ++ D :: fb := List.mem_append_right _ List.mem_cons_self
      refine ⟨acc, hd5, small_of (by rw [da5.length]; exact hlen j μ' os hjd hI), μ3, os ++ [e3], acc ++ [v], hI3, upd_same, ?_, ?_, ?_⟩
      · rw [wo_upd hDm]
        exact da5.app (.one dv)
      · exact Sat.bput (F := ⟨fh, fw, D :: fb, fv, fg⟩) (s2.join2 s5 e5) List.mem_cons_self nDv (Sat.fresh0 (F := ⟨fh, fw, fb, fv, fg⟩) s hD)
      · intro a o z n
        rw [upd_ne (ne_of_none z hD)]
        exact (e.trans e5) a o z n
    · rintro H2 ⟨μ', os, acc, hI, hd, dacc, s2, e⟩
      refine q _ H2 μ' os (by rw [← da.length]; exact hI) (Sat.bdrop (F := ⟨fh, fw, fb, fv, fg⟩) s2) (.lst (wo_mk (s.fresh hD) hd) (dacc.mono (wo_anti fun a z => ?_)))
      rcases List.mem_append.mp z with z | z
      · exact List.mem_append_left _ z
      · exact List.mem_append_right _ (List.mem_cons_of_mem _ z)
end
section
variable {P : Program} {w : World} {K : PySem.W.Frag} {mg : Str → Option Value} {base : Heap} {C : Addr}
/-! _law_lot -/
theorem tcons1 {a : TE} {σ : L2.St} {H : Hp} {Q : List V → Hp → Prop} : tCons a tNil σ H Q = a σ H fun v H2 => Q [v] H2 := rfl
theorem tcb1 {r : List V → Hp → VK → Prop} {a : TE} {σ : L2.St} {H : Hp} {Q : VK} : tCB r (tCons a tNil) σ H Q = a σ H fun v H2 => r [v] H2 Q := rfl
def R__law_lot : Rel := fun ds P => ∃ (c : Nat) (ns : List Nat), ds = [.int (c : Int), szD ns] ∧ 1 ≤ c ∧ c ≤ 3 ∧ SzOk ns ∧ P = fun d => ∃ ps, d = plainD (c : Int) ps ∧ LotOk (c : Int) ps
theorem sc__law_lot : FnScope (["_law_hand_here", "_law_cells", "_law_sizes_here", "_law_told", "_law_size"]) (["_law_hand_here", "_law_cells", "_law_sizes_here"]) (defScope (top 39)) := ⟨rfl, rfl, rfl, by decide +kernel, rfl, by decide +kernel, by decide +kernel⟩
theorem ok__law_lot (T : Txt K mg C) (F : Df K mg "_law_lot" (top 39) (["_law_hand_here", "_law_cells", "_law_sizes_here"])) (G__law_steps : Cal P w K mg base CX0 3 "_law_steps" (["_law_hand_here", "_law_cells", "_law_size", "_law_told"]) (spSteps C)) : Cal P w K mg base CX0 4 "_law_lot" (["_law_hand_here", "_law_cells", "_law_sizes_here"]) (spH C R__law_lot) := by
  refine F.cal fun f fd F => ?_
  have nd := sc__law_lot.nd
  refine okH F sc__law_lot (fun ds P h => by obtain ⟨c, ns, rfl, _⟩ := h; rfl) fun cdv A outer s H E hr => ⟨_, (pss_cons (xset 3 nd (pe_lst pa_nil))
      (pss_one (ps_ret (pe_tup (pa_cons (pv 1) (pa_cons (pe_callTy (xtuple K) (by rfl) T.tuple_ (by decide +kernel) (pa_cons (pe_lc (own := [("_law_size", 4)]) (g := gName 4) rfl nd (xseq K (h := (pv 2))) (blkOk_by (N := ["_law_hand_here", "_law_cells", "_law_sizes_here", "_law_told", "_law_size"]) (sc := (defScope (top 39))) (by decide +kernel)) (fun _ _ _ _ _ => pg_name (i := 4) nd rfl (Or.inl rfl)) (fun _ _ _ _ _ => pts_nil) (fun _ _ _ _ _ => (xcall G__law_steps hr (pa_cons (pv 0) (pa_cons (pv 1) (pa_cons (pv 4) (pa_cons (pv 3) pa_nil))))))) pa_nil)) pa_nil)))))), fun B h σ ds P' Q hB r S k => ?_⟩
  obtain ⟨c, ns, rfl, c1, c3, ⟨n1, n3, n4, n7⟩, rfl⟩ := r
  refine s_seq (s_new S rfl fun pst σ H1 hpst S => ?_)
  have J1 : JE C [.hand, .lst []] [.m 0, .d (.int (c : Int)), .d (szD ns), .m 1, .un] (tVar 1) (· = .int (c : Int)) := je_var rfl
  unfold tRet tTup
  rw [show ∀ (a : TE) (b : TA) (Q : List V → Hp → Prop), tCons a b σ H1 Q = a σ H1 fun v H2 => b σ H2 fun vs H3 => Q (v :: vs) H3 from fun _ _ _ => rfl]
  refine J1 _ σ H1 S _ fun v1 H2 d1 p1 s1 e1 dv1 => ?_
  subst p1
  have S2 := s1.gadd' dv1
  show tCons _ tNil σ H2 _
  rw [tcons1, tcb1]
  refine lc_st (te0 := tVar 2) (i := 4) (ds := ns.map fun n : Nat => PyData.int (n : Int)) (fun j μ' os => ∃ ps : List Prg, os = ps.map encP ∧ ps.map List.length = ns.take j ∧ (∀ p ∈ ps, PrgW (c : Int) p) ∧ TOk ps.flatten ∧ μ' = [.hand, .lst (ps.flatten.map enc)]) S2 (je_var rfl) ⟨[], rfl, rfl, fun p hp => (by cases hp), ⟨fun s hs => (by cases hs), fun s hs => (by cases hs)⟩, rfl⟩ ?_ ?_ _ ?_
  · rintro j μ' os hj ⟨ps, rfl, hps, _⟩
    have := congrArg List.length hps
    rw [List.length_map, List.length_take] at this
    rw [List.length_map]; omega
  · rintro j d μ' os b' σ' H' hd ⟨ps, rfl, hps, hW, hT, rfl⟩ S Q q
    obtain ⟨n, hn, rfl⟩ := map_get hd
    have hn4 := n4 n (List.mem_of_getElem? hn)
    have hsum : ps.flatten.length + n ≤ 7 := by
      rw [List.length_flatten, hps]
      have e1 : (ns.take (j + 1)).sum = (ns.take j).sum + n := by rw [take_snoc hn, List.sum_append]; simp
      have e2 : (ns.take (j + 1)).sum + (ns.drop (j + 1)).sum = ns.sum := by rw [← List.sum_append, List.take_append_drop]
      omega
    obtain ⟨qh, hσ0, hv0⟩ := S.getm (i := 0) rfl
    obtain ⟨v, hσ1, hv1⟩ := S.get (i := 1) rfl
    obtain ⟨u, hσ4, hv4⟩ := S.get (i := 4) (x := .int (n : Int)) rfl
    obtain ⟨qt, hσ3, hv3⟩ := S.getm (i := 3) rfl
    have eh : qh = h := by
      have z : some h = some qh := hv0
      cases z; rfl
    have et : qt = pst := by
      have z : some pst = some qt := hv3
      cases z; rfl
    subst eh
    subst et
    have mh := S.mo (k := 0) (p := qh) rfl rfl
    have mt := S.mo (k := 1) (p := qt) rfl rfl
    refine ⟨_, hσ0, _, hσ1, _, hσ4, _, hσ3, ?_⟩
    have ne : qh ≠ qt := by
      have := S.nd
      simp at this
      exact this
    have hin : qh ∈ [qh, qt] ++ b' := by simp
    have tin : qt ∈ [qh, qt] ++ b' := by simp
    refine ⟨[qh, qt] ++ b', qh, qt, c, n, ps.flatten, by rw [hv1.intE, hv4.intE]; rfl, hin, tin, ne, S.al, mh, mt, c1, c3, hn4.2, hsum, hT, fun v' H3 p W hpl T2 e3 mh3 mt3 dv => ?_⟩
    refine q v' H3 (encP p) [.hand, .lst ((ps ++ [p]).flatten.map enc)] ⟨ps ++ [p], by rw [List.map_append]; rfl, by rw [List.map_append, hps, take_snoc hn]; simp [hpl], fun p' hp' => ?_, by rw [List.flatten_append]; simpa using T2, rfl⟩ ?_ e3 dv
    · rcases List.mem_append.mp hp' with z | z
      · exact hW p' z
      · rw [List.mem_singleton.mp z]; exact W
    · have ef : (ps ++ [p]).flatten = ps.flatten ++ p := by rw [List.flatten_append]; simp
      rw [ef]
      refine ⟨S.nd, fun a ha z => ?_, .cons mh3 (.cons mt3 .nil), paired_map S.sl fun _ _ _ q => q.lift (e3.wo fun a z => List.mem_append_left _ z) fun _ _ z => z, fun a o z1 z2 => ?_, S.wv, S.lc, S.dj, fun g hg => (S.gh g hg).mono (e3.wo fun a z => List.mem_append_left _ z)⟩
      · by_cases z2 : a ∈ [qh, qt]
        · simp only [List.mem_cons, List.not_mem_nil, or_false] at z2
          rcases z2 with z2 | z2
          · rw [z2] at z; exact mh3.there z
          · rw [z2] at z; exact mt3.there z
        · cases q5 : H' a with
          | none => exact S.al a ha q5
          | some o => rw [e3 a o q5 z2] at z; cases z
      have z3 := S.fr a o z1 z2
      refine e3 a o z3 fun z4 => ?_
      simp only [List.mem_cons, List.not_mem_nil, or_false] at z4
      rcases z4 with z4 | z4
      · exact z2 (by simp [z4])
      · rcases S.lc qt (by simp) with z5 | z5
        · simp at z5; exact ne z5.symm
        · rw [z4, z5] at z1; cases z1
  · rintro v2 H3 μ' os ⟨ps, rfl, hps, hW, hT, rfl⟩ S3 dv2
    have hps : ps.map List.length = ns := by rw [hps, List.length_map, List.take_length]
    have dv1' := S3.ghd'
    obtain ⟨a, xs, rfl, hx, da⟩ := dv2.lstE
    refine ⟨a, xs, rfl, .inl ⟨SqL.of (wo_some hx).2, fun l hl => ?_⟩⟩
    refine ⟨by show 2 ≤ sizeLine; decide, fun l2 hl2 => ?_⟩
    have S4 := S3.ext (.new (o := .tup xs) hl)
    have dv3 : Dt C (wo ([h, pst] ++ B) (upd H3 l (.tup xs))) (.ref l) (encPs ps) := dt_newT S3.al hl da
    have dv4 := dt_newT (xs := [v1, .ref l]) (ds := [.int (c : Int), encPs ps]) S4.al hl2 (.cons S4.ghd' (.cons dv3 .nil))
    have S5 := S4.ext (.new (o := .tup [v1, .ref l]) hl2)
    have L : LotOk (c : Int) ps := by
      have hlen : ps.length = ns.length := by rw [← hps, List.length_map]
      refine ⟨⟨by omega, by omega⟩, by omega, fun p hp => ?_, by rw [hps]; exact n7, hT.con⟩
      have hl1 : p.length ∈ ns := by rw [← hps]; exact List.mem_map_of_mem hp
      exact ⟨n4 _ hl1, (hW p hp).st, (hW p hp).na⟩
    refine k _ _ _ ⟨ps, rfl, L⟩ (fun b o z n => S5.fr b o z (by simpa using n)) ((S5.mo (k := 0) (p := h) rfl rfl).lift (fun _ q => q) (wo_anti fun a z => List.mem_append_right _ z)) (dv4.mono (wo_anti fun a z => List.mem_append_right _ z))
end
end KG
namespace KG
open PySem PySem.Spec L2
section
variable {C : Addr} {μ : List MO} {ρ : List SV} {ta tb te tc : TE} {P : PyData → Prop} {F : Frm} {σ : St} {H H' : Hp} {K : PySem.W.Frag} {nx : L2.St → Hp → Prop} {rt : VK} {bk ct : L2.St → Hp → Prop}
/-- a loop over range(n), n drawn -/
theorem s_forRn {tb : TS} {ta : TA} {m i : Nat} (I : Nat → List MO → List SV → Prop) (S : Sat C F μ ρ σ H) (h : JA C μ ρ ta (fun ds => ∃ n : Nat, n < m ∧ ds = [.int (n : Int)])) (hn : m ≤ 10000) (h0 : I 0 μ ρ)
    (hs : ∀ j, j < m → ∀ μ' ρ' σ' H', I j μ' ρ' → Sat C F μ' (ρ'.set i (.d (.int (j : Int)))) σ' H' →
      tb ⟨fun σ H => ∃ μ ρ, I (j + 1) μ ρ ∧ Sat C F μ ρ σ H, rt, nx, fun σ H => ∃ μ ρ, I (j + 1) μ ρ ∧ Sat C F μ ρ σ H⟩ σ' H')
    (hd : ∀ n, n < m → ∀ μ' ρ' σ' H', I n μ' ρ' → Sat C F μ' ρ' σ' H' → nx σ' H') : tFor (iRng1 ta) (gName i) tb ⟨nx, rt, bk, ct⟩ σ H :=
  h F σ H S _ fun vs H1 d pd s1 e1 d1 => by
    obtain ⟨n, hnm, rfl⟩ := pd
    cases d1 with
    | cons d1 dn =>
      cases dn
      refine ⟨(n : Int), by rw [d1.intE], by omega, by omega, for_range (lo := 0) (n := (n : Int).toNat) (fun j σ H => ∃ μ ρ, I j μ ρ ∧ Sat C F μ ρ σ H) ⟨μ, ρ, h0, s1⟩ ?_ ?_⟩
      · rintro j σ' H' hj ⟨μ', ρ', hI, s2⟩
        rw [Int.zero_add]
        exact hs j (by omega) μ' ρ' _ H' hI (s2.setd (.int _))
      · rintro σ' H' ⟨μ', ρ', hI, s2⟩
        rw [Int.toNat_natCast] at hI
        exact hd n hnm μ' ρ' σ' H' hI s2
/-- x = list(e), kept track of -/
theorem s_newl {fh : Hp} {fw fb fv : List Addr} {fg : List (V × PyData)} {i : Nat} {x : PyData} {ds : List PyData} (S : Sat C ⟨fh, fw, fb, fv, fg⟩ μ ρ σ H) (h : JE C μ ρ te (· = x)) (hx : sqD x = some ds) (hi : fv.length = μ.length)
    (k : ∀ p σ' H', p ∉ fw → Sat C ⟨fh, fw, fb, fv ++ [p], fg⟩ (μ ++ [.lst ds]) (ρ.set i (.m μ.length)) σ' H' → nx σ' H') :
    tAsg (tCB (fun xs H Q => ∃ p ys, xs = [.ref p] ∧ (SqL K H p ys ∨ SqT K H p ys) ∧ ∀ l, H l = none → Q (.ref l) (upd H l (.lst ys))) (tCons te tNil)) (gName i) ⟨nx, rt, bk, ct⟩ σ H :=
  h _ σ H S _ fun v H1 d pd s1 e1 d1 => by
    subst pd
    have fin : ∀ (ys : List V) (l : Addr), H1 l = none → DtA C (wo (fv ++ fb) H1) ys ds → nx (σ.set i (some (.ref l))) (upd H1 l (.lst ys)) := fun ys l hl da => by
      have s2 := s1.newm' (p := l) (o := .lst ys) (mo := .lst ds) hl fun M _ e => ⟨ys, upd_same, da.mono e⟩
      exact k l _ _ (fun z => s1.al l (List.mem_append_left _ (s1.wv l z)) hl) (s2.set (i := i) (o := some (.ref l)) (sv := .m μ.length) ⟨l, by show (fv ++ [l])[μ.length]? = some l; rw [← hi]; simp, rfl⟩)
    cases d with
    | list es =>
      cases hx
      obtain ⟨a, xs, rfl, hx, da⟩ := d1.lstE
      exact ⟨a, xs, rfl, .inl (SqL.of (wo_some hx).2), fun l hl => fin xs l hl da⟩
    | tuple es =>
      cases hx
      obtain ⟨a, xs, rfl, hx, da⟩ := d1.tupE
      exact ⟨a, xs, rfl, .inr (SqT.of (wo_some hx).2), fun l hl => fin xs l hl da⟩
    | none => cases hx
    | bool => cases hx
    | int => cases hx
    | str => cases hx
    | dict => cases hx
/-- x[n] = a drawn thing -/
theorem s_setn {i k n : Nat} {ds : List PyData} (S : Sat C F μ ρ σ H) (h1 : ρ[i]? = some (.m k)) (h2 : μ[k]? = some (.lst ds)) (h : JE C μ ρ te P) (hb : JE C μ ρ tb (· = .int (n : Int))) (hn : n < ds.length)
    (kk : ∀ d H', P d → Sat C F (μ.set k (.lst (ds.set n d))) ρ σ H' → nx σ H') : tAsg te (gSub (tVar i) tb rSetL) ⟨nx, rt, bk, ct⟩ σ H := s_setm S h1 h2 h hb hn kk
end
def tupF (f : Fct) : PyData := .tuple (encF f)
def poolD (fs : List Fct) : PyData := .list (fs.map tupF)
theorem lay_s {s : Str} (h : PyData.canLay0 (.str s) = true) : PyData.canLay0 (.str s) = true := h
theorem tupF_lay (f : Fct) : (tupF f).canLay0 = true := by
  have h1 : PyData.canLay0 (.str "without") = true := by decide +kernel
  have h2 : PyData.canLay0 (.str "kept") = true := by decide +kernel
  have h3 : PyData.canLay0 (.str "adds") = true := by decide +kernel
  have h4 : PyData.canLay0 (.str "same") = true := by decide +kernel
  have hi : ∀ z : Int, PyData.canLay0 (.int z) = true := fun z => by simp only [PyData.canLay0]
  cases f <;> simp only [tupF, encF] <;> rw [PyData.canLay0] <;> simp only [PyData.canLayAll0, h1, h2, h3, h4, hi, Bool.and_true]
theorem encF_len (f : Fct) : 3 ≤ (encF f).length ∧ (encF f).length ≤ 5 := by
  cases f
  · exact ⟨by show 3 ≤ 4; decide, by show 4 ≤ 5; decide⟩
  · exact ⟨by show 3 ≤ 3; decide, by show 3 ≤ 5; decide⟩
  · exact ⟨by show 3 ≤ 3; decide, by show 3 ≤ 5; decide⟩
  · exact ⟨by show 3 ≤ 5; decide, by show 5 ≤ 5; decide⟩
def OkE (d : PyData) : Prop := d.canLay0 = true ∧ d.depth ≤ 1
def LayL (ds : List PyData) : Prop := ∀ d ∈ ds, OkE d
theorem LayL.lay {ds : List PyData} (h : LayL ds) : ∀ d ∈ ds, d.canLay0 = true := fun d hd => (h d hd).1
theorem LayL.list {ds : List PyData} (h : LayL ds) : (PyData.list ds).canLay0 = true ∧ (PyData.list ds).depth ≤ 2 := by
  refine ⟨by rw [PyData.canLay0]; exact layAll_of h.lay, ?_⟩
  have := depAll_of (ds := ds) (n := 1) fun d hd => (h d hd).2
  rw [PyData.depth]; omega
theorem LayL.tuple {ds : List PyData} (h : LayL ds) : (PyData.tuple ds).canLay0 = true ∧ (PyData.tuple ds).depth ≤ 2 := by
  refine ⟨by rw [PyData.canLay0]; exact layAll_of h.lay, ?_⟩
  have := depAll_of (ds := ds) (n := 1) fun d hd => (h d hd).2
  rw [PyData.depth]; omega
theorem encF_dep (f : Fct) : PyData.depthAll (encF f) = 0 := by
  cases f <;> simp [encF, PyData.depthAll, PyData.depth]
theorem dep_mem {ds : List PyData} {n : Nat} (h : PyData.depthAll ds ≤ n) : ∀ d ∈ ds, d.depth ≤ n := by
  induction ds with
  | nil => intro d hd; cases hd
  | cons a ds ih =>
    rw [PyData.depthAll] at h
    intro d hd
    rcases List.mem_cons.mp hd with e | hd
    · rw [e]; exact Nat.le_trans (Nat.le_max_left _ _) h
    · exact ih (Nat.le_trans (Nat.le_max_right _ _) h) d hd
theorem encF_lay (f : Fct) : LayL (encF f) := fun d hd => by
  have := tupF_lay f
  unfold tupF at this
  rw [PyData.canLay0] at this
  exact ⟨lay_all this d hd, dep_mem (n := 1) (by rw [encF_dep]; decide) d hd⟩
theorem tupF_ok (f : Fct) : OkE (tupF f) := ⟨tupF_lay f, by unfold tupF; rw [PyData.depth, encF_dep]; decide⟩
theorem lstF_ok (f : Fct) : OkE (.list (encF f)) := ⟨(encF_lay f).list.1, by rw [PyData.depth, encF_dep]; decide⟩
section
variable {P : Program} {w : World} {K : PySem.W.Frag} {mg : Str → Option Value} {base : Heap} {C : Addr}
/-! _law_unlike -/
def R__law_unlike : Rel := fun ds P => ∃ (c : Int) (ps : List Prg), ds = [plainD c ps] ∧ LotOk c ps ∧ P = fun d => ∃ fall, d = plainD c (unlL fall ps)
theorem sc__law_unlike : FnScope (["_law_hand_here", "_law_plain", "_law_told", "_law_name", "_law_falling", "_law_program", "_law_steps_here", "_law_step", "_law_other"]) (["_law_hand_here", "_law_plain"]) (defScope (top 51)) := ⟨rfl, rfl, rfl, by decide +kernel, rfl, by decide +kernel, by decide +kernel⟩
theorem ok__law_unlike (T : Txt K mg C) (F : Df K mg "_law_unlike" (top 51) (["_law_hand_here", "_law_plain"])) (G__law_take : Cal P w K mg base CX0 2 "_law_take" (["_law_hand_here", "_law_many"]) (spH C R__law_take)) : Cal P w K mg base CX0 3 "_law_unlike" (["_law_hand_here", "_law_plain"]) (spH C R__law_unlike) := by
  refine F.cal fun f fd F => ?_
  have nd := sc__law_unlike.nd
  refine okH F sc__law_unlike (fun ds P h => by obtain ⟨c, ps, rfl, _⟩ := h; rfl) fun cdv A outer s H E hr => ⟨_, (pss_cons (xset 2 nd (pe_lst pa_nil))
      (pss_cons (xset 3 nd pe_int)
      (pss_cons (xset 4 nd (pe_cmpR op_eq (xcall G__law_take hr (pa_cons (pv 0) (pa_cons pe_int pa_nil))) pe_int (nomark _)))
      (pss_cons (ps_for PassesOwn.never rfl (xseq K (h := (pe_ix (xix K) (pv 1) pe_int (fun _ _ => rfl)))) (pg_name (i := 5) nd rfl (by first | exact Or.inl rfl | exact Or.inr rfl)) (pss_cons (xset 6 nd (pe_lst pa_nil))
      (pss_cons (ps_for PassesOwn.never rfl (xseq K (h := (pv 5))) (pg_name (i := 7) nd rfl (by first | exact Or.inl rfl | exact Or.inr rfl)) (pss_cons (xset 8 nd (pe_ifExp (pt_val (pv 4)) (pe_op op_sub pe_int (pv 3)) (pe_op op_add (pv 3) pe_int)))
      (pss_cons (ps_expr (pe_bm PySem.F.plainAttrs_list PySem.F.slot_list_append PySem.F.type_list_append mt_append (pv 6) (pa_cons (pe_op (xcatA K) (pe_slice (xslT K) (pv 7) po_none (po_some pe_int)) (pe_tup (pa_cons (pe_ifExp (pt_cmpR op_eq (pe_ix (xix K) (pv 7) pe_int (fun _ _ => rfl)) pe_str (nomark _)) (pe_un un_neg pe_int) (pv 8)) pa_nil))) pa_nil)))
      (pss_one (xset 3 nd (pe_op op_add (pv 3) pe_int))))))
      (pss_one (ps_expr (pe_bm PySem.F.plainAttrs_list PySem.F.slot_list_append PySem.F.type_list_append mt_append (pv 2) (pa_cons (pe_callTy (xtuple K) (by rfl) T.tuple_ (by decide +kernel) (pa_cons (pv 6) pa_nil)) pa_nil)))))))
      (pss_one (ps_ret (pe_tup (pa_cons (pe_ix (xix K) (pv 1) pe_int (fun _ _ => rfl)) (pa_cons (pe_callTy (xtuple K) (by rfl) T.tuple_ (by decide +kernel) (pa_cons (pv 2) pa_nil)) pa_nil))))))))), fun B h σ ds P' Q hB r S k => ?_⟩
  obtain ⟨c, ps, rfl, L, rfl⟩ := r
  have hl3 := L.len.2
  have htot := L.total
  have hl4 : ∀ p ∈ ps, p.length ≤ 4 := fun p hp => (L.pr p hp).len.2
  refine s_seq (s_new S rfl fun pt σ H1 hpt S => ?_)
  refine s_seq (s_asg1 S je_int fun σ H1 S => ?_)
  refine s_seq (s_asg (P := fun d => ∃ b, d = .bool b) S (jn_op (je_take (m := 2) rfl rfl je_int (by decide) (by decide)) je_int ?_) ?_)
  · rintro _ _ ⟨r, hr, rfl⟩ rfl
    exact fun M H v u al h1 h2 Q q => rd_eqI M H v u al h1 h2 Q fun w H' e pe ee de => q w H' e ⟨_, pe⟩ ee de
  rintro _ σ H1 ⟨fall, rfl⟩ S
  refine s_seq (s_forS (fun j μ ρ => μ = [.hand, .lst ((remL (unS fall) 0 (ps.take j)).map encP)] ∧ ρ = [.m 0, .d (plainD c ps), .m 1, .d (.int (5 * (((ps.take j).map List.length).sum : Nat) : Int)), .d (.bool fall), .un, .un, .un, .un]) S (je_op (je_var rfl) je_int (rd_ix (n := 1) rfl rfl)) rfl (fun d _ => jg_name) ⟨rfl, rfl⟩ ?_ ?_)
  · rintro j d hd v μ' ρ' σ' H' ⟨rfl, rfl⟩ S
    obtain ⟨p, hp, rfl⟩ := map_get hd
    have hp4 := hl4 p (List.mem_of_getElem? hp)
    have hj : j < ps.length := (List.getElem?_eq_some_iff.mp hp).1
    refine s_seq (s_new S rfl fun pst σ H1 hpst S => ?_)
    refine s_seq (s_forS (fun k μ ρ => μ = [.hand, .lst ((remL (unS fall) 0 (ps.take j)).map encP), .lst (((remP (unS fall) ((ps.take j).map List.length).sum p).take k).map enc)] ∧ ρ = [.m 0, .d (plainD c ps), .m 1, .d (.int (5 * (((ps.take j).map List.length).sum + k : Nat) : Int)), .d (.bool fall), .d (encP p), .m 2, .un, .un]) S (je_var rfl) rfl (fun d _ => jg_name) ⟨rfl, rfl⟩ ?_ ?_)
    · rintro m d hd v2 μ' ρ' σ' H' ⟨rfl, rfl⟩ S
      obtain ⟨st, hst, rfl⟩ := map_get hd
      have hm := (List.getElem?_eq_some_iff.mp hst).1
      refine s_seq (s_asg1 S ((je_if (jt_B (je_var rfl)) (fun _ => je_op je_int (je_var rfl) rd_sub) (fun _ => je_op (je_var rfl) je_int rd_add)).eq (y := .int (unN fall (((ps.take j).map List.length).sum + m))) ?_) fun σ H1 S => ?_)
      · unfold unN
        cases fall
        · rfl
        · rfl
      refine s_seq (s_app S rfl rfl ((je_op (je_slT (je_var rfl) jo_none (jo_some je_int)) (je_tup (ja_cons (je_if ((jt_test (je_op (je_op (je_var rfl) je_int (rd_ix (n := 1) rfl rfl)) je_str rd_eqS)).eq (kd_kept st.k)) (fun _ => je_un je_int ud_neg) (fun _ => je_var rfl)) ja_nil)) (rd_catT ?_)).eq (y := enc (unS fall (((ps.take j).map List.length).sum + m) m st)) ?_) (by rw [List.length_map, List.length_take, remP_len]; omega) ?_)
      · rw [take3]; show 3 + 1 ≤ 10000; decide
      · rw [take3]
        by_cases z : st.k = .kept
        · simp only [unS, if_pos z, decide_eq_true z, if_true]; rfl
        · simp only [unS, if_neg z, decide_eq_false z, Bool.false_eq_true, if_false]; rfl
      rintro _ H1 rfl S
      refine s_asg1 S ((je_op (je_var rfl) je_int rd_add).eq (y := .int (5 * (((ps.take j).map List.length).sum + (m + 1) : Nat) : Int)) (by congr 1)) fun σ H1 S => ⟨_, _, ⟨?_, rfl⟩, (S.forget (i := 7)).forget (i := 8)⟩
      rw [remP_take hst, List.map_append (l₂ := [_])]; rfl
    · rintro μ' ρ' σ' H' ⟨rfl, rfl⟩ S
      refine s_app S rfl rfl (je_tuplem rfl rfl) (by rw [List.length_map]; have := sizes_len (remL_sizes (unS fall) 0 (ps.take j)); rw [this, List.length_take]; omega) ?_
      rintro _ H1 rfl S
      obtain ⟨S2, _, _⟩ := Sat.pop' (fv := [h, pt]) (μ := [_, _]) (p := pst) ((S.forget (i := 5)).forget (i := 6)) rfl (by simp) (by simp) (by simpa using hpst)
      refine ⟨_, _, ?_, S2⟩
      have e : (remP (unS fall) ((ps.take j).map List.length).sum p).take (p.map enc).length = remP (unS fall) ((ps.take j).map List.length).sum p := List.take_of_length_le (by rw [remP_len, List.length_map]; exact Nat.le_refl _)
      have e2 : (((ps.take j) ++ [p]).map List.length).sum = ((ps.take j).map List.length).sum + (p.map enc).length := by rw [List.map_append, List.sum_append, List.length_map]; simp
      rw [take_snoc hp, remL_snoc, List.map_append, Nat.zero_add, e, e2]
      exact ⟨rfl, rfl⟩
  · rintro μ' ρ' σ' H' ⟨rfl, rfl⟩ S
    rw [List.length_map, List.take_length] at S
    refine s_retH hB S (je_tup (ja_cons (je_op (je_var rfl) je_int (rd_ix (n := 0) rfl rfl)) (ja_cons (je_tuplem rfl rfl) ja_nil))) k ?_
    rintro _ rfl
    exact ⟨fall, rfl⟩
/-! _law_facts -/
def FactD (ps : List Prg) (e : PyData) : Prop := e.canLay0 = true ∧ ∃ f, sqD e = some (encF f) ∧ okF ps f = true
def R__law_facts : Rel := fun ds P => ∃ (fs : List Fct), ds = [poolD fs] ∧ 0 < fs.length ∧ fs.length ≤ 1000 ∧ P = fun d => ∃ es, d = .list es ∧ es.length ≤ 8 ∧ LayL es
theorem sc__law_facts : FnScope (["_law_hand_here", "_law_pool", "_law_told", "_law_k", "_law_fact"]) (["_law_hand_here", "_law_pool"]) (defScope (top 49)) := ⟨rfl, rfl, rfl, by decide +kernel, rfl, by decide +kernel, by decide +kernel⟩
theorem je_pool {μ : List MO} {ρ : List SV} {i j k : Nat} {fs : List Fct} {E : XK} (h1 : ρ[i]? = some (.d (poolD fs))) (h2 : ρ[j]? = some (.m k)) (h3 : μ[k]? = some .hand) (hp : 0 < fs.length) (hl : fs.length ≤ 1000) :
    JE C μ ρ (tOp (rIx K) (tVar i) (tCall (spH C R__law_take) [] E (tCons (tVar j) (tCons (tCB (fun xs H Q => ∃ p ys, xs = [.ref p] ∧ (SqL K H p ys ∨ SqT K H p ys) ∧ Q (.int ys.length) H) (tCons (tVar i) tNil)) tNil)))) (fun d => ∃ f ∈ fs, d = tupF f) :=
  jn_ixq (je_var h1) rfl (je_take (m := fs.length) h2 h3 ((je_cb (ja_cons (je_var h1) ja_nil) (cd_len rfl)).eq (by rw [List.length_map])) hp (by omega)) fun r hr => ⟨tupF (fs.getD r (.kept 0 0)), map_at (get_of_lt _ hr), fs.getD r (.kept 0 0), List.mem_of_getElem? (get_of_lt _ hr), rfl⟩
theorem ok__law_facts (T : Txt K mg C) (F : Df K mg "_law_facts" (top 49) (["_law_hand_here", "_law_pool"])) (G__law_take : Cal P w K mg base CX0 2 "_law_take" (["_law_hand_here", "_law_many"]) (spH C R__law_take)) : Cal P w K mg base CX0 3 "_law_facts" (["_law_hand_here", "_law_pool"]) (spH C R__law_facts) := by
  refine F.cal fun f fd F => ?_
  have nd := sc__law_facts.nd
  refine okH F sc__law_facts (fun ds P h => by obtain ⟨fs, rfl, _⟩ := h; rfl) fun cdv A outer s H E hr => ⟨_, (pss_cons (xset 2 nd (pe_lst pa_nil))
      (pss_cons (ps_for PassesOwn.never rfl (pi_range1 (by rfl) T.range_ (pa_cons (xcall G__law_take hr (pa_cons (pv 0) (pa_cons pe_int pa_nil))) pa_nil)) (pg_name (i := 3) nd rfl (by first | exact Or.inl rfl | exact Or.inr rfl)) (pss_cons (xset 4 nd (pe_ix (xix K) (pv 1) (xcall G__law_take hr (pa_cons (pv 0) (pa_cons (pe_callB (xlen K) (by rfl) T.len_ (by decide +kernel) (pa_cons (pv 1) pa_nil)) pa_nil))) (fun _ _ => rfl)))
      (pss_cons (ps_if (PW.pt (pw_and (pt_cmpR op_eq (pe_ix (xix K) (pv 4) pe_int (fun _ _ => rfl)) pe_str (nomark _)) (pw_and1 (pt_cmpR op_eq (xcall G__law_take hr (pa_cons (pv 0) (pa_cons pe_int pa_nil))) pe_int (nomark _))))) (pss_one (xset 4 nd (pe_ix (xix K) (pv 1) (xcall G__law_take hr (pa_cons (pv 0) (pa_cons (pe_callB (xlen K) (by rfl) T.len_ (by decide +kernel) (pa_cons (pv 1) pa_nil)) pa_nil))) (fun _ _ => rfl)))) pss_nil)
      (pss_one (ps_expr (pe_bm PySem.F.plainAttrs_list PySem.F.slot_list_append PySem.F.type_list_append mt_append (pv 2) (pa_cons (pe_ifExp (pt_cmpR op_gt (xcall G__law_take hr (pa_cons (pv 0) (pa_cons pe_int pa_nil))) pe_int (nomark _)) (pv 4) (pe_callTy (xlist K) (by rfl) T.list_ (by decide +kernel) (pa_cons (pv 4) pa_nil))) pa_nil)))))))
      (pss_one (ps_ret (pv 2))))), fun B h σ ds P' Q hB r S k => ?_⟩
  obtain ⟨fs, rfl, hp, hl, rfl⟩ := r
  refine s_seq (s_new S rfl fun pt σ H1 hpt S => ?_)
  refine s_seq (s_forRn (m := 9) (fun j μ ρ => ∃ es : List PyData, es.length = j ∧ LayL es ∧ μ = [.hand, .lst es] ∧ ρ = [.m 0, .d (poolD fs), .m 1, .un, .un]) S (jn_cons (je_take (m := 9) rfl rfl je_int (by decide) (by decide)) ja_nil ?_) (by decide) ⟨[], rfl, fun d hd => (by cases hd), rfl, rfl⟩ ?_ ?_)
  · rintro _ _ ⟨r, hr, rfl⟩ rfl; exact ⟨r, hr, rfl⟩
  · rintro j hj μ' ρ' σ' H' ⟨es, he, hlay, rfl, rfl⟩ S
    refine s_seq (s_asg S (je_pool rfl rfl rfl hp hl) ?_)
    rintro _ σ H1 ⟨f0, _, rfl⟩ S
    have fin : ∀ {f : Fct} {σ : L2.St} {H1 : Hp} {fr : Frm}, Sat C fr [.hand, .lst es] [.m 0, .d (poolD fs), .m 1, .d (.int (j : Int)), .d (tupF f)] σ H1 → ∀ {nx : L2.St → Hp → Prop} {rt : VK} {bk ct : L2.St → Hp → Prop}, (∀ σ H, ∀ e, OkE e → Sat C fr [.hand, .lst (es ++ [e])] [.m 0, .d (poolD fs), .m 1, .un, .un] σ H → nx σ H) →
        tDrop (tBM K "list" rAppend (tVar 2) (tCons (tIf (tTest (tOp (rI0 fun i j => .bl (decide (j < i))) (tCall (spH C R__law_take) [] E0 (tCons (tVar 0) (tCons (tC (.int 3)) tNil))) (tC (.int 0)))) (tVar 4) (tCB (fun xs H Q => ∃ p ys, xs = [.ref p] ∧ (SqL K H p ys ∨ SqT K H p ys) ∧ ∀ l, H l = none → Q (.ref l) (upd H l (.lst ys))) (tCons (tVar 4) tNil))) tNil)) ⟨nx, rt, bk, ct⟩ σ H1 := fun {f σ H1 fr} S {nx rt bk ct} kk => by
      refine s_app (P := OkE) S rfl rfl (jn_if (jt_lt_gt (je_take (m := 3) rfl rfl je_int (by decide) (by decide))) (fun _ => (je_var rfl).imp ?_) (fun _ => (je_cb (ja_cons (je_var rfl) ja_nil) (cd_list (ds := encF f) rfl)).imp ?_)) (by omega) ?_
      · rintro _ rfl; exact tupF_ok f
      · rintro _ rfl; exact lstF_ok f
      · intro e H2 he S
        exact kk _ _ e he ((S.forget (i := 3)).forget (i := 4))
    have done : ∀ {σ : L2.St} {H1 : Hp} (e : PyData), OkE e → Sat C ⟨H, [h], B, [h] ++ [pt], []⟩ [.hand, .lst (es ++ [e])] [.m 0, .d (poolD fs), .m 1, .un, .un] σ H1 → ∃ μ ρ, (∃ es : List PyData, es.length = j + 1 ∧ LayL es ∧ μ = [.hand, .lst es] ∧ ρ = [.m 0, .d (poolD fs), .m 1, .un, .un]) ∧ Sat C ⟨H, [h], B, [h] ++ [pt], []⟩ μ ρ σ H1 := fun {σ H1} e hel S =>
      ⟨_, _, ⟨es ++ [e], by rw [List.length_append, he]; rfl, fun d hd => (List.mem_append.mp hd).elim (hlay d) fun z => by rw [List.mem_singleton.mp z]; exact hel, rfl, rfl⟩, S⟩
    refine s_seq (s_cut (fun μ ρ => ∃ f, μ = [.hand, .lst es] ∧ ρ = [.m 0, .d (poolD fs), .m 1, .d (.int (j : Int)), .d (tupF f)]) S (fun nx' k' => ?_) ?_)
    · refine s_ifn S (jn_andB (jt_test (je_op (je_op (je_var rfl) je_int (rd_ix (n := 0) rfl (encF_0 f0))) je_str rd_eqS)) fun _ => jt_lt_eq (je_take (m := 2) rfl rfl je_int (by decide) (by decide))) (fun _ H1 S => ?_) fun _ H1 S => s_nx (k' _ _ _ _ ⟨f0, rfl, rfl⟩ S)
      refine s_asg S (je_pool rfl rfl rfl hp hl) ?_
      rintro _ σ H1 ⟨f1, _, rfl⟩ S
      exact k' _ _ _ _ ⟨f1, rfl, rfl⟩ S
    · rintro μ' ρ' σ H1 ⟨f1, rfl, rfl⟩ S
      exact fin S fun σ H1 e he S => done e he S
  · rintro n hn μ' ρ' σ' H' ⟨es, he, hlay, rfl, rfl⟩ S
    refine s_retM (fv := [h]) (μ0 := [.hand]) S rfl (by simp) (by simpa using hpt) rfl fun H2 S2 dv => ?_
    exact k _ H2 _ ⟨es, rfl, by omega, hlay⟩ (fun a o q n => S2.fr a o q n) ((S2.mo (k := 0) (p := h) rfl rfl).lift (fun _ q => q) (wo_anti fun a z => List.mem_append_right _ z)) dv
/-! _law_good_row -/
def R__law_good_row : Rel := fun ds P => ∃ (c : Int) (ps : List Prg) (fs : List Fct), ds = [plainD c ps, poolD fs] ∧ LotOk c ps ∧ 0 < fs.length ∧ fs.length ≤ 1000 ∧ P = fun d => ∃ es, d = .list es ∧ es.length ≤ 6 ∧ LayL es
theorem sc__law_good_row : FnScope (["_law_hand_here", "_law_plain", "_law_pool", "_law_told", "_law_turn", "_law_fact"]) (["_law_hand_here", "_law_plain", "_law_pool"]) (defScope (top 52)) := ⟨rfl, rfl, rfl, by decide +kernel, rfl, by decide +kernel, by decide +kernel⟩
theorem idx_shaped : SeqAt.shaped (.str "index") = true := by decide +kernel
theorem encP_shaped (p : Prg) : SeqAt.shaped (encP p) = true := by
  unfold SeqAt.shaped
  rw [encP_lay, decide_eq_true (Nat.le_trans (encP_dep p) (by decide))]; rfl
theorem resD_0 {c : Int} {ps : List Prg} {x : PyData} (L : LotOk c ps) : ∃ ds d, sqD (resD (withRow ps x)) = some ds ∧ ds[0]? = some d ∧ SeqAt.shaped d = true := by
  cases e : withRow ps x with
  | error i => exact ⟨_, _, rfl, rfl, idx_shaped⟩
  | ok ps' =>
    have L' := withRow_ok L e
    cases ps' with
    | nil => have := L'.len.1; simp at this
    | cons p ps' => exact ⟨_, _, rfl, rfl, encP_shaped p⟩
theorem ok__law_good_row (T : Txt K mg C) (F : Df K mg "_law_good_row" (top 52) (["_law_hand_here", "_law_plain", "_law_pool"])) (G__law_take : Cal P w K mg base CX0 2 "_law_take" (["_law_hand_here", "_law_many"]) (spH C R__law_take)) (G__law_with : Cal P w K mg base CX0 4 "_law_with" (["_law_lot_here", "_law_facts_here"]) (spP C R__law_with)) : Cal P w K mg base CX0 5 "_law_good_row" (["_law_hand_here", "_law_plain", "_law_pool"]) (spH C R__law_good_row) := by
  refine F.cal fun f fd F => ?_
  have nd := sc__law_good_row.nd
  refine okH F sc__law_good_row (fun ds P h => by obtain ⟨c, ps, fs, rfl, _⟩ := h; rfl) fun cdv A outer s H E hr => ⟨_, (pss_cons (xset 3 nd (pe_lst pa_nil))
      (pss_cons (ps_for PassesOwn.never rfl (pi_range1 (by rfl) T.range_ (pa_cons pe_int pa_nil)) (pg_name (i := 4) nd rfl (by first | exact Or.inl rfl | exact Or.inr rfl)) (pss_cons (xset 5 nd (pe_ix (xix K) (pv 2) (xcall G__law_take hr (pa_cons (pv 0) (pa_cons (pe_callB (xlen K) (by rfl) T.len_ (by decide +kernel) (pa_cons (pv 2) pa_nil)) pa_nil))) (fun _ _ => rfl)))
      (pss_one (ps_if (pt_cmpR (xneD K (hu := hr.units)) (pe_ix (xix K) (xcall G__law_with hr (pa_cons (pv 1) (pa_cons (pe_op op_cat (pv 3) (pe_lst (pa_cons (pv 5) pa_nil))) pa_nil))) pe_int (fun _ _ => rfl)) pe_str (nomark _)) (pss_one (ps_expr (pe_bm PySem.F.plainAttrs_list PySem.F.slot_list_append PySem.F.type_list_append mt_append (pv 3) (pa_cons (pv 5) pa_nil)))) pss_nil))))
      (pss_one (ps_ret (pv 3))))), fun B h σ ds P' Q hB r S k => ?_⟩
  obtain ⟨c, ps, fs, rfl, L, hp, hl, rfl⟩ := r
  refine s_seq (s_new S rfl fun pt σ H1 hpt S => ?_)
  refine s_seq (s_forR (n := 6) (fun j μ ρ => ∃ es : List PyData, es.length ≤ j ∧ LayL es ∧ μ = [.hand, .lst es] ∧ ρ = [.m 0, .d (plainD c ps), .d (poolD fs), .m 1, .un, .un]) S (ja_cons je_int ja_nil) (by decide) ⟨[], Nat.le_refl _, fun d hd => (by cases hd), rfl, rfl⟩ ?_ ?_)
  · rintro j hj μ' ρ' σ' H' ⟨es, he, hlay, rfl, rfl⟩ S
    refine s_seq (s_asg S (je_pool rfl rfl rfl hp hl) ?_)
    rintro _ σ H1 ⟨f0, _, rfl⟩ S
    have hlay2 : LayL (es ++ [tupF f0]) := fun d hd => (List.mem_append.mp hd).elim (hlay d) fun z => by rw [List.mem_singleton.mp z]; exact tupF_ok f0
    obtain ⟨ds, d, h1, h2, h3⟩ := resD_0 (x := .list (es ++ [tupF f0])) L
    refine s_if S (jt_test (je_op (je_op (je_call (ja_cons (je_var rfl) (ja_cons (je_catm rfl rfl (je_lst (ja_cons (je_var rfl) ja_nil)) (by show es.length + 1 ≤ 10000; omega)) ja_nil)) ⟨c, ps, _, rfl, L, ⟨rfl, fun es' h => by cases h; exact hlay2.lay⟩, rfl⟩) je_int (rd_ix (n := 0) h1 h2)) je_str (rd_neD h3 idx_shaped))) (fun _ H1 S => ?_) fun _ H1 S => s_nx ⟨_, _, ⟨es, by omega, hlay, rfl, rfl⟩, (S.forget (i := 4)).forget (i := 5)⟩
    refine s_app S rfl rfl (je_var rfl) (by omega) ?_
    rintro _ H1 rfl S
    exact ⟨_, _, ⟨es ++ [tupF f0], by rw [List.length_append]; show es.length + 1 ≤ j + 1; omega, hlay2, rfl, rfl⟩, (S.forget (i := 4)).forget (i := 5)⟩
  · rintro μ' ρ' σ' H' ⟨es, he, hlay, rfl, rfl⟩ S
    refine s_retM (fv := [h]) (μ0 := [.hand]) S rfl (by simp) (by simpa using hpt) rfl fun H2 S2 dv => ?_
    exact k _ H2 _ ⟨es, rfl, he, hlay⟩ (fun a o q n => S2.fr a o q n) ((S2.mo (k := 0) (p := h) rfl rfl).lift (fun _ q => q) (wo_anti fun a z => List.mem_append_right _ z)) dv
end
end KG
namespace KG
open PySem PySem.Spec L2
section
variable {P : Program} {w : World} {K : PySem.W.Frag} {mg : Str → Option Value} {base : Heap} {C : Addr}
/-! _law_spoiled_fact -/
def R__law_spoiled_fact : Rel := fun ds P => ∃ (x : PyData) (f : Fct), ds = [x, tupF f] ∧ P = fun d => d.canLay0 = true ∧ d.depth ≤ 2
theorem sc__law_spoiled_fact : FnScope (["_law_hand_here", "_law_lot_here", "_law_fact", "_law_row", "_law_at", "_law_odd", "_law_way"]) (["_law_hand_here", "_law_lot_here", "_law_fact"]) (defScope (top 48)) := ⟨rfl, rfl, rfl, by decide +kernel, rfl, by decide +kernel, by decide +kernel⟩
def odds12 : List PyData := [.int (-1), .int 4, .bool true, .none, .str "0", .int (10 ^ (9 : Int).toNat), .bool false, .tuple [.int 0], .str "kept", .str "without", .str "any", .str "same"]
theorem odds_lay : LayL odds12 := by
  have h : odds12.all (fun d => d.canLay0 && decide (d.depth ≤ 1)) = true := by decide +kernel
  intro d hd
  have := List.all_eq_true.mp h d hd
  rw [Bool.and_eq_true, decide_eq_true_eq] at this
  exact this
theorem get_ex {α : Type} {xs : List α} {n : Nat} (h : n < xs.length) : ∃ d, xs[n]? = some d ∧ d ∈ xs := ⟨xs[n], List.getElem?_eq_getElem h, List.getElem_mem h⟩
theorem cutD_sub {α : Type} {xs : List α} {lo hi : Option Int} {x : α} (h : x ∈ cutD xs lo hi) : x ∈ xs := List.mem_of_mem_drop (List.mem_of_mem_take h)
theorem LayL.set {ds : List PyData} {d : PyData} {n : Nat} (h : LayL ds) (hd : OkE d) : LayL (ds.set n d) := fun e he => by
  rcases List.mem_or_eq_of_mem_set he with z | z
  · exact h e z
  · rw [z]; exact hd
theorem ok__law_spoiled_fact (T : Txt K mg C) (F : Df K mg "_law_spoiled_fact" (top 48) (["_law_hand_here", "_law_lot_here", "_law_fact"])) (G__law_take : Cal P w K mg base CX0 2 "_law_take" (["_law_hand_here", "_law_many"]) (spH C R__law_take)) : Cal P w K mg base CX0 3 "_law_spoiled_fact" (["_law_hand_here", "_law_lot_here", "_law_fact"]) (spH C R__law_spoiled_fact) := by
  refine F.cal fun f fd F => ?_
  have nd := sc__law_spoiled_fact.nd
  refine okH F sc__law_spoiled_fact (fun ds P h => by obtain ⟨x, f, rfl, _⟩ := h; rfl) fun cdv A outer s H E hr => ⟨_, (pss_cons (xset 3 nd (pe_callTy (xlist K) (by rfl) T.list_ (by decide +kernel) (pa_cons (pv 2) pa_nil)))
      (pss_cons (xset 4 nd (xcall G__law_take hr (pa_cons (pv 0) (pa_cons (pe_callB (xlen K) (by rfl) T.len_ (by decide +kernel) (pa_cons (pv 3) pa_nil)) pa_nil))))
      (pss_cons (xset 5 nd (pe_ix (xix K) (pe_tup (pa_cons (pe_un un_neg pe_int) (pa_cons pe_int (pa_cons pe_bl (pa_cons pe_non (pa_cons pe_str (pa_cons (pe_op op_pow pe_int pe_int) (pa_cons pe_bl (pa_cons (pe_tup (pa_cons pe_int pa_nil)) (pa_cons pe_str (pa_cons pe_str (pa_cons pe_str (pa_cons pe_str pa_nil))))))))))))) (xcall G__law_take hr (pa_cons (pv 0) (pa_cons pe_int pa_nil))) (fun _ _ => rfl)))
      (pss_cons (xset 6 nd (xcall G__law_take hr (pa_cons (pv 0) (pa_cons pe_int pa_nil))))
      (pss_cons (ps_if (pt_cmpR op_eq (pv 6) pe_int (nomark _)) (pss_one (ps_ret (pe_op op_cat (pv 3) (pe_lst (pa_cons (pv 5) pa_nil))))) pss_nil)
      (pss_cons (ps_if (pt_cmpR op_eq (pv 6) pe_int (nomark _)) (pss_one (ps_ret (pe_slice (xslL K) (pv 3) po_none (po_some (pv 4))))) pss_nil)
      (pss_cons (ps_if (pt_cmpR op_eq (pv 6) pe_int (nomark _)) (pss_one (ps_ret (pv 5))) pss_nil)
      (pss_cons (ps_if (PW.pt (pw_and (pt_cmpR op_eq (pv 6) pe_int (nomark _)) (pw_and1 (pt_cmpR op_eq (pe_callB (xlen K) (by rfl) T.len_ (by decide +kernel) (pa_cons (pv 3) pa_nil)) pe_int (nomark _))))) (pss_one (ps_ret (pe_lst (pa_cons (pe_ix (xix K) (pv 3) pe_int (fun _ _ => rfl)) (pa_cons (pe_ix (xix K) (pv 3) pe_int (fun _ _ => rfl)) (pa_cons (pe_ix (xix K) (pv 3) pe_int (fun _ _ => rfl)) (pa_cons (pe_ix (xix K) (pv 3) pe_int (fun _ _ => rfl)) (pa_cons (pe_ix (xix K) (pv 3) pe_int (fun _ _ => rfl)) pa_nil)))))))) pss_nil)
      (pss_cons (ps_if (pt_cmpR op_eq (pv 6) pe_int (nomark _)) (pss_cons (ps_asg (xcall G__law_take hr (pa_cons (pv 0) (pa_cons pe_int pa_nil))) (pg_sub (pv 3) (pv 4) set_list))
      (pss_one (ps_ret (pe_callTy (xtuple K) (by rfl) T.tuple_ (by decide +kernel) (pa_cons (pv 3) pa_nil))))) pss_nil)
      (pss_cons (ps_asg (pv 5) (pg_sub (pv 3) (pv 4) set_list))
      (pss_one (ps_ret (pv 3))))))))))))), fun B h σ ds P' Q hB r S k => ?_⟩
  obtain ⟨x, f, rfl, rfl⟩ := r
  obtain ⟨l3, l5⟩ := encF_len f
  refine s_seq (s_newl S (je_var rfl) (x := tupF f) (ds := encF f) rfl rfl fun pt σ H1 hpt S => ?_)
  refine s_seq (s_asg S (je_take (m := (encF f).length) rfl rfl (je_lenm rfl rfl) (by omega) (by omega)) ?_)
  rintro _ σ H1 ⟨at_, hat, rfl⟩ S
  refine s_seq (s_asg (P := OkE) S (jn_ixq (ds := odds12) (je_tup (ja_cons (je_un je_int ud_neg) (ja_cons je_int (ja_cons je_bl (ja_cons je_non (ja_cons je_str (ja_cons (je_op je_int je_int (rd_pow ⟨by decide, by decide, by decide⟩)) (ja_cons je_bl (ja_cons (je_tup (ja_cons je_int ja_nil)) (ja_cons je_str (ja_cons je_str (ja_cons je_str (ja_cons je_str ja_nil))))))))))))) rfl (je_take (m := 12) rfl rfl je_int (by decide) (by decide)) ?_) ?_)
  · intro r hr
    obtain ⟨d, h1, h2⟩ := get_ex (xs := odds12) (n := r) (by show r < 12; exact hr)
    exact ⟨d, h1, odds_lay d h2⟩
  intro odd σ H1 hodd S
  refine s_seq (s_asg S (je_take (m := 6) rfl rfl je_int (by decide) (by decide)) ?_)
  rintro _ σ H1 ⟨wy, hwy, rfl⟩ S
  have lay := encF_lay f
  have wt : ∀ {μ : List MO} {ρ : List SV} {z : Int}, ρ[6]? = some (.d (.int (wy : Int))) → JT C μ ρ (tTest (tOp rEq (tVar 6) (tC (.int z)))) (· = decide ((wy : Int) = z)) := fun h => jt_test (je_op (je_var h) je_int rd_eqI)
  refine s_seq (s_if S (wt rfl) (fun _ H1 S => ?_) fun _ H1 S => s_nx ?_)
  · refine s_retH hB S (je_catm rfl rfl (je_lst (ja_cons (je_var rfl) ja_nil)) (by show (encF f).length + 1 ≤ 10000; omega)) k ?_
    rintro _ rfl
    exact LayL.list fun d hd => (List.mem_append.mp hd).elim (lay d) fun z => by rw [List.mem_singleton.mp z]; exact hodd
  refine s_seq (s_if S (wt rfl) (fun _ H1 S => ?_) fun _ H1 S => s_nx ?_)
  · refine s_retH hB S (je_slm rfl rfl jo_none (jo_some (je_var rfl))) k ?_
    rintro _ rfl
    exact LayL.list fun d hd => lay d (cutD_sub hd)
  refine s_seq (s_if S (wt rfl) (fun _ H1 S => ?_) fun _ H1 S => s_nx ?_)
  · refine s_retH hB S (je_var rfl) k ?_
    rintro _ rfl
    exact ⟨hodd.1, Nat.le_succ_of_le hodd.2⟩
  refine s_seq (s_if S (jt_and (wt rfl) fun _ => jt_test (je_op (je_lenm rfl rfl) je_int rd_eqI)) (fun z H1 S => ?_) fun _ H1 S => s_nx ?_)
  · have z : (wy : Int) = 3 ∧ ((encF f).length : Int) = 5 := by simpa using z
    have e5 : (encF f).length = 5 := by omega
    obtain ⟨d0, g0, m0⟩ := get_ex (xs := encF f) (n := 0) (by omega)
    obtain ⟨d1, g1, m1⟩ := get_ex (xs := encF f) (n := 1) (by omega)
    obtain ⟨d2, g2, m2⟩ := get_ex (xs := encF f) (n := 2) (by omega)
    obtain ⟨d3, g3, m3⟩ := get_ex (xs := encF f) (n := 3) (by omega)
    obtain ⟨d4, g4, m4⟩ := get_ex (xs := encF f) (n := 4) (by omega)
    refine s_retH hB S (je_lst (ja_cons (je_ixm (n := 0) rfl rfl je_int g0) (ja_cons (je_ixm (n := 3) rfl rfl je_int g3) (ja_cons (je_ixm (n := 4) rfl rfl je_int g4) (ja_cons (je_ixm (n := 1) rfl rfl je_int g1) (ja_cons (je_ixm (n := 2) rfl rfl je_int g2) ja_nil)))))) k ?_
    rintro _ rfl
    refine LayL.list fun d hd => ?_
    simp only [List.mem_cons, List.not_mem_nil, or_false] at hd
    rcases hd with e | e | e | e | e
    · rw [e]; exact lay _ m0
    · rw [e]; exact lay _ m3
    · rw [e]; exact lay _ m4
    · rw [e]; exact lay _ m1
    · rw [e]; exact lay _ m2
  refine s_seq (s_if S (wt rfl) (fun _ H1 S => ?_) fun _ H1 S => s_nx ?_)
  · refine s_seq (s_setm (n := at_) S rfl rfl (je_take (m := 4) rfl rfl je_int (by decide) (by decide)) (je_var rfl) hat ?_)
    rintro _ H1 ⟨r, hr, rfl⟩ S
    refine s_retH hB S (je_tuplem rfl rfl) k ?_
    rintro _ rfl
    exact LayL.tuple (lay.set ⟨by simp only [PyData.canLay0], by simp only [PyData.depth]; decide⟩)
  refine s_seq (s_setm (n := at_) S rfl rfl (je_var rfl) (je_var rfl) hat ?_)
  rintro _ H1 rfl S
  refine s_retM (fv := [h]) (μ0 := [.hand]) S rfl (by simp) (by simpa using hpt) rfl fun H2 S2 dv => ?_
  exact k _ H2 _ (LayL.list (lay.set hodd)) (fun a o q n => S2.fr a o q n) ((S2.mo (k := 0) (p := h) rfl rfl).lift (fun _ q => q) (wo_anti fun a z => List.mem_append_right _ z)) dv
end
end KG
namespace KG
open PySem PySem.Spec L2 PyProof.Rows
/-! sorted(xs) of rows that read as alike tuples: a list of the same rows -/
def rSortedD (K : PySem.W.Frag) : List V → Hp → VK → Prop := fun vs H Q => ∃ (a : Addr) (zs : List (V × PyData)), vs = [V.ref a] ∧ SqL K H a (zs.map (·.1)) ∧ DpAll K H (zs.map (·.1)) (zs.map (·.2)) ∧ PySem.W.AllAlike (zs.map (·.2)) ∧ PySem.W.Sortable (zs.map (·.2)) ∧ (∀ z ∈ zs, z.2.depth ≤ 60) ∧
  ∀ (zs' : List (V × PyData)) (p : Addr), zs'.Perm zs → H p = none → Q (.ref p) (upd H p (.lst (zs'.map (·.1))))
theorem zip_fst {α β : Type} : ∀ {xs : List α} {ys : List β}, xs.length = ys.length → (xs.zip ys).map (·.1) = xs
  | [], [], _ => rfl
  | [], _ :: _, h => by simp at h
  | _ :: _, [], h => by simp at h
  | x :: xs, y :: ys, h => by rw [List.zip_cons_cons, List.map_cons, zip_fst (by simpa using h)]
theorem zip_snd {α β : Type} : ∀ {xs : List α} {ys : List β}, xs.length = ys.length → (xs.zip ys).map (·.2) = ys
  | [], [], _ => rfl
  | [], _ :: _, h => by simp at h
  | _ :: _, [], h => by simp at h
  | x :: xs, y :: ys, h => by rw [List.zip_cons_cons, List.map_cons, zip_snd (by simpa using h)]
theorem vals_zip : ∀ {zs : List (V × PyData)} {us : List Value}, Vals (zs.map (·.1)) us → us.length = zs.length ∧ ∀ b ∈ us.zip zs, RelV b.2.1 b.1
  | [], us, r => by
    have r' : Vals [] us := r
    cases r'
    exact ⟨rfl, fun b hb => by cases hb⟩
  | z :: zs, us, r => by
    have r' : Vals (z.1 :: zs.map (·.1)) us := r
    cases r' with
    | cons h t =>
      obtain ⟨h1, h2⟩ := vals_zip t
      refine ⟨by simp [h1], fun b hb => ?_⟩
      rw [List.zip_cons_cons] at hb
      rcases List.mem_cons.mp hb with e | hb
      · rw [e]; exact h
      · exact h2 b hb
theorem zip_vals : ∀ {bs : List (Value × (V × PyData))}, (∀ b ∈ bs, RelV b.2.1 b.1) → Vals ((bs.map (·.2)).map (·.1)) (bs.map (·.1))
  | [], _ => .nil
  | b :: bs, h => .cons (h b List.mem_cons_self) (zip_vals fun c hc => h c (List.mem_cons_of_mem _ hc))
theorem each_fst : ∀ {bs : List (Value × (V × PyData))}, PySem.W.EachIs (fun v b => v = b.1) (bs.map (·.1)) bs
  | [] => .nil
  | b :: bs => .cons rfl each_fst
theorem each_out {α β : Type} {g : β → α} : ∀ {out : List α} {bs : List β}, PySem.W.EachIs (fun v b => v = g b) out bs → out = bs.map g
  | _, _, .nil => rfl
  | _, _, .cons h t => by rw [List.map_cons, ← each_out t, h]
theorem dp_pair {K : PySem.W.Frag} {H : Hp} : ∀ {zs : List (V × PyData)}, DpAll K H (zs.map (·.1)) (zs.map (·.2)) → ∀ z ∈ zs, Dp K H z.1 z.2
  | [], _, z, hz => by cases hz
  | y :: zs, h, z, hz => by
    have h' : DpAll K H (y.1 :: zs.map (·.1)) (y.2 :: zs.map (·.2)) := h
    cases h' with
    | cons a b =>
      rcases List.mem_cons.mp hz with e | hz
      · rw [e]; exact a
      · exact dp_pair b z hz
theorem each_of {α β : Type} {R : α → β → Prop} {g : β → α} : ∀ {bs : List β}, (∀ b ∈ bs, R (g b) b) → PySem.W.EachIs R (bs.map g) bs
  | [], _ => .nil
  | b :: bs, h => .cons (h b List.mem_cons_self) (each_of fun c hc => h c (List.mem_cons_of_mem _ hc))
theorem cr_sortedD {X : Cx} (K : PySem.W.Frag) (hu : X.A.units + 64 < cLine) (hK : X.K = K := by rfl) : CallR X (.builtin "sorted") (rSortedD K) := by
  subst hK
  intro pins s σ H vs us Q I r h
  obtain ⟨a, zs, rfl, hs, hd, hal, hk, hdep, q⟩ := h
  obtain ⟨its, rv, hl, hz⟩ := I.list hs
  obtain ⟨u, rfl, ru⟩ := vals1 r
  obtain rfl : u = Value.ref a := ru
  obtain ⟨hlen, hrel⟩ := vals_zip rv
  have e1 := zip_fst hlen
  have e2 := zip_snd hlen
  have hmap : (its.zip zs).map (fun b => b.2.2) = zs.map (·.2) := by
    have : (its.zip zs).map (fun b => b.2.2) = ((its.zip zs).map (·.2)).map (·.2) := by rw [List.map_map]; rfl
    rw [this, e2]
  have hmem : ∀ b ∈ its.zip zs, b.2 ∈ zs := fun b hb => by
    have := List.mem_map_of_mem (f := (·.2)) hb
    rw [e2] at this; exact this
  refine PySem.W.sorted_data (β := Value × (V × PyData)) (enc := fun b => b.2.2) (bs := its.zip zs) (R := fun v b => v = b.1) hl.isList ?_ ?_ (by rw [hmap]; exact hal) (by rw [hmap]; exact hk) ?_ ?_ ?_
  · have := each_fst (bs := its.zip zs)
    rw [e1] at this; exact this
  · have := each_of (g := (·.1)) (R := fun v (b : Value × (V × PyData)) => ∃ as, Reads s.heap v b.2.2 as) (bs := its.zip zs) fun b hb => Dp.reads I _ _ _ (dp_pair hd b.2 (hmem b hb)) (hrel b hb)
    rw [e1] at this; exact this
  · have : (its.zip zs).length = zs.length := by rw [List.length_zip, hlen, Nat.min_self]
    rw [this]
    rw [List.length_map] at hz; exact hz
  · intro b hb
    have := hdep b.2 (hmem b hb)
    omega
  · intro out ho eo
    have e3 := each_out eo
    have pm : ((its.zip zs).mergeSort (PySem.W.dataLe false fun b => b.2.2)).Perm (its.zip zs) := List.mergeSort_perm _ _
    generalize (its.zip zs).mergeSort (PySem.W.dataLe false fun b => b.2.2) = bs' at *
    have hv : Vals ((bs'.map (·.2)).map (·.1)) out := by
      rw [e3]
      exact zip_vals fun b hb => hrel b (pm.mem_iff.mp hb)
    have pz : (bs'.map (·.2)).Perm zs := by
      have := pm.map (·.2)
      rw [e2] at this; exact this
    obtain ⟨n, hn⟩ := sortedAll_at s.heap its out.toArray
    refine ⟨.ref (s.heap.objs.size + 1), upd H (s.heap.objs.size + 1) (.lst ((bs'.map (·.2)).map (·.1))), I.laid (t' := s.toks) (fun b o e => sortedAll_old e) (Nat.le_succ _) ⟨?_, out, n, hv, hn⟩, rfl, q _ _ pz (I.hok.fresh (Nat.le_succ _))⟩
    rw [List.length_map, pz.length_eq]
    rw [List.length_map] at hz; exact hz
end KG
namespace KG
open PySem PySem.Spec L2
theorem alike_str (a b : Str) : PySem.W.alike (.str a) (.str b) = true := by simp [PySem.W.alike]
theorem encF_shape (f : Fct) : ∃ (s : Str) (ns : List Int), encF f = .str s :: ns.map .int := by
  cases f
  · exact ⟨_, [_, _, _], rfl⟩
  · exact ⟨_, [_, _], rfl⟩
  · exact ⟨_, [_, _], rfl⟩
  · exact ⟨_, [_, _, _, _], rfl⟩
theorem alike_tupF (f g : Fct) : PySem.W.alike (tupF f) (tupF g) = true := by
  obtain ⟨s, ns, e1⟩ := encF_shape f
  obtain ⟨t, ms, e2⟩ := encF_shape g
  unfold tupF
  rw [e1, e2, PySem.W.alike, PySem.W.alikeAll, alike_str, PySem.W.alike_ints]; rfl
theorem dep_tupF (f : Fct) : (tupF f).depth ≤ 60 := by
  obtain ⟨s, ns, e1⟩ := encF_shape f
  unfold tupF
  rw [e1, PyData.depth, PyData.depthAll, PySem.W.depth_ints]
  simp only [PyData.depth]; decide
section
variable {C : Addr} {K : PySem.W.Frag}
theorem dta_zip {G : Hp} : ∀ {xs : List V} {ds : List PyData}, DtA C G xs ds → ∀ z ∈ xs.zip ds, Dt C G z.1 z.2
  | _, _, .nil, z, hz => by cases hz
  | _, _, .cons a b, z, hz => by
    rw [List.zip_cons_cons] at hz
    rcases List.mem_cons.mp hz with e | hz
    · rw [e]; exact a
    · exact dta_zip b z hz
theorem zip_dta {G : Hp} : ∀ {zs : List (V × PyData)}, (∀ z ∈ zs, Dt C G z.1 z.2) → DtA C G (zs.map (·.1)) (zs.map (·.2))
  | [], _ => .nil
  | z :: zs, h => .cons (h z List.mem_cons_self) (zip_dta fun y hy => h y (List.mem_cons_of_mem _ hy))
theorem ex_tupF {fs : List Fct} : ∀ {ds : List PyData}, (∀ d ∈ ds, ∃ f ∈ fs, d = tupF f) → ∃ gs : List Fct, ds = gs.map tupF ∧ ∀ g ∈ gs, g ∈ fs
  | [], _ => ⟨[], rfl, fun g hg => by cases hg⟩
  | d :: ds, h => by
    obtain ⟨f, hf, rfl⟩ := h d List.mem_cons_self
    obtain ⟨gs, rfl, hg⟩ := ex_tupF (ds := ds) fun e he => h e (List.mem_cons_of_mem _ he)
    exact ⟨f :: gs, rfl, fun g hg' => (List.mem_cons.mp hg').elim (fun e => by rw [e]; exact hf) (hg g)⟩
theorem cd_sortedD {fs : List Fct} : CD C (rSortedD K) [poolD fs] (fun d => ∃ gs : List Fct, d = poolD gs ∧ gs.length = fs.length ∧ ∀ g ∈ gs, g ∈ fs) := fun M H vs al h Q q => by
  cases h with
  | cons h1 hn =>
    cases hn
    obtain ⟨a, xs, rfl, hx, da⟩ := h1.lstE
    have hl := da.length
    have e1 := zip_fst hl
    have e2 := zip_snd hl
    refine ⟨a, xs.zip (fs.map tupF), rfl, by rw [e1]; exact SqL.of (wo_some hx).2, ?_, ?_, ?_, ?_, ?_⟩
    · rw [e1, e2]
      exact (da.mono fun a o z => (wo_some z).2).dp (layAll_of fun d hd => by obtain ⟨f, _, rfl⟩ := List.mem_map.mp hd; exact tupF_lay f)
    · rw [e2]
      exact PySem.W.AllAlike.of alike_tupF
    · rw [e2]
      exact PySem.W.Sortable.tuples fun f => by
        obtain ⟨s, ns, e⟩ := encF_shape f
        exact ⟨_, _, by unfold tupF; rw [e]⟩
    · intro z hz
      have := List.mem_map_of_mem (f := (·.2)) hz
      rw [e2] at this
      obtain ⟨f, _, e⟩ := List.mem_map.mp this
      rw [← e]; exact dep_tupF f
    · intro zs' p pm hp
      obtain ⟨gs, hg, hm⟩ := ex_tupF (fs := fs) (ds := zs'.map (·.2)) fun d hd => by
        obtain ⟨z, hz, rfl⟩ := List.mem_map.mp hd
        have := List.mem_map_of_mem (f := (·.2)) (pm.mem_iff.mp hz)
        rw [e2] at this
        obtain ⟨f, hf, e⟩ := List.mem_map.mp this
        exact ⟨f, hf, e.symm⟩
      have dz : DtA C (wo M H) (zs'.map (·.1)) (zs'.map (·.2)) := zip_dta fun z hz => dta_zip da z (pm.mem_iff.mp hz)
      refine q _ _ (poolD gs) ⟨gs, rfl, ?_, hm⟩ (.new hp) ?_
      · have := congrArg List.length hg
        rw [List.length_map, List.length_map, pm.length_eq, List.length_zip, hl, Nat.min_self, List.length_map] at this
        exact this.symm
      · rw [hg] at dz
        exact dt_newL al hp dz
end
def plD (z : Nat × Nat) : PyData := .tuple [.int (z.1 : Int), .int (z.2 : Int)]
def intsD (d : PyData) : List Int := ((sqD d).getD []).map intD
theorem intsD_pl (z : Nat × Nat) : intsD (plD z) = [(z.1 : Int), (z.2 : Int)] := rfl
def sameC (z : Nat × Nat) (y : Nat × Nat) : Bool := HT.lexLt [(z.1 : Int), (z.2 : Int)] [(y.1 : Int), (y.2 : Int)]
theorem outs_same (z : Nat × Nat) (pl : List (Nat × Nat)) : outs (fun d => HT.lexLt [(z.1 : Int), (z.2 : Int)] (intsD d)) (fun d => .tuple ([.str "same", .int (z.1 : Int), .int (z.2 : Int)] ++ (sqD d).getD [])) (pl.map plD) = ((pl.filter (sameC z)).map fun y => Fct.same z.1 z.2 y.1 y.2).map tupF := by
  unfold outs
  rw [List.filter_map, List.map_map, List.map_map]
  rfl
section
variable {P : Program} {w : World} {K : PySem.W.Frag} {mg : Str → Option Value} {base : Heap} {C : Addr}
/-! _law_all_facts -/
def R__law_all_facts : Rel := fun ds P => ∃ (c : Int) (ps : List Prg), ds = [plainD c ps] ∧ LotOk c ps ∧ P = fun d => ∃ fs : List Fct, d = poolD fs ∧ 0 < fs.length ∧ fs.length ≤ 1000 ∧ ∀ f ∈ fs, okF ps f = true
theorem sc__law_all_facts : FnScope (["_law_lot_here", "_law_places", "_law_p", "_law_told", "_law_place", "_law_k", "_law_other"]) (["_law_lot_here"]) (defScope (top 43)) := ⟨rfl, rfl, rfl, by decide +kernel, rfl, by decide +kernel, by decide +kernel⟩
theorem ok__law_all_facts (T : Txt K mg C) (F : Df K mg "_law_all_facts" (top 43) (["_law_lot_here"])) : Cal P w K mg base CX0 1 "_law_all_facts" (["_law_lot_here"]) (spP C R__law_all_facts) := by
  refine F.cal fun f fd F => ?_
  have nd := sc__law_all_facts.nd
  refine okP F sc__law_all_facts (fun ds P h => by obtain ⟨c, ps, rfl, _⟩ := h; rfl) fun cdv A outer s H E hr => ⟨_, (pss_cons (xset 1 nd (pe_lst pa_nil))
      (pss_cons (ps_for PassesOwn.never rfl (pi_range1 (by rfl) T.range_ (pa_cons (pe_callB (xlen K) (by rfl) T.len_ (by decide +kernel) (pa_cons (pe_ix (xix K) (pv 0) pe_int (fun _ _ => rfl)) pa_nil)) pa_nil)) (pg_name (i := 2) nd rfl (by first | exact Or.inl rfl | exact Or.inr rfl)) (pss_one (xset 1 nd (pe_op op_cat (pv 1) (pe_lc (own := [("_law_k", 5)]) (g := gName 5) rfl nd (pi_range1 (by rfl) T.range_ (pa_cons (pe_callB (xlen K) (by rfl) T.len_ (by decide +kernel) (pa_cons (pe_ix (xix K) (pe_ix (xix K) (pv 0) pe_int (fun _ _ => rfl)) (pv 2) (fun _ _ => rfl)) pa_nil)) pa_nil)) (blkOk_by (N := ["_law_lot_here", "_law_places", "_law_p", "_law_told", "_law_place", "_law_k", "_law_other"]) (sc := (defScope (top 43))) (by decide +kernel)) (fun _ _ _ _ _ => pg_name (i := 5) nd rfl (Or.inl rfl)) (fun _ _ _ _ _ => pts_nil) (fun _ _ _ _ _ => (pe_tup (pa_cons (pv 2) (pa_cons (pv 5) pa_nil)))))))))
      (pss_cons (xset 3 nd (pe_lst pa_nil))
      (pss_cons (ps_for PassesOwn.never rfl (xseq K (h := (pv 1))) (pg_name (i := 4) nd rfl (by first | exact Or.inl rfl | exact Or.inr rfl)) (pss_cons (xset 3 nd (pe_op op_cat (pv 3) (pe_lst (pa_cons (pe_op (xcatA K) (pe_tup (pa_cons pe_str pa_nil)) (pv 4)) (pa_cons (pe_op (xcatA K) (pe_tup (pa_cons pe_str pa_nil)) (pv 4)) pa_nil)))))
      (pss_cons (xset 3 nd (pe_op op_cat (pv 3) (pe_lc (own := [("_law_k", 5)]) (g := gName 5) rfl nd (pi_range1 (by rfl) T.range_ (pa_cons (pe_op op_add (pe_ix (xix K) (pv 4) pe_int (fun _ _ => rfl)) pe_int) pa_nil)) (blkOk_by (N := ["_law_lot_here", "_law_places", "_law_p", "_law_told", "_law_place", "_law_k", "_law_other"]) (sc := (defScope (top 43))) (by decide +kernel)) (fun _ _ _ _ _ => pg_name (i := 5) nd rfl (Or.inl rfl)) (fun _ _ _ _ _ => pts_nil) (fun _ _ _ _ _ => (pe_op (xcatA K) (pe_op (xcatA K) (pe_tup (pa_cons pe_str pa_nil)) (pv 4)) (pe_tup (pa_cons (pv 5) pa_nil)))))))
      (pss_one (xset 3 nd (pe_op op_cat (pv 3) (pe_lc (own := [("_law_other", 6)]) (g := gName 6) rfl nd (xseq K (h := (pv 1))) (blkOk_by (N := ["_law_lot_here", "_law_places", "_law_p", "_law_told", "_law_place", "_law_k", "_law_other"]) (sc := (defScope (top 43))) (by decide +kernel)) (fun _ _ _ _ _ => pg_name (i := 6) nd rfl (Or.inl rfl)) (fun _ _ _ _ _ => pts_one (pt_cmpR (xltT K (hu := hr.units0)) (pv 4) (pv 6) (nomark _))) (fun _ _ _ _ _ => (pe_op (xcatA K) (pe_op (xcatA K) (pe_tup (pa_cons pe_str pa_nil)) (pv 4)) (pv 6))))))))))
      (pss_one (ps_ret (pe_callB (cr_sortedD K hr.units) (by rfl) T.sorted_ (by decide +kernel) (pa_cons (pv 3) pa_nil)))))))), fun B σ ds P' Q r S k => ?_⟩
  obtain ⟨c, ps, rfl, L, rfl⟩ := r
  have hl3 := L.len
  have htot := L.total
  have hl4 : ∀ p ∈ ps, 1 ≤ p.length ∧ p.length ≤ 4 := fun p hp => (L.pr p hp).len
  have prg : ∀ {μ : List MO} {ρ : List SV}, ρ[0]? = some (.d (plainD c ps)) → JE C μ ρ (tOp (rIx K) (tVar 0) (tC (.int 1))) (· = encPs ps) := fun h => je_op (je_var h) je_int (rd_ix (n := 1) rfl rfl)
  refine s_seq (s_asg1 S (je_lst ja_nil) fun σ H S => ?_)
  refine s_seq (s_forR (n := ps.length) (fun j μ ρ => ∃ (pl : List (Nat × Nat)) (a2 : SV), (∀ z ∈ pl, isAt ps z.1 z.2 = true) ∧ pl.length = ((ps.take j).map List.length).sum ∧ μ = [] ∧ ρ = [.d (plainD c ps), .d (.list (pl.map plD)), a2, .un, .un, .un, .un]) S (ja_cons ((je_cb (ja_cons (prg rfl) ja_nil) (cd_len rfl)).eq (by rw [List.length_map])) ja_nil) (by omega) ⟨[], _, fun z hz => (by cases hz), rfl, rfl, rfl⟩ ?_ ?_)
  · rintro j hj μ' ρ' σ' H' ⟨pl, a2, hpl, hlen, rfl, rfl⟩ S
    have ej := get_of_lt ([] : Prg) hj
    generalize hp : ps.getD j [] = p at *
    have hp4 := hl4 p (List.mem_of_getElem? ej)
    have hs : ((ps.take (j + 1)).map List.length).sum = ((ps.take j).map List.length).sum + p.length := by rw [take_snoc ej, List.map_append, List.sum_append]; simp
    have hs2 : ((ps.take (j + 1)).map List.length).sum + ((ps.drop (j + 1)).map List.length).sum = (ps.map List.length).sum := by rw [← List.sum_append, ← List.map_append, List.take_append_drop]
    refine s_asg1 S ((je_op (je_var rfl) ((je_lcR (n := p.length) (fun _ => true) (fun i => plD (j, i)) (ja_cons ((je_cb (ja_cons (je_op (prg rfl) (je_var rfl) (rd_ix (n := j) rfl (map_at ej))) ja_nil) (cd_len rfl)).eq (by rw [List.length_map])) ja_nil) (by omega) (fun i hi => jt_yes) (fun i hi _ => je_tup (ja_cons (je_var rfl) (ja_cons (je_var rfl) ja_nil)))).eq (y := .list (((List.range p.length).map fun i => (j, i)).map plD)) (by rw [List.filter_eq_self.mpr (fun _ _ => rfl), List.map_map]; rfl)) (rd_cat ?_)).eq (y := .list ((pl ++ (List.range p.length).map fun i => (j, i)).map plD)) (by rw [List.map_append])) fun σ H S => ⟨_, _, ⟨_, _, fun z hz => ?_, ?_, rfl, rfl⟩, S⟩
    · rw [List.length_map, List.length_map, List.length_map, List.length_range]; omega
    · rcases List.mem_append.mp hz with y | y
      · exact hpl z y
      · obtain ⟨i, hi, rfl⟩ := List.mem_map.mp y
        unfold isAt
        rw [hp, decide_eq_true hj, decide_eq_true (List.mem_range.mp hi)]; rfl
    · rw [List.length_append, List.length_map, List.length_range, hlen, hs]
  rintro μ' ρ' σ H ⟨pl, a2, hpl, hlen, rfl, rfl⟩ S
  rw [List.take_length] at hlen
  have hpos : 0 < pl.length := by
    rw [hlen]
    cases ps with
    | nil => have := hl3.1; simp at this
    | cons p ps => have := hl4 p List.mem_cons_self; rw [List.map_cons, List.sum_cons]; omega
  refine s_seq (s_asg1 S (je_lst ja_nil) fun σ H S => ?_)
  refine s_seq (s_forS (fun j μ ρ => ∃ (fs : List Fct) (a4 : SV), (∀ f ∈ fs, okF ps f = true) ∧ j ≤ fs.length ∧ fs.length ≤ 20 * j ∧ μ = [] ∧ ρ = [.d (plainD c ps), .d (.list (pl.map plD)), a2, .d (poolD fs), a4, .un, .un]) S (je_var rfl) rfl (fun d _ => jg_name) ⟨[], _, fun z hz => (by cases hz), Nat.le_refl _, Nat.zero_le _, rfl, rfl⟩ ?_ ?_)
  · rintro j d hd v μ' ρ' σ' H' ⟨fs, a4, hfs, h1, h2, rfl, rfl⟩ S
    obtain ⟨⟨p, q⟩, hz, rfl⟩ := map_get hd
    have hj := (List.getElem?_eq_some_iff.mp hz).1
    have hat := hpl _ (List.mem_of_getElem? hz)
    dsimp only at hat
    have hat2 := hat
    unfold isAt at hat2
    simp only [Bool.and_eq_true, decide_eq_true_eq] at hat2
    have hq4 : q < 4 := by
      have := (hl4 _ (List.mem_of_getElem? (get_of_lt ([] : Prg) hat2.1))).2
      omega
    have cat2 : ∀ {μ : List MO} {ρ : List SV} {s : Str}, ρ[4]? = some (.d (plD (p, q))) → JE C μ ρ (tOp (rCatA K) (tTup (tCons (tC (.str s)) tNil)) (tVar 4)) (· = .tuple [.str s, .int (p : Int), .int (q : Int)]) := fun h => je_op (je_tup (ja_cons je_str ja_nil)) (je_var h) (rd_catT (ds := [_]) (es := [_, _]) (by show 1 + 2 ≤ 10000; decide))
    refine s_seq (s_asg1 S ((je_op (je_var rfl) (je_lst (ja_cons (cat2 rfl) (ja_cons (cat2 rfl) ja_nil))) (rd_cat ?_)).eq (y := poolD (fs ++ [.adds p q, .kept p q])) ?_) fun σ H S => ?_)
    · rw [List.length_map]; show fs.length + 2 ≤ 10000; omega
    · unfold poolD; rw [List.map_append]; rfl
    refine s_seq (s_asg1 S ((je_op (je_var rfl) ((je_lcR (n := q + 1) (fun _ => true) (fun i => tupF (.without p q i)) (ja_cons (je_op (je_op (je_var rfl) je_int (rd_ix (n := 1) rfl rfl)) je_int rd_add) ja_nil) (by omega) (fun i hi => jt_yes) (fun i hi _ => je_op (cat2 rfl) (je_tup (ja_cons (je_var rfl) ja_nil)) (rd_catT (by show 3 + 1 ≤ 10000; decide)))).eq (y := .list (((List.range (q + 1)).map fun i => Fct.without p q i).map tupF)) (by rw [List.filter_eq_self.mpr (fun _ _ => rfl), List.map_map]; rfl)) (rd_cat ?_)).eq (y := poolD ((fs ++ [.adds p q, .kept p q]) ++ (List.range (q + 1)).map fun i => Fct.without p q i)) ?_) fun σ H S => ?_)
    · rw [List.length_map, List.length_map, List.length_map, List.length_range, List.length_append]; show fs.length + 2 + (q + 1) ≤ 10000; omega
    · unfold poolD; rw [← List.map_append]
    have fl : (pl.filter (sameC (p, q))).length ≤ 7 := Nat.le_trans (List.length_filter_le _ _) (by omega)
    refine s_asg1 S ((je_op (je_var rfl) ((je_lcS (fun d => HT.lexLt [(p : Int), (q : Int)] (intsD d)) (fun d => .tuple ([.str "same", .int (p : Int), .int (q : Int)] ++ (sqD d).getD [])) (je_var rfl) rfl (by rw [List.length_map]; omega) (fun d hd => ?_) (fun d hd _ => ?_)).eq (y := .list (((pl.filter (sameC (p, q))).map fun y => Fct.same p q y.1 y.2).map tupF)) (by rw [outs_same (p, q)])) (rd_cat ?_)).eq (y := poolD (((fs ++ [.adds p q, .kept p q]) ++ (List.range (q + 1)).map fun i => Fct.without p q i) ++ (pl.filter (sameC (p, q))).map fun y => Fct.same p q y.1 y.2)) ?_) fun σ H S => ⟨_, _, ⟨_, _, fun f hf => ?_, ?_, ?_, rfl, rfl⟩, S⟩
    · obtain ⟨y, hy, rfl⟩ := List.mem_map.mp hd
      exact jt_test (je_op (je_var rfl) (je_var rfl) (rd_ltT (ns := [(p : Int), (q : Int)]) (ms := [(y.1 : Int), (y.2 : Int)])))
    · obtain ⟨y, hy, rfl⟩ := List.mem_map.mp hd
      exact je_op (cat2 rfl) (je_var rfl) (rd_catT (ds := [_, _, _]) (es := [_, _]) (by show 3 + 2 ≤ 10000; decide))
    · rw [List.length_map, List.length_map, List.length_map, List.length_append, List.length_append, List.length_map, List.length_range]; show fs.length + 2 + (q + 1) + _ ≤ 10000; omega
    · unfold poolD; rw [← List.map_append]
    · rcases List.mem_append.mp hf with hf | hf
      · rcases List.mem_append.mp hf with hf | hf
        · rcases List.mem_append.mp hf with hf | hf
          · exact hfs f hf
          · simp only [List.mem_cons, List.not_mem_nil, or_false] at hf
            rcases hf with e | e
            · rw [e]; exact hat
            · rw [e]; exact hat
        · obtain ⟨i, hi, rfl⟩ := List.mem_map.mp hf
          have hi := List.mem_range.mp hi
          simp only [okF, hat, Bool.true_and, decide_eq_true_eq]; omega
      · obtain ⟨y, hy, rfl⟩ := List.mem_map.mp hf
        obtain ⟨hy1, hy2⟩ := List.mem_filter.mp hy
        have hay := hpl y hy1
        unfold sameC at hy2
        dsimp only at hy2
        rw [lex_nat] at hy2
        simp only [okF, hat, hay, Bool.true_and]
        exact hy2
    · rw [List.length_append, List.length_append, List.length_append]; show j + 1 ≤ fs.length + 2 + _ + _; omega
    · rw [List.length_append, List.length_append, List.length_append, List.length_map, List.length_map, List.length_range]; show fs.length + 2 + (q + 1) + _ ≤ 20 * (j + 1); omega
  rintro μ' ρ' σ H ⟨fs, a4, hfs, h1, h2, rfl, rfl⟩ S
  rw [List.length_map] at h1 h2
  refine s_retP S (je_cb (ja_cons (je_var rfl) ja_nil) cd_sortedD) k ?_
  rintro _ ⟨gs, rfl, e, hg⟩
  exact ⟨gs, rfl, by omega, by omega, fun g hgs => hfs g (hg g hgs)⟩
end
end KG
namespace KG
open PySem PySem.Spec L2 PyProof.Rows
section
variable {X : Cx} {e : Expr} {es : List Expr} {ta : TA} {CG : Addr} {mc : Value} {p1 p2 pos : Pos}
/-- B.__init__(self, ..), B an own class under ValueError without an __init__ of its own -/
theorem pe_geinit {x : Str} {pl : Sem Bool} (hg : Gl X x) (hm : X.mg x = some (.ref CG)) (r : ClX.CRead X.K CG mc) (at_ : PySem.W.findCls X.K (.ref CG) mc "__init__" = some (.val (.builtin "ValueError.__init__"))) (hh : PySem.W.handedIn (.builtin "ValueError.__init__") = true) (ha : PA X (e :: es) ta)
    (hd : (x == ("__debug__" : Str)) = false := by decide +kernel)
    (hc : eval (.Call (.Attribute (.Name x p1) "__init__" p2) (e :: es) [] pos) X.env = (do
      let cv ← eval (.Name x p1) X.env
      standAt p2.atName
      let (g, front) ← holding [cv] (getMethod cv "__init__" pl)
      callWith pos g front (backTo pos (starEach (e :: es) X.env)) (backToKw pos (keywordEach [] X.env))) := by rfl)
    (hst : starEach (e :: es) X.env = (false, eval e X.env) :: starEach es X.env := by rfl)
    (hno : (backTo pos (starEach es X.env)).any (·.1) = false := by rfl) :
    PE X (.Call (.Attribute (.Name x p1) "__init__" p2) (e :: es) [] pos) (tVeI X.K ta) := by
  constructor
  intro pn s0 σ0 H0 Q0 I0 h0
  refine PySem.W.methodCall_KW (ld_glob I0 hg hm (PySem.W.method_cls I0.kIn r.ga (PySem.W.cls_value I0.kIn r.rd at_ hh ?_)) hd) hc
  show wpAny _ _ (callWith pos (.builtin "ValueError.__init__") [] (backTo pos (starEach (e :: es) X.env)) []) _ _ _
  refine PyProof.Rows.callWith_method1 (thn (ha.run pos pn _ σ0 H0 _ (I0.tok _) h0) fun us s1 ⟨vs, H1, I1, rel, a, C, ws, ev, small, T, ea, q⟩ => ?_) hst hno
  subst ev
  cases rel with
  | @cons _ u _ ur ra rt =>
    cases (show u = Value.ref a from ra)
    exact oinit_ok T I1 ea (by have := Paired.length rt; rw [sizeLine_eq]; omega) fun s2 I2 => ⟨.non, H1, I2, rfl, q⟩
end
/-- what the top has written of the errors: GuardError at CG, BadFact at CF, its __init__ at fI -/
structure ETxt (K : PySem.W.Frag) (mg : Str → Option Value) (CG CF fI : Addr) : Prop where
  g_GE : mg "GuardError" = some (.ref CG)
  g_BF : mg "BadFact" = some (.ref CF)
  rdG : ClX.CRead K CG (.type "type")
  inG : PySem.W.findCls K (.ref CG) (.type "type") "__init__" = some (.val (.builtin "ValueError.__init__"))
  oex : OexC K CF
  iC : PySem.W.findIn K (.ref CF) "__init__" = some (some (.ref fI))
  tI : PySem.W.typeIn K (.ref fI) = some (.type "function")
  noI : PySem.W.findIn K (.ref CF) "index" = some none
  te : PySem.W.exmOne K (.ref CF) (.ref CF) = some true
  kone : PySem.W.kitOne K (.ref CF) (.ref CG) = some true
  exc : ExcC K CF
  xf : XfC K CF
/-- BadFact.__init__ -/
def spBF (CF : Addr) : Sp := fun vs H Q _ => ∃ (a : Addr) (v : V), vs = [.ref a, v] ∧ H a = some (exo a CF none) ∧ ∀ d, H d = none → d ≠ a → Q .non (upd (upd H d (exd d [(("index" : Str), v)])) a (exo a CF (some d)))
def BfI (P : Program) (w : World) (K : PySem.W.Frag) (mg : Str → Option Value) (base : Heap) (CF fI : Addr) : Prop :=
  ∃ fd, FnOk P w K mg base CX0 1 fI fd (["self", "index"]) (spBF CF) ∧ Binds K fd (["self", "index"]) []
section
variable {P : Program} {w : World} {K : PySem.W.Frag} {mg : Str → Option Value} {base : Heap} {C CG CF fI : Addr}
abbrev sBfInit : Stmt := inClass (top 5) 0
theorem sc_BF : FnScope (["self", "index"]) (["self", "index"]) (defScope sBfInit) := ⟨rfl, rfl, rfl, by decide +kernel, rfl, by decide +kernel, by decide +kernel⟩
theorem ok_BF {fd : FuncData} (ET : ETxt K mg CG CF fI) (F : Fun K "__init__" "BadFact.__init__" sBfInit fI fd) (hb : Binds K fd (["self", "index"]) []) : BfI P w K mg base CF fI := by
  refine ⟨fd, ?_, hb⟩
  have nd := sc_BF.nd
  refine F.ok sc_BF (fun vs H Q E h => ?_) (fun cdv A outer s H vs Q E hr h => ⟨_, (pss_cons (ps_expr (pe_geinit (by rfl) ET.g_GE ET.rdG ET.inG (by decide +kernel) (pa_cons (pv 0) (pa_cons pe_str pa_nil))))
      (pss_one (ps_ost (pv 0) (pv 1)))), ?_⟩)
  · obtain ⟨a, v, rfl, _⟩ := h; rfl
  obtain ⟨a, v, rfl, ha, k⟩ := h
  refine ⟨_, rfl, a, CF, _, rfl, by show 1 ≤ 1000; decide, ET.oex, ha, ?_⟩
  exact ⟨_, rfl, _, rfl, a, CF, rfl, ET.oex, ET.noI, .inl ⟨ha, fun d hd hne => k d hd hne⟩⟩
theorem pmk_bf {X : Cx} {e : Expr} {ta : TA} {j : Nat} {p pos : Pos} (ET : ETxt X.K X.mg CG CF fI) (G : BfI X.prog X.w X.K X.mg X.base CF fI) (hr : Room j X.A) (ha : PA X [e] ta) (hk : 2 ≤ j := by decide) (hg : Gl X "BadFact" := by rfl)
    (he : starEach (e :: []) X.env = (false, eval e X.env) :: starEach [] X.env := by rfl) (hpl : (backTo pos (starEach [] X.env)).any (·.1) = false := by rfl) : PMk X (.Call (.Name "BadFact" p) [e] [] pos) (tMkO CF (spBF CF) [] ta) := by
  obtain ⟨fd, F, b⟩ := G
  exact pmk_oex ET.oex ET.iC ET.tI F (hr.mono hk) b .nil pass0 hg ET.g_BF ha (by decide +kernel) he hpl
end
section
variable {C CF : Addr} {μ : List MO} {ρ : List SV} {te : TE} {σ : L2.St} {H H' : Hp} {nx : L2.St → Hp → Prop} {rt : VK} {bk ct : L2.St → Hp → Prop} {E : XK}
/-- raise BadFact(e) -/
theorem s_raiseB {H0 : Hp} {B V' : List Addr} {G : List (V × PyData)} {i : Int} (S : Sat C ⟨H0, [], B, V', G⟩ μ ρ σ H) (h : JE C μ ρ te (· = .int i)) (k : ∀ d H', Ex H0 H' → H' d = some (.xd [(("index" : Str), .int i)]) → E (.ref CF) (some d) H') :
    tMkO CF (spBF CF) [] (tCons te tNil) σ H E := by
  refine ja_cons h ja_nil _ σ H S _ fun vs H1 ds pd s1 e1 d1 => ?_
  subst pd
  cases d1 with
  | cons dv dn =>
    cases dn
    cases dv.intE
    refine ⟨by show 1 ≤ 1000; decide, fun a ha => ⟨a, .int i, rfl, upd_same, fun d hd hne => ⟨rfl, d, _, upd_same, by rw [upd_ne hne, upd_same], by rw [upd_ne hne] at hd; exact hd, ?_⟩⟩⟩
    have hd1 : H1 d = none := by rw [upd_ne hne] at hd; exact hd
    refine k d _ (fun b o z => ?_) upd_same
    have z1 := s1.fr b o z (by simp)
    have hbd := ne_of_none z1 hd1
    have hba := ne_of_none z1 ha
    rw [upd_ne hbd, del_ne hba, upd_ne hba, upd_ne hbd, upd_ne hba]
    exact z1
end
/-! form -/
def formE (ps : List Prg) (x : PyData) : Option Int := match sqD x with
  | none => some (-1)
  | some es => if 40 < es.length then some (-1) else (formBad ps es 0).map Int.ofNat
theorem withRow_form (ps : List Prg) (x : PyData) : withRow ps x = match formE ps x with
  | some i => .error i
  | none => withF ps (((sqD x).getD []).map facD) := by
  unfold withRow formE
  cases sqD x with
  | none => rfl
  | some es =>
    dsimp only
    split
    · rfl
    · cases formBad ps es 0 <;> rfl
theorem formE_none {ps : List Prg} {x : PyData} (h : formE ps x = none) : ∃ es, sqD x = some es ∧ es.length ≤ 40 ∧ formBad ps es 0 = none := by
  unfold formE at h
  split at h
  · cases h
  · rename_i es e
    split at h
    · cases h
    · exact ⟨es, e, by omega, Option.map_eq_none_iff.mp h⟩
section
variable {X : Cx} {x : Str} {e : Expr} {es : List Expr} {t : TA} {p pos : Pos} {j k : Nat} {ps : List Str} {sp : Sp} {E : XK}
theorem xcallX (G : Cal X.prog X.w X.K X.mg X.base (L2.CX X.prog X.w) k x ps sp) (hr : Room j X.A) (hx : Passes (L2.CX X.prog X.w) X E) (ha : PA X (e :: es) t) (hk : k ≤ j := by decide) (hg : Gl X x := by rfl) (hd : (x == ("__debug__" : Str)) = false := by decide +kernel)
    (he : starEach (e :: es) X.env = (false, eval e X.env) :: starEach es X.env := by rfl) (hpl : (backTo pos (starEach es X.env)).any (·.1) = false := by rfl) : PE X (.Call (.Name x p) (e :: es) [] pos) (tCall sp [] E t) := by
  obtain ⟨f, fd, F, hm, kp, b⟩ := G
  exact pe_call F (hr.mono hk) hg hm kp b .nil hx ha hd he hpl
theorem xcallS {E : L2.St → XK} (G : Cal X.prog X.w X.K X.mg X.base (L2.CX X.prog X.w) k x ps sp) (hr : Room j X.A) (hx : ∀ σ, PassesAt (L2.CX X.prog X.w) X σ (E σ)) (ha : PA X (e :: es) t) (hk : k ≤ j := by decide) (hg : Gl X x := by rfl) (hd : (x == ("__debug__" : Str)) = false := by decide +kernel)
    (he : starEach (e :: es) X.env = (false, eval e X.env) :: starEach es X.env := by rfl) (hpl : (backTo pos (starEach es X.env)).any (·.1) = false := by rfl) : PE X (.Call (.Name x p) (e :: es) [] pos) (tCallS sp E t) := by
  obtain ⟨f, fd, F, hm, kp, b⟩ := G
  exact pe_callS F (hr.mono hk) hg hm kp b hx ha hd he hpl
end
theorem Df.calX {P : Program} {w : World} {K : PySem.W.Frag} {mg : Str → Option Value} {base : Heap} {k : Nat} {x : Str} {st : Stmt} {ps : List Str} {sp : Sp} (D : Df K mg x st ps) (h : ∀ f fd, Fun K x x st f fd → FnOk P w K mg base (L2.CX P w) k f fd ps sp) : Cal P w K mg base (L2.CX P w) k x ps sp := by
  obtain ⟨f, fd, F, hm, b⟩ := D
  exact ⟨f, fd, h f fd F, hm, F.kp, b⟩
section
variable {P : Program} {w : World} {K : PySem.W.Frag} {mg : Str → Option Value} {base : Heap} {C CG CF fI : Addr}
/-! check_form -/
def xdI (i : Int) : HO := .xd [(("index" : Str), .int i)]
def spCF (C CF : Addr) : Sp := fun vs H Q E => ∃ (B : List Addr) (c : Int) (ps : List Prg) (x : PyData), (∀ a ∈ B, H a ≠ none) ∧ DtA C (wo B H) vs [lotD c ps, x] ∧ LotOk c ps ∧ layRow x ∧
  (formE ps x = none → ∀ v H', Ex H H' → Q v H') ∧ ∀ i, formE ps x = some i → ∀ d H', Ex H H' → H' d = some (xdI i) → E (.ref CF) (some d) H'
theorem sc_check_form : FnScope (["lot", "facts", "index"]) (["lot", "facts"]) (defScope (top 23)) := ⟨rfl, rfl, rfl, by decide +kernel, rfl, by decide +kernel, by decide +kernel⟩
theorem ok_check_form (T : Txt K mg C) (ET : ETxt K mg CG CF fI) (G_BF : BfI P w K mg base CF fI) (F : Df K mg "check_form" (top 23) (["lot", "facts"])) (G_is_sequence : Cal P w K mg base CX0 1 "is_sequence" (["thing"]) (spP C R_is_sequence)) (G_is_fact : Cal P w K mg base CX0 3 "is_fact" (["lot", "fact"]) (spP C R_is_fact)) :
    Cal P w K mg base (L2.CX P w) 4 "check_form" (["lot", "facts"]) (spCF C CF) := by
  refine F.calX fun f fd F => ?_
  have nd := sc_check_form.nd
  refine F.okX sc_check_form (fun vs H Q E h => ?_) (fun cdv A outer s H vs Q E hr h => ⟨_, (pss_cons (ps_if (PW.pt (pw_or (pt_not (pt_val (xcall G_is_sequence hr (pa_cons (pv 1) pa_nil)))) (pw_or1 (pt_cmpR op_gt (pe_callB (xlen K) (by rfl) T.len_ (by decide +kernel) (pa_cons (pv 1) pa_nil)) pe_int (nomark _))))) (pss_one (ps_raise rfl (takes_of rfl rfl rfl rfl) (pmk_bf ET G_BF hr (pa_cons (pe_un un_neg pe_int) pa_nil)))) pss_nil)
      (pss_one (ps_for (passes_of rfl) rfl (pi_range1 (by rfl) T.range_ (pa_cons (pe_callB (xlen K) (by rfl) T.len_ (by decide +kernel) (pa_cons (pv 1) pa_nil)) pa_nil)) (pg_name (i := 2) nd rfl (by first | exact Or.inl rfl | exact Or.inr rfl)) (pss_one (ps_if (pt_not (pt_val (xcall G_is_fact hr (pa_cons (pv 0) (pa_cons (pe_ix (xix K) (pv 1) (pv 2) (fun _ _ => rfl)) pa_nil))))) (pss_one (ps_raise rfl (takes_of rfl rfl rfl rfl) (pmk_bf ET G_BF hr (pa_cons (pv 2) pa_nil)))) pss_nil))))), ?_⟩)
  · obtain ⟨B, c, ps, x, al, da, _⟩ := h
    exact da.length
  obtain ⟨B, c, ps, x, al, da, L, ⟨hn, hlay⟩, k1, k2⟩ := h
  have S : Sat C ⟨H, [], B, [], []⟩ [] [.d (lotD c ps), .d x, .un] (L2.start (["lot", "facts", "index"]) vs) H := satP (N := ["lot", "facts", "index"]) (ds := [lotD c ps, x]) al da
  have hseq : JT C [] [.d (lotD c ps), .d x, .un] (tNot (tB (tCall (spP C R_is_sequence) [] E0 (tCons (tVar 1) tNil)))) (· = !isSq x) := jt_not (jt_B (je_call (ja_cons (je_var rfl) ja_nil) ⟨x, rfl, hn, rfl⟩))
  cases hs : sqD x with
  | none =>
    have e : isSq x = false := by rw [sq_is, hs]; rfl
    rw [e] at hseq
    refine s_seq (s_ifn S (jn_or (R := fun _ => False) (S := (· = true)) hseq (fun z => by cases z) (fun z => by cases z) fun _ => rfl) (fun _ H S => ?_) (fun z => by cases z))
    exact s_raiseB S (je_un je_int ud_neg) fun d H' ex hx => k2 (-1) (by simp only [formE, hs]) d H' ex hx
  | some es =>
    have e : isSq x = true := by rw [sq_is, hs]; rfl
    have lay := hlay es hs
    rw [e] at hseq
    have lens : ∀ {μ : List MO} {ρ : List SV}, ρ[1]? = some (.d x) → JE C μ ρ (tCB (fun xs H Q => ∃ p ys, xs = [.ref p] ∧ (SqL K H p ys ∨ SqT K H p ys) ∧ Q (.int ys.length) H) (tCons (tVar 1) tNil)) (· = .int (es.length : Int)) := fun h1 => je_cb (ja_cons (je_var h1) ja_nil) (cd_len hs)
    refine s_seq (s_if S (jt_or hseq fun _ => jt_test (je_op (lens rfl) je_int rd_gt)) (fun z H S => ?_) fun z H S => s_nx ?_)
    · have z : (40 : Int) < es.length := by simpa using z
      exact s_raiseB S (je_un je_int ud_neg) fun d H' ex hx => k2 (-1) (by simp only [formE, hs, if_pos (show 40 < es.length by omega)]) d H' ex hx
    have z : ¬ (40 : Int) < es.length := by simpa using z
    have h40 : ¬ 40 < es.length := by omega
    clear z hseq
    refine s_forR (n := es.length) (fun j μ ρ => formBad ps es 0 = formBad ps (es.drop j) j ∧ μ = [] ∧ ∃ a2, ρ = [.d (lotD c ps), .d x, a2]) S (ja_cons (lens rfl) ja_nil) (by omega) ⟨rfl, rfl, _, rfl⟩ ?_ ?_
    · rintro j hj μ' ρ' σ' H' ⟨hfb, rfl, a2, rfl⟩ S
      obtain ⟨d, hd⟩ : ∃ d, es[j]? = some d := ⟨_, List.getElem?_eq_getElem hj⟩
      rw [drop_cons hd] at hfb
      refine s_if S (jt_not (jt_B (je_call (ja_cons (je_var rfl) (ja_cons (je_op (je_var rfl) (je_var rfl) (rd_ix (n := j) hs hd)) ja_nil)) ⟨c, ps, d, rfl, lay d (List.mem_of_getElem? hd), rfl⟩))) (fun z H S => ?_) fun z H S => s_nx ⟨_, _, ⟨?_, rfl, _, rfl⟩, S⟩
      · have z : isFact ps d = false := by simpa using z
        rw [formBad_at z] at hfb
        exact s_raiseB (i := (j : Int)) S (je_var rfl) fun d H' ex hx => k2 (j : Int) (by simp only [formE, hs, if_neg h40, hfb]; rfl) d H' ex hx
      · have z : isFact ps d = true := by simpa using z
        rw [formBad_cons z] at hfb
        exact hfb
    rintro μ' ρ' σ' H' ⟨hfb, rfl, a2, rfl⟩ S
    rw [List.drop_length] at hfb
    have hfb : formBad ps es 0 = none := hfb
    exact k1 (by simp only [formE, hs, if_neg h40, hfb]; rfl) _ H' fun b o z => S.fr b o z (by simp)
end
end KG
namespace KG
open PySem PySem.Spec L2
section
variable {P : Program} {w : World} {K : PySem.W.Frag} {mg : Str → Option Value} {base : Heap} {C CG CF fI : Addr}
theorem s_dropcall {sp : Sp} {E : XK} {ta : TA} {D : Ends} {σ : L2.St} {H : Hp} (h : ta σ H fun vs H1 => sp (vs ++ []) H1 (fun _ H2 => D.nx σ H2) E) : tDrop (tCall sp [] E ta) D σ H := h
/-! with_facts -/
def spWF (C CF : Addr) : Sp := fun vs H Q E => ∃ (B : List Addr) (c : Int) (ps : List Prg) (x : PyData), (∀ a ∈ B, H a ≠ none) ∧ DtA C (wo B H) vs [lotD c ps, x] ∧ LotOk c ps ∧ layRow x ∧
  (∀ ps', withRow ps x = .ok ps' → ∀ v H', Ex H H' → Dt C (wo B H') v (lotD c ps') → Q v H') ∧ ∀ i, withRow ps x = .error i → ∀ d H', Ex H H' → H' d = some (xdI i) → E (.ref CF) (some d) H'
theorem sc_with_facts : FnScope (["lot", "facts", "programs", "index"]) (["lot", "facts"]) (defScope (top 30)) := ⟨rfl, rfl, rfl, by decide +kernel, rfl, by decide +kernel, by decide +kernel⟩
theorem ok_with_facts (T : Txt K mg C) (ET : ETxt K mg CG CF fI) (G_BF : BfI P w K mg base CF fI) (F : Df K mg "with_facts" (top 30) (["lot", "facts"])) (G_check_form : Cal P w K mg base (L2.CX P w) 4 "check_form" (["lot", "facts"]) (spCF C CF)) (G_Lot : LotI P w K mg base C 5)
    (G_with_plain_fact : Cal P w K mg base CX0 2 "with_plain_fact" (["programs", "fact"]) (spP C R_with_plain_fact)) (G_with_same : Cal P w K mg base CX0 2 "with_same" (["programs", "fact"]) (spP C R_with_same)) :
    Cal P w K mg base (L2.CX P w) 7 "with_facts" (["lot", "facts"]) (spWF C CF) := by
  refine F.calX fun f fd F => ?_
  have nd := sc_with_facts.nd
  refine F.okX sc_with_facts (fun vs H Q E h => ?_) (fun cdv A outer s H vs Q E hr h => ⟨_, (pss_cons (ps_expr (xcallX G_check_form hr (passes_call (takes_of rfl rfl rfl rfl) (fun _ _ _ _ h => h)) (pa_cons (pv 0) (pa_cons (pv 1) pa_nil))))
      (pss_cons (xset 2 nd (xfld K (he := (pv 0)) (hb := rfl)))
      (pss_cons (ps_for (passes_of rfl) rfl (pi_range1 (by rfl) T.range_ (pa_cons (pe_callB (xlen K) (by rfl) T.len_ (by decide +kernel) (pa_cons (pv 1) pa_nil)) pa_nil)) (pg_name (i := 3) nd rfl (by first | exact Or.inl rfl | exact Or.inr rfl)) (pss_one (ps_if (pt_cmpR op_ne (pe_ix (xix K) (pe_ix (xix K) (pv 1) (pv 3) (fun _ _ => rfl)) pe_int (fun _ _ => rfl)) pe_str (nomark _)) (pss_cons (xset 2 nd (xcall G_with_plain_fact hr (pa_cons (pv 2) (pa_cons (pe_ix (xix K) (pv 1) (pv 3) (fun _ _ => rfl)) pa_nil))))
      (pss_one (ps_if (pt_cmpR op_isN (pv 2) pe_non (nomark _)) (pss_one (ps_raise rfl (takes_of rfl rfl rfl rfl) (pmk_bf ET G_BF hr (pa_cons (pv 3) pa_nil)))) pss_nil))) pss_nil)))
      (pss_cons (ps_for (passes_of rfl) rfl (pi_range1 (by rfl) T.range_ (pa_cons (pe_callB (xlen K) (by rfl) T.len_ (by decide +kernel) (pa_cons (pv 1) pa_nil)) pa_nil)) (pg_name (i := 3) nd rfl (by first | exact Or.inl rfl | exact Or.inr rfl)) (pss_one (ps_if (pt_cmpR op_eq (pe_ix (xix K) (pe_ix (xix K) (pv 1) (pv 3) (fun _ _ => rfl)) pe_int (fun _ _ => rfl)) pe_str (nomark _)) (pss_cons (xset 2 nd (xcall G_with_same hr (pa_cons (pv 2) (pa_cons (pe_ix (xix K) (pv 1) (pv 3) (fun _ _ => rfl)) pa_nil))))
      (pss_one (ps_if (pt_cmpR op_isN (pv 2) pe_non (nomark _)) (pss_one (ps_raise rfl (takes_of rfl rfl rfl rfl) (pmk_bf ET G_BF hr (pa_cons (pv 3) pa_nil)))) pss_nil))) pss_nil)))
      (pss_one (ps_ret (xlot G_Lot hr T (pa_cons (xfld K (he := (pv 0)) (hb := rfl)) (pa_cons (pv 2) pa_nil))))))))), ?_⟩)
  · obtain ⟨B, c, ps, x, al, da, _⟩ := h
    exact da.length
  obtain ⟨B, c, ps, x, al, da, L, hlr, k1, k2⟩ := h
  have S : Sat C ⟨H, [], B, [], []⟩ [] [.d (lotD c ps), .d x, .un, .un] (L2.start (["lot", "facts", "programs", "index"]) vs) H := satP (N := ["lot", "facts", "programs", "index"]) (ds := [lotD c ps, x]) al da
  have J : JA C [] [.d (lotD c ps), .d x, .un, .un] (tCons (tVar 0) (tCons (tVar 1) tNil)) (· = [lotD c ps, x]) := ja_cons (je_var rfl) (ja_cons (je_var rfl) ja_nil)
  refine s_seq (s_dropcall (J _ _ H S _ fun vs1 H1 ds pd s1 e1 d1 => ?_))
  subst pd
  have wf := withRow_form ps x
  refine ⟨[] ++ B, c, ps, x, s1.al, by rw [List.append_nil]; exact d1, L, hlr, fun hf v H2 ex => ?_, fun i hf d H2 ex hx => ?_⟩
  · skip
    have S := s1.ext ex
    obtain ⟨es, hs, h40, hfb⟩ := formE_none hf
    rw [hf, hs] at wf
    have hw : withRow ps x = withF ps (es.map facD) := wf
    have lens : ∀ {μ : List MO} {ρ : List SV}, ρ[1]? = some (.d x) → JE C μ ρ (tCB (fun xs H Q => ∃ p ys, xs = [.ref p] ∧ (SqL K H p ys ∨ SqT K H p ys) ∧ Q (.int ys.length) H) (tCons (tVar 1) tNil)) (· = .int (es.length : Int)) := fun h1 => je_cb (ja_cons (je_var h1) ja_nil) (cd_len hs)
    have facts : ∀ {j : Nat} {d : PyData}, es[j]? = some d → okF ps (facD d) = true ∧ sqD d = some (encF (facD d)) := fun h => isFact_ok (formBad_none hfb _ (List.mem_of_getElem? h))
    have fdrop : ∀ {j : Nat} {d : PyData}, es[j]? = some d → (es.map facD).drop j = facD d :: (es.map facD).drop (j + 1) := fun h => drop_cons (map_at h)
    refine s_seq (s_asg1 S (je_programs T.cl T.nP (je_var rfl)) fun σ H3 S => ?_)
    refine s_seq (s_forR (n := es.length) (fun j μ ρ => μ = [] ∧ ∃ cur a3, pass1 (es.map facD) 0 ps = pass1 ((es.map facD).drop j) j cur ∧ LotOk c cur ∧ sizes cur = sizes ps ∧ ρ = [.d (lotD c ps), .d x, .d (encPs cur), a3]) S (ja_cons (lens rfl) ja_nil) (by omega) ⟨rfl, ps, _, rfl, L, rfl, rfl⟩ ?_ ?_)
    · rintro j hj μ' ρ' σ' H' ⟨rfl, cur, a3, hp1, L1, hz, rfl⟩ S
      obtain ⟨d, hd⟩ : ∃ d, es[j]? = some d := ⟨_, List.getElem?_eq_getElem hj⟩
      obtain ⟨hok, hx⟩ := facts hd
      rw [fdrop hd] at hp1
      generalize facD d = f at *
      have hok1 : okF cur f = true := by rw [okF_sizes hz]; exact hok
      have fx : ∀ {μ : List MO} {ρ : List SV}, ρ[1]? = some (.d x) → ρ[3]? = some (.d (.int (j : Int))) → JE C μ ρ (tOp (rIx K) (tVar 1) (tVar 3)) (· = d) := fun h1 h2 => je_op (je_var h1) (je_var h2) (rd_ix hs hd)
      refine s_if (b := !f.isSame) S ((jt_test (je_op (je_op (fx rfl rfl) je_int (rd_ix (n := 0) hx (encF_0 f))) je_str rd_neS)).eq (by rw [nameF_same])) (fun z H S => ?_) fun z H S => s_nx ?_
      · have hsm : f.isSame = false := by simpa using z
        refine s_seq (s_asg1 S (je_call (ja_cons (je_var rfl) (ja_cons (fx rfl rfl) ja_nil)) ⟨c, cur, d, f, rfl, L1, hx, hok1, hsm, rfl⟩) fun σ H S => ?_)
        cases e1 : wpf cur f with
        | none =>
          rw [e1] at S
          refine s_if (b := true) S (jt_test (je_op (je_var (x := .none) rfl) je_non rd_isN)) (fun _ H S => ?_) (fun z => by cases z)
          exact s_raiseB (i := (j : Int)) S (je_var rfl) fun d H' ex hx => k2 (j : Int) (hw.trans (withF_err (hp1.trans (pass1_none hsm e1)))) d H' ex hx
        | some ps' =>
          rw [e1] at S
          refine s_if (b := false) S (jt_test (je_op (je_var (x := encPs ps') rfl) je_non rd_isN)) (fun z => by cases z) fun _ H S => s_nx ⟨_, _, ⟨rfl, ps', _, hp1.trans (pass1_some hsm e1), wpf_ok L1 (okF_lt hok1) e1, (wpf_sizes e1).trans hz, rfl⟩, S⟩
      · have hsm : f.isSame = true := by simpa using z
        exact ⟨_, _, ⟨rfl, _, _, hp1.trans (pass1_same hsm), L1, hz, rfl⟩, S⟩
    rintro μ' ρ' σ' H' ⟨rfl, cur0, a3, hp1, L0, hz0, rfl⟩ S
    have hp1 : pass1 (es.map facD) 0 ps = .ok cur0 := by rw [List.drop_of_length_le (by rw [List.length_map]; exact Nat.le_refl _)] at hp1; exact hp1
    have hw := hw.trans (withF_ok1 hp1)
    refine s_seq (s_forR (n := es.length) (fun j μ ρ => μ = [] ∧ ∃ cur a3, pass2 (es.map facD) 0 cur0 = pass2 ((es.map facD).drop j) j cur ∧ LotOk c cur ∧ sizes cur = sizes ps ∧ ρ = [.d (lotD c ps), .d x, .d (encPs cur), a3]) S (ja_cons (lens rfl) ja_nil) (by omega) ⟨rfl, cur0, _, rfl, L0, hz0, rfl⟩ ?_ ?_)
    · rintro j hj μ' ρ' σ' H' ⟨rfl, cur, a3, hp2, L1, hz, rfl⟩ S
      obtain ⟨d, hd⟩ : ∃ d, es[j]? = some d := ⟨_, List.getElem?_eq_getElem hj⟩
      obtain ⟨hok, hx⟩ := facts hd
      rw [fdrop hd] at hp2
      generalize facD d = f at *
      have hok1 : okF cur f = true := by rw [okF_sizes hz]; exact hok
      have fx : ∀ {μ : List MO} {ρ : List SV}, ρ[1]? = some (.d x) → ρ[3]? = some (.d (.int (j : Int))) → JE C μ ρ (tOp (rIx K) (tVar 1) (tVar 3)) (· = d) := fun h1 h2 => je_op (je_var h1) (je_var h2) (rd_ix hs hd)
      refine s_if (b := f.isSame) S ((jt_test (je_op (je_op (fx rfl rfl) je_int (rd_ix (n := 0) hx (encF_0 f))) je_str rd_eqS)).eq (by rw [nameF_same])) (fun hsm H S => ?_) fun hsm H S => s_nx ?_
      · refine s_seq (s_asg1 S (je_call (ja_cons (je_var rfl) (ja_cons (fx rfl rfl) ja_nil)) ⟨c, cur, d, f, rfl, L1, hx, hok1, hsm, rfl⟩) fun σ H S => ?_)
        cases e1 : wsf cur f with
        | none =>
          rw [e1] at S
          refine s_if (b := true) S (jt_test (je_op (je_var (x := .none) rfl) je_non rd_isN)) (fun _ H S => ?_) (fun z => by cases z)
          exact s_raiseB (i := (j : Int)) S (je_var rfl) fun d H' ex hx => k2 (j : Int) (hw.trans (hp2.trans (pass2_none hsm e1))) d H' ex hx
        | some ps' =>
          rw [e1] at S
          refine s_if (b := false) S (jt_test (je_op (je_var (x := encPs ps') rfl) je_non rd_isN)) (fun z => by cases z) fun _ H S => s_nx ⟨_, _, ⟨rfl, ps', _, hp2.trans (pass2_some hsm e1), wsf_ok L1 hok1 e1, (wsf_sizes e1).trans hz, rfl⟩, S⟩
      · exact ⟨_, _, ⟨rfl, _, _, hp2.trans (pass2_not hsm), L1, hz, rfl⟩, S⟩
    rintro μ' ρ' σ' H' ⟨rfl, cur, a3, hp2, L1, hz, rfl⟩ S
    have hp2 : pass2 (es.map facD) 0 cur0 = .ok cur := by rw [List.drop_of_length_le (by rw [List.length_map]; exact Nat.le_refl _)] at hp2; exact hp2
    exact s_retP (P' := (· = lotD c cur)) S (je_lot (ja_cons (je_cells T.cl T.nC (je_var rfl)) (ja_cons (je_var rfl) ja_nil)) rfl L1) (fun v H' d pd ex dv => by subst pd; exact k1 cur (hw.trans hp2) v H' ex dv) fun _ h => h
  · rw [hf] at wf
    exact k2 i wf d H2 (fun b o z => ex b o (s1.fr b o z (by simp))) hx
end
end KG
namespace KG
open PySem PySem.Spec L2
/-- isinstance(e, c), e the exception with a dict that the suite holds -/
def rIsEd (K : PySem.W.Frag) (cls : Value) (d : Option Addr) (a : Addr) : List V → Hp → VK → Prop := fun xs H Q => ∃ (c : V) (cv : Value) (b : Bool) (D dd : Addr) (fs : List (Str × V)), xs = [.ref a, c] ∧ (∀ u, RelV c u → u = cv) ∧ cls = .ref D ∧ d = some dd ∧ H dd = some (.xd fs) ∧ ExcC K D ∧ PySem.W.kitOne K (.ref D) cv = some b ∧ Q (.bl b) H
theorem call_isEd {X : Cx} {a : Addr} {oe : Obj} {cls : Value} {d : Option Addr} {pn : List (Addr × Obj)} (hz : Zc cls d oe) (hf : ∃ vs, oe.data = .fields vs) : CallR (X.suite a ((a, oe) :: pn)) (.builtin "isinstance") (rIsEd X.K cls d a) := by
  intro pins s σ H xs us Q I r h
  obtain ⟨c, cv, b, D, dd, fs, rfl, hcv, rfl, rfl, hdd, C, e, q⟩ := h
  cases r with
  | cons rx rr =>
    cases rr with
    | cons rt rr =>
      cases rr
      cases rx
      have ec := hcv _ rt
      subst ec
      have atA := (I.pin (a, oe) (List.mem_append_left _ List.mem_cons_self)).1
      obtain ⟨vs, hv⟩ := hf
      have hx : ObjOk X.prog X.w H s.heap dd (.xd fs) := I.hok dd _ hdd
      obtain ⟨mA, hns, _⟩ := hx
      obtain ⟨od, ho, hl⟩ := lookIn_ns hns
      have J : PySem.W.InstAt s.heap a oe D (some od) := ⟨atA, hz.1, by unfold PySem.W.notCls; rw [hv] <;> rfl, by rw [hz.2]; exact ho⟩
      have hcl : (PySem.W.clsIn X.K D).isSome = true := by
        obtain ⟨cd, hc, _⟩ := PySem.W.any_some C.hd
        rw [hc]; rfl
      exact PySem.W.kia_one (PySem.W.kitx_exc hcl C.hg C.hk C.hs C.ha C.hn C.ht C.hm) I.kIn J e (fun z => nomatch z) fun tk => ⟨.bl b, H, I.kept (t' := tk) fun _ _ z => z, rfl, q⟩
section
variable {P : Program} {w : World} {K : PySem.W.Frag} {mg : Str → Option Value} {base : Heap} {C CG CF fI : Addr}
theorem s_asgcall {sp : Sp} {E : L2.St → XK} {ta : TA} {i : Nat} {D : Ends} {σ : L2.St} {H : Hp} (h : ta σ H fun vs H1 => sp vs H1 (fun v H2 => D.nx (σ.set i (some v)) H2) (E σ)) : tAsg (tCallS sp E ta) (gName i) D σ H := h
/-! _law_with_told -/
def R__law_with_told : Rel := fun ds P => ∃ (c : Int) (ps : List Prg) (x : PyData), ds = [lotD c ps, x] ∧ LotOk c ps ∧ layRow x ∧ P = (· = resD (withRow ps x))
theorem sc__law_with_told : FnScope (["_law_lot_here", "_law_facts_here", "_law_told", "e"]) (["_law_lot_here", "_law_facts_here"]) (defScope (top 50)) := ⟨rfl, rfl, rfl, by decide +kernel, rfl, by decide +kernel, by decide +kernel⟩
theorem ok__law_with_told (T : Txt K mg C) (ET : ETxt K mg CG CF fI) (F : Df K mg "_law_with_told" (top 50) (["_law_lot_here", "_law_facts_here"])) (G_with_facts : Cal P w K mg base (L2.CX P w) 7 "with_facts" (["lot", "facts"]) (spWF C CF)) :
    Cal P w K mg base CX0 8 "_law_with_told" (["_law_lot_here", "_law_facts_here"]) (spP C R__law_with_told) := by
  refine F.cal fun f fd F => ?_
  have nd := sc__law_with_told.nd
  refine okP F sc__law_with_told (fun ds P h => by obtain ⟨c, ps, x, rfl, _⟩ := h; rfl) fun cdv A outer s H E hr => ⟨_, (pss_cons (xset 2 nd pe_non)
      (pss_cons (ps_try_as (i := 3) (tb := fun W => tAsg (tCallS (spWF C CF) (WE W) (tCons (tVar 0) (tCons (tVar 1) tNil))) (gName 2)) (ts := fun a cls d => tRet (tIf (tB (tCB (rIsEd K cls d a) (tCons (tVar 3) (tCons (tC (.ref CG)) tNil)))) (tTup (tCons (tC (.str "index")) (tCons (tXf a cls d CF "index" (tVar 3)) tNil))) (tTup (tCons (tC (.str "class")) (tCons (tC (.int 0)) tNil))))) (Wout := fun _ _ _ _ => False) rfl rfl nd rfl rfl ⟨by rfl, by decide +kernel, Or.inl ET.g_BF⟩ takes0 (fun W pn xe tk _ => pss_one (xset 2 nd (xcallS G_with_facts hr (fun σ => passAt tk σ) (pa_cons (pv 0) (pa_cons (pv 1) pa_nil))))) (fun a oe cls d pn hz hf => pss_one (ps_ret (pe_ifExp (pt_val (pe_callB (call_isEd hz hf) (by rfl) T.isinstance_ (by decide +kernel) (pa_cons (pv 3) (pa_cons (pe_glob (v := .ref CG) (by rfl) ET.g_GE rfl) pa_nil)))) (pe_tup (pa_cons pe_str (pa_cons (pe_xf ET.xf ET.noI hz hf (pv 3)) pa_nil))) (pe_tup (pa_cons pe_str (pa_cons pe_int pa_nil)))))))
      (pss_one (ps_ret (pe_ifExp (PW.pt (pw_and (pt_val (pe_callB (xisi K) (by rfl) T.isinstance_ (by decide +kernel) (pa_cons (pv 2) (pa_cons (pe_glob (by rfl) T.g_Lot T.r_Lot) pa_nil)))) (pw_and1 (pt_cmpR op_eq (xfld K (he := (pv 2)) (hb := rfl)) (xfld K (he := (pv 0)) (hb := rfl)) (nomark _))))) (xfld K (he := (pv 2)) (hb := rfl)) (pe_tup (pa_cons pe_str (pa_cons pe_int pa_nil)))))))), fun B σ ds P' Q r S k => ?_⟩
  obtain ⟨c, ps, x, rfl, L, hlr, rfl⟩ := r
  refine s_seq (s_asg1 S je_non fun σ H1 S => ?_)
  have J : JA C [] [.d (lotD c ps), .d x, .d .none, .un] (tCons (tVar 0) (tCons (tVar 1) tNil)) (· = [lotD c ps, x]) := ja_cons (je_var rfl) (ja_cons (je_var rfl) ja_nil)
  refine s_seq (s_asgcall (J _ _ H1 S _ fun vs1 H2 ds pd s1 e1 d1 => ?_))
  subst pd
  have hlen : σ.length = 4 := Paired.length s1.sl
  refine ⟨[] ++ B, c, ps, x, s1.al, d1, L, hlr, fun ps' hw v H3 ex dv => ?_, fun i hw d H3 ex hx => ?_⟩
  · have S := (s1.ext ex).setd (i := 2) dv
    refine s_retP S ((je_if (b := true) (y := .none) (jt_and (a := true) (b := true) (jt_B (je_isLot T (je_var rfl))) fun _ => (jt_test (je_op (je_cells T.cl T.nC (je_var rfl)) (je_cells T.cl T.nC (je_var rfl)) rd_eqI)).eq (decide_eq_true rfl)) (fun _ => je_programs T.cl T.nP (je_var rfl)) (fun z => by cases z)).eq (y := encPs ps') rfl) k ?_
    rintro _ rfl
    rw [hw]; rfl
  · refine ⟨true, ET.te, fun _ a ha => ?_, fun z => by cases z⟩
    have g3 : (σ.set 3 (some (V.ref a)))[3]? = some (some (V.ref a)) := List.getElem?_set_self (by rw [hlen]; decide)
    refine ⟨_, g3, _, _, true, CF, d, _, rfl, fun u z => z, rfl, rfl, hx, ET.exc, ET.kone, true, rfl, ?_⟩
    refine ⟨_, g3, rfl, rfl, d, _, .int i, rfl, hx, by simp [List.lookup], by show 2 ≤ sizeLine; decide, fun p hp => ?_⟩
    refine k _ _ _ rfl (fun b o z => Ex.new hp b o (ex b o (s1.fr b o z (by simp)))) ?_
    rw [hw]
    have al3 : ∀ b ∈ B, H3 b ≠ none := fun b hb => al_ex s1.al ex b hb
    exact dt_newT al3 hp (.cons (.str _) (.cons (.int i) .nil))
end
end KG
namespace KG
open PySem PySem.Spec L2
section
variable {C : Addr} {μ : List MO} {ρ : List SV} {te : TE} {K : PySem.W.Frag}
theorem je_dnew : JE C μ ρ tDNewK (· = .dict []) := fun F σ H s Q q p hp => q _ _ _ rfl (s.ext (.new hp)) (Ex.new hp).b (.emp (wo_mk (s.fresh hp) upd_same))
theorem je_rev {ds : List PyData} (h : JE C μ ρ te (· = .list ds)) : JE C μ ρ (tRevL K te) (· = .list ds.reverse) := fun F σ H s Q q =>
  h F σ H s _ fun v H1 d pd s1 e1 d1 => by
    subst pd
    obtain ⟨a, xs, rfl, hx, da⟩ := d1.lstE
    exact ⟨a, xs, rfl, SqL.of (wo_some hx).2, fun p hp => q _ _ _ rfl (s1.ext (.new hp)) (e1.trans (Ex.new hp).b) (dt_newL s1.al hp da.rev)⟩
theorem flat_rep {α : Type} (x : α) : ∀ n : Nat, (List.replicate n [x]).flatten = List.replicate n x
  | 0 => rfl
  | n + 1 => by rw [List.replicate_succ, List.flatten_cons, flat_rep x n]; rfl
theorem rd_rep {x : PyData} {n : Nat} (hn : n ≤ 1000) : RD C rRep (.list [x]) (.int (n : Int)) (· = .list (List.replicate n x)) := fun M H v u al h1 h2 Q q => by
  obtain ⟨a, xs, rfl, hx, da⟩ := h1.lstE
  cases da with
  | cons hv dn =>
    cases dn
    refine ⟨a, (n : Int), _, rfl, h2.intE, (wo_some hx).2, by omega, by omega, ?_, fun p hp => ?_⟩
    · rw [Int.toNat_natCast]
      exact Nat.le_trans (show 1 * n ≤ 10000 by omega) (by decide)
    · rw [Int.toNat_natCast, flat_rep]
      exact q _ _ _ rfl (.new hp) (dt_newL al hp (DtA.rep hv n))
theorem rd_ixLast {ds : List PyData} {d : PyData} (h : ds[ds.length - 1]? = some d) : RD C (rIx K) (.list ds) (.int (-1)) (· = d) := fun M H v u al h1 h2 Q q => by
  obtain ⟨a, xs, rfl, hx, da⟩ := h1.lstE
  obtain ⟨w, hw, dw⟩ := da.get h
  have hl : ds.length - 1 < ds.length := (List.getElem?_eq_some_iff.mp h).1
  have hat : atI xs (-1) = some w := by
    unfold atI ixN
    rw [if_neg (by omega), if_pos (by rw [da.length]; omega)]
    rw [← da.length] at hw
    show xs[_]? = some w
    rw [← hw]
    congr 1
    omega
  exact .inl ⟨a, xs, _, w, rfl, h2.intE, SqL.of (wo_some hx).2, hat, q w H d rfl (Ex.refl H) dw⟩
end
theorem eqv_same {d : PyData} (h : SeqAt.shaped d = true) : PyData.eqv d d = true := PySem.SeqAt.eqv_refl d (SeqAt.canLay_of_shaped h)
def RowOk (d : PyData) : Prop := noLot d = true ∧ ∀ es, sqD d = some es → ∀ e ∈ es, e.canLay0 = true ∧ e.depth ≤ 2
theorem RowOk.lay {d : PyData} (h : RowOk d) : layRow d := ⟨h.1, fun es hs e he => (h.2 es hs e he).1⟩
theorem RowOk.lst {es : List PyData} (h : ∀ e ∈ es, e.canLay0 = true ∧ e.depth ≤ 2) : RowOk (.list es) := ⟨rfl, fun es' hs => by cases hs; exact h⟩
theorem RowOk.tup {es : List PyData} (h : ∀ e ∈ es, e.canLay0 = true ∧ e.depth ≤ 2) : RowOk (.tuple es) := ⟨rfl, fun es' hs => by cases hs; exact h⟩
theorem LayL.two {es : List PyData} (h : LayL es) : ∀ e ∈ es, e.canLay0 = true ∧ e.depth ≤ 2 := fun e he => ⟨(h e he).1, Nat.le_succ_of_le (h e he).2⟩
theorem lst_shaped {es : List PyData} (h : ∀ e ∈ es, e.canLay0 = true ∧ e.depth ≤ 2) : SeqAt.shaped (.list es) = true := by
  have h1 : PyData.canLay0 (.list es) = true := by rw [PyData.canLay0]; exact layAll_of fun e he => (h e he).1
  have h2 := depAll_of (ds := es) (n := 2) fun e he => (h e he).2
  unfold SeqAt.shaped
  rw [h1, decide_eq_true (by rw [PyData.depth]; omega)]; rfl
section
variable {P : Program} {w : World} {K : PySem.W.Frag} {mg : Str → Option Value} {base : Heap} {C CG CF fI : Addr}
/-! _law_one_lot -/
def R__law_one_lot : Rel := fun ds P => ∃ (c : Int) (ps : List Prg), ds = [plainD c ps] ∧ LotOk c ps ∧ P = (· = .bool true)
theorem sc__law_one_lot : FnScope (["_law_hand_here", "_law_plain", "_law_lot_here", "_law_pool", "_law_fact", "_law_good", "_law_facts_here", "_law_at", "_law_thing", "_law_spoiled", "_law_due", "_law_told", "_law_odd", "_law_row", "_law_kept"]) (["_law_hand_here", "_law_plain"]) (defScope (top 53)) := ⟨rfl, rfl, rfl, by decide +kernel, rfl, by decide +kernel, by decide +kernel⟩
theorem ok__law_one_lot (T : Txt K mg C) (F : Df K mg "_law_one_lot" (top 53) (["_law_hand_here", "_law_plain"])) (G_Lot : LotI P w K mg base C 5) (G__law_all_facts : Cal P w K mg base CX0 1 "_law_all_facts" (["_law_lot_here"]) (spP C R__law_all_facts))
    (G_is_fact : Cal P w K mg base CX0 3 "is_fact" (["lot", "fact"]) (spP C R_is_fact)) (G__law_good_row : Cal P w K mg base CX0 5 "_law_good_row" (["_law_hand_here", "_law_plain", "_law_pool"]) (spH C R__law_good_row)) (G__law_facts : Cal P w K mg base CX0 3 "_law_facts" (["_law_hand_here", "_law_pool"]) (spH C R__law_facts))
    (G__law_take : Cal P w K mg base CX0 2 "_law_take" (["_law_hand_here", "_law_many"]) (spH C R__law_take)) (G__law_spoiled_fact : Cal P w K mg base CX0 3 "_law_spoiled_fact" (["_law_hand_here", "_law_lot_here", "_law_fact"]) (spH C R__law_spoiled_fact)) (G__law_is_fact : Cal P w K mg base CX0 3 "_law_is_fact" (["_law_lot_here", "_law_fact"]) (spP C R__law_is_fact))
    (G__law_with_told : Cal P w K mg base CX0 8 "_law_with_told" (["_law_lot_here", "_law_facts_here"]) (spP C R__law_with_told)) (G__law_with : Cal P w K mg base CX0 4 "_law_with" (["_law_lot_here", "_law_facts_here"]) (spP C R__law_with)) : Cal P w K mg base CX0 9 "_law_one_lot" (["_law_hand_here", "_law_plain"]) (spH C R__law_one_lot) := by
  refine F.cal fun f fd F => ?_
  have nd := sc__law_one_lot.nd
  refine okH F sc__law_one_lot (fun ds P h => by obtain ⟨c, ps, rfl, _⟩ := h; rfl) fun cdv A outer s H E hr => ⟨_, (pss_cons (xset 2 nd (xlot G_Lot hr T (pa_cons (pe_ix (xix K) (pv 1) pe_int (fun _ _ => rfl)) (pa_cons (pe_ix (xix K) (pv 1) pe_int (fun _ _ => rfl)) pa_nil))))
      (pss_cons (xset 3 nd (xcall G__law_all_facts hr (pa_cons (pv 1) pa_nil)))
      (pss_cons (ps_for PassesOwn.never rfl (xseq K (h := (pv 3))) (pg_name (i := 4) nd rfl (by first | exact Or.inl rfl | exact Or.inr rfl)) (pss_one (ps_if (PW.pt (pw_or (pt_cmpR op_isnot_bl (xcall G_is_fact hr (pa_cons (pv 2) (pa_cons (pv 4) pa_nil))) pe_bl (nomark _)) (pw_or1 (pt_cmpR op_isnot_bl (xcall G_is_fact hr (pa_cons (pv 2) (pa_cons (pe_callTy (xlist K) (by rfl) T.list_ (by decide +kernel) (pa_cons (pv 4) pa_nil)) pa_nil))) pe_bl (nomark _))))) (pss_one (ps_ret pe_bl)) pss_nil)))
      (pss_cons (xset 5 nd (xcall G__law_good_row hr (pa_cons (pv 0) (pa_cons (pv 1) (pa_cons (pv 3) pa_nil)))))
      (pss_cons (xset 6 nd (xcall G__law_facts hr (pa_cons (pv 0) (pa_cons (pv 3) pa_nil))))
      (pss_cons (xset 7 nd (xcall G__law_take hr (pa_cons (pv 0) (pa_cons (pe_op op_add (pe_callB (xlen K) (by rfl) T.len_ (by decide +kernel) (pa_cons (pv 6) pa_nil)) pe_int) pa_nil))))
      (pss_cons (xset 8 nd (xcall G__law_spoiled_fact hr (pa_cons (pv 0) (pa_cons (pv 1) (pa_cons (pe_ix (xix K) (pv 3) (xcall G__law_take hr (pa_cons (pv 0) (pa_cons (pe_callB (xlen K) (by rfl) T.len_ (by decide +kernel) (pa_cons (pv 3) pa_nil)) pa_nil))) (fun _ _ => rfl)) pa_nil)))))
      (pss_cons (xset 9 nd (pe_op op_cat (pe_op op_cat (pe_slice (xslL K) (pv 6) po_none (po_some (pv 7))) (pe_lst (pa_cons (pv 8) pa_nil))) (pe_slice (xslL K) (pv 6) (po_some (pv 7)) po_none)))
      (pss_cons (xset 10 nd (xcall G__law_is_fact hr (pa_cons (pv 1) (pa_cons (pv 8) pa_nil))))
      (pss_cons (xset 11 nd (xcall G_is_fact hr (pa_cons (pv 2) (pa_cons (pv 8) pa_nil))))
      (pss_cons (ps_if (PW.pt (pw_or (pt_not (pt_val (pe_callB (xisi K) (by rfl) T.isinstance_ (by decide +kernel) (pa_cons (pv 11) (pa_cons (pe_bltn (v := .ty "bool") (by rfl) T.bool_ (by decide +kernel) rfl) pa_nil))))) (pw_or1 (pt_cmpR op_ne (pv 11) (pv 10) (nomark _))))) (pss_one (ps_ret pe_bl)) pss_nil)
      (pss_cons (xset 12 nd (pe_ix (xix K) (pe_tup (pa_cons pe_non (pa_cons pe_int (pa_cons pe_str (pa_cons (pe_ix (xix K) (pv 3) pe_int (fun _ _ => rfl)) (pa_cons pe_dnewK (pa_cons pe_bl pa_nil))))))) (xcall G__law_take hr (pa_cons (pv 0) (pa_cons pe_int pa_nil))) (fun _ _ => rfl)))
      (pss_cons (ps_for PassesOwn.never rfl (xseq K (h := (pe_tup (pa_cons (pv 5) (pa_cons (pe_callTy (xtuple K) (by rfl) T.tuple_ (by decide +kernel) (pa_cons (pv 5) pa_nil)) (pa_cons (pe_revL (pv 5)) (pa_cons (pv 6) (pa_cons (pe_callTy (xtuple K) (by rfl) T.tuple_ (by decide +kernel) (pa_cons (pv 6) pa_nil)) (pa_cons (pv 9) (pa_cons (pe_op op_cat (pv 5) (pv 9)) (pa_cons (pv 12) (pa_cons (pe_lst pa_nil) (pa_cons (pe_op op_rep (pe_lst (pa_cons (pe_ix (xix K) (pv 3) pe_int (fun _ _ => rfl)) pa_nil)) pe_int) (pa_cons (pe_op op_rep (pe_lst (pa_cons (pe_ix (xix K) (pv 3) (pe_un un_neg pe_int) (fun _ _ => rfl)) pa_nil)) pe_int) pa_nil)))))))))))))) (pg_name (i := 13) nd rfl (by first | exact Or.inl rfl | exact Or.inr rfl)) (pss_cons (xset 14 nd (pe_ifExp (pt_val (pe_callB (xisiT K) (by rfl) T.isinstance_ (by decide +kernel) (pa_cons (pv 13) (pa_cons (pe_tup (pa_cons (pe_bltn (v := .ty "list") (by rfl) T.list_ (by decide +kernel) rfl) (pa_cons (pe_bltn (v := .ty "tuple") (by rfl) T.tuple_ (by decide +kernel) rfl) pa_nil))) pa_nil)))) (pe_callTy (xlist K) (by rfl) T.list_ (by decide +kernel) (pa_cons (pv 13) pa_nil)) (pv 13)))
      (pss_cons (ps_if (pt_cmpR (xneD K (hu := hr.units)) (xcall G__law_with_told hr (pa_cons (pv 2) (pa_cons (pv 13) pa_nil))) (xcall G__law_with hr (pa_cons (pv 1) (pa_cons (pv 13) pa_nil))) (nomark _)) (pss_one (ps_ret pe_bl)) pss_nil)
      (pss_one (ps_if (PW.pt (pw_and (pt_val (pe_callB (xisiT K) (by rfl) T.isinstance_ (by decide +kernel) (pa_cons (pv 13) (pa_cons (pe_tup (pa_cons (pe_bltn (v := .ty "list") (by rfl) T.list_ (by decide +kernel) rfl) (pa_cons (pe_bltn (v := .ty "tuple") (by rfl) T.tuple_ (by decide +kernel) rfl) pa_nil))) pa_nil)))) (pw_and1 (pt_cmpR (xneD K (hu := hr.units)) (pe_callTy (xlist K) (by rfl) T.list_ (by decide +kernel) (pa_cons (pv 13) pa_nil)) (pv 14) (nomark _))))) (pss_one (ps_ret pe_bl)) pss_nil)))))
      (pss_one (ps_ret (pe_cmpR (xeqD K (hu := hr.units)) (xfld K (he := (pv 2)) (hb := rfl)) (pe_ix (xix K) (pv 1) pe_int (fun _ _ => rfl)) (nomark _))))))))))))))))), fun B h σ ds P' Q hB r S k => ?_⟩
  obtain ⟨c, ps, rfl, L, rfl⟩ := r
  have px : ∀ {μ : List MO} {ρ : List SV} {n : Nat} {y : PyData}, ρ[1]? = some (.d (plainD c ps)) → [PyData.int c, encPs ps][n]? = some y → JE C μ ρ (tOp (rIx K) (tVar 1) (tC (.int (n : Int)))) (· = y) := fun h1 h2 => je_op (je_var h1) je_int (rd_ix rfl h2)
  refine s_seq (s_asg1 S (je_lot (ja_cons (px (n := 0) rfl rfl) (ja_cons (px (n := 1) rfl rfl) ja_nil)) rfl L) fun σ H1 S => ?_)
  refine s_seq (s_asg S (je_call (ja_cons (je_var rfl) ja_nil) ⟨c, ps, rfl, L, rfl⟩) ?_)
  rintro _ σ H1 ⟨fs, rfl, f1, f2, f3⟩ S
  refine s_seq (s_forS (fun j μ ρ => μ = [.hand] ∧ ∃ a4, ρ = [.m 0, .d (plainD c ps), .d (lotD c ps), .d (poolD fs), a4, .un, .un, .un, .un, .un, .un, .un, .un, .un, .un]) S (je_var rfl) rfl (fun d _ => jg_name) ⟨rfl, _, rfl⟩ ?_ ?_)
  · rintro j d hd v μ' ρ' σ' H' ⟨rfl, a4, rfl⟩ S
    obtain ⟨f, hf, rfl⟩ := map_get hd
    have hok := f3 f (List.mem_of_getElem? hf)
    refine s_if (b := false) S ((jt_or (jt_test (je_op (je_call (ja_cons (je_var rfl) (ja_cons (je_var rfl) ja_nil)) ⟨c, ps, tupF f, rfl, tupF_lay f, rfl⟩) je_bl rd_notB)) fun _ => jt_test (je_op (je_call (ja_cons (je_var rfl) (ja_cons (je_cb (ja_cons (je_var rfl) ja_nil) (cd_list (ds := encF f) rfl)) ja_nil)) ⟨c, ps, .list (encF f), rfl, (lstF_ok f).1, rfl⟩) je_bl rd_notB)).eq ?_) (fun z => by cases z) fun _ H S => s_nx ⟨_, _, ⟨rfl, _, rfl⟩, S⟩
    rw [(isFact_of (d := tupF f) hok rfl).1, (isFact_of (d := .list (encF f)) hok rfl).1]; rfl
  rintro μ' ρ' σ H1 ⟨rfl, a4, rfl⟩ S
  refine s_seq (s_asg S (je_callH rfl rfl (ja_cons (je_var rfl) (ja_cons (je_var rfl) ja_nil)) ⟨c, ps, fs, rfl, L, f1, f2, rfl⟩) ?_)
  rintro _ σ H1 ⟨es, rfl, e1, e2⟩ S
  refine s_seq (s_asg S (je_callH rfl rfl (ja_cons (je_var rfl) ja_nil) ⟨fs, rfl, f1, f2, rfl⟩) ?_)
  rintro _ σ H1 ⟨gs, rfl, g1, g2⟩ S
  refine s_seq (s_asg S (je_take (m := gs.length + 1) rfl rfl ((je_op (je_cb (ja_cons (je_var rfl) ja_nil) (cd_len rfl)) je_int rd_add).eq (by congr 1)) (by omega) (by omega)) ?_)
  rintro _ σ H1 ⟨at_, hat, rfl⟩ S
  refine s_seq (s_asg (P := fun d => d.canLay0 = true ∧ d.depth ≤ 2) S (jn_callH (A := fun ds => ∃ f ∈ fs, ds = [plainD c ps, tupF f]) rfl rfl (jn_cons (P := (· = plainD c ps)) (R := fun ds => ∃ f ∈ fs, ds = [tupF f]) (je_var rfl) (jn_cons (R := (· = [])) (je_pool rfl rfl rfl f1 f2) ja_nil ?_) ?_) ?_) ?_)
  · rintro _ _ ⟨f, hf, rfl⟩ rfl; exact ⟨f, hf, rfl⟩
  · rintro _ _ rfl ⟨f, hf, rfl⟩; exact ⟨f, hf, rfl⟩
  · rintro _ ⟨f, hf, rfl⟩; exact ⟨_, f, rfl, rfl⟩
  intro thing σ H1 ht S
  have gt := g2.two
  have lenG : ∀ lo hi : Option Int, (cutD gs lo hi).length ≤ 8 := fun lo hi => Nat.le_trans (cutD_len gs lo hi) g1
  have l1 := lenG none (some (at_ : Int))
  have l2 := lenG (some (at_ : Int)) none
  have oksp : ∀ e ∈ cutD gs none (some (at_ : Int)) ++ [thing] ++ cutD gs (some (at_ : Int)) none, e.canLay0 = true ∧ e.depth ≤ 2 := fun e he => by
    rcases List.mem_append.mp he with he | he
    · rcases List.mem_append.mp he with he | he
      · exact gt e (cutD_sub he)
      · rw [List.mem_singleton.mp he]; exact ht
    · exact gt e (cutD_sub he)
  refine s_seq (s_asg1 S (je_op (je_op (je_slL (je_var rfl) jo_none (jo_some (je_var rfl))) (je_lst (ja_cons (je_var rfl) ja_nil)) (rd_cat ?_)) (je_slL (je_var rfl) (jo_some (je_var rfl)) jo_none) (rd_cat ?_)) fun σ H1 S => ?_)
  · show _ + 1 ≤ 10000; omega
  · rw [List.length_append]; show _ + 1 + _ ≤ 10000; omega
  have lsp : (cutD gs none (some (at_ : Int)) ++ [thing] ++ cutD gs (some (at_ : Int)) none).length ≤ 17 := by rw [List.length_append, List.length_append]; show _ + 1 + _ ≤ 17; omega
  generalize cutD gs none (some (at_ : Int)) ++ [thing] ++ cutD gs (some (at_ : Int)) none = sp at *
  refine s_seq (s_asg1 S (je_call (ja_cons (je_var rfl) (ja_cons (je_var rfl) ja_nil)) ⟨c, ps, thing, rfl, ht.1, rfl⟩) fun σ H1 S => ?_)
  refine s_seq (s_asg1 S (je_call (ja_cons (je_var rfl) (ja_cons (je_var rfl) ja_nil)) ⟨c, ps, thing, rfl, ht.1, rfl⟩) fun σ H1 S => ?_)
  refine s_seq (s_if (b := false) S ((jt_or (jt_not (jt_B (je_isi (b := true) (je_var rfl) rfl (by show kitB "bool" "bool" = some true; decide +kernel)))) fun _ => jt_test (je_op (je_var rfl) (je_var rfl) rd_neB)).eq (by simp)) (fun z => by cases z) fun _ H1 S => s_nx ?_)
  obtain ⟨f0, hf0⟩ : ∃ f0, fs[0]? = some f0 := ⟨_, List.getElem?_eq_getElem f1⟩
  obtain ⟨fl, hfl⟩ : ∃ fl, fs[fs.length - 1]? = some fl := ⟨_, List.getElem?_eq_getElem (by omega)⟩
  have p0 : ∀ {μ : List MO} {ρ : List SV}, ρ[3]? = some (.d (poolD fs)) → JE C μ ρ (tOp (rIx K) (tVar 3) (tC (.int 0))) (· = tupF f0) := fun h => je_op (je_var h) je_int (rd_ix (n := 0) rfl (map_at hf0))
  refine s_seq (s_asg (P := RowOk) S (jn_ixq (ds := [.none, .int 3, .str "kept", tupF f0, .dict [], .bool true]) (je_tup (ja_cons je_non (ja_cons je_int (ja_cons je_str (ja_cons (p0 rfl) (ja_cons je_dnew (ja_cons je_bl ja_nil))))))) rfl (je_take (m := 6) rfl rfl je_int (by decide) (by decide)) ?_) ?_)
  · intro r hr
    rcases r with _ | _ | _ | _ | _ | _ | r
    · exact ⟨_, rfl, rfl, fun es hs => by cases hs⟩
    · exact ⟨_, rfl, rfl, fun es hs => by cases hs⟩
    · exact ⟨_, rfl, rfl, fun es hs => by cases hs⟩
    · exact ⟨_, rfl, .tup (encF_lay f0).two⟩
    · exact ⟨_, rfl, rfl, fun es hs => by cases hs⟩
    · exact ⟨_, rfl, rfl, fun es hs => by cases hs⟩
    · omega
  intro odd σ H1 hodd S
  have et := e2.two
  refine s_seq (s_forS (ds := [.list es, .tuple es, .list es.reverse, .list gs, .tuple gs, .list sp, .list (es ++ sp), odd, .list [], .list (List.replicate 41 (tupF f0)), .list (List.replicate 40 (tupF fl))]) (fun j μ ρ => μ = [.hand] ∧ ∃ a13 a14, ρ = [.m 0, .d (plainD c ps), .d (lotD c ps), .d (poolD fs), a4, .d (.list es), .d (.list gs), .d (.int (at_ : Int)), .d thing, .d (.list sp), .d (.bool (isFact ps thing)), .d (.bool (isFact ps thing)), .d odd, a13, a14]) S
    (je_tup (ja_cons (je_var rfl) (ja_cons (je_cb (ja_cons (je_var rfl) ja_nil) (cd_tuple rfl)) (ja_cons (je_rev (je_var rfl)) (ja_cons (je_var rfl) (ja_cons (je_cb (ja_cons (je_var rfl) ja_nil) (cd_tuple rfl)) (ja_cons (je_var rfl) (ja_cons (je_op (je_var rfl) (je_var rfl) (rd_cat (by omega))) (ja_cons (je_var rfl) (ja_cons (je_lst ja_nil)
      (ja_cons (je_op (je_lst (ja_cons (p0 rfl) ja_nil)) je_int (rd_rep (n := 41) (by decide))) (ja_cons (je_op (je_lst (ja_cons (je_op (je_var rfl) (je_un je_int ud_neg) (rd_ixLast (by rw [List.length_map]; exact map_at hfl))) ja_nil)) je_int (rd_rep (n := 40) (by decide))) ja_nil)))))))))))) rfl (fun d _ => jg_name) ⟨rfl, _, _, rfl⟩ ?_ ?_)
  · rintro j d hd v μ' ρ' σ' H' ⟨rfl, a13, a14, rfl⟩ S
    have hm := List.mem_of_getElem? hd
    have ok : RowOk d := by
      simp only [List.mem_cons, List.not_mem_nil, or_false] at hm
      have rep : ∀ (n : Nat) (f : Fct), ∀ e ∈ List.replicate n (tupF f), e.canLay0 = true ∧ e.depth ≤ 2 := fun n f e he => by rw [List.eq_of_mem_replicate he]; exact ⟨(tupF_ok f).1, Nat.le_succ_of_le (tupF_ok f).2⟩
      rcases hm with e | e | e | e | e | e | e | e | e | e | e
      · rw [e]; exact .lst et
      · rw [e]; exact .tup et
      · rw [e]; exact .lst fun x hx => et x (List.mem_reverse.mp hx)
      · rw [e]; exact .lst gt
      · rw [e]; exact .tup gt
      · rw [e]; exact .lst oksp
      · rw [e]; exact .lst fun x hx => (List.mem_append.mp hx).elim (et x) (oksp x)
      · rw [e]; exact hodd
      · rw [e]; exact .lst fun x hx => by cases hx
      · rw [e]; exact .lst (rep _ _)
      · rw [e]; exact .lst (rep _ _)
    have cmp : ∀ {kd : PyData} {σ : L2.St} {H1 : Hp}, ∀ {nx : L2.St → Hp → Prop} {rt : VK} {bk ct : L2.St → Hp → Prop} {u : TS}, Sat C ⟨H, [h], B, [h], [(v, PyData.tuple [.list es, .tuple es, .list es.reverse, .list gs, .tuple gs, .list sp, .list (es ++ sp), odd, .list [], .list (List.replicate 41 (tupF f0)), .list (List.replicate 40 (tupF fl))])]⟩ [.hand] [.m 0, .d (plainD c ps), .d (lotD c ps), .d (poolD fs), a4, .d (.list es), .d (.list gs), .d (.int (at_ : Int)), .d thing, .d (.list sp), .d (.bool (isFact ps thing)), .d (.bool (isFact ps thing)), .d odd, .d d, .d kd] σ H1 →
        (∀ H2, Sat C ⟨H, [h], B, [h], [(v, PyData.tuple [.list es, .tuple es, .list es.reverse, .list gs, .tuple gs, .list sp, .list (es ++ sp), odd, .list [], .list (List.replicate 41 (tupF f0)), .list (List.replicate 40 (tupF fl))])]⟩ [.hand] [.m 0, .d (plainD c ps), .d (lotD c ps), .d (poolD fs), a4, .d (.list es), .d (.list gs), .d (.int (at_ : Int)), .d thing, .d (.list sp), .d (.bool (isFact ps thing)), .d (.bool (isFact ps thing)), .d odd, .d d, .d kd] σ H2 → nx σ H2) →
        tIfS (tTest (tOp (rNeD K) (tCall (spP C R__law_with_told) [] E0 (tCons (tVar 2) (tCons (tVar 13) tNil))) (tCall (spP C R__law_with) [] E0 (tCons (tVar 1) (tCons (tVar 13) tNil))))) u tNext ⟨nx, rt, bk, ct⟩ σ H1 := fun {kd σ H1 nx rt bk ct u} S kk => by
      refine s_if (b := false) S ((jt_test (je_op (je_call (ja_cons (je_var rfl) (ja_cons (je_var rfl) ja_nil)) ⟨c, ps, d, rfl, L, ok.lay, rfl⟩) (je_call (ja_cons (je_var rfl) (ja_cons (je_var rfl) ja_nil)) ⟨c, ps, d, rfl, L, ok.lay, rfl⟩) (rd_neD (resD_shaped _) (resD_shaped _)))).eq ?_) (fun z => by cases z) fun _ H2 S => s_nx (kk H2 S)
      rw [eqv_same (resD_shaped _)]; rfl
    cases hs : sqD d with
    | some ds' =>
      have eq : isSq d = true := by rw [sq_is, hs]; rfl
      have isq : ∀ {μ : List MO} {ρ : List SV}, ρ[13]? = some (.d d) → JT C μ ρ (tB (tCB (rIsiT K) (tCons (tVar 13) (tCons (tTup (tCons (tC (.ty "list")) (tCons (tC (.ty "tuple")) tNil))) tNil)))) (· = true) := fun h => (jt_B (je_isiT (je_var h) ok.1)).eq eq
      refine s_seq (s_asg1 S ((je_if (b := true) (y := .none) (isq rfl) (fun _ => je_cb (ja_cons (je_var rfl) ja_nil) (cd_list hs)) (fun z => by cases z)).eq (y := .list ds') rfl) fun σ H1 S => ?_)
      refine s_seq (cmp S fun H1 S => ?_)
      have sh := lst_shaped (ok.2 ds' hs)
      refine s_if (b := false) S ((jt_and (isq rfl) fun _ => jt_test (je_op (je_cb (ja_cons (je_var rfl) ja_nil) (cd_list hs)) (je_var rfl) (rd_neD sh sh))).eq ?_) (fun z => by cases z) fun _ H1 S => s_nx ⟨_, _, ⟨rfl, _, _, rfl⟩, S⟩
      rw [eqv_same sh]; rfl
    | none =>
      have eq : isSq d = false := by rw [sq_is, hs]; rfl
      have isq : ∀ {μ : List MO} {ρ : List SV}, ρ[13]? = some (.d d) → JT C μ ρ (tB (tCB (rIsiT K) (tCons (tVar 13) (tCons (tTup (tCons (tC (.ty "list")) (tCons (tC (.ty "tuple")) tNil))) tNil)))) (· = false) := fun h => (jt_B (je_isiT (je_var h) ok.1)).eq eq
      refine s_seq (s_asg1 S ((je_if (b := false) (x := .none) (isq rfl) (fun z => by cases z) (fun _ => je_var rfl)).eq (y := d) rfl) fun σ H1 S => ?_)
      refine s_seq (cmp S fun H1 S => ?_)
      exact s_if (b := false) S (jt_and (a := false) (b := false) (isq rfl) fun z => by cases z) (fun z => by cases z) fun _ H1 S => s_nx ⟨_, _, ⟨rfl, _, _, rfl⟩, S⟩
  rintro μ' ρ' σ H1 ⟨rfl, a13, a14, rfl⟩ S
  refine s_retH hB S (je_op (je_programs T.cl T.nP (je_var rfl)) (px (n := 1) rfl rfl) (rd_eqD (encPs_shaped _) (encPs_shaped _))) k ?_
  rintro _ rfl
  rw [eqv_same (encPs_shaped _)]
end
end KG
namespace KG
open PySem PySem.Spec L2
theorem jn_callHm {C : Addr} {μ : List MO} {ρ : List SV} {R : Rel} {S : PyData → Prop} {E : XK} {ta : TA} {A : List PyData → Prop} {i k : Nat} (h1 : ρ[i]? = some (.m k)) (h2 : μ[k]? = some .hand) (h : JA C μ ρ ta A) (hr : ∀ ds, A ds → ∃ P', R ds P' ∧ ∀ d, P' d → S d) : JE C μ ρ (tCall (spH C R) [] E (tCons (tVar i) ta)) S := fun F σ H s Q q => by
  obtain ⟨p, hσ, hv⟩ := s.getm h1
  refine ⟨_, hσ, h F σ H s _ fun vs H1 ds hd s1 e1 d1 => ?_⟩
  obtain ⟨P', hR, hP⟩ := hr ds hd
  refine ⟨F.m, p, vs, ds, P', by rw [List.append_nil], List.mem_append_left _ (s.mem hv), s1.al, s1.mo hv h2, d1, hR, fun v H' d pd e2 m dv => q v H' d (hP d pd) (s1.hand hv h2 e2 m) (e1.trans (e2.mono fun a z => ?_)) dv⟩
  rw [List.mem_singleton.mp z]; exact s.mem hv
section
variable {P : Program} {w : World} {K : PySem.W.Frag} {mg : Str → Option Value} {base : Heap} {C CG CF fI : Addr}
/-! law -/
def spLaw (K : PySem.W.Frag) : Sp := fun vs H Q _ => ∃ (a : Addr) (ns : List Int), vs = [.ref a] ∧ SqL K H a (ns.map V.int) ∧ ns.length ≤ 63 ∧ ∀ H', Q (.bl true) H'
theorem sc_law : FnScope (["_law_script", "_law_hand_here", "_law_plain", "_law_lot_here", "_law_floor_here", "_law_told"]) (["_law_script"]) (defScope (top 54)) := ⟨rfl, rfl, rfl, by decide +kernel, rfl, by decide +kernel, by decide +kernel⟩
theorem ok_law {f : Addr} {fd : FuncData} (T : Txt K mg C) (F : Fun K "law" "law" (top 54) f fd) (G_Lot : LotI P w K mg base C 5) (G__law_hand : Cal P w K mg base CX0 1 "_law_hand" (["_law_script"]) (spNewH K C)) (G__law_lot : Cal P w K mg base CX0 4 "_law_lot" (["_law_hand_here", "_law_cells", "_law_sizes_here"]) (spH C R__law_lot))
    (G__law_take : Cal P w K mg base CX0 2 "_law_take" (["_law_hand_here", "_law_many"]) (spH C R__law_take)) (G__law_sizes : Cal P w K mg base CX0 3 "_law_sizes" (["_law_hand_here"]) (spH C R__law_sizes')) (G__law_floor : Cal P w K mg base CX0 1 "_law_floor" (["_law_lot_here"]) (spP C R__law_floor))
    (G_cells_floor : Cal P w K mg base CX0 7 "cells_floor" (["lot"]) (spP C R_cells_floor)) (G__law_one_lot : Cal P w K mg base CX0 9 "_law_one_lot" (["_law_hand_here", "_law_plain"]) (spH C R__law_one_lot)) (G__law_unlike : Cal P w K mg base CX0 3 "_law_unlike" (["_law_hand_here", "_law_plain"]) (spH C R__law_unlike)) :
    FnOk P w K mg base CX0 10 f fd (["_law_script"]) (spLaw K) := by
  have nd := sc_law.nd
  refine F.ok sc_law (fun vs H Q E h => ?_) (fun cdv A outer s H vs Q E hr h => ⟨_, (pss_cons (xset 1 nd (xcall G__law_hand hr (pa_cons (pv 0) pa_nil)))
      (pss_cons (xset 2 nd (xcall G__law_lot hr (pa_cons (pv 1) (pa_cons (pe_op op_add pe_int (xcall G__law_take hr (pa_cons (pv 1) (pa_cons pe_int pa_nil)))) (pa_cons (xcall G__law_sizes hr (pa_cons (pv 1) pa_nil)) pa_nil)))))
      (pss_cons (xset 3 nd (xlot G_Lot hr T (pa_cons (pe_ix (xix K) (pv 2) pe_int (fun _ _ => rfl)) (pa_cons (pe_ix (xix K) (pv 2) pe_int (fun _ _ => rfl)) pa_nil))))
      (pss_cons (xset 4 nd (xcall G__law_floor hr (pa_cons (pv 2) pa_nil)))
      (pss_cons (xset 5 nd (xcall G_cells_floor hr (pa_cons (pv 3) pa_nil)))
      (pss_cons (ps_if (PW.pt (pw_or (pt_not (pt_val (pe_callB (xisi K) (by rfl) T.isinstance_ (by decide +kernel) (pa_cons (pv 5) (pa_cons (pe_glob (by rfl) T.g_Lot T.r_Lot) pa_nil))))) (pw_or (pt_cmpR op_ne (xfld K (he := (pv 5)) (hb := rfl)) (pe_ix (xix K) (pv 4) pe_int (fun _ _ => rfl)) (nomark _)) (pw_or1 (pt_cmpR (xneD K (hu := hr.units)) (xfld K (he := (pv 5)) (hb := rfl)) (pe_ix (xix K) (pv 4) pe_int (fun _ _ => rfl)) (nomark _)))))) (pss_one (ps_ret pe_bl)) pss_nil)
      (pss_one (ps_ret (pe_and (xcall G__law_one_lot hr (pa_cons (pv 1) (pa_cons (pv 2) pa_nil))) (pe_and (xcall G__law_one_lot hr (pa_cons (pv 1) (pa_cons (pv 4) pa_nil))) (pe_one (xcall G__law_one_lot hr (pa_cons (pv 1) (pa_cons (xcall G__law_unlike hr (pa_cons (pv 1) (pa_cons (pv 2) pa_nil))) pa_nil)))))))))))))), ?_⟩)
  · obtain ⟨a, ns, rfl, _⟩ := h; rfl
  obtain ⟨a, ns, rfl, ha, hl, k⟩ := h
  have S : Sat C ⟨H, [], [], [], []⟩ [] [.un, .un, .un, .un, .un, .un] (L2.start (["_law_script", "_law_hand_here", "_law_plain", "_law_lot_here", "_law_floor_here", "_law_told"]) [.ref a]) H :=
    ⟨by simp, fun a z => (by cases z), .nil, .cons trivial (.cons trivial (.cons trivial (.cons trivial (.cons trivial (.cons trivial .nil))))), fun a o q _ => q, fun a z => z, fun a z => .inl z, fun a z _ => z, fun g z => (by cases z)⟩
  refine s_seq (s_newH S (fun Q q => ⟨_, rfl, q⟩) ha hl rfl fun h σ H1 S => ?_)
  refine s_seq (s_asg (P := fun d => ∃ (c : Nat) (ps : List Prg), d = plainD (c : Int) ps ∧ LotOk (c : Int) ps) S (jn_callHm (A := fun ds => ∃ (c : Nat) (ns : List Nat), ds = [.int (c : Int), szD ns] ∧ 1 ≤ c ∧ c ≤ 3 ∧ SzOk ns) rfl rfl (jn_cons (P := fun d => ∃ c : Nat, d = .int (c : Int) ∧ 1 ≤ c ∧ c ≤ 3) (R := fun ds => ∃ ns, ds = [szD ns] ∧ SzOk ns) (jn_op je_int (je_take (m := 3) rfl rfl je_int (by decide) (by decide)) ?_) (jn_cons (R := (· = [])) (je_callH1 rfl rfl ⟨rfl, rfl⟩) ja_nil ?_) ?_) ?_) ?_)
  · rintro _ _ rfl ⟨r, hr, rfl⟩
    exact fun M H v u al h1 h2 Q q => rd_add M H v u al h1 h2 Q fun w H' e pe ee de => q w H' e ⟨1 + r, by rw [pe]; congr 1, by omega, by omega⟩ ee de
  · rintro _ _ ⟨ns, rfl, h1⟩ rfl; exact ⟨ns, rfl, h1⟩
  · rintro _ _ ⟨c, rfl, h1, h2⟩ ⟨ns, rfl, h3⟩; exact ⟨c, ns, rfl, h1, h2, h3⟩
  · rintro _ ⟨c, ns, rfl, h1, h2, h3⟩
    exact ⟨_, ⟨c, ns, rfl, h1, h2, h3, rfl⟩, fun d ⟨ps, e, L⟩ => ⟨c, ps, e, L⟩⟩
  rintro _ σ H1 ⟨c, ps, rfl, L⟩ S
  have px : ∀ {μ : List MO} {ρ : List SV} {n : Nat} {y : PyData}, ρ[2]? = some (.d (plainD (c : Int) ps)) → [PyData.int (c : Int), encPs ps][n]? = some y → JE C μ ρ (tOp (rIx K) (tVar 2) (tC (.int (n : Int)))) (· = y) := fun h1 h2 => je_op (je_var h1) je_int (rd_ix rfl h2)
  have fx : ∀ {μ : List MO} {ρ : List SV} {n : Nat} {y : PyData}, ρ[4]? = some (.d (plainD (c : Int) (floorL ps))) → [PyData.int (c : Int), encPs (floorL ps)][n]? = some y → JE C μ ρ (tOp (rIx K) (tVar 4) (tC (.int (n : Int)))) (· = y) := fun h1 h2 => je_op (je_var h1) je_int (rd_ix rfl h2)
  refine s_seq (s_asg1 S (je_lot (ja_cons (px (n := 0) rfl rfl) (ja_cons (px (n := 1) rfl rfl) ja_nil)) rfl L) fun σ H1 S => ?_)
  refine s_seq (s_asg1 S (je_call (ja_cons (je_var rfl) ja_nil) ⟨(c : Int), ps, rfl, L, rfl⟩) fun σ H1 S => ?_)
  refine s_seq (s_asg1 S (je_call (ja_cons (je_var rfl) ja_nil) ⟨(c : Int), ps, rfl, L, rfl⟩) fun σ H1 S => ?_)
  refine s_seq (s_if (b := false) S ((jt_or (jt_not (jt_B (je_isLot T (je_var rfl)))) fun _ => jt_or (jt_test (je_op (je_cells T.cl T.nC (je_var rfl)) (fx (n := 0) rfl rfl) rd_neI)) fun _ => jt_test (je_op (je_programs T.cl T.nP (je_var rfl)) (fx (n := 1) rfl rfl) (rd_neD (encPs_shaped _) (encPs_shaped _)))).eq ?_) (fun z => by cases z) fun _ H1 S => s_nx ?_)
  · rw [eqv_same (encPs_shaped _)]; simp
  refine s_ret S (je_andV (je_callH rfl rfl (ja_cons (je_var rfl) ja_nil) ⟨(c : Int), ps, rfl, L, rfl⟩) fun _ => je_andV (b := true) (je_callH rfl rfl (ja_cons (je_var rfl) ja_nil) ⟨(c : Int), floorL ps, rfl, floor_ok L, rfl⟩) fun _ => jn_callH (S := (· = .bool true)) (A := fun ds => ∃ (fall : Bool), ds = [plainD (c : Int) (unlL fall ps)]) rfl rfl (jn_cons (R := (· = [])) (je_callH rfl rfl (ja_cons (je_var rfl) ja_nil) ⟨(c : Int), ps, rfl, L, rfl⟩) ja_nil ?_) ?_) ?_
  · rintro _ _ ⟨fall, rfl⟩ rfl; exact ⟨fall, rfl⟩
  · rintro _ ⟨fall, rfl⟩; exact ⟨(c : Int), unlL fall ps, rfl, unl_ok L, rfl⟩
  · rintro v H2 _ rfl s1 dv
    rw [dv.blE]
    exact k H2
end
end KG
namespace KG
open PySem PySem.Spec L2
theorem kone_of {K : PySem.W.Frag} {CF CG : Addr} (h1 : PySem.W.isClsIn K CG = true) (h2 : PySem.W.typeIn K (.ref CG) = some (.type "type")) (h3 : PySem.W.subIn K (.ref CF) (.ref CG) = some true) : PySem.W.kitOne K (.ref CF) (.ref CG) = some true := by
  unfold PySem.W.kitOne
  by_cases e : (Value.ref CF == Value.ref CG) = true
  · rw [if_pos e]
  · rw [if_neg e]
    show (if _ then _ else _) = _
    rw [if_pos (by rw [show (PySem.W.clsIn K CG).isSome = true from h1, h2]; rfl)]
    exact h3
theorem all_mk {l : PySem.W.OpenLaw} {w : World} {K : PySem.W.Frag} {h : Heap} {mg : Str → Option Value} {fa : Addr} (X : K.In h) (G : h.Ns mainGlobals mg) (hfa : mg "law" = some (.ref fa))
    {f_is_sequence : Addr} {od_is_sequence an_is_sequence : Option Addr} {sl_is_sequence : Array (Option Value)} {oc_is_sequence kV_is_sequence dc_is_sequence pm_is_sequence cd_is_sequence ct_is_sequence : Value}
    {f_is_ascending : Addr} {od_is_ascending an_is_ascending : Option Addr} {sl_is_ascending : Array (Option Value)} {oc_is_ascending kV_is_ascending dc_is_ascending pm_is_ascending cd_is_ascending ct_is_ascending : Value}
    {f_check_step : Addr} {od_check_step an_check_step : Option Addr} {sl_check_step : Array (Option Value)} {oc_check_step kV_check_step dc_check_step pm_check_step cd_check_step ct_check_step : Value}
    {f_last_pocket : Addr} {od_last_pocket an_last_pocket : Option Addr} {sl_last_pocket : Array (Option Value)} {oc_last_pocket kV_last_pocket dc_last_pocket pm_last_pocket cd_last_pocket ct_last_pocket : Value}
    {f_checked_steps : Addr} {od_checked_steps an_checked_steps : Option Addr} {sl_checked_steps : Array (Option Value)} {oc_checked_steps kV_checked_steps dc_checked_steps pm_checked_steps cd_checked_steps ct_checked_steps : Value}
    {f_goes_by_adds : Addr} {od_goes_by_adds an_goes_by_adds : Option Addr} {sl_goes_by_adds : Array (Option Value)} {oc_goes_by_adds kV_goes_by_adds dc_goes_by_adds pm_goes_by_adds cd_goes_by_adds ct_goes_by_adds : Value}
    {f_function_shape : Addr} {od_function_shape an_function_shape : Option Addr} {sl_function_shape : Array (Option Value)} {oc_function_shape kV_function_shape dc_function_shape pm_function_shape cd_function_shape ct_function_shape : Value}
    {f_has_unlike_names : Addr} {od_has_unlike_names an_has_unlike_names : Option Addr} {sl_has_unlike_names : Array (Option Value)} {oc_has_unlike_names kV_has_unlike_names dc_has_unlike_names pm_has_unlike_names cd_has_unlike_names ct_has_unlike_names : Value}
    {f_is_place : Addr} {od_is_place an_is_place : Option Addr} {sl_is_place : Array (Option Value)} {oc_is_place kV_is_place dc_is_place pm_is_place cd_is_place ct_is_place : Value}
    {f_is_fact : Addr} {od_is_fact an_is_fact : Option Addr} {sl_is_fact : Array (Option Value)} {oc_is_fact kV_is_fact dc_is_fact pm_is_fact cd_is_fact ct_is_fact : Value}
    {f_check_form : Addr} {od_check_form an_check_form : Option Addr} {sl_check_form : Array (Option Value)} {oc_check_form kV_check_form dc_check_form pm_check_form cd_check_form ct_check_form : Value}
    {f_cells_floor : Addr} {od_cells_floor an_cells_floor : Option Addr} {sl_cells_floor : Array (Option Value)} {oc_cells_floor kV_cells_floor dc_cells_floor pm_cells_floor cd_cells_floor ct_cells_floor : Value}
    {f_is_clash : Addr} {od_is_clash an_is_clash : Option Addr} {sl_is_clash : Array (Option Value)} {oc_is_clash kV_is_clash dc_is_clash pm_is_clash cd_is_clash ct_is_clash : Value}
    {f_changed_step : Addr} {od_changed_step an_changed_step : Option Addr} {sl_changed_step : Array (Option Value)} {oc_changed_step kV_changed_step dc_changed_step pm_changed_step cd_changed_step ct_changed_step : Value}
    {f_name_count : Addr} {od_name_count an_name_count : Option Addr} {sl_name_count : Array (Option Value)} {oc_name_count kV_name_count dc_name_count pm_name_count cd_name_count ct_name_count : Value}
    {f_with_plain_fact : Addr} {od_with_plain_fact an_with_plain_fact : Option Addr} {sl_with_plain_fact : Array (Option Value)} {oc_with_plain_fact kV_with_plain_fact dc_with_plain_fact pm_with_plain_fact cd_with_plain_fact ct_with_plain_fact : Value}
    {f_with_same : Addr} {od_with_same an_with_same : Option Addr} {sl_with_same : Array (Option Value)} {oc_with_same kV_with_same dc_with_same pm_with_same cd_with_same ct_with_same : Value}
    {f_with_facts : Addr} {od_with_facts an_with_facts : Option Addr} {sl_with_facts : Array (Option Value)} {oc_with_facts kV_with_facts dc_with_facts pm_with_facts cd_with_facts ct_with_facts : Value}
    {f__law_hand : Addr} {od__law_hand an__law_hand : Option Addr} {sl__law_hand : Array (Option Value)} {oc__law_hand kV__law_hand dc__law_hand pm__law_hand cd__law_hand ct__law_hand : Value}
    {f__law_mixed : Addr} {od__law_mixed an__law_mixed : Option Addr} {sl__law_mixed : Array (Option Value)} {oc__law_mixed kV__law_mixed dc__law_mixed pm__law_mixed cd__law_mixed ct__law_mixed : Value}
    {f__law_take : Addr} {od__law_take an__law_take : Option Addr} {sl__law_take : Array (Option Value)} {oc__law_take kV__law_take dc__law_take pm__law_take cd__law_take ct__law_take : Value}
    {f__law_whole : Addr} {od__law_whole an__law_whole : Option Addr} {sl__law_whole : Array (Option Value)} {oc__law_whole kV__law_whole dc__law_whole pm__law_whole cd__law_whole ct__law_whole : Value}
    {f__law_sizes : Addr} {od__law_sizes an__law_sizes : Option Addr} {sl__law_sizes : Array (Option Value)} {oc__law_sizes kV__law_sizes dc__law_sizes pm__law_sizes cd__law_sizes ct__law_sizes : Value}
    {f__law_shape : Addr} {od__law_shape an__law_shape : Option Addr} {sl__law_shape : Array (Option Value)} {oc__law_shape kV__law_shape dc__law_shape pm__law_shape cd__law_shape ct__law_shape : Value}
    {f__law_steps : Addr} {od__law_steps an__law_steps : Option Addr} {sl__law_steps : Array (Option Value)} {oc__law_steps kV__law_steps dc__law_steps pm__law_steps cd__law_steps ct__law_steps : Value}
    {f__law_lot : Addr} {od__law_lot an__law_lot : Option Addr} {sl__law_lot : Array (Option Value)} {oc__law_lot kV__law_lot dc__law_lot pm__law_lot cd__law_lot ct__law_lot : Value}
    {f__law_floor : Addr} {od__law_floor an__law_floor : Option Addr} {sl__law_floor : Array (Option Value)} {oc__law_floor kV__law_floor dc__law_floor pm__law_floor cd__law_floor ct__law_floor : Value}
    {f__law_is_place : Addr} {od__law_is_place an__law_is_place : Option Addr} {sl__law_is_place : Array (Option Value)} {oc__law_is_place kV__law_is_place dc__law_is_place pm__law_is_place cd__law_is_place ct__law_is_place : Value}
    {f__law_is_fact : Addr} {od__law_is_fact an__law_is_fact : Option Addr} {sl__law_is_fact : Array (Option Value)} {oc__law_is_fact kV__law_is_fact dc__law_is_fact pm__law_is_fact cd__law_is_fact ct__law_is_fact : Value}
    {f__law_all_facts : Addr} {od__law_all_facts an__law_all_facts : Option Addr} {sl__law_all_facts : Array (Option Value)} {oc__law_all_facts kV__law_all_facts dc__law_all_facts pm__law_all_facts cd__law_all_facts ct__law_all_facts : Value}
    {f__law_clash : Addr} {od__law_clash an__law_clash : Option Addr} {sl__law_clash : Array (Option Value)} {oc__law_clash kV__law_clash dc__law_clash pm__law_clash cd__law_clash ct__law_clash : Value}
    {f__law_taken_in : Addr} {od__law_taken_in an__law_taken_in : Option Addr} {sl__law_taken_in : Array (Option Value)} {oc__law_taken_in kV__law_taken_in dc__law_taken_in pm__law_taken_in cd__law_taken_in ct__law_taken_in : Value}
    {f__law_bearers : Addr} {od__law_bearers an__law_bearers : Option Addr} {sl__law_bearers : Array (Option Value)} {oc__law_bearers kV__law_bearers dc__law_bearers pm__law_bearers cd__law_bearers ct__law_bearers : Value}
    {f__law_with : Addr} {od__law_with an__law_with : Option Addr} {sl__law_with : Array (Option Value)} {oc__law_with kV__law_with dc__law_with pm__law_with cd__law_with ct__law_with : Value}
    {f__law_spoiled_fact : Addr} {od__law_spoiled_fact an__law_spoiled_fact : Option Addr} {sl__law_spoiled_fact : Array (Option Value)} {oc__law_spoiled_fact kV__law_spoiled_fact dc__law_spoiled_fact pm__law_spoiled_fact cd__law_spoiled_fact ct__law_spoiled_fact : Value}
    {f__law_facts : Addr} {od__law_facts an__law_facts : Option Addr} {sl__law_facts : Array (Option Value)} {oc__law_facts kV__law_facts dc__law_facts pm__law_facts cd__law_facts ct__law_facts : Value}
    {f__law_with_told : Addr} {od__law_with_told an__law_with_told : Option Addr} {sl__law_with_told : Array (Option Value)} {oc__law_with_told kV__law_with_told dc__law_with_told pm__law_with_told cd__law_with_told ct__law_with_told : Value}
    {f__law_unlike : Addr} {od__law_unlike an__law_unlike : Option Addr} {sl__law_unlike : Array (Option Value)} {oc__law_unlike kV__law_unlike dc__law_unlike pm__law_unlike cd__law_unlike ct__law_unlike : Value}
    {f__law_good_row : Addr} {od__law_good_row an__law_good_row : Option Addr} {sl__law_good_row : Array (Option Value)} {oc__law_good_row kV__law_good_row dc__law_good_row pm__law_good_row cd__law_good_row ct__law_good_row : Value}
    {f__law_one_lot : Addr} {od__law_one_lot an__law_one_lot : Option Addr} {sl__law_one_lot : Array (Option Value)} {oc__law_one_lot kV__law_one_lot dc__law_one_lot pm__law_one_lot cd__law_one_lot ct__law_one_lot : Value}
    {f_law : Addr} {od_law an_law : Option Addr} {sl_law : Array (Option Value)} {oc_law kV_law dc_law pm_law cd_law ct_law : Value}
    {T_w : Addr} {ocT : Value} {odT : Option Addr} {nT : Nat} {slT : Array (Option Value)}
    {f_is_whole : Addr} {od_is_whole an_is_whole : Option Addr} {sl_is_whole : Array (Option Value)} {oc_is_whole kV_is_whole dc_is_whole pm_is_whole cd_is_whole ct_is_whole : Value}
    {C CG CF : Addr}
    {f_I : Addr} {od_I an_I : Option Addr} {sl_I : Array (Option Value)} {oc_I kV_I dc_I pm_I cd_I ct_I : Value}
    {kk : Addr} {odk : Option Addr} {nk t1 t2 t3 : Nat} {slk : Array (Option Value)}
    {nm qn : Str} {Nn : Addr} {bs : List Value} {sn : List Str} {sub : List Value} {ab : Bool} {col : Option Bool} {dd : Option Addr} {m0 m1 m2 m3 m5 : Option Value}
    {f_B : Addr} {od_B an_B : Option Addr} {sl_B : Array (Option Value)} {oc_B kV_B dc_B pm_B cd_B ct_B : Value}
    (a_is_sequence : PySem.W.nsIn K mainGlobals "is_sequence" = some (some (.ref f_is_sequence)))
    (l_is_sequence : K.lookup f_is_sequence = some ⟨oc_is_sequence, od_is_sequence, .func (PySem.W.fnOf "is_sequence" "is_sequence" (defArgs (top 8)) (defBody (top 8)) (defScope (top 8)) .none kV_is_sequence dc_is_sequence pm_is_sequence an_is_sequence cd_is_sequence ct_is_sequence), sl_is_sequence⟩)
    (c_is_sequence : PySem.W.codeIn K cd_is_sequence "is_sequence" = true)
    (k_is_sequence : PySem.W.keepIn K (.ref f_is_sequence) = true)
    (a_is_ascending : PySem.W.nsIn K mainGlobals "is_ascending" = some (some (.ref f_is_ascending)))
    (l_is_ascending : K.lookup f_is_ascending = some ⟨oc_is_ascending, od_is_ascending, .func (PySem.W.fnOf "is_ascending" "is_ascending" (defArgs (top 9)) (defBody (top 9)) (defScope (top 9)) .none kV_is_ascending dc_is_ascending pm_is_ascending an_is_ascending cd_is_ascending ct_is_ascending), sl_is_ascending⟩)
    (c_is_ascending : PySem.W.codeIn K cd_is_ascending "is_ascending" = true)
    (k_is_ascending : PySem.W.keepIn K (.ref f_is_ascending) = true)
    (a_check_step : PySem.W.nsIn K mainGlobals "check_step" = some (some (.ref f_check_step)))
    (l_check_step : K.lookup f_check_step = some ⟨oc_check_step, od_check_step, .func (PySem.W.fnOf "check_step" "check_step" (defArgs (top 12)) (defBody (top 12)) (defScope (top 12)) .none kV_check_step dc_check_step pm_check_step an_check_step cd_check_step ct_check_step), sl_check_step⟩)
    (c_check_step : PySem.W.codeIn K cd_check_step "check_step" = true)
    (k_check_step : PySem.W.keepIn K (.ref f_check_step) = true)
    (a_last_pocket : PySem.W.nsIn K mainGlobals "last_pocket" = some (some (.ref f_last_pocket)))
    (l_last_pocket : K.lookup f_last_pocket = some ⟨oc_last_pocket, od_last_pocket, .func (PySem.W.fnOf "last_pocket" "last_pocket" (defArgs (top 13)) (defBody (top 13)) (defScope (top 13)) .none kV_last_pocket dc_last_pocket pm_last_pocket an_last_pocket cd_last_pocket ct_last_pocket), sl_last_pocket⟩)
    (c_last_pocket : PySem.W.codeIn K cd_last_pocket "last_pocket" = true)
    (k_last_pocket : PySem.W.keepIn K (.ref f_last_pocket) = true)
    (a_checked_steps : PySem.W.nsIn K mainGlobals "checked_steps" = some (some (.ref f_checked_steps)))
    (l_checked_steps : K.lookup f_checked_steps = some ⟨oc_checked_steps, od_checked_steps, .func (PySem.W.fnOf "checked_steps" "checked_steps" (defArgs (top 15)) (defBody (top 15)) (defScope (top 15)) .none kV_checked_steps dc_checked_steps pm_checked_steps an_checked_steps cd_checked_steps ct_checked_steps), sl_checked_steps⟩)
    (c_checked_steps : PySem.W.codeIn K cd_checked_steps "checked_steps" = true)
    (k_checked_steps : PySem.W.keepIn K (.ref f_checked_steps) = true)
    (a_goes_by_adds : PySem.W.nsIn K mainGlobals "goes_by_adds" = some (some (.ref f_goes_by_adds)))
    (l_goes_by_adds : K.lookup f_goes_by_adds = some ⟨oc_goes_by_adds, od_goes_by_adds, .func (PySem.W.fnOf "goes_by_adds" "goes_by_adds" (defArgs (top 16)) (defBody (top 16)) (defScope (top 16)) .none kV_goes_by_adds dc_goes_by_adds pm_goes_by_adds an_goes_by_adds cd_goes_by_adds ct_goes_by_adds), sl_goes_by_adds⟩)
    (c_goes_by_adds : PySem.W.codeIn K cd_goes_by_adds "goes_by_adds" = true)
    (k_goes_by_adds : PySem.W.keepIn K (.ref f_goes_by_adds) = true)
    (a_function_shape : PySem.W.nsIn K mainGlobals "function_shape" = some (some (.ref f_function_shape)))
    (l_function_shape : K.lookup f_function_shape = some ⟨oc_function_shape, od_function_shape, .func (PySem.W.fnOf "function_shape" "function_shape" (defArgs (top 17)) (defBody (top 17)) (defScope (top 17)) .none kV_function_shape dc_function_shape pm_function_shape an_function_shape cd_function_shape ct_function_shape), sl_function_shape⟩)
    (c_function_shape : PySem.W.codeIn K cd_function_shape "function_shape" = true)
    (k_function_shape : PySem.W.keepIn K (.ref f_function_shape) = true)
    (a_has_unlike_names : PySem.W.nsIn K mainGlobals "has_unlike_names" = some (some (.ref f_has_unlike_names)))
    (l_has_unlike_names : K.lookup f_has_unlike_names = some ⟨oc_has_unlike_names, od_has_unlike_names, .func (PySem.W.fnOf "has_unlike_names" "has_unlike_names" (defArgs (top 18)) (defBody (top 18)) (defScope (top 18)) .none kV_has_unlike_names dc_has_unlike_names pm_has_unlike_names an_has_unlike_names cd_has_unlike_names ct_has_unlike_names), sl_has_unlike_names⟩)
    (c_has_unlike_names : PySem.W.codeIn K cd_has_unlike_names "has_unlike_names" = true)
    (k_has_unlike_names : PySem.W.keepIn K (.ref f_has_unlike_names) = true)
    (a_is_place : PySem.W.nsIn K mainGlobals "is_place" = some (some (.ref f_is_place)))
    (l_is_place : K.lookup f_is_place = some ⟨oc_is_place, od_is_place, .func (PySem.W.fnOf "is_place" "is_place" (defArgs (top 21)) (defBody (top 21)) (defScope (top 21)) .none kV_is_place dc_is_place pm_is_place an_is_place cd_is_place ct_is_place), sl_is_place⟩)
    (c_is_place : PySem.W.codeIn K cd_is_place "is_place" = true)
    (k_is_place : PySem.W.keepIn K (.ref f_is_place) = true)
    (a_is_fact : PySem.W.nsIn K mainGlobals "is_fact" = some (some (.ref f_is_fact)))
    (l_is_fact : K.lookup f_is_fact = some ⟨oc_is_fact, od_is_fact, .func (PySem.W.fnOf "is_fact" "is_fact" (defArgs (top 22)) (defBody (top 22)) (defScope (top 22)) .none kV_is_fact dc_is_fact pm_is_fact an_is_fact cd_is_fact ct_is_fact), sl_is_fact⟩)
    (c_is_fact : PySem.W.codeIn K cd_is_fact "is_fact" = true)
    (k_is_fact : PySem.W.keepIn K (.ref f_is_fact) = true)
    (a_check_form : PySem.W.nsIn K mainGlobals "check_form" = some (some (.ref f_check_form)))
    (l_check_form : K.lookup f_check_form = some ⟨oc_check_form, od_check_form, .func (PySem.W.fnOf "check_form" "check_form" (defArgs (top 23)) (defBody (top 23)) (defScope (top 23)) .none kV_check_form dc_check_form pm_check_form an_check_form cd_check_form ct_check_form), sl_check_form⟩)
    (c_check_form : PySem.W.codeIn K cd_check_form "check_form" = true)
    (k_check_form : PySem.W.keepIn K (.ref f_check_form) = true)
    (a_cells_floor : PySem.W.nsIn K mainGlobals "cells_floor" = some (some (.ref f_cells_floor)))
    (l_cells_floor : K.lookup f_cells_floor = some ⟨oc_cells_floor, od_cells_floor, .func (PySem.W.fnOf "cells_floor" "cells_floor" (defArgs (top 24)) (defBody (top 24)) (defScope (top 24)) .none kV_cells_floor dc_cells_floor pm_cells_floor an_cells_floor cd_cells_floor ct_cells_floor), sl_cells_floor⟩)
    (c_cells_floor : PySem.W.codeIn K cd_cells_floor "cells_floor" = true)
    (k_cells_floor : PySem.W.keepIn K (.ref f_cells_floor) = true)
    (a_is_clash : PySem.W.nsIn K mainGlobals "is_clash" = some (some (.ref f_is_clash)))
    (l_is_clash : K.lookup f_is_clash = some ⟨oc_is_clash, od_is_clash, .func (PySem.W.fnOf "is_clash" "is_clash" (defArgs (top 25)) (defBody (top 25)) (defScope (top 25)) .none kV_is_clash dc_is_clash pm_is_clash an_is_clash cd_is_clash ct_is_clash), sl_is_clash⟩)
    (c_is_clash : PySem.W.codeIn K cd_is_clash "is_clash" = true)
    (k_is_clash : PySem.W.keepIn K (.ref f_is_clash) = true)
    (a_changed_step : PySem.W.nsIn K mainGlobals "changed_step" = some (some (.ref f_changed_step)))
    (l_changed_step : K.lookup f_changed_step = some ⟨oc_changed_step, od_changed_step, .func (PySem.W.fnOf "changed_step" "changed_step" (defArgs (top 26)) (defBody (top 26)) (defScope (top 26)) .none kV_changed_step dc_changed_step pm_changed_step an_changed_step cd_changed_step ct_changed_step), sl_changed_step⟩)
    (c_changed_step : PySem.W.codeIn K cd_changed_step "changed_step" = true)
    (k_changed_step : PySem.W.keepIn K (.ref f_changed_step) = true)
    (a_name_count : PySem.W.nsIn K mainGlobals "name_count" = some (some (.ref f_name_count)))
    (l_name_count : K.lookup f_name_count = some ⟨oc_name_count, od_name_count, .func (PySem.W.fnOf "name_count" "name_count" (defArgs (top 27)) (defBody (top 27)) (defScope (top 27)) .none kV_name_count dc_name_count pm_name_count an_name_count cd_name_count ct_name_count), sl_name_count⟩)
    (c_name_count : PySem.W.codeIn K cd_name_count "name_count" = true)
    (k_name_count : PySem.W.keepIn K (.ref f_name_count) = true)
    (a_with_plain_fact : PySem.W.nsIn K mainGlobals "with_plain_fact" = some (some (.ref f_with_plain_fact)))
    (l_with_plain_fact : K.lookup f_with_plain_fact = some ⟨oc_with_plain_fact, od_with_plain_fact, .func (PySem.W.fnOf "with_plain_fact" "with_plain_fact" (defArgs (top 28)) (defBody (top 28)) (defScope (top 28)) .none kV_with_plain_fact dc_with_plain_fact pm_with_plain_fact an_with_plain_fact cd_with_plain_fact ct_with_plain_fact), sl_with_plain_fact⟩)
    (c_with_plain_fact : PySem.W.codeIn K cd_with_plain_fact "with_plain_fact" = true)
    (k_with_plain_fact : PySem.W.keepIn K (.ref f_with_plain_fact) = true)
    (a_with_same : PySem.W.nsIn K mainGlobals "with_same" = some (some (.ref f_with_same)))
    (l_with_same : K.lookup f_with_same = some ⟨oc_with_same, od_with_same, .func (PySem.W.fnOf "with_same" "with_same" (defArgs (top 29)) (defBody (top 29)) (defScope (top 29)) .none kV_with_same dc_with_same pm_with_same an_with_same cd_with_same ct_with_same), sl_with_same⟩)
    (c_with_same : PySem.W.codeIn K cd_with_same "with_same" = true)
    (k_with_same : PySem.W.keepIn K (.ref f_with_same) = true)
    (a_with_facts : PySem.W.nsIn K mainGlobals "with_facts" = some (some (.ref f_with_facts)))
    (l_with_facts : K.lookup f_with_facts = some ⟨oc_with_facts, od_with_facts, .func (PySem.W.fnOf "with_facts" "with_facts" (defArgs (top 30)) (defBody (top 30)) (defScope (top 30)) .none kV_with_facts dc_with_facts pm_with_facts an_with_facts cd_with_facts ct_with_facts), sl_with_facts⟩)
    (c_with_facts : PySem.W.codeIn K cd_with_facts "with_facts" = true)
    (k_with_facts : PySem.W.keepIn K (.ref f_with_facts) = true)
    (a__law_hand : PySem.W.nsIn K mainGlobals "_law_hand" = some (some (.ref f__law_hand)))
    (l__law_hand : K.lookup f__law_hand = some ⟨oc__law_hand, od__law_hand, .func (PySem.W.fnOf "_law_hand" "_law_hand" (defArgs (top 32)) (defBody (top 32)) (defScope (top 32)) .none kV__law_hand dc__law_hand pm__law_hand an__law_hand cd__law_hand ct__law_hand), sl__law_hand⟩)
    (c__law_hand : PySem.W.codeIn K cd__law_hand "_law_hand" = true)
    (k__law_hand : PySem.W.keepIn K (.ref f__law_hand) = true)
    (a__law_mixed : PySem.W.nsIn K mainGlobals "_law_mixed" = some (some (.ref f__law_mixed)))
    (l__law_mixed : K.lookup f__law_mixed = some ⟨oc__law_mixed, od__law_mixed, .func (PySem.W.fnOf "_law_mixed" "_law_mixed" (defArgs (top 33)) (defBody (top 33)) (defScope (top 33)) .none kV__law_mixed dc__law_mixed pm__law_mixed an__law_mixed cd__law_mixed ct__law_mixed), sl__law_mixed⟩)
    (c__law_mixed : PySem.W.codeIn K cd__law_mixed "_law_mixed" = true)
    (k__law_mixed : PySem.W.keepIn K (.ref f__law_mixed) = true)
    (a__law_take : PySem.W.nsIn K mainGlobals "_law_take" = some (some (.ref f__law_take)))
    (l__law_take : K.lookup f__law_take = some ⟨oc__law_take, od__law_take, .func (PySem.W.fnOf "_law_take" "_law_take" (defArgs (top 34)) (defBody (top 34)) (defScope (top 34)) .none kV__law_take dc__law_take pm__law_take an__law_take cd__law_take ct__law_take), sl__law_take⟩)
    (c__law_take : PySem.W.codeIn K cd__law_take "_law_take" = true)
    (k__law_take : PySem.W.keepIn K (.ref f__law_take) = true)
    (a__law_whole : PySem.W.nsIn K mainGlobals "_law_whole" = some (some (.ref f__law_whole)))
    (l__law_whole : K.lookup f__law_whole = some ⟨oc__law_whole, od__law_whole, .func (PySem.W.fnOf "_law_whole" "_law_whole" (defArgs (top 35)) (defBody (top 35)) (defScope (top 35)) .none kV__law_whole dc__law_whole pm__law_whole an__law_whole cd__law_whole ct__law_whole), sl__law_whole⟩)
    (c__law_whole : PySem.W.codeIn K cd__law_whole "_law_whole" = true)
    (k__law_whole : PySem.W.keepIn K (.ref f__law_whole) = true)
    (a__law_sizes : PySem.W.nsIn K mainGlobals "_law_sizes" = some (some (.ref f__law_sizes)))
    (l__law_sizes : K.lookup f__law_sizes = some ⟨oc__law_sizes, od__law_sizes, .func (PySem.W.fnOf "_law_sizes" "_law_sizes" (defArgs (top 36)) (defBody (top 36)) (defScope (top 36)) .none kV__law_sizes dc__law_sizes pm__law_sizes an__law_sizes cd__law_sizes ct__law_sizes), sl__law_sizes⟩)
    (c__law_sizes : PySem.W.codeIn K cd__law_sizes "_law_sizes" = true)
    (k__law_sizes : PySem.W.keepIn K (.ref f__law_sizes) = true)
    (a__law_shape : PySem.W.nsIn K mainGlobals "_law_shape" = some (some (.ref f__law_shape)))
    (l__law_shape : K.lookup f__law_shape = some ⟨oc__law_shape, od__law_shape, .func (PySem.W.fnOf "_law_shape" "_law_shape" (defArgs (top 37)) (defBody (top 37)) (defScope (top 37)) .none kV__law_shape dc__law_shape pm__law_shape an__law_shape cd__law_shape ct__law_shape), sl__law_shape⟩)
    (c__law_shape : PySem.W.codeIn K cd__law_shape "_law_shape" = true)
    (k__law_shape : PySem.W.keepIn K (.ref f__law_shape) = true)
    (a__law_steps : PySem.W.nsIn K mainGlobals "_law_steps" = some (some (.ref f__law_steps)))
    (l__law_steps : K.lookup f__law_steps = some ⟨oc__law_steps, od__law_steps, .func (PySem.W.fnOf "_law_steps" "_law_steps" (defArgs (top 38)) (defBody (top 38)) (defScope (top 38)) .none kV__law_steps dc__law_steps pm__law_steps an__law_steps cd__law_steps ct__law_steps), sl__law_steps⟩)
    (c__law_steps : PySem.W.codeIn K cd__law_steps "_law_steps" = true)
    (k__law_steps : PySem.W.keepIn K (.ref f__law_steps) = true)
    (a__law_lot : PySem.W.nsIn K mainGlobals "_law_lot" = some (some (.ref f__law_lot)))
    (l__law_lot : K.lookup f__law_lot = some ⟨oc__law_lot, od__law_lot, .func (PySem.W.fnOf "_law_lot" "_law_lot" (defArgs (top 39)) (defBody (top 39)) (defScope (top 39)) .none kV__law_lot dc__law_lot pm__law_lot an__law_lot cd__law_lot ct__law_lot), sl__law_lot⟩)
    (c__law_lot : PySem.W.codeIn K cd__law_lot "_law_lot" = true)
    (k__law_lot : PySem.W.keepIn K (.ref f__law_lot) = true)
    (a__law_floor : PySem.W.nsIn K mainGlobals "_law_floor" = some (some (.ref f__law_floor)))
    (l__law_floor : K.lookup f__law_floor = some ⟨oc__law_floor, od__law_floor, .func (PySem.W.fnOf "_law_floor" "_law_floor" (defArgs (top 40)) (defBody (top 40)) (defScope (top 40)) .none kV__law_floor dc__law_floor pm__law_floor an__law_floor cd__law_floor ct__law_floor), sl__law_floor⟩)
    (c__law_floor : PySem.W.codeIn K cd__law_floor "_law_floor" = true)
    (k__law_floor : PySem.W.keepIn K (.ref f__law_floor) = true)
    (a__law_is_place : PySem.W.nsIn K mainGlobals "_law_is_place" = some (some (.ref f__law_is_place)))
    (l__law_is_place : K.lookup f__law_is_place = some ⟨oc__law_is_place, od__law_is_place, .func (PySem.W.fnOf "_law_is_place" "_law_is_place" (defArgs (top 41)) (defBody (top 41)) (defScope (top 41)) .none kV__law_is_place dc__law_is_place pm__law_is_place an__law_is_place cd__law_is_place ct__law_is_place), sl__law_is_place⟩)
    (c__law_is_place : PySem.W.codeIn K cd__law_is_place "_law_is_place" = true)
    (k__law_is_place : PySem.W.keepIn K (.ref f__law_is_place) = true)
    (a__law_is_fact : PySem.W.nsIn K mainGlobals "_law_is_fact" = some (some (.ref f__law_is_fact)))
    (l__law_is_fact : K.lookup f__law_is_fact = some ⟨oc__law_is_fact, od__law_is_fact, .func (PySem.W.fnOf "_law_is_fact" "_law_is_fact" (defArgs (top 42)) (defBody (top 42)) (defScope (top 42)) .none kV__law_is_fact dc__law_is_fact pm__law_is_fact an__law_is_fact cd__law_is_fact ct__law_is_fact), sl__law_is_fact⟩)
    (c__law_is_fact : PySem.W.codeIn K cd__law_is_fact "_law_is_fact" = true)
    (k__law_is_fact : PySem.W.keepIn K (.ref f__law_is_fact) = true)
    (a__law_all_facts : PySem.W.nsIn K mainGlobals "_law_all_facts" = some (some (.ref f__law_all_facts)))
    (l__law_all_facts : K.lookup f__law_all_facts = some ⟨oc__law_all_facts, od__law_all_facts, .func (PySem.W.fnOf "_law_all_facts" "_law_all_facts" (defArgs (top 43)) (defBody (top 43)) (defScope (top 43)) .none kV__law_all_facts dc__law_all_facts pm__law_all_facts an__law_all_facts cd__law_all_facts ct__law_all_facts), sl__law_all_facts⟩)
    (c__law_all_facts : PySem.W.codeIn K cd__law_all_facts "_law_all_facts" = true)
    (k__law_all_facts : PySem.W.keepIn K (.ref f__law_all_facts) = true)
    (a__law_clash : PySem.W.nsIn K mainGlobals "_law_clash" = some (some (.ref f__law_clash)))
    (l__law_clash : K.lookup f__law_clash = some ⟨oc__law_clash, od__law_clash, .func (PySem.W.fnOf "_law_clash" "_law_clash" (defArgs (top 44)) (defBody (top 44)) (defScope (top 44)) .none kV__law_clash dc__law_clash pm__law_clash an__law_clash cd__law_clash ct__law_clash), sl__law_clash⟩)
    (c__law_clash : PySem.W.codeIn K cd__law_clash "_law_clash" = true)
    (k__law_clash : PySem.W.keepIn K (.ref f__law_clash) = true)
    (a__law_taken_in : PySem.W.nsIn K mainGlobals "_law_taken_in" = some (some (.ref f__law_taken_in)))
    (l__law_taken_in : K.lookup f__law_taken_in = some ⟨oc__law_taken_in, od__law_taken_in, .func (PySem.W.fnOf "_law_taken_in" "_law_taken_in" (defArgs (top 45)) (defBody (top 45)) (defScope (top 45)) .none kV__law_taken_in dc__law_taken_in pm__law_taken_in an__law_taken_in cd__law_taken_in ct__law_taken_in), sl__law_taken_in⟩)
    (c__law_taken_in : PySem.W.codeIn K cd__law_taken_in "_law_taken_in" = true)
    (k__law_taken_in : PySem.W.keepIn K (.ref f__law_taken_in) = true)
    (a__law_bearers : PySem.W.nsIn K mainGlobals "_law_bearers" = some (some (.ref f__law_bearers)))
    (l__law_bearers : K.lookup f__law_bearers = some ⟨oc__law_bearers, od__law_bearers, .func (PySem.W.fnOf "_law_bearers" "_law_bearers" (defArgs (top 46)) (defBody (top 46)) (defScope (top 46)) .none kV__law_bearers dc__law_bearers pm__law_bearers an__law_bearers cd__law_bearers ct__law_bearers), sl__law_bearers⟩)
    (c__law_bearers : PySem.W.codeIn K cd__law_bearers "_law_bearers" = true)
    (k__law_bearers : PySem.W.keepIn K (.ref f__law_bearers) = true)
    (a__law_with : PySem.W.nsIn K mainGlobals "_law_with" = some (some (.ref f__law_with)))
    (l__law_with : K.lookup f__law_with = some ⟨oc__law_with, od__law_with, .func (PySem.W.fnOf "_law_with" "_law_with" (defArgs (top 47)) (defBody (top 47)) (defScope (top 47)) .none kV__law_with dc__law_with pm__law_with an__law_with cd__law_with ct__law_with), sl__law_with⟩)
    (c__law_with : PySem.W.codeIn K cd__law_with "_law_with" = true)
    (k__law_with : PySem.W.keepIn K (.ref f__law_with) = true)
    (a__law_spoiled_fact : PySem.W.nsIn K mainGlobals "_law_spoiled_fact" = some (some (.ref f__law_spoiled_fact)))
    (l__law_spoiled_fact : K.lookup f__law_spoiled_fact = some ⟨oc__law_spoiled_fact, od__law_spoiled_fact, .func (PySem.W.fnOf "_law_spoiled_fact" "_law_spoiled_fact" (defArgs (top 48)) (defBody (top 48)) (defScope (top 48)) .none kV__law_spoiled_fact dc__law_spoiled_fact pm__law_spoiled_fact an__law_spoiled_fact cd__law_spoiled_fact ct__law_spoiled_fact), sl__law_spoiled_fact⟩)
    (c__law_spoiled_fact : PySem.W.codeIn K cd__law_spoiled_fact "_law_spoiled_fact" = true)
    (k__law_spoiled_fact : PySem.W.keepIn K (.ref f__law_spoiled_fact) = true)
    (a__law_facts : PySem.W.nsIn K mainGlobals "_law_facts" = some (some (.ref f__law_facts)))
    (l__law_facts : K.lookup f__law_facts = some ⟨oc__law_facts, od__law_facts, .func (PySem.W.fnOf "_law_facts" "_law_facts" (defArgs (top 49)) (defBody (top 49)) (defScope (top 49)) .none kV__law_facts dc__law_facts pm__law_facts an__law_facts cd__law_facts ct__law_facts), sl__law_facts⟩)
    (c__law_facts : PySem.W.codeIn K cd__law_facts "_law_facts" = true)
    (k__law_facts : PySem.W.keepIn K (.ref f__law_facts) = true)
    (a__law_with_told : PySem.W.nsIn K mainGlobals "_law_with_told" = some (some (.ref f__law_with_told)))
    (l__law_with_told : K.lookup f__law_with_told = some ⟨oc__law_with_told, od__law_with_told, .func (PySem.W.fnOf "_law_with_told" "_law_with_told" (defArgs (top 50)) (defBody (top 50)) (defScope (top 50)) .none kV__law_with_told dc__law_with_told pm__law_with_told an__law_with_told cd__law_with_told ct__law_with_told), sl__law_with_told⟩)
    (c__law_with_told : PySem.W.codeIn K cd__law_with_told "_law_with_told" = true)
    (k__law_with_told : PySem.W.keepIn K (.ref f__law_with_told) = true)
    (a__law_unlike : PySem.W.nsIn K mainGlobals "_law_unlike" = some (some (.ref f__law_unlike)))
    (l__law_unlike : K.lookup f__law_unlike = some ⟨oc__law_unlike, od__law_unlike, .func (PySem.W.fnOf "_law_unlike" "_law_unlike" (defArgs (top 51)) (defBody (top 51)) (defScope (top 51)) .none kV__law_unlike dc__law_unlike pm__law_unlike an__law_unlike cd__law_unlike ct__law_unlike), sl__law_unlike⟩)
    (c__law_unlike : PySem.W.codeIn K cd__law_unlike "_law_unlike" = true)
    (k__law_unlike : PySem.W.keepIn K (.ref f__law_unlike) = true)
    (a__law_good_row : PySem.W.nsIn K mainGlobals "_law_good_row" = some (some (.ref f__law_good_row)))
    (l__law_good_row : K.lookup f__law_good_row = some ⟨oc__law_good_row, od__law_good_row, .func (PySem.W.fnOf "_law_good_row" "_law_good_row" (defArgs (top 52)) (defBody (top 52)) (defScope (top 52)) .none kV__law_good_row dc__law_good_row pm__law_good_row an__law_good_row cd__law_good_row ct__law_good_row), sl__law_good_row⟩)
    (c__law_good_row : PySem.W.codeIn K cd__law_good_row "_law_good_row" = true)
    (k__law_good_row : PySem.W.keepIn K (.ref f__law_good_row) = true)
    (a__law_one_lot : PySem.W.nsIn K mainGlobals "_law_one_lot" = some (some (.ref f__law_one_lot)))
    (l__law_one_lot : K.lookup f__law_one_lot = some ⟨oc__law_one_lot, od__law_one_lot, .func (PySem.W.fnOf "_law_one_lot" "_law_one_lot" (defArgs (top 53)) (defBody (top 53)) (defScope (top 53)) .none kV__law_one_lot dc__law_one_lot pm__law_one_lot an__law_one_lot cd__law_one_lot ct__law_one_lot), sl__law_one_lot⟩)
    (c__law_one_lot : PySem.W.codeIn K cd__law_one_lot "_law_one_lot" = true)
    (k__law_one_lot : PySem.W.keepIn K (.ref f__law_one_lot) = true)
    (a_law : PySem.W.nsIn K mainGlobals "law" = some (some (.ref f_law)))
    (l_law : K.lookup f_law = some ⟨oc_law, od_law, .func (PySem.W.fnOf "law" "law" (defArgs (top 54)) (defBody (top 54)) (defScope (top 54)) .none kV_law dc_law pm_law an_law cd_law ct_law), sl_law⟩)
    (c_law : PySem.W.codeIn K cd_law "law" = true)
    (k_law : PySem.W.keepIn K (.ref f_law) = true)
    (a_is_whole : PySem.W.nsIn K mainGlobals "is_whole" = some (some (.ref f_is_whole)))
    (l_is_whole : K.lookup f_is_whole = some ⟨oc_is_whole, od_is_whole, .func (PySem.W.fnOf "is_whole" "is_whole" (defArgs (top 7)) (defBody (top 7)) (defScope (top 7)) (.ref T_w) kV_is_whole dc_is_whole pm_is_whole an_is_whole cd_is_whole ct_is_whole), sl_is_whole⟩)
    (c_is_whole : PySem.W.codeIn K cd_is_whole "is_whole" = true)
    (k_is_whole : PySem.W.keepIn K (.ref f_is_whole) = true)
    (lT : K.lookup T_w = some ⟨ocT, odT, .seq #[Value.none, Value.none] nT, slT⟩)
    (aC : PySem.W.nsIn K mainGlobals "Lot" = some (some (.ref C)))
    (aG : PySem.W.nsIn K mainGlobals "GuardError" = some (some (.ref CG)))
    (aF : PySem.W.nsIn K mainGlobals "BadFact" = some (some (.ref CF)))
    (a_I : PySem.W.findIn K (.ref C) "__init__" = some (some (.ref f_I)))
    (i_I : PySem.W.isFn K (.ref f_I) = true)
    (l_I : K.lookup f_I = some ⟨oc_I, od_I, .func (PySem.W.fnOf "__init__" "Lot.__init__" (defArgs (inClass (top 19) 0)) (defBody (inClass (top 19) 0)) (defScope (inClass (top 19) 0)) .none kV_I dc_I pm_I an_I cd_I ct_I), sl_I⟩)
    (c_I : PySem.W.codeIn K cd_I "Lot.__init__" = true)
    (k_I : PySem.W.keepIn K (.ref f_I) = true)
    (pg : PySem.W.plainGet K C Str.empty = true)
    (hd : PySem.W.hasDictIn K C = true)
    (po : PySem.W.plainOver K C = true)
    (sa : PySem.W.findIn K (.ref C) "__setattr__" = some (some (.builtin "object.__setattr__")))
    (mk : PySem.W.makesIn K C = true)
    (kc : PySem.W.keepIn K (.ref C) = true)
    (nC : PySem.W.findIn K (.ref C) "cells" = some none)
    (nP : PySem.W.findIn K (.ref C) "programs" = some none)
    (hca : PySem.W.findIn K (.ref C) "__class__" = some (some (.builtin "object.__class__")))
    (hcn : PySem.W.specialIn K (.builtin "object.__class__") "__get__" = some (some (.builtin "getset_descriptor.__get__")))
    (hct : PySem.W.takesIn K (.builtin "object.__class__") = some true)
    (hcm : PySem.W.mroIn K C (.type "object") = some true)
    (aK : PySem.W.nsIn K mainGlobals "KINDS" = some (some (.ref kk)))
    (lK : K.lookup kk = some ⟨.type "tuple", odk, .seq #[.str "any" t1, .str "kept" t2, .str "adds" t3] nk, slk⟩)
    (z_isinstance : PySem.W.nsIn K mainGlobals "isinstance" = some none)
    (z_int : PySem.W.nsIn K mainGlobals "int" = some none)
    (z_bool : PySem.W.nsIn K mainGlobals "bool" = some none)
    (z_str : PySem.W.nsIn K mainGlobals "str" = some none)
    (z_list : PySem.W.nsIn K mainGlobals "list" = some none)
    (z_tuple : PySem.W.nsIn K mainGlobals "tuple" = some none)
    (z_len : PySem.W.nsIn K mainGlobals "len" = some none)
    (z_range : PySem.W.nsIn K mainGlobals "range" = some none)
    (z_sum : PySem.W.nsIn K mainGlobals "sum" = some none)
    (z_abs : PySem.W.nsIn K mainGlobals "abs" = some none)
    (z_min : PySem.W.nsIn K mainGlobals "min" = some none)
    (z_max : PySem.W.nsIn K mainGlobals "max" = some none)
    (z_sorted : PySem.W.nsIn K mainGlobals "sorted" = some none)
    (rG : PySem.W.readsIn K CG (.type "type") = true)
    (gG : PySem.W.specialIn K (.ref CG) "__getattribute__" = some (some (.builtin "type.__getattribute__")))
    (iG : PySem.W.findCls K (.ref CG) (.type "type") "__init__" = some (.val (.builtin "ValueError.__init__")))
    (xF : K.lookup CF = some (PySem.excClassObj nm qn CF Nn bs [.ref CG, .type "ValueError", .type "Exception", .type "BaseException", .type "object"] true sn sub ab col dd m0 m1 m2 m3 m5 "ValueError.__new__"))
    (saF : PySem.W.findIn K (.ref CF) "__setattr__" = some (some (.builtin "object.__setattr__")))
    (exF : PySem.W.subIn K (.ref CF) (.type "BaseException") = some true)
    (tyF : PySem.W.typeIn K (.ref CF) = some (.type "type"))
    (kF : PySem.W.keepIn K (.ref CF) = true)
    (a_B : PySem.W.findIn K (.ref CF) "__init__" = some (some (.ref f_B)))
    (t_B : PySem.W.typeIn K (.ref f_B) = some (.type "function"))
    (l_B : K.lookup f_B = some ⟨oc_B, od_B, .func (PySem.W.fnOf "__init__" "BadFact.__init__" (defArgs (inClass (top 5) 0)) (defBody (inClass (top 5) 0)) (defScope (inClass (top 5) 0)) .none kV_B dc_B pm_B an_B cd_B ct_B), sl_B⟩)
    (c_B : PySem.W.codeIn K cd_B "BadFact.__init__" = true)
    (k_B : PySem.W.keepIn K (.ref f_B) = true)
    (noI : PySem.W.findIn K (.ref CF) "index" = some none)
    (sFF : PySem.W.subIn K (.ref CF) (.ref CF) = some true)
    (iCG : PySem.W.isClsIn K CG = true)
    (tyG : PySem.W.typeIn K (.ref CG) = some (.type "type"))
    (sFG : PySem.W.subIn K (.ref CF) (.ref CG) = some true)
    (gaF : PySem.W.findIn K (.ref CF) "__getattribute__" = some (some (.builtin "BaseException.__getattribute__")))
    (ggF : PySem.W.findIn K (.ref CF) "__getattr__" = some none)
    (hdF : PySem.W.hasDictIn K CF = true)
    (caF : PySem.W.findIn K (.ref CF) "__class__" = some (some (.builtin "object.__class__")))
    (hmF : PySem.W.mroIn K CF (.type "object") = some true)
    : ∃ fd : FuncData, (∀ (s : Shared) (v : Value), BindsTo s fd ⟨[v], []⟩ [("_law_script", v)]) ∧ ∀ base : Heap, K.In base → base.Ns mainGlobals mg → FnOk l.prog w K mg base CX0 10 fa fd ["_law_script"] (spLaw K) := by
  have e := hfa.symm.trans (PySem.W.mg_of X G a_law)
  cases e
  have F_is_sequence := fun_mk (st := top 8) l_is_sequence c_is_sequence k_is_sequence
  have D_is_sequence : Df K mg "is_sequence" (top 8) ["thing"] := ⟨_, _, F_is_sequence, PySem.W.mg_of X G a_is_sequence, F_is_sequence.binds (ps := ["thing"]) fun _ _ _ _ _ _ us hl => match us, hl with | [_], _ => rfl⟩
  have F_is_ascending := fun_mk (st := top 9) l_is_ascending c_is_ascending k_is_ascending
  have D_is_ascending : Df K mg "is_ascending" (top 9) ["thing", "high"] := ⟨_, _, F_is_ascending, PySem.W.mg_of X G a_is_ascending, F_is_ascending.binds (ps := ["thing", "high"]) fun _ _ _ _ _ _ us hl => match us, hl with | [_, _], _ => rfl⟩
  have F_check_step := fun_mk (st := top 12) l_check_step c_check_step k_check_step
  have D_check_step : Df K mg "check_step" (top 12) ["step", "cells", "place"] := ⟨_, _, F_check_step, PySem.W.mg_of X G a_check_step, F_check_step.binds (ps := ["step", "cells", "place"]) fun _ _ _ _ _ _ us hl => match us, hl with | [_, _, _], _ => rfl⟩
  have F_last_pocket := fun_mk (st := top 13) l_last_pocket c_last_pocket k_last_pocket
  have D_last_pocket : Df K mg "last_pocket" (top 13) ["kind", "place"] := ⟨_, _, F_last_pocket, PySem.W.mg_of X G a_last_pocket, F_last_pocket.binds (ps := ["kind", "place"]) fun _ _ _ _ _ _ us hl => match us, hl with | [_, _], _ => rfl⟩
  have F_checked_steps := fun_mk (st := top 15) l_checked_steps c_checked_steps k_checked_steps
  have D_checked_steps : Df K mg "checked_steps" (top 15) ["cells", "program"] := ⟨_, _, F_checked_steps, PySem.W.mg_of X G a_checked_steps, F_checked_steps.binds (ps := ["cells", "program"]) fun _ _ _ _ _ _ us hl => match us, hl with | [_, _], _ => rfl⟩
  have F_goes_by_adds := fun_mk (st := top 16) l_goes_by_adds c_goes_by_adds k_goes_by_adds
  have D_goes_by_adds : Df K mg "goes_by_adds" (top 16) ["program"] := ⟨_, _, F_goes_by_adds, PySem.W.mg_of X G a_goes_by_adds, F_goes_by_adds.binds (ps := ["program"]) fun _ _ _ _ _ _ us hl => match us, hl with | [_], _ => rfl⟩
  have F_function_shape := fun_mk (st := top 17) l_function_shape c_function_shape k_function_shape
  have D_function_shape : Df K mg "function_shape" (top 17) ["step"] := ⟨_, _, F_function_shape, PySem.W.mg_of X G a_function_shape, F_function_shape.binds (ps := ["step"]) fun _ _ _ _ _ _ us hl => match us, hl with | [_], _ => rfl⟩
  have F_has_unlike_names := fun_mk (st := top 18) l_has_unlike_names c_has_unlike_names k_has_unlike_names
  have D_has_unlike_names : Df K mg "has_unlike_names" (top 18) ["programs"] := ⟨_, _, F_has_unlike_names, PySem.W.mg_of X G a_has_unlike_names, F_has_unlike_names.binds (ps := ["programs"]) fun _ _ _ _ _ _ us hl => match us, hl with | [_], _ => rfl⟩
  have F_is_place := fun_mk (st := top 21) l_is_place c_is_place k_is_place
  have D_is_place : Df K mg "is_place" (top 21) ["lot", "program", "place"] := ⟨_, _, F_is_place, PySem.W.mg_of X G a_is_place, F_is_place.binds (ps := ["lot", "program", "place"]) fun _ _ _ _ _ _ us hl => match us, hl with | [_, _, _], _ => rfl⟩
  have F_is_fact := fun_mk (st := top 22) l_is_fact c_is_fact k_is_fact
  have D_is_fact : Df K mg "is_fact" (top 22) ["lot", "fact"] := ⟨_, _, F_is_fact, PySem.W.mg_of X G a_is_fact, F_is_fact.binds (ps := ["lot", "fact"]) fun _ _ _ _ _ _ us hl => match us, hl with | [_, _], _ => rfl⟩
  have F_check_form := fun_mk (st := top 23) l_check_form c_check_form k_check_form
  have D_check_form : Df K mg "check_form" (top 23) ["lot", "facts"] := ⟨_, _, F_check_form, PySem.W.mg_of X G a_check_form, F_check_form.binds (ps := ["lot", "facts"]) fun _ _ _ _ _ _ us hl => match us, hl with | [_, _], _ => rfl⟩
  have F_cells_floor := fun_mk (st := top 24) l_cells_floor c_cells_floor k_cells_floor
  have D_cells_floor : Df K mg "cells_floor" (top 24) ["lot"] := ⟨_, _, F_cells_floor, PySem.W.mg_of X G a_cells_floor, F_cells_floor.binds (ps := ["lot"]) fun _ _ _ _ _ _ us hl => match us, hl with | [_], _ => rfl⟩
  have F_is_clash := fun_mk (st := top 25) l_is_clash c_is_clash k_is_clash
  have D_is_clash : Df K mg "is_clash" (top 25) ["step", "place", "fact"] := ⟨_, _, F_is_clash, PySem.W.mg_of X G a_is_clash, F_is_clash.binds (ps := ["step", "place", "fact"]) fun _ _ _ _ _ _ us hl => match us, hl with | [_, _, _], _ => rfl⟩
  have F_changed_step := fun_mk (st := top 26) l_changed_step c_changed_step k_changed_step
  have D_changed_step : Df K mg "changed_step" (top 26) ["step", "place", "fact"] := ⟨_, _, F_changed_step, PySem.W.mg_of X G a_changed_step, F_changed_step.binds (ps := ["step", "place", "fact"]) fun _ _ _ _ _ _ us hl => match us, hl with | [_, _, _], _ => rfl⟩
  have F_name_count := fun_mk (st := top 27) l_name_count c_name_count k_name_count
  have D_name_count : Df K mg "name_count" (top 27) ["programs", "name"] := ⟨_, _, F_name_count, PySem.W.mg_of X G a_name_count, F_name_count.binds (ps := ["programs", "name"]) fun _ _ _ _ _ _ us hl => match us, hl with | [_, _], _ => rfl⟩
  have F_with_plain_fact := fun_mk (st := top 28) l_with_plain_fact c_with_plain_fact k_with_plain_fact
  have D_with_plain_fact : Df K mg "with_plain_fact" (top 28) ["programs", "fact"] := ⟨_, _, F_with_plain_fact, PySem.W.mg_of X G a_with_plain_fact, F_with_plain_fact.binds (ps := ["programs", "fact"]) fun _ _ _ _ _ _ us hl => match us, hl with | [_, _], _ => rfl⟩
  have F_with_same := fun_mk (st := top 29) l_with_same c_with_same k_with_same
  have D_with_same : Df K mg "with_same" (top 29) ["programs", "fact"] := ⟨_, _, F_with_same, PySem.W.mg_of X G a_with_same, F_with_same.binds (ps := ["programs", "fact"]) fun _ _ _ _ _ _ us hl => match us, hl with | [_, _], _ => rfl⟩
  have F_with_facts := fun_mk (st := top 30) l_with_facts c_with_facts k_with_facts
  have D_with_facts : Df K mg "with_facts" (top 30) ["lot", "facts"] := ⟨_, _, F_with_facts, PySem.W.mg_of X G a_with_facts, F_with_facts.binds (ps := ["lot", "facts"]) fun _ _ _ _ _ _ us hl => match us, hl with | [_, _], _ => rfl⟩
  have F__law_hand := fun_mk (st := top 32) l__law_hand c__law_hand k__law_hand
  have D__law_hand : Df K mg "_law_hand" (top 32) ["_law_script"] := ⟨_, _, F__law_hand, PySem.W.mg_of X G a__law_hand, F__law_hand.binds (ps := ["_law_script"]) fun _ _ _ _ _ _ us hl => match us, hl with | [_], _ => rfl⟩
  have F__law_mixed := fun_mk (st := top 33) l__law_mixed c__law_mixed k__law_mixed
  have D__law_mixed : Df K mg "_law_mixed" (top 33) ["_law_number", "_law_turn"] := ⟨_, _, F__law_mixed, PySem.W.mg_of X G a__law_mixed, F__law_mixed.binds (ps := ["_law_number", "_law_turn"]) fun _ _ _ _ _ _ us hl => match us, hl with | [_, _], _ => rfl⟩
  have F__law_take := fun_mk (st := top 34) l__law_take c__law_take k__law_take
  have D__law_take : Df K mg "_law_take" (top 34) ["_law_hand_here", "_law_many"] := ⟨_, _, F__law_take, PySem.W.mg_of X G a__law_take, F__law_take.binds (ps := ["_law_hand_here", "_law_many"]) fun _ _ _ _ _ _ us hl => match us, hl with | [_, _], _ => rfl⟩
  have F__law_whole := fun_mk (st := top 35) l__law_whole c__law_whole k__law_whole
  have D__law_whole : Df K mg "_law_whole" (top 35) ["_law_thing"] := ⟨_, _, F__law_whole, PySem.W.mg_of X G a__law_whole, F__law_whole.binds (ps := ["_law_thing"]) fun _ _ _ _ _ _ us hl => match us, hl with | [_], _ => rfl⟩
  have F__law_sizes := fun_mk (st := top 36) l__law_sizes c__law_sizes k__law_sizes
  have D__law_sizes : Df K mg "_law_sizes" (top 36) ["_law_hand_here"] := ⟨_, _, F__law_sizes, PySem.W.mg_of X G a__law_sizes, F__law_sizes.binds (ps := ["_law_hand_here"]) fun _ _ _ _ _ _ us hl => match us, hl with | [_], _ => rfl⟩
  have F__law_shape := fun_mk (st := top 37) l__law_shape c__law_shape k__law_shape
  have D__law_shape : Df K mg "_law_shape" (top 37) ["_law_step"] := ⟨_, _, F__law_shape, PySem.W.mg_of X G a__law_shape, F__law_shape.binds (ps := ["_law_step"]) fun _ _ _ _ _ _ us hl => match us, hl with | [_], _ => rfl⟩
  have F__law_steps := fun_mk (st := top 38) l__law_steps c__law_steps k__law_steps
  have D__law_steps : Df K mg "_law_steps" (top 38) ["_law_hand_here", "_law_cells", "_law_size", "_law_told"] := ⟨_, _, F__law_steps, PySem.W.mg_of X G a__law_steps, F__law_steps.binds (ps := ["_law_hand_here", "_law_cells", "_law_size", "_law_told"]) fun _ _ _ _ _ _ us hl => match us, hl with | [_, _, _, _], _ => rfl⟩
  have F__law_lot := fun_mk (st := top 39) l__law_lot c__law_lot k__law_lot
  have D__law_lot : Df K mg "_law_lot" (top 39) ["_law_hand_here", "_law_cells", "_law_sizes_here"] := ⟨_, _, F__law_lot, PySem.W.mg_of X G a__law_lot, F__law_lot.binds (ps := ["_law_hand_here", "_law_cells", "_law_sizes_here"]) fun _ _ _ _ _ _ us hl => match us, hl with | [_, _, _], _ => rfl⟩
  have F__law_floor := fun_mk (st := top 40) l__law_floor c__law_floor k__law_floor
  have D__law_floor : Df K mg "_law_floor" (top 40) ["_law_lot_here"] := ⟨_, _, F__law_floor, PySem.W.mg_of X G a__law_floor, F__law_floor.binds (ps := ["_law_lot_here"]) fun _ _ _ _ _ _ us hl => match us, hl with | [_], _ => rfl⟩
  have F__law_is_place := fun_mk (st := top 41) l__law_is_place c__law_is_place k__law_is_place
  have D__law_is_place : Df K mg "_law_is_place" (top 41) ["_law_lot_here", "_law_p", "_law_place"] := ⟨_, _, F__law_is_place, PySem.W.mg_of X G a__law_is_place, F__law_is_place.binds (ps := ["_law_lot_here", "_law_p", "_law_place"]) fun _ _ _ _ _ _ us hl => match us, hl with | [_, _, _], _ => rfl⟩
  have F__law_is_fact := fun_mk (st := top 42) l__law_is_fact c__law_is_fact k__law_is_fact
  have D__law_is_fact : Df K mg "_law_is_fact" (top 42) ["_law_lot_here", "_law_fact"] := ⟨_, _, F__law_is_fact, PySem.W.mg_of X G a__law_is_fact, F__law_is_fact.binds (ps := ["_law_lot_here", "_law_fact"]) fun _ _ _ _ _ _ us hl => match us, hl with | [_, _], _ => rfl⟩
  have F__law_all_facts := fun_mk (st := top 43) l__law_all_facts c__law_all_facts k__law_all_facts
  have D__law_all_facts : Df K mg "_law_all_facts" (top 43) ["_law_lot_here"] := ⟨_, _, F__law_all_facts, PySem.W.mg_of X G a__law_all_facts, F__law_all_facts.binds (ps := ["_law_lot_here"]) fun _ _ _ _ _ _ us hl => match us, hl with | [_], _ => rfl⟩
  have F__law_clash := fun_mk (st := top 44) l__law_clash c__law_clash k__law_clash
  have D__law_clash : Df K mg "_law_clash" (top 44) ["_law_step", "_law_place", "_law_fact"] := ⟨_, _, F__law_clash, PySem.W.mg_of X G a__law_clash, F__law_clash.binds (ps := ["_law_step", "_law_place", "_law_fact"]) fun _ _ _ _ _ _ us hl => match us, hl with | [_, _, _], _ => rfl⟩
  have F__law_taken_in := fun_mk (st := top 45) l__law_taken_in c__law_taken_in k__law_taken_in
  have D__law_taken_in : Df K mg "_law_taken_in" (top 45) ["_law_steps_here", "_law_fact"] := ⟨_, _, F__law_taken_in, PySem.W.mg_of X G a__law_taken_in, F__law_taken_in.binds (ps := ["_law_steps_here", "_law_fact"]) fun _ _ _ _ _ _ us hl => match us, hl with | [_, _], _ => rfl⟩
  have F__law_bearers := fun_mk (st := top 46) l__law_bearers c__law_bearers k__law_bearers
  have D__law_bearers : Df K mg "_law_bearers" (top 46) ["_law_programs", "_law_name"] := ⟨_, _, F__law_bearers, PySem.W.mg_of X G a__law_bearers, F__law_bearers.binds (ps := ["_law_programs", "_law_name"]) fun _ _ _ _ _ _ us hl => match us, hl with | [_, _], _ => rfl⟩
  have F__law_with := fun_mk (st := top 47) l__law_with c__law_with k__law_with
  have D__law_with : Df K mg "_law_with" (top 47) ["_law_lot_here", "_law_facts_here"] := ⟨_, _, F__law_with, PySem.W.mg_of X G a__law_with, F__law_with.binds (ps := ["_law_lot_here", "_law_facts_here"]) fun _ _ _ _ _ _ us hl => match us, hl with | [_, _], _ => rfl⟩
  have F__law_spoiled_fact := fun_mk (st := top 48) l__law_spoiled_fact c__law_spoiled_fact k__law_spoiled_fact
  have D__law_spoiled_fact : Df K mg "_law_spoiled_fact" (top 48) ["_law_hand_here", "_law_lot_here", "_law_fact"] := ⟨_, _, F__law_spoiled_fact, PySem.W.mg_of X G a__law_spoiled_fact, F__law_spoiled_fact.binds (ps := ["_law_hand_here", "_law_lot_here", "_law_fact"]) fun _ _ _ _ _ _ us hl => match us, hl with | [_, _, _], _ => rfl⟩
  have F__law_facts := fun_mk (st := top 49) l__law_facts c__law_facts k__law_facts
  have D__law_facts : Df K mg "_law_facts" (top 49) ["_law_hand_here", "_law_pool"] := ⟨_, _, F__law_facts, PySem.W.mg_of X G a__law_facts, F__law_facts.binds (ps := ["_law_hand_here", "_law_pool"]) fun _ _ _ _ _ _ us hl => match us, hl with | [_, _], _ => rfl⟩
  have F__law_with_told := fun_mk (st := top 50) l__law_with_told c__law_with_told k__law_with_told
  have D__law_with_told : Df K mg "_law_with_told" (top 50) ["_law_lot_here", "_law_facts_here"] := ⟨_, _, F__law_with_told, PySem.W.mg_of X G a__law_with_told, F__law_with_told.binds (ps := ["_law_lot_here", "_law_facts_here"]) fun _ _ _ _ _ _ us hl => match us, hl with | [_, _], _ => rfl⟩
  have F__law_unlike := fun_mk (st := top 51) l__law_unlike c__law_unlike k__law_unlike
  have D__law_unlike : Df K mg "_law_unlike" (top 51) ["_law_hand_here", "_law_plain"] := ⟨_, _, F__law_unlike, PySem.W.mg_of X G a__law_unlike, F__law_unlike.binds (ps := ["_law_hand_here", "_law_plain"]) fun _ _ _ _ _ _ us hl => match us, hl with | [_, _], _ => rfl⟩
  have F__law_good_row := fun_mk (st := top 52) l__law_good_row c__law_good_row k__law_good_row
  have D__law_good_row : Df K mg "_law_good_row" (top 52) ["_law_hand_here", "_law_plain", "_law_pool"] := ⟨_, _, F__law_good_row, PySem.W.mg_of X G a__law_good_row, F__law_good_row.binds (ps := ["_law_hand_here", "_law_plain", "_law_pool"]) fun _ _ _ _ _ _ us hl => match us, hl with | [_, _, _], _ => rfl⟩
  have F__law_one_lot := fun_mk (st := top 53) l__law_one_lot c__law_one_lot k__law_one_lot
  have D__law_one_lot : Df K mg "_law_one_lot" (top 53) ["_law_hand_here", "_law_plain"] := ⟨_, _, F__law_one_lot, PySem.W.mg_of X G a__law_one_lot, F__law_one_lot.binds (ps := ["_law_hand_here", "_law_plain"]) fun _ _ _ _ _ _ us hl => match us, hl with | [_, _], _ => rfl⟩
  have F_law := fun_mk (st := top 54) l_law c_law k_law
  have F_is_whole : FunD K "is_whole" "is_whole" (defArgs (top 7)) (defBody (top 7)) (defScope (top 7)) [.non, .non] [] f_is_whole _ := ⟨⟨_, _, _, _, _, _, _, _, _, _, rfl, l_is_whole, c_is_whole, .inr ⟨by simp, T_w, _, [Value.none, Value.none], nT, rfl, lT, rfl, .cons rfl (.cons rfl .nil)⟩, .inl rfl⟩, k_is_whole⟩
  have D_is_whole : DfW K mg := by
    obtain ⟨ds, hd, hb⟩ := F_is_whole.binds1 (ps := ["thing", "low", "high"]) 3 2 (by simp) rfl fun T kV doc pm an cdv ct us its hl hi => match us, hl, its, hi with | [_, _, _], _, [_, _], _ => ⟨_, rfl, rfl⟩
    cases hd
    exact ⟨_, _, F_is_whole, PySem.W.mg_of X G a_is_whole, hb⟩
  have T : Txt K mg C := { cl := ⟨pg, hd, po, sa⟩, nC := nC, nP := nP, g_Lot := PySem.W.mg_of X G aC, ha := hca, hn := hcn, htk := hct, hm := hcm, kinds := ⟨kk, PySem.W.mg_of X G aK, fun H => .inr ⟨_, _, _, lK, rfl, rfl, by show 3 ≤ sizeLine; decide, .cons ⟨_, rfl⟩ (.cons ⟨_, rfl⟩ (.cons ⟨_, rfl⟩ .nil))⟩⟩, isinstance_ := PySem.W.mg_none_of X G z_isinstance, int_ := PySem.W.mg_none_of X G z_int, bool_ := PySem.W.mg_none_of X G z_bool, str_ := PySem.W.mg_none_of X G z_str, list_ := PySem.W.mg_none_of X G z_list, tuple_ := PySem.W.mg_none_of X G z_tuple, len_ := PySem.W.mg_none_of X G z_len, range_ := PySem.W.mg_none_of X G z_range, sum_ := PySem.W.mg_none_of X G z_sum, abs_ := PySem.W.mg_none_of X G z_abs, min_ := PySem.W.mg_none_of X G z_min, max_ := PySem.W.mg_none_of X G z_max, sorted_ := PySem.W.mg_none_of X G z_sorted }
  have ET : ETxt K mg CG CF f_B := { g_GE := PySem.W.mg_of X G aG, g_BF := PySem.W.mg_of X G aF, rdG := ⟨rG, gG⟩, inG := iG, oex := ⟨⟨nm, qn, Nn, bs, _, sn, sub, ab, col, dd, m0, m1, m2, m3, m5, xF, rfl⟩, saF, exF, tyF, kF⟩, iC := a_B, tI := t_B, noI := noI, te := PySem.W.exm_ref exF hdF tyF sFF, kone := kone_of iCG tyG sFG, exc := ⟨gaF, ggF, exF, hdF, caF, hcn, hct, hmF⟩, xf := ⟨gaF, ggF, exF, hdF⟩ }
  have FI := fun_mk (st := inClass (top 19) 0) l_I c_I k_I
  have bI := FI.binds (ps := ["self", "cells", "programs"]) fun _ _ _ _ _ _ us hl => match us, hl with | [_, _, _], _ => rfl
  have FB := fun_mk (st := inClass (top 5) 0) l_B c_B k_B
  have bB := FB.binds (ps := ["self", "index"]) fun _ _ _ _ _ _ us hl => match us, hl with | [_, _], _ => rfl
  refine ⟨PySem.W.fnOf "law" "law" (defArgs (top 54)) (defBody (top 54)) (defScope (top 54)) .none kV_law dc_law pm_law an_law cd_law ct_law, fun s v => .of_eq rfl, fun base _ _ => ?_⟩
  have G_is_sequence := ok_is_sequence (P := l.prog) (w := w) (base := base) T D_is_sequence 
  have G_is_whole := ok_is_whole (P := l.prog) (w := w) (base := base) T D_is_whole 
  have G_is_ascending := ok_is_ascending (P := l.prog) (w := w) (base := base) T D_is_ascending G_is_sequence G_is_whole
  have G_last_pocket := ok_last_pocket (P := l.prog) (w := w) (base := base) T D_last_pocket 
  have G_function_shape := ok_function_shape (P := l.prog) (w := w) (base := base) T D_function_shape 
  have G_check_step := ok_check_step (P := l.prog) (w := w) (base := base) T D_check_step G_is_sequence G_is_whole G_is_ascending G_last_pocket
  have G_goes_by_adds := ok_goes_by_adds (P := l.prog) (w := w) (base := base) T D_goes_by_adds 
  have G_has_unlike_names := ok_has_unlike_names (P := l.prog) (w := w) (base := base) T D_has_unlike_names G_function_shape
  have G_checked_steps := ok_checked_steps (P := l.prog) (w := w) (base := base) T D_checked_steps G_check_step
  have G_Lot : LotI l.prog w K mg base C 5 := ⟨f_I, _, ⟨mk, a_I, i_I, kc⟩, ok_Lot T FI G_is_sequence G_is_whole G_checked_steps G_goes_by_adds G_has_unlike_names, bI⟩
  have G_BF : BfI l.prog w K mg base CF f_B := ok_BF ET FB bB
  have G_is_place := ok_is_place (P := l.prog) (w := w) (base := base) T D_is_place G_is_whole
  have G_is_fact := ok_is_fact (P := l.prog) (w := w) (base := base) T D_is_fact G_is_sequence G_is_whole G_is_place
  have G_cells_floor := ok_cells_floor (P := l.prog) (w := w) (base := base) T D_cells_floor G_Lot
  have G_is_clash := ok_is_clash (P := l.prog) (w := w) (base := base) T D_is_clash 
  have G_changed_step := ok_changed_step (P := l.prog) (w := w) (base := base) T D_changed_step 
  have G_name_count := ok_name_count (P := l.prog) (w := w) (base := base) T D_name_count 
  have G_with_plain_fact := ok_with_plain_fact (P := l.prog) (w := w) (base := base) T D_with_plain_fact G_is_clash G_changed_step G_name_count
  have G_with_same := ok_with_same (P := l.prog) (w := w) (base := base) T D_with_same G_function_shape
  have G_check_form := ok_check_form (P := l.prog) (w := w) (base := base) T ET G_BF D_check_form G_is_sequence G_is_fact
  have G_with_facts := ok_with_facts (P := l.prog) (w := w) (base := base) T ET G_BF D_with_facts G_check_form G_Lot G_with_plain_fact G_with_same
  have G__law_whole := ok__law_whole (P := l.prog) (w := w) (base := base) T D__law_whole 
  have G__law_shape := ok__law_shape (P := l.prog) (w := w) (base := base) T D__law_shape 
  have G__law_is_place := ok__law_is_place (P := l.prog) (w := w) (base := base) T D__law_is_place G__law_whole
  have G__law_is_fact := ok__law_is_fact (P := l.prog) (w := w) (base := base) T D__law_is_fact G__law_whole G__law_is_place
  have G__law_floor := ok__law_floor (P := l.prog) (w := w) (base := base) T D__law_floor 
  have G__law_clash := ok__law_clash (P := l.prog) (w := w) (base := base) T D__law_clash 
  have G__law_taken_in := ok__law_taken_in (P := l.prog) (w := w) (base := base) T D__law_taken_in 
  have G__law_bearers := ok__law_bearers (P := l.prog) (w := w) (base := base) T D__law_bearers 
  have G__law_with := ok__law_with (P := l.prog) (w := w) (base := base) T D__law_with G__law_is_fact G__law_taken_in G__law_clash G__law_bearers G__law_shape
  have G__law_hand := ok__law_hand (P := l.prog) (w := w) (base := base) T D__law_hand 
  have G__law_mixed := ok__law_mixed (P := l.prog) (w := w) (base := base) T D__law_mixed 
  have G__law_take := ok__law_take (P := l.prog) (w := w) (base := base) T D__law_take G__law_mixed
  have G__law_sizes := ok__law_sizes (P := l.prog) (w := w) (base := base) T D__law_sizes G__law_take
  have G__law_steps := ok__law_steps (P := l.prog) (w := w) (base := base) T D__law_steps G__law_take G__law_shape
  have G__law_lot := ok__law_lot (P := l.prog) (w := w) (base := base) T D__law_lot G__law_steps
  have G__law_unlike := ok__law_unlike (P := l.prog) (w := w) (base := base) T D__law_unlike G__law_take
  have G__law_facts := ok__law_facts (P := l.prog) (w := w) (base := base) T D__law_facts G__law_take
  have G__law_good_row := ok__law_good_row (P := l.prog) (w := w) (base := base) T D__law_good_row G__law_take G__law_with
  have G__law_spoiled_fact := ok__law_spoiled_fact (P := l.prog) (w := w) (base := base) T D__law_spoiled_fact G__law_take
  have G__law_all_facts := ok__law_all_facts (P := l.prog) (w := w) (base := base) T D__law_all_facts 
  have G__law_with_told := ok__law_with_told (P := l.prog) (w := w) (base := base) T ET D__law_with_told G_with_facts
  have G__law_one_lot := ok__law_one_lot (P := l.prog) (w := w) (base := base) T D__law_one_lot G_Lot G__law_all_facts G_is_fact G__law_good_row G__law_facts G__law_take G__law_spoiled_fact G__law_is_fact G__law_with_told G__law_with
  exact ok_law T F_law G_Lot G__law_hand G__law_lot G__law_take G__law_sizes G__law_floor G_cells_floor G__law_one_lot G__law_unlike
theorem walk {l : PySem.W.OpenLaw} {q : Program} {loose : List Str} {XP : (Str → Option Value) → Heap → Prop} {YP : World → Heap → Prop} {d : DefRec} {K : Params → PySem.W.Frag} (hn : l.most = some 63) (hdf : d.params.defaults = [])
    (hY : ∀ (w : World) (h : Heap), YP w h → (K w.params).In h)
    (F : ∀ (w : World) (mg : Str → Option Value) (fa : Addr) (h : Heap), (K w.params).In h → h.Ns mainGlobals mg → mg d.name = some (.ref fa) →
      ∃ fd : FuncData, (∀ (s : Shared) (u : Value), BindsTo s fd ⟨[u], []⟩ [("_law_script", u)]) ∧ ∀ base : Heap, (K w.params).In base → base.Ns mainGlobals mg → FnOk l.prog w (K w.params) mg base CX0 10 fa fd ["_law_script"] (spLaw (K w.params))) :
    PySem.W.WalkO q loose XP YP l.row.toRowW d [] (fun f vs => PySem.call f vs) :=
  L2.walk_of (n := 63) (k := 10) (x := "_law_script") (CX := fun _ => CX0) (sp := fun w => spLaw (K w.params)) hn (by decide) hdf ⟨rfl, by decide, by decide⟩ hY F (fun _ _ a ns hl _ hS => ⟨a, ns, rfl, hS, hl, fun _ => rfl⟩) fun _ _ _ _ _ z => z
end KG
open PySem PySem.W PyProof.Rows in
set_option maxRecDepth 100000 in
set_option maxHeartbeats 0 in
theorem PySem.Challenge.cw_knownguards_k02_whole_facts_taken_in_and_holds : PySem.Challenge.rw_knownguards_k02_whole_facts_taken_in_and.Holds := by
  w_on; o_law; k_head; (case hw => w_witness2)
  k_fill
  refine KG.walk (l := PySem.Challenge.rw_knownguards_k02_whole_facts_taken_in_and) rfl rfl (fun w h Y => PySem.W.kIn_of Y) ?F
  case F =>
    intro w mg fa h KX G hmg
    refine' KG.all_mk KX G hmg ?a_is_sequence ?l_is_sequence ?c_is_sequence ?k_is_sequence ?a_is_ascending ?l_is_ascending ?c_is_ascending ?k_is_ascending ?a_check_step ?l_check_step ?c_check_step ?k_check_step ?a_last_pocket ?l_last_pocket ?c_last_pocket ?k_last_pocket ?a_checked_steps ?l_checked_steps ?c_checked_steps ?k_checked_steps ?a_goes_by_adds ?l_goes_by_adds ?c_goes_by_adds ?k_goes_by_adds ?a_function_shape ?l_function_shape ?c_function_shape ?k_function_shape ?a_has_unlike_names ?l_has_unlike_names ?c_has_unlike_names ?k_has_unlike_names ?a_is_place ?l_is_place ?c_is_place ?k_is_place ?a_is_fact ?l_is_fact ?c_is_fact ?k_is_fact ?a_check_form ?l_check_form ?c_check_form ?k_check_form ?a_cells_floor ?l_cells_floor ?c_cells_floor ?k_cells_floor ?a_is_clash ?l_is_clash ?c_is_clash ?k_is_clash ?a_changed_step ?l_changed_step ?c_changed_step ?k_changed_step ?a_name_count ?l_name_count ?c_name_count ?k_name_count ?a_with_plain_fact ?l_with_plain_fact ?c_with_plain_fact ?k_with_plain_fact ?a_with_same ?l_with_same ?c_with_same ?k_with_same ?a_with_facts ?l_with_facts ?c_with_facts ?k_with_facts ?a__law_hand ?l__law_hand ?c__law_hand ?k__law_hand ?a__law_mixed ?l__law_mixed ?c__law_mixed ?k__law_mixed ?a__law_take ?l__law_take ?c__law_take ?k__law_take ?a__law_whole ?l__law_whole ?c__law_whole ?k__law_whole ?a__law_sizes ?l__law_sizes ?c__law_sizes ?k__law_sizes ?a__law_shape ?l__law_shape ?c__law_shape ?k__law_shape ?a__law_steps ?l__law_steps ?c__law_steps ?k__law_steps ?a__law_lot ?l__law_lot ?c__law_lot ?k__law_lot ?a__law_floor ?l__law_floor ?c__law_floor ?k__law_floor ?a__law_is_place ?l__law_is_place ?c__law_is_place ?k__law_is_place ?a__law_is_fact ?l__law_is_fact ?c__law_is_fact ?k__law_is_fact ?a__law_all_facts ?l__law_all_facts ?c__law_all_facts ?k__law_all_facts ?a__law_clash ?l__law_clash ?c__law_clash ?k__law_clash ?a__law_taken_in ?l__law_taken_in ?c__law_taken_in ?k__law_taken_in ?a__law_bearers ?l__law_bearers ?c__law_bearers ?k__law_bearers ?a__law_with ?l__law_with ?c__law_with ?k__law_with ?a__law_spoiled_fact ?l__law_spoiled_fact ?c__law_spoiled_fact ?k__law_spoiled_fact ?a__law_facts ?l__law_facts ?c__law_facts ?k__law_facts ?a__law_with_told ?l__law_with_told ?c__law_with_told ?k__law_with_told ?a__law_unlike ?l__law_unlike ?c__law_unlike ?k__law_unlike ?a__law_good_row ?l__law_good_row ?c__law_good_row ?k__law_good_row ?a__law_one_lot ?l__law_one_lot ?c__law_one_lot ?k__law_one_lot ?a_law ?l_law ?c_law ?k_law ?a_is_whole ?l_is_whole ?c_is_whole ?k_is_whole ?lT ?aC ?aG ?aF ?a_I ?i_I ?l_I ?c_I ?k_I ?pg ?hd ?po ?sa ?mk ?kc ?nC ?nP ?hca ?hcn ?hct ?hcm ?aK ?lK ?z_isinstance ?z_int ?z_bool ?z_str ?z_list ?z_tuple ?z_len ?z_range ?z_sum ?z_abs ?z_min ?z_max ?z_sorted ?rG ?gG ?iG ?xF ?saF ?exF ?tyF ?kF ?a_B ?t_B ?l_B ?c_B ?k_B ?noI ?sFF ?iCG ?tyG ?sFG ?gaF ?ggF ?hdF ?caF ?hmF
    (case a_is_sequence => k_is)
    (case l_is_sequence => k_is)
    (case c_is_sequence => k_is)
    (case k_is_sequence => k_is)
    (case a_is_ascending => k_is)
    (case l_is_ascending => k_is)
    (case c_is_ascending => k_is)
    (case k_is_ascending => k_is)
    (case a_check_step => k_is)
    (case l_check_step => k_is)
    (case c_check_step => k_is)
    (case k_check_step => k_is)
    (case a_last_pocket => k_is)
    (case l_last_pocket => k_is)
    (case c_last_pocket => k_is)
    (case k_last_pocket => k_is)
    (case a_checked_steps => k_is)
    (case l_checked_steps => k_is)
    (case c_checked_steps => k_is)
    (case k_checked_steps => k_is)
    (case a_goes_by_adds => k_is)
    (case l_goes_by_adds => k_is)
    (case c_goes_by_adds => k_is)
    (case k_goes_by_adds => k_is)
    (case a_function_shape => k_is)
    (case l_function_shape => k_is)
    (case c_function_shape => k_is)
    (case k_function_shape => k_is)
    (case a_has_unlike_names => k_is)
    (case l_has_unlike_names => k_is)
    (case c_has_unlike_names => k_is)
    (case k_has_unlike_names => k_is)
    (case a_is_place => k_is)
    (case l_is_place => k_is)
    (case c_is_place => k_is)
    (case k_is_place => k_is)
    (case a_is_fact => k_is)
    (case l_is_fact => k_is)
    (case c_is_fact => k_is)
    (case k_is_fact => k_is)
    (case a_check_form => k_is)
    (case l_check_form => k_is)
    (case c_check_form => k_is)
    (case k_check_form => k_is)
    (case a_cells_floor => k_is)
    (case l_cells_floor => k_is)
    (case c_cells_floor => k_is)
    (case k_cells_floor => k_is)
    (case a_is_clash => k_is)
    (case l_is_clash => k_is)
    (case c_is_clash => k_is)
    (case k_is_clash => k_is)
    (case a_changed_step => k_is)
    (case l_changed_step => k_is)
    (case c_changed_step => k_is)
    (case k_changed_step => k_is)
    (case a_name_count => k_is)
    (case l_name_count => k_is)
    (case c_name_count => k_is)
    (case k_name_count => k_is)
    (case a_with_plain_fact => k_is)
    (case l_with_plain_fact => k_is)
    (case c_with_plain_fact => k_is)
    (case k_with_plain_fact => k_is)
    (case a_with_same => k_is)
    (case l_with_same => k_is)
    (case c_with_same => k_is)
    (case k_with_same => k_is)
    (case a_with_facts => k_is)
    (case l_with_facts => k_is)
    (case c_with_facts => k_is)
    (case k_with_facts => k_is)
    (case a__law_hand => k_is)
    (case l__law_hand => k_is)
    (case c__law_hand => k_is)
    (case k__law_hand => k_is)
    (case a__law_mixed => k_is)
    (case l__law_mixed => k_is)
    (case c__law_mixed => k_is)
    (case k__law_mixed => k_is)
    (case a__law_take => k_is)
    (case l__law_take => k_is)
    (case c__law_take => k_is)
    (case k__law_take => k_is)
    (case a__law_whole => k_is)
    (case l__law_whole => k_is)
    (case c__law_whole => k_is)
    (case k__law_whole => k_is)
    (case a__law_sizes => k_is)
    (case l__law_sizes => k_is)
    (case c__law_sizes => k_is)
    (case k__law_sizes => k_is)
    (case a__law_shape => k_is)
    (case l__law_shape => k_is)
    (case c__law_shape => k_is)
    (case k__law_shape => k_is)
    (case a__law_steps => k_is)
    (case l__law_steps => k_is)
    (case c__law_steps => k_is)
    (case k__law_steps => k_is)
    (case a__law_lot => k_is)
    (case l__law_lot => k_is)
    (case c__law_lot => k_is)
    (case k__law_lot => k_is)
    (case a__law_floor => k_is)
    (case l__law_floor => k_is)
    (case c__law_floor => k_is)
    (case k__law_floor => k_is)
    (case a__law_is_place => k_is)
    (case l__law_is_place => k_is)
    (case c__law_is_place => k_is)
    (case k__law_is_place => k_is)
    (case a__law_is_fact => k_is)
    (case l__law_is_fact => k_is)
    (case c__law_is_fact => k_is)
    (case k__law_is_fact => k_is)
    (case a__law_all_facts => k_is)
    (case l__law_all_facts => k_is)
    (case c__law_all_facts => k_is)
    (case k__law_all_facts => k_is)
    (case a__law_clash => k_is)
    (case l__law_clash => k_is)
    (case c__law_clash => k_is)
    (case k__law_clash => k_is)
    (case a__law_taken_in => k_is)
    (case l__law_taken_in => k_is)
    (case c__law_taken_in => k_is)
    (case k__law_taken_in => k_is)
    (case a__law_bearers => k_is)
    (case l__law_bearers => k_is)
    (case c__law_bearers => k_is)
    (case k__law_bearers => k_is)
    (case a__law_with => k_is)
    (case l__law_with => k_is)
    (case c__law_with => k_is)
    (case k__law_with => k_is)
    (case a__law_spoiled_fact => k_is)
    (case l__law_spoiled_fact => k_is)
    (case c__law_spoiled_fact => k_is)
    (case k__law_spoiled_fact => k_is)
    (case a__law_facts => k_is)
    (case l__law_facts => k_is)
    (case c__law_facts => k_is)
    (case k__law_facts => k_is)
    (case a__law_with_told => k_is)
    (case l__law_with_told => k_is)
    (case c__law_with_told => k_is)
    (case k__law_with_told => k_is)
    (case a__law_unlike => k_is)
    (case l__law_unlike => k_is)
    (case c__law_unlike => k_is)
    (case k__law_unlike => k_is)
    (case a__law_good_row => k_is)
    (case l__law_good_row => k_is)
    (case c__law_good_row => k_is)
    (case k__law_good_row => k_is)
    (case a__law_one_lot => k_is)
    (case l__law_one_lot => k_is)
    (case c__law_one_lot => k_is)
    (case k__law_one_lot => k_is)
    (case a_law => k_is)
    (case l_law => k_is)
    (case c_law => k_is)
    (case k_law => k_is)
    (case a_is_whole => k_is)
    (case l_is_whole => k_is)
    (case c_is_whole => k_is)
    (case k_is_whole => k_is)
    (case lT => k_is)
    (case aC => k_is)
    (case aG => k_is)
    (case aF => k_is)
    (case a_I => k_is)
    (case i_I => k_is)
    (case l_I => k_is)
    (case c_I => k_is)
    (case k_I => k_is)
    (case pg => k_is)
    (case hd => k_is)
    (case po => k_is)
    (case sa => k_is)
    (case mk => k_is)
    (case kc => k_is)
    (case nC => k_is)
    (case nP => k_is)
    (case hca => k_is)
    (case hcn => k_is)
    (case hct => k_is)
    (case hcm => k_is)
    (case aK => k_is)
    (case lK => k_is)
    (case z_isinstance => k_is)
    (case z_int => k_is)
    (case z_bool => k_is)
    (case z_str => k_is)
    (case z_list => k_is)
    (case z_tuple => k_is)
    (case z_len => k_is)
    (case z_range => k_is)
    (case z_sum => k_is)
    (case z_abs => k_is)
    (case z_min => k_is)
    (case z_max => k_is)
    (case z_sorted => k_is)
    (case rG => k_is)
    (case gG => k_is)
    (case iG => k_is)
    (case xF => k_is)
    (case saF => k_is)
    (case exF => k_is)
    (case tyF => k_is)
    (case kF => k_is)
    (case a_B => k_is)
    (case t_B => k_is)
    (case l_B => k_is)
    (case c_B => k_is)
    (case k_B => k_is)
    (case noI => k_is)
    (case sFF => k_is)
    (case iCG => k_is)
    (case tyG => k_is)
    (case sFG => k_is)
    (case gaF => k_is)
    (case ggF => k_is)
    (case hdF => k_is)
    (case caF => k_is)
    (case hmF => k_is)
