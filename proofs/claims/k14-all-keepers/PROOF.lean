import PyProof.Rows.All
import Wide.All
import OpenK.AllK
import Wide.FinOn
import HandS.ForMost
import HandS.Star
import HandS.Conv
import HandS.Zip
import HandS.TupAny
import HandS.Style
import HandS.Walk
import HandS.SetFor
import HandS.Lambda
import HandS.Iter
import KE.GoesMore
import KE.GoesZip
import KE.GoesEnum
import HandS.Flt
import HandS.Strs
import HandS.TupMul
import HandS.More
import PyProof.WalksMore
import PyProof.SumWalkG
import PyProof.Rows.SumGenD
import HandS.ExcInit
import HandS.Nested
import HandS.ExcSuper
import HandS.Words
import HandS.ExcInitHot
import HandS.RaiseFrom
import HandS.TryMany
import HandS.ExcField
import KE.KExcSuper
import HandS.SuiteRaise
import HandS.Defaults
import HandS.SortInts
import KE.SortData
import KE.SortKeyHeap
import HandS.DictTup
import KE.KDictCopyH
import KE.KDictDisplayH
import KE.KDictZip
import HandS.RaiseMore
import PyProof.ReprRoads
import PyProof.CallFns
import KE.KStateDown
import Lean
import HandS.Base
import HandS.Call
import HandS.Ends
import HandS.Head0
import HandS.Head1
import HandS.Head2
import HandS.HeadEnd
import HandS.HeadHook1
import HandS.HeadHook2
import HandS.HeadHook4
import KE.KSuper
import KE.KNestM
import HandS.EndTab
import HandS.EndBits
import PySem.Challenge.RW_floorkeepers_k14_whole_all_keepers
section
set_option Elab.async false
set_option linter.all false
set_option maxRecDepth 100000
/-! A small logic of data over the layer: slots hold data (read only), lists of one's own, or the bag that is drawn from. -/
namespace Lg
open PySem L2
/-- sets of addresses -/
abbrev Av := Addr → Prop
/-- the tables of code objects that stand from the start -/
class Tbs where
  T : List (Addr × Str)
variable [tbs : Tbs]
abbrev NT (o : HO) : Prop := ∀ ps, o ≠ .tbl ps
def IsTp : HO → Prop
  | .tup _ => True
  | .frz _ (.tup _) => True
  | _ => False
theorem IsTp.nt {u : HO} (h : IsTp u) : NT u := fun ps e => by rw [e] at h; exact h
theorem IsTp.ne {H : Hp} {a l : Addr} {u w : HO} (e : H a = some u) (h : IsTp u) (e' : H l = some w) (h' : ¬ IsTp w) : a ≠ l := fun z => by
  rw [z, e'] at e; cases e; exact h' h
/-- data; a tuple of any make, one whose object has no dict of its own (its methods may be called), one that stands as the layer's dicts want their keys -/
inductive D where
  | non | bl (b : Bool) | int (i : Int) | str (x : Str) | lst (ds : List D) | tup (ds : List D) | ptup (ds : List D) | rtup (ds : List D)
mutual
def D.py : D → PyData
  | .non => .none
  | .bl b => .bool b
  | .int i => .int i
  | .str x => .str x
  | .lst ds => .list (D.pys ds)
  | .tup ds => .tuple (D.pys ds)
  | .ptup ds => .tuple (D.pys ds)
  | .rtup ds => .tuple (D.pys ds)
def D.pys : List D → List PyData
  | [] => []
  | d :: ds => d.py :: D.pys ds
end
theorem D.pys_eq : ∀ ds : List D, D.pys ds = ds.map D.py
  | [] => rfl
  | d :: ds => by rw [D.pys, D.pys_eq ds]; rfl
mutual
/-- v reads as d; no list of it stands in O or Z -/
inductive Dq (H : Hp) (O Z : Av) : V → D → Prop
  | non : Dq H O Z .non .non
  | bl (b : Bool) : Dq H O Z (.bl b) (.bl b)
  | int (i : Int) : Dq H O Z (.int i) (.int i)
  | str (x : Str) : Dq H O Z (.str x) (.str x)
  | lst {a : Addr} {xs : List V} {ds : List D} : ¬ O a → ¬ Z a → H a = some (.lst xs) → DqAll H O Z xs ds → Dq H O Z (.ref a) (.lst ds)
  | tup {a : Addr} {xs : List V} {ds : List D} {u : HO} : H a = some u → (u = .tup xs ∨ ∃ o, u = .frz o (.tup xs)) → DqAll H O Z xs ds → Dq H O Z (.ref a) (.tup ds)
  | ptup {a : Addr} {xs : List V} {ds : List D} {o : Obj} : H a = some (.frz o (.tup xs)) → o.dict = none → DqAll H O Z xs ds → Dq H O Z (.ref a) (.ptup ds)
  | rtup {a : Addr} {xs : List V} {ds : List D} : H a = some (.tup xs) → DqAll H O Z xs ds → Dq H O Z (.ref a) (.rtup ds)
inductive DqAll (H : Hp) (O Z : Av) : List V → List D → Prop
  | nil : DqAll H O Z [] []
  | cons {v : V} {vs : List V} {d : D} {ds : List D} : Dq H O Z v d → DqAll H O Z vs ds → DqAll H O Z (v :: vs) (d :: ds)
end
mutual
/-- d' says less than d of the make of its tuples -/
inductive Wk : D → D → Prop
  | refl (d : D) : Wk d d
  | pt {ds es : List D} : WkAll ds es → Wk (.ptup ds) (.tup es)
  | rt {ds es : List D} : WkAll ds es → Wk (.rtup ds) (.tup es)
  | tt {ds es : List D} : WkAll ds es → Wk (.tup ds) (.tup es)
  | pp {ds es : List D} : WkAll ds es → Wk (.ptup ds) (.ptup es)
  | rr {ds es : List D} : WkAll ds es → Wk (.rtup ds) (.rtup es)
  | ll {ds es : List D} : WkAll ds es → Wk (.lst ds) (.lst es)
inductive WkAll : List D → List D → Prop
  | nil : WkAll [] []
  | cons {d e : D} {ds es : List D} : Wk d e → WkAll ds es → WkAll (d :: ds) (e :: es)
end
/-- from H with O to H' with O': all outside O stands (tables may grow); what is new in O' was not there -/
structure Stp (O O' : Av) (H H' : Hp) : Prop where
  tp : ∀ a u, H a = some u → IsTp u → H' a = some u
  kp : ∀ a o, H a = some o → ¬ O a → NT o → H' a = some o
  al : ∀ a, H a ≠ none → ¬ O a → H' a ≠ none
  av : ∀ a, O' a → O a ∨ H a = none
  tb : LamX.Tabs tbs.T H → LamX.Tabs tbs.T H'
theorem Stp.refl {O : Av} {H : Hp} : Stp O O H H := ⟨fun _ _ h _ => h, fun _ _ h _ _ => h, fun _ h _ => h, fun _ h => .inl h, fun h => h⟩
theorem Stp.was {O O' : Av} {H H' : Hp} (s : Stp O O' H H') {a : Addr} (h : H' a = none) (n : ¬ O a) : H a = none := Classical.byContradiction fun z => s.al a z n h
theorem Stp.trans {O O1 O2 : Av} {H H1 H2 : Hp} (a : Stp O O1 H H1) (b : Stp O1 O2 H1 H2) : Stp O O2 H H2 := by
  have no1 : ∀ x, H x ≠ none → ¬ O x → ¬ O1 x := fun x h n q => (a.av x q).elim n h
  refine ⟨fun x u h t => b.tp x u (a.tp x u h t) t, fun x o h n t => b.kp x o (a.kp x o h n t) (no1 x (by rw [h]; exact fun z => nomatch z) n) t, fun x h n => b.al x (a.al x h n) (no1 x h n), fun x q => ?_, fun h => b.tb (a.tb h)⟩
  rcases b.av x q with z | z
  · exact a.av x z
  · by_cases n : O x
    · exact .inl n
    · exact .inr (a.was z n)
theorem tab_upd {H : Hp} {l : Addr} {xs : List V} {u : HO} (h : H l = some (.lst xs)) {P : Addr} {q : Str} (t : LamX.TabS H P q) : LamX.TabS (upd H l u) P q := by
  obtain ⟨ps, h1, h2, h3⟩ := t
  refine ⟨ps, by rw [upd_ne (fun e => by rw [e, h] at h1; cases h1)]; exact h1, h2, fun pos cv hc => ?_⟩
  obtain ⟨c, e1, e2⟩ := h3 pos cv hc
  exact ⟨c, e1, by rw [upd_ne (fun e => by rw [e, h] at e2; cases e2)]; exact e2⟩
/-- what is one's own: lists, dicts -/
def IsMu : HO → Prop
  | .lst _ => True
  | .dT _ => True
  | .dK _ => True
  | _ => False
theorem IsMu.nt {u : HO} (h : IsMu u) : NT u := fun ps e => by rw [e] at h; exact h
theorem IsMu.ntp {u : HO} (h : IsMu u) : ¬ IsTp u := fun e => by cases u <;> first | exact h | exact e
theorem tab_updM {H : Hp} {l : Addr} {w u : HO} (h : H l = some w) (m : IsMu w) {P : Addr} {q : Str} (t : LamX.TabS H P q) : LamX.TabS (upd H l u) P q := by
  obtain ⟨ps, h1, h2, h3⟩ := t
  refine ⟨ps, by rw [upd_ne (fun e => by rw [e, h] at h1; cases h1; exact m)]; exact h1, h2, fun pos cv hc => ?_⟩
  obtain ⟨c, e1, e2⟩ := h3 pos cv hc
  exact ⟨c, e1, by rw [upd_ne (fun e => by rw [e, h] at e2; cases e2; exact m)]; exact e2⟩
theorem tab_new {H : Hp} {l : Addr} {u : HO} (h : H l = none) {P : Addr} {q : Str} (t : LamX.TabS H P q) : LamX.TabS (upd H l u) P q := t.ext fun b o e => by rw [upd_ne (ne_of_none e h)]; exact e
section
variable {O O' Z : Av} {H H' : Hp} {v : V} {d : D} {vs : List V} {ds : List D}
mutual
theorem Dq.mv (s : Stp O O' H H') : ∀ {v : V} {d : D}, Dq H O Z v d → Dq H' O' Z v d
  | _, _, .non => .non
  | _, _, .bl b => .bl b
  | _, _, .int i => .int i
  | _, _, .str x => .str x
  | _, _, .lst n z h t => .lst (fun q => (s.av _ q).elim n fun e => by rw [e] at h; cases h) z (s.kp _ _ h n nofun) (DqAll.mv s t)
  | _, _, .tup h c t => .tup (s.tp _ _ h (by rcases c with rfl | ⟨o, rfl⟩ <;> trivial)) c (DqAll.mv s t)
  | _, _, .ptup h c t => .ptup (s.tp _ _ h trivial) c (DqAll.mv s t)
  | _, _, .rtup h t => .rtup (s.tp _ _ h trivial) (DqAll.mv s t)
theorem DqAll.mv (s : Stp O O' H H') : ∀ {vs : List V} {ds : List D}, DqAll H O Z vs ds → DqAll H' O' Z vs ds
  | _, _, .nil => .nil
  | _, _, .cons h t => .cons (Dq.mv s h) (DqAll.mv s t)
end
mutual
/-- fewer addresses to shun -/
theorem Dq.less {O' Z' : Av} (f : ∀ a, O' a ∨ Z' a → O a ∨ Z a) : ∀ {v : V} {d : D}, Dq H O Z v d → Dq H O' Z' v d
  | _, _, .non => .non
  | _, _, .bl b => .bl b
  | _, _, .int i => .int i
  | _, _, .str x => .str x
  | _, _, .lst n z h t => .lst (fun q => (f _ (.inl q)).elim n z) (fun q => (f _ (.inr q)).elim n z) h (DqAll.less f t)
  | _, _, .tup h c t => .tup h c (DqAll.less f t)
  | _, _, .ptup h c t => .ptup h c (DqAll.less f t)
  | _, _, .rtup h t => .rtup h (DqAll.less f t)
theorem DqAll.less {O' Z' : Av} (f : ∀ a, O' a ∨ Z' a → O a ∨ Z a) : ∀ {vs : List V} {ds : List D}, DqAll H O Z vs ds → DqAll H O' Z' vs ds
  | _, _, .nil => .nil
  | _, _, .cons h t => .cons (Dq.less f h) (DqAll.less f t)
end
theorem DqAll.length : ∀ {vs : List V} {ds : List D}, DqAll H O Z vs ds → vs.length = ds.length
  | _, _, .nil => rfl
  | _, _, .cons _ t => congrArg (· + 1) (DqAll.length t)
theorem DqAll.get : ∀ {vs : List V} {ds : List D} {i : Nat} {d : D}, DqAll H O Z vs ds → ds[i]? = some d → ∃ v, vs[i]? = some v ∧ Dq H O Z v d
  | _, _, _, _, .nil, e => by simp at e
  | _, _, 0, _, .cons h _, e => by simp at e; subst e; exact ⟨_, rfl, h⟩
  | _, _, i + 1, d, .cons _ t, e => by
    obtain ⟨v, h1, h2⟩ := DqAll.get (i := i) (d := d) t (by simpa using e)
    exact ⟨v, by simpa using h1, h2⟩
theorem DqAll.getV : ∀ {vs : List V} {ds : List D} {i : Nat} {v : V}, DqAll H O Z vs ds → vs[i]? = some v → ∃ d, ds[i]? = some d ∧ Dq H O Z v d
  | _, _, _, _, .nil, e => by simp at e
  | _, _, 0, _, .cons h _, e => by simp at e; subst e; exact ⟨_, rfl, h⟩
  | _, _, i + 1, v, .cons _ t, e => by
    obtain ⟨d, h1, h2⟩ := DqAll.getV (i := i) (v := v) t (by simpa using e)
    exact ⟨d, by simpa using h1, h2⟩
theorem DqAll.append : ∀ {vs ws : List V} {ds es : List D}, DqAll H O Z vs ds → DqAll H O Z ws es → DqAll H O Z (vs ++ ws) (ds ++ es)
  | _, _, _, _, .nil, s => s
  | _, _, _, _, .cons h t, s => .cons h (DqAll.append t s)
theorem DqAll.one (h : Dq H O Z v d) : DqAll H O Z [v] [d] := .cons h .nil
theorem DqAll.take : ∀ {vs : List V} {ds : List D} (n : Nat), DqAll H O Z vs ds → DqAll H O Z (vs.take n) (ds.take n)
  | _, _, 0, _ => by simpa using DqAll.nil
  | _, _, _ + 1, .nil => .nil
  | _, _, n + 1, .cons h t => .cons h (DqAll.take n t)
theorem DqAll.drop : ∀ {vs : List V} {ds : List D} (n : Nat), DqAll H O Z vs ds → DqAll H O Z (vs.drop n) (ds.drop n)
  | _, _, 0, h => h
  | _, _, _ + 1, .nil => .nil
  | _, _, n + 1, .cons _ t => DqAll.drop n t
theorem DqAll.set (h : Dq H O Z v d) : ∀ {vs : List V} {ds : List D} (i : Nat), DqAll H O Z vs ds → DqAll H O Z (vs.set i v) (ds.set i d)
  | _, _, _, .nil => .nil
  | _, _, 0, .cons _ t => .cons h t
  | _, _, i + 1, .cons q t => .cons q (DqAll.set h i t)
theorem DqAll.eraseIdx : ∀ {vs : List V} {ds : List D} (i : Nat), DqAll H O Z vs ds → DqAll H O Z (vs.eraseIdx i) (ds.eraseIdx i)
  | _, _, _, .nil => .nil
  | _, _, 0, .cons _ t => t
  | _, _, i + 1, .cons h t => .cons h (DqAll.eraseIdx i t)
theorem DqAll.rep (h : DqAll H O Z vs ds) : ∀ k : Nat, DqAll H O Z (List.replicate k vs).flatten (List.replicate k ds).flatten
  | 0 => .nil
  | k + 1 => by
    rw [List.replicate_succ, List.replicate_succ, List.flatten_cons, List.flatten_cons]
    exact h.append (DqAll.rep h k)
theorem DqAll.ints (ns : List Int) : DqAll H O Z (ns.map V.int) (ns.map D.int) := by
  induction ns with
  | nil => exact .nil
  | cons n ns ih => exact .cons (.int n) ih
theorem DqAll.of_ints : ∀ {ns : List Int} {vs : List V}, DqAll H O Z vs (ns.map D.int) → vs = ns.map V.int
  | [], _, .nil => rfl
  | n :: ns, _, .cons h t => by
    cases h
    rw [DqAll.of_ints t]; rfl
theorem DqAll.bls : ∀ {bs : List Bool} {vs : List V}, DqAll H O Z vs (bs.map D.bl) → vs = bs.map V.bl
  | [], _, .nil => rfl
  | n :: ns, _, .cons h t => by
    cases h
    rw [DqAll.bls t]; rfl
theorem sqT_of {K : PySem.W.Frag} {a : Addr} {xs : List V} {u : HO} (h : H a = some u) (c : u = .tup xs ∨ ∃ o, u = .frz o (.tup xs)) : SqT K H a xs := by
  rcases c with rfl | ⟨o, rfl⟩
  · exact .inl (.inl h)
  · exact .inl (.inr ⟨o, h⟩)
mutual
/-- as the layer's == takes it -/
theorem Dq.dp {K : PySem.W.Frag} : ∀ {v : V} {d : D}, Dq H O Z v d → Dp K H v d.py
  | _, _, .non => .non
  | _, _, .bl b => .bl b
  | _, _, .int i => .int i
  | _, _, .str x => .str x
  | _, _, .lst _ _ h t => .lst (SqL.of h) (DqAll.dp t)
  | _, _, .tup h c t => .tup (sqT_of h c) (DqAll.dp t)
  | _, _, .ptup h _ t => .tup (.inl (.inr ⟨_, h⟩)) (DqAll.dp t)
  | _, _, .rtup h t => .tup (SqT.of h) (DqAll.dp t)
theorem DqAll.dp {K : PySem.W.Frag} : ∀ {vs : List V} {ds : List D}, DqAll H O Z vs ds → DpAll K H vs (D.pys ds)
  | _, _, .nil => .nil
  | _, _, .cons h t => .cons (Dq.dp h) (DqAll.dp t)
end
mutual
theorem Dq.wk : ∀ {d e : D} {v : V}, Wk d e → Dq H O Z v d → Dq H O Z v e
  | _, _, _, .refl _, q => q
  | _, _, _, .pt w, .ptup h _ t => .tup h (.inr ⟨_, rfl⟩) (DqAll.wk w t)
  | _, _, _, .rt w, .rtup h t => .tup h (.inl rfl) (DqAll.wk w t)
  | _, _, _, .tt w, .tup h c t => .tup h c (DqAll.wk w t)
  | _, _, _, .pp w, .ptup h c t => .ptup h c (DqAll.wk w t)
  | _, _, _, .rr w, .rtup h t => .rtup h (DqAll.wk w t)
  | _, _, _, .ll w, .lst n z h t => .lst n z h (DqAll.wk w t)
theorem DqAll.wk : ∀ {ds es : List D} {vs : List V}, WkAll ds es → DqAll H O Z vs ds → DqAll H O Z vs es
  | _, _, _, .nil, .nil => .nil
  | _, _, _, .cons w ws, .cons h t => .cons (Dq.wk w h) (DqAll.wk ws t)
end
theorem WkAll.map {α : Type} {f g : α → D} (h : ∀ a, Wk (f a) (g a)) : ∀ l : List α, WkAll (l.map f) (l.map g)
  | [] => .nil
  | a :: l => .cons (h a) (WkAll.map h l)
theorem WkAll.refl : ∀ ds : List D, WkAll ds ds
  | [] => .nil
  | d :: ds => .cons (.refl d) (WkAll.refl ds)
/-- a tuple of any make -/
def D.items : D → Option (List D)
  | .tup ds => some ds
  | .ptup ds => some ds
  | .rtup ds => some ds
  | _ => none
theorem Dq.tupV {K : PySem.W.Frag} (q : Dq H O Z v d) (h : d.items = some ds) : ∃ a xs, v = .ref a ∧ SqT K H a xs ∧ DqAll H O Z xs ds := by
  cases q with
  | tup h1 c t => cases h; exact ⟨_, _, rfl, sqT_of h1 c, t⟩
  | ptup h1 c t => cases h; exact ⟨_, _, rfl, .inl (.inr ⟨_, h1⟩), t⟩
  | rtup h1 t => cases h; exact ⟨_, _, rfl, SqT.of h1, t⟩
  | _ => cases h
end

/-! ### slots -/
def IsDk : HO → Prop
  | .dT _ => True
  | .dK _ => True
  | _ => False
theorem IsDk.nt {u : HO} (h : IsDk u) : NT u := fun ps e => by rw [e] at h; exact h
theorem IsDk.nl {u : HO} (h : IsDk u) (xs : List V) : u ≠ .lst xs := fun e => by rw [e] at h; exact h
inductive Sl where
  | un
  | im (d : D)
  | own (ds : List D)
  | bag
  | obj (u : HO)
  | ro (l : Addr) (w : HO)
/-- the bag at b: three ints and a list of ints -/
def BagAt (H : Hp) (O Z : Av) (b : Addr) : Prop := ∃ (i j k : Int) (c : Addr) (ns : { l : List Int // l.length ≤ 1000 }), H b = some (.lst [.int i, .int j, .int k, .ref c]) ∧ ¬ O c ∧ ¬ Z c ∧ H c = some (.lst (ns.1.map V.int))
structure Wd (Z : Av) (Bg : Option Addr) (H : Hp) (O : Av) : Prop where
  al : ∀ a, O a ∨ Z a → H a ≠ none
  dj : ∀ a, O a → ¬ Z a
  bg : ∀ b, Bg = some b → O b ∧ BagAt H O Z b
  tb : LamX.Tabs tbs.T H
def SlOk (Z : Av) (Bg : Option Addr) (H : Hp) (O : Av) (v : Option V) : Sl → Prop
  | .un => True
  | .im d => ∃ x, v = some x ∧ Dq H O Z x d
  | .own ds => ∃ l xs, v = some (.ref l) ∧ O l ∧ Bg ≠ some l ∧ H l = some (.lst xs) ∧ DqAll H O Z xs ds
  | .bag => ∃ b, v = some (.ref b) ∧ Bg = some b
  | .obj u => ∃ l, v = some (.ref l) ∧ O l ∧ Bg ≠ some l ∧ H l = some u ∧ IsDk u
  | .ro l w => v = some (.ref l) ∧ ¬ O l ∧ ¬ Z l ∧ H l = some w ∧ NT w
def IsOwn : Option Sl → Prop
  | some (.own _) => True
  | some (.obj _) => True
  | _ => False
structure Sg (Z : Av) (Bg : Option Addr) (H : Hp) (O : Av) (σ : L2.St) (ss : List Sl) : Prop where
  wd : Wd Z Bg H O
  len : σ.length = ss.length
  sl : ∀ (i : Nat) (v : Option V) (s : Sl), σ[i]? = some v → ss[i]? = some s → SlOk Z Bg H O v s
  ap : ∀ (i j : Nat) (l : Addr), i ≠ j → IsOwn ss[i]? → IsOwn ss[j]? → σ[i]? = some (some (.ref l)) → σ[j]? = some (some (.ref l)) → False
section
variable {Z : Av} {Bg : Option Addr} {H H' : Hp} {O O' : Av} {σ : L2.St} {ss : List Sl} {i j : Nat} {d : D} {ds : List D} {v : V} {vs : List V} {p : Addr}
theorem Sg.at_ (g : Sg Z Bg H O σ ss) {s : Sl} (h : ss[i]? = some s) : ∃ v, σ[i]? = some v ∧ SlOk Z Bg H O v s := by
  have hi : i < ss.length := (List.getElem?_eq_some_iff.mp h).1
  have e : σ[i]? = some (σ[i]'(by rw [g.len]; exact hi)) := List.getElem?_eq_getElem _
  exact ⟨_, e, g.sl i _ s e h⟩
theorem Sg.im (g : Sg Z Bg H O σ ss) (h : ss[i]? = some (.im d)) : ∃ v, σ[i]? = some (some v) ∧ Dq H O Z v d := by
  obtain ⟨v, e, x, rfl, q⟩ := g.at_ h
  exact ⟨x, e, q⟩
theorem Sg.own (g : Sg Z Bg H O σ ss) (h : ss[i]? = some (.own ds)) : ∃ l xs, σ[i]? = some (some (.ref l)) ∧ O l ∧ Bg ≠ some l ∧ H l = some (.lst xs) ∧ DqAll H O Z xs ds := by
  obtain ⟨v, e, l, xs, rfl, q⟩ := g.at_ h
  exact ⟨l, xs, e, q⟩
/-- all is kept, O too -/
structure Ext (H H' : Hp) : Prop where
  kp : ∀ a o, H a = some o → NT o → H' a = some o
  al : ∀ a, H a ≠ none → H' a ≠ none
  tb : LamX.Tabs tbs.T H → LamX.Tabs tbs.T H'
theorem Ext.stp (e : Ext H H') : Stp O O H H' := ⟨fun a u h t => e.kp a u h t.nt, fun a o h _ => e.kp a o h, fun a h _ => e.al a h, fun _ h => .inl h, e.tb⟩
theorem Ext.refl : Ext H H := ⟨fun _ _ h _ => h, fun _ h => h, fun h => h⟩
theorem Ext.trans {H1 H2 : Hp} (a : Ext H H1) (b : Ext H1 H2) : Ext H H2 := ⟨fun x o h n => b.kp x o (a.kp x o h n) n, fun x h => b.al x (a.al x h), fun h => b.tb (a.tb h)⟩
theorem Ext.of (k : ∀ a o, H a = some o → H' a = some o) : Ext H H' := by
  refine ⟨fun a o h _ => k a o h, fun a h => ?_, fun t => LamX.Tabs.ext t k⟩
  cases e : H a with
  | none => exact absurd e h
  | some o => rw [k a o e]; exact fun z => nomatch z
theorem Ext.new {o : HO} (h : H p = none) : Ext H (upd H p o) := Ext.of fun a u e => by rw [upd_ne (ne_of_none e h)]; exact e
theorem BagAt.mv {b : Addr} (x : BagAt H O Z b) (s : Stp O O' H H') (hb : H' b = H b) : BagAt H' O' Z b := by
  obtain ⟨i, j, k, c, ns, h1, h2, h3, h4⟩ := x
  exact ⟨i, j, k, c, ns, by rw [hb]; exact h1, fun q => (s.av c q).elim h2 (fun e => by rw [e] at h4; cases h4), h3, s.kp c _ h4 h2 nofun⟩
theorem Wd.ext (w : Wd Z Bg H O) (e : Ext H H') : Wd Z Bg H' O := by
  refine ⟨fun a h => e.al a (w.al a h), w.dj, fun b hb => ?_, e.tb w.tb⟩
  obtain ⟨h1, h2⟩ := w.bg b hb
  refine ⟨h1, h2.mv (Ext.stp e) ?_⟩
  obtain ⟨i, j, k, c, ns, h3, _⟩ := h2
  rw [e.kp b _ h3 nofun, h3]
theorem SlOk.ext {o : Option V} {s : Sl} (h : SlOk Z Bg H O o s) (e : Ext H H') : SlOk Z Bg H' O o s := by
  cases s with
  | un => trivial
  | im d => obtain ⟨x, r, q⟩ := h; exact ⟨x, r, q.mv (Ext.stp e)⟩
  | own ds => obtain ⟨l, xs, r, h1, h2, h3, h4⟩ := h; exact ⟨l, xs, r, h1, h2, e.kp l _ h3 nofun, h4.mv (Ext.stp e)⟩
  | bag => exact h
  | obj u => obtain ⟨l, r, h1, h2, h3, h4⟩ := h; exact ⟨l, r, h1, h2, e.kp l _ h3 h4.nt, h4⟩
  | ro l w => obtain ⟨r, h1, h2, h3, h4⟩ := h; exact ⟨r, h1, h2, e.kp l _ h3 h4, h4⟩
theorem Sg.ext (g : Sg Z Bg H O σ ss) (e : Ext H H') : Sg Z Bg H' O σ ss :=
  ⟨g.wd.ext e, g.len, fun i v s h1 h2 => (g.sl i v s h1 h2).ext e, g.ap⟩
/-- a fresh address is in none of the sets -/
theorem Wd.fresh (w : Wd Z Bg H O) (h : H p = none) : ¬ O p ∧ ¬ Z p := ⟨fun q => w.al p (.inl q) h, fun q => w.al p (.inr q) h⟩
/-- a slot gets data -/
theorem Sg.setIm (g : Sg Z Bg H O σ ss) (i : Nat) (h : Dq H O Z v d) : Sg Z Bg H O (σ.set i (some v)) (ss.set i (.im d)) := by
  refine ⟨g.wd, by rw [List.length_set, List.length_set]; exact g.len, fun j w s h1 h2 => ?_, fun j k l hjk h1 h2 h3 h4 => ?_⟩
  · by_cases e : i = j
    · subst e
      have hi : i < ss.length := by have := (List.getElem?_eq_some_iff.mp h2).1; simpa using this
      rw [List.getElem?_set_self (by rw [g.len]; exact hi)] at h1
      rw [List.getElem?_set_self hi] at h2
      cases h1; cases h2
      exact ⟨v, rfl, h⟩
    · rw [List.getElem?_set_ne e] at h1 h2
      exact g.sl j w s h1 h2
  · have nj : ∀ (j : Nat), IsOwn (ss.set i (.im d))[j]? → i ≠ j ∧ IsOwn ss[j]? := by
      intro j q
      by_cases e : i = j
      · subst e
        by_cases hi : i < ss.length
        · rw [List.getElem?_set_self hi] at q; exact q.elim
        · rw [List.getElem?_eq_none (by simp; omega)] at q; exact q.elim
      · rw [List.getElem?_set_ne e] at q; exact ⟨e, q⟩
    obtain ⟨a1, a2⟩ := nj j h1
    obtain ⟨b1, b2⟩ := nj k h2
    rw [List.getElem?_set_ne a1] at h3
    rw [List.getElem?_set_ne b1] at h4
    exact g.ap j k l hjk a2 b2 h3 h4
/-- a slot is forgotten -/
theorem Sg.forget (g : Sg Z Bg H O σ ss) (i : Nat) : Sg Z Bg H O σ (ss.set i .un) := by
  refine ⟨g.wd, by rw [List.length_set]; exact g.len, fun j w s h1 h2 => ?_, fun j k l hjk h1 h2 h3 h4 => ?_⟩
  · by_cases e : i = j
    · subst e
      have hi : i < ss.length := by have := (List.getElem?_eq_some_iff.mp h2).1; simpa using this
      rw [List.getElem?_set_self hi] at h2
      cases h2; trivial
    · rw [List.getElem?_set_ne e] at h2
      exact g.sl j w s h1 h2
  · have nj : ∀ (j : Nat), IsOwn (ss.set i .un)[j]? → IsOwn ss[j]? := by
      intro j q
      by_cases e : i = j
      · subst e
        by_cases hi : i < ss.length
        · rw [List.getElem?_set_self hi] at q; exact q.elim
        · rw [List.getElem?_eq_none (by simp; omega)] at q; exact q.elim
      · rw [List.getElem?_set_ne e] at q; exact q
    exact g.ap j k l hjk (nj j h1) (nj k h2) h3 h4
/-- the value of a forgotten slot may be anything -/
theorem Sg.setUn (g : Sg Z Bg H O σ ss) (i : Nat) (o : Option V) : Sg Z Bg H O (σ.set i o) (ss.set i .un) := by
  refine ⟨g.wd, by rw [List.length_set, List.length_set]; exact g.len, fun j w s h1 h2 => ?_, fun j k l hjk h1 h2 h3 h4 => ?_⟩
  · by_cases e : i = j
    · subst e
      have hi : i < ss.length := by have := (List.getElem?_eq_some_iff.mp h2).1; simpa using this
      rw [List.getElem?_set_self hi] at h2
      cases h2; trivial
    · rw [List.getElem?_set_ne e] at h1 h2
      exact g.sl j w s h1 h2
  · have nj : ∀ (j : Nat), IsOwn (ss.set i .un)[j]? → i ≠ j ∧ IsOwn ss[j]? := by
      intro j q
      by_cases e : i = j
      · subst e
        by_cases hi : i < ss.length
        · rw [List.getElem?_set_self hi] at q; exact q.elim
        · rw [List.getElem?_eq_none (by simp; omega)] at q; exact q.elim
      · rw [List.getElem?_set_ne e] at q; exact ⟨e, q⟩
    obtain ⟨a1, a2⟩ := nj j h1
    obtain ⟨b1, b2⟩ := nj k h2
    rw [List.getElem?_set_ne a1] at h3
    rw [List.getElem?_set_ne b1] at h4
    exact g.ap j k l hjk a2 b2 h3 h4
/-- one address more in O: a list that stands and that nothing reads -/
def more (O : Av) (p : Addr) : Av := fun a => O a ∨ a = p
theorem stp_more (h : H p = none) {o : HO} : Stp O (more O p) H (upd H p o) :=
  ⟨fun a u e _ => by rw [upd_ne (ne_of_none e h)]; exact e, fun a u e n _ => by rw [upd_ne (ne_of_none e h)]; exact e, fun a q _ => (Ext.new h).al a q, fun a q => q.elim .inl fun e => .inr (by rw [e]; exact h), fun t p hp => tab_new h (t p hp)⟩
/-- behind a step that kept all but p, where p was new to H: the slots with p in O -/
theorem Sg.more (g : Sg Z Bg H O σ ss) (e : Ext H H') (hp : H p = none) (hp' : H' p ≠ none) : Sg Z Bg H' (more O p) σ ss := by
  have s : Stp O (Lg.more O p) H H' := ⟨fun a u h t => e.kp a u h t.nt, fun a o h _ => e.kp a o h, fun a h _ => e.al a h, fun a q => q.elim .inl fun z => .inr (by rw [z]; exact hp), e.tb⟩
  refine ⟨⟨fun a q => ?_, fun a q z => q.elim (fun q => g.wd.dj a q z) (fun q => (g.wd.fresh hp).2 (q ▸ z)), fun b hb => ?_, (g.wd.ext e).tb⟩, g.len, fun i v sl h1 h2 => ?_, g.ap⟩
  · rcases q with (q | q) | q
    · exact (g.wd.ext e).al a (.inl q)
    · rw [q]; exact hp'
    · exact (g.wd.ext e).al a (.inr q)
  · obtain ⟨h1, h2⟩ := g.wd.bg b hb
    refine ⟨.inl h1, h2.mv s ?_⟩
    obtain ⟨_, _, _, _, _, h3, _⟩ := h2
    rw [e.kp b _ h3 nofun, h3]
  · have q := g.sl i v sl h1 h2
    cases sl with
    | un => trivial
    | im d => obtain ⟨x, r, q⟩ := q; exact ⟨x, r, q.mv s⟩
    | own ds => obtain ⟨l, xs, r, h1, h2, h3, h4⟩ := q; exact ⟨l, xs, r, .inl h1, h2, e.kp l _ h3 nofun, h4.mv s⟩
    | bag => exact q
    | obj u => obtain ⟨l, r, h1, h2, h3, h4⟩ := q; exact ⟨l, r, .inl h1, h2, e.kp l _ h3 h4.nt, h4⟩
    | ro l w => obtain ⟨r, h1, h2, h3, h4⟩ := q; exact ⟨r, fun z => z.elim h1 (ne_of_none h3 hp), h2, e.kp l _ h3 h4, h4⟩
/-- the fresh address is let go again -/
theorem Sg.back (g : Sg Z Bg H O σ ss) (g' : Sg Z Bg H' (Lg.more O p) σ ss) : Sg Z Bg H' O σ ss := by
  have f : ∀ a, O a ∨ Z a → Lg.more O p a ∨ Z a := fun a q => q.elim (fun z => .inl (.inl z)) .inr
  refine ⟨⟨fun a q => g'.wd.al a (f a q), g.wd.dj, fun b hb => ?_, g'.wd.tb⟩, g.len, fun i v s h1 h2 => ?_, g.ap⟩
  · obtain ⟨_, i, j, k, c, ns, h1, h2, h3, h4⟩ := g'.wd.bg b hb
    exact ⟨(g.wd.bg b hb).1, i, j, k, c, ns, h1, fun q => h2 (.inl q), h3, h4⟩
  · have q := g'.sl i v s h1 h2
    cases s with
    | un => trivial
    | im d => obtain ⟨x, r, q⟩ := q; exact ⟨x, r, q.less f⟩
    | own ds =>
      obtain ⟨l, xs, r, h1', h2', h3, h4⟩ := q
      obtain ⟨l2, xs2, r2, k1, _⟩ := g.sl i v _ h1 h2
      rw [r] at r2; cases r2
      exact ⟨l, xs, r, k1, h2', h3, h4.less f⟩
    | bag => exact q
    | obj u =>
      obtain ⟨l, r, h1', h2', h3, h4⟩ := q
      obtain ⟨l2, r2, k1, _⟩ := g.sl i v _ h1 h2
      rw [r] at r2; cases r2
      exact ⟨l, r, k1, h2', h3, h4⟩
    | ro l w => obtain ⟨r, h1, h2, h3, h4⟩ := q; exact ⟨r, fun z => h1 (.inl z), h2, h3, h4⟩
/-- a slot gets a new list, a new dict of its own -/
theorem Sg.setNew (g0 : Sg Z Bg H O σ ss) (g : Sg Z Bg H' (Lg.more O p) σ ss) (hp : ¬ O p) (i : Nat) {s0 : Sl} (hs : SlOk Z Bg H' (Lg.more O p) (some (.ref p)) s0) : Sg Z Bg H' (Lg.more O p) (σ.set i (some (.ref p))) (ss.set i s0) := by
  have np : ∀ (j : Nat) (l : Addr), IsOwn ss[j]? → σ[j]? = some (some (.ref l)) → l ≠ p := by
    intro j l h1 h2 e
    cases q : ss[j]? with
    | none => rw [q] at h1; exact h1.elim
    | some s =>
      rw [q] at h1
      cases s with
      | own es =>
        obtain ⟨l', xs, h3, h4, _⟩ := g0.own q
        rw [h2] at h3; cases h3
        exact hp (e ▸ h4)
      | obj u =>
        obtain ⟨v', h3, l', h4, h5, _⟩ := g0.at_ q
        rw [h2] at h3; cases h3
        cases h4
        exact hp (e ▸ h5)
      | ro _ _ => exact h1.elim
      | un => exact h1.elim
      | im _ => exact h1.elim
      | bag => exact h1.elim
  have hbp : Bg ≠ some p := fun z => hp (g0.wd.bg p z).1
  refine ⟨g.wd, by rw [List.length_set, List.length_set]; exact g.len, fun j w s h1 h2 => ?_, fun j k l hjk h1 h2 h3 h4 => ?_⟩
  · by_cases e : i = j
    · subst e
      have hi : i < ss.length := by have := (List.getElem?_eq_some_iff.mp h2).1; simpa using this
      rw [List.getElem?_set_self (by rw [g.len]; exact hi)] at h1
      rw [List.getElem?_set_self hi] at h2
      cases h1; cases h2
      exact hs
    · rw [List.getElem?_set_ne e] at h1 h2
      exact g.sl j w s h1 h2
  · have key : ∀ (j : Nat) (l : Addr), IsOwn (ss.set i s0)[j]? → (σ.set i (some (.ref p)))[j]? = some (some (.ref l)) → (j = i ∧ l = p) ∨ (j ≠ i ∧ IsOwn ss[j]? ∧ σ[j]? = some (some (.ref l))) := by
      intro j l q r
      by_cases e : i = j
      · subst e
        by_cases hi : i < ss.length
        · rw [List.getElem?_set_self (by rw [g.len]; exact hi)] at r
          cases r
          exact .inl ⟨rfl, rfl⟩
        · rw [List.getElem?_eq_none (by simp; omega)] at q; exact q.elim
      · rw [List.getElem?_set_ne e] at q r
        exact .inr ⟨fun z => e z.symm, q, r⟩
    rcases key j l h1 h3 with ⟨a1, a2⟩ | ⟨a1, a2, a3⟩
    · rcases key k l h2 h4 with ⟨b1, b2⟩ | ⟨b1, b2, b3⟩
      · exact hjk (a1.trans b1.symm)
      · exact np k l b2 b3 a2
    · rcases key k l h2 h4 with ⟨b1, b2⟩ | ⟨b1, b2, b3⟩
      · exact np j l a2 a3 b2
      · exact g.ap j k l hjk a2 b2 a3 b3
theorem Sg.setOwn (g0 : Sg Z Bg H O σ ss) (g : Sg Z Bg H' (Lg.more O p) σ ss) (hp : ¬ O p) (i : Nat) (hp' : H' p = some (.lst vs)) (hd : DqAll H' (Lg.more O p) Z vs ds) : Sg Z Bg H' (Lg.more O p) (σ.set i (some (.ref p))) (ss.set i (.own ds)) :=
  g0.setNew g hp i ⟨p, vs, rfl, .inr rfl, fun z => hp (g0.wd.bg p z).1, hp', hd⟩
/-- a list of one's own is changed -/
theorem Sg.writeS (g : Sg Z Bg H O σ ss) (ho : IsOwn ss[i]?) {l : Addr} (hl : σ[i]? = some (some (.ref l))) (h2 : O l) (h3 : Bg ≠ some l) {w u : HO} (h4 : H l = some w) (mw : IsMu w) {s1 : Sl} (i1 : IsOwn (some s1))
    (hn : Stp O O H (upd H l u) → SlOk Z Bg (upd H l u) O (some (.ref l)) s1) : Sg Z Bg (upd H l u) O σ (ss.set i s1) ∧ Stp O O H (upd H l u) := by
  obtain ⟨s0, h, _⟩ : ∃ s0, ss[i]? = some s0 ∧ True := by
    cases e : ss[i]? with
    | none => rw [e] at ho; exact ho.elim
    | some s0 => exact ⟨s0, rfl, trivial⟩
  have s : Stp O O H (upd H l u) := ⟨fun a u e t => by rw [upd_ne (IsTp.ne e t h4 mw.ntp)]; exact e, fun a o e n _ => by rw [upd_ne (fun z => n (by rw [z]; exact h2))]; exact e, fun a e n => by rw [upd_ne (fun z => n (by rw [z]; exact h2))]; exact e, fun a q => .inl q, fun t p hp => tab_updM h4 mw (t p hp)⟩
  have hi : i < ss.length := (List.getElem?_eq_some_iff.mp h).1
  refine ⟨⟨⟨fun a q => ?_, g.wd.dj, fun b hb => ?_, s.tb g.wd.tb⟩, by rw [List.length_set]; exact g.len, fun j w sl h1 h2 => ?_, fun j k m hjk a1 a2 a3 a4 => ?_⟩, s⟩
  · by_cases e : a = l
    · subst e; rw [upd_same]; exact fun z => nomatch z
    · rw [upd_ne e]; exact g.wd.al a q
  · obtain ⟨k1, k2⟩ := g.wd.bg b hb
    have nb : b ≠ l := fun e => h3 (by rw [hb, e])
    exact ⟨k1, k2.mv s (by rw [upd_ne nb])⟩
  · by_cases e : i = j
    · subst e
      rw [List.getElem?_set_self hi] at h2
      cases h2
      rw [hl] at h1; cases h1
      exact hn s
    · rw [List.getElem?_set_ne e] at h2
      have q := g.sl j w sl h1 h2
      cases sl with
      | un => trivial
      | im d => obtain ⟨x, r, q⟩ := q; exact ⟨x, r, q.mv s⟩
      | own ds' =>
        obtain ⟨l2, xs2, r, k1, k2, k3, k4⟩ := q
        subst r
        have nl : l2 ≠ l := fun z => g.ap i j l e ho (by rw [h2]; trivial) hl (by rw [h1, z])
        exact ⟨l2, xs2, rfl, k1, k2, by rw [upd_ne nl]; exact k3, k4.mv s⟩
      | obj u2 =>
        obtain ⟨l2, r, k1, k2, k3, k4⟩ := q
        subst r
        have nl : l2 ≠ l := fun z => g.ap i j l e ho (by rw [h2]; trivial) hl (by rw [h1, z])
        exact ⟨l2, rfl, k1, k2, by rw [upd_ne nl]; exact k3, k4⟩
      | ro l2 w2 => obtain ⟨r, k1, k2, k3, k4⟩ := q; exact ⟨r, k1, k2, by rw [upd_ne (fun z => k1 (by rw [z]; assumption))]; exact k3, k4⟩
      | bag => exact q
  · have nj : ∀ (j : Nat), IsOwn (ss.set i s1)[j]? → IsOwn ss[j]? := by
      intro j q
      by_cases e : i = j
      · subst e; exact ho
      · rw [List.getElem?_set_ne e] at q; exact q
    exact g.ap j k m hjk (nj j a1) (nj k a2) a3 a4
theorem Sg.write (g : Sg Z Bg H O σ ss) (h : ss[i]? = some (.own ds)) {l : Addr} (hl : σ[i]? = some (some (.ref l))) {ys : List V} {es : List D} (hd : DqAll H O Z ys es) :
    Sg Z Bg (upd H l (.lst ys)) O σ (ss.set i (.own es)) ∧ Stp O O H (upd H l (.lst ys)) := by
  obtain ⟨l', xs, h1, h2, h3, h4, h5⟩ := g.own h
  rw [hl] at h1; cases h1
  exact g.writeS (by rw [h]; trivial) hl h2 h3 h4 trivial trivial fun s => ⟨l, ys, rfl, h2, h3, upd_same, hd.mv s⟩
/-- a list of one's own is read only from here on -/
theorem Sg.freeze (g : Sg Z Bg H O σ ss) (h : ss[i]? = some (.own ds)) {l : Addr} (hl : σ[i]? = some (some (.ref l))) :
    Sg Z Bg H (fun a => O a ∧ a ≠ l) σ (ss.set i (.im (.lst ds))) ∧ Stp O (fun a => O a ∧ a ≠ l) H H := by
  obtain ⟨l', xs, h1, h2, h3, h4, h5⟩ := g.own h
  rw [hl] at h1; cases h1
  have f : ∀ a, (O a ∧ a ≠ l) ∨ Z a → O a ∨ Z a := fun a q => q.elim (fun z => .inl z.1) .inr
  have hi : i < ss.length := (List.getElem?_eq_some_iff.mp h).1
  refine ⟨⟨⟨fun a q => g.wd.al a (f a q), fun a q => g.wd.dj a q.1, fun b hb => ?_, g.wd.tb⟩, by rw [List.length_set]; exact g.len, fun j w sl h1 h2 => ?_, fun j k m hjk a1 a2 a3 a4 => ?_⟩, ⟨fun a u e _ => e, fun a o e _ _ => e, fun a e _ => e, fun a q => .inl q.1, fun t => t⟩⟩
  · obtain ⟨k1, i', j, k, c, ns, q1, q2, q3, q4⟩ := g.wd.bg b hb
    exact ⟨⟨k1, fun e => h3 (by rw [hb, e])⟩, i', j, k, c, ns, q1, fun z => q2 z.1, q3, q4⟩
  · by_cases e : i = j
    · subst e
      rw [List.getElem?_set_self hi] at h2
      cases h2
      rw [hl] at h1; cases h1
      exact ⟨.ref l, rfl, .lst (fun z => z.2 rfl) (g.wd.dj l h2) h4 (h5.less f)⟩
    · rw [List.getElem?_set_ne e] at h2
      have q := g.sl j w sl h1 h2
      cases sl with
      | un => trivial
      | im d => obtain ⟨x, r, q⟩ := q; exact ⟨x, r, q.less f⟩
      | own ds' =>
        obtain ⟨l2, xs2, r, k1, k2, k3, k4⟩ := q
        subst r
        have nl : l2 ≠ l := fun z => g.ap i j l e (by rw [h]; trivial) (by rw [h2]; trivial) hl (by rw [h1, z])
        exact ⟨l2, xs2, rfl, ⟨k1, nl⟩, k2, k3, k4.less f⟩
      | obj u2 =>
        obtain ⟨l2, r, k1, k2, k3, k4⟩ := q
        subst r
        have nl : l2 ≠ l := fun z => g.ap i j l e (by rw [h]; trivial) (by rw [h2]; trivial) hl (by rw [h1, z])
        exact ⟨l2, rfl, ⟨k1, nl⟩, k2, k3, k4⟩
      | ro l2 w2 => obtain ⟨r, k1, k2, k3, k4⟩ := q; exact ⟨r, fun z => k1 z.1, k2, k3, k4⟩
      | bag => exact q
  · have nj : ∀ (j : Nat), IsOwn (ss.set i (.im (.lst ds)))[j]? → IsOwn ss[j]? := by
      intro j q
      by_cases e : i = j
      · subst e; rw [h]; trivial
      · rw [List.getElem?_set_ne e] at q; exact q
    exact g.ap j k m hjk (nj j a1) (nj k a2) a3 a4
end
end Lg
end
section
set_option Elab.async false
set_option linter.all false
set_option maxRecDepth 100000
/-! Own rules: enumerate over a tuple, zip of a list and a tuple, either of two sources. -/
namespace Lr
open PySem PySem.Spec PyProof.Rows L2
open AutoSeq1 (wpAny_loadPart')
theorem PI.or {X : Cx} {tg e : Expr} {w1 w2 : TI} (h1 : PI X tg e w1) (h2 : PI X tg e w2) : PI X tg e (fun σ H R => w1 σ H R ∨ w2 σ H R) :=
  ⟨fun pins s σ H R I h => h.elim (h1.run pins s σ H R I) (h2.run pins s σ H R I)⟩
set_option maxHeartbeats 1000000 in
theorem meets_enumT (l : Addr) (items : Array Value) :
    Meets (Builtin.«enumerate.__new__» ⟨[.type "enumerate", .ref l], []⟩) (fun _ R s => s.heap.IsTuple l items ∧
      R (.ok (.ret (.ref (s.heap.push { cls := .type "tuple_iterator", data := .fields #[.ref l, .int 0 0] }).objs.size)))
        { s with heap := (s.heap.push { cls := .type "tuple_iterator", data := .fields #[.ref l, .int 0 0] }).push { cls := .type "enumerate", data := .fields #[.none, .bool false, .ref s.heap.objs.size, rawInt 0, .none, .none] } }) :=
  .of_wp fun prog w A R s h => by
    obtain ⟨hp, g, d, tk, os⟩ := s; obtain ⟨hL, h⟩ := h
    have hsub := sub_enumerate
    have B := begins_tuple l items
    have it : ∀ {Q : Value → Shared → Prop} {E : Value → Shared → Prop} {A : Around}, Q (.ref hp.objs.size) ⟨hp.push { cls := .type "tuple_iterator", data := .fields #[.ref l, .int 0 0] }, g, d, tk, os⟩ → wpAny (model prog w) A (pyIter (.ref l)) Q E ⟨hp, g, d, tk, os⟩ := fun q => B.iter _ _ _ _ _ _ hL q
    wp_walk
    refine wpAny_stack_any fun st => wpAny_pure ?_
    split
    · rename_i c _ _ _ _ _
      cases (c == Value.type "enumerate")
      · wp_walk using it
        exact ⟨_, rfl, h⟩
      · wp_walk using it
        exact ⟨_, rfl, h⟩
    · wp_walk using it
      exact ⟨_, rfl, h⟩
theorem call_enumT {prog : Program} {w : World} {A : Around} {E : Value → Shared → Prop} {s : Shared} {l : Addr} {items : Array Value} {Q : Value → Shared → Prop} (hL : s.heap.IsTuple l items)
    (h : ∀ h', IsEnum h' (s.heap.objs.size + 1) s.heap.objs.size 0 .none → h'.IsTupleIter s.heap.objs.size l 0 → h'.objs.size = s.heap.objs.size + 2 →
      (∀ b o, s.heap.get? b = some o → h'.get? b = some o) → Q (.ref (s.heap.objs.size + 1)) { s with heap := h' }) :
    wpAny (model prog w) A (call (.type "enumerate") [.ref l]) Q E s := by
  refine callType_new F.called_enumerate (by decide) (F.typeCall_enumerate_1 _) (F.newCall_enumerate_1 _) (fun obj => F.args_object_init_2 obj _) F.entry_enumerate_new
    (meets_enumT l items) ⟨hL, ?_⟩
  have hz : (s.heap.push { cls := .type "tuple_iterator", data := .fields #[.ref l, .int 0 0] }).objs.size = s.heap.objs.size + 1 := Heap.size_push ..
  show _ ∧ _
  rw [hz]
  have he : IsEnum ((s.heap.push { cls := .type "tuple_iterator", data := .fields #[.ref l, .int 0 0] }).push
      { cls := .type "enumerate", data := .fields #[.none, .bool false, .ref s.heap.objs.size, rawInt 0, .none, .none] }) (s.heap.objs.size + 1) s.heap.objs.size 0 .none := by
    have := Heap.get?_push_size (s.heap.push { cls := .type "tuple_iterator", data := .fields #[.ref l, .int 0 0] })
      (o := { cls := .type "enumerate", data := .fields #[.none, .bool false, .ref s.heap.objs.size, rawInt 0, .none, .none] }) rfl
    rw [hz] at this; exact this
  refine ⟨⟨_, he, rfl⟩, h _ he ⟨_, Heap.get?_push_of_some _ (Heap.get?_push_size _ rfl), rfl, rfl⟩ (by rw [Heap.size_push, hz]) fun b o x => Heap.get?_push_of_some _ (Heap.get?_push_of_some _ x)⟩
/-- the tuple at a, each item in a new pair -/
def IteT (K : PySem.W.Frag) (a : Addr) : It :=
  ⟨fun i H => ∃ (xs : List V) (x : V), SqT K H a xs ∧ xs[i]? = some x, fun i H v H' => ∃ T x, v = .ref T ∧ H T = none ∧ H' = upd H T (.tup [.int (i : Nat), x]) ∧ ∀ xs, SqT K H a xs → xs[i]? = some x, fun i H => ∃ xs : List V, SqT K H a xs ∧ xs.length = i⟩
theorem turn_enumT {P : Program} {w : World} {K : PySem.W.Frag} {elts : List Expr} {kk : Nat} {tpos : Pos} (a e it : Addr) (hae : a ≠ e) (hai : a ≠ it) :
    Turn P w K (.Tuple elts kk tpos) (IteT K a) [e, it] e (fun i h => (∃ old, IsEnum h e it ((i : Nat) : Int) old) ∧ h.IsTupleIter it a i ∧ e ≠ it) where
  mem := by simp
  obj := fun i h st b hb => by
    obtain ⟨⟨old, he⟩, ⟨o, ho, hc, hd⟩, _⟩ := st
    have e' : b = e ∨ b = it := by simpa using hb
    rcases e' with z | z
    · rw [z]; exact ⟨_, he, fun v q => nomatch q⟩
    · rw [z]; exact ⟨o, ho, fun v q => by rw [hd] at q; cases q⟩
  keep := fun i h h' st k => let ⟨⟨old, he⟩, hi, hne⟩ := st; ⟨⟨old, k e (by simp) _ he⟩, hi.at fun o q => k it (by simp) o q, hne⟩
  item := by
    intro X hP hw hK hc i pins s σ H E I hf st hg
    subst hP hw hK
    obtain ⟨⟨old, he⟩, hit, hne⟩ := st
    obtain ⟨xs, x, hq, hx⟩ := hg
    obtain ⟨its, rv, p, hz⟩ := I.tuple hq
    have hx' : its[i]? = some (its[i]'(by have := (List.getElem?_eq_some_iff.mp hx).1; have := rv.length; omega)) := List.getElem?_eq_getElem _
    obtain ⟨u0, hu, ru0⟩ := rv.get hx
    have hel : e < s.heap.objs.size := Heap.lt_size he
    have hil : it < s.heap.objs.size := by obtain ⟨_, q, _⟩ := hit; exact Heap.lt_size q
    have D := Draws.tuple (prog := X.prog) (w := X.w) (A := X.A.in1) (I.ok.hd hc) it a hai its.toArray
    refine wpAny_pyNext_enum_itemD D he ⟨hit, p⟩ (by have := (List.getElem?_eq_some_iff.mp hu).1; simpa using this) hne (by simp [hne, Ne.symm hae]) fun u h' tk pu ho hit' hT hsz hk => ?_
    have eu : u = u0 := by
      have : its[i]? = some u := by simpa using pu
      rw [hu] at this; cases this; rfl
    subst eu
    refine ⟨_, rfl, wpAny_letOwnedTupleGo_enum (s := { s with heap := h', toks := tk + 1 }) ho fun h'' he' sb => ?_⟩
    have hT2 : h''.get? s.heap.objs.size = some { cls := .type "tuple", data := .seq #[.int i tk, u] } := (sb.2 _ (Nat.ne_of_gt hel)).trans hT
    have new : ObjOk X.prog X.w (upd H s.heap.objs.size (.tup [.int (i : Nat), x])) h'' s.heap.objs.size (.tup [.int (i : Nat), x]) :=
      ⟨by show 2 ≤ sizeLine; decide, [.int i tk, u], .cons ⟨_, rfl⟩ (.cons ru0 .nil), ⟨_, hT2, rfl, _, rfl⟩⟩
    have I1 : Inv X pins σ (upd H s.heap.objs.size (.tup [.int (i : Nat), x])) { s with heap := h'', toks := tk + 1 } :=
      I.turnedNew (ch := [e, it]) (fun b ob hb q => (sb.2 b (fun z => hb (by simp [z]))).trans (hk b ob (fun z => hb (by simp [z])) (fun z => hb (by simp [z])) q)) hf (Nat.le_refl _) new
    refine ⟨.ref s.heap.objs.size, _, I1, rfl, ⟨_, x, rfl, I.hok.fresh (Nat.le_refl _), rfl, fun ys hy => by rw [I.tuple_inj hy hq]; exact hx⟩, ⟨⟨u, ?_⟩, hit'.1.at fun o q => (sb.2 it (Ne.symm hne)).trans q, hne⟩, fun b hb => ?_⟩
    · have e1 : ((i + 1 : Nat) : Int) = (i : Int) + 1 := by omega
      rw [e1]; exact he'
    · have hb' : b < s.heap.objs.size := by
        have e' : b = e ∨ b = it := by simpa using hb
        rcases e' with z | z
        · rw [z]; exact hel
        · rw [z]; exact hil
      rw [upd_ne (Nat.ne_of_lt hb')]
      exact (hf b hb).1
  done := by
    intro X hP hw hK hc i pins s σ H E I hf st hg
    subst hP hw hK
    obtain ⟨⟨old, he⟩, hit, hne⟩ := st
    obtain ⟨xs, hq, hx⟩ := hg
    obtain ⟨its, rv, p, hz⟩ := I.tuple hq
    obtain ⟨f0, f1, f2, f3, f4, f5⟩ := hf it (by simp)
    have hl := rv.length
    have D := Draws.tuple (prog := X.prog) (w := X.w) (A := X.A.in1) (I.ok.hd hc) it a hai its.toArray
    refine wpAny_pyNext_enum_endD D he ⟨?_, p⟩ fun h' eb => ⟨rfl, I.turned (t' := s.toks) (fun b o hb q => eb b o hb q) f0 f1 f3 f4 f5⟩
    have : its.toArray.size = i := by simp; omega
    rw [this]; exact hit
  self := fun A i s Q E st h => let ⟨⟨_, he⟩, _⟩ := st; wpAny_pyIter_enum he h
def iEnumT (K : PySem.W.Frag) (ta : TA) : TI := fun σ H R => ta σ H fun vs H1 => ∃ a xs, vs = [.ref a] ∧ SqT K H1 a xs ∧ R (IteT K a) H1
theorem pi_enumT {X : Cx} {e : Expr} {ta : TA} {p pos tpos : Pos} {elts : List Expr} {kk : Nat} (hg : Gl X "enumerate") (hm : X.mg "enumerate" = none) (ha : PA X [e] ta) (hs : starEach [e] X.env = [(false, eval e X.env)] := by rfl) :
    PI X (.Tuple elts kk tpos) (.Call (.Name "enumerate" p) [e] [] pos) (iEnumT X.K ta) := by
  refine ⟨fun pins s σ H R I h => ?_⟩
  refine Call_ (ld_blt I hg hm boot_enumerate (PyProof.Rows.callWith_type1 (thn (ha.run pos pins s σ H _ I h) fun us s1 ⟨vs, H1, I1, r1, q1⟩ => ?_) hs rfl))
  obtain ⟨a, xs, ex, hq, q⟩ := q1
  subst ex
  cases r1 with
  | cons r rr =>
    cases rr
    cases r
    obtain ⟨its, rv, p', hz⟩ := I1.tuple hq
    obtain ⟨oa, hoa, _⟩ := id p'
    have hal : a < s1.heap.objs.size := Heap.lt_size hoa
    refine call_enumT (show s1.heap.IsTuple a its.toArray from p') fun h' he hit hsz hk => wpAny_pyIter_enum he ?_
    have I2 : Inv X pins σ H1 { s1 with heap := h' } := I1.kept (t' := s1.toks) hk
    refine ⟨s1.heap.objs.size + 1, [s1.heap.objs.size + 1, s1.heap.objs.size], _, _, H1, rfl, I2, turn_enumT a (s1.heap.objs.size + 1) s1.heap.objs.size (Nat.ne_of_lt (Nat.lt_succ_of_lt hal)) (Nat.ne_of_lt hal), ⟨⟨.none, he⟩, hit, Nat.succ_ne_self _⟩, fun b hb => ?_, q⟩
    have e' : b = s1.heap.objs.size + 1 ∨ b = s1.heap.objs.size := by simpa using hb
    have hle : s1.heap.objs.size ≤ b := by
      rcases e' with z | z
      · rw [z]; exact Nat.le_add_right _ _
      · rw [z]; exact Nat.le_refl _
    exact I1.fpOk hle (I1.hok.fresh hle)
/-- a list at a, a tuple at b -/
def ItzM (K : PySem.W.Frag) (a b : Addr) : It :=
  ⟨fun i H => ∃ (xs ys : List V) (x y : V), SqL K H a xs ∧ SqT K H b ys ∧ xs[i]? = some x ∧ ys[i]? = some y,
    fun i H v H' => ∃ T x y, v = .ref T ∧ H T = none ∧ H' = upd H T (.tup [x, y]) ∧ (∀ xs, SqL K H a xs → xs[i]? = some x) ∧ ∀ ys, SqT K H b ys → ys[i]? = some y,
    fun i H => ∃ xs ys : List V, SqL K H a xs ∧ SqT K H b ys ∧ xs.length = i ∧ ys.length = i⟩
theorem sep_of {a b z TI TO i1 i2 : Addr} (D : ZipApart z TI TO i1 i2 a b) : ZipSep2 z TI TO i1 i2 [i1, a] [i2, b] where
  TIz := D.TIz
  TOz := D.TOz
  TITO := D.TITO
  TIi1 := D.TIi1
  TIi2 := D.TIi2
  mem1 := by simp
  mem2 := by simp
  zf1 := by simp [D.l1z.symm, D.i1z.symm]
  zf2 := by simp [D.l2z.symm, D.i2z.symm]
  Tf1 := by simp [D.l1TO.symm, D.TOi1]
  Tf2 := by simp [D.l2TO.symm, D.TOi2]
  sep1_2 := by simp [D.i12, D.l2i1.symm]
  sep2_1 := by simp [D.i12.symm, D.l1i2.symm]
theorem turn_zipM {P : Program} {w : World} {K : PySem.W.Frag} {elts : List Expr} {kk : Nat} {tpos : Pos} {a b z TI TO i1 i2 : Addr} (D : ZipApart z TI TO i1 i2 a b) :
    Turn P w K (.Tuple elts kk tpos) (ItzM K a b) [z, TI, TO, i1, i2] z (fun i h => IsZip h z TI TO .none ∧ IsTupOf2 h TI (.ref i1) (.ref i2) ∧ (∃ x y, IsTupOf2 h TO x y) ∧ h.IsListIter i1 a i ∧ h.IsTupleIter i2 b i) where
  mem := by simp
  obj := fun i h st c hc => by
    obtain ⟨hz, hTI, ⟨x, y, hTO⟩, ⟨o1, e1, _, d1⟩, ⟨o2, e2, _, d2⟩⟩ := st
    have e' : c = z ∨ c = TI ∨ c = TO ∨ c = i1 ∨ c = i2 := by simpa using hc
    rcases e' with q | q | q | q | q
    · rw [q]; exact ⟨_, hz, fun v q => nomatch q⟩
    · rw [q]; exact ⟨_, hTI, fun v q => nomatch q⟩
    · rw [q]; exact ⟨_, hTO, fun v q => nomatch q⟩
    · rw [q]; exact ⟨o1, e1, fun v q => by rw [d1] at q; cases q⟩
    · rw [q]; exact ⟨o2, e2, fun v q => by rw [d2] at q; cases q⟩
  keep := fun i h h' st k => by
    obtain ⟨hz, hTI, ⟨x, y, hTO⟩, h1, h2⟩ := st
    exact ⟨k z (by simp) _ hz, k TI (by simp) _ hTI, ⟨x, y, k TO (by simp) _ hTO⟩, h1.at fun o q => k i1 (by simp) o q, h2.at fun o q => k i2 (by simp) o q⟩
  item := by
    intro X hP hw hK hc i pins s σ H E I hf st hg
    subst hP hw hK
    obtain ⟨hz, hTI, ⟨x0, y0, hTO⟩, h1, h2⟩ := st
    obtain ⟨xs, ys, x, y, hqx, hqy, hx, hy⟩ := hg
    obtain ⟨its, rv, p, _⟩ := I.list hqx
    obtain ⟨its2, rv2, p2, _⟩ := I.tuple hqy
    obtain ⟨u, hu, ru⟩ := rv.get hx
    obtain ⟨u2, hu2, ru2⟩ := rv2.get hy
    have hzl : z < s.heap.objs.size := Heap.lt_size hz
    have D1 := Draws.list (prog := X.prog) (w := X.w) (A := X.A.in1) (I.ok.hd hc) i1 a D.l1i1 its.toArray
    have D2 := Draws.tuple (prog := X.prog) (w := X.w) (A := X.A.in1) (I.ok.hd hc) i2 b D.l2i2 its2.toArray
    refine wpAny_pyNext_zipD2_item (sep_of D) D1 D2 hz hTI hTO ⟨h1, p.isList⟩ ⟨h2, p2⟩ (by have := (List.getElem?_eq_some_iff.mp hu).1; simpa using this) (by have := (List.getElem?_eq_some_iff.mp hu2).1; simpa using this) fun v1 v2 h' tk pv1 pv2 z' TO' h1' h2' hT hsz hk => ?_
    have e1 : v1 = u := by
      have : its[i]? = some v1 := by simpa using pv1
      rw [hu] at this; cases this; rfl
    have e2 : v2 = u2 := by
      have : its2[i]? = some v2 := by simpa using pv2
      rw [hu2] at this; cases this; rfl
    subst e1 e2
    refine ⟨_, rfl, wpAny_letOwnedTupleGo_zip (s := { s with heap := h', toks := tk }) z' fun h'' z'' sb => ?_⟩
    have hT2 : h''.get? s.heap.objs.size = some { cls := .type "tuple", data := .seq #[v1, v2] } := (sb.2 _ (Nat.ne_of_gt hzl)).trans hT
    have new : ObjOk X.prog X.w (upd H s.heap.objs.size (.tup [x, y])) h'' s.heap.objs.size (.tup [x, y]) :=
      ⟨by show 2 ≤ sizeLine; decide, [v1, v2], .cons ru (.cons ru2 .nil), ⟨_, hT2, rfl, _, rfl⟩⟩
    have I1 : Inv X pins σ (upd H s.heap.objs.size (.tup [x, y])) { s with heap := h'', toks := tk } :=
      I.turnedNew (t' := tk) (ch := [z, TI, TO, i1, i2]) (fun c o hb q => (sb.2 c (fun q' => hb (by simp [q']))).trans (hk c o (fun q' => hb (by simp [q'])) (fun q' => hb (by simp [q'])) (fun q' => hb (by simp [q'])) (fun q' => hb (by simp [q'])) q)) hf (Nat.le_refl _) new
    refine ⟨.ref s.heap.objs.size, _, I1, rfl, ⟨_, x, y, rfl, I.hok.fresh (Nat.le_refl _), rfl, fun l hl => by rw [I.list_inj hl hqx]; exact hx, fun l hl => by rw [I.tuple_inj hl hqy]; exact hy⟩, ⟨z'', ?_, ⟨v1, v2, ?_⟩, ?_, ?_⟩, fun c hcm => ?_⟩
    · exact (sb.2 _ D.TIz).trans (hk _ _ D.TIz D.TITO D.TIi1 D.TIi2 hTI)
    · exact (sb.2 _ D.TOz).trans TO'
    · exact h1'.1.at fun o q => (sb.2 _ D.i1z).trans q
    · exact h2'.1.at fun o q => (sb.2 _ D.i2z).trans q
    · have hlt : c < s.heap.objs.size := by
        have e' : c = z ∨ c = TI ∨ c = TO ∨ c = i1 ∨ c = i2 := by simpa using hcm
        rcases e' with q | q | q | q | q
        · rw [q]; exact hzl
        · rw [q]; exact Heap.lt_size hTI
        · rw [q]; exact Heap.lt_size hTO
        · rw [q]; obtain ⟨_, e1, _⟩ := h1; exact Heap.lt_size e1
        · rw [q]; obtain ⟨_, e2, _⟩ := h2; exact Heap.lt_size e2
      rw [upd_ne (Nat.ne_of_lt hlt)]
      exact (hf c hcm).1
  done := by
    intro X hP hw hK hc i pins s σ H E I hf st hg
    subst hP hw hK
    obtain ⟨hz, hTI, ⟨x0, y0, hTO⟩, h1, h2⟩ := st
    obtain ⟨xs, ys, hqx, hqy, l1', l2'⟩ := hg
    obtain ⟨its, rv, p, _⟩ := I.list hqx
    obtain ⟨its2, rv2, p2, _⟩ := I.tuple hqy
    have l1 := rv.length
    have l2 := rv2.length
    have D1 := Draws.list (prog := X.prog) (w := X.w) (A := X.A.in1) (I.ok.hd hc) i1 a D.l1i1 its.toArray
    have D2 := Draws.tuple (prog := X.prog) (w := X.w) (A := X.A.in1) (I.ok.hd hc) i2 b D.l2i2 its2.toArray
    refine wpAny_pyNext_zipD2_end (sep_of D) D1 D2 hz hTI hTO ⟨h1, p.isList⟩ ⟨h2, p2⟩ (by simp; omega) (by simp; omega) (.inl (by simp; omega)) fun h' tk hk => ⟨rfl, I.turnedL (t' := tk) (ch := [z, TI, TO, i1, i2]) (fun c o hb q =>
      hk c o (fun q' => hb (by simp [q'])) (fun q' => hb (by simp [q'])) (fun q' => hb (by simp [q'])) (fun q' => hb (by simp [q'])) q) hf⟩
  self := fun A i s Q E st h => wpAny_pyIter_zip st.1 h
def iZipM (K : PySem.W.Frag) (ta : TA) : TI := fun σ H R => ta σ H fun vs H1 => ∃ a b xs ys, vs = [.ref a, .ref b] ∧ SqL K H1 a xs ∧ SqT K H1 b ys ∧ R (ItzM K a b) H1
theorem pi_zipM {X : Cx} {e e2 : Expr} {ta : TA} {p pos tpos : Pos} {elts : List Expr} {kk : Nat} (hg : Gl X "zip") (hm : X.mg "zip" = none) (ha : PA X [e, e2] ta)
    (hs : starEach [e, e2] X.env = (false, eval e X.env) :: starEach [e2] X.env := by rfl) (hpl : (backTo pos (starEach [e2] X.env)).any (·.1) = false := by rfl) :
    PI X (.Tuple elts kk tpos) (.Call (.Name "zip" p) [e, e2] [] pos) (iZipM X.K ta) := by
  refine ⟨fun pins s σ H R I h => ?_⟩
  refine Call_ (ld_blt I hg hm PyProof.Rows.boot_zip (PyProof.Rows.callWith_type1 (thn (ha.run pos pins s σ H _ I h) fun us s1 ⟨vs, H1, I1, r1, q1⟩ => ?_) hs hpl))
  obtain ⟨a, b, xs, ys, ex, hqx, hqy, q⟩ := q1
  subst ex
  cases r1 with
  | cons r rr =>
    cases rr with
    | cons r' rr =>
      cases rr
      cases r
      cases r'
      have fresh5 : ∀ c, c ∈ [s1.heap.objs.size + 4, s1.heap.objs.size + 2, s1.heap.objs.size + 3, s1.heap.objs.size, s1.heap.objs.size + 1] → FpOk X pins H1 c := fun c hcm => by
        have e' : c = s1.heap.objs.size + 4 ∨ c = s1.heap.objs.size + 2 ∨ c = s1.heap.objs.size + 3 ∨ c = s1.heap.objs.size ∨ c = s1.heap.objs.size + 1 := by simpa using hcm
        have hle : s1.heap.objs.size ≤ c := by
          rcases e' with z | z | z | z | z
          · rw [z]; exact Nat.le_add_right _ _
          · rw [z]; exact Nat.le_add_right _ _
          · rw [z]; exact Nat.le_add_right _ _
          · rw [z]; exact Nat.le_refl _
          · rw [z]; exact Nat.le_add_right _ _
        exact I1.fpOk hle (I1.hok.fresh hle)
      obtain ⟨its, rv, p1, _⟩ := I1.list hqx
      obtain ⟨its2, rv2, p2, _⟩ := I1.tuple hqy
      obtain ⟨o2, ho2, _⟩ := id p2
      refine zip_begins2 (begins_list a its.toArray) (begins_tuple b its2.toArray) p1.isList (show s1.heap.IsTuple b its2.toArray from p2) fun h' hz hTI hTO h1 h2 hsz hk => wpAny_pyIter_zip hz ?_
      have I2 : Inv X pins σ H1 { s1 with heap := h' } := I1.kept (t' := s1.toks) hk
      exact ⟨s1.heap.objs.size + 4, [s1.heap.objs.size + 4, s1.heap.objs.size + 2, s1.heap.objs.size + 3, s1.heap.objs.size, s1.heap.objs.size + 1], _, _, H1, rfl, I2, turn_zipM (PySem.W.ktu_apart s1.heap.objs.size a b p1.lt (Heap.lt_size ho2)), ⟨hz, hTI, ⟨_, _, hTO⟩, ⟨_, h1, rfl, rfl⟩, ⟨_, h2, rfl, rfl⟩⟩, fresh5, q⟩
end Lr
end
section
set_option Elab.async false
set_option linter.all false
set_option maxRecDepth 100000
/-! Own rules: tuples whose object is known (their methods), tuple * int of any kind, sum of a tuple, max of three, items changed in place. -/
namespace Lr
open PySem PySem.Spec PyProof.Rows L2
open AutoSeq1 (wpAny_loadPart')
section
variable {X : Cx}
theorem PE.or {e : Expr} {t u : TE} (h : PE X e t) (h' : PE X e u) : PE X e (fun σ H Q => t σ H Q ∨ u σ H Q) := ⟨fun pins s σ H Q I q => q.elim (h.run pins s σ H Q I) (h'.run pins s σ H Q I)⟩
theorem CallR.or {f : Value} {r r' : List V → Hp → VK → Prop} (h : CallR X f r) (h' : CallR X f r') : CallR X f (fun xs H Q => r xs H Q ∨ r' xs H Q) := fun pins s σ H xs us Q I rv q => q.elim (h pins s σ H xs us Q I rv) (h' pins s σ H xs us Q I rv)
/-! ### tuples laid with their object -/
def tTupF (t : TA) : TE := fun σ H Q => t σ H fun xs H1 => xs.length ≤ sizeLine ∧ ∀ p o, H1 p = none → o.dict = none → Q (.ref p) (upd H1 p (.frz o (.tup xs)))
theorem pe_tupF {es : List Expr} {x1 : Nat} {pos : Pos} {t : TA} (h : PA X es t) : PE X (.Tuple es x1 pos) (tTupF t) := by
  refine ⟨fun pins s σ H Q I hq => ?_⟩
  refine wpAny_Tuple_spliced (thn (h.run pos pins s σ H _ I hq) fun us s1 ⟨xs, H1, I1, r, z, q⟩ => ⟨by rw [← r.length]; exact z, ?_⟩)
  have hf : H1 s1.heap.objs.size = none := I1.hok.fresh (Nat.le_refl _)
  refine ⟨.ref s1.heap.objs.size, upd H1 s1.heap.objs.size (.frz { cls := .type "tuple", data := .seq us.toArray } (.tup xs)), I1.laid (t' := s1.toks) (fun b u e => Heap.get?_push_of_some _ e) (Nat.le_refl _) ⟨Heap.get?_push_size _ rfl, ?_⟩, rfl, q _ _ hf rfl⟩
  exact ⟨z, us, r, ⟨_, Heap.get?_push_size _ rfl, rfl, _, rfl⟩⟩
/-- a display, either way -/
def tTupB (t : TA) : TE := fun σ H Q => tTup t σ H Q ∨ tTupF t σ H Q
theorem pe_tupB {es : List Expr} {x1 : Nat} {pos : Pos} {t : TA} (h : PA X es t) : PE X (.Tuple es x1 pos) (tTupB t) := PE.or (pe_tup h) (pe_tupF h)
/-- tuple(l), l a list -/
def rTupF (K : PySem.W.Frag) : List V → Hp → VK → Prop := fun xs H Q => ∃ p ys, xs = [.ref p] ∧ SqL K H p ys ∧ ∀ l o, H l = none → o.dict = none → Q (.ref l) (upd H l (.frz o (.tup ys)))
theorem call_tupF : CallR X (.type "tuple") (rTupF X.K) := by
  intro pins s σ H xs us Q I r h
  obtain ⟨p, ys, rfl, hs, q⟩ := h
  obtain ⟨u, rfl, ru⟩ := vals1 r
  obtain rfl : u = .ref p := ru
  obtain ⟨its, rv, pl, hz⟩ := I.list hs
  refine call_tuple_list pl.isList (fun h' hk => ?_) (by rw [List.size_toArray, ← rv.length]; exact hz)
  have I1 : Inv X pins σ H { s with heap := h' } := I.kept (t' := s.toks) hk
  have I2 : Inv X pins σ (upd H h'.objs.size (.frz { cls := .type "tuple", data := .seq its.toArray } (.tup ys))) { s with heap := h'.push { cls := .type "tuple", data := .seq its.toArray } } :=
    I1.laid (t' := s.toks) (fun b o e => Heap.get?_push_of_some _ e) (Nat.le_refl _) (show ObjOk X.prog X.w _ _ _ (.frz _ (.tup ys)) from ⟨Heap.get?_push_size _ rfl, hz, its, rv, IsTup.new _ _⟩)
  exact ⟨.ref h'.objs.size, _, I2, rfl, q _ _ (I1.hok.fresh (Nat.le_refl _)) rfl⟩
/-- tuple(range(..)) -/
def tTupRgF (te : L2.St → Hp → (Int → Int → Hp → Prop) → Prop) : TE := fun σ H Q => te σ H fun a b H1 => RgOk a b ∧ ∀ q o, H1 q = none → o.dict = none → Q (.ref q) (upd H1 q (.frz o (.tup (rgV a b))))
theorem pe_tupRgF {e : Expr} {te : L2.St → Hp → (Int → Int → Hp → Prop) → Prop} {p pos : Pos} (hc : X.calm = true) (hg : Gl X "tuple") (hm : X.mg "tuple" = none) (he : PRg X e te) (na : starEach [e] X.env = (false, eval e X.env) :: starEach [] X.env := by rfl) : PE X (.Call (.Name "tuple" p) [e] [] pos) (tTupRgF te) := by
  refine ⟨fun pins s σ H Q I h => ?_⟩
  refine Call_ (ld_blt I hg hm boot_tuple (PyProof.Rows.callWith_type1 (args_cons (thn (he pins s σ H _ I h) fun x s1 ⟨r, a, b, t, u, v, H1, ex, hr, I1, ok, q⟩ => args_nil ?_) na) na))
  subst ex
  obtain ⟨b1, b2, b3, b4, b5⟩ := ok
  refine call_tuple_range (n := (b - a).toNat) (I1.ok.hd hc) hr (small_one b1 b2 b3 b4) (rangeSize_nat a b) b5 fun h' tk acc hk hi => ?_
  have I2 : Inv X pins σ H1 { s1 with heap := h', toks := tk } := I1.kept hk
  refine ⟨.ref h'.objs.size, upd H1 h'.objs.size (.frz { cls := .type "tuple", data := .seq acc } (.tup (rgV a b))), I2.laid (t' := tk) (fun c o e => Heap.get?_push_of_some _ e) (Nat.le_refl _) (show ObjOk X.prog X.w _ _ _ (.frz _ (.tup (rgV a b))) from ⟨Heap.get?_push_size _ rfl, ?_, acc.toList, vals_rg hi, ?_⟩), rfl, q _ _ (I2.hok.fresh (Nat.le_refl _)) rfl⟩
  · rw [rgV_length, sizeLine_eq]; omega
  · rw [Array.toArray_toList]; exact IsTup.new _ _
/-- t + u, both not empty -/
def rCatF (K : PySem.W.Frag) : R2 := fun x y H Q => ∃ a b xs ys, x = .ref a ∧ y = .ref b ∧ SqT K H a xs ∧ SqT K H b ys ∧ xs.length + ys.length ≤ sizeLine ∧ xs ≠ [] ∧ ys ≠ [] ∧ ∀ p o, H p = none → o.dict = none → Q (.ref p) (upd H p (.frz o (.tup (xs ++ ys))))
theorem op_catF : OpR X (binaryOp .Add) (rCatF X.K) := by
  intro pins s σ H x y v u Q I rx ry h
  obtain ⟨a, b, xs, ys, rfl, rfl, ha, hb, hz, hx, hy, q2⟩ := h
  cases rx
  cases ry
  obtain ⟨its, r1, p1, _⟩ := I.tuple ha
  obtain ⟨its2, r2, p2, _⟩ := I.tuple hb
  refine HT.cat_tup p1 p2 (fun z => hx (r1.nil_iff.mp z)) (fun z => absurd (r2.nil_iff.mp z) hy) (fun z => ?_) (by rw [← r1.length, ← r2.length]; exact hz)
  refine ⟨.ref s.heap.objs.size, _, I.laid (t' := s.toks) (o := .frz { cls := .type "tuple", data := .seq (its ++ its2).toArray } (.tup (xs ++ ys))) (fun b ob q => Heap.get?_push_of_some _ q) (Nat.le_refl _) ⟨Heap.get?_push_size _ rfl, ?_⟩, rfl, q2 _ _ (I.hok.fresh (Nat.le_refl _)) rfl⟩
  exact ⟨by rw [List.length_append]; exact hz, _, r1.append r2, IsTup.new _ _⟩
/-! ### methods of such a tuple -/
def tBMT (r : V → List V → Hp → VK → Prop) (to : TE) (t : TA) : TE := fun σ H Q => to σ H fun x H1 => (∃ p o xs, x = .ref p ∧ H1 p = some (.frz o (.tup xs)) ∧ o.dict = none) ∧ t σ H1 fun xs H2 => r x xs H2 Q
theorem pe_bmT {o e : Expr} {es : List Expr} {to : TE} {t : TA} {name : Str} {apos cpos : Pos} {id : String} {r : V → List V → Hp → VK → Prop} (slot : Slot "tuple" name id) (hty : typeOf (.builtin id) = pure (.type "method_descriptor")) (hm : MtR X id r) (ho : PE X o to) (ha : PA X (e :: es) t)
    (hbase : attributeBase o name X.env (eval o X.env) = eval o X.env := by rfl)
    (hfew : ((backTo cpos (starEach (e :: es) X.env)).all (fun x => !x.1) && (backToKw cpos (keywordEach [] X.env)).all (fun x => x.1.isSome)
      && decide ((e :: es).length + ([] : List Keyword).length + (if ([] : List Keyword).isEmpty then 0 else 1) < 30)) = true := by rfl)
    (hline : (apos.endLine == cpos.line) = true := by rfl) (hs : starEach (e :: es) X.env = (false, eval e X.env) :: starEach es X.env := by rfl) (hplain : (backTo cpos (starEach es X.env)).any (·.1) = false := by rfl) :
    PE X (.Call (.Attribute o name apos) (e :: es) [] cpos) (tBMT r to t) := by
  refine ⟨fun pins s σ H Q I h => ?_⟩
  refine wpAny_Call_method_late hbase hfew hline rfl (thn (ho.run pins s σ H _ I h) fun v s1 ⟨x, H1, I1, r1, ⟨p, o, xs, e1, e2, e3⟩, q1⟩ => ?_)
  subst e1
  obtain rfl : v = .ref p := r1
  obtain ⟨g1, g2, its, g3, g4⟩ := I1.hok p _ e2
  have h1 : s1.TypeIs (.ref p) "tuple" := by obtain ⟨ob, h1, h2, _⟩ := g4; exact ⟨ob, h1, h2⟩
  have h2 : ∀ a, Value.ref p = .ref a → ∃ ob, s1.heap.get? a = some ob ∧ ob.dict = none := fun a e => by cases e; exact ⟨o, g1, e3⟩
  refine ⟨"tuple", id, PySem.F.plainAttrs_tuple, slot, hty, h1, h2, ?_⟩
  have hA := ha.run cpos pins s1 σ H1 _ I1 q1
  rw [hs] at hA ⊢
  refine Calls.callWith_builtin (by show (false || (backTo cpos (starEach es X.env)).any (·.1)) = false; rw [hplain] <;> rfl) (Calls.evalArgs_plain ?_)
  exact thn hA fun us s2 ⟨vs, H2, I2, r2, q2⟩ => hm pins s2 σ H2 (.ref p) vs _ us Q I2 rfl r2 q2
def rCntT (K : PySem.W.Frag) : V → List V → Hp → VK → Prop := fun x xs H Q => ∃ (p : Addr) (ns : List Int) (k : Int), x = .ref p ∧ xs = [.int k] ∧ SqT K H p (ns.map V.int) ∧ Q (.int (ns.count k : Nat)) H
theorem mt_tcount : MtR X "tuple.count" (rCntT X.K) := by
  intro pins s σ H x xs v us Q I rx rxs h
  obtain ⟨p, ns, k, rfl, rfl, hs, q⟩ := h
  cases rx
  obtain ⟨u, rfl, ru⟩ := rxs.one
  obtain ⟨t, rfl⟩ := ru
  obtain ⟨its, rv, ⟨⟨cls, dd, data, sl⟩, ho, hc, n, hd⟩, hlen⟩ := I.tuple hs
  simp only at hc hd
  subst hc hd
  have hi := ints_of_vals rv
  refine call_meets PySem.F.slot_tuple_count ⟨_, ho, rfl⟩ PySem.F.entry_tuple_count (PySem.F.args_tuple_count_2 _ _)
    (SeqAt.tuple_countAt p its.toArray n dd sl (.int k t) (eqk k)) ⟨ho, fun y hy => (eqk_gives hi y (by simpa using hy)).at _ _, ?_⟩
  have ec : its.toArray.toList.countP (eqk k) = ns.count k := eqk_count hi
  refine ⟨.int (ns.count k : Nat), H, I.tok _, ⟨s.toks, ?_⟩, q⟩
  show Value.int ((its.toArray.toList.countP (eqk k) : Nat) : Int) s.toks = Value.int ((ns.count k : Nat) : Int) s.toks
  rw [ec]
def rIdxT (K : PySem.W.Frag) : V → List V → Hp → VK → Prop := fun x xs H Q => ∃ (p : Addr) (ns : List Int) (k : Int) (j : Nat), x = .ref p ∧ xs = [.int k] ∧ SqT K H p (ns.map V.int) ∧ ns[j]? = some k ∧ (∀ m, m < j → ns[m]? ≠ some k) ∧ Q (.int (j : Nat)) H
theorem mt_tindex : MtR X "tuple.index" (rIdxT X.K) := by
  intro pins s σ H x xs v us Q I rx rxs h
  obtain ⟨p, ns, k, j, rfl, rfl, hs, hj, hno, q⟩ := h
  cases rx
  obtain ⟨u, rfl, ru⟩ := rxs.one
  obtain ⟨t, rfl⟩ := ru
  obtain ⟨its, rv, ⟨⟨cls, dd, data, sl⟩, ho, hc, n, hd⟩, hlen⟩ := I.tuple hs
  simp only at hc hd
  subst hc hd
  have hi := ints_of_vals rv
  have hl : its.toArray.size = ns.length := by rw [List.size_toArray, ← rv.length, List.length_map]
  have hjl : j < its.toArray.size := by rw [hl]; exact (List.getElem?_eq_some_iff.mp hj).1
  refine call_meets PySem.F.slot_tuple_index ⟨_, ho, rfl⟩ PySem.F.entry_tuple_index (PySem.F.args_tuple_index_2 _ _) (TI.tuple_indexAt p its.toArray n dd sl (.int k t) (eqk k) j hjl ?_ ?_)
    ⟨ho, fun y hy => (eqk_gives hi y (by simpa using hy)).at _ _, ⟨.int (j : Nat), H, I.tok _, ⟨_, rfl⟩, q⟩⟩
  · obtain ⟨tj, hjt⟩ := hi.get j k hj
    obtain ⟨h1, h2⟩ := List.getElem?_eq_some_iff.mp hjt
    have e1 : its.toArray[j] = .int k tj := by simpa using h2
    rw [e1]
    exact beq_self_eq_true k
  · intro m hm hmj
    have hmn : m < ns.length := by omega
    obtain ⟨tm, hmt⟩ := hi.get m _ (List.getElem?_eq_getElem hmn)
    obtain ⟨h1, h2⟩ := List.getElem?_eq_some_iff.mp hmt
    have e1 : its.toArray[m] = .int ns[m] tm := by simpa using h2
    rw [e1]
    refine beq_eq_false_iff_ne.mpr fun e2 => hno m hmj ?_
    rw [List.getElem?_eq_getElem hmn, e2]
/-! ### tuple * 1, tuple * 0 -/
theorem tuple_mul1 (l : Addr) (items : Array Value) (n : Nat) (dd : Option Addr) (sl : Array (Option Value)) (u : Tok) :
    Meets (Builtin.«tuple.__mul__» ⟨[.ref l, .int 1 u], []⟩) (fun _ R s => s.heap.get? l = some { cls := .type "tuple", dict := dd, data := .seq items n, slots := sl } ∧ R (.ok (.ret (.ref l))) s) :=
  .of_wp fun prog w A R s h => by
    obtain ⟨hp, g, d, tk, os⟩ := s
    obtain ⟨hl, h⟩ := h
    have f1 := AutoSeq1.idx_int
    wp_walk using wpAny_loadPart' hl
    exact ⟨_, rfl, h⟩
theorem tuple_mul0 (l : Addr) (items : Array Value) (n : Nat) (dd : Option Addr) (sl : Array (Option Value)) (u : Tok) (hi : items.isEmpty = false) :
    Meets (Builtin.«tuple.__mul__» ⟨[.ref l, .int 0 u], []⟩) (fun _ R s => s.heap.get? l = some { cls := .type "tuple", dict := dd, data := .seq items n, slots := sl } ∧ R (.ok (.ret (.ref s.heap.objs.size))) { s with heap := s.heap.push { cls := .type "tuple", data := .seq #[] } }) :=
  .of_wp fun prog w A R s h => by
    obtain ⟨hp, g, d, tk, os⟩ := s
    obtain ⟨hl, h⟩ := h
    have f1 := AutoSeq1.idx_int
    wp_walk using wpAny_loadPart' hl
    exact ⟨_, rfl, h⟩
/-- t * k, k 1 or (t not empty) 0 -/
def rRepA (K : PySem.W.Frag) : R2 := fun x y H Q => ∃ l k xs, x = .ref l ∧ y = .int k ∧ SqT K H l xs ∧ xs ≠ [] ∧ ((k = 1 ∧ Q (.ref l) H) ∨ (k = 0 ∧ ∀ p, H p = none → Q (.ref p) (upd H p (.tup []))))
theorem op_repA : OpR X (binaryOp .Mult) (rRepA X.K) := by
  intro pins s σ H x y v u Q I rx ry h
  obtain ⟨l, k, xs, rfl, rfl, hT, hne, q⟩ := h
  cases rx
  obtain ⟨t, rfl⟩ := ry
  obtain ⟨its, r, ⟨⟨cls, dd, data, sl⟩, ho, hc, n, hd⟩, hs⟩ := I.tuple hT
  simp only at hc hd
  subst hc hd
  have hn : its ≠ [] := fun e => hne (r.nil_iff.mp e)
  have hi : its.toArray.isEmpty = false := by
    cases its with
    | nil => exact absurd rfl hn
    | cons a b => rfl
  refine wpAny_binaryOp_repeat_ref (T := "tuple") (U := "int") (by decide) ⟨_, ho, rfl⟩ (fun s' => typeIs_int s' k t) noFill_tuple_mul F.fills_int_mul F.slot_int_rmul repeat_tuple F.slot_int_index.lookup
    (call_meets F.slot_int_rmul (typeIs_int s k t) F.entry_int_rmul (F.args_int_rmul_2 _ _) (int_rmul_tuple k t l its.toArray n dd sl)
      ⟨ho, rfl, ⟨_, ho, rfl⟩, ?_⟩)
  rcases q with ⟨rfl, q⟩ | ⟨rfl, q⟩
  · exact call_meets F.slot_tuple_mul ⟨_, ho, rfl⟩ F.entry_tuple_mul (F.args_tuple_mul_2 _ _) (tuple_mul1 l its.toArray n dd sl t) ⟨ho, ⟨.ref l, H, I, rfl, q⟩⟩
  · refine call_meets F.slot_tuple_mul ⟨_, ho, rfl⟩ F.entry_tuple_mul (F.args_tuple_mul_2 _ _) (tuple_mul0 l its.toArray n dd sl t hi) ⟨ho, ?_⟩
    refine ⟨.ref s.heap.objs.size, _, I.laid (t' := s.toks) (o := .tup []) (fun b ob q => Heap.get?_push_of_some _ q) (Nat.le_refl _) ?_, rfl, q _ (I.hok.fresh (Nat.le_refl _))⟩
    exact ⟨Nat.zero_le _, [], .nil, IsTup.new _ _⟩
/-! ### sum of a tuple -/
def rSumT (K : PySem.W.Frag) : List V → Hp → VK → Prop := fun vs H Q => ∃ (a : Addr) (ns : List Int), vs = [V.ref a] ∧ SqT K H a (ns.map V.int) ∧ Q (.int ns.sum) H
theorem cr_sumT (hc : X.calm = true) : CallR X (.builtin "sum") (rSumT X.K) := by
  intro pins s σ H vs us Q I r h
  obtain ⟨a, ns, rfl, hs, q⟩ := h
  obtain ⟨its, rv, pl, _⟩ := I.tuple hs
  rw [Vals.ref1 r]
  have hi := ints_of_vals rv
  have hlen : its.length = ns.length := by rw [← rv.length, List.length_map]
  have pl' : s.heap.IsTuple a its.toArray := pl
  obtain ⟨oa, hoa, _⟩ := id pl'
  have hal : a < s.heap.objs.size := Heap.lt_size hoa
  refine call_sum_walkG (wpAny_pyIter_tuple pl' ?_)
  have hne : a ≠ s.heap.objs.size := Nat.ne_of_lt hal
  refine ⟨s.heap.objs.size, _, _, _, _, _, fun i => ns.getD i 0, rfl, Walks.tuple (A := X.A.in1) (I.ok.hd hc) s.heap.objs.size a hne its.toArray, ⟨⟨_, Heap.get?_push_size _ rfl, rfl, rfl⟩, pl'.at fun o q => Heap.get?_push_of_some _ q⟩, fun b hb => ?_, fun i v hv => ?_, fun h' tk t' hk => ?_⟩
  · have e' : b = s.heap.objs.size ∨ b = a := by simpa using hb
    show b < (s.heap.push _).objs.size
    rw [Heap.size_push]
    rcases e' with z | z
    · rw [z]; exact Nat.lt_succ_self _
    · rw [z]; exact Nat.lt_succ_of_lt hal
  · have hv' : its[i]? = some v := by simpa using hv
    have hin : i < ns.length := by have := (List.getElem?_eq_some_iff.mp hv').1; omega
    obtain ⟨t, ht⟩ := hi.get i _ (List.getElem?_eq_getElem hin)
    rw [hv'] at ht; cases ht
    refine ⟨t, ?_⟩
    show _ = Value.int (ns.getD i 0) t
    rw [List.getD_eq_getElem?_getD, List.getElem?_eq_getElem hin]; rfl
  · rw [preSum_getD, show its.toArray.size = ns.length by simpa using hlen, List.take_length]
    refine ⟨.int _, H, I.kept fun b o e => ?_, ⟨_, rfl⟩, q⟩
    refine hk b o (fun hm => ?_) (Heap.get?_push_of_some _ e)
    have : b = s.heap.objs.size := by simpa using hm
    exact absurd (Heap.lt_size e) (by rw [this]; exact Nat.lt_irrefl _)
/-! ### an item read, for an item that is changed in place -/
def gL (K : PySem.W.Frag) : V → V → Hp → VK → Prop := fun o i H Q => ∃ p xs j v, o = .ref p ∧ i = .int j ∧ SqL K H p xs ∧ 0 ≤ j ∧ xs[j.toNat]? = some v ∧ Q v H
theorem pget_list : PGet X (gL X.K) := by
  intro pins s σ H o i ov iv Q I ro ri h
  obtain ⟨p, xs, j, v, rfl, rfl, hq, h0, he, q⟩ := h
  cases ro
  obtain ⟨t, rfl⟩ := ri
  obtain ⟨its, r, pl, hz⟩ := I.list hq
  obtain ⟨w, ew, rw'⟩ := r.get he
  have hl := r.length
  have hn := line63
  have hj := (List.getElem?_eq_some_iff.mp he).1
  exact wpAny_getItem_list pl.isList h0 (by omega) (by simpa using ew) ⟨v, H, I, rw', q⟩
end
end Lr
end
section
set_option Elab.async false
set_option linter.all false
set_option maxRecDepth 100000
/-! What an expression's reading evaluates to, over slots of data. -/
namespace Lg
open PySem L2
/-- + : ints, lists, tuples; *: ints, a list times an int, a tuple times an int -/
abbrev rPlus (K : PySem.W.Frag) : R2 := fun x y H Q => rI0 (fun i j => .int (i + j)) x y H Q ∨ (rCat x y H Q ∨ (rCatA K x y H Q ∨ Lr.rCatF K x y H Q))
theorem op_plus {X : Cx} : OpR X (binaryOp .Add) (rPlus X.K) := op_add.or (op_cat.or (op_catA.or Lr.op_catF))
abbrev rLen (K : PySem.W.Frag) : List V → Hp → VK → Prop := fun xs H Q => ∃ p ys, xs = [.ref p] ∧ (SqL K H p ys ∨ SqT K H p ys) ∧ Q (.int (ys.length : Nat)) H
abbrev rTupOf (K : PySem.W.Frag) : List V → Hp → VK → Prop := fun xs H Q => ∃ p ys, xs = [.ref p] ∧ ((SqL K H p ys ∧ ∀ l, H l = none → Q (.ref l) (upd H l (.tup ys))) ∨ (SqT K H p ys ∧ Q (.ref p) H))
abbrev rLstOf (K : PySem.W.Frag) : List V → Hp → VK → Prop := fun xs H Q => ∃ p ys, xs = [.ref p] ∧ (SqL K H p ys ∨ SqT K H p ys) ∧ ∀ l, H l = none → Q (.ref l) (upd H l (.lst ys))
abbrev rSl (K : PySem.W.Frag) : V → Option Int → Option Int → Hp → VK → Prop := fun x lo hi H Q => rSlL K x lo hi H Q ∨ rSlA K x lo hi H Q
theorem sl_seq {X : Cx} : SlR X (rSl X.K) := sl_list.or sl_tupA
variable [tbs : Tbs]
section
variable (ss : List Sl)
/-- it gives data of which P holds -/
def EvP (te : TE) (P : D → Prop) : Prop := ∀ (Z : Av) (Bg : Option Addr) (σ : L2.St) (H : Hp) (O : Av) (Q : VK), Sg Z Bg H O σ ss →
  (∀ v H' d, P d → Sg Z Bg H' O σ ss → Stp O O H H' → Dq H' O Z v d → Q v H') → te σ H Q
/-- it gives a new list -/
def EvN (te : TE) (P : List D → Prop) : Prop := ∀ (Z : Av) (Bg : Option Addr) (σ : L2.St) (H : Hp) (O : Av) (Q : VK), Sg Z Bg H O σ ss →
  (∀ p xs ds H', P ds → ¬ O p → H p = none → Sg Z Bg H' (more O p) σ ss → Stp O (more O p) H H' → H' p = some (.lst xs) → DqAll H' (more O p) Z xs ds → Q (.ref p) H') → te σ H Q
/-- it gives a list, to be looked at -/
def EvV (te : TE) (P : List D → Prop) : Prop := ∀ (Z : Av) (Bg : Option Addr) (σ : L2.St) (H : Hp) (O : Av) (Q : VK), Sg Z Bg H O σ ss →
  (∀ p xs ds H', P ds → Sg Z Bg H' O σ ss → Stp O O H H' → H' p = some (.lst xs) → DqAll H' O Z xs ds → Q (.ref p) H') → te σ H Q
def EvB (tt : TT) (P : Bool → Prop) : Prop := ∀ (Z : Av) (Bg : Option Addr) (σ : L2.St) (H : Hp) (O : Av) (Q : Bool → Hp → Prop), Sg Z Bg H O σ ss →
  (∀ b H', P b → Sg Z Bg H' O σ ss → Stp O O H H' → Q b H') → tt σ H Q
def EvA (ta : TA) (P : List D → Prop) : Prop := ∀ (Z : Av) (Bg : Option Addr) (σ : L2.St) (H : Hp) (O : Av) (Q : List V → Hp → Prop), Sg Z Bg H O σ ss →
  (∀ vs ds H', P ds → Sg Z Bg H' O σ ss → Stp O O H H' → DqAll H' O Z vs ds → Q vs H') → ta σ H Q
def EvO (to : TO) (P : Option Int → Prop) : Prop := ∀ (Z : Av) (Bg : Option Addr) (σ : L2.St) (H : Hp) (O : Av) (Q : Option Int → Hp → Prop), Sg Z Bg H O σ ss →
  (∀ o H', P o → Sg Z Bg H' O σ ss → Stp O O H H' → Q o H') → to σ H Q
abbrev EvD (te : TE) (d : D) : Prop := EvP ss te (fun x => x = d)
end
/-- an operation by values on data -/
def RdP (r : R2) (a b : D) (P : D → Prop) : Prop := ∀ (H : Hp) (O Z : Av) (x y : V) (Q : VK), (∀ p, H p = none → ¬ O p ∧ ¬ Z p) → Dq H O Z x a → Dq H O Z y b →
  (∀ z H' d, P d → Ext H H' → Dq H' O Z z d → Q z H') → r x y H Q
/-- .. on a list that is looked at -/
def RvP (r : R2) (ds : List D) (b : D) (P : D → Prop) : Prop := ∀ (H : Hp) (O Z : Av) (l : Addr) (xs : List V) (y : V) (Q : VK), (∀ p, H p = none → ¬ O p ∧ ¬ Z p) → H l = some (.lst xs) → DqAll H O Z xs ds → Dq H O Z y b →
  (∀ z H' d, P d → Ext H H' → Dq H' O Z z d → Q z H') → r (.ref l) y H Q
section
variable {Z : Av} {Bg : Option Addr} {ss : List Sl} {K : PySem.W.Frag} {ta tb tc te : TE} {t u : TT} {P P' Pa Pb : D → Prop} {PL PL' : List D → Prop} {B B' : Bool → Prop} {d a b : D} {ds es : List D} {i : Nat}
theorem Sg.nn {H : Hp} {O : Av} {σ : L2.St} (g : Sg Z Bg H O σ ss) : ∀ p, H p = none → ¬ O p ∧ ¬ Z p := fun p h => g.wd.fresh h
theorem EvP.mono (h : EvP ss te P) (f : ∀ d, P d → P' d) : EvP ss te P' := fun Z Bg σ H O Q g q => h Z Bg σ H O Q g fun v H' d p => q v H' d (f d p)
theorem EvP.wk (h : EvP ss te P) (f : ∀ d, P d → ∃ e, Wk d e ∧ P' e) : EvP ss te P' := fun Z Bg σ H O Q g q => h Z Bg σ H O Q g fun v H' d p g' s hd => by
  obtain ⟨e, w, p'⟩ := f d p
  exact q v H' e p' g' s (hd.wk w)
theorem EvD.wk {e : D} (h : EvD ss te d) (w : Wk d e) : EvD ss te e := EvP.wk h fun x hx => ⟨e, hx ▸ w, rfl⟩
theorem EvP.is (h : EvD ss te d) (p : P d) : EvP ss te P := h.mono fun x hx => by rw [hx]; exact p
theorem EvD.to (h : EvD ss te a) (e : a = b) : EvD ss te b := e ▸ h
theorem EvN.mono (h : EvN ss te PL) (f : ∀ d, PL d → PL' d) : EvN ss te PL' := fun Z Bg σ H O Q g q => h Z Bg σ H O Q g fun p xs ds H' pd => q p xs ds H' (f ds pd)
theorem EvV.mono (h : EvV ss te PL) (f : ∀ d, PL d → PL' d) : EvV ss te PL' := fun Z Bg σ H O Q g q => h Z Bg σ H O Q g fun p xs ds H' pd => q p xs ds H' (f ds pd)
theorem EvB.mono (h : EvB ss t B) (f : ∀ b, B b → B' b) : EvB ss t B' := fun Z Bg σ H O Q g q => h Z Bg σ H O Q g fun b H' p => q b H' (f b p)
theorem EvA.mono {ta : TA} (h : EvA ss ta PL) (f : ∀ d, PL d → PL' d) : EvA ss ta PL' := fun Z Bg σ H O Q g q => h Z Bg σ H O Q g fun vs ds H' pd => q vs ds H' (f ds pd)
/-- a new list is data -/
theorem EvN.p (h : EvN ss te PL) : EvP ss te (fun x => ∃ ds, x = .lst ds ∧ PL ds) := fun Z Bg σ H O Q g q => h Z Bg σ H O Q g fun p xs ds H' pd np _ g' s hp hd => by
  have f : ∀ a, O a ∨ Z a → more O p a ∨ Z a := fun a q => q.elim (fun z => .inl (.inl z)) .inr
  exact q _ H' _ ⟨ds, rfl, pd⟩ (g.back g') ⟨s.tp, s.kp, s.al, fun a h => .inl h, s.tb⟩ (.lst np (g'.wd.dj p (.inr rfl)) hp (hd.less f))
theorem EvN.dat (h : EvN ss te (fun x => x = ds)) : EvD ss te (.lst ds) := h.p.mono fun x ⟨es, e1, e2⟩ => by rw [e1, e2]
theorem EvP.v (h : EvP ss te (fun x => ∃ ds, x = .lst ds ∧ PL ds)) : EvV ss te PL := fun Z Bg σ H O Q g q => h Z Bg σ H O Q g fun v H' d ⟨ds, e, pd⟩ g' s hd => by
  subst e
  cases hd with
  | lst n z h1 h2 => exact q _ _ ds H' pd g' s h1 h2
theorem EvD.v (h : EvD ss te (.lst ds)) : EvV ss te (fun x => x = ds) := EvP.v (h.mono fun x hx => ⟨ds, hx, rfl⟩)
theorem EvN.v (h : EvN ss te PL) : EvV ss te PL := EvP.v h.p
/-! ### names, constants -/
theorem ev_var (h : ss[i]? = some (.im d)) : EvD ss (tVar i) d := fun Z Bg σ H O Q g q => by
  obtain ⟨v, e, hd⟩ := g.im h
  exact ⟨v, e, q v H d rfl g Stp.refl hd⟩
theorem ev_own (h : ss[i]? = some (.own ds)) : EvV ss (tVar i) (fun x => x = ds) := fun Z Bg σ H O Q g q => by
  obtain ⟨l, xs, e, _, _, h1, h2⟩ := g.own h
  exact ⟨_, e, q l xs ds H rfl g Stp.refl h1 h2⟩
theorem ev_int {n : Int} : EvD ss (tC (.int n)) (.int n) := fun Z Bg σ H O Q g q => q _ H _ rfl g Stp.refl (.int n)
theorem ev_str {x : Str} : EvD ss (tC (.str x)) (.str x) := fun Z Bg σ H O Q g q => q _ H _ rfl g Stp.refl (.str x)
theorem ev_bl {x : Bool} : EvD ss (tC (.bl x)) (.bl x) := fun Z Bg σ H O Q g q => q _ H _ rfl g Stp.refl (.bl x)
theorem ev_non : EvD ss (tC .non) .non := fun Z Bg σ H O Q g q => q _ H _ rfl g Stp.refl .non
/-! ### operations -/
theorem ev_op {r : R2} (ha : EvP ss ta Pa) (hb : EvP ss tb Pb) (hr : ∀ a b, Pa a → Pb b → RdP r a b P) : EvP ss (tOp r ta tb) P := fun Z Bg σ H O Q g q =>
  ha Z Bg σ H O _ g fun x H1 a pa g1 s1 d1 => hb Z Bg σ H1 O _ g1 fun y H2 b pb g2 s2 d2 =>
    hr a b pa pb H2 O Z x y Q g2.nn (d1.mv s2) d2 fun z H3 d pd e hd => q z H3 d pd (g2.ext e) ((s1.trans s2).trans (Ext.stp e)) hd
theorem ev_opV {r : R2} (ha : EvP ss ta Pa) (hb : EvV ss tb PL) (hr : ∀ a ds, Pa a → PL ds → ∀ (H : Hp) (O Z : Av) (x : V) (l : Addr) (xs : List V) (Q : VK), (∀ p, H p = none → ¬ O p ∧ ¬ Z p) → Dq H O Z x a → H l = some (.lst xs) → DqAll H O Z xs ds →
    (∀ z H' d, P d → Ext H H' → Dq H' O Z z d → Q z H') → r x (.ref l) H Q) : EvP ss (tOp r ta tb) P := fun Z Bg σ H O Q g q =>
  ha Z Bg σ H O _ g fun x H1 a pa g1 s1 d1 => hb Z Bg σ H1 O _ g1 fun l xs ds H2 pd g2 s2 h1 h2 =>
    hr a ds pa pd H2 O Z x l xs Q g2.nn (d1.mv s2) h1 h2 fun z H3 d pd e hd => q z H3 d pd (g2.ext e) ((s1.trans s2).trans (Ext.stp e)) hd
theorem ev_opOwn {r : R2} (hi : ss[i]? = some (.own ds)) (hb : EvP ss tb Pb) (hr : ∀ b, Pb b → RvP r ds b P) : EvP ss (tOp r (tVar i) tb) P := fun Z Bg σ H O Q g q => by
  obtain ⟨l, xs, e, _, _, h1, h2⟩ := g.own hi
  refine ⟨_, e, hb Z Bg σ H O _ g fun y H2 b pb g2 s2 d2 => ?_⟩
  obtain ⟨l2, xs2, e2, _, _, h3, h4⟩ := g2.own hi
  rw [e] at e2; cases e2
  exact hr b pb H2 O Z l xs2 y Q g2.nn h3 h4 d2 fun z H3 d pd e hd => q z H3 d pd (g2.ext e) (s2.trans (Ext.stp e)) hd
/-- a result that needs no object -/
theorem rd_of {r : R2} (h : ∀ (H : Hp) (O Z : Av) (x y : V) (Q : VK), Dq H O Z x a → Dq H O Z y b → (∀ z d, P d → Dq H O Z z d → Q z H) → r x y H Q) : RdP r a b P := fun H O Z x y Q _ ha hb q => h H O Z x y Q ha hb fun z d p hd => q z H d p Ext.refl hd
theorem rd_I0 {g : Int → Int → V} {f : D} {m n : Int} (hf : ∀ H O Z, Dq H O Z (g m n) f) : RdP (rI0 g) (.int m) (.int n) (fun x => x = f) := rd_of fun H O Z x y Q ha hb q => by
  cases ha; cases hb
  exact ⟨m, n, rfl, rfl, q _ f rfl (hf H O Z)⟩
theorem rd_I {C : Int → Int → Prop} {g : Int → Int → V} {f : D} {m n : Int} (hc : C m n) (hf : ∀ H O Z, Dq H O Z (g m n) f) : RdP (rI C g) (.int m) (.int n) (fun x => x = f) := rd_of fun H O Z x y Q ha hb q => by
  cases ha; cases hb
  exact ⟨m, n, rfl, rfl, hc, q _ f rfl (hf H O Z)⟩
/-- the left one of two -/
theorem rd_inl {r r' : R2} (h : RdP r a b P) : RdP (fun x y H Q => r x y H Q ∨ r' x y H Q) a b P := fun H O Z x y Q nn ha hb q => .inl (h H O Z x y Q nn ha hb q)
theorem rd_inr {r r' : R2} (h : RdP r' a b P) : RdP (fun x y H Q => r x y H Q ∨ r' x y H Q) a b P := fun H O Z x y Q nn ha hb q => .inr (h H O Z x y Q nn ha hb q)
section
variable {m n : Int}
theorem ev_add (ha : EvD ss ta (.int m)) (hb : EvD ss tb (.int n)) : EvD ss (tOp (rPlus K) ta tb) (.int (m + n)) := ev_op ha hb fun a b ea eb => by subst ea eb; exact rd_inl (rd_I0 fun _ _ _ => .int _)
theorem ev_sub (ha : EvD ss ta (.int m)) (hb : EvD ss tb (.int n)) : EvD ss (tOp (rI0 fun i j => .int (i - j)) ta tb) (.int (m - n)) := ev_op ha hb fun a b ea eb => by subst ea eb; exact rd_I0 fun _ _ _ => .int _
theorem ev_lt (ha : EvD ss ta (.int m)) (hb : EvD ss tb (.int n)) : EvD ss (tOp (rI0 fun i j => .bl (decide (i < j))) ta tb) (.bl (decide (m < n))) := ev_op ha hb fun a b ea eb => by subst ea eb; exact rd_I0 fun _ _ _ => .bl _
theorem ev_le (ha : EvD ss ta (.int m)) (hb : EvD ss tb (.int n)) : EvD ss (tOp (rI0 fun i j => .bl (decide (i ≤ j))) ta tb) (.bl (decide (m ≤ n))) := ev_op ha hb fun a b ea eb => by subst ea eb; exact rd_I0 fun _ _ _ => .bl _
theorem ev_gt (ha : EvD ss ta (.int m)) (hb : EvD ss tb (.int n)) : EvD ss (tOp (rI0 fun i j => .bl (decide (j < i))) ta tb) (.bl (decide (n < m))) := ev_op ha hb fun a b ea eb => by subst ea eb; exact rd_I0 fun _ _ _ => .bl _
theorem ev_ge (ha : EvD ss ta (.int m)) (hb : EvD ss tb (.int n)) : EvD ss (tOp (rI0 fun i j => .bl (decide (j ≤ i))) ta tb) (.bl (decide (n ≤ m))) := ev_op ha hb fun a b ea eb => by subst ea eb; exact rd_I0 fun _ _ _ => .bl _
theorem ev_mod (ha : EvD ss ta (.int m)) (hb : EvD ss tb (.int n)) (h : 0 < n) : EvD ss (tOp (rI (fun _ j => 0 < j) fun i j => .int (i % j)) ta tb) (.int (m % n)) := ev_op ha hb fun a b ea eb => by subst ea eb; exact rd_I h fun _ _ _ => .int _
theorem ev_fdiv (ha : EvD ss ta (.int m)) (hb : EvD ss tb (.int n)) (h : CDiv m n) : EvD ss (tOp (rI CDiv fun i j => .int (i / j)) ta tb) (.int (m / n)) := ev_op ha hb fun a b ea eb => by subst ea eb; exact rd_I h fun _ _ _ => .int _
theorem ev_pow (ha : EvD ss ta (.int m)) (hb : EvD ss tb (.int n)) (h : CPow m n) : EvD ss (tOp (rI CPow fun i j => .int (i ^ j.toNat)) ta tb) (.int (m ^ n.toNat)) := ev_op ha hb fun a b ea eb => by subst ea eb; exact rd_I h fun _ _ _ => .int _
theorem ev_neg (ha : EvD ss ta (.int m)) : EvD ss (tUn (rU fun i => .int (-i)) ta) (.int (-m)) := fun Z Bg σ H O Q g q =>
  ha Z Bg σ H O _ g fun x H1 a pa g1 s1 d1 => by subst pa; cases d1; exact ⟨m, rfl, q _ H1 _ rfl g1 s1 (.int _)⟩
end
/-- ==, != of data -/
theorem ev_eq (ha : EvP ss ta Pa) (hb : EvP ss tb Pb) (hs : ∀ a b, Pa a → Pb b → SeqAt.shaped a.py = true ∧ SeqAt.shaped b.py = true ∧ P (.bl (PyData.eqv a.py b.py))) : EvP ss (tOp (rEqD K) ta tb) P := ev_op ha hb fun a b pa pb => rd_of fun H O Z x y Q d1 d2 q => by
  obtain ⟨h1, h2, h3⟩ := hs a b pa pb
  exact ⟨_, _, d1.dp, d2.dp, h1, h2, q _ _ h3 (.bl _)⟩
theorem ev_ne (ha : EvP ss ta Pa) (hb : EvP ss tb Pb) (hs : ∀ a b, Pa a → Pb b → SeqAt.shaped a.py = true ∧ SeqAt.shaped b.py = true ∧ P (.bl (!PyData.eqv a.py b.py))) : EvP ss (tOp (rNeD K) ta tb) P := ev_op ha hb fun a b pa pb => rd_of fun H O Z x y Q d1 d2 q => by
  obtain ⟨h1, h2, h3⟩ := hs a b pa pb
  exact ⟨_, _, d1.dp, d2.dp, h1, h2, q _ _ h3 (.bl _)⟩
theorem ev_neOwn (hi : ss[i]? = some (.own ds)) (hb : EvD ss tb b) (h1 : SeqAt.shaped (D.lst ds).py = true) (h2 : SeqAt.shaped b.py = true) : EvD ss (tOp (rNeD K) (tVar i) tb) (.bl (!PyData.eqv (D.lst ds).py b.py)) := ev_opOwn hi hb fun b' e => by
  subst e
  intro H O Z l xs y Q nn h3 h4 h5 q
  exact ⟨_, _, .lst (SqL.of h3) h4.dp, h5.dp, h1, h2, q _ _ _ rfl Ext.refl (.bl _)⟩
/-- is None, is not None -/
theorem ev_isN (ha : EvP ss ta Pa) (hp : ∀ a, Pa a → ∀ H O Z x, Dq H O Z x a → P (.bl (decide (x = .non)))) : EvP ss (tOp (fun x y H Q => y = .non ∧ Q (.bl (decide (x = .non))) H) ta (tC .non)) P := fun Z Bg σ H O Q g q =>
  ha Z Bg σ H O _ g fun x H1 a pa g1 s1 d1 => ⟨rfl, q _ H1 _ (hp a pa H1 O Z x d1) g1 s1 (.bl _)⟩
theorem ev_notN (ha : EvP ss ta Pa) (hp : ∀ a, Pa a → ∀ H O Z x, Dq H O Z x a → P (.bl (!decide (x = .non)))) : EvP ss (tOp (fun x y H Q => y = .non ∧ Q (.bl (!decide (x = .non))) H) ta (tC .non)) P := fun Z Bg σ H O Q g q =>
  ha Z Bg σ H O _ g fun x H1 a pa g1 s1 d1 => ⟨rfl, q _ H1 _ (hp a pa H1 O Z x d1) g1 s1 (.bl _)⟩
theorem dq_non_iff {H : Hp} {O Z : Av} {x : V} (h : Dq H O Z x d) (n : d ≠ .non) : decide (x = .non) = false := by
  cases h <;> first | rfl | exact absurd rfl n
/-! ### subscripts -/
theorem atI_dq {H : Hp} {O : Av} {xs : List V} {k : Int} (h : DqAll H O Z xs ds) (e : atI ds k = some d) : ∃ v, atI xs k = some v ∧ Dq H O Z v d := by
  unfold atI at e ⊢
  rw [h.length]
  cases q : ixN ds.length k with
  | none => rw [q] at e; cases e
  | some j => rw [q] at e; exact h.get e
theorem ev_ixT {k : Int} (ha : EvP ss ta Pa) (hb : EvD ss tb (.int k)) (h : ∀ a, Pa a → ∃ ds d, a.items = some ds ∧ atI ds k = some d ∧ P d) : EvP ss (tOp (rIx K) ta tb) P := ev_op ha hb fun a b pa pb => rd_of fun H O Z x y Q d1 d2 q => by
  subst pb; cases d2
  obtain ⟨ds, d, h1, h2, h3⟩ := h a pa
  obtain ⟨p, xs, rfl, h4, h5⟩ := d1.tupV (K := K) h1
  obtain ⟨v, h6, h7⟩ := atI_dq h5 h2
  exact .inr (.inl ⟨p, xs, k, v, rfl, rfl, h4, h6, q v d h3 h7⟩)
/-- t[k] of a known tuple -/
theorem ev_ix {k : Int} (ha : EvD ss ta a) (hb : EvD ss tb (.int k)) (h : a.items = some ds) (e : atI ds k = some d) : EvD ss (tOp (rIx K) ta tb) d := ev_ixT ha hb fun x hx => ⟨ds, d, hx ▸ h, e, rfl⟩
theorem ev_ixL {k : Int} (ha : EvD ss ta (.lst ds)) (hb : EvD ss tb (.int k)) (e : atI ds k = some d) : EvD ss (tOp (rIx K) ta tb) d := ev_op ha hb fun a b pa pb => rd_of fun H O Z x y Q d1 d2 q => by
  subst pa pb; cases d2
  cases d1 with
  | lst n z h1 h2 =>
    obtain ⟨v, h6, h7⟩ := atI_dq h2 e
    exact .inl ⟨_, _, k, v, rfl, rfl, SqL.of h1, h6, q v d rfl h7⟩
theorem ev_ixLP (ha : EvD ss ta (.lst ds)) (hb : EvP ss tb Pb) (h : ∀ b, Pb b → ∃ k d, b = .int k ∧ atI ds k = some d ∧ P d) : EvP ss (tOp (rIx K) ta tb) P := ev_op ha hb fun a b pa pb => rd_of fun H O Z x y Q d1 d2 q => by
  obtain ⟨k, d, rfl, e, pd⟩ := h b pb
  subst pa; cases d2
  cases d1 with
  | lst n z h1 h2 =>
    obtain ⟨v, h6, h7⟩ := atI_dq h2 e
    exact .inl ⟨_, _, k, v, rfl, rfl, SqL.of h1, h6, q v d pd h7⟩
theorem ev_ixOwn {k : Int} (hi : ss[i]? = some (.own ds)) (hb : EvD ss tb (.int k)) (e : atI ds k = some d) : EvD ss (tOp (rIx K) (tVar i) tb) d := ev_opOwn hi hb fun b pb H O Z l xs y Q nn h3 h4 h5 q => by
  subst pb; cases h5
  obtain ⟨v, h6, h7⟩ := atI_dq h4 e
  exact .inl ⟨_, _, k, v, rfl, rfl, SqL.of h3, h6, q v H d rfl Ext.refl h7⟩
theorem atI_k {k : Nat} (h : ds[k]? = some d) : atI ds (k : Int) = some d := atI_nat h
/-! ### tests, truth values -/
theorem eb_test {f : Bool → Prop} (h : EvP ss te (fun x => ∃ c, x = .bl c ∧ f c)) : EvB ss (tTest te) f := fun Z Bg σ H O Q g q => h Z Bg σ H O _ g fun v H' d ⟨c, e, p⟩ g' s hd => by
  subst e; cases hd; exact ⟨c, rfl, q c H' p g' s⟩
theorem eb_d {c : Bool} (h : EvD ss te (.bl c)) : EvB ss (tTest te) (fun x => x = c) := eb_test (h.mono fun x hx => ⟨c, hx, rfl⟩)
theorem eb_val {f : Bool → Prop} (h : EvP ss te (fun x => ∃ c, x = .bl c ∧ f c)) : EvB ss (tB te) f := fun Z Bg σ H O Q g q => h Z Bg σ H O _ g fun v H' d ⟨c, e, p⟩ g' s hd => by
  subst e; cases hd; exact ⟨c, rfl, q c H' p g' s⟩
theorem eb_v {c : Bool} (h : EvD ss te (.bl c)) : EvB ss (tB te) (fun x => x = c) := eb_val (h.mono fun x hx => ⟨c, hx, rfl⟩)
theorem eb_not {c : Bool} (h : EvB ss t (fun x => x = c)) : EvB ss (tNot t) (fun x => x = !c) := fun Z Bg σ H O Q g q => h Z Bg σ H O _ g fun b H' p g' s => q _ H' (by rw [p]) g' s
/-- and, or: the second part where it is asked -/
theorem eb_and (h1 : EvB ss t B) (h2 : B true → EvB ss u B') (f : B false → B' false) : EvB ss (tAnd t u) B' := fun Z Bg σ H O Q g q => h1 Z Bg σ H O _ g fun c H1 p g1 s1 => by
  cases c with
  | true => exact iteT (h2 p Z Bg σ H1 O Q g1 fun b H2 p2 g2 s2 => q b H2 p2 g2 (s1.trans s2))
  | false => exact iteF (q false H1 (f p) g1 s1)
theorem eb_or (h1 : EvB ss t B) (h2 : B false → EvB ss u B') (f : B true → B' true) : EvB ss (tOr t u) B' := fun Z Bg σ H O Q g q => h1 Z Bg σ H O _ g fun c H1 p g1 s1 => by
  cases c with
  | true => exact iteT (q true H1 (f p) g1 s1)
  | false => exact iteF (h2 p Z Bg σ H1 O Q g1 fun b H2 p2 g2 s2 => q b H2 p2 g2 (s1.trans s2))
theorem eb_and2 {c e : Bool} (h1 : EvB ss t (fun x => x = c)) (h2 : c = true → EvB ss u (fun x => x = e)) : EvB ss (tAnd t u) (fun x => x = (c && e)) := eb_and h1 (fun q => (h2 q.symm).mono fun b hb => by rw [hb, ← q]; rfl) (fun q => by rw [← q]; rfl)
theorem eb_or2 {c e : Bool} (h1 : EvB ss t (fun x => x = c)) (h2 : c = false → EvB ss u (fun x => x = e)) : EvB ss (tOr t u) (fun x => x = (c || e)) := eb_or h1 (fun q => (h2 q.symm).mono fun b hb => by rw [hb, ← q]; rfl) (fun q => by rw [← q]; rfl)
theorem ev_if (h : EvB ss t B) (h1 : B true → EvP ss ta P) (h2 : B false → EvP ss tb P) : EvP ss (tIf t ta tb) P := fun Z Bg σ H O Q g q => h Z Bg σ H O _ g fun c H1 p g1 s1 => by
  cases c with
  | true => exact iteT (h1 p Z Bg σ H1 O Q g1 fun v H2 d p2 g2 s2 hd => q v H2 d p2 g2 (s1.trans s2) hd)
  | false => exact iteF (h2 p Z Bg σ H1 O Q g1 fun v H2 d p2 g2 s2 hd => q v H2 d p2 g2 (s1.trans s2) hd)
theorem ev_andV {c : Bool} (h1 : EvD ss ta (.bl c)) (h2 : c = true → EvP ss tb P) (f : c = false → P (.bl false)) : EvP ss (tAndV ta tb) P := fun Z Bg σ H O Q g q => h1 Z Bg σ H O _ g fun v H1 d pd g1 s1 hd => by
  subst pd; cases hd
  refine ⟨c, rfl, ?_⟩
  cases c with
  | true => exact iteT (h2 rfl Z Bg σ H1 O Q g1 fun v H2 d p2 g2 s2 hd => q v H2 d p2 g2 (s1.trans s2) hd)
  | false => exact iteF (q _ H1 _ (f rfl) g1 s1 (.bl _))
/-! ### arguments, displays -/
theorem ea_nil : EvA ss tNil (fun x => x = []) := fun Z Bg σ H O Q g q => q [] [] H rfl g Stp.refl .nil
theorem ea_consP {tr : TA} (h : EvP ss te P) (hr : EvA ss tr PL) : EvA ss (tCons te tr) (fun x => ∃ d ds, x = d :: ds ∧ P d ∧ PL ds) := fun Z Bg σ H O Q g q =>
  h Z Bg σ H O _ g fun v H1 d pd g1 s1 hd => hr Z Bg σ H1 O _ g1 fun vs ds H2 pds g2 s2 hds => q (v :: vs) (d :: ds) H2 ⟨d, ds, rfl, pd, pds⟩ g2 (s1.trans s2) (.cons (hd.mv s2) hds)
theorem ea_cons {tr : TA} (h : EvD ss te d) (hr : EvA ss tr (fun x => x = ds)) : EvA ss (tCons te tr) (fun x => x = d :: ds) := (ea_consP h hr).mono fun x ⟨d', ds', e, e1, e2⟩ => by rw [e, e1, e2]
theorem ea_one (h : EvP ss te P) : EvA ss (tCons te tNil) (fun x => ∃ d, x = [d] ∧ P d) := (ea_consP h ea_nil).mono fun x ⟨d, r, e, p, e2⟩ => ⟨d, by rw [e, e2], p⟩
/-- *t, *l in a display -/
theorem ea_star {tr : TA} (h : EvD ss te a) (hi : a.items = some ds) (hr : EvA ss tr (fun x => x = es)) : EvA ss (StX.tStar K te tr) (fun x => x = ds ++ es) := fun Z Bg σ H O Q g q =>
  h Z Bg σ H O _ g fun v H1 d pd g1 s1 hd => by
    subst pd
    obtain ⟨p, xs, rfl, h4, h5⟩ := hd.tupV (K := K) hi
    exact ⟨p, xs, rfl, .inl h4, hr Z Bg σ H1 O _ g1 fun vs es' H2 pds g2 s2 hds => by subst pds; exact q _ _ H2 rfl g2 (s1.trans s2) ((h5.mv s2).append hds)⟩
theorem ea_starL {tr : TA} (h : EvD ss te (.lst ds)) (hr : EvA ss tr (fun x => x = es)) : EvA ss (StX.tStar K te tr) (fun x => x = ds ++ es) := fun Z Bg σ H O Q g q =>
  h Z Bg σ H O _ g fun v H1 d pd g1 s1 hd => by
    subst pd
    cases hd with
    | lst n z h1 h2 => exact ⟨_, _, rfl, .inr (SqL.of h1), hr Z Bg σ H1 O _ g1 fun vs es' H2 pds g2 s2 hds => by subst pds; exact q _ _ H2 rfl g2 (s1.trans s2) ((h2.mv s2).append hds)⟩
theorem sz_of {n : Nat} (h : n ≤ 100000) : n ≤ sizeLine := Nat.le_trans h (by decide)
theorem sz_lt {n : Nat} (h : n < 100000) : n < sizeLine := Nat.lt_of_lt_of_le h (by decide)
/-- (a, b, ..) -/
theorem ev_tupP {ta : TA} (h : EvA ss ta PL) (hz : ∀ ds, PL ds → ds.length ≤ 100000) : EvP ss (tTup ta) (fun x => ∃ ds, x = .rtup ds ∧ PL ds) := fun Z Bg σ H O Q g q =>
  h Z Bg σ H O _ g fun vs ds H1 pd g1 s1 hd => ⟨by rw [hd.length]; exact sz_of (hz ds pd), fun p hp => q _ _ _ ⟨ds, rfl, pd⟩ (g1.ext (Ext.new hp)) (s1.trans (Ext.stp (Ext.new hp))) (.rtup upd_same (hd.mv (Ext.stp (Ext.new hp))))⟩
theorem ev_rtup {ta : TA} (h : EvA ss ta (fun x => x = ds)) (hz : ds.length ≤ 100000) : EvD ss (tTup ta) (.rtup ds) := (ev_tupP h fun x hx => hx ▸ hz).mono fun x ⟨es, e1, e2⟩ => by rw [e1, e2]
theorem Wk.rt1 : Wk (.rtup ds) (.tup ds) := .rt (WkAll.refl ds)
theorem Wk.pt1 : Wk (.ptup ds) (.tup ds) := .pt (WkAll.refl ds)
theorem ev_tup {ta : TA} (h : EvA ss ta (fun x => x = ds)) (hz : ds.length ≤ 100000) : EvD ss (tTup ta) (.tup ds) := (ev_rtup h hz).wk Wk.rt1
/-- [a, b, ..] -/
theorem en_lst {ta : TA} (h : EvA ss ta PL) (hz : ∀ ds, PL ds → ds.length ≤ 100000) : EvN ss (tLst ta) PL := fun Z Bg σ H O Q g q =>
  h Z Bg σ H O _ g fun vs ds H1 pd g1 s1 hd => ⟨by rw [hd.length]; exact sz_of (hz ds pd), fun p hp => by
    have hp0 : ¬ O p := (g1.wd.fresh hp).1
    have hH : H p = none := s1.was hp hp0
    exact q p vs ds _ pd hp0 hH (g1.more (Ext.new hp) hp (by rw [upd_same]; exact fun z => nomatch z)) (s1.trans (stp_more hp)) upd_same (hd.mv (stp_more hp))⟩
theorem en_d {ta : TA} (h : EvA ss ta (fun x => x = ds)) (hz : ds.length ≤ 100000) : EvN ss (tLst ta) (fun x => x = ds) := en_lst h fun x hx => hx ▸ hz
theorem en_nil : EvN ss (tLst tNil) (fun x => x = []) := en_d ea_nil (by decide)
/-! ### calls of built-ins -/
theorem ev_cb {r : List V → Hp → VK → Prop} {ta : TA} (h : EvA ss ta PL) (hr : ∀ ds, PL ds → ∀ (H : Hp) (O Z : Av) (vs : List V) (Q : VK), (∀ p, H p = none → ¬ O p ∧ ¬ Z p) → DqAll H O Z vs ds → (∀ z H' d, P d → Ext H H' → Dq H' O Z z d → Q z H') → r vs H Q) :
    EvP ss (tCB r ta) P := fun Z Bg σ H O Q g q => h Z Bg σ H O _ g fun vs ds H1 pd g1 s1 hd => hr ds pd H1 O Z vs Q g1.nn hd fun z H2 d p e hd' => q z H2 d p (g1.ext e) (s1.trans (Ext.stp e)) hd'
/-- .. of one list that is looked at -/
theorem ev_cbV {r : List V → Hp → VK → Prop} (h : EvV ss te PL) (hr : ∀ ds, PL ds → ∀ (H : Hp) (O Z : Av) (l : Addr) (xs : List V) (Q : VK), (∀ p, H p = none → ¬ O p ∧ ¬ Z p) → H l = some (.lst xs) → DqAll H O Z xs ds → (∀ z H' d, P d → Ext H H' → Dq H' O Z z d → Q z H') → r [.ref l] H Q) :
    EvP ss (tCB r (tCons te tNil)) P := fun Z Bg σ H O Q g q => h Z Bg σ H O _ g fun l xs ds H1 pd g1 s1 h1 h2 => hr ds pd H1 O Z l xs Q g1.nn h1 h2 fun z H2 d p e hd' => q z H2 d p (g1.ext e) (s1.trans (Ext.stp e)) hd'
theorem ev_lenV (h : EvV ss te (fun x => x = ds)) : EvD ss (tCB (rLen K) (tCons te tNil)) (.int (ds.length : Nat)) := ev_cbV h fun es e H O Z l xs Q nn h1 h2 q => by
  subst e
  refine ⟨l, xs, rfl, .inl (SqL.of h1), ?_⟩
  rw [h2.length]
  exact q _ H _ rfl Ext.refl (.int _)
theorem ev_lenP (h : EvP ss te Pa) (hp : ∀ a, Pa a → ∃ ds, a.items = some ds ∧ P (.int (ds.length : Nat))) : EvP ss (tCB (rLen K) (tCons te tNil)) P := ev_cb (ea_one h) fun es e H O Z vs Q nn h1 q => by
  obtain ⟨a, rfl, pa⟩ := e
  obtain ⟨ds, hi, pd⟩ := hp a pa
  cases h1 with
  | cons hd hn =>
    cases hn
    obtain ⟨p, xs, rfl, h4, h5⟩ := hd.tupV (K := K) hi
    refine ⟨p, xs, rfl, .inr h4, ?_⟩
    rw [h5.length]
    exact q _ H _ pd Ext.refl (.int _)
theorem ev_len (h : EvD ss te a) (hi : a.items = some ds) : EvD ss (tCB (rLen K) (tCons te tNil)) (.int (ds.length : Nat)) := ev_lenP h fun x hx => ⟨ds, hx ▸ hi, rfl⟩
theorem ev_tupleP (h : EvV ss te PL) : EvP ss (tCB (rTupOf K) (tCons te tNil)) (fun x => ∃ ds, x = .rtup ds ∧ PL ds) := ev_cbV h fun ds pd H O Z l xs Q nn h1 h2 q =>
  ⟨l, xs, rfl, .inl ⟨SqL.of h1, fun p hp => q _ _ _ ⟨ds, rfl, pd⟩ (Ext.new hp) (.rtup upd_same (h2.mv (Ext.stp (Ext.new hp))))⟩⟩
theorem ev_tupleR (h : EvV ss te (fun x => x = ds)) : EvD ss (tCB (rTupOf K) (tCons te tNil)) (.rtup ds) := (ev_tupleP h).mono fun x ⟨es, e1, e2⟩ => by rw [e1, e2]
theorem ev_tuple (h : EvV ss te (fun x => x = ds)) : EvD ss (tCB (rTupOf K) (tCons te tNil)) (.tup ds) := (ev_tupleR h).wk Wk.rt1
theorem en_list (h : EvD ss te a) (hi : a.items = some ds) : EvN ss (tCB (rLstOf K) (tCons te tNil)) (fun x => x = ds) := fun Z Bg σ H O Q g q => h Z Bg σ H O _ g fun v H1 d pd g1 s1 hd => by
  subst pd
  obtain ⟨p, xs, rfl, h4, h5⟩ := hd.tupV (K := K) hi
  refine ⟨p, xs, rfl, .inr h4, fun l hl => ?_⟩
  have hp0 : ¬ O l := (g1.wd.fresh hl).1
  have hH : H l = none := s1.was hl hp0
  exact q l xs ds _ rfl hp0 hH (g1.more (Ext.new hl) hl (by rw [upd_same]; exact fun z => nomatch z)) (s1.trans (stp_more hl)) upd_same (h5.mv (stp_more hl))
theorem Dq.asTup {H : Hp} {O : Av} {v : V} {d : D} (q : Dq H O Z v d) (h : d.items = some ds) : Dq H O Z v (.tup ds) := by
  cases d with
  | tup _ => cases h; exact q
  | ptup _ => cases h; exact q.wk Wk.pt1
  | rtup _ => cases h; exact q.wk Wk.rt1
  | _ => cases h
/-! ### slices -/
theorem eo_none : EvO ss tNoPart (fun x => x = none) := fun Z Bg σ H O Q g q => q none H rfl g Stp.refl
theorem eo_some {k : Int} (h : EvD ss te (.int k)) : EvO ss (tPart te) (fun x => x = some k) := fun Z Bg σ H O Q g q => h Z Bg σ H O _ g fun v H' d pd g' s hd => by
  subst pd; cases hd; exact ⟨k, rfl, q _ H' rfl g' s⟩
/-- the items of ds[lo:hi] -/
def cutD (ds : List D) (lo hi : Option Int) : List D := (ds.drop (HT.sIx ds.length 0 lo)).take (HT.sIx ds.length ds.length hi - HT.sIx ds.length 0 lo)
theorem cut_dq {H : Hp} {O : Av} {xs : List V} {lo hi : Option Int} (h : DqAll H O Z xs ds) : DqAll H O Z (cutV xs lo hi) (cutD ds lo hi) := by
  unfold cutV cutD
  rw [h.length]
  exact (h.drop _).take _
theorem cutV_whole {xs : List V} {lo hi : Option Int} (h : HT.sIx xs.length 0 lo = 0 ∧ HT.sIx xs.length xs.length hi = xs.length) : cutV xs lo hi = xs := by
  unfold cutV
  rw [h.1, h.2]; simp
theorem ev_slP {tl th : TO} {Lo Hi : Option Int → Prop} (h : EvD ss te a) (h1 : EvO ss tl Lo) (h2 : EvO ss th Hi) (hi' : a.items = some ds) : EvP ss (tSl (rSl K) te tl th) (fun x => ∃ lo hi, x = .tup (cutD ds lo hi) ∧ Lo lo ∧ Hi hi) := fun Z Bg σ H O Q g q =>
  h Z Bg σ H O _ g fun v H1 d pd g1 s1 hd => h1 Z Bg σ H1 O _ g1 fun lo H2 plo g2 s2 => h2 Z Bg σ H2 O _ g2 fun hi H3 phi g3 s3 => by
    subst pd
    have hd3 := (hd.mv s2).mv s3
    obtain ⟨p, xs, rfl, h4, h5⟩ := hd3.tupV (K := K) hi'
    have st := (s1.trans s2).trans s3
    refine .inr ⟨p, xs, rfl, h4, ?_, ?_⟩
    · intro w
      have e1 : cutD ds lo hi = ds := by unfold cutD; rw [← h5.length, w.1, w.2, h5.length]; simp
      have hh : Dq H3 O Z (.ref p) (.tup (cutD ds lo hi)) := by
        rw [e1]
        exact hd3.asTup hi'
      exact q _ H3 _ ⟨lo, hi, rfl, plo, phi⟩ g3 st hh
    · intro w l hl
      exact q _ _ _ ⟨lo, hi, rfl, plo, phi⟩ (g3.ext (Ext.new hl)) (st.trans (Ext.stp (Ext.new hl))) ((Dq.rtup upd_same ((cut_dq h5).mv (Ext.stp (Ext.new hl)))).wk Wk.rt1)
theorem ev_sl {tl th : TO} {lo hi : Option Int} (h : EvD ss te a) (h1 : EvO ss tl (fun x => x = lo)) (h2 : EvO ss th (fun x => x = hi)) (hi' : a.items = some ds) : EvD ss (tSl (rSl K) te tl th) (.tup (cutD ds lo hi)) :=
  (ev_slP h h1 h2 hi').mono fun x ⟨lo', hi'', e, e1, e2⟩ => by rw [e, e1, e2]
theorem en_slL {tl th : TO} {lo hi : Option Int} (h : EvD ss te (.lst ds)) (h1 : EvO ss tl (fun x => x = lo)) (h2 : EvO ss th (fun x => x = hi)) : EvN ss (tSl (rSl K) te tl th) (fun x => x = cutD ds lo hi) := fun Z Bg σ H O Q g q =>
  h Z Bg σ H O _ g fun v H1 d pd g1 s1 hd => h1 Z Bg σ H1 O _ g1 fun lo H2 plo g2 s2 => h2 Z Bg σ H2 O _ g2 fun hi H3 phi g3 s3 => by
    subst pd plo phi
    have hd3 := (hd.mv s2).mv s3
    have st := (s1.trans s2).trans s3
    cases hd3 with
    | lst n z h4 h5 =>
      refine .inl ⟨_, _, rfl, SqL.of h4, fun l hl => ?_⟩
      have hp0 : ¬ O l := (g3.wd.fresh hl).1
      have hH : H l = none := st.was hl hp0
      exact q l _ _ _ rfl hp0 hH (g3.more (Ext.new hl) hl (by rw [upd_same]; exact fun z => nomatch z)) (st.trans (stp_more hl)) upd_same ((cut_dq h5).mv (stp_more hl))
theorem en_slOwn {tl th : TO} {lo hi : Option Int} (h : ss[i]? = some (.own ds)) (h1 : EvO ss tl (fun x => x = lo)) (h2 : EvO ss th (fun x => x = hi)) : EvN ss (tSl (rSl K) (tVar i) tl th) (fun x => x = cutD ds lo hi) := fun Z Bg σ H O Q g q => by
  obtain ⟨l0, xs0, e0, _⟩ := g.own h
  refine ⟨_, e0, h1 Z Bg σ H O _ g fun lo H2 plo g2 s2 => h2 Z Bg σ H2 O _ g2 fun hi H3 phi g3 s3 => ?_⟩
  subst plo phi
  have st := s2.trans s3
  obtain ⟨l, xs, e, _, _, h4, h5⟩ := g3.own h
  rw [e0] at e; cases e
  refine .inl ⟨_, _, rfl, SqL.of h4, fun l hl => ?_⟩
  have hp0 : ¬ O l := (g3.wd.fresh hl).1
  have hH : H l = none := st.was hl hp0
  exact q l _ _ _ rfl hp0 hH (g3.more (Ext.new hl) hl (by rw [upd_same]; exact fun z => nomatch z)) (st.trans (stp_more hl)) upd_same ((cut_dq h5).mv (stp_more hl))
end
end Lg
end
section
set_option Elab.async false
set_option linter.all false
set_option maxRecDepth 100000
/-! Statements, targets, loops, comprehensions over slots of data. -/
namespace Lg
open PySem L2
variable [tbs : Tbs]
section
variable {Z : Av} {Bg : Option Addr} {H H' : Hp} {O O' : Av} {σ : L2.St} {ss : List Sl} {i j : Nat} {d : D} {ds : List D} {v : V} {vs : List V} {p : Addr} {o : Option V} {s : Sl}
theorem SlOk.at0 {x : Option V} (h : IsOwn (some s)) (k : SlOk Z Bg H O x s) : ∃ l, x = some (.ref l) ∧ O l := by
  cases s with
  | own ds => obtain ⟨l, xs, e, h1, _⟩ := k; exact ⟨l, e, h1⟩
  | obj u => obtain ⟨l, e, h1, _⟩ := k; exact ⟨l, e, h1⟩
  | ro _ _ => exact h.elim
  | un => exact h.elim
  | im _ => exact h.elim
  | bag => exact h.elim
theorem Sg.consIm (g : Sg Z Bg H O σ ss) (h : Dq H O Z v d) : Sg Z Bg H O (some v :: σ) (.im d :: ss) := by
  refine ⟨g.wd, by simp [g.len], fun i w s h1 h2 => ?_, fun i j l hij h1 h2 h3 h4 => ?_⟩
  · cases i with
    | zero => simp at h1 h2; subst h1 h2; exact ⟨v, rfl, h⟩
    | succ i => exact g.sl i w s (by simpa using h1) (by simpa using h2)
  · cases i with
    | zero => exact h1.elim
    | succ i =>
      cases j with
      | zero => exact h2.elim
      | succ j => exact g.ap i j l (by omega) (by simpa using h1) (by simpa using h2) (by simpa using h3) (by simpa using h4)
theorem Sg.consOwn (g : Sg Z Bg H O σ ss) (hO : O p) (hb : Bg ≠ some p) (hp : H p = some (.lst vs)) (hd : DqAll H O Z vs ds) (ha : ∀ (j : Nat), IsOwn ss[j]? → σ[j]? = some (some (.ref p)) → False) : Sg Z Bg H O (some (.ref p) :: σ) (.own ds :: ss) := by
  refine ⟨g.wd, by simp [g.len], fun i w s h1 h2 => ?_, fun i j l hij h1 h2 h3 h4 => ?_⟩
  · cases i with
    | zero => simp at h1 h2; subst h1 h2; exact ⟨p, vs, rfl, hO, hb, hp, hd⟩
    | succ i => exact g.sl i w s (by simpa using h1) (by simpa using h2)
  · cases i with
    | zero =>
      simp at h3; subst h3
      cases j with
      | zero => exact hij rfl
      | succ j => exact ha j (by simpa using h2) (by simpa using h4)
    | succ i =>
      cases j with
      | zero => simp at h4; subst h4; exact ha i (by simpa using h1) (by simpa using h3)
      | succ j => exact g.ap i j l (by omega) (by simpa using h1) (by simpa using h2) (by simpa using h3) (by simpa using h4)
theorem Sg.tail (g : Sg Z Bg H O (o :: σ) (s :: ss)) : Sg Z Bg H O σ ss :=
  ⟨g.wd, by simpa using g.len, fun i w s h1 h2 => g.sl (i + 1) w s (by simpa using h1) (by simpa using h2), fun i j l hij h1 h2 h3 h4 => g.ap (i + 1) (j + 1) l (by omega) (by simpa using h1) (by simpa using h2) (by simpa using h3) (by simpa using h4)⟩
theorem Sg.head (g : Sg Z Bg H O (o :: σ) (s :: ss)) : SlOk Z Bg H O o s := g.sl 0 o s rfl rfl
/-- what waits in front goes to its slot -/
theorem Sg.pop (g : Sg Z Bg H O (o :: σ) (s :: ss)) (i : Nat) : Sg Z Bg H O (σ.set i o) (ss.set i s) := by
  have hl : σ.length = ss.length := by simpa using g.len
  have key : ∀ (j : Nat) (w : Option V) (t : Sl), (σ.set i o)[j]? = some w → (ss.set i s)[j]? = some t → (o :: σ)[if j = i then 0 else j + 1]? = some w ∧ (s :: ss)[if j = i then 0 else j + 1]? = some t := by
    intro j w t h1 h2
    by_cases e : i = j
    · subst e
      have hi : i < ss.length := by have := (List.getElem?_eq_some_iff.mp h2).1; simpa using this
      rw [List.getElem?_set_self (by omega)] at h1
      rw [List.getElem?_set_self hi] at h2
      rw [if_pos rfl]
      exact ⟨h1, h2⟩
    · rw [List.getElem?_set_ne e] at h1 h2
      rw [if_neg (fun z => e z.symm)]
      exact ⟨by simpa using h1, by simpa using h2⟩
  refine ⟨g.wd, by simpa using hl, fun j w t h1 h2 => ?_, fun j k l hjk h1 h2 h3 h4 => ?_⟩
  · obtain ⟨a, b⟩ := key j w t h1 h2
    exact g.sl _ w t a b
  · have own : ∀ (j : Nat), IsOwn (ss.set i s)[j]? → ∃ t, (ss.set i s)[j]? = some t ∧ IsOwn (some t) := by
      intro j h
      cases q : (ss.set i s)[j]? with
      | none => rw [q] at h; exact h.elim
      | some t => rw [q] at h; exact ⟨t, rfl, h⟩
    obtain ⟨t1, e1, w1⟩ := own j h1
    obtain ⟨t2, e2, w2⟩ := own k h2
    obtain ⟨a1, a2⟩ := key j _ t1 h3 e1
    obtain ⟨b1, b2⟩ := key k _ t2 h4 e2
    refine g.ap _ _ l ?_ (by rw [a2]; exact w1) (by rw [b2]; exact w2) a1 b1
    split <;> split <;> omega
end

/-! ### argument lists some of which are new lists -/
def EvM (ss : List Sl) (ta : TA) (P : List Sl → Prop) : Prop := ∀ (Z : Av) (Bg : Option Addr) (σ : L2.St) (H : Hp) (O : Av) (Q : List V → Hp → Prop), Sg Z Bg H O σ ss →
  (∀ vs sls H' O', P sls → vs.length = sls.length → Sg Z Bg H' O' (vs.map some ++ σ) (sls ++ ss) → Stp O O' H H' → Q vs H') → ta σ H Q
/-- statements: what holds behind them (N), of what is returned (R), at a break (B), at a continue (C) -/
def HT (ss : List Sl) (ts : TS) (N : List Sl → Prop) (R : D → Prop) (B C : List Sl → Prop) : Prop := ∀ (Z : Av) (Bg : Option Addr) (σ : L2.St) (H : Hp) (O : Av) (E : Ends), Sg Z Bg H O σ ss →
  (∀ ss' σ' H' O', N ss' → Sg Z Bg H' O' σ' ss' → Stp O O' H H' → E.nx σ' H') →
  (∀ d v H' O', R d → Wd Z Bg H' O' → Stp O O' H H' → Dq H' O' Z v d → E.rt v H') →
  (∀ ss' σ' H' O', B ss' → Sg Z Bg H' O' σ' ss' → Stp O O' H H' → E.bk σ' H') →
  (∀ ss' σ' H' O', C ss' → Sg Z Bg H' O' σ' ss' → Stp O O' H H' → E.ct σ' H') → ts E σ H
/-- a target: from ss to ss', slots js alone -/
def Tgt (g : TG) (ss : List Sl) (d : D) (ss' : List Sl) (js : List Nat) : Prop := ∀ (Z : Av) (Bg : Option Addr) (σ : L2.St) (H : Hp) (O : Av) (v : V) (Q : L2.St → Hp → Prop), Sg Z Bg H O σ ss → Dq H O Z v d →
  (∀ σ' H', Sg Z Bg H' O σ' ss' → Stp O O H H' → σ'.length = σ.length → (∀ k : Nat, k ∉ js → σ'[k]? = σ[k]?) → Q σ' H') → g v σ H Q
/-- targets one after another, the values waiting in front -/
def TgM (t : TGs) (sls ss : List Sl) (N : List Sl → Prop) : Prop := ∀ (Z : Av) (Bg : Option Addr) (σ : L2.St) (H : Hp) (O : Av) (vs : List V) (Q : L2.St → Hp → Prop), vs.length = sls.length → Sg Z Bg H O (vs.map some ++ σ) (sls ++ ss) →
  (∀ ss' σ' H' O', N ss' → Sg Z Bg H' O' σ' ss' → Stp O O' H H' → Q σ' H') → t vs σ H Q
/-- what is walked: n turns, el i the data of turn i -/
def Src (ss : List Sl) (wi : TI) (n : Nat) (el : Nat → D) : Prop := ∀ (Z : Av) (Bg : Option Addr) (σ : L2.St) (H : Hp) (O : Av) (R : It → Hp → Prop), Sg Z Bg H O σ ss →
  (∀ J H', Sg Z Bg H' O σ ss → Stp O O H H' → (∀ O1 H1 (Z1 : Av), Stp O O1 H' H1 → (∀ a, Z1 a → Z a ∨ H' a = none) → (∀ p, H1 p = none → ¬ O1 p ∧ ¬ Z1 p) →
    (∀ i, i < n → J.go i H1) ∧ J.stop n H1 ∧ ∀ i x H2, i < n → J.yld i H1 x H2 → Ext H1 H2 ∧ Dq H2 O1 Z1 x (el i)) → R J H') → wi σ H R
/-- the same where the slots are as they were at each turn (a comprehension) -/
def SrcC (ss : List Sl) (wi : TI) (n : Nat) (el : Nat → D) : Prop := ∀ (Z : Av) (Bg : Option Addr) (σ : L2.St) (H : Hp) (O : Av) (R : It → Hp → Prop), Sg Z Bg H O σ ss →
  (∀ J H', Sg Z Bg H' O σ ss → Stp O O H H' → (∀ O1 H1 (Z1 : Av), Stp O O1 H' H1 → (∀ a, Z1 a → Z a ∨ H' a = none) → (∀ p, H1 p = none → ¬ O1 p ∧ ¬ Z1 p) → Sg Z1 Bg H1 O1 σ ss →
    (∀ i, i < n → J.go i H1) ∧ J.stop n H1 ∧ ∀ i x H2, i < n → J.yld i H1 x H2 → Ext H1 H2 ∧ Dq H2 O1 Z1 x (el i)) → R J H') → wi σ H R
theorem Src.c {ss : List Sl} {wi : TI} {n : Nat} {el : Nat → D} (h : Src ss wi n el) : SrcC ss wi n el := fun Z Bg σ H O R g k => h Z Bg σ H O R g fun J H' g' s w => k J H' g' s fun O1 H1 Z1 a b c _ => w O1 H1 Z1 a b c
section
variable {K : PySem.W.Frag} {ss : List Sl} {ta : TA} {te : TE} {tb t u : TS} {tt : TT} {g : TG} {P : D → Prop} {PL : List D → Prop} {PS PS' : List Sl → Prop} {N N' N1 : List Sl → Prop} {R R' : D → Prop} {B C B' C' : List Sl → Prop} {Bb : Bool → Prop} {i j : Nat} {d a : D} {ds : List D} {s : Sl} {sls : List Sl}
theorem EvM.mono (h : EvM ss ta PS) (f : ∀ x, PS x → PS' x) : EvM ss ta PS' := fun Z Bg σ H O Q g q => h Z Bg σ H O Q g fun vs sls H' O' p => q vs sls H' O' (f sls p)
theorem em_nil : EvM ss tNil (fun x => x = []) := fun Z Bg σ H O Q g q => q [] [] H O rfl rfl (by simpa using g) Stp.refl
theorem em_im {tr : TA} (h : EvP ss te P) (hr : EvM ss tr PS) : EvM ss (tCons te tr) (fun x => ∃ d r, x = .im d :: r ∧ P d ∧ PS r) := fun Z Bg σ H O Q g q =>
  h Z Bg σ H O _ g fun v H1 d pd g1 s1 hd => hr Z Bg σ H1 O _ g1 fun vs sls H2 O2 ps hl g2 s2 => q (v :: vs) (.im d :: sls) H2 O2 ⟨d, sls, rfl, pd, ps⟩ (by simp [hl]) (g2.consIm (hd.mv s2)) (s1.trans s2)
theorem em_imD {tr : TA} (h : EvD ss te d) (hr : EvM ss tr (fun x => x = sls)) : EvM ss (tCons te tr) (fun x => x = .im d :: sls) := (em_im h hr).mono fun x ⟨d', r, e, e1, e2⟩ => by rw [e, e1, e2]
/-- Z given up one address, which is O's own from then on -/
theorem Sg.zo {Z : Av} {Bg : Option Addr} {H : Hp} {O : Av} {σ : L2.St} {p : Addr} (g : Sg (fun a => Z a ∨ a = p) Bg H O σ ss) (hz : ¬ Z p) : Sg Z Bg H (Lg.more O p) σ ss := by
  have f : ∀ a, Lg.more O p a ∨ Z a → O a ∨ (Z a ∨ a = p) := fun a q => by
    rcases q with (q | q) | q
    · exact .inl q
    · exact .inr (.inr q)
    · exact .inr (.inl q)
  refine ⟨⟨fun a q => g.wd.al a (f a q), fun a q z => ?_, fun b hb => ?_, g.wd.tb⟩, g.len, fun i v sl h1 h2 => ?_, g.ap⟩
  · rcases q with q | q
    · exact g.wd.dj a q (.inl z)
    · exact hz (q ▸ z)
  · obtain ⟨h1, i, j, k, c, ns, q1, q2, q3, q4⟩ := g.wd.bg b hb
    exact ⟨.inl h1, i, j, k, c, ns, q1, fun q => q.elim q2 fun e => q3 (.inr e), fun q => q3 (.inl q), q4⟩
  · have q := g.sl i v sl h1 h2
    cases sl with
    | un => trivial
    | im d => obtain ⟨x, r, q⟩ := q; exact ⟨x, r, q.less f⟩
    | own ds => obtain ⟨l, xs, r, k1, k2, k3, k4⟩ := q; exact ⟨l, xs, r, .inl k1, k2, k3, k4.less f⟩
    | obj u => obtain ⟨l, r, k1, k2, k3, k4⟩ := q; exact ⟨l, r, .inl k1, k2, k3, k4⟩
    | ro l w => obtain ⟨r, k1, k2, k3, k4⟩ := q; exact ⟨r, fun z => z.elim k1 fun e => k2 (.inr e), fun z => k2 (.inl z), k3, k4⟩
    | bag => exact q
/-- .. and the other way -/
theorem Sg.oz {Z : Av} {Bg : Option Addr} {H H' : Hp} {O : Av} {σ : L2.St} {p : Addr} (g0 : Sg Z Bg H O σ ss) (np : ¬ O p) (g : Sg Z Bg H' (Lg.more O p) σ ss) : Sg (fun a => Z a ∨ a = p) Bg H' O σ ss := by
  have f : ∀ a, O a ∨ (Z a ∨ a = p) → Lg.more O p a ∨ Z a := fun a q => by
    rcases q with q | q | q
    · exact .inl (.inl q)
    · exact .inr q
    · exact .inl (.inr q)
  refine ⟨⟨fun a q => g.wd.al a (f a q), fun a q z => ?_, fun b hb => ?_, g.wd.tb⟩, g.len, fun i v sl h1 h2 => ?_, g.ap⟩
  · rcases z with z | z
    · exact g0.wd.dj a q z
    · exact np (z ▸ q)
  · obtain ⟨h1, i, j, k, c, ns, q1, q2, q3, q4⟩ := g.wd.bg b hb
    exact ⟨(g0.wd.bg b hb).1, i, j, k, c, ns, q1, fun q => q2 (.inl q), fun q => q.elim q3 fun e => q2 (.inr e), q4⟩
  · have q := g.sl i v sl h1 h2
    cases sl with
    | un => trivial
    | im d => obtain ⟨x, r, q⟩ := q; exact ⟨x, r, q.less f⟩
    | own ds =>
      obtain ⟨l, xs, r, k1, k2, k3, k4⟩ := q
      obtain ⟨l2, xs2, r2, m1, _⟩ := g0.sl i v _ h1 h2
      rw [r] at r2; cases r2
      exact ⟨l, xs, r, m1, k2, k3, k4.less f⟩
    | obj u =>
      obtain ⟨l, r, k1, k2, k3, k4⟩ := q
      obtain ⟨l2, r2, m1, _⟩ := g0.sl i v _ h1 h2
      rw [r] at r2; cases r2
      exact ⟨l, r, m1, k2, k3, k4⟩
    | ro l w => obtain ⟨r, k1, k2, k3, k4⟩ := q; exact ⟨r, fun z => k1 (.inl z), fun z => z.elim k2 fun e => k1 (.inr e), k3, k4⟩
    | bag => exact q
theorem em_own {tr : TA} (h : EvN ss te PL) (hr : EvM ss tr PS) : EvM ss (tCons te tr) (fun x => ∃ ds r, x = .own ds :: r ∧ PL ds ∧ PS r) := fun Z Bg σ H O Q g q =>
  h Z Bg σ H O _ g fun p xs ds H1 pd np hn g1 s1 hp hd => by
    have hz : ¬ Z p := g1.wd.dj p (.inr rfl)
    refine hr (fun a => Z a ∨ a = p) Bg σ H1 O _ (g.oz np g1) fun vs sls H2 O2 ps hl g2 s2 => ?_
    have np2 : ¬ O2 p := fun z => (s2.av p z).elim np fun e => by rw [hp] at e; cases e
    have hp2 := s2.kp p _ hp np nofun
    have hd1 : DqAll H1 O (fun a => Z a ∨ a = p) xs ds := hd.less fun a q => by
      rcases q with q | q | q
      · exact .inl (.inl q)
      · exact .inr q
      · exact .inl (.inr q)
    have g3 := g2.zo hz
    have hd3 : DqAll H2 (more O2 p) Z xs ds := (hd1.mv s2).less fun a q => by
      rcases q with (q | q) | q
      · exact .inl q
      · exact .inr (.inr q)
      · exact .inr (.inl q)
    have hb : Bg ≠ some p := fun e => by
      have := (g.wd.bg p e).1
      exact np this
    refine q (.ref p :: vs) (.own ds :: sls) H2 (more O2 p) ⟨ds, sls, rfl, pd, ps⟩ (by simp [hl]) ?_ ?_
    · refine g3.consOwn (.inr rfl) hb hp2 hd3 fun k h1 h2 => ?_
      have h1' : ∃ t, (sls ++ ss)[k]? = some t ∧ IsOwn (some t) := by
        cases e : (sls ++ ss)[k]? with
        | none => rw [e] at h1; exact h1.elim
        | some t => rw [e] at h1; exact ⟨t, rfl, h1⟩
      obtain ⟨t, e1, w1⟩ := h1'
      obtain ⟨l, e2, hO⟩ := SlOk.at0 w1 (g2.sl k _ t h2 e1)
      cases e2
      exact np2 hO
    · refine ⟨fun a u e t => s2.tp a u (s1.tp a u e t) t, fun a o e n t => s2.kp a o (s1.kp a o e n t) n t, fun a e n => s2.al a (s1.al a e n) n, fun a e => ?_, fun t => s2.tb (s1.tb t)⟩
      rcases e with e | e
      · rcases s2.av a e with z | z
        · exact .inl z
        · by_cases n : O a
          · exact .inl n
          · exact .inr (s1.was z n)
      · exact .inr (by rw [e]; exact hn)
/-! ### structure -/
theorem HT.mono (h : HT ss t N R B C) (hN : ∀ x, N x → N' x) (hR : ∀ x, R x → R' x) (hB : ∀ x, B x → B' x) (hC : ∀ x, C x → C' x) : HT ss t N' R' B' C' := fun Z Bg σ H O E g n r b c =>
  h Z Bg σ H O E g (fun ss' σ' H' O' p => n ss' σ' H' O' (hN _ p)) (fun d v H' O' p => r d v H' O' (hR _ p)) (fun ss' σ' H' O' p => b ss' σ' H' O' (hB _ p)) (fun ss' σ' H' O' p => c ss' σ' H' O' (hC _ p))
theorem HT.monoN (h : HT ss t N R B C) (hN : ∀ x, N x → N' x) : HT ss t N' R B C := h.mono hN (fun _ q => q) (fun _ q => q) (fun _ q => q)
theorem ht_seq (h : HT ss t N1 R B C) (k : ∀ ss1, N1 ss1 → HT ss1 u N R B C) : HT ss (tSeq t u) N R B C := fun Z Bg σ H O E g n r b c =>
  h Z Bg σ H O { E with nx := u E } g (fun ss1 σ1 H1 O1 p g1 s1 => k ss1 p Z Bg σ1 H1 O1 E g1
    (fun ss' σ' H' O' p' g' s' => n ss' σ' H' O' p' g' (s1.trans s')) (fun d v H' O' p' w' s' => r d v H' O' p' w' (s1.trans s'))
    (fun ss' σ' H' O' p' g' s' => b ss' σ' H' O' p' g' (s1.trans s')) (fun ss' σ' H' O' p' g' s' => c ss' σ' H' O' p' g' (s1.trans s'))) r b c
theorem ht_next (p : N ss) : HT ss tNext N R B C := fun Z Bg σ H O E g n r b c => n ss σ H O p g Stp.refl
theorem ht_brk (p : B ss) : HT ss tBreak N R B C := fun Z Bg σ H O E g n r b c => b ss σ H O p g Stp.refl
theorem ht_cont (p : C ss) : HT ss tCont N R B C := fun Z Bg σ H O E g n r b c => c ss σ H O p g Stp.refl
theorem ht_ret (h : EvP ss te P) (f : ∀ d, P d → R d) : HT ss (tRet te) N R B C := fun Z Bg σ H O E g n r b c => h Z Bg σ H O _ g fun v H' d p g' s' hd => r d v H' O (f d p) g'.wd s' hd
theorem ht_if (h : EvB ss tt Bb) (h1 : Bb true → HT ss t N R B C) (h2 : Bb false → HT ss u N R B C) : HT ss (tIfS tt t u) N R B C := fun Z Bg σ H O E g n r b c => h Z Bg σ H O _ g fun x H1 p g1 s1 => by
  cases x with
  | true => exact iteT (h1 p Z Bg σ H1 O E g1 (fun ss' σ' H' O' p' g' s' => n ss' σ' H' O' p' g' (s1.trans s')) (fun d v H' O' p' w' s' => r d v H' O' p' w' (s1.trans s')) (fun ss' σ' H' O' p' g' s' => b ss' σ' H' O' p' g' (s1.trans s')) (fun ss' σ' H' O' p' g' s' => c ss' σ' H' O' p' g' (s1.trans s')))
  | false => exact iteF (h2 p Z Bg σ H1 O E g1 (fun ss' σ' H' O' p' g' s' => n ss' σ' H' O' p' g' (s1.trans s')) (fun d v H' O' p' w' s' => r d v H' O' p' w' (s1.trans s')) (fun ss' σ' H' O' p' g' s' => b ss' σ' H' O' p' g' (s1.trans s')) (fun ss' σ' H' O' p' g' s' => c ss' σ' H' O' p' g' (s1.trans s')))
theorem ht_never : HT ss tNever N R B C → HT ss tNever N R B C := id
/-- a list of one's own is read only from here on; a slot is forgotten -/
theorem ht_freeze (hi : ss[i]? = some (.own ds)) (h : HT (ss.set i (.im (.lst ds))) t N R B C) : HT ss t N R B C := fun Z Bg σ H O E g n r b c => by
  obtain ⟨l, xs, e, _⟩ := g.own hi
  obtain ⟨g1, s1⟩ := g.freeze hi e
  exact h Z Bg σ H _ E g1 (fun ss' σ' H' O' p' g' s' => n ss' σ' H' O' p' g' (s1.trans s')) (fun d v H' O' p' w' s' => r d v H' O' p' w' (s1.trans s')) (fun ss' σ' H' O' p' g' s' => b ss' σ' H' O' p' g' (s1.trans s')) (fun ss' σ' H' O' p' g' s' => c ss' σ' H' O' p' g' (s1.trans s'))
theorem ht_forget (i : Nat) (h : HT (ss.set i .un) t N R B C) : HT ss t N R B C := fun Z Bg σ H O E g n r b c => h Z Bg σ H O E (g.forget i) n r b c
/-! ### assignments -/
theorem ht_asg (h : EvP ss te P) (f : ∀ d, P d → N (ss.set i (.im d))) : HT ss (tAsg te (gName i)) N R B C := fun Z Bg σ H O E g n r b c =>
  h Z Bg σ H O _ g fun v H' d p g' s' hd => n _ _ H' O (f d p) (g'.setIm i hd) s'
theorem ht_asgN (h : EvN ss te PL) (f : ∀ ds, PL ds → N (ss.set i (.own ds))) : HT ss (tAsg te (gName i)) N R B C := fun Z Bg σ H O E g n r b c =>
  h Z Bg σ H O _ g fun p xs ds H' pd np _ g' s' hp hd => n _ _ H' (more O p) (f ds pd) (g.setOwn g' np i hp hd) s'
theorem ht_asgT (h : EvP ss te P) (f : ∀ d, P d → ∃ ss' js, Tgt g ss d ss' js ∧ N ss') : HT ss (tAsg te g) N R B C := fun Z Bg σ H O E gg n r b c =>
  h Z Bg σ H O _ gg fun v H' d p g' s' hd => by
    obtain ⟨ss', js, ht, hn⟩ := f d p
    exact ht Z Bg σ H' O v _ g' hd fun σ2 H2 g2 s2 _ _ => n ss' σ2 H2 O hn g2 (s'.trans s2)
theorem tgt_name : Tgt (gName i) ss d (ss.set i (.im d)) [i] := fun Z Bg σ H O v Q g hd q => q _ H (g.setIm i hd) Stp.refl (by simp) fun k hk => List.getElem?_set_ne (fun e => hk (by simp [e]))
theorem tgt_2 {a1 a2 : D} (hi : a.items = some [a1, a2]) : Tgt (gTup K 2 (gCons (gName i) (gCons (gName j) gNil))) ss a ((ss.set i (.im a1)).set j (.im a2)) [i, j] := fun Z Bg σ H O v Q g hd q => by
  obtain ⟨p, xs, rfl, h1, h2⟩ := hd.tupV (K := K) hi
  cases h2 with
  | cons d1 t1 =>
    cases t1 with
    | cons d2 t2 =>
      cases t2
      refine ⟨p, _, rfl, h1, rfl, _, _, rfl, _, _, rfl, rfl, q _ H ((g.setIm i d1).setIm j d2) Stp.refl (by simp) fun k hk => ?_⟩
      have k1 : i ≠ k := fun e => hk (by simp [e])
      have k2 : j ≠ k := fun e => hk (by simp [e])
      rw [List.getElem?_set_ne k2, List.getElem?_set_ne k1]
theorem tgt_3 {k : Nat} {a1 a2 a3 : D} (hi : a.items = some [a1, a2, a3]) : Tgt (gTup K 3 (gCons (gName i) (gCons (gName j) (gCons (gName k) gNil)))) ss a (((ss.set i (.im a1)).set j (.im a2)).set k (.im a3)) [i, j, k] := fun Z Bg σ H O v Q g hd q => by
  obtain ⟨p, xs, rfl, h1, h2⟩ := hd.tupV (K := K) hi
  cases h2 with
  | cons d1 t1 =>
    cases t1 with
    | cons d2 t2 =>
      cases t2 with
      | cons d3 t3 =>
        cases t3
        refine ⟨p, _, rfl, h1, rfl, _, _, rfl, _, _, rfl, _, _, rfl, rfl, q _ H (((g.setIm i d1).setIm j d2).setIm k d3) Stp.refl (by simp) fun m hm => ?_⟩
        have k1 : i ≠ m := fun e => hm (by simp [e])
        have k2 : j ≠ m := fun e => hm (by simp [e])
        have k3 : k ≠ m := fun e => hm (by simp [e])
        rw [List.getElem?_set_ne k3, List.getElem?_set_ne k2, List.getElem?_set_ne k1]
/-- xs[e] = .., xs a list of one's own -/
theorem tgt_item {ti : TE} {k : Int} {m : Nat} (hi : ss[i]? = some (.own ds)) (h : EvD ss ti (.int k)) (hk : ixN ds.length k = some m) : Tgt (gSub (tVar i) ti rSetL) ss d (ss.set i (.own (ds.set m d))) [] := fun Z Bg σ H O v Q g hd q => by
  obtain ⟨l0, xs0, e0, _⟩ := g.own hi
  refine ⟨_, e0, h Z Bg σ H O _ g fun x H2 kd pk g2 s2 hx => ?_⟩
  subst pk; cases hx
  obtain ⟨l, xs, e, hO, _, h1, h2⟩ := g2.own hi
  rw [e0] at e; cases e
  obtain ⟨g3, s3⟩ := g2.write hi e0 ((hd.mv s2).mv Stp.refl |> fun q => DqAll.set q m h2)
  exact ⟨l0, xs, k, m, rfl, rfl, h1, by rw [h2.length]; exact hk, q σ _ g3 (s2.trans s3) rfl fun _ _ => rfl⟩
/-- a, b = x, y with plain names -/
theorem ht_par (h : EvM ss ta PS) (f : ∀ x, PS x → ∃ s1 s2, x = [s1, s2] ∧ N ((ss.set i s1).set j s2)) : HT ss (tPar i j ta) N R B C := fun Z Bg σ H O E g n r b c =>
  h Z Bg σ H O _ g fun vs sls H' O' p hl g' s' => by
    obtain ⟨s1, s2, rfl, hn⟩ := f sls p
    match vs, hl with
    | [v, w], _ =>
      refine ⟨v, w, rfl, n _ _ H' O' hn ?_ s'⟩
      have g2 : Sg _ _ H' O' ((some w :: σ).set (i + 1) (some v)) ((s2 :: ss).set (i + 1) s1) := Sg.pop (by simpa using g') (i + 1)
      exact Sg.pop (σ := σ.set i (some v)) (ss := ss.set i s1) (by simpa using g2) j
theorem ht_par3 {l : Nat} (h : EvM ss ta PS) (f : ∀ x, PS x → ∃ s1 s2 s3, x = [s1, s2, s3] ∧ N (((ss.set i s1).set j s2).set l s3)) : HT ss (tPar3 i j l ta) N R B C := fun Z Bg σ H O E g n r b c =>
  h Z Bg σ H O _ g fun vs sls H' O' p hl g' s' => by
    obtain ⟨s1, s2, s3, rfl, hn⟩ := f sls p
    match vs, hl with
    | [v, w, y], _ =>
      refine ⟨v, w, y, rfl, n _ _ H' O' hn ?_ s'⟩
      have g2 : Sg _ _ H' O' ((some w :: some y :: σ).set (i + 2) (some v)) ((s2 :: s3 :: ss).set (i + 2) s1) := Sg.pop (by simpa using g') (i + 2)
      have g3 : Sg _ _ H' O' ((some y :: σ.set i (some v)).set (j + 1) (some w)) ((s3 :: ss.set i s1).set (j + 1) s2) := Sg.pop (by simpa using g2) (j + 1)
      exact Sg.pop (σ := (σ.set i (some v)).set j (some w)) (ss := (ss.set i s1).set j s2) (by simpa using g3) l
theorem tgm_nil (h : N ss) : TgM gNil [] ss N := fun Z Bg σ H O vs Q hl g q => by
  match vs, hl with
  | [], _ => exact ⟨rfl, q ss σ H O h (by simpa using g) Stp.refl⟩
theorem tgm_name {t : TGs} (h : TgM t sls (ss.set i s) N) : TgM (gCons (gName i) t) (s :: sls) ss N := fun Z Bg σ H O vs Q hl g q => by
  match vs, hl with
  | v :: vs, hl =>
    refine ⟨v, vs, rfl, h Z Bg (σ.set i (some v)) H O vs Q (by simpa using hl) ?_ q⟩
    have hl' : vs.length = sls.length := by simpa using hl
    have g1 : Sg Z Bg H O ((vs.map some ++ σ).set (vs.length + i) (some v)) ((sls ++ ss).set (vs.length + i) s) := Sg.pop (by simpa using g) _
    rw [List.set_append_right _ _ (by simp), List.set_append_right _ _ (by omega)] at g1
    simpa [hl'] using g1
theorem Sg.drop {Z : Av} {Bg : Option Addr} {H : Hp} {O : Av} : ∀ {τ σ : L2.St} {sls ss : List Sl}, τ.length = sls.length → Sg Z Bg H O (τ ++ σ) (sls ++ ss) → Sg Z Bg H O σ ss
  | [], _, [], _, _, g => g
  | _ :: τ, _, _ :: sls, _, h, g => Sg.drop (by simpa using h) g.tail
/-- .., xs[e] = .., the last of the targets -/
theorem tgm_item {ti : TE} {k : Int} {m : Nat} (hi : ss[i]? = some (.own ds)) (h : EvD ss ti (.int k)) (hk : ixN ds.length k = some m) (hn : N (ss.set i (.own (ds.set m d)))) : TgM (gCons (gSub (tVar i) ti rSetL) gNil) [.im d] ss N := fun Z Bg σ H O vs Q hl g q => by
  match vs, hl with
  | [v], _ =>
    obtain ⟨x, e, hd⟩ := (show Sg Z Bg H O (some v :: σ) (.im d :: ss) from g).head
    cases e
    have g' : Sg Z Bg H O σ ss := (show Sg Z Bg H O (some v :: σ) (.im d :: ss) from g).tail
    refine ⟨v, [], rfl, tgt_item hi h hk Z Bg σ H O v _ g' hd fun σ' H' g2 s2 _ _ => ?_⟩
    exact ⟨rfl, q _ σ' H' O hn g2 s2⟩
/-- a, b, .. = (x, y, ..), by a tuple -/
theorem ht_tupasg {gs : TGs} {n : Nat} (h : EvM ss ta PS) (hn : n ≤ 1000) (f : ∀ x, PS x → x.length = n ∧ TgM gs x ss N) : HT ss (tAsg (tTup ta) (gTup K n gs)) N R B C := fun Z Bg σ H O E g nn r b c =>
  h Z Bg σ H O _ g fun vs sls H' O' p hl g' s' => by
    obtain ⟨h1, h2⟩ := f sls p
    refine ⟨by rw [hl, h1]; exact sz_of (by omega), fun q hq => ?_⟩
    have e := Ext.new (o := .tup vs) hq
    exact ⟨q, vs, rfl, SqT.of upd_same, by rw [hl, h1], h2 Z Bg σ _ O' vs _ hl (g'.ext e) fun ss2 σ2 H2 O2 hp2 g2 s2 => nn ss2 σ2 H2 O2 hp2 g2 ((s'.trans (Ext.stp e)).trans s2)⟩
/-- x += e, x -= e: ints -/
theorem ht_aug {f : Int → Int → Int} {m n : Int} (hi : ss[i]? = some (.im (.int m))) (h : EvD ss te (.int n)) (hn : N (ss.set i (.im (.int (f m n))))) : HT ss (tAug i te (ipI f)) N R B C := fun Z Bg σ H O E g nn r b c => by
  obtain ⟨v, e, hd⟩ := g.im hi
  cases hd
  exact ⟨_, e, h Z Bg σ H O _ g fun y H' d pd g' s' hd => by
    subst pd; cases hd
    exact ⟨m, n, rfl, rfl, nn _ _ H' O hn (g'.setIm i (.int _)) s'⟩⟩
/-! ### methods of a list of one's own, as statements -/
theorem ht_append (hi : ss[i]? = some (.own ds)) (h : EvP ss te P) (hz : ds.length < 100000) (f : ∀ d, P d → N (ss.set i (.own (ds ++ [d])))) : HT ss (tDrop (tBM K "list" rAppend (tVar i) (tCons te tNil))) N R B C := fun Z Bg σ H O E g nn r b c => by
  obtain ⟨l0, xs0, e0, _, _, h01, _⟩ := g.own hi
  refine ⟨_, e0, .inl ⟨rfl, xs0, SqL.of h01⟩, h Z Bg σ H O _ g fun y H' d pd g' s' hd => ?_⟩
  obtain ⟨l, xs, e, _, _, h1, h2⟩ := g'.own hi
  rw [e0] at e; cases e
  obtain ⟨g3, s3⟩ := g'.write hi e0 (h2.append (.one hd))
  exact ⟨l0, xs, y, rfl, rfl, h1, by rw [h2.length]; exact sz_lt hz, nn _ σ _ O (f d pd) g3 (s'.trans s3)⟩
theorem ht_extend (hi : ss[i]? = some (.own ds)) (h : EvP ss te (fun x => ∃ es, x = .lst es ∧ PL es)) (hz : ∀ es, PL es → ds.length + es.length ≤ 100000) (f : ∀ es, PL es → N (ss.set i (.own (ds ++ es)))) : HT ss (tDrop (tBM K "list" rExtend (tVar i) (tCons te tNil))) N R B C := fun Z Bg σ H O E g nn r b c => by
  obtain ⟨l0, xs0, e0, _, _, h01, _⟩ := g.own hi
  refine ⟨_, e0, .inl ⟨rfl, xs0, SqL.of h01⟩, h Z Bg σ H O _ g fun y H' d pd g' s' hd => ?_⟩
  obtain ⟨es, rfl, pe⟩ := pd
  obtain ⟨l, xs, e, _, _, h1, h2⟩ := g'.own hi
  rw [e0] at e; cases e
  cases hd with
  | lst n z h3 h4 =>
    obtain ⟨g3, s3⟩ := g'.write hi e0 (h2.append h4)
    exact ⟨l0, _, xs, _, rfl, rfl, h1, h3, by rw [h2.length, h4.length]; exact sz_of (hz es pe), nn _ σ _ O (f es pe) g3 (s'.trans s3)⟩
/-! ### loops -/
theorem ht_for {wi : TI} {n : Nat} {el : Nat → D} (hs : Src ss wi n el) (I : Nat → List Sl → Prop) (h0 : I 0 ss) (step : ∀ i ss1, i < n → I i ss1 → ∃ ss2 js, Tgt g ss1 (el i) ss2 js ∧ HT ss2 tb (I (i + 1)) R N (I (i + 1))) (hd : ∀ ss1, I n ss1 → N ss1) :
    HT ss (tFor wi g tb) N R B C := fun Z Bg σ H O E gg nn r b c =>
  hs Z Bg σ H O _ gg fun J H' g' s' walk => by
    refine ⟨fun i m σ1 H1 => m = n - i ∧ i ≤ n ∧ ∃ O1 ss1, I i ss1 ∧ Sg Z Bg H1 O1 σ1 ss1 ∧ Stp O O1 H' H1, ⟨n, by simp, Nat.zero_le _, O, ss, h0, g', Stp.refl⟩, ?_⟩
    rintro i m σ1 H1 ⟨rfl, hi, O1, ss1, hI, g1, s1⟩
    obtain ⟨w1, w2, w3⟩ := walk O1 H1 Z s1 (fun a h => .inl h) g1.nn
    by_cases hlt : i < n
    · refine .inr ⟨w1 i hlt, fun σ2 H2 => ∃ O2 ss2, I (i + 1) ss2 ∧ Sg Z Bg H2 O2 σ2 ss2 ∧ Stp O O2 H' H2, fun σ' H'' q => ⟨n - (i + 1), by omega, rfl, hlt, q⟩, fun x H2 hy => ?_⟩
      obtain ⟨e2, hd2⟩ := w3 i x H2 hlt hy
      obtain ⟨ss2, js, ht, hb⟩ := step i ss1 hlt hI
      refine ht Z Bg σ1 H2 O1 x _ (g1.ext e2) hd2 fun σ3 H3 g3 s3 _ _ => ?_
      have st : Stp O O1 H' H3 := (s1.trans (Ext.stp e2)).trans s3
      exact hb Z Bg σ3 H3 O1 _ g3 (fun ss' σ' H4 O4 p4 g4 s4 => ⟨O4, ss', p4, g4, st.trans s4⟩) (fun d v H4 O4 p4 w4 s4 hd4 => r d v H4 O4 p4 w4 (s'.trans (st.trans s4)) hd4)
        (fun ss' σ' H4 O4 p4 g4 s4 => nn ss' σ' H4 O4 p4 g4 (s'.trans (st.trans s4))) (fun ss' σ' H4 O4 p4 g4 s4 => ⟨O4, ss', p4, g4, st.trans s4⟩)
    · have e : i = n := by omega
      subst e
      exact .inl ⟨w2, nn ss1 σ1 H1 O1 (hd ss1 hI) g1 (s'.trans s1)⟩
theorem ht_while {tc : TT} (I : Nat → List Sl → Prop) (m0 : Nat) (h0 : I m0 ss) (step : ∀ m ss1, I m ss1 → ∃ Bb, EvB ss1 tc Bb ∧ (Bb true → HT ss1 tb (fun x => ∃ m', m' < m ∧ I m' x) R N (fun x => ∃ m', m' < m ∧ I m' x)) ∧ (Bb false → N ss1)) :
    HT ss (tWhile tc tb) N R B C := fun Z Bg σ H O E gg nn r b c => by
  refine ⟨fun m σ1 H1 => ∃ O1 ss1, I m ss1 ∧ Sg Z Bg H1 O1 σ1 ss1 ∧ Stp O O1 H H1, ⟨m0, O, ss, h0, gg, Stp.refl⟩, ?_⟩
  rintro m σ1 H1 ⟨O1, ss1, hI, g1, s1⟩
  obtain ⟨Bb, hc, ht, hf⟩ := step m ss1 hI
  refine hc Z Bg σ1 H1 O1 _ g1 fun x H2 p g2 s2 => ?_
  cases x with
  | true =>
    refine iteT ⟨fun σ2 H2 => ∃ m', m' < m ∧ ∃ O2 ss2, I m' ss2 ∧ Sg Z Bg H2 O2 σ2 ss2 ∧ Stp O O2 H H2, fun σ' H' ⟨m', hm, q⟩ => ⟨m', hm, q⟩, ?_⟩
    have st := s1.trans s2
    exact ht p Z Bg σ1 H2 O1 _ g2 (fun ss' σ' H4 O4 ⟨m', hm, p4⟩ g4 s4 => ⟨m', hm, O4, ss', p4, g4, st.trans s4⟩) (fun d v H4 O4 p4 w4 s4 hd4 => r d v H4 O4 p4 w4 (st.trans s4) hd4)
      (fun ss' σ' H4 O4 p4 g4 s4 => nn ss' σ' H4 O4 p4 g4 (st.trans s4)) (fun ss' σ' H4 O4 ⟨m', hm, p4⟩ g4 s4 => ⟨m', hm, O4, ss', p4, g4, st.trans s4⟩)
  | false => exact iteF (nn ss1 σ1 H2 O1 (hf p) g2 (s1.trans s2))
/-! ### comprehensions -/
def wipeS (ss : List Sl) : List Nat → List Sl
  | [] => ss
  | v :: vs => (wipeS ss vs).set v .un
theorem Sg.wipe {Z : Av} {Bg : Option Addr} {H : Hp} {O : Av} {σ : L2.St} (g : Sg Z Bg H O σ ss) : ∀ vs : List Nat, Sg Z Bg H O (wipe σ vs) (wipeS ss vs)
  | [] => g
  | v :: vs => (Sg.wipe g vs).setUn v none
theorem wipe_of {σ τ : L2.St} (hl : τ.length = σ.length) : ∀ {vs : List Nat}, (∀ k : Nat, k ∉ vs → τ[k]? = σ[k]?) → wipe τ vs = wipe σ vs := by
  intro vs h
  apply List.ext_getElem?
  have key : ∀ (vs : List Nat) (ρ : L2.St) (k : Nat), (wipe ρ vs)[k]? = if k ∈ vs ∧ k < ρ.length then some none else ρ[k]? := by
    intro vs
    induction vs with
    | nil => intro ρ k; simp [L2.wipe]
    | cons v vs ih =>
      intro ρ k
      show ((L2.wipe ρ vs).set v none)[k]? = _
      rw [List.getElem?_set]
      by_cases e : v = k
      · subst e
        rw [wipe_length]
        by_cases hk : v < ρ.length
        · simp [hk]
        · simp [hk]
      · rw [if_neg e, ih]
        by_cases hm : k ∈ vs
        · by_cases hk : k < ρ.length <;> simp [hm, hk]
        · have : ¬ (k ∈ v :: vs) := by intro z; rcases List.mem_cons.mp z with z | z; exact e z.symm; exact hm z
          simp [hm, this]
  intro k
  rw [key, key, hl]
  by_cases hk : k ∈ vs
  · by_cases hb : k < σ.length
    · simp [hk, hb]
    · rw [if_neg (by simp [hb]), if_neg (by simp [hb]), List.getElem?_eq_none (by omega), List.getElem?_eq_none (by omega)]
  · simp [hk]
    exact h k hk
theorem wipe_idem {σ : L2.St} (vs : List Nat) : wipe (wipe σ vs) vs = wipe σ vs := by
  refine wipe_of (wipe_length σ vs) fun k hk => ?_
  exact wipe_out hk
theorem wipeS_len : ∀ (vs : List Nat) (ss : List Sl), (wipeS ss vs).length = ss.length
  | [], _ => rfl
  | v :: vs, ss => by show ((wipeS ss vs).set v .un).length = _; rw [List.length_set, wipeS_len vs ss]
theorem wipeS_out {k : Nat} : ∀ {vs : List Nat}, k ∉ vs → (wipeS ss vs)[k]? = ss[k]?
  | [], _ => rfl
  | v :: vs, h => by
    show ((wipeS ss vs).set v .un)[k]? = _
    rw [List.getElem?_set_ne (fun e => h (by simp [e])), wipeS_out (fun z => h (List.mem_cons_of_mem _ z))]
def noOwn (ss : List Sl) (vs : List Nat) : Bool := vs.all fun k => match ss[k]? with
  | some (.own _) => false
  | some (.obj _) => false
  | _ => true
theorem Sg.unwipe {Z : Av} {Bg : Option Addr} {H H' : Hp} {O : Av} {σ : L2.St} {vs : List Nat} (g : Sg Z Bg H O σ ss) (g' : Sg Z Bg H' O (L2.wipe σ vs) (wipeS ss vs)) (s : Stp O O H H') (hv : noOwn ss vs = true) : Sg Z Bg H' O σ ss := by
  refine ⟨g'.wd, g.len, fun i v sl h1 h2 => ?_, g.ap⟩
  have q := g.sl i v sl h1 h2
  cases sl with
  | un => trivial
  | im d => obtain ⟨x, r, q⟩ := q; exact ⟨x, r, q.mv s⟩
  | own ds =>
    have hi : i ∉ vs := fun z => by
      have := List.all_eq_true.mp hv i z
      rw [h2] at this
      cases this
    exact g'.sl i v _ (by rw [wipe_out hi]; exact h1) (by rw [wipeS_out hi]; exact h2)
  | obj u =>
    have hi : i ∉ vs := fun z => by
      have := List.all_eq_true.mp hv i z
      rw [h2] at this
      cases this
    exact g'.sl i v _ (by rw [wipe_out hi]; exact h1) (by rw [wipeS_out hi]; exact h2)
  | ro l w => obtain ⟨r, k1, k2, k3, k4⟩ := q; exact ⟨r, k1, k2, s.kp l _ k3 k1 k4, k4⟩
  | bag => exact q
theorem filter_succ {α : Type} (keep : Nat → Bool) (f : Nat → α) (i : Nat) : ((List.range (i + 1)).filter keep).map f = ((List.range i).filter keep).map f ++ (if keep i = true then [f i] else []) := by
  rw [List.range_succ, List.filter_append, List.map_append]
  by_cases h : keep i = true <;> simp [h]
theorem off_ne {H : Hp} {p a : Addr} {u : HO} (hm : ∃ w, H p = some w ∧ IsMu w) (e : H a = some u) (t : IsTp u) : a ≠ p := by
  obtain ⟨w, e', m⟩ := hm
  exact IsTp.ne e t e' m.ntp
mutual
theorem Dq.off {H H' : Hp} {O Z : Av} {p : Addr} (h : ∀ a, a ≠ p → H' a = H a) (hz : Z p) (hm : ∃ w, H p = some w ∧ IsMu w) : ∀ {v : V} {d : D}, Dq H O Z v d → Dq H' O Z v d
  | _, _, .non => .non
  | _, _, .bl b => .bl b
  | _, _, .int i => .int i
  | _, _, .str x => .str x
  | _, _, .lst n z e t => .lst n z ((h _ fun q => z (by rw [q]; exact hz)).trans e) (DqAll.off h hz hm t)
  | _, _, .tup e c t => .tup ((h _ (off_ne hm e (by rcases c with rfl | ⟨o, rfl⟩ <;> trivial))).trans e) c (DqAll.off h hz hm t)
  | _, _, .ptup e c t => .ptup ((h _ (off_ne hm e trivial)).trans e) c (DqAll.off h hz hm t)
  | _, _, .rtup e t => .rtup ((h _ (off_ne hm e trivial)).trans e) (DqAll.off h hz hm t)
theorem DqAll.off {H H' : Hp} {O Z : Av} {p : Addr} (h : ∀ a, a ≠ p → H' a = H a) (hz : Z p) (hm : ∃ w, H p = some w ∧ IsMu w) : ∀ {vs : List V} {ds : List D}, DqAll H O Z vs ds → DqAll H' O Z vs ds
  | _, _, .nil => .nil
  | _, _, .cons q t => .cons (Dq.off h hz hm q) (DqAll.off h hz hm t)
end
theorem Sg.off {Z : Av} {Bg : Option Addr} {H H' : Hp} {O : Av} {σ : L2.St} {p : Addr} (g : Sg Z Bg H O σ ss) (h : ∀ a, a ≠ p → H' a = H a) (hz : Z p) (hm : ∃ w, H p = some w ∧ IsMu w) (hp : H' p ≠ none) (ht : LamX.Tabs tbs.T H → LamX.Tabs tbs.T H') : Sg Z Bg H' O σ ss := by
  refine ⟨⟨fun a q => ?_, g.wd.dj, fun b hb => ?_, ht g.wd.tb⟩, g.len, fun i v sl h1 h2 => ?_, g.ap⟩
  · by_cases e : a = p
    · rw [e]; exact hp
    · rw [h a e]; exact g.wd.al a q
  · obtain ⟨k1, i, j, k, c, ns, q1, q2, q3, q4⟩ := g.wd.bg b hb
    exact ⟨k1, i, j, k, c, ns, by rw [h b (fun q => g.wd.dj b k1 (q ▸ hz))]; exact q1, q2, q3, by rw [h c (fun q => q3 (q ▸ hz))]; exact q4⟩
  · have q := g.sl i v sl h1 h2
    cases sl with
    | un => trivial
    | im d => obtain ⟨x, r, q⟩ := q; exact ⟨x, r, q.off h hz hm⟩
    | own ds => obtain ⟨l, xs, r, k1, k2, k3, k4⟩ := q; exact ⟨l, xs, r, k1, k2, by rw [h l (fun q => g.wd.dj l k1 (q ▸ hz))]; exact k3, k4.off h hz hm⟩
    | bag => exact q
    | obj u => obtain ⟨l, r, k1, k2, k3, k4⟩ := q; exact ⟨l, r, k1, k2, by rw [h l (fun q => g.wd.dj l k1 (q ▸ hz))]; exact k3, k4⟩
    | ro l w => obtain ⟨r, k1, k2, k3, k4⟩ := q; exact ⟨r, k1, k2, by rw [h l (fun q => k2 (q ▸ hz))]; exact k3, k4⟩
theorem en_lc {wi : TI} {vs : List Nat} {n : Nat} {el : Nat → D} {f : Nat → D} {keep : Nat → Bool} (hs : SrcC ss wi n el) (hn : n ≤ 99999) (hv : noOwn ss vs = true)
    (step : ∀ i, i < n → ∃ ss2 js, Tgt g (wipeS ss vs) (el i) ss2 js ∧ (∀ k ∈ js, k ∈ vs) ∧ wipeS ss2 vs = wipeS ss vs ∧ EvB ss2 tt (fun x => x = keep i) ∧ (keep i = true → EvD ss2 te (f i))) :
    EvN ss (tLc wi g tt te vs) (fun x => x = ((List.range n).filter keep).map f) := fun Z Bg σ H O Q gg q =>
  hs Z Bg σ H O _ gg fun J H' g' s' walk => by
    intro D hD
    have nO : ¬ O D := (g'.wd.fresh hD).1
    have nZ : ¬ Z D := (g'.wd.fresh hD).2
    have hHD : H D = none := s'.was hD nO
    -- during the walk: D is shunned (in Z), and holds what is made so far
    let Z' : Av := fun a => Z a ∨ a = D
    have start : Sg Z' Bg (upd H' D (.lst [])) O σ ss := g'.oz nO (g'.more (Ext.new hD) hD (by rw [upd_same]; exact fun z => nomatch z))
    have s0 : Stp O O H' (upd H' D (.lst [])) := Ext.stp (Ext.new hD)
    refine ⟨fun i m H1 => m = n - i ∧ i ≤ n ∧ ∃ xs, H1 D = some (.lst xs) ∧ DqAll H1 O Z' xs (((List.range i).filter keep).map f) ∧ Sg Z' Bg H1 O σ ss ∧ Stp O O H' H1,
      ⟨n, by simp, Nat.zero_le _, [], upd_same, by simpa using DqAll.nil, start, s0⟩, ?_⟩
    rintro i m H1 ⟨rfl, hi, xs, hx, hds, g1, s1⟩
    obtain ⟨w1, w2, w3⟩ := walk O H1 Z' s1 (fun a h => h.elim .inl fun e => .inr (by rw [e]; exact hD)) g1.nn g1
    by_cases hlt : i < n
    · refine .inr ⟨w1 i hlt, fun H2 => ∃ xs, H2 D = some (.lst xs) ∧ DqAll H2 O Z' xs (((List.range (i + 1)).filter keep).map f) ∧ Sg Z' Bg H2 O σ ss ∧ Stp O O H' H2, fun H2 q2 => ⟨n - (i + 1), by omega, rfl, hlt, q2⟩, fun x H2 hy => ?_⟩
      obtain ⟨e2, hd2⟩ := w3 i x H2 hlt hy
      obtain ⟨ss2, js, ht, hj, hws, hb, he⟩ := step i hlt
      refine ht Z' Bg _ H2 O x _ ((g1.ext e2).wipe vs) hd2 fun σ3 H3 g3 s3 hl3 ho3 => ?_
      have hw : wipe σ3 vs = wipe σ vs := by
        rw [← wipe_idem (σ := σ) vs]
        exact wipe_of hl3 fun k hk => ho3 k fun z => hk (hj k z)
      refine ⟨hw, hb Z' Bg σ3 H3 O _ g3 fun bb H4 pb g4 s4 => ?_⟩
      have st4 : Stp O O H1 H4 := ((Ext.stp e2).trans s3).trans s4
      have hlen : xs.length < 100000 := by
        rw [hds.length, List.length_map]
        have := List.length_filter_le keep (List.range i)
        rw [List.length_range] at this
        omega
      have fin : ∀ {H5 : Hp}, Sg Z' Bg H5 O σ3 ss2 → Stp O O H1 H5 → Sg Z' Bg H5 O σ ss := fun {H5} g5 st => by
        refine g1.unwipe (vs := vs) ?_ st hv
        rw [← hw, ← hws]
        exact g5.wipe vs
      subst pb
      by_cases hk : keep i = true
      · rw [if_pos hk]
        refine he hk Z' Bg σ3 H4 O _ g4 fun y H5 d pd g5 s5 hd5 => ?_
        subst pd
        have st5 := st4.trans s5
        have hx5 : H5 D = some (.lst xs) := st5.kp D _ hx nO nofun
        have off : ∀ a, a ≠ D → (upd H5 D (.lst (xs ++ [y]))) a = H5 a := fun a e => upd_ne e
        refine ⟨xs, hx5, sz_lt hlen, xs ++ [y], upd_same, ?_, ?_, ?_⟩
        · rw [filter_succ, if_pos hk]
          exact ((hds.mv st5).append (.one hd5)).off off (.inr rfl) ⟨_, hx5, trivial⟩
        · exact (fin g5 st5).off off (.inr rfl) ⟨_, hx5, trivial⟩ (by rw [upd_same]; exact fun z => nomatch z) fun t p hp => tab_upd hx5 (t p hp)
        · refine ⟨fun a u e t => ?_, fun a o e n t => ?_, fun a e n => ?_, fun a q => .inl q, fun t p hp => tab_upd hx5 ((s1.trans st5).tb t p hp)⟩
          · have e5 := (s1.trans st5).tp a u e t
            rw [off a (IsTp.ne e5 t hx5 id)]; exact e5
          · rw [off a (fun z => by rw [z, hD] at e; cases e)]
            exact (s1.trans st5).kp a o e n t
          · rw [off a (fun z => e (by rw [z, hD]))]
            exact (s1.trans st5).al a e n
      · rw [if_neg hk]
        refine ⟨xs, st4.kp D _ hx nO nofun, ?_, fin g4 st4, s1.trans st4⟩
        rw [filter_succ, if_neg hk, List.append_nil]
        exact hds.mv st4
    · have e : i = n := by omega
      subst e
      refine .inl ⟨w2, ?_⟩
      have g2 := g1.zo nZ
      refine q D xs _ H1 rfl nO hHD g2 ⟨fun a u e t => s1.tp a u (s'.tp a u e t) t, fun a o e n t => s1.kp a o (s'.kp a o e n t) n t, fun a e n => s1.al a (s'.al a e n) n, fun a e => ?_, fun t => s1.tb (s'.tb t)⟩ hx (hds.less fun a z => ?_)
      · rcases e with e | e
        · exact .inl e
        · exact .inr (by rw [e]; exact hHD)
      · rcases z with (z | z) | z
        · exact .inl z
        · exact .inr (.inr z)
        · exact .inr (.inl z)
end
end Lg
end
section
set_option Elab.async false
set_option linter.all false
set_option maxRecDepth 100000
/-! What loops walk: ranges, lists, tuples, enumerate, zip. -/
namespace Lg
open PySem L2 Lr RZ
variable [tbs : Tbs]
section
variable {H H' H1 : Hp} {O O' O1 Z Z1 : Av} {v : V} {d : D} {vs : List V} {ds : List D}
mutual
theorem Dq.mz (s : Stp O O1 H' H1) (hz : ∀ a, Z1 a → Z a ∨ H' a = none) : ∀ {v : V} {d : D}, Dq H' O Z v d → Dq H1 O1 Z1 v d
  | _, _, .non => .non
  | _, _, .bl b => .bl b
  | _, _, .int i => .int i
  | _, _, .str x => .str x
  | _, _, .lst n z h t => .lst (fun q => (s.av _ q).elim n fun e => by rw [e] at h; cases h) (fun q => (hz _ q).elim z fun e => by rw [e] at h; cases h) (s.kp _ _ h n nofun) (DqAll.mz s hz t)
  | _, _, .tup h c t => .tup (s.tp _ _ h (by rcases c with rfl | ⟨o, rfl⟩ <;> trivial)) c (DqAll.mz s hz t)
  | _, _, .ptup h c t => .ptup (s.tp _ _ h trivial) c (DqAll.mz s hz t)
  | _, _, .rtup h t => .rtup (s.tp _ _ h trivial) (DqAll.mz s hz t)
theorem DqAll.mz (s : Stp O O1 H' H1) (hz : ∀ a, Z1 a → Z a ∨ H' a = none) : ∀ {vs : List V} {ds : List D}, DqAll H' O Z vs ds → DqAll H1 O1 Z1 vs ds
  | _, _, .nil => .nil
  | _, _, .cons h t => .cons (Dq.mz s hz h) (DqAll.mz s hz t)
end
/-- the i-th of ds -/
def dAt (ds : List D) (i : Nat) : D := ds.getD i .non
theorem dAt_of {i : Nat} (h : ds[i]? = some d) : dAt ds i = d := by unfold dAt; rw [List.getD_eq_getElem?_getD, h]; rfl
theorem dAt_some {i : Nat} (h : i < ds.length) : ds[i]? = some (dAt ds i) := by
  rw [List.getElem?_eq_getElem h, dAt, List.getD_eq_getElem?_getD, List.getElem?_eq_getElem h]; rfl
theorem dAt_map {α : Type} {f : α → D} {l : List α} {i : Nat} {a : α} (h : l[i]? = some a) : dAt (l.map f) i = f a := dAt_of (by rw [List.getElem?_map, h]; rfl)
theorem dqAt {i : Nat} {x : V} (t : DqAll H O Z vs ds) (h : vs[i]? = some x) : Dq H O Z x (dAt ds i) := by
  obtain ⟨d, h1, h2⟩ := t.getV h
  rw [dAt_of h1]; exact h2
theorem vAt {i : Nat} (t : DqAll H O Z vs ds) (h : i < ds.length) : ∃ x, vs[i]? = some x := ⟨_, List.getElem?_eq_getElem (by rw [t.length]; exact h)⟩
end
section
variable {K : PySem.W.Frag} {ss : List Sl} {ta tb : TA} {te : TE} {w1 w2 : TI} {n : Nat} {el : Nat → D} {d a b : D} {ds es : List D} {i : Nat}
theorem Src.inl (h : Src ss w1 n el) : Src ss (fun σ H R => w1 σ H R ∨ w2 σ H R) n el := fun Z Bg σ H O R g k => .inl (h Z Bg σ H O R g k)
theorem Src.inr (h : Src ss w2 n el) : Src ss (fun σ H R => w1 σ H R ∨ w2 σ H R) n el := fun Z Bg σ H O R g k => .inr (h Z Bg σ H O R g k)
theorem SrcC.inl (h : SrcC ss w1 n el) : SrcC ss (fun σ H R => w1 σ H R ∨ w2 σ H R) n el := fun Z Bg σ H O R g k => .inl (h Z Bg σ H O R g k)
theorem SrcC.inr (h : SrcC ss w2 n el) : SrcC ss (fun σ H R => w1 σ H R ∨ w2 σ H R) n el := fun Z Bg σ H O R g k => .inr (h Z Bg σ H O R g k)
theorem src_r1 {m : Nat} (h : EvA ss ta (fun x => x = [.int (m : Int)])) (hm : m ≤ 1000000) : Src ss (iRng1 ta) m (fun i => .int (i : Int)) := fun Z Bg σ H O R g k =>
  h Z Bg σ H O _ g fun vs ds H' e g' s hd => by
    subst e
    cases hd with
    | cons h1 h2 =>
      cases h1; cases h2
      refine ⟨_, rfl, by omega, by omega, k _ H' g' s fun O1 H1 Z1 s1 hz nn => ⟨fun i hi => ?_, ?_, fun i x H2 hi hy => ?_⟩⟩
      · show i < ((m : Int)).toNat; omega
      · show ((m : Int)).toNat ≤ m; omega
      · obtain ⟨rfl, rfl⟩ := hy
        refine ⟨Ext.refl, ?_⟩
        rw [Int.zero_add]; exact .int _
theorem src_r2 {lo hi : Int} {m : Nat} (h : EvA ss ta (fun x => x = [.int lo, .int hi])) (hm : m = (hi - lo).toNat) (h1 : -1000000 ≤ lo) (h2 : lo ≤ 1000000) (h3 : -1000000 ≤ hi) (h4 : hi ≤ 1000000) : Src ss (iRng2 ta) m (fun i => .int (lo + (i : Int))) := fun Z Bg σ H O R g k =>
  h Z Bg σ H O _ g fun vs ds H' e g' s hd => by
    subst e
    cases hd with
    | cons q1 q2 =>
      cases q2 with
      | cons q2 q3 =>
        cases q1; cases q2; cases q3
        subst hm
        refine ⟨_, _, rfl, by omega, k _ H' g' s fun O1 H1 Z1 s1 hz nn => ⟨fun i hi => hi, Nat.le_refl _, fun i x H2 hi hy => ?_⟩⟩
        obtain ⟨rfl, rfl⟩ := hy
        exact ⟨Ext.refl, .int _⟩
theorem src_r3 {m : Nat} (h : EvA ss ta (fun x => x = [.int ((m : Int) - 1), .int (-1), .int (-1)])) (hm : m ≤ 1000000) : Src ss (iRng3 ta) m (fun i => .int ((m : Int) - 1 - (i : Int))) := fun Z Bg σ H O R g k =>
  h Z Bg σ H O _ g fun vs ds H' e g' s hd => by
    subst e
    cases hd with
    | cons q1 q2 =>
      cases q2 with
      | cons q2 q3 =>
        cases q3 with
        | cons q3 q4 =>
          cases q1; cases q2; cases q3; cases q4
          have e := RgC.neg (i := (m : Int) - 1) (j := -1) (by omega) (by omega) (by omega) (by omega)
          rw [show ((m : Int) - 1 - (-1)).toNat = m by omega] at e
          refine ⟨_, _, _, m, rfl, e, k _ H' g' s fun O1 H1 Z1 s1 hz nn => ⟨fun i hi => hi, Nat.le_refl _, fun i x H2 hi hy => ?_⟩⟩
          obtain ⟨rfl, rfl⟩ := hy
          rw [show (m : Int) - 1 + (i : Nat) * (-1) = (m : Int) - 1 - (i : Int) by omega]
          exact ⟨Ext.refl, .int _⟩
/-- a list, a tuple that is read -/
theorem src_lst (h : EvD ss te (.lst ds)) : Src ss (iList K te) ds.length (dAt ds) := fun Z Bg σ H O R g k => h Z Bg σ H O _ g fun v H' d e g' s hd => by
  subst e
  cases hd with
  | lst n z h1 h2 =>
    refine ⟨_, rfl, ⟨_, SqL.of h1⟩, k _ H' g' s fun O1 H1 Z1 s1 hz nn => ?_⟩
    have h1' := SqL.of (K := K) (s1.kp _ _ h1 n nofun)
    have h2' := DqAll.mz s1 hz h2
    refine ⟨fun i hi => ?_, ⟨_, h1', Nat.le_of_eq h2.length⟩, fun i x H2 hi hy => ?_⟩
    · obtain ⟨x, hx⟩ := vAt h2 hi; exact ⟨_, x, h1', hx⟩
    · obtain ⟨rfl, hx⟩ := hy; exact ⟨Ext.refl, dqAt h2' (hx _ h1')⟩
theorem src_tup (h : EvD ss te a) (hi : a.items = some ds) : Src ss (iTup K te) ds.length (dAt ds) := fun Z Bg σ H O R g k => h Z Bg σ H O _ g fun v H' d e g' s hd => by
  subst e
  obtain ⟨p, xs, rfl, h1, h2⟩ := hd.tupV (K := K) hi
  refine ⟨_, rfl, ⟨_, h1⟩, k _ H' g' s fun O1 H1 Z1 s1 hz nn => ?_⟩
  obtain ⟨q, ys, e1, h1', h2'⟩ := (Dq.mz s1 hz hd).tupV (K := K) hi
  cases e1
  refine ⟨fun i hi => ?_, ⟨_, h1', Nat.le_of_eq h2'.length⟩, fun i x H2 hi hy => ?_⟩
  · obtain ⟨x, hx⟩ := vAt h2' hi; exact ⟨_, x, h1', hx⟩
  · obtain ⟨rfl, hx⟩ := hy; exact ⟨Ext.refl, dqAt h2' (hx _ h1')⟩
/-- a list of one's own, in a comprehension -/
theorem src_own (h : ss[i]? = some (.own ds)) : SrcC ss (iList K (tVar i)) ds.length (dAt ds) := fun Z Bg σ H O R g k => by
  obtain ⟨l, xs, e, hO, hb, h1, h2⟩ := g.own h
  refine ⟨_, e, _, rfl, ⟨_, SqL.of h1⟩, k _ H g Stp.refl fun O1 H1 Z1 s1 hz nn g1 => ?_⟩
  obtain ⟨l', ys, e', _, _, h1', h2'⟩ := g1.own h
  rw [e] at e'; cases e'
  have h3 := SqL.of (K := K) h1'
  refine ⟨fun i hi => ?_, ⟨_, h3, Nat.le_of_eq h2'.length⟩, fun i x H2 hi hy => ?_⟩
  · obtain ⟨x, hx⟩ := vAt h2' hi; exact ⟨_, x, h3, hx⟩
  · obtain ⟨rfl, hx⟩ := hy; exact ⟨Ext.refl, dqAt h2' (hx _ h3)⟩
/-! ### enumerate -/
abbrev elE (ds : List D) (i : Nat) : D := .rtup [.int (i : Int), dAt ds i]
theorem dq_pair {H : Hp} {O Z : Av} {T : Addr} {x y : V} {d e : D} (nn : ¬ O T ∧ ¬ Z T) (hT : H T = none) (h1 : Dq H O Z x d) (h2 : Dq H O Z y e) : Dq (upd H T (.tup [x, y])) O Z (.ref T) (.rtup [d, e]) :=
  .rtup upd_same (.cons (h1.mv (Ext.stp (Ext.new hT))) (.cons (h2.mv (Ext.stp (Ext.new hT))) .nil))
theorem src_enL (h : EvA ss ta (fun x => x = [.lst ds])) : Src ss (iEnum K ta) ds.length (elE ds) := fun Z Bg σ H O R g k => h Z Bg σ H O _ g fun vs es H' e g' s hd => by
  subst e
  cases hd with
  | cons hd hn =>
    cases hn
    cases hd with
    | lst n z h1 h2 =>
      refine ⟨_, _, rfl, SqL.of h1, k _ H' g' s fun O1 H1 Z1 s1 hz nn => ?_⟩
      have h1' := SqL.of (K := K) (s1.kp _ _ h1 n nofun)
      have h2' := DqAll.mz s1 hz h2
      refine ⟨fun i hi => ?_, ⟨_, h1', Nat.le_of_eq h2.length⟩, fun i x H2 hi hy => ?_⟩
      · obtain ⟨x, hx⟩ := vAt h2 hi; exact ⟨_, x, h1', hx⟩
      · obtain ⟨T, x', rfl, hT, rfl, hx⟩ := hy; exact ⟨Ext.new hT, dq_pair (nn T hT) hT (.int _) (dqAt h2' (hx _ h1'))⟩
theorem src_enT (h : EvA ss ta (fun x => x = [a])) (hi : a.items = some ds) : Src ss (iEnumT K ta) ds.length (elE ds) := fun Z Bg σ H O R g k => h Z Bg σ H O _ g fun vs es H' e g' s hd => by
  subst e
  cases hd with
  | cons hd hn =>
    cases hn
    obtain ⟨p, xs, rfl, h1, h2⟩ := hd.tupV (K := K) hi
    refine ⟨_, _, rfl, h1, k _ H' g' s fun O1 H1 Z1 s1 hz nn => ?_⟩
    obtain ⟨q, ys, e1, h1', h2'⟩ := (Dq.mz s1 hz hd).tupV (K := K) hi
    cases e1
    refine ⟨fun i hi => ?_, ⟨_, h1', h2'.length⟩, fun i x H2 hi hy => ?_⟩
    · obtain ⟨x, hx⟩ := vAt h2' hi; exact ⟨_, x, h1', hx⟩
    · obtain ⟨T, x', rfl, hT, rfl, hx⟩ := hy; exact ⟨Ext.new hT, dq_pair (nn T hT) hT (.int _) (dqAt h2' (hx _ h1'))⟩
theorem src_enOwn (h : ss[i]? = some (.own ds)) : SrcC ss (iEnum K (tCons (tVar i) tNil)) ds.length (elE ds) := fun Z Bg σ H O R g k => by
  obtain ⟨l, xs, e, hO, hb, h1, h2⟩ := g.own h
  refine ⟨_, e, _, _, rfl, SqL.of h1, k _ H g Stp.refl fun O1 H1 Z1 s1 hz nn g1 => ?_⟩
  obtain ⟨l', ys, e', _, _, h1', h2'⟩ := g1.own h
  rw [e] at e'; cases e'
  have h3 := SqL.of (K := K) h1'
  refine ⟨fun i hi => ?_, ⟨_, h3, Nat.le_of_eq h2'.length⟩, fun i x H2 hi hy => ?_⟩
  · obtain ⟨x, hx⟩ := vAt h2' hi; exact ⟨_, x, h3, hx⟩
  · obtain ⟨T, x', rfl, hT, rfl, hx⟩ := hy; exact ⟨Ext.new hT, dq_pair (nn T hT) hT (.int _) (dqAt h2' (hx _ h3))⟩
/-! ### zip -/
abbrev elZ (ds es : List D) (i : Nat) : D := .rtup [dAt ds i, dAt es i]
theorem src_zLL (h : EvA ss ta (fun x => x = [.lst ds, .lst es])) (hl : es.length = ds.length) : Src ss (iZipA K ta) ds.length (elZ ds es) := fun Z Bg σ H O R g k => h Z Bg σ H O _ g fun vs xs H' e g' s hd => by
  subst e
  cases hd with
  | cons hd hn =>
    cases hn with
    | cons he hn =>
      cases hn
      cases hd with
      | lst n z h1 h2 =>
        cases he with
        | lst m y h3 h4 =>
          refine ⟨_, _, _, _, rfl, .inl ⟨SqL.of h1, SqL.of h3, k _ H' g' s fun O1 H1 Z1 s1 hz nn => ?_⟩⟩
          have h1' := SqL.of (K := K) (s1.kp _ _ h1 n nofun)
          have h3' := SqL.of (K := K) (s1.kp _ _ h3 m nofun)
          refine ⟨fun i hi => ?_, ⟨_, _, h1', h3', .inl (Nat.le_of_eq h2.length)⟩, fun i x H2 hi hy => ?_⟩
          · obtain ⟨x, hx⟩ := vAt h2 hi
            obtain ⟨y, hy⟩ := vAt h4 (hl ▸ hi)
            exact ⟨_, _, x, y, h1', h3', hx, hy⟩
          · obtain ⟨T, x', y', rfl, hT, rfl, hx, hy⟩ := hy
            exact ⟨Ext.new hT, dq_pair (nn T hT) hT (dqAt (DqAll.mz s1 hz h2) (hx _ h1')) (dqAt (DqAll.mz s1 hz h4) (hy _ h3'))⟩
theorem src_zTT (h : EvA ss ta (fun x => x = [a, b])) (hi : a.items = some ds) (hj : b.items = some es) (hm : n = min ds.length es.length) : Src ss (iZipA K ta) n (elZ ds es) := fun Z Bg σ H O R g k => h Z Bg σ H O _ g fun vs xs H' e g' s hd => by
  subst e
  cases hd with
  | cons hd hn =>
    cases hn with
    | cons he hn =>
      cases hn
      obtain ⟨p, xs, rfl, h1, h2⟩ := hd.tupV (K := K) hi
      obtain ⟨q, ys, rfl, h3, h4⟩ := he.tupV (K := K) hj
      refine ⟨_, _, _, _, rfl, .inr ⟨h1, h3, k _ H' g' s fun O1 H1 Z1 s1 hz nn => ?_⟩⟩
      obtain ⟨_, xs', e1, h1', h2'⟩ := (Dq.mz s1 hz hd).tupV (K := K) hi
      obtain ⟨_, ys', e2, h3', h4'⟩ := (Dq.mz s1 hz he).tupV (K := K) hj
      cases e1; cases e2
      have l1 := h2'.length
      have l2 := h4'.length
      refine ⟨fun i hi => ?_, ⟨_, _, h1', h3', by omega⟩, fun i x H2 hi hy => ?_⟩
      · obtain ⟨x, hx⟩ := vAt h2' (show i < ds.length by omega)
        obtain ⟨y, hy⟩ := vAt h4' (show i < es.length by omega)
        exact ⟨_, _, x, y, h1', h3', hx, hy⟩
      · obtain ⟨T, x', y', rfl, hT, rfl, hx, hy⟩ := hy
        exact ⟨Ext.new hT, dq_pair (nn T hT) hT (dqAt h2' (hx _ h1')) (dqAt h4' (hy _ h3'))⟩
theorem src_zLT (h : EvA ss ta (fun x => x = [.lst ds, b])) (hj : b.items = some es) (hl : es.length = ds.length) : Src ss (iZipM K ta) ds.length (elZ ds es) := fun Z Bg σ H O R g k => h Z Bg σ H O _ g fun vs xs H' e g' s hd => by
  subst e
  cases hd with
  | cons hd hn =>
    cases hn with
    | cons he hn =>
      cases hn
      cases hd with
      | lst n z h1 h2 =>
        obtain ⟨q, ys, rfl, h3, h4⟩ := he.tupV (K := K) hj
        refine ⟨_, _, _, _, rfl, SqL.of h1, h3, k _ H' g' s fun O1 H1 Z1 s1 hz nn => ?_⟩
        have h1' := SqL.of (K := K) (s1.kp _ _ h1 n nofun)
        obtain ⟨_, ys', e2, h3', h4'⟩ := (Dq.mz s1 hz he).tupV (K := K) hj
        cases e2
        refine ⟨fun i hi => ?_, ⟨_, _, h1', h3', h2.length, by rw [h4'.length, hl]⟩, fun i x H2 hi hy => ?_⟩
        · obtain ⟨x, hx⟩ := vAt h2 hi
          obtain ⟨y, hy⟩ := vAt h4' (hl ▸ hi)
          exact ⟨_, _, x, y, h1', h3', hx, hy⟩
        · obtain ⟨T, x', y', rfl, hT, rfl, hx, hy⟩ := hy
          exact ⟨Ext.new hT, dq_pair (nn T hT) hT (dqAt (DqAll.mz s1 hz h2) (hx _ h1')) (dqAt h4' (hy _ h3'))⟩
end
end Lg
end
section
set_option Elab.async false
set_option linter.all false
set_option maxRecDepth 100000
/-! Promises of defs over data; calls; a def's body. -/
namespace Lg
open PySem L2
abbrev fin (Q : VK) : Ends := { nx := fun _ H' => Q .non H', rt := Q }
variable [tbs : Tbs]
abbrev no : Av := fun _ => False
abbrev just (b : Addr) : Av := fun a => a = b
/-- a def of data: at x the arguments are A x, under Pre; Post of the result -/
def spP {α : Type} (A : α → List D) (Pre : α → Prop) (Post : α → D → Prop) : Sp := fun vs H Q _ => ∃ x Z, (∀ a, Z a → H a ≠ none) ∧ LamX.Tabs tbs.T H ∧ DqAll H no Z vs (A x) ∧ Pre x ∧ ∀ v H' d, Post x d → Ext H H' → Dq H' no Z v d → Q v H'
/-- .. that gives a new list -/
def spN {α : Type} (A : α → List D) (Pre : α → Prop) (Post : α → List D → Prop) : Sp := fun vs H Q _ => ∃ x Z, (∀ a, Z a → H a ≠ none) ∧ LamX.Tabs tbs.T H ∧ DqAll H no Z vs (A x) ∧ Pre x ∧ ∀ p xs es H', Post x es → Ext H H' → H p = none → H' p = some (.lst xs) → DqAll H' (just p) Z xs es → Q (.ref p) H'
/-- .. that draws from the bag, its first argument -/
def spB {α : Type} (A : α → List D) (Pre : α → Prop) (Post : α → D → Prop) : Sp := fun vs H Q _ => ∃ b ws x Z, vs = .ref b :: ws ∧ (∀ a, Z a → H a ≠ none) ∧ LamX.Tabs tbs.T H ∧ ¬ Z b ∧ BagAt H (just b) Z b ∧ DqAll H (just b) Z ws (A x) ∧ Pre x ∧
  ∀ v H' d, Post x d → Stp (just b) (just b) H H' → BagAt H' (just b) Z b → Dq H' (just b) Z v d → Q v H'
section
variable {α : Type} {A : α → List D} {Pre : α → Prop} {Post : α → D → Prop} {PostN : α → List D → Prop} {K : PySem.W.Frag} {ss : List Sl} {ta : TA} {te : TE} {P : D → Prop} {PL : List D → Prop} {E : XK} {i : Nat} {d : D} {ds : List D}
theorem uz {O Z : Av} : ∀ a, no a ∨ (O a ∨ Z a) → O a ∨ Z a := fun _ q => q.elim False.elim id
theorem zu {O Z : Av} : ∀ a, O a ∨ Z a → no a ∨ (O a ∨ Z a) := fun _ q => .inr q
/-- a call, the arguments known to be of some kind -/
theorem ev_callP (h : EvA ss ta PL) (hp : ∀ ds, PL ds → ∃ x, ds = A x ∧ Pre x ∧ ∀ d, Post x d → P d) : EvP ss (tCall (spP A Pre Post) [] E ta) P := fun Z Bg σ H O Q g q =>
  h Z Bg σ H O _ g fun vs ds H1 pd g1 s1 hd => by
    rw [List.append_nil]
    obtain ⟨x, rfl, h1, h2⟩ := hp ds pd
    exact ⟨x, fun a => O a ∨ Z a, fun a w => g1.wd.al a w, g1.wd.tb, hd.less uz, h1, fun v H' d pd e hd' => q v H' d (h2 d pd) (g1.ext e) (s1.trans (Ext.stp e)) (hd'.less zu)⟩
theorem ev_call (x : α) (h : EvA ss ta (fun y => y = A x)) (hp : Pre x) : EvP ss (tCall (spP A Pre Post) [] E ta) (Post x) := ev_callP h fun ds e => ⟨x, e, hp, fun _ h => h⟩
theorem en_call (x : α) (h : EvA ss ta (fun y => y = A x)) (hp : Pre x) : EvN ss (tCall (spN A Pre PostN) [] E ta) (PostN x) := fun Z Bg σ H O Q g q =>
  h Z Bg σ H O _ g fun vs ds' H1 pd g1 s1 hd => by
    subst pd
    rw [List.append_nil]
    refine ⟨x, fun a => O a ∨ Z a, fun a w => g1.wd.al a w, g1.wd.tb, hd.less uz, hp, fun p xs es H' pe e hp1 hp' hd' => ?_⟩
    have np : ¬ O p := (g1.wd.fresh hp1).1
    have hp0 : H p = none := s1.was hp1 np
    refine q p xs es H' pe np hp0 (g1.more e hp1 (by rw [hp']; exact fun z => nomatch z)) (s1.trans ⟨fun a u h t => e.kp a u h t.nt, fun a o h _ t => e.kp a o h t, fun a h _ => e.al a h, fun a w => w.elim .inl fun z => .inr (by rw [z]; exact hp1), e.tb⟩) hp' (hd'.less fun a w => ?_)
    rcases w with (w | w) | w
    · exact .inr (.inl w)
    · exact .inl w
    · exact .inr (.inr w)
/-- a call with the bag first -/
theorem ev_callBP (hb : ss[i]? = some .bag) (h : EvA ss ta PL) (hp : ∀ ds, PL ds → ∃ x, ds = A x ∧ Pre x ∧ ∀ d, Post x d → P d) : EvP ss (tCall (spB A Pre Post) [] E (tCons (tVar i) ta)) P := fun Z Bg σ H O Q g q => by
  obtain ⟨v, e, hs⟩ := g.at_ hb
  obtain ⟨b, rfl, hB⟩ := hs
  refine ⟨_, e, h Z Bg σ H O _ g fun vs ds H1 pd g1 s1 hd => ?_⟩
  show spB A Pre Post ((V.ref b :: vs) ++ []) H1 Q E
  rw [List.append_nil]
  obtain ⟨hO, i', j', k', c, ns, q1, q2, q3, q4⟩ := g1.wd.bg b hB
  obtain ⟨x, rfl, h1, h2⟩ := hp ds pd
  let Z' : Av := fun a => (O a ∧ a ≠ b) ∨ Z a
  have fz : ∀ a, just b a ∨ Z' a → O a ∨ Z a := fun a w => by
    rcases w with w | w | w
    · exact .inl (w ▸ hO)
    · exact .inl w.1
    · exact .inr w
  have zf : ∀ a, O a ∨ Z a → just b a ∨ Z' a := fun a w => by
    rcases w with w | w
    · by_cases e : a = b
      · exact .inl e
      · exact .inr (.inl ⟨w, e⟩)
    · exact .inr (.inr w)
  refine ⟨b, vs, x, Z', rfl, fun a w => g1.wd.al a (fz a (.inr w)), g1.wd.tb, fun w => w.elim (fun z => z.2 rfl) (g1.wd.dj b hO), ⟨i', j', k', c, ns, q1, fun z => q2 (z ▸ hO), fun z => z.elim (fun z => q2 z.1) q3, q4⟩, hd.less fz, h1, fun v H' d pd st0 bg hd' => ?_⟩
  have st : Stp O O H1 H' := ⟨st0.tp, fun a o h n t => st0.kp a o h (fun z => n (z ▸ hO)) t, fun a h n => st0.al a h fun z => n (z ▸ hO), fun a w => .inl w, st0.tb⟩
  have bg' : BagAt H' O Z b := by
    obtain ⟨i1, j1, k1, c1, ns1, r1, r2, r3, r4⟩ := bg
    exact ⟨i1, j1, k1, c1, ns1, r1, fun z => by by_cases e : c1 = b; exact r2 e; exact r3 (.inl ⟨z, e⟩), fun z => r3 (.inr z), r4⟩
  refine q v H' d (h2 d pd) ⟨⟨fun a w => ?_, g1.wd.dj, fun b' hb' => ?_, st.tb g1.wd.tb⟩, g1.len, fun i v sl x1 x2 => ?_, g1.ap⟩ (s1.trans st) (hd'.less zf)
  · by_cases e : a = b
    · obtain ⟨_, _, _, _, _, r1, _⟩ := bg
      rw [e, r1]; exact fun z => nomatch z
    · exact st0.al a (g1.wd.al a w) e
  · rw [hB] at hb'; cases hb'
    exact ⟨hO, bg'⟩
  · have y := g1.sl i v sl x1 x2
    cases sl with
    | un => trivial
    | im d => obtain ⟨x, r, y⟩ := y; exact ⟨x, r, y.mv st⟩
    | own ds =>
      obtain ⟨l, xs, r, k1, k2, k3, k4⟩ := y
      exact ⟨l, xs, r, k1, k2, st0.kp l _ k3 (fun z => k2 (by rw [hB, z])) nofun, k4.mv st⟩
    | obj u =>
      obtain ⟨l, r, k1, k2, k3, k4⟩ := y
      exact ⟨l, r, k1, k2, st0.kp l _ k3 (fun z => k2 (by rw [hB, z])) k4.nt, k4⟩
    | ro l w => obtain ⟨r, k1, k2, k3, k4⟩ := y; exact ⟨r, k1, k2, st0.kp l _ k3 (fun z => k1 (z ▸ hO)) k4, k4⟩
    | bag => exact y
theorem ev_callB (x : α) (hb : ss[i]? = some .bag) (h : EvA ss ta (fun y => y = A x)) (hp : Pre x) : EvP ss (tCall (spB A Pre Post) [] E (tCons (tVar i) ta)) (Post x) := ev_callBP hb h fun ds e => ⟨x, e, hp, fun _ h => h⟩
end
/-! ### a def's body -/
section
variable {H : Hp} {O Z : Av} {vs : List V} {ds : List D}
def ims (ds : List D) (n : Nat) : List Sl := ds.map .im ++ List.replicate (n - ds.length) .un
theorem noO : ∀ {vs : List V} {ds : List D}, DqAll H O Z vs ds → ∀ (j : Nat) (v : Option V) (s : Sl), (vs.map some)[j]? = some v → (ds.map Sl.im)[j]? = some s → ∃ d x, s = .im d ∧ v = some x ∧ Dq H O Z x d
  | _, _, .nil, j, v, s, h1, _ => by simp at h1
  | _, _, .cons h t, 0, v, s, h1, h2 => by simp at h1 h2; subst h1 h2; exact ⟨_, _, rfl, rfl, h⟩
  | _, _, .cons h t, j + 1, v, s, h1, h2 => noO t j v s (by simpa using h1) (by simpa using h2)
theorem noOwnI {n j : Nat} (h : IsOwn (ims ds n)[j]?) : False := by
  unfold ims at h
  by_cases hj : j < ds.length
  · rw [List.getElem?_append_left (by simp; omega), List.getElem?_map] at h
    cases e : ds[j]? with
    | none => rw [e] at h; exact h
    | some d => rw [e] at h; exact h
  · rw [List.getElem?_append_right (by simp; omega)] at h
    cases e : (List.replicate (n - ds.length) Sl.un)[j - (ds.map Sl.im).length]? with
    | none => rw [e] at h; exact h
    | some s =>
      have := List.mem_of_getElem? e
      rw [List.mem_replicate] at this
      rw [e, this.2] at h; exact h
theorem slI {Bg : Option Addr} {n m : Nat} (hd : DqAll H O Z vs ds) (j : Nat) (v : Option V) (s : Sl) (h1 : (vs.map some ++ List.replicate m none)[j]? = some v) (h2 : (ims ds n)[j]? = some s) : SlOk Z Bg H O v s := by
  have hvl := hd.length
  unfold ims at h2
  by_cases hj : j < ds.length
  · rw [List.getElem?_append_left (by simp [hvl]; omega)] at h1
    rw [List.getElem?_append_left (by simp; omega)] at h2
    obtain ⟨d, x, rfl, rfl, q⟩ := noO hd j v s h1 h2
    exact ⟨x, rfl, q⟩
  · rw [List.getElem?_append_right (by simp; omega)] at h2
    have := List.mem_of_getElem? h2
    rw [List.mem_replicate] at this
    rw [this.2]; trivial
theorem Sg.start0 {N : List Str} (hz : ∀ a, Z a → H a ≠ none) (ht : LamX.Tabs tbs.T H) (h : DqAll H no Z vs ds) (hl : ds.length ≤ N.length) : Sg Z none H no (L2.start N vs) (ims ds N.length) := by
  have hvl := h.length
  exact ⟨⟨fun a w => w.elim False.elim (hz a), fun a w => w.elim, (fun b w => nomatch w), ht⟩, by simp [L2.start, ims, hvl], fun j v s h1 h2 => slI h j v s h1 h2, fun j k l _ h1 _ _ _ => noOwnI h1⟩
theorem Sg.cons1 {σ : L2.St} {ss : List Sl} {Bg : Option Addr} {v : Option V} {s : Sl} (g : Sg Z Bg H O σ ss) (h : SlOk Z Bg H O v s) (ns : ¬ IsOwn (some s)) : Sg Z Bg H O (v :: σ) (s :: ss) := by
  refine ⟨g.wd, by simp [g.len], fun i w t h1 h2 => ?_, fun i j l hij h1 h2 h3 h4 => ?_⟩
  · cases i with
    | zero => simp at h1 h2; subst h1 h2; exact h
    | succ i => exact g.sl i w t (by simpa using h1) (by simpa using h2)
  · cases i with
    | zero => exact ns h1
    | succ i =>
      cases j with
      | zero => exact ns h2
      | succ j => exact g.ap i j l (by omega) (by simpa using h1) (by simpa using h2) (by simpa using h3) (by simpa using h4)
end
abbrev noS : List Sl → Prop := fun _ => False
section
variable {α : Type} {A : α → List D} {Pre : α → Prop} {Post : α → D → Prop} {N : List Str} {t : TS} {vs : List V} {H : Hp} {Q : VK} {E : XK}
/-- a def of data keeps its promise -/
theorem body_P (h : ∀ x, Pre x → (A x).length ≤ N.length ∧ HT (ims (A x) N.length) t noS (Post x) noS noS) (p : spP A Pre Post vs H Q E) : t (fin Q) (L2.start N vs) H := by
  obtain ⟨x, Z, hz, htb, hd, hp, q⟩ := p
  obtain ⟨hl, ht⟩ := h x hp
  refine ht Z none _ H no (fin Q) (Sg.start0 hz htb hd hl) (fun _ _ _ _ z => z.elim) (fun d v H' O' pd w s hd' => ?_) (fun _ _ _ _ z => z.elim) (fun _ _ _ _ z => z.elim)
  exact q v H' d pd ⟨fun a o e => s.kp a o e id, fun a h => s.al a h id, s.tb⟩ (hd'.less fun a z => z.elim False.elim .inr)
/-- .. that draws from the bag -/
theorem body_B (h : ∀ x, Pre x → (A x).length + 1 ≤ N.length ∧ HT (.bag :: ims (A x) (N.length - 1)) t noS (Post x) noS noS) (p : spB A Pre Post vs H Q E) : t (fin Q) (L2.start N vs) H := by
  obtain ⟨b, ws, x, Z, rfl, hz, htb, nz, bg, hd, hp, q⟩ := p
  obtain ⟨hl, ht⟩ := h x hp
  have hvl := hd.length
  have hst : L2.start N (.ref b :: ws) = some (.ref b) :: (ws.map some ++ List.replicate ((N.length - 1) - ws.length) none) := by
    unfold L2.start
    rw [List.map_cons, List.cons_append, List.length_cons]
    congr 3; omega
  have wd : Wd Z (some b) H (just b) := ⟨fun a w => by
    rcases w with w | w
    · obtain ⟨_, _, _, _, _, r1, _⟩ := bg
      rw [w, r1]; exact fun z => nomatch z
    · exact hz a w, fun a w => by rw [w]; exact nz, fun b' e => by cases e; exact ⟨rfl, bg⟩, htb⟩
  have g : Sg Z (some b) H (just b) (ws.map some ++ List.replicate ((N.length - 1) - ws.length) none) (ims (A x) (N.length - 1)) :=
    ⟨wd, by simp [ims, hvl], fun j v s h1 h2 => slI hd j v s h1 h2, fun j k l _ h1 _ _ _ => noOwnI h1⟩
  rw [hst]
  refine ht Z (some b) _ H (just b) (fin Q) (g.cons1 ⟨b, rfl, rfl⟩ id) (fun _ _ _ _ z => z.elim) (fun d v H' O' pd w s hd' => ?_) (fun _ _ _ _ z => z.elim) (fun _ _ _ _ z => z.elim)
  obtain ⟨hO', i1, j1, k1, c1, ns1, r1, r2, r3, r4⟩ := w.bg b rfl
  exact q v H' d pd ⟨s.tp, s.kp, s.al, fun a w => .inl w, s.tb⟩ ⟨i1, j1, k1, c1, ns1, r1, fun z => r2 (z ▸ hO'), r3, r4⟩ (hd'.less fun a z => z.elim (fun z => .inl (z ▸ hO')) .inr)
/-- statements that end in the return of a new list -/
def HTN (ss : List Sl) (ts : TS) (P : List D → Prop) : Prop := ∀ (Z : Av) (Bg : Option Addr) (σ : L2.St) (H : Hp) (O : Av) (E : Ends), Sg Z Bg H O σ ss →
  (∀ p xs ds H' O', P ds → Wd Z Bg H' (more O' p) → Stp O (more O' p) H H' → H' p = some (.lst xs) → DqAll H' (more O' p) Z xs ds → E.rt (.ref p) H') → ts E σ H
section
variable {ss : List Sl} {te : TE} {t u : TS} {P : List D → Prop} {N1 : List Sl → Prop} {i : Nat} {ds : List D} {tt : TT} {Bb : Bool → Prop}
theorem htn_ret (h : EvN ss te P) : HTN ss (tRet te) P := fun Z Bg σ H O E g q => h Z Bg σ H O _ g fun p xs ds H' pd np hp g' s hp' hd => q p xs ds H' O pd g'.wd s hp' hd
theorem htn_seq (h : HT ss t N1 (fun _ => False) noS noS) (k : ∀ ss1, N1 ss1 → HTN ss1 u P) : HTN ss (tSeq t u) P := fun Z Bg σ H O E g q =>
  h Z Bg σ H O { E with nx := u E } g (fun ss1 σ1 H1 O1 p g1 s1 => k ss1 p Z Bg σ1 H1 O1 E g1 fun p xs ds H' O' pd w s hp hd => q p xs ds H' O' pd w (s1.trans s) hp hd) (fun _ _ _ _ z => z.elim) (fun _ _ _ _ z => z.elim) (fun _ _ _ _ z => z.elim)
end
theorem body_N {α : Type} {A : α → List D} {Pre : α → Prop} {N : List Str} {t : TS} {PostN : α → List D → Prop} {vs : List V} {H : Hp} {Q : VK} {E : XK} (h : ∀ x, Pre x → (A x).length ≤ N.length ∧ HTN (ims (A x) N.length) t (PostN x)) (p : spN A Pre PostN vs H Q E) : t (fin Q) (L2.start N vs) H := by
  obtain ⟨x, Z, hz, htb, hd, hp, q⟩ := p
  obtain ⟨hl, ht⟩ := h x hp
  refine ht Z none _ H no (fin Q) (Sg.start0 hz htb hd hl) fun p xs es H' O' pd w s hp' hd' => ?_
  refine q p xs es H' pd ⟨fun a o e => s.kp a o e id, fun a h => s.al a h id, s.tb⟩ ((s.av p (.inr rfl)).elim False.elim id) hp' (hd'.less fun a z => ?_)
  exact z.elim (fun z => .inl (.inr z)) .inr
end
section
variable {α : Type} {A : α → List D} {Pre : α → Prop} {Post : α → D → Prop} {PostN : α → List D → Prop} {vs : List V} {H : Hp} {Q : VK} {E : XK} {n : Nat}
theorem len_P (h : ∀ x, (A x).length = n) (p : spP A Pre Post vs H Q E) : vs.length = n := by
  obtain ⟨x, Z, _, _, hd, _⟩ := p
  rw [hd.length, h]
theorem len_N (h : ∀ x, (A x).length = n) (p : spN A Pre PostN vs H Q E) : vs.length = n := by
  obtain ⟨x, Z, _, _, hd, _⟩ := p
  rw [hd.length, h]
theorem len_B (h : ∀ x, (A x).length + 1 = n) (p : spB A Pre Post vs H Q E) : vs.length = n := by
  obtain ⟨b, ws, x, Z, rfl, _, _, _, _, hd, _⟩ := p
  rw [List.length_cons, hd.length, h]
end
end Lg
namespace Lg
open PySem L2
/-- a def that keeps a promise, and how it is called -/
structure Ok (P : Program) (w : World) (K : PySem.W.Frag) (mg : Str → Option Value) (base : PySem.Heap) (CX : CXT) (k : Nat) (x : Str) (ps : List Str) (sp : Sp) : Prop where
  ex : ∃ f fd, Binds K fd ps [] ∧ FnOk P w K mg base CX k f fd ps sp ∧ mg x = some (.ref f) ∧ PySem.W.keepIn K (.ref f) = true
section
variable {X : Cx} {CX : CXT} {k : Nat} {ps : List Str} {sp : Sp} {E : XK} {x : Str} {p pos : Pos} {e : Expr} {es : List Expr} {t : TA}
theorem pe_ok (F : Ok X.prog X.w X.K X.mg X.base CX k x ps sp) {j : Nat} (hr : Room j X.A) (hj : k ≤ j) (hg : Gl X x) (hx : Passes CX X E) (ha : PA X (e :: es) t) (hdb : (x == ("__debug__" : Str)) = false := by decide)
    (he : starEach (e :: es) X.env = (false, eval e X.env) :: starEach es X.env := by rfl) (hpl : (backTo pos (starEach es X.env)).any (·.1) = false := by rfl) : PE X (.Call (.Name x p) (e :: es) [] pos) (tCall sp [] E t) := by
  obtain ⟨f, fd, hb, hF, hm, hk⟩ := F.ex
  exact pe_call hF (hr.mono hj) hg hm hk hb .nil hx ha hdb he hpl
end
end Lg
end
section
set_option Elab.async false
set_option linter.all false
set_option maxRecDepth 100000
/-! An own exception over an own class over ValueError, whose __init__ says super().__init__(x); self.f = x. -/
namespace Lx
open PySem PySem.Spec PyProof.Rows L2 PySem.W PySem.Calls NdefX
section
variable {prog : Program} {w : World} {M : Model} {A : Around} {E : Value → Shared → Prop} {s : Shared} {h : Heap} {g : Array GenState} {d : Drawn} {t : Nat} {os : OsState}
theorem callWith_mw {i : String} {pos : Pos} {u x : Addr} {env : Env} {e : Expr} {rest : List Expr} {Q : Value → Shared → Prop}
    (h : wpAny M A (spliced (backTo pos (starEach (e :: rest) env))) (fun vs s₁ => KxsAt i u x s₁.heap ∧ wpAny M A (call (.ref u) vs) Q E s₁) E s)
    (he : starEach (e :: rest) env = (false, eval e env) :: starEach rest env := by rfl) (hplain : (backTo pos (starEach rest env)).any (·.1) = false := by rfl) :
    wpAny M A (callWith pos (.ref u) [] (backTo pos (starEach (e :: rest) env)) []) Q E s := by
  rw [he] at h ⊢
  refine kxs_callWith (i := i) (x := x) (by show (false || (backTo pos (starEach rest env)).any (·.1)) = false; rw [hplain]; rfl) ?_
  exact evalArgs_plain h
theorem call_mw {nm q : Str} {C N : Addr} {bs bm : List Value} {hdct : Bool} {sn : List Str} {sub : List Value} {ab : Bool} {col : Option Bool} {dd : Option Addr} {k0 k1 k2 k3 k5 : Option Value} {u e t0 : Addr} {rest : List Value} {Q : Value → Shared → Prop}
    (hC : h.get? C = some (excClassObj nm q C N bs bm hdct sn sub ab col dd k0 k1 k2 k3 k5 "ValueError.__new__")) (he : h.get? e = some (HandSPX.excO C t0)) (hu : h.get? u = some (kxs_mw "ValueError.__init__" e)) (hrest : rest.length ≤ sizeLine)
    (hq : ∀ h' t1, (∀ b o, b ≠ e → h.get? b = some o → h'.get? b = some o) → h'.get? e = some (HandSPX.excO C t1) → Q .none ⟨h', g, d, t, os⟩) :
    wpAny (model prog w) A (call (.ref u) rest) Q E ⟨h, g, d, t, os⟩ := by
  refine wpAny_call (codeAny_of_tree ?_)
  show wpAny _ A.in1 (callAny (.ref u) ⟨rest, []⟩) _ _ _
  simp only [callAny]
  refine wpAny_bind (wpAny_load hu ?_)
  simp only [kxs_mw, show (Value.type "method-wrapper" == Value.type "method" || Value.type "method-wrapper" == Value.type "builtin_function_or_method" || Value.type "method-wrapper" == Value.type "method-wrapper") = true by decide, if_true]
  refine W.KFB.if_so (by decide) ?_
  refine wpAny_bind (ESX.check_bound F.excBase_ValueError hC he rfl ?_)
  refine wpAny_bind (wpAny_pure (wpAny_pure ?_))
  refine ⟨Code.quiet_builtin _ (by decide +kernel), codeAny_builtin F.excBase_ValueError.initEntry ?_⟩
  rw [Around.under_plainId F.excBase_ValueError.init.plain _]
  wp_walk
  refine hq _ h.objs.size (fun b o hb ho => ?_) ?_
  · rw [Heap.get?_update_other _ _ (Ne.symm hb)]
    exact Heap.get?_push_of_some _ ho
  · rw [Heap.get?_update_self _ (Heap.get?_push_of_some _ he) rfl]
    rfl
end
theorem look1 {y k : Str} {c c' : Addr} (h : [(k, c)].lookup y = some c') : y = k ∧ c' = c := by
  have h2 := PySem.mem_of_lookup h
  simpa using h2
theorem look2 {k : Str} {c : Addr} : [(k, c)].lookup k = some c := by
  simp [List.lookup]
/-- what the written part says of the class C and its __init__ at fI, the field named f -/
structure CbI (P : Program) (K : PySem.W.Frag) (mg : Str → Option Value) (C fI : Addr) (fd : FuncData) (f : Str) : Prop where
  oex : OexC K C
  ex : ∃ (qual : Str) (params : Arguments) (body : List Stmt) (scope : Scope) (oc : Value) (od : Option Addr) (dV kV doc pm ct : Value) (an : Option Addr) (cda cc : Addr) (osl : Array (Option Value)) (vs : Array Value) (file : Str) (tf : Tok) (ccl cl : Value) (cdd cld : Option Addr) (ccs csl : Array (Option Value)) (pf p0 p1 pa1 pa2 pc pe ps1 pv1 ps2 pv2 pst : Pos) (pn1 pn2 : Option Expr),
    fd = fnX "__init__" qual params body scope [("__class__", cc)] dV kV doc pm an (.ref cda) ct ∧ K.lookup fI = some ⟨oc, od, .func fd, osl⟩ ∧ codeIn K (.ref cda) qual = true ∧
    K.lookup cda = some ⟨ccl, cdd, .fields vs, ccs⟩ ∧ vs[2]? = some (.str file tf) ∧ ((P.main.file : Str) == file) = true ∧ K.lookup cc = some ⟨cl, cld, .cell (some (.ref C)), csl⟩ ∧
    body = [.Expr (.Call (.Attribute (.Call (.Name "super" p0) [] [] p1) "__init__" pa1) [.Name f pa2] [] pc) pe, .Assign [.Attribute (.Name "self" ps1) f ps2] (.Name f pv1) pst] ∧
    (params.posonlyargs ++ params.args).head? = some ⟨"self", pn1, pf⟩ ∧ NScope ["self", f, "__class__"] ["self", f] ["__class__"] scope ∧ scope.names.lookup ("super" : Str) = some .globalImplicit ∧ (∀ env : Env, ∃ pl : Sem Bool, eval (.Call (.Attribute (.Call (.Name "super" p0) [] [] p1) "__init__" pa1) [.Name f pa2] [] pc) env = (do
      let ov ← attributeBase (.Call (.Name "super" p0) [] [] p1) "__init__" env (eval (.Call (.Name "super" p0) [] [] p1) env)
      standAt pa1.atName
      let (f', first) ← holding [ov] (getMethod ov "__init__" pl)
      callWith pc f' first (backTo pc (starEach [.Name f pa2] env)) []))
  mro : mroIn K C (.ref C) = some true
  any : nsIn K cStatics "thirdparty.any" = some none
  up : ks_superIn K C C "__init__" = some (some (.builtin "ValueError.__init__"))
  sub : subIn K (.ref C) (.type "ValueError") = some true
  sup : mg "super" = none
  top : (P.main.scope.names.lookup ("super" : Str)).isSome = false
  no : PySem.W.findIn K (.ref C) f = some none
  nd : (f == ("__debug__" : Str)) = false ∧ (f == ("__classdict__" : Str)) = false
/-- what such an __init__ does -/
def spInit (K : PySem.W.Frag) (C : Addr) (f : Str) : Sp := fun vs H Q _ => ∃ (a : Addr) (x : V), vs = [.ref a, x] ∧ H a = some (exo a C none) ∧ ∀ dx, H dx = none → dx ≠ a → Q .non (upd (upd H dx (exd dx [(f, x)])) a (exo a C (some dx)))
section
variable {P : Program} {w : World} {K : PySem.W.Frag} {mg : Str → Option Value} {base : Heap} {C fI : Addr} {fd : FuncData} {f : Str}
abbrev ncx2 (c : Bool) (pn : List (Addr × Obj)) (P : Program) (w : World) (K : PySem.W.Frag) (mg : Str → Option Value) (base : Heap) (N : List Str) (F : NF) (fI : Addr) (A : Around) (outer : List Env) (s : Shared) (H : Hp) (E : XK) : Cx := { ncx CX0 P w K mg base N F fI A outer s H E with calm := c, pn := pn }
theorem init_core (T : CbI P K mg C fI fd f) {c : Bool} {pn : List (Addr × Obj)} {A : Around} {outer : List Env} {s : Shared} {H : Hp} {args : Args} {a : Addr} {x : V} {u2 : Value} {Q : VK} {E : XK} (hdep : A.depth < recursionLimit) (e0 : Env0 P w K mg base A outer s H)
    (hb : BindsTo s fd args ((["self", f] : List Str).zip [Value.ref a, u2])) (r2 : L2.RelV x u2) (ha : H a = some (exo a C none)) (hq : ∀ dx, H dx = none → dx ≠ a → Q .non (upd (upd H dx (exd dx [(f, x)])) a (exo a C (some dx))))
    (st : ∀ (F : NF) (h₁ : Heap) (tk : Nat), NScope ["self", f, "__class__"] ["self", f] ["__class__"] F.scope → CellsAt F.cl ["__class__"] [some (.ref C)] s.heap H → h₁.Ns s.heap.objs.size (fun y => ((["self", f] : List Str).zip [Value.ref a, u2]).reverse.lookup y) → (∀ b o, s.heap.get? b = some o → h₁.get? b = some o) →
      Inv (ncx2 c pn P w K mg base ["self", f, "__class__"] F fI A outer s H E) [] (startF ["self", f, "__class__"] [.ref a, x] [some (.ref C)]) H { s with heap := h₁, toks := tk }) :
    codeAny (model P w) A (.call (.ref fI) args) (CR CX0 outer P w H s Q E) s := by
  obtain ⟨qual, params, body, scope, oc, od, dV, kV, doc, pm, ct, an, cda, cc, osl, cvs, file, tf, ccl, cl, cdd, cld, ccs, csl, pf, p0, p1, pa1, pa2, pc, pe, ps1, pv1, ps2, pv2, pst, pn1, pn2, hfd, hf, hcd, hcode, hvs, hfile, hcell, hbody, hpar, S, hsup, hev⟩ := T.ex
  subst hfd
  obtain ⟨nm, q, N, bs, bm, sn, sub, ab, col, dd, k0, k1, k2, k3, k5, hC, hbm⟩ := T.oex.cls
  have X : K.In s.heap := fun b o e => (e0.bs b o (e0.mod.kin b o e)).1
  have lim : s.heap.NoLimit := e0.mod.nolimit.keeps fun b o e => (e0.bs b o e).1
  refine ks_codeAny_call_defAt (body := body) (binds := (["self", f] : List Str).zip [.ref a, u2]) hdep (X _ _ hf) rfl lim (codeRec_of X hcd) rfl hb S.nocell (fun y hy => ?_) (fun h₁ hns kp => ?_) S.co S.gen S.kind
  · exact S.par y.1 (List.of_mem_zip hy).1
  let F : NF := ⟨"__init__", qual, params, body, scope, [("__class__", cc)], cda⟩
  let env : Env := envF F fI s.heap.objs.size
  have hcc : s.heap.get? cc = some ⟨cl, cld, .cell (some (.ref C)), csl⟩ := X _ _ hcell
  have CA : CellsAt F.cl ["__class__"] [some (.ref C)] s.heap H := by
    refine ⟨rfl, fun y c e => ?_, fun y z c e1 e2 => ?_, fun i y hi => ?_⟩
    · rw [(look1 e).2]
      exact ⟨(e0.bs cc _ (e0.mod.kin _ _ hcell)).2, _, _, hcc, rfl⟩
    · exact (look1 e1).1.trans (look1 e2).1.symm
    · cases i with
      | zero =>
        simp at hi; subst hi
        refine ⟨cc, look2, fun v hv => ?_⟩
        simp at hv; subst hv
        exact ⟨.ref C, rfl, _, hcc, rfl⟩
      | succ i => simp at hi
  have I := st F h₁ (s.toks + (((["self", f] : List Str).zip [Value.ref a, u2]).length)) S CA hns kp
  show _root_.PySem.wpAt (model P w) (A.deeper env) (.func body env) (execs body env) _ _ _
  rw [hbody]
  have hnf : f ≠ ("self" : Str) := fun e => by
    have := S.nd
    rw [e] at this
    simp at this
  have X1 : K.In h₁ := fun b o e => kp b o (X b o e)
  have kB : ∀ b o, base.get? b = some o → h₁.get? b = some o := fun b o e => kp b o (e0.bs b o e).1
  obtain ⟨mb, hmb, hmb2⟩ := e0.mod.blt
  obtain ⟨t1, hea⟩ := exo_at e0.hok ha
  have hea1 := kp _ _ hea
  have hCt : h₁.get? C = some (excClassObj nm q C N bs bm true sn sub ab col dd k0 k1 k2 k3 k5 "ValueError.__new__") := X1 _ _ hC
  obtain ⟨pl, hev⟩ := hev env
  refine ks_wpAt_execs_cons (ks_wpAt_Expr_any (ks_wpAt_MethodCall (pl := pl) (he := hev) (ks_wpAt_mono (Q := fun ov s₁ => ∃ so h', ov = .ref so ∧ s₁ = { s with heap := h', toks := s.toks + (((["self", f] : List Str).zip [Value.ref a, u2]).length) } ∧ h'.get? so = some (ks_superObj C a C) ∧ ∀ y o, h₁.get? y = some o → h'.get? y = some o) (E := fun _ _ => False) ?_ (fun ov s₁ h₁' => ?_) (fun _ _ z => z.elim))) I.quiet rfl)
  · refine ks_wpAt_super_base (env := env) hsup (S.frk _ (by simp)) (by decide) rfl (X1 _ _ hf) rfl hpar rfl (X1 _ _ hcode) rfl hvs hfile T.top ?_
    refine ks_loadName_global S.kind hsup (loadGlobal_builtin (env := env) (e0.mod.glob.keeps kB) T.sup (hmb.keeps kB) ((hmb2 _ (by decide +kernel)).trans (show bootBuiltins (("super" : String) : Str) = some (.type "super") by kernel_rfl)) ⟨rfl, ?_⟩)
    refine wpAny_loadName_free S.kind (S.frk _ (by simp)) look2 ⟨_, X1 _ _ hcell, rfl⟩ ?_
    refine wpAny_loadName_local S.kind (S.par _ (by simp)) hns (v := .ref a) ?_ ?_
    · show List.lookup ("self" : Str) [(f, u2), (("self" : Str), Value.ref a)] = some (Value.ref a)
      have hb : (("self" : Str) == f) = false := beq_eq_false_iff_ne.mpr (Ne.symm hnf)
      simp only [List.lookup, hb, beq_self_eq_true]
    refine ks_wpAny_isType_cls hCt rfl ⟨rfl, ?_⟩
    refine ks_wpAny_call_super hCt rfl hea1 rfl (fun c e => nomatch e) (looks_mroIn X1 T.mro) (fun h' e k => ⟨_, h', rfl, rfl, e, k⟩)
  · obtain ⟨so, h', rfl, rfl, hso, k⟩ := h₁'
    have X2 : K.In h' := fun b o e => k b o (X1 b o e)
    obtain ⟨cd, hcl, hcm⟩ : ∃ cd, clsIn K C = some cd ∧ cd.mro = .ref C :: bm := by
      cases hc : clsIn K C with
      | none => unfold clsIn at hc; rw [hC] at hc; cases hc
      | some cd => exact ⟨cd, rfl, by unfold clsIn at hc; rw [hC] at hc; cases hc; rfl⟩
    have hup := T.up
    unfold ks_superIn at hup
    rw [hcl] at hup
    have IA : W.InstAt h' a (HandSPX.excO C t1) C none := ⟨k _ _ hea1, rfl, rfl, trivial⟩
    refine kxs_getMethod kxs_ValueError hso (looks_opaque X2 T.any) (l₀ := cd.mro) (fun A Q E s k q => wpAny_bind ((looks_clsIn X2 hcl) A _ E s k (wpAny_pure q))) rfl X2 hup (IA.type.andThen (looks_subIn X2 T.sub)) (ks_ne X2 IA hcl) (by decide) ?_
    let Xc : Cx := ncx2 c pn P w K mg base ["self", f, "__class__"] F fI A outer s H E
    have hself : PE Xc (.Name "self" ps1) (tVar 0) := pe_var rfl (.inl (S.par _ (by simp)))
    have hval : ∀ p, PE Xc (.Name f p) (tVar 1) := fun p => pe_var rfl (.inl (S.par _ (by simp))) T.nd.1 T.nd.2
    have I3 : Inv Xc [] _ H _ := I.kept (h' := h'.push (kxs_mw "ValueError.__init__" a)) (t' := s.toks + (((["self", f] : List Str).zip [Value.ref a, u2]).length) + 1) fun b o e => Heap.get?_push_of_some _ (k b o e)
    have I2 : Inv Xc [] _ H _ := I.kept (h' := h') (t' := 0) k
    have I4 := I3.pins_of (pins' := [(h'.objs.size, kxs_mw "ValueError.__init__" a)]) fun p hp => by
      have hp' : p = (h'.objs.size, kxs_mw "ValueError.__init__" a) := by simpa using hp
      subst hp'
      exact ⟨Heap.get?_push_size _ rfl, I2.hok.fresh (Nat.le_refl _), Nat.ne_of_gt I2.lt, I2.nofs (Nat.le_refl _), fun v => nofun⟩
    refine callWith_mw (i := "ValueError.__init__") (x := a) (env := env) (thn ((pa_cons (hval pa2) pa_nil).run pc _ _ _ H (fun vs H' => vs = [x] ∧ H' = H) I4 ⟨x, rfl, rfl, rfl⟩) fun us s4 hs4 => ?_)
    obtain ⟨vs4, H4, I4, r4, rfl, rfl⟩ := hs4
    have hu4 := (I4.pin (h'.objs.size, kxs_mw "ValueError.__init__" a) (List.mem_append_right _ (List.mem_singleton.mpr rfl))).1
    refine ⟨hu4, ?_⟩
    obtain ⟨t4, he4⟩ := exo_at I4.hok ha
    have hl4 := r4.length
    obtain ⟨hp, g, d, t, os⟩ := s4
    refine call_mw (I4.kIn _ _ hC) he4 hu4 (by rw [← hl4]; show 1 ≤ sizeLine; decide) fun h5 t5 k5 he5 => ?_
    have J := I4.write (t' := t) (x := a) (e := a) (o := exo a C none) (by rw [ha]; exact True.intro) (.inl rfl) k5 ⟨_, he5⟩ (exo_ok he5)
    have eu : upd H4 a (exo a C none) = H4 := by
      funext b
      by_cases hb : b = a
      · rw [hb, upd_same, ha]
      · rw [upd_ne hb]
    rw [eu] at J
    refine wpAt_of_wpAny (thn ((pss_one (ps_ost (f := f) hself (hval pv1))).run _ _ _ H4 { nx := fun _ H' => Q .non H', rt := Q } J ⟨x, rfl, .ref a, rfl, a, C, rfl, T.oex, T.no, .inl ⟨ha, fun dx h1 h2 => hq dx h1 h2⟩⟩) fun fl s' hs => ?_)
    have fin : ∀ {pins : List (Addr × Obj)} {σ' : L2.St} {H' : Hp} {v : V} {u : Value}, Inv Xc pins σ' H' s' → L2.RelV v u → Q v H' → CE outer P w H4 s Q u s' := fun {pins σ' H' v u} J rv q => ⟨v, H', J.os, J.bare, J.base, J.hok, rv, q⟩
    cases fl with
    | ret u =>
      obtain ⟨v, σ', H', J, rv, q⟩ := hs
      exact fin J rv q
    | next =>
      obtain ⟨σ', H', J, q⟩ := hs
      exact fin (v := V.non) (u := Value.none) J rfl q
    | brk =>
      obtain ⟨_, _, _, q⟩ := hs
      exact False.elim q
    | cont =>
      obtain ⟨_, _, _, q⟩ := hs
      exact False.elim q

theorem init_ok (T : CbI P K mg C fI fd f) : FnOk P w K mg base CX0 1 fI fd ["self", f] (spInit K C f) := by
  refine ⟨fun vs H Q E h => ?_, fun A outer s H args us vs Q E hr e0 hb r sp => ?_⟩
  · obtain ⟨a, x, rfl, _⟩ := h; rfl
  obtain ⟨a, x, rfl, ha, hq⟩ := sp
  cases r with
  | cons r1 r2 =>
    cases r2 with
    | cons r2 r3 =>
      cases r3
      rename_i u1 u2
      obtain rfl : u1 = .ref a := r1
      exact init_core (c := true) (pn := []) T hr.depth e0 hb r2 ha hq fun F h₁ tk S CA hns kp => inv_startN S hr.hd e0 rfl (.cons rfl (.cons r2 .nil)) CA hns kp
/-- while an exception is handled -/
theorem init_okH (T : CbI P K mg C fI fd f) : L2H.FnH P w K mg base CX0 1 fI fd ["self", f] (spInit K C f) := by
  refine ⟨fun vs H Q E h => ?_, fun A outer s H args us vs Q E p hr hot hp e0 hb r sp => ?_⟩
  · obtain ⟨a, x, rfl, _⟩ := h; rfl
  obtain ⟨a, x, rfl, ha, hq⟩ := sp
  cases r with
  | cons r1 r2 =>
    cases r2 with
    | cons r2 r3 =>
      cases r3
      rename_i u1 u2
      obtain rfl : u1 = .ref a := r1
      refine init_core (c := false) (pn := [p]) T hr.depth e0 hb r2 ha hq fun F h₁ tk S CA hns kp => ?_
      have e1 : Env0 P w K mg base { A with handled := none } outer s H := ⟨e0.frames, e0.mod, e0.bs, e0.bsz, e0.funs, e0.frf, e0.hok, e0.bare⟩
      have I0 := inv_startN (E := E) (CX := CX0) (f := fI) (F := F) (tk := tk) S (A := { A with handled := none }) (vs := [.ref a, x]) (us := [.ref a, u2]) rfl e1 rfl (.cons rfl (.cons r2 .nil)) CA hns kp
      refine ⟨⟨e0.mod, I0.ok.kind, I0.ok.glob, I0.ok.blt, I0.ok.above, I0.ok.inj, I0.ok.has, I0.ok.cab, (fun z => nomatch z), Around.frames_deeper e0.frames, I0.ok.stk, I0.ok.exf, I0.ok.bs, I0.ok.bsz, I0.ok.noex, I0.ok.exfs, I0.ok.funs, I0.ok.frf⟩, I0.os, I0.bare, I0.base, I0.loc, I0.cell, I0.free, I0.freeC, fun q hq => ?_, I0.hok, I0.len⟩
      have hq' : q = p := by simpa using hq
      subst hq'
      exact ⟨kp _ _ hp.get, hp.free, Nat.ne_of_lt (Heap.lt_size hp.get), hp.nofs, hp.nocell⟩
end
end Lx
end
section
set_option Elab.async false
set_option linter.all false
set_option maxRecDepth 100000
/-! Such an exception raised where nothing is handled; a try whose first clause takes every exception that comes. -/
namespace Lx
open PySem PySem.Spec PyProof.Rows L2
section
variable {X : Cx} {o e : Expr} {es : List Expr} {to te : TE} {ta : TA} {f : Str} {p p' p1 p2 pos : Pos}
theorem pmkN_oex {CX : CXT} {x : Str} {C fI : Addr} {k : Nat} {fd : FuncData} {ps : List Str} {sp : Sp} {ds : List Value} {dvs : List V} (T : OexC X.K C) (iC : PySem.W.findIn X.K (.ref C) "__init__" = some (some (.ref fI))) (tI : PySem.W.typeIn X.K (.ref fI) = some (.type "function"))
    (F1 : FnOk X.prog X.w X.K X.mg X.base CX k fI fd ps sp) (hr : Room (k + 1) X.A) (hb : Binds X.K fd ps ds) (hd : Vals dvs ds) (hx : Passes CX X (fun _ _ _ => False)) (hg : Gl X x) (hm : X.mg x = some (.ref C)) (ha : PA X (e :: es) ta)
    (hdb : (x == ("__debug__" : Str)) = false := by decide) (he : starEach (e :: es) X.env = (false, eval e X.env) :: starEach es X.env := by rfl) (hpl : (backTo pos (starEach es X.env)).any (·.1) = false := by rfl) :
    L2N.PMk X (.Call (.Name x p) (e :: es) [] pos) (tMkO C sp dvs ta) := by
  intro pins s σ H Q I h
  obtain ⟨nm, q, N, bs, bm, sn, sub, ab, col, dd, k0, k1, k2, k3, k5, hC, hbm⟩ := T.cls
  refine wpAny_Call_Name_kw (ld_glob I hg hm ?_ hdb)
  refine PySem.W.callWith_K (h₀ := X.base) I.ok.mod.kin T.kC (thn (ha.run pos pins s σ H _ I h) fun us s1 ⟨vs, H1, I1, r1, hz, q1⟩ => ⟨I1.kIn, ?_⟩) he hpl
  show wpAny _ _ (call (.ref C) us) _ _ _
  obtain ⟨hp, g, dr, tk, os⟩ := s1
  have hsz : hp.objs.size ≤ hp.objs.size + 1 := Nat.le_succ _
  have hn : H1 (hp.objs.size + 1) = none := I1.hok.fresh hsz
  have hq := q1 (hp.objs.size + 1) hn
  have kk : ∀ b o, hp.get? b = some o → ((hp.push (PySem.W.kdv_tup us)).push (PySem.HandSPX.excO C hp.objs.size)).get? b = some o := fun b o e => Heap.get?_push_of_some _ (Heap.get?_push_of_some _ e)
  have hget : ((hp.push (PySem.W.kdv_tup us)).push (PySem.HandSPX.excO C hp.objs.size)).get? (hp.objs.size + 1) = some (PySem.HandSPX.excO C hp.objs.size) := by heap_get
  have I2 : Inv X pins σ (upd H1 (hp.objs.size + 1) (exo (hp.objs.size + 1) C none)) ⟨(hp.push (PySem.W.kdv_tup us)).push (PySem.HandSPX.excO C hp.objs.size), g, dr, tk, os⟩ :=
    I1.laid (t' := tk) (a := hp.objs.size + 1) (o := exo (hp.objs.size + 1) C none) (h' := (hp.push (PySem.W.kdv_tup us)).push (PySem.HandSPX.excO C hp.objs.size)) kk hsz (exo_ok hget)
  have r2 : Vals (V.ref (hp.objs.size + 1) :: (vs ++ dvs)) (Value.ref (hp.objs.size + 1) :: (us ++ ds)) := .cons rfl (r1.append hd)
  have hl : (Value.ref (hp.objs.size + 1) :: us ++ ds).length = ps.length := by
    have e := r2.length
    rw [F1.len _ _ _ _ hq] at e
    exact e.symm
  have hus : us.length ≤ sizeLine := by
    rw [← Paired.length r1, sizeLine_eq]
    omega
  refine wpAny_call (PySem.HandSPX.call_own F.excBase_ValueError (fun Y => PySem.HandSPX.refsVE_contains Y bm hbm) (I1.kIn _ _ hC) (PySem.W.looks_findIn I1.kIn iC) (fun self => PySem.W.bind_fn I1.kIn self tI) hus
    (codeAny_mono (F1.run _ X.stack _ _ ⟨Value.ref (hp.objs.size + 1) :: us, []⟩ (Value.ref (hp.objs.size + 1) :: (us ++ ds)) _ _ (fun _ _ _ => False) (hr.make C us []) (I2.env0.make C us []) (hb _ (Value.ref (hp.objs.size + 1) :: us) I2.kIn hl) r2 hq) fun r s' hq' => ?_))
  cases r with
  | error er => exact hx pins σ _ _ er s' I2 hq'
  | ok fl =>
    cases fl with
    | ret u =>
      obtain ⟨v, H2, os2, bare2, un2, hok2, rv, ev, d, fs, ea, ed, hd1, q2⟩ := hq'
      subst ev
      obtain ⟨h2, g2, d2, t2, os'⟩ := s'
      obtain ⟨t0, G, J, kG, ge, hoe, na⟩ := mk_end0 (d2 := d2) (t2 := t2) I1 hsz kk un2 hok2 os2 bare2 ea ed hd1
      exact ⟨rv, hp.objs.size + 1, _, _, ⟨G, g2, d2, t2, os'⟩, _, .ref C, some d, rfl, J, kG, ge, hoe, ⟨rfl, rfl, fun vs hv => by cases hv; rfl⟩, rfl, rfl, na, rfl, bare2, raises_own T.exC T.tyC, q2⟩
    | next => exact False.elim hq'
    | brk => exact False.elim hq'
    | cont => exact False.elim hq'
end
/-- what a first clause 'except x as n' that takes whatever comes wishes of an exception of the body -/
def wAs1 (K : PySem.W.Frag) (c : Value) (m : Nat) (i : Nat) (ts : Addr → Value → Option Addr → TS) (D : Ends) : WX := fun cls d σ H =>
  PySem.W.exmOne K cls c = some true ∧ (σ.length = m → ∀ a, H a = none → ts a cls d { nx := fun σ' H' => D.nx (σ'.set i none) H', rt := D.rt, bk := fun σ' H' => D.bk (σ'.set i none) H', ct := fun σ' H' => D.ct (σ'.set i none) H' } (σ.set i (some (.ref a))) H)
section
variable {X : Cx} {x n : Str} {c : Value} {i : Nat} {body suite : List Stmt} {b₀ : Stmt} {np pos pos' : Pos} {tb : WX → TS} {ts : Addr → Value → Option Addr → TS} {hds : List ExceptHandler}
theorem ps_try_as1 (hs : X.stack = X.env :: X.outer) (hf : X.env.frame = some X.env.locals) (hN : X.N.Nodup) (hi : X.N[i]? = some n) (hln : X.env.kindOf n = some .local) (hc : Names X x c)
    (hb : ∀ (W : WX) (pn : List (Addr × Obj)) (xe : Value → Shared → Prop), Takes (X.tr pn xe) W → PassesOwn (model X.prog X.w) X.A X.env xe → PSs (X.tr pn xe) body (tb W))
    (hsu : ∀ (a : Addr) (oe : Obj) (cls : Value) (d : Option Addr) (pn : List (Addr × Obj)), Zc cls d oe → (∃ vs, oe.data = .fields vs) → PSs (X.suite a ((a, oe) :: pn)) (b₀ :: suite) (ts a cls d)) :
    PS X (.Try body (.ExceptHandler (some (.Name x np)) (some n) (b₀ :: suite) pos' :: hds) [] [] pos) (fun D σ H => tb (wAs1 X.K c X.N.length i ts D) D σ H) := by
  refine ⟨fun pins s σ H D I h => ?_⟩
  have ok := I.ok
  have hfr : X.A.frames = some (X.env :: X.outer) := by rw [ok.frames, hs]
  have hloc : Loc X.env.scope n := .inl hln
  refine wpAny_Try_except ?_
  refine wpAny_mono ((hb (wAs1 X.K c X.N.length i ts D) (X.pn ++ pins) (fun e s₁ => wpAny (model X.prog X.w) X.A (noteFrame e X.env) (fun _ s₂ => wpAny (model X.prog X.w) X.A (setFlight e none) (fun _ s₃ =>
    wpAny (model X.prog X.w) X.A (handleBy e X.env (.ExceptHandler (some (.Name x np)) (some n) (b₀ :: suite) pos' :: hds)) (SP X pins D) X.xe s₃) X.xe s₂) X.xe s₁) (fun u s' xx => ?_) PassesOwn.looking).run [] s σ H D (I.toTry _) h) (fun f s1 hsp => ?_) (fun e s1 he => he)
  · -- the catch
    obtain ⟨a, B, sI, pins', σ', H', cls, d, rfl, J', nb, up, sky, na, os, ag, hb1, hyes⟩ := xx
    have J : Inv X pins σ' H' sI := J'.ofTry ok
    have sky' : Sky B (X.env :: X.outer) a (Zc cls d) X.env.locals s'.heap := by rw [← hs]; exact sky
    show wpAny (model X.prog X.w) X.A (noteFrame (.ref a) X.env) _ _ _
    refine Sky.land Zc.steady hfr hf sky' fun h3 fl3 up3 => ?_
    have J3 : Inv X pins σ' H' { s' with heap := h3 } := J.landed nb fl3.1 (up.trans up3) os ag
    obtain ⟨oe3, vs3, he3, hz3, hd3⟩ := fl3.there
    have notFr : ∀ {h : Heap} {o : Obj} {vs : Array Value}, h.FunFrames B (X.env :: X.outer) → h.get? a = some o → o.data = .fields vs → a ∉ frs (X.env :: X.outer) := fun {h o vs} ff e dd hm => by
      obtain ⟨_, o', e', hnf⟩ := ff.mem hm
      rw [e] at e'; cases e'
      exact hnf _ dd
    have nfr := notFr fl3.2.2.1 he3 hd3
    have nL : a ≠ X.env.locals := fun z => nfr (List.mem_filterMap.mpr ⟨X.env, List.mem_cons_self, by rw [hf, z]⟩)
    have nF : a ∉ X.fs := fun hm => by
      obtain ⟨e, he, q⟩ := List.mem_filterMap.mp hm
      exact nfr (List.mem_filterMap.mpr ⟨e, List.mem_cons_of_mem _ he, q⟩)
    have S3 := J3.suite he3 hd3 na nL nF
    refine wpAny_handleBy_cons (codeAny_handlers_test ?_) (by intro q; cases q)
    have LT : PySem.W.Looks (model X.prog X.w) h3 (typeOf (.ref a)) cls := fun A Q E s k q => wpAny_typeOf_ref (k _ _ he3) (by rw [hz3.1]; exact q)
    have LM := PySem.W.exm_one (M := model X.prog X.w) (J3.kIn) LT hb1
    have test : ∀ {Q : Value → Shared → Prop} {E : Value → Shared → Prop}, Q c { s' with heap := h3 } → wpAny (model X.prog X.w) (X.A.mark (some (.ref a))) (eval (.Name x np) X.env) Q E { s' with heap := h3 } := fun {Q E} q => by
      obtain ⟨hg, hdbg, hm | ⟨hm, hv, hnn⟩⟩ := hc
      · exact ld_glob (X := X.suite a ((a, oe3) :: (X.pn ++ pins))) S3 hg hm q hdbg
      · exact ld_blt (X := X.suite a ((a, oe3) :: (X.pn ++ pins))) S3 hg hm hv q hnn hdbg
    refine test (LM.here ?_)
    refine codeAny_handlers_suite_as ?_
    refine HandSPX.lands_againZ fl3 fun h4 fl4 up4 => ?_
    have J4 : Inv X pins σ' H' { s' with heap := h4 } := J.landed nb fl4.1 ((up.trans up3).trans up4) os ag
    obtain ⟨oe4, vs4, he4, hz4, hd4⟩ := fl4.there
    have S4 := J4.suite he4 hd4 na nL nF
    refine store_ok (X := X.suite a ((a, oe4) :: (X.pn ++ pins))) (v := .ref a) S4 hN hi hloc rfl (fun s5 S5 => ?_) (.inr hln)
    refine wpAny_mono ((hsu a oe4 cls d (X.pn ++ pins) hz4 ⟨_, hd4⟩).run [] s5 _ H' _ S5 (hyes J'.len a na)) (fun f s6 hsp => ?_) (fun _ _ z => False.elim z)
    have end_ : ∀ {σ6 : L2.St} {H6 : Hp} {Q : Shared → Prop}, Inv (X.suite a ((a, oe4) :: (X.pn ++ pins))) [] σ6 H6 s6 → (∀ s7, Inv X pins (σ6.set i none) H6 s7 → Q s7) →
        wpAny (model X.prog X.w) X.A (do bindName X.env n .none; unbindBehindTheSuite X.env n pos') (fun _ s7 => Q s7) X.xe s6 := fun {σ6 H6 Q} S6 hq => gone_ok (S6.unsuite ok) hN hi hln hq
    cases f with
    | next =>
      obtain ⟨σ6, H6, S6, q6⟩ := hsp
      exact end_ S6 fun s7 J7 => ⟨_, _, J7, q6⟩
    | brk =>
      obtain ⟨σ6, H6, S6, q6⟩ := hsp
      exact end_ S6 fun s7 J7 => ⟨_, _, J7, q6⟩
    | cont =>
      obtain ⟨σ6, H6, S6, q6⟩ := hsp
      exact end_ S6 fun s7 J7 => ⟨_, _, J7, q6⟩
    | ret u =>
      obtain ⟨v6, σ6, H6, S6, r6, q6⟩ := hsp
      exact end_ S6 fun s7 J7 => ⟨_, _, _, J7, r6, q6⟩
  · cases f with
    | next =>
      obtain ⟨σ', H', J', q⟩ := hsp
      exact wpAny_execs_nil ⟨σ', H', J'.ofTry ok, q⟩
    | brk =>
      obtain ⟨σ', H', J', q⟩ := hsp
      exact ⟨σ', H', J'.ofTry ok, q⟩
    | cont =>
      obtain ⟨σ', H', J', q⟩ := hsp
      exact ⟨σ', H', J'.ofTry ok, q⟩
    | ret u =>
      obtain ⟨v, σ', H', J', r, q⟩ := hsp
      exact ⟨v, σ', H', J'.ofTry ok, r, q⟩
end
end Lx
end
section
set_option Elab.async false
set_option linter.all false
set_option maxRecDepth 100000
/-! The text's defs by their places; what the walk takes of the module. -/
namespace FK
open PySem PySem.Spec PyProof.Rows L2 Lg Lr
def top (i : Nat) : Stmt := PySem.Challenge.pw_floorkeepers_k14_whole_all_keepers.main.body.getD i (.Pass ⟨0, 0, 0, 0⟩)
abbrev DfE (K : PySem.W.Frag) (mg : Str → Option Value) (x : Str) (i : Nat) : Prop := ∃ f fd, FunD K x x (defArgs (top i)) (defBody (top i)) (defScope (top i)) [] [] f fd ∧ mg x = some (.ref f)
structure Dfs (K : PySem.W.Frag) (mg : Str → Option Value) : Prop where
  rooms_within : DfE K mg "rooms_within" 5
  sizes_of : DfE K mg "sizes_of" 6
  things_within : DfE K mg "things_within" 7
  known_sizes : DfE K mg "known_sizes" 9
  are_sizes : DfE K mg "are_sizes" 10
  stepped : DfE K mg "stepped" 11
  tightened : DfE K mg "tightened" 12
  first_knowledge : DfE K mg "first_knowledge" 14
  taken_out : DfE K mg "taken_out" 15
  amid : DfE K mg "amid" 16
  lost_one : DfE K mg "lost_one" 17
  led : DfE K mg "led" 18
  led_by : DfE K mg "led_by" 19
  knowledge_behind : DfE K mg "knowledge_behind" 20
  words_through : DfE K mg "words_through" 21
  can_be : DfE K mg "can_be" 22
  by_things : DfE K mg "by_things" 25
  next_numbers : DfE K mg "next_numbers" 26
  floor_numbers : DfE K mg "floor_numbers" 27
  count_states : DfE K mg "count_states" 28
  states_of : DfE K mg "states_of" 29
  law_bag : DfE K mg "_law_bag" 31
  law_take : DfE K mg "_law_take" 32
  law_one : DfE K mg "_law_one" 33
  law_house : DfE K mg "_law_house" 34
  law_mixed : DfE K mg "_law_mixed" 35
  law_state : DfE K mg "_law_state" 36
  law_start : DfE K mg "_law_start" 37
  law_drawn_move : DfE K mg "_law_drawn_move" 38
  law_done : DfE K mg "_law_done" 39
  law_run : DfE K mg "_law_run" 40
  law_flat : DfE K mg "_law_flat" 41
  law_full_state : DfE K mg "_law_full_state" 42
  law_story : DfE K mg "_law_story" 43
  law_bent_log : DfE K mg "_law_bent_log" 44
  law_other_log : DfE K mg "_law_other_log" 45
  law_all_states : DfE K mg "_law_all_states" 46
  law_within : DfE K mg "_law_within" 47
  law_sizes : DfE K mg "_law_sizes" 48
  law_rooms_within : DfE K mg "_law_rooms_within" 49
  law_first_states : DfE K mg "_law_first_states" 50
  law_asks : DfE K mg "_law_asks" 51
  law_states_behind : DfE K mg "_law_states_behind" 52
  law_states_of_log : DfE K mg "_law_states_of_log" 53
  law_heard : DfE K mg "_law_heard" 54
  law_alike : DfE K mg "_law_alike" 55
  law_words_by : DfE K mg "_law_words_by" 56
  law_is_log_right : DfE K mg "_law_is_log_right" 57
  law : DfE K mg "law" 58
structure Mgs (mg : Str → Option Value) : Prop where
  len : mg "len" = none
  range : mg "range" = none
  enumerate : mg "enumerate" = none
  tuple : mg "tuple" = none
  list : mg "list" = none
  zip : mg "zip" = none
  sorted : mg "sorted" = none
  max : mg "max" = none
  min : mg "min" = none
  all : mg "all" = none
  any : mg "any" = none
  int : mg "int" = none
  sum : mg "sum" = none
  abs : mg "abs" = none
  dict : mg "dict" = none
  repr : mg "repr" = none
  super : mg "super" = none
  most : ∃ t, mg "MOST_STATES" = some (.int 3000 t)
/-- what the walk takes of the class CannotBe, at aC -/
structure Cb (P : Program) (K : PySem.W.Frag) (mg : Str → Option Value) (aC fI : Addr) (fd : FuncData) : Prop where
  ini : Lx.CbI P K mg aC fI fd "index"
  bd : Binds K fd ["self", "index"] []
  iC : PySem.W.findIn K (.ref aC) "__init__" = some (some (.ref fI))
  tI : PySem.W.typeIn K (.ref fI) = some (.type "function")
  gC : mg "CannotBe" = some (.ref aC)
  exm : PySem.W.exmOne K (.ref aC) (.ref aC) = some true
  xf : XfC K aC
  no : PySem.W.findIn K (.ref aC) "index" = some none
theorem takesN0 {X : Cx} : L2N.Takes X (fun _ _ _ _ => False) := fun u s' x => by
  obtain ⟨_, _, _, _, _, _, _, _, _, _, _, _, _, _, _, _, h⟩ := x
  exact False.elim h
/-- raise C(e) -/
def tRaiseC (K : PySem.W.Frag) (aC : Addr) (E : XK) (t : TA) : TS := fun _ σ H => tMkO aC (Lx.spInit K aC "index") [] t σ H fun cls d H' => E cls d H'
section
variable {X : Cx} {CX : CXT} {k : Nat} {ps : List Str} {sp : Sp} {x : Str} {p pos : Pos} {e : Expr} {es : List Expr} {t : TA} {E : L2.St → XK}
theorem pe_okS (F : Ok X.prog X.w X.K X.mg X.base CX k x ps sp) {j : Nat} (hr : Room j X.A) (hj : k ≤ j) (hg : Gl X x) (hx : ∀ σ, PassesAt CX X σ (E σ)) (ha : PA X (e :: es) t) (hdb : (x == ("__debug__" : Str)) = false := by decide)
    (he : starEach (e :: es) X.env = (false, eval e X.env) :: starEach es X.env := by rfl) (hpl : (backTo pos (starEach es X.env)).any (·.1) = false := by rfl) : PE X (.Call (.Name x p) (e :: es) [] pos) (tCallS sp E t) := by
  obtain ⟨f, fd, hb, hF, hm, hk⟩ := F.ex
  exact pe_callS hF (hr.mono hj) hg hm hk hb hx ha hdb he hpl
end
/-! ### readings of built-ins -/
abbrev rMul (K : PySem.W.Frag) : R2 := fun x y H Q => rI CMul (fun i j => .int (i * j)) x y H Q ∨ (rRep x y H Q ∨ (rRepT K x y H Q ∨ rRepA K x y H Q))
theorem op_mulA {X : Cx} : OpR X (binaryOp .Mult) (rMul X.K) := op_mul.or (op_rep.or (op_repT.or op_repA))
abbrev rTupA (K : PySem.W.Frag) : List V → Hp → VK → Prop := fun xs H Q => rTupOf K xs H Q ∨ rTupF K xs H Q
theorem call_tupA {X : Cx} : CallR X (.type "tuple") (rTupA X.K) := Lr.CallR.or call_tuple_of call_tupF
abbrev rInt1 : List V → Hp → VK → Prop := fun xs H Q => (∃ i, xs = [.int i] ∧ Q (.int i) H) ∨ ∃ k, xs = [.bl k] ∧ Q (.int (if k then 1 else 0)) H
abbrev rMax2 : List V → Hp → VK → Prop := fun xs H Q => ∃ i j, xs = [.int i, .int j] ∧ Q (.int (if j > i then j else i)) H
abbrev rMin2 : List V → Hp → VK → Prop := fun xs H Q => ∃ i j, xs = [.int i, .int j] ∧ Q (.int (if j < i then j else i)) H
abbrev rAbs : List V → Hp → VK → Prop := fun xs H Q => ∃ i, xs = [.int i] ∧ Q (.int (if i < 0 then -i else i)) H
abbrev rInsert : V → List V → Hp → VK → Prop := fun x vs H Q => ∃ (l : Addr) (xs : List V) (i : Int) (y : V), x = .ref l ∧ vs = [.int i, y] ∧ H l = some (.lst xs) ∧ xs.length < sizeLine ∧ 0 ≤ i ∧ i < 2 ^ 63 ∧
    Q .non (upd H l (.lst (xs.take i.toNat ++ [y] ++ xs.drop i.toNat)))
abbrev iEn (K : PySem.W.Frag) (ta : TA) : TI := fun σ H R => iEnum K ta σ H R ∨ iEnumT K ta σ H R
abbrev iZp (K : PySem.W.Frag) (ta : TA) : TI := fun σ H R => RZ.iZipA K ta σ H R ∨ iZipM K ta σ H R
abbrev iSq (K : PySem.W.Frag) (te : TE) : TI := fun σ H R => iList K te σ H R ∨ iTup K te σ H R
end FK
end
section
set_option Elab.async false
set_option linter.all false
set_option maxRecDepth 100000
/-! sorted(l), l a list of data. -/
namespace Lr
open PySem PySem.Spec PyProof.Rows L2 PySem.W
/-- values with their data, sorted by the data -/
def sortV (xs : List V) (ds : List PyData) : List V := ((xs.zip ds).mergeSort (dataLe false Prod.snd)).map Prod.fst
theorem each_zip {R : Value → V × PyData → Prop} : ∀ {us : List Value} {xs : List V} {ds : List PyData}, Vals xs us → xs.length = ds.length → (∀ u x d, RelV x u → R u (x, d)) → EachIs R us (xs.zip ds)
  | _, _, [], .nil, _, _ => .nil
  | _, _, d :: ds, .cons r t, h, k => .cons (k _ _ _ r) (each_zip t (by simpa using h) k)
theorem reads_zip {h : Heap} : ∀ {us : List Value} {xs : List V} {ds : List PyData} {as : List Addr}, Vals xs us → ReadsAll h us ds as → EachIs (fun v (b : V × PyData) => ∃ as, Reads h v b.2 as) us (xs.zip ds)
  | _, _, _, _, .nil, .nil => .nil
  | _, _, _, _, .cons _ t, .cons r q => .cons ⟨_, r⟩ (reads_zip t q)
theorem each_vals : ∀ {us : List Value} {bs : List (V × PyData)}, EachIs (fun u (b : V × PyData) => RelV b.1 u) us bs → Vals (bs.map Prod.fst) us
  | _, _, .nil => .nil
  | _, _, .cons r t => .cons r (each_vals t)
theorem map_zip_snd : ∀ {xs : List V} {ds : List PyData}, xs.length = ds.length → (xs.zip ds).map Prod.snd = ds
  | [], [], _ => rfl
  | x :: xs, d :: ds, h => by
    rw [List.zip_cons_cons, List.map_cons, map_zip_snd (by simpa using h)]
theorem dpAll_length {K : PySem.W.Frag} {H : Hp} : ∀ {vs : List V} {ds : List PyData}, DpAll K H vs ds → vs.length = ds.length
  | _, _, .nil => rfl
  | _, _, .cons _ t => congrArg (· + 1) (dpAll_length t)
def rSortD (K : PySem.W.Frag) : List V → Hp → VK → Prop := fun vs H Q => ∃ (a : Addr) (xs : List V) (ds : List PyData), vs = [V.ref a] ∧ SqL K H a xs ∧ DpAll K H xs ds ∧ (xs.length ≤ 1 ∨ (AllAlike ds ∧ Sortable ds)) ∧ (∀ d ∈ ds, d.depth ≤ 8) ∧ ∀ p, H p = none → Q (.ref p) (upd H p (.lst (sortV xs ds)))
section
variable {X : Cx}
theorem one_perm {α : Type} {l m : List α} (h : l.Perm m) (hm : m.length ≤ 1) : l = m := by
  match m, hm with
  | [], _ => exact List.perm_nil.mp h
  | [x], _ => exact List.perm_singleton.mp h
theorem sort_one {α : Type} {le : α → α → Bool} {l : List α} (h : l.length ≤ 1) : l.mergeSort le = l := one_perm (List.mergeSort_perm l le) h
theorem cr_sortD (hu : X.A.units + 64 < cLine) : CallR X (.builtin "sorted") (rSortD X.K) := by
  intro pins s σ H vs us Q I r h
  obtain ⟨a, xs, ds, rfl, hs, hd, hk, hdep, q⟩ := h
  obtain ⟨its, rv, hl, hz⟩ := I.list hs
  rw [Vals.ref1 r]
  have hxd := dpAll_length hd
  have fin : ∀ out : List Value, Vals (sortV xs ds) out → EP X pins σ Q (.ref (s.heap.objs.size + 1)) { s with heap := sortedAll s.heap its out.toArray } := fun out hv => by
    obtain ⟨ep, he'⟩ := PyProof.Rows.sortedAll_at s.heap its out.toArray
    have hlen : (sortV xs ds).length ≤ sizeLine := by
      unfold sortV
      rw [List.length_map, (List.mergeSort_perm _ _).length_eq, List.length_zip, ← hxd, Nat.min_self]; exact hz
    exact ⟨.ref _, upd H (s.heap.objs.size + 1) (.lst (sortV xs ds)), I.laid (t' := s.toks) (fun _ _ => PyProof.Rows.sortedAll_old) (Nat.le_succ _) ⟨hlen, out, ep, hv, he'⟩, rfl, q _ (I.hok.fresh (Nat.le_succ _))⟩
  rcases hk with h1 | ⟨hal, hsk⟩
  · have hi1 : its.length ≤ 1 := by rw [← rv.length]; exact h1
    refine SrtO.sorted_ord (ltv := fun _ _ => false) ⟨fun _ _ _ => rfl, fun _ _ _ _ _ => rfl⟩ hl.isList (by rw [← rv.length]; exact hz) (fun h2 => by omega) fun out h2 h3 => fin out ?_
    have e : out = its := one_perm h3.perm hi1
    have e2 : sortV xs ds = xs := by
      unfold sortV
      rw [sort_one (by rw [List.length_zip]; omega)]
      exact List.map_fst_zip (by omega)
    rw [e, e2]; exact rv
  · obtain ⟨as, hr⟩ := Dp.readsAll I ds xs its hd rv
    have hm := map_zip_snd hxd
    refine sorted_data (β := V × PyData) (bs := xs.zip ds) (enc := Prod.snd) (R := fun u b => RelV b.1 u) hl.isList (each_zip rv hxd fun u x d h => h) (reads_zip rv hr) (by rw [hm]; exact hal) (by rw [hm]; exact hsk) (by rw [List.length_zip, ← hxd, Nat.min_self]; exact hz) (fun b hb => ?_) fun out h2 h3 => fin out (each_vals h3)
    have hb2 : b.2 ∈ ds := by rw [← hm]; exact List.mem_map.mpr ⟨b, hb, rfl⟩
    have := hdep _ hb2
    omega
end
end Lr
end
section
set_option Elab.async false
set_option linter.all false
set_option maxRecDepth 100000
/-! Dicts whose keys are tuples: items, the list of the values, a display of one pair, sorted. -/
namespace Lr
open PySem PySem.Spec PyProof.Rows L2 PySem.W
/-- the pairs of a locked dict with tuple keys, each a new tuple -/
def IttT (d : Addr) (o : Obj) (kvs : List (List L2.Key × V)) : It :=
  ⟨fun i H => H d = some (.frz o (.dT kvs)) ∧ i < kvs.length, fun i H x H' => ∃ T k v q, kvs[i]? = some (k, v) ∧ x = .ref T ∧ H T = none ∧ H q = some (.tup (k.map kV)) ∧ H' = upd H T (.tup [.ref q, v]), fun i H => H d = some (.frz o (.dT kvs)) ∧ kvs.length ≤ i⟩
section
variable {X : Cx} {pins : List (Addr × Obj)} {σ : L2.St} {H : Hp} {s : Shared} {d : Addr} {o : Obj}
theorem frzTv {kvs : List (List L2.Key × V)} (I : Inv X pins σ H s) (h : H d = some (.frz o (.dT kvs))) :
    (d == sysModules) = false ∧ s.heap.get? d = some o ∧ o.ExactDict ∧ ∃ (es : Array DictEntry) (ep : Nat), o.data = .dict es ep ∧ es.size = kvs.length ∧
      ∀ (i : Nat) (k : List L2.Key) (v : V), kvs[i]? = some (k, v) → ∃ (en : DictEntry) (q : Addr), es[i]? = some en ∧ en.key = .ref q ∧ H q = some (.tup (k.map kV)) ∧ RelV v en.val := by
  obtain ⟨hd, z, hs, xs, pr, o', es, ep, ho, hx, hdt, he, _⟩ := I.hok d _ h
  rw [hd] at ho
  cases ho
  refine ⟨hs, hd, hx, es, ep, hdt, ?_, fun i k v e => ?_⟩
  · have l1 : es.size = xs.length := size_of_entries he
    have l2 : kvs.length = xs.length := Paired.length pr
    omega
  · obtain ⟨b, hb, e1, e2, e3⟩ := paired_get pr e
    have q := entry_at he i
    rw [hb] at q
    exact ⟨_, b.2.1, q, rfl, e2, e3⟩
end
section
variable {P : Program} {w : World} {K : PySem.W.Frag} {tg : Expr} {d : Addr} {o : Obj} {es : Array DictEntry} {ep : Nat}
theorem turn_itemsT {kvs : List (List L2.Key × V)} {elts : List Expr} {kk : Nat} {tpos : Pos} (it : Addr) (hod : o.data = .dict es ep) :
    Turn P w K (.Tuple elts kk tpos) (IttT d o kvs) [it] it (fun i h => ∃ ok ov, IsItemIter h it d i kvs.length ep ok ov) where
  mem := by simp
  obj := fun i h st b hb => by
    have e : b = it := by simpa using hb
    subst e
    obtain ⟨ok, ov, e⟩ := st
    exact ⟨_, e, fun v z => nomatch z⟩
  keep := fun i h h' st k => let ⟨ok, ov, e⟩ := st; ⟨ok, ov, k it (by simp) _ e⟩
  item := by
    intro X hP hw hK hc i pins s σ H E I hf st hg
    subst hP hw hK
    obtain ⟨hd, hi⟩ := hg
    obtain ⟨hs, hgd, hx, es', ep', hdt, hsz, ent⟩ := frzTv I hd
    obtain ⟨rfl, rfl⟩ := dict_ep hod hdt
    obtain ⟨⟨k, v⟩, hkv⟩ : ∃ p, kvs[i]? = some p := ⟨kvs[i], List.getElem?_eq_getElem hi⟩
    obtain ⟨en, q, hen, hkey, hq, rv⟩ := ent i k v hkv
    have hi' : i < es'.size := by omega
    have e0 : es'[i] = en := by
      rw [Array.getElem?_eq_getElem hi'] at hen
      exact Option.some.inj hen
    obtain ⟨ok, ov, he⟩ := st
    rw [← hsz] at he
    have hlt : it < s.heap.objs.size := Heap.lt_size he
    refine DT.nextI he ⟨o, hgd, hx, hdt⟩ hi' fun h' ho hT hz hk => ?_
    rw [e0] at ho hT
    refine ⟨_, rfl, wpAny_letOwnedTupleGo_items (s := { s with heap := h' }) ho fun h'' he' sb => ?_⟩
    have hT2 : h''.get? s.heap.objs.size = some { cls := .type "tuple", data := .seq #[en.key, en.val] } := (sb.2 _ (Nat.ne_of_gt hlt)).trans hT
    have new : ObjOk X.prog X.w (upd H s.heap.objs.size (.tup [.ref q, v])) h'' s.heap.objs.size (.tup [.ref q, v]) :=
      ⟨by show 2 ≤ sizeLine; decide, [en.key, en.val], .cons (by rw [hkey]; rfl) (.cons rv .nil), ⟨_, hT2, rfl, _, rfl⟩⟩
    have I1 : Inv X pins σ (upd H s.heap.objs.size (.tup [.ref q, v])) { s with heap := h'' } :=
      I.turnedNew (t' := s.toks) (ch := [it]) (fun b ob hb e => (sb.2 b (by simpa using hb)).trans (hk b ob (by simpa using hb) e)) hf (Nat.le_refl _) new
    refine ⟨.ref s.heap.objs.size, _, I1, rfl, ⟨_, k, v, q, hkv, rfl, I.hok.fresh (Nat.le_refl _), hq, rfl⟩, ⟨en.key, en.val, ?_⟩, fun b hb => ?_⟩
    · rw [← hsz]; exact he'
    · have e : b = it := by simpa using hb
      rw [e, upd_ne (Nat.ne_of_lt hlt)]
      exact (hf it (by simp)).1
  done := by
    intro X hP hw hK hc i pins s σ H E I hf st hg
    subst hP hw hK
    obtain ⟨hd, hi⟩ := hg
    obtain ⟨f0, f1, f2, f3, f4, f5⟩ := hf it (by simp)
    obtain ⟨hs, hgd, hx, es', ep', hdt, hsz, ent⟩ := frzTv I hd
    obtain ⟨rfl, rfl⟩ := dict_ep hod hdt
    obtain ⟨ok, ov, he⟩ := st
    rw [← hsz] at he
    exact DT.endI (I.ok.hd hc) he ⟨o, hgd, hx, hdt⟩ (by omega) fun h' eb => ⟨rfl, I.turned (t' := s.toks) (fun b ob hb e => eb b ob hb e) f0 f1 f3 f4 f5⟩
  self := fun A i s Q E st h => let ⟨_, _, e⟩ := st; PySem.W.kcp_self e h
end
/-- .. in e.items(), the dict locked -/
def iItemsT (td : TE) : TI := fun σ H R => td σ H fun x H1 => ∃ d o kvs, x = .ref d ∧ H1 d = some (.frz o (.dT kvs)) ∧ R (IttT d o kvs) H1
/-- list(e.values()) -/
def tListVT (td : TE) : TE := fun σ H Q => td σ H fun x H1 => ∃ d kvs, x = .ref d ∧ Rd H1 d (.dT kvs) ∧ ∀ p, H1 p = none → Q (.ref p) (upd H1 p (.lst (kvs.map (·.2))))
/-- {t: v} -/
def tDispT1 (tk tv : TE) : TE := fun σ H Q => ∀ p, H p = none → tPairs [(tk, tv)] σ (upd H p (.dT [])) fun ps H3 => ∃ x y, ps = [(x, y)] ∧ H3 p = some (.dT []) ∧ ∃ b k, x = .ref b ∧ H3 b = some (.tup (k.map kV)) ∧ Q (.ref p) (upd H3 p (.dT [(k, y)]))
section
variable {X : Cx} {e : Expr} {td : TE} {apos cpos : Pos}
theorem pi_itemsT {elts : List Expr} {kk : Nat} {tpos : Pos} (he : PE X e td) (hbase : attributeBase e "items" X.env (eval e X.env) = eval e X.env := by rfl) (hline : (apos.endLine == cpos.line) = true := by rfl) :
    PI X (.Tuple elts kk tpos) (.Call (.Attribute e "items" apos) [] [] cpos) (iItemsT td) := by
  refine ⟨fun pins s σ H R I h => ?_⟩
  refine wpAny_Call_method (T := "dict") (id := "dict.items") hbase rfl hline F.plainAttrs_dict F.slot_dict_items F.type_dict_items (thn (he.run pins s σ H _ I h) fun u s1 ⟨x, H1, I1, rx, d, o, kvs, ex, hd, q⟩ => ?_)
  subst ex
  obtain rfl : u = Value.ref d := rx
  obtain ⟨hs, hgd, hx, es, ep, hdt, hsz, ent⟩ := frzTv I1 hd
  have raw : DT.Raw s1.heap d es ep := ⟨o, hgd, hx, hdt⟩
  refine ⟨raw.typeIs, fun b q => ?_, ?_⟩
  · cases q
    exact ⟨o, hgd, hx.2.1⟩
  have I2 : Inv X pins σ H1 { s1 with heap := s1.heap.push { cls := .type "dict_items", data := .fields #[.ref d] } } := I1.kept (t' := s1.toks) fun b ob q => Heap.get?_push_of_some _ q
  have fin : wpAny (model X.prog X.w) X.A (pyIter (.ref s1.heap.objs.size)) (PIE X pins σ (.Tuple elts kk tpos) R) X.xe { s1 with heap := s1.heap.push { cls := .type "dict_items", data := .fields #[.ref d] } } := by
    refine DT.iterI (d := d) ⟨_, Heap.get?_push_size _ rfl, rfl, rfl⟩ (raw.push _) (pi_one (tk := s1.toks) I2 _ (turn_itemsT _ hdt) ⟨.none, .none, ?_⟩ q)
    rw [← hsz]
    exact Heap.get?_push_size _ rfl
  show wpAny _ _ (callWith cpos (.builtin "dict.items") [.ref d] [] []) _ X.xe s1
  exact method_meetsIn F.slot_dict_items F.entry_dict_items rfl (PySem.evalArgs_none ⟨rfl, raw.typeIs, F.args_dict_items_1 _, _, DT.meetsItems (es := es) (ep := ep) hs, ⟨raw, fin⟩⟩)
end
section
variable {prog : Program} {w : World} {A : Around} {E : Value → Shared → Prop} {s : Shared} {T : String} {r d : Addr} {n : Nat} {P : Nat → Value → Prop} {OK : Heap → Prop}
theorem collect_src {R : List Value → Shared → Prop} (K : KdlSrc prog w T r d n P OK) (hh : A.handled = none) (hok : OK s.heap) (hn : n ≤ sizeLine)
    (h : ∀ (h' : Heap) (tk : Nat) (acc : Array Value), (∀ b o, s.heap.get? b = some o → h'.get? b = some o) → s.heap.objs.size < h'.objs.size → ItemsOf P acc n → R acc.toList { s with heap := h', toks := tk }) :
    wpAny (model prog w) A (collect (.ref r)) R E s := by
  obtain ⟨hr, hd⟩ := K.there _ hok
  unfold collect
  refine wpAny_bind (wpAny_runValue (codeAny_builtin entry_proto_collect' ?_))
  rw [Around.under_plainId PySem.F.plain_proto_collect _]
  show wpAny _ A.in1 (newList [] >>= fun l => again (.builtin "list.__iadd__" ⟨[l, .ref r], []⟩)) _ _ s
  refine wpAny_bind (wpAny_newObj_type ?_)
  refine wpAny_pure ⟨plainId_quiet PySem.F.plain_list_iadd _, codeAny_builtin entry_list_iadd' ?_⟩
  rw [Around.under_plainId PySem.F.plain_list_iadd _]
  have hS₁ : (s.heap.push { cls := .type "list", data := .seq ([] : List Value).toArray }).get? s.heap.objs.size = some { cls := .type "list", data := .seq #[] } := Heap.get?_push_size _ rfl
  show wpAny _ A.in1 (Builtin.List.listExtendWith (.ref s.heap.objs.size) (.ref r) (.ref s.heap.objs.size)) _ _ _
  have key := kdl_extend (A := A) (s := { s with heap := s.heap.push { cls := .type "list", data := .seq ([] : List Value).toArray } }) K
    (R := fun (q : Result) (s' : Shared) => ∃ (h' : Heap) (tk : Nat) (acc' : Array Value) (c' : Nat), q = .ok (.ret (.ref s.heap.objs.size)) ∧ s' = { s with heap := h', toks := tk } ∧
      (∀ b o, s.heap.get? b = some o → h'.get? b = some o) ∧ h'.get? s.heap.objs.size = some { cls := .type "list", dict := none, data := .seq acc' c', slots := #[] } ∧ ItemsOf P acc' n)
    hh (K.keep _ _ hok fun b _ o e => Heap.get?_push_of_some _ e) s.heap.objs.size (Nat.ne_of_gt hr) (Nat.ne_of_gt hd) (.ref s.heap.objs.size) 0 hS₁
    (fun h' tk acc' c' hk hS' it => ⟨h', tk, acc', c', rfl, rfl, fun b o e => hk b o (Nat.ne_of_lt (Heap.lt_size e)) (Heap.get?_push_of_some _ e), hS', it⟩) hn
  refine wpAny_mono key (fun fin s' x => ?_) fun e s' x => ?_
  · cases fin with
    | done f =>
      obtain ⟨h', tk, acc', c', e, rfl, hk, hS', it⟩ := x
      cases e
      show wpAny _ A (load s.heap.objs.size >>= _) _ _ _
      refine wpAny_bind (wpAny_load hS' ?_)
      refine wpAny_pure ?_
      exact h h' tk acc' hk (Heap.lt_size hS') it
    | again c₁ =>
      refine ⟨x.1, codeAny_mono x.2 fun q s₂ y => ?_⟩
      obtain ⟨h', tk, acc', c', rfl, rfl, hk, hS', it⟩ := y
      show wpAny _ A (load s.heap.objs.size >>= _) _ _ _
      refine wpAny_bind (wpAny_load hS' ?_)
      refine wpAny_pure ?_
      exact h h' tk acc' hk (Heap.lt_size hS') it
  · obtain ⟨_, _, _, _, e', _⟩ := x
    cases e'
/-- sorted of what is collected first -/
theorem sorted_src {Q : Value → Shared → Prop} (K : KdlSrc prog w T r d n P OK) (hh : A.handled = none) (hok : OK s.heap) (hn : n ≤ sizeLine)
    (h : ∀ (h' : Heap) (tk : Nat) (acc : Array Value), (∀ b o, s.heap.get? b = some o → h'.get? b = some o) → s.heap.objs.size < h'.objs.size → ItemsOf P acc n →
      wpAny (model prog w) A.in1 (call (.builtin "list.sort") [.ref h'.objs.size]) (fun _ s' => Q (.ref h'.objs.size) s') E { s with heap := h'.push { cls := .type "list", data := .seq acc.toList.toArray }, toks := tk }) :
    wpAny (model prog w) A (call (.builtin "sorted") [.ref r]) Q E s := by
  refine PySem.Calls.call_function_entry kind_sorted plain_sorted entry_sorted (args_sorted1 _) ?_
  unfold Builtin.«sorted»
  refine wpAny_bind (m := checkCount "sorted" 1 1 _) (wpAny_pure ?_)
  refine wpAny_bind (collect_src (A := A.in1) K hh hok hn fun h' tk acc hk hlt it => ?_)
  refine wpAny_bind (wpAny_newList ?_ (by rw [Array.length_toList, it.1]; exact hn))
  have hg := h h' tk acc hk hlt it
  refine wpAny_bind (wpAny_holding (wpAny_mono hg (fun _ s' x => ?_) fun _ _ e => e))
  exact wpAny_pure ⟨_, rfl, x⟩
end
/-! ### rules -/
/-- the view d.values() at p -/
def valsO (p d : Addr) : HO := .ext fun h => h.IsValuesView p d
theorem valsO_ok {P : Program} {w : World} {H : Hp} {h : Heap} {p d : Addr} (e : h.get? p = some { cls := .type "dict_values", data := .fields #[.ref d] }) : ObjOk P w H h p (valsO p d) :=
  ⟨⟨_, e, rfl, rfl⟩, ⟨_, e⟩, fun h1 h2 ⟨o, ho, x⟩ k => ⟨o, k o ho, x⟩⟩
def rValsT : V → List V → Hp → VK → Prop := fun x xs H Q => ∃ (a : Addr) (kvs : List (List L2.Key × V)), x = .ref a ∧ xs = [] ∧ H a = some (.dT kvs) ∧ ∀ p, H p = none → Q (.ref p) (upd H p (valsO p a))
def rListVT : List V → Hp → VK → Prop := fun vs H Q => ∃ (p a : Addr) (kvs : List (List L2.Key × V)), vs = [.ref p] ∧ H p = some (valsO p a) ∧ H a = some (.dT kvs) ∧ ∀ q, H q = none → Q (.ref q) (upd H q (.lst (kvs.map (·.2))))
/-- sorted(d): the keys -/
def rSortDT : List V → Hp → VK → Prop := fun vs H Q => ∃ (a : Addr) (kvs : List (List Int × V)), vs = [.ref a] ∧ H a = some (.dT (kvs.map fun p => (p.1.map Sum.inl, p.2))) ∧ kvs.length ≤ 100000 ∧ (∀ p ∈ kvs, p.1 ≠ []) ∧ AllAlike (kvs.map fun p => PyData.tuple (p.1.map PyData.int)) ∧
  ∀ (p : Addr) (bs : List (Addr × List Int)), H p = none → bs.map (·.2) = (kvs.map (·.1)).mergeSort (fun x y => dataLe false (fun z : List Int => PyData.tuple (z.map .int)) x y) → (∀ b ∈ bs, H b.1 = some (.tup (b.2.map V.int))) → Q (.ref p) (upd H p (.lst (bs.map fun b => V.ref b.1)))
section
variable {X : Cx}
theorem mt_valsT : MtR X "dict.values" rValsT := by
  intro pins s σ H x xs v us Q I rx rxs h
  obtain ⟨a, kvs, rfl, rfl, ha, q⟩ := h
  cases rx
  cases rxs
  obtain ⟨z, hd, xs', rel, o, es, ep, ho, hx, hdat, _⟩ := dt_of I.hok ha
  have raw : s.heap.DictRaw a es ep := ⟨o, ho, hx, hdat⟩
  have hf : H s.heap.objs.size = none := I.hok.fresh (Nat.le_refl _)
  refine call_meetsIn PySem.F.slot_dict_values raw.typeIs PySem.F.entry_dict_values (PySem.F.args_dict_values_1 _) (meets_dict_values_raw a hd) ⟨⟨es, ep, raw⟩, ?_⟩
  exact ⟨.ref s.heap.objs.size, upd H s.heap.objs.size (valsO s.heap.objs.size a), I.laid (t' := s.toks) (fun b u e => Heap.get?_push_of_some _ e) (Nat.le_refl _) (valsO_ok (Heap.get?_push_size _ rfl)), rfl, q _ hf⟩
theorem call_listVT (hc : X.calm = true) : CallR X (.type "list") rListVT := by
  intro pins s σ H xs us Q I r h
  obtain ⟨p, a, kvs, rfl, hp, ha, q⟩ := h
  obtain ⟨u, rfl, rx⟩ := r.one
  cases rx
  obtain ⟨z, hs, ks, pr, o, es, ep, ho, hx, hdt, he, hn⟩ := (show ObjOk X.prog X.w H s.heap a (.dT kvs) from I.hok a _ ha)
  have view : s.heap.IsValuesView p a := (I.hok p _ hp).1
  have l1 : es.size = ks.length := size_of_entries he
  have l2 : kvs.length = ks.length := Paired.length pr
  refine PySem.W.kdl_call (KdlSrc.rawValues (d := a) (es := es) (ep := ep)) (I.ok.hd hc) ⟨view, ⟨o, ho, hx, hdt⟩⟩ (by omega) fun h' tk acc' c' kp e it => ?_
  have rv : Vals (kvs.map (·.2)) acc'.toList := by
    refine vals_of_at (by
      have h1 : acc'.toList.length = es.size := by rw [Array.length_toList, it.1]
      rw [List.length_map, h1]; omega) fun j x u hx' hu => ?_
    rw [List.getElem?_map] at hx'
    obtain ⟨⟨k, v⟩, hk, rfl⟩ : ∃ p, kvs[j]? = some p ∧ p.2 = x := by
      cases hk : kvs[j]? with
      | none => rw [hk] at hx'; cases hx'
      | some p => rw [hk] at hx'; exact ⟨p, rfl, Option.some.inj hx'⟩
    obtain ⟨hi, hv⟩ := it.2 j u (by rw [← Array.getElem?_toList]; exact hu)
    obtain ⟨b, hb, _, _, rb⟩ := paired_get pr hk
    have qe := entry_at he j
    rw [hb, Array.getElem?_eq_getElem hi] at qe
    have e2 : es[j] = entryOfKey (tupleKind (mixKind X.prog X.w)) b := Option.some.inj qe
    rw [hv, e2]
    exact rb
  have hz : (kvs.map (·.2)).length ≤ sizeLine := by rw [List.length_map]; omega
  exact ⟨.ref s.heap.objs.size, _, I.laid (t' := tk) (o := .lst (kvs.map (·.2))) kp (Nat.le_refl _) ⟨hz, acc'.toList, c', rv, by rw [Array.toArray_toList]; exact e⟩, rfl, q _ (I.hok.fresh (Nat.le_refl _))⟩
theorem reads_ints {h : Heap} : ∀ {ns : List Int} {us : List Value}, Vals (ns.map V.int) us → ReadsAll h us (ns.map .int) []
  | [], _, .nil => .nil
  | n :: ns, _, .cons r t => by
    obtain ⟨k, rfl⟩ := (show ∃ t, _ = Value.int n t from r)
    exact ReadsAll.cons (as := []) (bs := []) (.int n k) (reads_ints t)
theorem reads_tup {h : Heap} {b : Addr} {ns : List Int} {its : List Value} (hv : Vals (ns.map V.int) its) (hi : IsTup h b its.toArray) : Reads h (.ref b) (.tuple (ns.map .int)) [] := by
  obtain ⟨o, ho, hc, n, hd⟩ := hi
  exact .tuple ho hc hd (by simpa using reads_ints hv)
theorem depth_ints (ns : List Int) : (PyData.tuple (ns.map PyData.int)).depth ≤ 8 := by
  have : ∀ l : List Int, PyData.depthAll (l.map PyData.int) ≤ 1 := fun l => by
    induction l with
    | nil => simp [PyData.depthAll]
    | cons x l ih => simp [PyData.depthAll, PyData.depth]; omega
  have := this ns
  simp [PyData.depth]; omega
theorem vals_each {bs0 : List (Addr × List Int)} : ∀ {us : List Value} {L : List (Addr × List Int)}, EachIs (fun v (b : Addr × List Int) => v = Value.ref b.1 ∧ b ∈ bs0) us L → Vals (L.map fun b => V.ref b.1) us
  | _, _, .nil => .nil
  | _, _, .cons r t => .cons r.1 (vals_each t)
theorem cr_sortDT (hc : X.calm = true) (hu : X.A.units + 64 < cLine) : CallR X (.builtin "sorted") rSortDT := by
  intro pins s σ H xs us Q I r h
  obtain ⟨a, kvs, rfl, ha, hsz, hne, hal, q⟩ := h
  obtain ⟨u, rfl, rx⟩ := r.one
  cases rx
  obtain ⟨z, hs, ks, pr, o, es, ep, ho, hx, hdt, he, hn⟩ := (show ObjOk X.prog X.w H s.heap a (.dT _) from I.hok a _ ha)
  have l1 : es.size = ks.length := size_of_entries he
  have l2 : (kvs.map fun p : List Int × V => (p.1.map (Sum.inl : Int → L2.Key), p.2)).length = ks.length := Paired.length pr
  rw [List.length_map] at l2
  -- the keys with their addresses
  let bs : List (Addr × List Int) := (ks.map fun x => x.2.1).zip (kvs.map (·.1))
  have hb1 : bs.map (·.1) = ks.map fun x => x.2.1 := List.map_fst_zip (by simp; omega)
  have hb2 : bs.map (·.2) = kvs.map (·.1) := List.map_snd_zip (by simp; omega)
  have hbl : bs.length = es.size := by simp [bs]; omega
  have hH : ∀ b ∈ bs, H b.1 = some (.tup (b.2.map V.int)) := fun b hb => by
    obtain ⟨j, hj⟩ := List.getElem?_of_mem hb
    have h1 : (ks.map fun x => x.2.1)[j]? = some b.1 := by rw [← hb1, List.getElem?_map, hj]; rfl
    have h2 : (kvs.map (·.1))[j]? = some b.2 := by rw [← hb2, List.getElem?_map, hj]; rfl
    rw [List.getElem?_map] at h2
    cases hk : kvs[j]? with
    | none => rw [hk] at h2; cases h2
    | some p =>
      rw [hk] at h2
      obtain ⟨c, hc1, e1, e2, _⟩ := paired_get pr (i := j) (a := (p.1.map (Sum.inl : Int → L2.Key), p.2)) (by rw [List.getElem?_map, hk]; rfl)
      rw [List.getElem?_map, hc1] at h1
      have e3 : c.2.1 = b.1 := Option.some.inj h1
      have e4 : p.1 = b.2 := Option.some.inj h2
      rw [← e3, ← e4, e2, List.map_map]; rfl
  refine sorted_src (kdl_raw hs hx hdt) (I.ok.hd hc) ho (by rw [sizeLine_eq]; omega) fun h' tk acc hk hlt it => ?_
  have ea : acc.toList = bs.map fun b => Value.ref b.1 := by
    apply List.ext_getElem?
    intro j
    rw [List.getElem?_map]
    by_cases hj : j < es.size
    · have hj1 : j < acc.toList.length := by rw [Array.length_toList, it.1]; exact hj
      obtain ⟨en, hen, hv⟩ := it.2 j acc.toList[j] (by rw [← Array.getElem?_toList]; exact List.getElem?_eq_getElem hj1)
      have qe := entry_at he j
      rw [hen] at qe
      have hb : (bs.map (·.1))[j]? = (ks.map fun x => x.2.1)[j]? := by rw [hb1]
      rw [List.getElem?_map, List.getElem?_map] at hb
      cases hc1 : ks[j]? with
      | none => rw [hc1] at qe; exact nomatch (show some en = none from qe)
      | some c =>
        rw [hc1] at qe hb
        have e2 : en = entryOfKey (tupleKind (mixKind X.prog X.w)) c := Option.some.inj qe
        rw [List.getElem?_eq_getElem hj1, hv, e2]
        cases hbj : bs[j]? with
        | none => rw [hbj] at hb; cases hb
        | some b =>
          rw [hbj] at hb
          have e5 : b.1 = c.2.1 := Option.some.inj hb
          show some (Value.ref c.2.1) = some (Value.ref b.1)
          rw [e5]
    · rw [List.getElem?_eq_none (by rw [Array.length_toList, it.1]; omega), List.getElem?_eq_none (by omega)]; rfl
  have key : ∀ b ∈ bs, ∃ its, Vals (b.2.map V.int) its ∧ IsTup s.heap b.1 its.toArray := fun b hb => by
    obtain ⟨_, its, rv, ht⟩ := (show ObjOk X.prog X.w H s.heap b.1 (.tup _) from I.hok _ _ (hH b hb))
    exact ⟨its, rv, ht⟩
  have hk2 : ∀ b ob, s.heap.get? b = some ob → (h'.push { cls := .type "list", data := .seq acc.toList.toArray }).get? b = some ob := fun b ob e => Heap.get?_push_of_some _ (hk b ob e)
  have hal' : AllAlike (bs.map fun b => PyData.tuple (b.2.map PyData.int)) := by
    have e : (bs.map fun b => PyData.tuple (b.2.map PyData.int)) = kvs.map fun p => PyData.tuple (p.1.map PyData.int) := by
      rw [show (bs.map fun b => PyData.tuple (b.2.map PyData.int)) = (bs.map (·.2)).map fun z => PyData.tuple (z.map PyData.int) by rw [List.map_map]; rfl, hb2, List.map_map]; rfl
    rw [e]; exact hal
  have hmem : ∀ b ∈ bs, b.2 ≠ [] := fun b hb => by
    have : b.2 ∈ kvs.map (·.1) := by rw [← hb2]; exact List.mem_map.mpr ⟨b, hb, rfl⟩
    obtain ⟨p, hp, e⟩ := List.mem_map.mp this
    rw [← e]; exact hne p hp
  have hsk : Sortable (bs.map fun b => PyData.tuple (b.2.map PyData.int)) := .inl fun d hd => by
    obtain ⟨b, hb, rfl⟩ := List.mem_map.mp hd
    cases e : b.2 with
    | nil => exact absurd e (hmem b hb)
    | cons x r => exact ⟨.int x, r.map .int, rfl⟩
  have each : ∀ {L : List (Addr × List Int)}, (∀ b ∈ L, b ∈ bs) → EachIs (fun v (b : Addr × List Int) => v = Value.ref b.1 ∧ b ∈ bs) (L.map fun b => Value.ref b.1) L := fun {L} => by
    induction L with
    | nil => exact fun _ => .nil
    | cons x L ih => exact fun h => .cons ⟨rfl, h x (.head _)⟩ (ih fun b hb => h b (.tail _ hb))
  have er : ∀ {g : Heap} (hg : ∀ b ob, s.heap.get? b = some ob → g.get? b = some ob) {L : List (Addr × List Int)}, (∀ b ∈ L, b ∈ bs) → EachIs (fun v (b : Addr × List Int) => ∃ as, Reads g v (PyData.tuple (b.2.map PyData.int)) as ∧ h'.objs.size ∉ as) (L.map fun b => Value.ref b.1) L := fun {g} hg {L} => by
    induction L with
    | nil => exact fun _ => .nil
    | cons x L ih =>
      refine fun h => .cons ?_ (ih fun b hb => h b (.tail _ hb))
      obtain ⟨its, rv, ht⟩ := key x (h x (.head _))
      exact ⟨[], reads_tup rv (let ⟨o, a1, a2⟩ := ht; ⟨o, hg _ _ a1, a2⟩), fun z => nomatch z⟩
  have ho2 : (h'.push { cls := .type "list", data := .seq acc.toList.toArray }).get? h'.objs.size = some (seqObj "list" acc.toList.toArray 0) := Heap.get?_push_size _ rfl
  refine list_sort_data (β := Addr × List Int) (bs := bs) (enc := fun b => PyData.tuple (b.2.map PyData.int)) (R := fun v b => v = Value.ref b.1 ∧ b ∈ bs) ho2 (by rw [ea]; exact each fun b h => h) (by have := er hk2 (L := bs) fun b h => h; rw [← ea] at this; exact this) hal' hsk (by rw [sizeLine_eq]; omega) (fun b hb => ?_) fun out hl hout => ?_
  · have h2 : (PyData.tuple (b.2.map PyData.int)).depth ≤ 8 := depth_ints b.2
    show X.A.units + 1 + 1 + (PyData.tuple (b.2.map PyData.int)).depth < cLine
    omega
  · obtain ⟨ep', hep⟩ := sortedHeap_at (vs := acc.toList) (out := out.toArray) ho2
    have hvs : Vals ((bs.mergeSort (dataLe false fun b => PyData.tuple (b.2.map PyData.int))).map fun b => V.ref b.1) out := vals_each hout
    have hlen : ((bs.mergeSort (dataLe false fun b : Addr × List Int => PyData.tuple (b.2.map PyData.int))).map fun b => V.ref b.1).length ≤ sizeLine := by
      rw [List.length_map, (List.mergeSort_perm _ _).length_eq, sizeLine_eq]; omega
    have hkk : ∀ b ob, s.heap.get? b = some ob → (sortedHeap (h'.push { cls := .type "list", data := .seq acc.toList.toArray }) h'.objs.size acc.toList out.toArray).get? b = some ob := fun b ob e => by
      have hb := Heap.lt_size e
      rw [sortedHeap_old (Nat.ne_of_lt (Nat.lt_trans hb hlt)) (Nat.lt_trans (Nat.lt_trans hb hlt) (Heap.lt_size ho2))]
      exact hk2 b ob e
    refine ⟨.ref h'.objs.size, _, I.laid (t' := tk) (o := .lst ((bs.mergeSort (dataLe false fun b => PyData.tuple (b.2.map PyData.int))).map fun b => V.ref b.1)) hkk (Nat.le_of_lt hlt) ⟨hlen, out, ep', hvs, hep⟩, rfl, q _ _ (I.hok.fresh (Nat.le_of_lt hlt)) ?_ fun b hb => hH b ((List.mergeSort_perm _ _).mem_iff.mp hb)⟩
    exact (List.map_mergeSort (f := fun b : Addr × List Int => b.2) (r := dataLe false fun b : Addr × List Int => PyData.tuple (b.2.map PyData.int)) (s := fun x y => dataLe false (fun z : List Int => PyData.tuple (z.map .int)) x y) (fun _ _ _ _ => rfl)).trans (by rw [hb2])
/-- {t: v} -/
theorem pe_dispT1 {ke ve : Expr} {pos : Pos} {tk tv : TE} (hu : X.A.units + 64 < cLine) (hk : PE X ke tk) (hv : PE X ve tv) : PE X (.Dict [some ke] [ve] pos) (tDispT1 tk tv) := by
  refine ⟨fun pins s σ H Q I q => ?_⟩
  have hn := I.hok.fresh (Nat.le_refl s.heap.objs.size)
  have I1 := I.laid (a := s.heap.objs.size) (o := .dT []) (h' := s.heap.push { cls := .type "dict", data := .dict #[] }) (t' := s.toks) (fun _ _ q => Heap.get?_push_of_some _ q) (Nat.le_refl _) (dt_empty s.heap I.big)
  have hpp := pps_cons hk hv (pps_nil (X := X) (pos := pos))
  have hshape := zip_pairTrees [some ke] [ve] X.env pos rfl rfl
  have hpl := pairTrees_length [some ke] [ve] X.env pos rfl rfl
  rw [arm_eval_Dict, hshape, dictDisplay_pairs _ (fun z => by rw [z] at hpl; cases hpl) (by rw [hpl]; exact Nat.le_of_ble_eq_true rfl)]
  refine wpAny_bind (wpAny_standAt (wpAny_bind (wpAny_subDictH (knd := tupleKind (mixKind X.prog X.w)) (show X.A.units < cLine by omega) (by rw [hpl]; exact Nat.le_of_ble_eq_true rfl) (thn (hpp.run pins _ σ _ (fun ps H3 => ∃ x y, ps = [(x, y)] ∧ H3 s.heap.objs.size = some (.dT []) ∧ ∃ b k, x = .ref b ∧ H3 b = some (.tup (k.map kV)) ∧ Q (.ref s.heap.objs.size) (upd H3 s.heap.objs.size (.dT [(k, y)]))) I1 ?_) fun ws s2 ⟨ps, H2, I2, rel, q2⟩ => ?_))))
  · exact q _ hn
  · obtain ⟨x, y, rfl, e, b, k, rfl, eb, q3⟩ := q2
    cases rel with
    | @cons _ pq _ _ r t =>
      cases t
      obtain ⟨u, w'⟩ := pq
      obtain rfl : u = Value.ref b := r.1
      obtain ⟨z, hd, xs0, r0, dd⟩ := dt_of I2.hok e
      cases r0
      refine ⟨[(k, b, w')], ⟨rfl, rfl, key_of I2.hok eb, True.intro⟩, dd, fun h' tk' dd' hs => wpAny_pure ⟨.ref s.heap.objs.size, _, ?_, rfl, q3⟩⟩
      obtain ⟨ob, es, ep, hq, h2, h3, h4, _, h5⟩ := dd'
      refine d_write I2 (by rw [e]; exact True.intro) hs ⟨ob, hq⟩ ⟨by rw [sizeLine_eq]; simp, hd, [(k, b, w')], .cons ⟨rfl, ?_, r.2⟩ .nil, ob, es, ep, hq, h2, h3, h4, h5⟩
      rw [upd_ne (ne_of eb e (fun z => nomatch z))]
      exact eb
end
end Lr
end
section
set_option Elab.async false
set_option linter.all false
set_option maxRecDepth 100000
/-! dict(zip(s, t)), s and t tuples. -/
namespace Lr
open PySem PySem.Spec PyProof.Rows L2 PySem.W
section
variable {prog : Program} {w : World} {A : Around} {E : Value → Shared → Prop} {s : Shared}
theorem zpT_item {z TI TO T i1 i2 l1 l2 : Addr} {f : Bool} {oT : Obj} {k1 k2 : Nat} {xs ys : Array Value} {x y : Value} {Q : Value → Shared → Prop} (D : ZipApart z TI TO i1 i2 l1 l2)
    (hz : IsZipHeld s.heap z TI TO T f) (hT : s.heap.get? T = some oT) (hTI : IsPair s.heap TI (.ref i1) (.ref i2))
    (h1 : s.heap.IsTupleIter i1 l1 k1) (h2 : s.heap.IsTupleIter i2 l2 k2) (hl1 : s.heap.IsTuple l1 xs) (hl2 : s.heap.IsTuple l2 ys) (hx : xs[k1]? = some x) (hy : ys[k2]? = some y)
    (hQ : ∀ h', IsZipHeld h' z TI TO T true → h'.IsTupleIter i1 l1 (k1 + 1) → h'.IsTupleIter i2 l2 (k2 + 1) → IsPair h' s.heap.objs.size x y → h'.objs.size = s.heap.objs.size + 1 →
      (∀ c o, c ≠ z → c ≠ i1 → c ≠ i2 → s.heap.get? c = some o → h'.get? c = some o) → Q (.ref s.heap.objs.size) { s with heap := h' }) :
    wpAny (model prog w) A (Builtin.«zip.__next__» ⟨[.ref z], []⟩) (fun fin s' => ∃ v, fin = .done (.ret v) ∧ Q v s') E s := by
  show wpAny _ _ (field (.ref z) 2 >>= _) _ _ _
  refine wpAny_bind (wpAny_field hz rfl (x := .bool false) rfl ?_)
  show wpAny _ _ (field (.ref z) 3 >>= _) _ _ _
  refine wpAny_bind (wpAny_field hz rfl (x := .ref TI) rfl ?_)
  refine wpAny_bind (wpAny_seqItems hTI rfl ?_)
  show wpAny _ _ (Builtin.SmallTypes.ownedTupleIsFree (.ref z) >>= _) _ _ _
  refine wpAny_bind (wpAny_tupleHeld_zip hz hT fun h₁ hz₁ hs₁ => ?_)
  simp only [Bool.false_eq_true, if_false]
  refine wpAny_bind ?_
  rw [← Array.forIn_toList]
  simp only [List.forIn_cons, List.forIn_nil]
  refine wpAny_bind (wpAny_bind (wpAny_holding ?_))
  show wpAny _ _ (Builtin.SmallTypes.nextOf (.ref i1) >>= _) _ _ _
  refine wpAny_bind (RZ.nextOf_tuple_item (s := { s with heap := h₁ }) (h1.extBut hs₁.extBut D.i1z) (hl1.extBut hs₁.extBut D.l1z) hx fun h₂ h1₂ hs₂ => wpAny_pure ?_)
  refine wpAny_pure ?_
  refine wpAny_bind (wpAny_bind (wpAny_holding ?_))
  show wpAny _ _ (Builtin.SmallTypes.nextOf (.ref i2) >>= _) _ _ _
  refine wpAny_bind (RZ.nextOf_tuple_item (s := { s with heap := h₂ }) ((h2.extBut hs₁.extBut D.i2z).extBut hs₂.extBut D.i12.symm) ((hl2.extBut hs₁.extBut D.l2z).extBut hs₂.extBut D.l2i1) hy fun h₃ h2₃ hs₃ => wpAny_pure ?_)
  refine wpAny_pure (wpAny_pure ?_)
  show wpAny _ _ (newTuple [x, y] >>= _) _ _ _
  refine wpAny_bind (wpAny_newTuple ?_)
  have hsz : h₃.objs.size = s.heap.objs.size := by rw [hs₃.1, hs₂.1, hs₁.1]
  have hz₃ : IsZipHeld h₃ z TI TO T true := hs₃.extBut _ _ D.i2z.symm (hs₂.extBut _ _ D.i1z.symm hz₁)
  have hk : ∀ c o, c ≠ z → c ≠ i1 → c ≠ i2 → s.heap.get? c = some o → h₃.get? c = some o := fun c o c1 c2 c3 e => hs₃.extBut _ _ c3 (hs₂.extBut _ _ c2 (hs₁.extBut _ _ c1 e))
  have h1₃ : h₃.IsTupleIter i1 l1 (k1 + 1) := h1₂.extBut hs₃.extBut D.i12
  refine wpAny_pure ⟨_, rfl, ?_⟩
  show Q (.ref h₃.objs.size) _
  have hp : IsPair (h₃.push { cls := .type "tuple", data := .seq #[x, y] }) h₃.objs.size x y := Heap.get?_push_size _ rfl
  have hz4 : (h₃.push { cls := .type "tuple", data := .seq #[x, y] }).objs.size = h₃.objs.size + 1 := Heap.size_push ..
  rw [hsz] at hp hz4 ⊢
  exact hQ _ (Heap.get?_push_of_some _ hz₃) (h1₃.at fun o e => Heap.get?_push_of_some _ e) (h2₃.at fun o e => Heap.get?_push_of_some _ e) hp hz4 fun c o c1 c2 c3 e => Heap.get?_push_of_some _ (hk c o c1 c2 c3 e)

theorem zpT_end {z TI TO T i1 i2 l1 l2 : Addr} {f : Bool} {oT : Obj} {k1 k2 : Nat} {xs ys : Array Value} {Q : Fin → Shared → Prop} (hh : A.handled = none) (D : ZipApart z TI TO i1 i2 l1 l2)
    (hz : IsZipHeld s.heap z TI TO T f) (hT : s.heap.get? T = some oT) (hTI : IsPair s.heap TI (.ref i1) (.ref i2))
    (h1 : s.heap.IsTupleIter i1 l1 k1) (h2 : s.heap.IsTupleIter i2 l2 k2) (hl1 : s.heap.IsTuple l1 xs) (hl2 : s.heap.IsTuple l2 ys) (hend : xs[k1]? = none ∨ ys[k2]? = none)
    (hE : ∀ h' e, (∀ c o, c ≠ z → c ≠ i1 → c ≠ i2 → s.heap.get? c = some o → h'.get? c = some o) → (∃ o, h'.get? e = some o ∧ o.cls = .type "StopIteration") → E (.ref e) { s with heap := h' }) :
    wpAny (model prog w) A (Builtin.«zip.__next__» ⟨[.ref z], []⟩) Q E s := by
  show wpAny _ _ (field (.ref z) 2 >>= _) _ _ _
  refine wpAny_bind (wpAny_field hz rfl (x := .bool false) rfl ?_)
  show wpAny _ _ (field (.ref z) 3 >>= _) _ _ _
  refine wpAny_bind (wpAny_field hz rfl (x := .ref TI) rfl ?_)
  refine wpAny_bind (wpAny_seqItems hTI rfl ?_)
  show wpAny _ _ (Builtin.SmallTypes.ownedTupleIsFree (.ref z) >>= _) _ _ _
  refine wpAny_bind (wpAny_tupleHeld_zip hz hT fun h₁ hz₁ hs₁ => ?_)
  simp only [Bool.false_eq_true, if_false]
  refine wpAny_bind ?_
  rw [← Array.forIn_toList]
  simp only [List.forIn_cons, List.forIn_nil]
  refine wpAny_bind (wpAny_bind (wpAny_holding ?_))
  show wpAny _ _ (Builtin.SmallTypes.nextOf (.ref i1) >>= _) _ _ _
  cases hx : xs[k1]? with
  | none =>
    refine wpAny_bind (RZ.nextOf_tuple_end (s := { s with heap := h₁ }) hh (h1.extBut hs₁.extBut D.i1z) (hl1.extBut hs₁.extBut D.l1z) hx fun h₂ e hs₂ he => ?_)
    exact hE h₂ e (fun c o c1 c2 _ x => hs₂ _ _ c2 (hs₁.extBut _ _ c1 x)) he
  | some x =>
    have hy : ys[k2]? = none := by rcases hend with h | h; rw [hx] at h; cases h; exact h
    refine wpAny_bind (RZ.nextOf_tuple_item (s := { s with heap := h₁ }) (h1.extBut hs₁.extBut D.i1z) (hl1.extBut hs₁.extBut D.l1z) hx fun h₂ h1₂ hs₂ => wpAny_pure ?_)
    refine wpAny_pure ?_
    refine wpAny_bind (wpAny_bind (wpAny_holding ?_))
    show wpAny _ _ (Builtin.SmallTypes.nextOf (.ref i2) >>= _) _ _ _
    refine wpAny_bind (RZ.nextOf_tuple_end (s := { s with heap := h₂ }) hh ((h2.extBut hs₁.extBut D.i2z).extBut hs₂.extBut D.i12.symm) ((hl2.extBut hs₁.extBut D.l2z).extBut hs₂.extBut D.l2i1) hy fun h₃ e hs₃ he => ?_)
    exact hE h₃ e (fun c o c1 c2 c3 x => hs₃ _ _ c3 (hs₂.extBut _ _ c2 (hs₁.extBut _ _ c1 x))) he

theorem zpT_nextItem {z TI TO T i1 i2 l1 l2 : Addr} {f : Bool} {oT : Obj} {k1 k2 : Nat} {xs ys : Array Value} {x y : Value} {Q : Option Value → Shared → Prop} (D : ZipApart z TI TO i1 i2 l1 l2)
    (hz : IsZipHeld s.heap z TI TO T f) (hT : s.heap.get? T = some oT) (hTI : IsPair s.heap TI (.ref i1) (.ref i2))
    (h1 : s.heap.IsTupleIter i1 l1 k1) (h2 : s.heap.IsTupleIter i2 l2 k2) (hl1 : s.heap.IsTuple l1 xs) (hl2 : s.heap.IsTuple l2 ys) (hx : xs[k1]? = some x) (hy : ys[k2]? = some y)
    (hQ : ∀ h', IsZipHeld h' z TI TO T true → h'.IsTupleIter i1 l1 (k1 + 1) → h'.IsTupleIter i2 l2 (k2 + 1) → IsPair h' s.heap.objs.size x y → h'.objs.size = s.heap.objs.size + 1 →
      (∀ c o, c ≠ z → c ≠ i1 → c ≠ i2 → s.heap.get? c = some o → h'.get? c = some o) → Q (some (.ref s.heap.objs.size)) { s with heap := h' }) :
    wpAny (model prog w) A (pyNext (.ref z)) Q E s := by
  have hTy : s.TypeIs (.ref z) "zip" := ⟨_, hz, rfl⟩
  unfold pyNext
  exact wpAny_bind (wpAny_attempt (wpAny_callSpecial?_slot (name := Str.ofString "__next__") hTy F.slot_zip_next
    (wpAny_call_entry F.slot_zip_next hTy F.entry_zip_next
      (zpT_item D hz hT hTI h1 h2 hl1 hl2 hx hy fun h' a1 a3 a4 a5 a6 a7 => wpAny_pure (hQ h' a1 a3 a4 a5 a6 a7)) (F.args_zip_next_1 _))))
theorem zpT_nextEnd {z TI TO T i1 i2 l1 l2 : Addr} {f : Bool} {oT : Obj} {k1 k2 : Nat} {xs ys : Array Value} {Q : Option Value → Shared → Prop} (hh : A.handled = none) (D : ZipApart z TI TO i1 i2 l1 l2)
    (hz : IsZipHeld s.heap z TI TO T f) (hT : s.heap.get? T = some oT) (hTI : IsPair s.heap TI (.ref i1) (.ref i2))
    (h1 : s.heap.IsTupleIter i1 l1 k1) (h2 : s.heap.IsTupleIter i2 l2 k2) (hl1 : s.heap.IsTuple l1 xs) (hl2 : s.heap.IsTuple l2 ys) (hend : xs[k1]? = none ∨ ys[k2]? = none)
    (hQ : ∀ h', (∀ c o, c ≠ z → c ≠ i1 → c ≠ i2 → s.heap.get? c = some o → h'.get? c = some o) → Q none { s with heap := h' }) : wpAny (model prog w) A (pyNext (.ref z)) Q E s := by
  have hTy : s.TypeIs (.ref z) "zip" := ⟨_, hz, rfl⟩
  unfold pyNext
  refine wpAny_bind (wpAny_attempt (wpAny_callSpecial?_slot (name := Str.ofString "__next__") hTy F.slot_zip_next
    (wpAny_call_entry F.slot_zip_next hTy F.entry_zip_next (zpT_end hh D hz hT hTI h1 h2 hl1 hl2 hend fun h' e hk he => ?_) (F.args_zip_next_1 _))))
  obtain ⟨o, ho, hc⟩ := he
  refine wpAny_bind (wpAny_isInstance (T := "StopIteration") (b := true) ⟨o, ho, hc⟩ isSubtype_stop ?_)
  exact wpAny_pure (hQ _ hk)

theorem pairArg_zipT (z TI TO i1 i2 l1 l2 : Addr) (D : ZipApart z TI TO i1 i2 l1 l2) (xs ys : Array Value) :
    PairArg prog w "zip" z [z, TI, TO, i1, i2, l1, l2] [z, TO, i1, i2] (min xs.size ys.size) (fun i k v => xs[i]? = some k ∧ ys[i]? = some v)
      (fun h => IsZip h z TI TO .none ∧ IsPair h TI (.ref i1) (.ref i2) ∧ (∃ a b, IsPair h TO a b) ∧ h.IsTupleIter i1 l1 0 ∧ h.IsTupleIter i2 l2 0 ∧ h.IsTuple l1 xs ∧ h.IsTuple l2 ys) where
  type := fun s ok => ⟨_, ok.1, rfl⟩
  notDict := by decide
  keep := fun h h' ok hk => by
    obtain ⟨hz, hTI, ⟨a, b, hTO⟩, h1, h2, hl1, hl2⟩ := ok
    exact ⟨hk _ _ hz, hk _ _ hTI, ⟨a, b, hk _ _ hTO⟩, h1.at fun o e => hk _ o e, h2.at fun o e => hk _ o e, hl1.at fun o e => hk _ o e, hl2.at fun o e => hk _ o e⟩
  there := fun h ok b hb => by
    obtain ⟨hz, hTI, ⟨a, c, hTO⟩, ⟨o1, h1, _⟩, ⟨o2, h2, _⟩, ⟨o3, hl1, _⟩, ⟨o4, hl2, _⟩⟩ := ok
    simp only [List.mem_cons, List.not_mem_nil, or_false] at hb
    rcases hb with rfl | rfl | rfl | rfl | rfl | rfl | rfl
    all_goals first | exact ⟨_, hz⟩ | exact ⟨_, hTI⟩ | exact ⟨_, hTO⟩ | exact ⟨_, h1⟩ | exact ⟨_, h2⟩ | exact ⟨_, hl1⟩ | exact ⟨_, hl2⟩
  sub := fun b hb => by simp at hb ⊢; rcases hb with rfl | rfl | rfl | rfl <;> simp
  noKeys := fun A s Q E hA ok h => getAttrOr_miss_zip ok.1 rfl rfl rfl zip_no_keys (by decide +kernel) hA h
  iter := fun A s d Q E hA ok hd hdf h => by
    obtain ⟨hz, hTI, ⟨a, b, hTO⟩, h1, h2, hl1, hl2⟩ := ok
    simp only [List.mem_cons, List.not_mem_nil, or_false, not_or] at hdf
    obtain ⟨dz, dTI, dTO, di1, di2, dl1, dl2⟩ := hdf
    refine wpAny_pyIter_zip hz (h z [z, TO, i1, i2] (fun i h => IsPair h TI (.ref i1) (.ref i2) ∧ h.IsTupleIter i1 l1 i ∧ h.IsTupleIter i2 l2 i ∧ h.IsTuple l1 xs ∧ h.IsTuple l2 ys ∧
      ((IsZip h z TI TO .none ∧ ∃ a b, IsPair h TO a b) ∨ ∃ T f oT, IsZipHeld h z TI TO T f ∧ h.get? T = some oT ∧ T ≠ z ∧ T ≠ i1 ∧ T ≠ i2 ∧ T ≠ d)) s.heap s.toks ?_
      ⟨hTI, h1, h2, hl1, hl2, .inl ⟨hz, a, b, hTO⟩⟩ (fun _ _ e => e) fun b hb => .inl hb)
    exact {
      off := fun hm => by
        simp only [List.mem_cons, List.not_mem_nil, or_false] at hm
        rcases hm with e | e | e | e
        · exact dz e
        · exact dTO e
        · exact di1 e
        · exact di2 e
      frame := fun i h₁ h₂ st hk => by
        obtain ⟨hTI, h1, h2, hl1, hl2, hz⟩ := st
        refine ⟨hk _ _ (Ne.symm dTI) hTI, h1.at fun o e => hk _ o (Ne.symm di1) e, h2.at fun o e => hk _ o (Ne.symm di2) e, hl1.at fun o e => hk _ o (Ne.symm dl1) e, hl2.at fun o e => hk _ o (Ne.symm dl2) e, ?_⟩
        rcases hz with ⟨hz, a, b, hTO⟩ | ⟨T, f, oT, hz, hT, r1, r2, r3, r4⟩
        · exact .inl ⟨hk _ _ (Ne.symm dz) hz, a, b, hk _ _ (Ne.symm dTO) hTO⟩
        · exact .inr ⟨T, f, oT, hk _ _ (Ne.symm dz) hz, hk _ _ r4 hT, r1, r2, r3, r4⟩
      item := fun i s₁ Q₁ E₁ hi st hds hQ => by
        obtain ⟨hTI, h1, h2, hl1, hl2, hz⟩ := st
        have hix : i < xs.size := Nat.lt_of_lt_of_le hi (Nat.min_le_left ..)
        have hiy : i < ys.size := Nat.lt_of_lt_of_le hi (Nat.min_le_right ..)
        have ex := Array.getElem?_eq_getElem hix
        have ey := Array.getElem?_eq_getElem hiy
        have lt : ∀ {c o}, s₁.heap.get? c = some o → s₁.heap.objs.size ≠ c := fun e => Nat.ne_of_gt (Heap.lt_size e)
        have n1 : s₁.heap.objs.size ≠ i1 := let ⟨_, e, _⟩ := h1; lt e
        have n2 : s₁.heap.objs.size ≠ i2 := let ⟨_, e, _⟩ := h2; lt e
        rcases hz with ⟨hz, a, b, hTO⟩ | ⟨T, f, oT, hz, hT, r1, r2, r3, r4⟩
        · refine RZ.pyNext_zipT_item D hz hTI hTO h1 h2 hl1 hl2 ex ey fun h' a1 a2 a3 a4 a5 a6 hk => ?_
          exact hQ s₁.heap.objs.size _ _ h' s₁.toks ⟨ex, ey⟩ (.inl ⟨_, a5, rfl, _, rfl⟩)
            ⟨hk _ _ D.TIz D.TITO D.TIi1 D.TIi2 hTI, a3, a4, hl1.at fun o e => hk _ o D.l1z D.l1TO D.l1i1 D.l1i2 e, hl2.at fun o e => hk _ o D.l2z D.l2TO D.l2i1 D.l2i2 e,
              .inr ⟨s₁.heap.objs.size, false, _, a1, a5, lt hz, n1, n2, Nat.ne_of_gt hds⟩⟩
            fun c o hc e => hk c o (fun x => hc (by simp [x])) (fun x => hc (by simp [x])) (fun x => hc (by simp [x])) (fun x => hc (by simp [x])) e
        · refine zpT_nextItem D hz hT hTI h1 h2 hl1 hl2 ex ey fun h' a1 a3 a4 a5 a6 hk => ?_
          exact hQ s₁.heap.objs.size _ _ h' s₁.toks ⟨ex, ey⟩ (.inl ⟨_, a5, rfl, _, rfl⟩)
            ⟨hk _ _ D.TIz D.TIi1 D.TIi2 hTI, a3, a4, hl1.at fun o e => hk _ o D.l1z D.l1i1 D.l1i2 e, hl2.at fun o e => hk _ o D.l2z D.l2i1 D.l2i2 e,
              .inr ⟨T, true, oT, a1, hk _ _ r1 r2 r3 hT, r1, r2, r3, r4⟩⟩
            fun c o hc e => hk c o (fun x => hc (by simp [x])) (fun x => hc (by simp [x])) (fun x => hc (by simp [x])) e
      done := fun s₁ Q₁ E₁ st hQ => by
        obtain ⟨hTI, h1, h2, hl1, hl2, hz⟩ := st
        have hend : xs[min xs.size ys.size]? = none ∨ ys[min xs.size ys.size]? = none := by
          rcases Nat.le_total xs.size ys.size with h | h
          · exact .inl (Array.getElem?_eq_none (by rw [Nat.min_eq_left h]; exact Nat.le_refl _))
          · exact .inr (Array.getElem?_eq_none (by rw [Nat.min_eq_right h]; exact Nat.le_refl _))
        rcases hz with ⟨hz, a, b, hTO⟩ | ⟨T, f, oT, hz, hT, r1, r2, r3, r4⟩
        · exact RZ.pyNext_zipT_end hA D hz hTI hTO h1 h2 hl1 hl2 hend fun h' hk => hQ h' s₁.toks fun c o hc e => hk c o (fun x => hc (by simp [x])) (fun x => hc (by simp [x])) (fun x => hc (by simp [x])) (fun x => hc (by simp [x])) e
        · exact zpT_nextEnd hA D hz hT hTI h1 h2 hl1 hl2 hend fun h' hk => hQ h' s₁.toks fun c o hc e => hk c o (fun x => hc (by simp [x])) (fun x => hc (by simp [x])) (fun x => hc (by simp [x])) e }


end
/-- int keys with their values -/
abbrev intK (ks : List Int) (vs : List V) : List (L2.Key × V) := (ks.map Sum.inl).zip vs
/-- dict(zip(s, t)): ints, anything, both tuples of one length -/
def tDictZip (K : PySem.W.Frag) (ta : TA) : TE := fun σ H Q => ta σ H fun vs H1 => ∃ a b ks ys, vs = [.ref a, .ref b] ∧ SqT K H1 a (ks.map V.int) ∧ SqT K H1 b ys ∧ ks.length = ys.length ∧ ∀ p, H1 p = none → Q (.ref p) (upd H1 p (.dK (mergeK [] (intK ks ys))))
section
variable {X : Cx}
theorem kv_zip : ∀ {ks : List Int} {ys : List V} {us ws : List Value}, Vals (ks.map V.int) us → Vals ys ws → ks.length = ys.length → KV (intK ks ys) ((ks.map (Sum.inl : Int → L2.Key)).zip ws)
  | [], [], _, _, .nil, .nil, _ => .nil
  | k :: ks, y :: ys, _, _, .cons r t, .cons r' t', h => .cons ⟨rfl, r'⟩ (kv_zip t t' (by simpa using h))
theorem zip_have : ∀ {ks : List Int} {us ws : List Value}, Vals (ks.map V.int) us → us.length = ws.length → ∀ (i : Nat) (key v : Value), us[i]? = some key → ws[i]? = some v → ∃ k, ((ks.map (Sum.inl : Int → L2.Key)).zip ws)[i]? = some (k, v) ∧ (mixKind X.prog X.w).is k key = true
  | [], _, _, .nil, _, i, key, v, h, _ => by simp at h
  | k :: ks, _, w :: ws, .cons r t, hl, 0, key, v, h1, h2 => by
    simp at h1 h2; subst h1 h2
    exact ⟨.inl k, rfl, kV_is (k := Sum.inl k) r⟩
  | k :: ks, _, w :: ws, .cons r t, hl, i + 1, key, v, h1, h2 => by
    obtain ⟨k', e, e2⟩ := zip_have t (by simpa using hl) i key v (by simpa using h1) (by simpa using h2)
    exact ⟨k', by simpa using e, e2⟩
  | k :: ks, _, [], .cons r t, hl, _, _, _, _, _ => by simp at hl
theorem pe_dictZipT {e e2 : Expr} {ta : TA} {p pos p2 pos2 : Pos} (hc : X.calm = true) (hg : Gl X "dict") (hm : X.mg "dict" = none) (hgz : Gl X "zip") (hmz : X.mg "zip" = none) (ha : PA X [e, e2] ta)
    (na : starEach [.Call (.Name "zip" p2) [e, e2] [] pos2] X.env = (false, eval (.Call (.Name "zip" p2) [e, e2] [] pos2) X.env) :: starEach [] X.env := by rfl)
    (hs : starEach [e, e2] X.env = (false, eval e X.env) :: starEach [e2] X.env := by rfl) (hpl : (backTo pos2 (starEach [e2] X.env)).any (·.1) = false := by rfl) :
    PE X (.Call (.Name "dict" p) [.Call (.Name "zip" p2) [e, e2] [] pos2] [] pos) (tDictZip X.K ta) := by
  refine ⟨fun pins s σ H Q I h => ?_⟩
  refine Call_ (ld_blt I hg hm PyProof.Rows.boot_dict (PyProof.Rows.callWith_type1 (args_cons ?_ na) na))
  refine Call_ (ld_blt I hgz hmz PyProof.Rows.boot_zip (PyProof.Rows.callWith_type1 (thn (ha.run pos2 pins s σ H _ I h) fun us s1 ⟨vs, H1, I1, r1, q1⟩ => ?_) hs hpl))
  obtain ⟨a, b, ks, ys, rfl, h1, h2, hl, q⟩ := q1
  cases r1 with
  | cons r rr =>
    cases rr with
    | cons r' rr =>
      cases rr
      cases r
      cases r'
      obtain ⟨us, ru, p1, z1⟩ := I1.tuple h1
      obtain ⟨ws, rw', p2, z2⟩ := I1.tuple h2
      obtain ⟨o1, ho1, _⟩ := id p1
      obtain ⟨o2, ho2, _⟩ := id p2
      have hlu : us.length = ws.length := by rw [← ru.length, ← rw'.length, List.length_map]; exact hl
      have ap := PySem.W.ktu_apart s1.heap.objs.size a b (Heap.lt_size ho1) (Heap.lt_size ho2)
      refine RZ.call_zipT (show s1.heap.IsTuple a us.toArray from p1) (show s1.heap.IsTuple b ws.toArray from p2) fun h' hz hTI hTO i1 i2 hsz hk => args_nil ?_
      have P := pairArg_zipT (prog := X.prog) (w := X.w) _ _ _ _ _ a b ap us.toArray ws.toArray
      refine call_dict_pairs (knd := mixKind X.prog X.w) (kvs := (ks.map (Sum.inl : Int → L2.Key)).zip ws) P (I1.ok.hd hc) ⟨hz, hTI, ⟨_, _, hTO⟩, i1, i2, p1.keeps hk, p2.keeps hk⟩ ⟨?_, ?_⟩ ?_ fun h'' tk dd kp => ?_
      · rw [List.length_zip, List.length_map, List.size_toArray, List.size_toArray, ← hlu, Nat.min_self, ← ru.length, List.length_map, Nat.min_eq_left]
        rw [hl, rw'.length]; exact Nat.le_refl _
      · rintro i key v ⟨e1, e2⟩
        exact zip_have ru hlu i key v (by simpa using e1) (by simpa using e2)
      · rw [List.size_toArray, List.size_toArray, ← hlu, Nat.min_self, ← ru.length]; exact z1
      · have hle : s1.heap.objs.size ≤ h'.objs.size := by rw [hsz]; exact Nat.le_add_right _ _
        have kvr := kv_zip ru rw' hl
        have hz2 : (mergeK [] (intK ks ys)).length ≤ sizeLine := by
          have h1 := length_mergeK (intK ks ys) []
          have h2 : (intK ks ys).length = ks.length := by simp [intK]; omega
          rw [List.length_map] at z1
          simp at h1
          omega
        refine ⟨.ref h'.objs.size, _, I1.laid (t' := tk) (o := .dK (mergeK [] (intK ks ys))) (fun b ob e => kp b ob (fun hw => ?_) (hk b ob e)) hle (dk_new hz2 ?_ (kvr.merge .nil) dd), rfl, q _ (I1.hok.fresh hle)⟩
        · have := Heap.lt_size e
          simp only [List.mem_cons, List.not_mem_nil, or_false] at hw
          rcases hw with hw | hw | hw | hw <;> (rw [hw] at this; exact absurd this (Nat.not_lt.mpr (by first | exact Nat.le_add_right _ _ | exact Nat.le_refl _)))
        · have hb := I1.big
          exact beq_false_of_ne (Nat.ne_of_gt (Nat.lt_of_lt_of_le hb hle))
end
theorem lt1 {a c : Nat} (h : a + 64 < c) : a + 1 < c := by omega
end Lr
end
section
set_option Elab.async false
set_option linter.all false
set_option maxRecDepth 100000
/-! Dicts of one's own over slots of data. -/
namespace Lg
open PySem L2 Lr
variable [tbs : Tbs]
theorem tab_updX {H : Hp} {l : Addr} {w u : HO} (h : H l = some w) (nt : NT w) (nx : ∀ φ, w ≠ .ext φ) {P : Addr} {q : Str} (t : LamX.TabS H P q) : LamX.TabS (upd H l u) P q := by
  obtain ⟨ps, h1, h2, h3⟩ := t
  refine ⟨ps, by rw [upd_ne (fun e => by rw [e, h] at h1; cases h1; exact nt _ rfl)]; exact h1, h2, fun pos cv hc => ?_⟩
  obtain ⟨c, e1, e2⟩ := h3 pos cv hc
  exact ⟨c, e1, by rw [upd_ne (fun e => by rw [e, h] at e2; cases e2; exact nx _ rfl)]; exact e2⟩
/-- it gives a new dict -/
def EvW (ss : List Sl) (te : TE) (P : HO → Prop) : Prop := ∀ (Z : Av) (Bg : Option Addr) (σ : L2.St) (H : Hp) (O : Av) (Q : VK), Sg Z Bg H O σ ss →
  (∀ p u H', P u → IsDk u → ¬ O p → H p = none → Sg Z Bg H' (more O p) σ ss → Stp O (more O p) H H' → H' p = some u → Q (.ref p) H') → te σ H Q
theorem IsDk.mu {u : HO} (h : IsDk u) : IsMu u := by cases u <;> first | exact h | exact h.elim
section
variable {K : PySem.W.Frag} {ss : List Sl} {ta : TA} {te tk tv tx : TE} {tb : TS} {g : TG} {P : HO → Prop} {N : List Sl → Prop} {R : D → Prop} {B C : List Sl → Prop} {i j : Nat} {u : HO} {d a b : D}
theorem EvW.mono {P' : HO → Prop} (h : EvW ss te P) (f : ∀ x, P x → P' x) : EvW ss te P' := fun Z Bg σ H O Q g q => h Z Bg σ H O Q g fun p u H' pu => q p u H' (f u pu)
theorem ew_newT : EvW ss tDNewT (fun x => x = .dT []) := fun Z Bg σ H O Q g q => fun p hp =>
  q p _ _ rfl trivial (g.wd.fresh hp).1 hp (g.more (Ext.new hp) hp (by rw [upd_same]; exact fun z => nomatch z)) (stp_more hp) upd_same
/-- {t: n}, t a tuple of ints -/
theorem ew_disp {ks : List Int} {n : Int} (hk : EvD ss tk (.rtup (ks.map .int))) (hv : EvD ss tv (.int n)) : EvW ss (tDispT1 tk tv) (fun x => x = .dT [(ks.map Sum.inl, .int n)]) := fun Z Bg σ H O Q g q => by
  intro p hp
  have nO : ¬ O p := (g.wd.fresh hp).1
  have nZ : ¬ Z p := (g.wd.fresh hp).2
  have st : Sg (fun a => Z a ∨ a = p) Bg (upd H p (.dT [])) O σ ss := g.oz nO (g.more (Ext.new hp) hp (by rw [upd_same]; exact fun z => nomatch z))
  refine hk _ Bg σ _ O _ st fun v H1 d1 e1 g1 s1 hd1 => hv _ Bg σ H1 O _ g1 fun w H2 d2 e2 g2 s2 hd2 => ?_
  subst e1 e2
  cases hd2
  have hp2 : H2 p = some (.dT []) := s2.kp p _ (s1.kp p _ upd_same nO nofun) nO nofun
  cases hd1.mv s2 with
  | @rtup b xs _ hb hx =>
    rw [DqAll.of_ints hx] at hb
    refine ⟨_, _, rfl, hp2, b, ks.map Sum.inl, rfl, by rw [List.map_map]; exact hb, ?_⟩
    have off : ∀ a, a ≠ p → (upd H2 p (.dT [(ks.map (Sum.inl : Int → L2.Key), V.int n)])) a = H2 a := fun a e => upd_ne e
    have s02 : Stp O O (upd H p (.dT [])) H2 := s1.trans s2
    have g3 := (g2.off off (.inr rfl) ⟨_, hp2, trivial⟩ (by rw [upd_same]; exact fun z => nomatch z) fun t p hp => tab_updM hp2 trivial (t p hp)).zo nZ
    refine q p _ _ rfl trivial nO hp g3 ⟨fun a u e t => ?_, fun a o e n t => ?_, fun a e n => ?_, fun a w => w.elim .inl fun z => .inr (by rw [z]; exact hp), fun t p hq => tab_updM hp2 trivial (s02.tb (fun p' hp' => tab_new hp (t p' hp')) p hq)⟩ upd_same
    · rw [off a (ne_of_none e hp)]; exact s02.tp a u (by rw [upd_ne (ne_of_none e hp)]; exact e) t
    · rw [off a (ne_of_none e hp)]; exact s02.kp a o (by rw [upd_ne (ne_of_none e hp)]; exact e) n t
    · have : a ≠ p := fun z => e (by rw [z]; exact hp)
      rw [off a this]; exact s02.al a (by rw [upd_ne this]; exact e) n
/-- dict(zip(s, t)) of ints -/
theorem ew_zip {ks ms : List Int} (h : EvA ss ta (fun x => x = [a, b])) (ha : a.items = some (ks.map .int)) (hb : b.items = some (ms.map .int)) (hl : ks.length = ms.length) : EvW ss (tDictZip K ta) (fun x => x = .dK (mergeK [] (intK ks (ms.map .int)))) := fun Z Bg σ H O Q g q =>
  h Z Bg σ H O _ g fun vs ds H1 e g1 s1 hd => by
    subst e
    cases hd with
    | cons h1 h2 =>
      cases h2 with
      | cons h2 h3 =>
        cases h3
        obtain ⟨p, xs, rfl, h4, h5⟩ := h1.tupV (K := K) ha
        obtain ⟨p', ys, rfl, h6, h7⟩ := h2.tupV (K := K) hb
        rw [DqAll.of_ints h5] at h4
        rw [DqAll.of_ints h7] at h6
        refine ⟨p, p', ks, ms.map .int, rfl, h4, h6, by rw [List.length_map]; exact hl, fun l hl => ?_⟩
        have nO := (g1.wd.fresh hl).1
        exact q l _ _ rfl trivial nO (s1.was hl nO) (g1.more (Ext.new hl) hl (by rw [upd_same]; exact fun z => nomatch z)) (s1.trans (stp_more hl)) upd_same
theorem ht_asgW (h : EvW ss te P) (f : ∀ u, P u → N (ss.set i (.obj u))) : HT ss (tAsg te (gName i)) N R B C := fun Z Bg σ H O E g n r b c => h Z Bg σ H O _ g fun p u H' pu dk np hp g' s hp' =>
  n _ _ H' _ (f u pu) (g.setNew g' np i ⟨p, rfl, .inr rfl, fun z => np (g.wd.bg p z).1, hp', dk⟩) s
/-- a dict's slot -/
theorem Sg.obj {Z : Av} {Bg : Option Addr} {H : Hp} {O : Av} {σ : L2.St} (g : Sg Z Bg H O σ ss) (h : ss[i]? = some (.obj u)) : ∃ l, σ[i]? = some (some (.ref l)) ∧ O l ∧ Bg ≠ some l ∧ H l = some u ∧ IsDk u := by
  obtain ⟨v, e, l, rfl, q⟩ := g.at_ h
  exact ⟨l, e, q⟩
/-- from one slot to another -/
theorem ht_move (hj : ss[j]? = some (.obj u)) (hij : i ≠ j) (hn : N ((ss.set j .un).set i (.obj u))) : HT ss (tAsg (tVar j) (gName i)) N R B C := fun Z Bg σ H O E g n r b c => by
  obtain ⟨l, e, hO, hb, hl, dk⟩ := g.obj hj
  refine ⟨_, e, n _ _ H O hn ?_ Stp.refl⟩
  have g1 := g.forget j
  have np : ∀ (k : Nat) (m : Addr), IsOwn (ss.set j .un)[k]? → σ[k]? = some (some (.ref m)) → m ≠ l := fun k m h1 h2 z => by
    by_cases e1 : j = k
    · subst e1
      rw [List.getElem?_set_self (List.getElem?_eq_some_iff.mp hj).1] at h1
      exact h1
    · rw [List.getElem?_set_ne e1] at h1
      exact g.ap j k l e1 (by rw [hj]; trivial) h1 e (by rw [h2, z])
  refine ⟨g1.wd, by rw [List.length_set, List.length_set]; exact g1.len, fun k w s h1 h2 => ?_, fun k m a hkm h1 h2 h3 h4 => ?_⟩
  · by_cases e1 : i = k
    · subst e1
      have hi : i < (ss.set j Sl.un).length := by have := (List.getElem?_eq_some_iff.mp h2).1; simpa using this
      rw [List.getElem?_set_self (by rw [g1.len]; exact hi)] at h1
      rw [List.getElem?_set_self hi] at h2
      cases h1; cases h2
      exact ⟨l, rfl, hO, hb, hl, dk⟩
    · rw [List.getElem?_set_ne e1] at h1 h2
      exact g1.sl k w s h1 h2
  · have key : ∀ (k : Nat) (a : Addr), IsOwn ((ss.set j .un).set i (.obj u))[k]? → (σ.set i (some (.ref l)))[k]? = some (some (.ref a)) → (k = i ∧ a = l) ∨ (k ≠ i ∧ IsOwn (ss.set j .un)[k]? ∧ σ[k]? = some (some (.ref a))) := by
      intro k a q r
      by_cases e1 : i = k
      · subst e1
        by_cases hi : i < (ss.set j Sl.un).length
        · rw [List.getElem?_set_self (by rw [g1.len]; exact hi)] at r
          cases r
          exact .inl ⟨rfl, rfl⟩
        · rw [List.getElem?_eq_none (by rw [List.length_set]; omega)] at q; exact q.elim
      · rw [List.getElem?_set_ne e1] at q r
        exact .inr ⟨fun z => e1 z.symm, q, r⟩
    rcases key k a h1 h3 with ⟨a1, a2⟩ | ⟨a1, a2, a3⟩
    · rcases key m a h2 h4 with ⟨b1, b2⟩ | ⟨b1, b2, b3⟩
      · exact hkm (a1.trans b1.symm)
      · exact np m a b2 b3 a2
    · rcases key m a h2 h4 with ⟨b1, b2⟩ | ⟨b1, b2, b3⟩
      · exact np k a a2 a3 b2
      · exact g1.ap k m a hkm a2 b2 a3 b3
/-- d.get(t, n) -/
theorem ev_dget2 {kvs : List (List L2.Key × V)} {ks : List Int} {m n : Int} (hi : ss[i]? = some (.obj (.dT kvs))) (hk : EvD ss tk (.rtup (ks.map .int))) (hx : EvD ss tx (.int n)) (hv : (valV kvs (ks.map Sum.inl)).getD (.int n) = .int m) : EvD ss (tDGet2 (tVar i) tk tx) (.int m) := fun Z Bg σ H O Q g q => by
  obtain ⟨l, e, _, _, hl, _⟩ := g.obj hi
  refine ⟨_, e, l, rfl, .inr ⟨kvs, .inl hl⟩, hk Z Bg σ H O _ g fun v H1 d1 e1 g1 s1 hd1 => hx Z Bg σ H1 O _ g1 fun w H2 d2 e2 g2 s2 hd2 => ?_⟩
  subst e1 e2
  cases hd2
  obtain ⟨l', e', _, _, hl', _⟩ := g2.obj hi
  rw [e] at e'; cases e'
  cases hd1.mv s2 with
  | @rtup b xs _ hb hx =>
    rw [DqAll.of_ints hx] at hb
    refine ⟨_, DGet.t (k := ks.map Sum.inl) hl' (by rw [List.map_map]; exact hb), ?_⟩
    rw [hv]
    exact q _ H2 _ rfl g2 (s1.trans s2) (.int _)
/-- d[n], ints -/
theorem ev_dget {kvs : List (L2.Key × V)} {n m : Int} (hi : ss[i]? = some (.obj (.dK kvs))) (hk : EvD ss tk (.int n)) (hv : valV kvs (Sum.inl n) = some (.int m)) : EvD ss (tDGet (tVar i) tk) (.int m) := fun Z Bg σ H O Q g q => by
  obtain ⟨l, e, _⟩ := g.obj hi
  refine ⟨_, e, hk Z Bg σ H O _ g fun v H1 d1 e1 g1 s1 hd1 => ?_⟩
  subst e1
  cases hd1
  obtain ⟨l', e', _, _, hl', _⟩ := g1.obj hi
  rw [e] at e'; cases e'
  exact ⟨l, _, rfl, by rw [← hv]; exact DGet.k (k := Sum.inl n) hl', q _ H1 _ rfl g1 s1 (.int _)⟩
/-- d[t] = x -/
theorem ht_dput {kvs : List (List L2.Key × V)} {ks : List Int} {w : V} (hi : ss[i]? = some (.obj (.dT kvs))) (hv : EvD ss tv d) (hw : ∀ H O Z x, Dq H O Z x d → x = w) (hk : EvD ss tk (.rtup (ks.map .int))) (hl : kvs.length < 100000) (hn : N (ss.set i (.obj (.dT (putK kvs (ks.map Sum.inl) w))))) : HT ss (sDPut (tVar i) tk tv) N R B C := fun Z Bg σ H O E g n r b c =>
  hv Z Bg σ H O _ g fun v H1 d1 e1 g1 s1 hd1 => by
    subst e1
    obtain rfl := hw _ _ _ _ hd1
    obtain ⟨l, e, _⟩ := g1.obj hi
    refine ⟨_, e, hk Z Bg σ H1 O _ g1 fun y H2 d2 e2 g2 s2 hd2 => ?_⟩
    subst e2
    obtain ⟨l', e', hO, hb, hl', _⟩ := g2.obj hi
    rw [e] at e'; cases e'
    cases hd2 with
    | @rtup b xs _ hb' hx =>
      rw [DqAll.of_ints hx] at hb'
      obtain ⟨g3, s3⟩ := g2.writeS (u := .dT (putK kvs (ks.map Sum.inl) v)) (s1 := .obj (.dT (putK kvs (ks.map Sum.inl) v))) (by rw [hi]; trivial) e hO hb hl' trivial trivial fun _ => ⟨l, rfl, hO, hb, upd_same, trivial⟩
      refine ⟨l, _, rfl, DPut.t hl' (by rw [List.map_map]; exact hb') (sz_lt hl), n _ _ _ _ hn g3 ((s1.trans s2).trans s3)⟩
/-- list(d.values()) -/
theorem en_vals {kvs : List (List L2.Key × V)} {ms : List Int} (hi : ss[i]? = some (.obj (.dT kvs))) (hm : kvs.map (·.2) = ms.map V.int) : EvN ss (tCB rListVT (tCons (tBM0 K "dict" rValsT (tVar i)) tNil)) (fun x => x = ms.map .int) := fun Z Bg σ H O Q g q => by
  obtain ⟨l, e, _, _, hl, _⟩ := g.obj hi
  refine ⟨_, e, .inr (.inr (.inl ⟨rfl, .inr ⟨kvs, hl⟩⟩)), l, kvs, rfl, rfl, hl, fun p hp => ⟨p, l, kvs, rfl, upd_same, by rw [upd_ne (ne_of_none hl hp)]; exact hl, fun r hr => ?_⟩⟩
  have e1 : Ext H (upd H p (valsO p l)) := Ext.new hp
  have g1 := g.ext e1
  have nO := (g1.wd.fresh hr).1
  rw [hm]
  exact q r _ _ _ rfl nO ((Ext.stp (O := O) e1).was hr nO) (g1.more (Ext.new hr) hr (by rw [upd_same]; exact fun z => nomatch z)) ((Ext.stp e1).trans (stp_more hr)) upd_same (DqAll.ints ms)
theorem rt_all {G : Hp} {O Z : Av} : ∀ {bs : List (Addr × List Int)}, (∀ b ∈ bs, G b.1 = some (.tup (b.2.map V.int))) → DqAll G O Z (bs.map fun b => V.ref b.1) ((bs.map (·.2)).map fun k => .rtup (k.map .int))
  | [], _ => .nil
  | x :: bs, h => .cons (.rtup (h x (.head _)) (DqAll.ints x.2)) (rt_all fun y hy => h y (.tail _ hy))
mutual
theorem Dq.un {H : Hp} {O Z : Av} {l : Addr} {w u : HO} (hl : H l = some w) (nt : ¬ IsTp w) (nl : ∀ xs, w ≠ .lst xs) : ∀ {v : V} {d : D}, Dq H O Z v d → Dq (upd H l u) O Z v d
  | _, _, .non => .non
  | _, _, .bl b => .bl b
  | _, _, .int i => .int i
  | _, _, .str x => .str x
  | _, _, .lst n z e t => .lst n z (by rw [upd_ne (fun q => by rw [q, hl] at e; cases e; exact nl _ rfl)]; exact e) (DqAll.un hl nt nl t)
  | _, _, .tup e c t => .tup (by rw [upd_ne (IsTp.ne e (by rcases c with rfl | ⟨o, rfl⟩ <;> trivial) hl nt)]; exact e) c (DqAll.un hl nt nl t)
  | _, _, .ptup e c t => .ptup (by rw [upd_ne (IsTp.ne e trivial hl nt)]; exact e) c (DqAll.un hl nt nl t)
  | _, _, .rtup e t => .rtup (by rw [upd_ne (IsTp.ne e trivial hl nt)]; exact e) (DqAll.un hl nt nl t)
theorem DqAll.un {H : Hp} {O Z : Av} {l : Addr} {w u : HO} (hl : H l = some w) (nt : ¬ IsTp w) (nl : ∀ xs, w ≠ .lst xs) : ∀ {vs : List V} {ds : List D}, DqAll H O Z vs ds → DqAll (upd H l u) O Z vs ds
  | _, _, .nil => .nil
  | _, _, .cons q t => .cons (Dq.un hl nt nl q) (DqAll.un hl nt nl t)
end
/-- sorted(d) -/
theorem en_sortK {kvs : List (List Int × V)} (hi : ss[i]? = some (.obj (.dT (kvs.map fun p => (p.1.map Sum.inl, p.2))))) (hz : kvs.length ≤ 100000) (hne : ∀ p ∈ kvs, p.1 ≠ []) (hal : PySem.W.AllAlike (kvs.map fun p => PyData.tuple (p.1.map PyData.int))) :
    EvN ss (tCB rSortDT (tCons (tVar i) tNil)) (fun x => x = ((kvs.map (·.1)).mergeSort (fun x y => PySem.W.dataLe false (fun z : List Int => PyData.tuple (z.map .int)) x y)).map fun k => .rtup (k.map .int)) := fun Z Bg σ H O Q g q => by
  obtain ⟨l, e, _, _, hl, _⟩ := g.obj hi
  refine ⟨_, e, l, kvs, rfl, hl, hz, hne, hal, fun p bs hp hbs hb => ?_⟩
  have nO := (g.wd.fresh hp).1
  refine q p _ _ _ rfl nO hp (g.more (Ext.new hp) hp (by rw [upd_same]; exact fun z => nomatch z)) (stp_more hp) upd_same ?_
  rw [← hbs]
  exact rt_all fun b hm => by rw [upd_ne (ne_of_none (hb b hm) hp)]; exact hb b hm
/-! ### for k, x in d.items() -/
def noRo (ss : List Sl) : Bool := ss.all fun s => match s with
  | .ro _ _ => false
  | _ => true
abbrev elT (kvs : List (List Int × Int)) (i : Nat) : D := match kvs[i]? with
  | some p => .rtup [.rtup (p.1.map .int), .int p.2]
  | none => .non
abbrev dT (kvs : List (List Int × Int)) : HO := .dT (kvs.map fun p => (p.1.map Sum.inl, .int p.2))
/-- locked: out of O -/
theorem Sg.lock {Z : Av} {Bg : Option Addr} {H : Hp} {O : Av} {σ : L2.St} {l : Addr} (g : Sg Z Bg H O σ ss) (hi : ss[i]? = some (.obj u)) (hl : σ[i]? = some (some (.ref l))) (od : Obj) :
    Sg Z Bg (upd H l (.frz od u)) (fun a => O a ∧ a ≠ l) σ (ss.set i .un) ∧ Stp O (fun a => O a ∧ a ≠ l) H (upd H l (.frz od u)) := by
  obtain ⟨l', h1, hO, hb, hu, dk⟩ := g.obj hi
  rw [hl] at h1; cases h1
  have s : Stp O (fun a => O a ∧ a ≠ l) H (upd H l (.frz od u)) := ⟨fun a u e t => by rw [upd_ne (IsTp.ne e t hu dk.mu.ntp)]; exact e, fun a o e n _ => by rw [upd_ne (fun z => n (by rw [z]; exact hO))]; exact e, fun a e n => by rw [upd_ne (fun z => n (by rw [z]; exact hO))]; exact e, fun a q => .inl q.1, fun t p hp => tab_updM hu dk.mu (t p hp)⟩
  have hil : i < ss.length := (List.getElem?_eq_some_iff.mp hi).1
  refine ⟨⟨⟨fun a q => ?_, fun a q => g.wd.dj a q.1, fun b hb' => ?_, s.tb g.wd.tb⟩, by rw [List.length_set]; exact g.len, fun j w sl h1 h2 => ?_, fun j k m hjk a1 a2 a3 a4 => ?_⟩, s⟩
  · by_cases e : a = l
    · subst e; rw [upd_same]; exact fun z => nomatch z
    · rw [upd_ne e]; exact g.wd.al a (q.elim (fun z => .inl z.1) .inr)
  · obtain ⟨k1, k2⟩ := g.wd.bg b hb'
    have nb : b ≠ l := fun e => hb (by rw [hb', e])
    exact ⟨⟨k1, nb⟩, k2.mv s (by rw [upd_ne nb])⟩
  · by_cases e : i = j
    · subst e
      rw [List.getElem?_set_self hil] at h2
      cases h2; trivial
    · rw [List.getElem?_set_ne e] at h2
      have q := g.sl j w sl h1 h2
      have nl : ∀ l2, IsOwn (some sl) → w = some (.ref l2) → l2 ≠ l := fun l2 io r z => g.ap i j l e (by rw [hi]; trivial) (by rw [h2]; exact io) hl (by rw [h1, r, z])
      cases sl with
      | un => trivial
      | im d => obtain ⟨x, r, q⟩ := q; exact ⟨x, r, q.mv s⟩
      | own ds' => obtain ⟨l2, xs2, r, k1, k2, k3, k4⟩ := q; exact ⟨l2, xs2, r, ⟨k1, nl l2 trivial r⟩, k2, by rw [upd_ne (nl l2 trivial r)]; exact k3, k4.mv s⟩
      | obj u2 => obtain ⟨l2, r, k1, k2, k3, k4⟩ := q; exact ⟨l2, r, ⟨k1, nl l2 trivial r⟩, k2, by rw [upd_ne (nl l2 trivial r)]; exact k3, k4⟩
      | ro l2 w2 => obtain ⟨r, k1, k2, k3, k4⟩ := q; exact ⟨r, fun z => k1 z.1, k2, by rw [upd_ne (fun z => k1 (by rw [z]; exact hO))]; exact k3, k4⟩
      | bag => exact q
  · have nj : ∀ (j : Nat), IsOwn (ss.set i .un)[j]? → IsOwn ss[j]? := by
      intro j q
      by_cases e : i = j
      · subst e; rw [hi]; trivial
      · rw [List.getElem?_set_ne e] at q; exact q
    exact g.ap j k m hjk (nj j a1) (nj k a2) a3 a4
/-- unlocked again, by then known to no slot -/
theorem Sg.unlock {Z : Av} {Bg : Option Addr} {H : Hp} {O : Av} {σ : L2.St} {l : Addr} {od : Obj} (g : Sg Z Bg H O σ ss) (hl : H l = some (.frz od u)) (dk : IsDk u) (nO : ¬ O l) (hr : noRo ss = true) : Sg Z Bg (upd H l u) O σ ss := by
  have ntf : ¬ IsTp (.frz od u) := fun z => by cases u <;> first | exact dk.elim | exact z
  have s : Stp O O H (upd H l u) → True := fun _ => trivial
  have tbl : ∀ P q, LamX.TabS H P q → LamX.TabS (upd H l u) P q := fun P q t => tab_updX hl (fun ps z => nomatch z) (fun φ z => nomatch z) t
  have off : ∀ a o, H a = some o → o ≠ .frz od u → upd H l u a = some o := fun a o e n => by rw [upd_ne (fun z => by rw [z, hl] at e; cases e; exact n rfl)]; exact e
  refine ⟨⟨fun a q => ?_, g.wd.dj, fun b hb => ?_, fun p hp => tbl _ _ (g.wd.tb p hp)⟩, g.len, fun j w sl h1 h2 => ?_, g.ap⟩
  · by_cases e : a = l
    · subst e; rw [upd_same]; exact fun z => nomatch z
    · rw [upd_ne e]; exact g.wd.al a q
  · obtain ⟨k1, i', j, k, c, ns, q1, q2, q3, q4⟩ := g.wd.bg b hb
    exact ⟨k1, i', j, k, c, ns, off _ _ q1 nofun, q2, q3, off _ _ q4 nofun⟩
  · have q := g.sl j w sl h1 h2
    cases sl with
    | un => trivial
    | im d => obtain ⟨x, r, q⟩ := q; exact ⟨x, r, q.un hl ntf (fun xs z => nomatch z)⟩
    | own ds' => obtain ⟨l2, xs2, r, k1, k2, k3, k4⟩ := q; exact ⟨l2, xs2, r, k1, k2, off _ _ k3 nofun, k4.un hl ntf (fun xs z => nomatch z)⟩
    | obj u2 => obtain ⟨l2, r, k1, k2, k3, k4⟩ := q; exact ⟨l2, r, k1, k2, off _ _ k3 (fun z => by rw [z] at k4; exact k4), k4⟩
    | ro l2 w2 =>
      have := List.all_eq_true.mp hr _ (List.mem_of_getElem? h2)
      cases this
    | bag => exact q
theorem ht_forItems {kvs : List (List Int × Int)} (hi : ss[i]? = some (.obj (dT kvs))) (I : Nat → List Sl → Prop) (h0 : I 0 (ss.set i .un))
    (step : ∀ j ss1, j < kvs.length → I j ss1 → ∃ ss2 js, Tgt g ss1 (elT kvs j) ss2 js ∧ HT ss2 tb (I (j + 1)) (fun _ => False) (fun _ => False) (I (j + 1))) (hd : ∀ ss1, I kvs.length ss1 → noRo ss1 = true ∧ N ss1) :
    HT ss (tLock (tFor (iItemsT (tVar i)) g tb)) N R B C := fun Z Bg σ H O E gg nn r b c => by
  obtain ⟨l, e, hO, hb, hl, _⟩ := gg.obj hi
  refine ⟨l, dT kvs, hl, trivial, fun od => ⟨_, e, l, od, _, rfl, upd_same, ?_⟩⟩
  obtain ⟨g1, s1⟩ := gg.lock hi e od
  let O1 : Av := fun a => O a ∧ a ≠ l
  let H1 : Hp := upd H l (.frz od (dT kvs))
  have hl1 : H1 l = some (.frz od (dT kvs)) := upd_same
  have nO1 : ¬ O1 l := fun z => z.2 rfl
  refine ⟨fun j m σ2 H2 => m = kvs.length - j ∧ j ≤ kvs.length ∧ ∃ O2 ss2, I j ss2 ∧ Sg Z Bg H2 O2 σ2 ss2 ∧ Stp O1 O2 H1 H2, ⟨kvs.length, by simp, Nat.zero_le _, O1, _, h0, g1, Stp.refl⟩, ?_⟩
  rintro j m σ2 H2 ⟨rfl, hj, O2, ss2, hI, g2, s2⟩
  have hl2 : H2 l = some (.frz od (dT kvs)) := s2.kp l _ hl1 nO1 nofun
  have nO2 : ¬ O2 l := fun z => (s2.av l z).elim nO1 fun z => by rw [hl1] at z; cases z
  by_cases hlt : j < kvs.length
  · refine .inr ⟨⟨hl2, by rw [List.length_map]; exact hlt⟩, fun σ3 H3 => ∃ O3 ss3, I (j + 1) ss3 ∧ Sg Z Bg H3 O3 σ3 ss3 ∧ Stp O1 O3 H1 H3, fun σ' H' q => ⟨kvs.length - (j + 1), by omega, rfl, hlt, q⟩, fun x H3 hy => ?_⟩
    obtain ⟨T, k, v, q, hk, rfl, hT, hq, rfl⟩ := hy
    obtain ⟨ss3, js, ht, hb3⟩ := step j ss2 hlt hI
    have e3 : Ext H2 (upd H2 T (.tup [.ref q, v])) := Ext.new hT
    have hd : Dq (upd H2 T (.tup [.ref q, v])) O2 Z (.ref T) (elT kvs j) := by
      rw [List.getElem?_map] at hk
      cases e4 : kvs[j]? with
      | none => rw [e4] at hk; cases hk
      | some p =>
        rw [e4] at hk
        cases hk
        unfold elT
        rw [e4]
        rw [List.map_map] at hq
        exact .rtup upd_same (.cons (.rtup (by rw [upd_ne (ne_of_none hq hT)]; exact hq) (DqAll.ints p.1)) (.cons (.int _) .nil))
    refine ht Z Bg σ2 _ O2 _ _ (g2.ext e3) hd fun σ4 H4 g4 s4 _ _ => ?_
    have st : Stp O1 O2 H1 H4 := (s2.trans (Ext.stp e3)).trans s4
    exact hb3 Z Bg σ4 H4 O2 _ g4 (fun ss' σ' H5 O5 p5 g5 s5 => ⟨O5, ss', p5, g5, st.trans s5⟩) (fun d v H5 O5 p5 => p5.elim) (fun ss' σ' H5 O5 p5 => p5.elim) (fun ss' σ' H5 O5 p5 g5 s5 => ⟨O5, ss', p5, g5, st.trans s5⟩)
  · have e5 : j = kvs.length := by omega
    subst e5
    obtain ⟨hr, hN⟩ := hd ss2 hI
    refine .inl ⟨⟨hl2, by rw [List.length_map]; exact Nat.le_refl _⟩, hl2, nn ss2 σ2 _ O2 hN (g2.unlock hl2 trivial nO2 hr) ?_⟩
    have sa := s1.trans s2
    refine ⟨fun a u e t => ?_, fun a o e n t => ?_, fun a e n => ?_, sa.av, fun t p hp => tab_updX hl2 (fun ps z => nomatch z) (fun φ z => nomatch z) (sa.tb t p hp)⟩
    · have h9 := sa.tp a u e t
      rw [upd_ne (IsTp.ne h9 t hl2 id)]; exact h9
    · rw [upd_ne (fun z => n (by rw [z]; exact hO))]; exact sa.kp a o e n t
    · rw [upd_ne (fun z => n (by rw [z]; exact hO))]; exact sa.al a e n
end

end Lg
end
section
set_option Elab.async false
set_option linter.all false
set_option maxRecDepth 100000
/-! Defs that may ask for repr of data: the frame guards are known to be none. -/
namespace Lr
open PySem PySem.Spec PyProof.Rows L2
/-- a def's promise where no guard stands -/
structure FnG (P : Program) (w : World) (K : PySem.W.Frag) (mg : Str → Option Value) (base : Heap) (CX : CXT) (k : Nat) (f : Addr) (fd : FuncData) (ps : List Str) (sp : Sp) : Prop where
  len : ∀ vs H Q E, sp vs H Q E → vs.length = ps.length
  run : ∀ (A : Around) (outer : List Env) (s : Shared) (H : Hp) (args : Args) (us : List Value) (vs : List V) (Q : VK) (E : XK), A.guards = some [] → Room k A → Env0 P w K mg base A outer s H → BindsTo s fd args (ps.zip us) → Vals vs us → sp vs H Q E →
    codeAny (model P w) A (.call (.ref f) args) (CR CX outer P w H s Q E) s
theorem deeper_guards {A : Around} {env : Env} (h : A.guards = some []) : (A.deeper env).guards = some [] := h
section
variable {P : Program} {w : World} {K : PySem.W.Frag} {mg : Str → Option Value} {base : Heap} {x qual : Str} {params : Arguments} {body : List Stmt} {scope : Scope} {dvs : List V} {kws : List (Str × V)} {f : Addr} {fd : FuncData}
theorem okG {CX : CXT} {N ps : List Str} {k : Nat} {sp : Sp} (F : FunD K x qual params body scope dvs kws f fd) (S : FnScope N ps scope) (len : ∀ vs H Q E, sp vs H Q E → vs.length = ps.length)
    (hbody : ∀ (cdv : Value) (A : Around) (outer : List Env) (s : Shared) (H : Hp) (vs : List V) (Q : VK) (E : XK), A.guards = some [] → Room k (A.deeper (envOfC qual scope s.heap.objs.size f cdv)) → sp vs H Q E →
      ∃ t, PSs (cxOf CX P w K mg base N qual scope f cdv A outer s H E) body t ∧ t { nx := fun _ H' => Q .non H', rt := Q } (start N vs) H) : FnG P w K mg base CX (k + 1) f fd ps sp := by
  obtain ⟨oc, od, dV, kV, doc, pm, an, cdv, ct, osl, rfl, lk, hcd, _, _⟩ := F.ex
  exact ⟨len, fun A outer s H args us vs Q E hg hr e0 hb r hsp => LamX.run_ofS lk hcd S hr e0 hb r (len _ _ _ _ hsp) fun hr' => hbody cdv A outer s H vs Q E hg hr' hsp⟩
end
section
variable {X : Cx} {CX : CXT} {k : Nat} {f : Addr} {fd : FuncData} {ps : List Str} {sp : Sp} {ds : List Value} {dvs : List V} {E : XK} {x : Str} {p pos : Pos} {e : Expr} {es : List Expr} {t : TA}
theorem run_fnG {pins : List (Addr × Obj)} {σ : L2.St} {H : Hp} {s : Shared} {Q : VK} {us : List Value} {vs : List V} (F : FnG X.prog X.w X.K X.mg X.base CX k f fd ps sp) (hg : X.A.guards = some []) (hr : Room k X.A) (hb : L2.Binds X.K fd ps []) (hx : Passes CX X E)
    (I : L2.Inv X pins σ H s) (r : Vals vs us) (h : sp vs H Q E) : wpAny (model X.prog X.w) X.A (call (.ref f) us) (EP X pins σ Q) X.xe s := by
  have hl : us.length = ps.length := by rw [← r.length]; exact F.len _ _ _ _ h
  have hb' := hb s us I.kIn (by rw [List.append_nil]; exact hl)
  rw [List.append_nil] at hb'
  refine wpAny_call (codeAny_mono (F.run X.A X.stack s H ⟨us, []⟩ us vs Q E hg hr I.env0 hb' r h) fun r s' hq => ?_)
  cases r with
  | error e => exact hx pins σ H s e s' I hq
  | ok fl =>
    cases fl with
    | ret u => exact I.after hq
    | next => exact hq.elim
    | brk => exact hq.elim
    | cont => exact hq.elim
theorem pe_callG (F : FnG X.prog X.w X.K X.mg X.base CX k f fd ps sp) (hgd : X.A.guards = some []) (hr : Room k X.A) (hg : Gl X x) (hm : X.mg x = some (.ref f)) (hk : PySem.W.keepIn X.K (.ref f) = true) (hb : L2.Binds X.K fd ps []) (hx : Passes CX X E)
    (ha : PA X (e :: es) t) (hdb : (x == ("__debug__" : Str)) = false := by decide) (he : starEach (e :: es) X.env = (false, eval e X.env) :: starEach es X.env := by rfl) (hpl : (backTo pos (starEach es X.env)).any (·.1) = false := by rfl) :
    PE X (.Call (.Name x p) (e :: es) [] pos) (tCall sp [] E t) := by
  refine ⟨fun pins s σ H Q I h => ?_⟩
  refine wpAny_Call_Name_kw (ld_glob I hg hm ?_ hdb)
  refine PySem.W.callWith_K (h₀ := X.base) I.ok.mod.kin hk (thn (ha.run pos pins s σ H _ I h) fun us s1 ⟨vs, H1, I1, r, q⟩ => ⟨I1.kIn, ?_⟩) he hpl
  have q : sp (vs ++ []) H1 Q E := q
  rw [List.append_nil] at q
  exact run_fnG F hgd hr hb hx I1 r q
/-- repr of a bool, a tuple, a list -/
def rReprD (K : PySem.W.Frag) : List V → Hp → VK → Prop := fun vs H Q => (∃ b, vs = [.bl b] ∧ Q (.str (if b then "True" else "False")) H) ∨
  ∃ (a : Addr) (d : PyData), vs = [.ref a] ∧ Dp K H (.ref a) d ∧ d.showable = true ∧ d.hasDict = false ∧ d.depth ≤ 8 ∧ d.shown.length ≤ sizeLine ∧ Q (.str d.shown) H
theorem cr_reprD (hg : X.A.guards = some []) (hu : X.A.units + 64 < cLine) : CallR X (.builtin "repr") (rReprD X.K) := by
  intro pins s σ H vs us Q I r h
  rcases h with ⟨b, rfl, q⟩ | ⟨a, d, rfl, hd, h1, h2, h3, h4, q⟩
  · obtain ⟨u, rfl, rx⟩ := r.one
    cases rx
    exact PySem.P.repr_of_bool ⟨.str _, H, I.tok _, ⟨_, rfl⟩, q⟩
  · obtain ⟨u, rfl, rx⟩ := r.one
    cases rx
    obtain ⟨as, hr⟩ := Dp.reads I d _ _ hd rfl
    exact repr_of_reads' hr h1 (fun z => by rw [h2] at z; cases z) hg (by omega) (fun _ _ e => e) (fun h' u tk hk => ⟨.str _, H, I.kept (t' := tk) hk, ⟨_, rfl⟩, q⟩) h4
end
end Lr
end
section
set_option Elab.async false
set_option linter.all false
set_option maxRecDepth 100000
/-! A lambda made: what was there stays there. -/
namespace LamX
open PySem PySem.Spec PyProof.Rows L2
section
variable {X : Cx} {pins : List (Addr × Obj)} {σ : L2.St} {H : Hp} {s : Shared}
theorem lam_mk {T : List (Addr × Str)} {c P : Addr} {params : Arguments} {body : Expr} {scope : Scope} {pos : Pos} {E : Value → Shared → Prop} {Q : Value → Shared → Prop} (I : Inv X pins σ H s) (TB : TabB X.base X.mg c P) (hcode : X.env.code = .ref c)
    (hm : (P, X.env.qual ++ "<lambda>") ∈ T) (hu : ∀ p ∈ T, p.1 = P → p.2 = X.env.qual ++ "<lambda>") (hT : Tabs T H) (hdef : defaultsOf params X.env = ([], [])) (hfree : ∀ y ∈ scope.names, y.2 = .free → ∃ c, X.env.cells.lookup y.1 = some c)
    (h : ∀ (f c' : Addr) (pm ctv : Value) (H1 : Hp) (s' : Shared), Inv X pins σ H1 s' → ExtN H H1 → (∀ b, H b ≠ none → H1 b ≠ none) → Tabs T H1 →
      s'.heap.get? f = some (PySem.W.kla_obj "<lambda>" (X.env.qual ++ "<lambda>") params body scope (cloFrom X.env.cells scope.names []) pm c' ctv) → H1 f = none → f ∉ frs X.stack → H1 c' = some (CodeO c' (X.env.qual ++ "<lambda>")) → Q (.ref f) s') :
    wpAny (model X.prog X.w) X.A (eval (.Lambda params body scope pos) X.env) Q E s := by
  obtain ⟨ps, hP, ht, ha⟩ := hT _ hm
  refine PySem.W.kla_eval hdef ?_
  have bP : s.heap.BuiltinsAt X.mg P := TB.bm.keeps I.bk
  have hP' : s.heap.get? P = some { cls := .none, data := .fields ps } := I.hok P _ hP
  have nofr : ∀ f, s.heap.objs.size ≤ f → f ∉ frs X.stack := fun f hf z => by
    rcases List.mem_cons.mp (I.stkSub _ z) with e | e
    · have h1 := I.lt
      rw [← e] at h1
      exact Nat.lt_irrefl _ (Nat.lt_of_lt_of_le h1 hf)
    · exact I.nofs hf e
  cases hc : codeAmong pos ps.toList with
  | none =>
    refine PySem.W.kla_makeFunction (mg := X.mg) (c := c) (P := P) (ps := ps) (closure_ok hfree) I.ok.glob (I.mod.glob.keeps I.bk) hcode (TB.code.keeps I.bk) hP' ht hc TB.gP bP fun c' ctv h' tk hx hge hlt hrec htb => ?_
    obtain ⟨c2, oc, vs, t, e2, hoc, hd, hv⟩ := hrec
    cases e2
    have hsz : s.heap.objs.size ≤ h'.objs.size := Nat.le_trans hge (Nat.le_of_lt hlt)
    have nC : H c' = none := I.hok.fresh hge
    have I1 := inv_table (t' := tk) (more := #[rawInt pos.line, rawInt pos.col, .ref c']) (h' := h'.push (PySem.W.kla_obj "<lambda>" (X.env.qual ++ "<lambda>") params body scope (cloFrom X.env.cells scope.names []) ((X.mg "__name__").getD .none) c' ctv)) I hP
      (fun b o hb e => Heap.get?_push_of_some _ (hx b o hb e)) (Heap.get?_push_of_some _ htb) hge ⟨oc, vs, t, Heap.get?_push_of_some _ hoc, hd, hv⟩
    have hE : ExtN H (upd (upd H P (.tbl (ps ++ #[rawInt pos.line, rawInt pos.col, .ref c']))) c' (CodeO c' (X.env.qual ++ "<lambda>"))) := fun b o e n => by
      rw [upd_ne (ne_of_none e nC), upd_ne (fun z => n ps (Option.some.inj (e.symm.trans (by rw [z]; exact hP))))]
      exact e
    have eL : (ps ++ #[rawInt pos.line, rawInt pos.col, .ref c']).toList = ps.toList ++ [rawInt pos.line, rawInt pos.col, .ref c'] := by simp
    refine h h'.objs.size c' ((X.mg "__name__").getD .none) ctv _ _ I1 hE (fun b hb => by
      by_cases e1 : b = c'
      · rw [e1, upd_same]; exact fun z => nomatch z
      · rw [upd_ne e1]
        by_cases e2 : b = P
        · rw [e2, upd_same]; exact fun z => nomatch z
        · rw [upd_ne e2]; exact hb) (fun p hp => ?_) (Heap.get?_push_size _ rfl) ?_ (nofr _ hsz) upd_same
    · by_cases hb : p.1 = P
      · rw [hu p hp hb, hb]
        refine ⟨_, by rw [upd_ne (ne_of_none hP nC), upd_same], by rw [eL]; exact PySem.TriplesOk_snoc _ _ _ _ ht, fun p' cv hcv => ?_⟩
        rw [eL] at hcv
        rcases among_app _ ht hcv with z | z
        · obtain ⟨c0, e1, e2⟩ := ha p' cv z
          exact ⟨c0, e1, hE _ _ e2 codeO_ne⟩
        · exact ⟨c', z, upd_same⟩
      · obtain ⟨ps', a1, a2, a3⟩ := hT p hp
        refine ⟨ps', by rw [upd_ne (ne_of_none a1 nC), upd_ne hb]; exact a1, a2, fun p' cv hcv => ?_⟩
        obtain ⟨c0, e1, e2⟩ := a3 p' cv hcv
        exact ⟨c0, e1, hE _ _ e2 codeO_ne⟩
    · have n1 : h'.objs.size ≠ c' := Nat.ne_of_gt hlt
      have n2 : h'.objs.size ≠ P := Nat.ne_of_gt (Nat.lt_of_lt_of_le (Heap.lt_size hP') hsz)
      rw [upd_ne n1, upd_ne n2]
      exact I.hok.fresh hsz
  | some cv =>
    obtain ⟨c', e, hco⟩ := ha pos cv hc
    subst e
    refine PySem.W.kla_makeFunctionHit (mg := X.mg) (c := c) (P := P) (ps := ps) (closure_ok hfree) I.ok.glob (I.mod.glob.keeps I.bk) hcode (TB.code.keeps I.bk) hP' ht hc bP fun ctv h' tk hx hsz => ?_
    have I1 : Inv X pins σ H { s with heap := h'.push (PySem.W.kla_obj "<lambda>" (X.env.qual ++ "<lambda>") params body scope (cloFrom X.env.cells scope.names []) ((X.mg "__name__").getD .none) c' ctv), toks := tk } := I.kept fun b o e => Heap.get?_push_of_some _ (hx b o e)
    exact h h'.objs.size c' ((X.mg "__name__").getD .none) ctv H _ I1 (ExtN.refl H) (fun _ h => h) hT (Heap.get?_push_size _ rfl) (I.hok.fresh hsz) (nofr _ hsz) hco
end
def tLamA (T : List (Addr × Str)) (TT : (XK → Hp → VK → Prop) → Hp → VK → Prop) (t : XK → TE) : TE := fun σ H Q => Tabs T H ∧ ∀ H1, ExtN H H1 → (∀ b, H b ≠ none → H1 b ≠ none) → Tabs T H1 → TT (fun E H' Q' => t E σ H' Q') H1 Q
section
variable {X : Cx}
/-- x(lambda: body) -/
theorem pe_lamcallA {T : List (Addr × Str)} {TT : (XK → Hp → VK → Prop) → Hp → VK → Prop} {x a : Str} {g c P : Addr} {k : Nat} {pg : Arguments} {bg : List Stmt} {sg : Scope} {dV kV doc pm cdv ct oc : Value} {an od : Option Addr} {osl : Array (Option Value)} {Ng : List Str}
    {params : Arguments} {body : Expr} {scope : Scope} {t : XK → TE} {p lpos pos : Pos} (hg : Gl X x) (hm : X.mg x = some (.ref g)) (hk : PySem.W.keepIn X.K (.ref g) = true)
    (lk : X.K.lookup g = some ⟨oc, od, .func (PySem.W.fnOf x x pg bg sg dV kV doc pm an cdv ct), osl⟩) (hcg : PySem.W.codeIn X.K cdv x = true) (hb : L2.Binds X.K (PySem.W.fnOf x x pg bg sg dV kV doc pm an cdv ct) [a] []) (Sg : FnScope Ng [a] sg) (hNg : Ng[0]? = some a) (hva : Vis sg a)
    (hG : GivesTo X Ng x sg g cdv bg a (X.env.qual ++ "<lambda>") TT)
    (TB : TabB X.base X.mg c P) (hcode : X.env.code = .ref c) (hmT : (P, X.env.qual ++ "<lambda>") ∈ T) (hu : ∀ p ∈ T, p.1 = P → p.2 = X.env.qual ++ "<lambda>") (hr : Room (k + 2) X.A) (L : LamS X.env.scope scope) (hdef : defaultsOf params X.env = ([], []))
    (hbind : ∀ (q : Str) (cl : List (Str × Addr)) (pm cv ctv : Value), bindArgs (PySem.W.kla_fn "<lambda>" q params body scope cl pm cv ctv) ⟨[], []⟩ = pure [])
    (hbody : ∀ (A : Around) (outer : List Env) (s : Shared) (H : Hp) (E : XK) (f c' : Addr), Room k (A.deeper (lamEnv X scope s.heap.objs.size f c')) → PE (lamCx X A outer s H E scope f c') body (t E))
    (hdb : (x == ("__debug__" : Str)) = false := by decide) (hd : (a == ("__debug__" : Str)) = false := by decide) (hcd : (a == ("__classdict__" : Str)) = false := by decide) :
    PE X (.Call (.Name x p) [.Lambda params body scope lpos] [] pos) (tLamA T TT t) := by
  refine ⟨fun pins s σ H Q I h => ?_⟩
  obtain ⟨hT, h⟩ := h
  refine wpAny_Call_Name_kw (ld_glob I hg hm ?_ hdb)
  refine PySem.W.callWith_K (h₀ := X.base) I.ok.mod.kin hk ?_ (by rfl) (by rfl)
  show wpAny _ _ (spliced ((false, eval (.Lambda params body scope lpos) X.env) :: backTo pos (starEach [] X.env))) _ _ s
  refine Calls.spliced_cons (lam_mk I TB hcode hmT hu hT hdef (L.has I.ok) fun f c' pm' ctv H1 s' I1 eN eA T1 hf hfn hfr hco => ?_)
  refine Calls.spliced_nil ⟨I1.kIn, ?_⟩
  have rc : codeAny (model X.prog X.w) X.A (.call (.ref g) ⟨[.ref f], []⟩) (CR C8.CX0 X.stack X.prog X.w H1 s' Q C8.E0) s' := by
    refine run_ofS (N := Ng) (ps := [a]) (us := [.ref f]) (vs := [.ref f]) lk hcg Sg hr I1.env0 (hb s' [.ref f] I1.kIn rfl) (.cons rfl .nil) rfl fun hr' => ?_
    obtain ⟨t', ht', hq'⟩ := hG f c' s' H1 Q (fun E H' Q' => t E σ H' Q') (fun W pn xe E p1 p2 tk hW => pe_act (i := 0) I1 L hf hfn hfr (hbind _ _ _ _ _) tk hW hr' (fun A outer s H hr2 => hbody A outer s H E f c' hr2) hNg hva hd hcd) hco (h H1 eN eA T1)
    exact ⟨t', ht'.nox, hq'⟩
  refine wpAny_call (codeAny_mono rc fun r s2 hq => ?_)
  cases r with
  | error e => exact (show False from hq).elim
  | ok fl =>
    cases fl with
    | ret u => exact I1.after hq
    | next => exact False.elim hq
    | brk => exact False.elim hq
    | cont => exact False.elim hq
end
end LamX
end
section
set_option Elab.async false
set_option linter.all false
set_option maxRecDepth 100000
/-! sorted(range(n), key=lambda x: (t[x], x)), t a captured tuple of ints. -/
namespace Lr
open PySem PySem.Spec PyProof.Rows L2 PySem.W
section
variable {prog : Program} {w : World} {A : Around} {s : Shared}
/-- a call of the key -/
theorem key_call {f a c c' : Addr} {xn tn q : Str} {params : Arguments} {p1 p2 p3 p4 p5 : Pos} {k1 : Nat} {scope : Scope} {cl : List (Str × Addr)} {pm ctv : Value} {its : List Value} {i : Nat} {m : Int} {t u : Tok} {n1 : Nat}
    (hroom : A.depth < recursionLimit) (hnl : s.heap.NoLimit) (hf : s.heap.get? f = some (kla_obj "<lambda>" q params (.Tuple [.Subscript (.Name tn p1) (.Name xn p2) p3, .Name xn p4] k1 p5) scope cl pm c' ctv)) (hcd : s.heap.CodeRec (.ref c') q)
    (hbind : bindArgs (kla_fn "<lambda>" q params (.Tuple [.Subscript (.Name tn p1) (.Name xn p2) p3, .Name xn p4] k1 p5) scope cl pm (.ref c') ctv) ⟨[.int i u], []⟩ = pure [(xn, .int i u)])
    (hk : scope.kind = .function) (hco : scope.isCoroutine = false) (hgen : scope.isGenerator = false) (hcell : ∀ y ∈ scope.names, y.2 ≠ .cell) (hx : scope.names.lookup xn = some .local) (ht : scope.names.lookup tn = some .free) (hc : cl.lookup tn = some c)
    (hv : s.heap.IsCell c (some (.ref a))) (hi : IsTup s.heap a its.toArray) (hm : its[i]? = some (.int m t)) (hz : its.length ≤ 1000)
    (dx : (xn == ("__debug__" : Str)) = false) (dt : (tn == ("__debug__" : Str)) = false) (dt2 : (tn == ("__classdict__" : Str)) = false)
    (hs : ∀ o j, subscripted (.Name xn p2) false o j = operate [o, j] (getItem o j)) :
    wpAny (model prog w) A (call (.ref f) [.int i u]) (KeyPure (.tuple [.int m, .int i]) s) (fun _ _ => False) s := by
  refine wpAny_call (codeAny_mono (R := fun r s' => match r with
    | .ok (.ret v) => KeyPure (.tuple [.int m, .int i]) s v s'
    | _ => False) (kla_callFunE hroom hf rfl hco hgen rfl hcd ?_) fun r s' hq => ?_)
  · rw [hbind]
    refine wpAny_pure (wpAny_newFunctionEnv hcell (fun y hy => ?_) (fun h₁ hns hsb => ⟨hnl.fresh _ hsb, ?_⟩) hk)
    · have e : y = (xn, .int i u) := by simpa using hy
      rw [e]; exact hx
    have kp : ∀ b o, s.heap.get? b = some o → h₁.get? b = some o := fun b o e => hsb.extBut b o (Nat.ne_of_lt (Heap.lt_size e)) (Heap.get?_push_of_some _ e)
    refine kla_codeExpr ?_
    generalize hE : newEnv scope s.heap.objs.size (kla_fn "<lambda>" q params (.Tuple [.Subscript (.Name tn p1) (.Name xn p2) p3, .Name xn p4] k1 p5) scope cl pm (.ref c') ctv).globals cl (q ++ ".<locals>.") (some f) (.ref c') none (kla_fn "<lambda>" q params (.Tuple [.Subscript (.Name tn p1) (.Name xn p2) p3, .Name xn p4] k1 p5) scope cl pm (.ref c') ctv).builtins = env
    have e1 : env.scope.kind = .function := by rw [← hE]; exact hk
    have e2 : env.kindOf xn = some .local := by rw [← hE]; exact hx
    have e3 : env.kindOf tn = some .free := by rw [← hE]; exact ht
    have e4 : env.cells.lookup tn = some c := by rw [← hE]; exact hc
    have e5 : env.locals = s.heap.objs.size := by rw [← hE]; rfl
    have hns' : h₁.Ns env.locals fun x => ([(xn, Value.int i u)] : List (Str × Value)).reverse.lookup x := by rw [e5]; exact hns
    have gx : ([(xn, Value.int i u)] : List (Str × Value)).reverse.lookup xn = some (.int i u) := by simp
    have gi : IsTup h₁ a its.toArray := by obtain ⟨o, ho, r⟩ := hi; exact ⟨o, kp _ _ ho, r⟩
    have gc : h₁.IsCell c (some (.ref a)) := by obtain ⟨o, ho, r⟩ := hv; exact ⟨o, kp _ _ ho, r⟩
    have hlt : i < its.length := (List.getElem?_eq_some_iff.mp hm).1
    refine wpAny_Tuple_spliced (args_cons (Subscript_ (wpAny_Name (wpAny_loadName_free e1 e3 e4 gc (wpAny_Name (wpAny_loadName_local e1 e2 hns' gx (subscriptTail_builtinR (x := .int m t) (IsTup.typeIs gi) slot_tuple_getitem.lookup (getItem_tuple (j := i) gi (by omega) (by omega) ?_ (by simpa using hm) ⟨rfl, ?_⟩) (hs _ _))) dx) dt2) dt)) rfl)
    · unfold seqIndex?
      have h1 : ¬ ((i : Int) < 0) := by omega
      have h2 : (i : Int) < (its.toArray.size : Int) := by rw [List.size_toArray]; omega
      dsimp only
      rw [if_neg h1, if_pos (by rw [decide_eq_true h2, decide_eq_true (by omega : (0 : Int) ≤ (i : Int))]; rfl), Int.toNat_natCast]
    · refine args_cons (wpAny_Name (wpAny_loadName_local e1 e2 hns' gx (args_nil ?_)) dx) rfl
      refine ⟨by show 2 ≤ sizeLine; decide, ?_⟩
      refine ⟨_, _, rfl, fun b o e => Heap.get?_push_of_some _ (kp b o e), ?_⟩
      have ho : (h₁.push { cls := .type "tuple", data := .seq #[.int m t, .int i u] }).get? h₁.objs.size = some { cls := .type "tuple", data := .seq #[.int m t, .int i u] } := Heap.get?_push_size _ rfl
      exact .tuple ho rfl rfl (.cons (as := []) (bs := []) (.int m t) (.cons (as := []) (bs := []) (.int i u) .nil))
  · cases r with
    | error e => exact hq.elim
    | ok fl =>
      cases fl with
      | ret v => exact hq
      | next => exact hq.elim
      | brk => exact hq.elim
      | cont => exact hq.elim
section
variable {E : Value → Shared → Prop} {r : Addr} {a b c : Int} {t u v : Tok} {n : Nat}
theorem collect_rangeL {Q : List Value → Shared → Prop} (hh : A.handled = none) (hr : IsRange s.heap r a b c t u v) (hsmall : Builtin.Range.small a b c = true) (hn : Builtin.Range.rangeSize a b c = n) (hlen : n ≤ 2 ^ 24)
    (hQ : ∀ (h' : Heap) (tk : Nat) (acc : Array Value), (∀ b o, s.heap.get? b = some o → h'.get? b = some o) → s.heap.objs.size < h'.objs.size → ItemsOf (fun i v => ∃ t, v = Value.int (a + i * c) t) acc n → Q acc.toList { s with heap := h', toks := tk }) :
    wpAny (model prog w) A (collect (.ref r)) Q E s := by
  unfold collect
  refine wpAny_bind (wpAny_runValue (codeAny_builtin F.entry_proto_collect ?_))
  rw [Around.under_plainId F.plain_proto_collect _]
  show wpAny _ A.in1 (newList [] >>= fun l => again (.builtin "list.__iadd__" ⟨[l, .ref r], []⟩)) _ _ s
  refine wpAny_bind (wpAny_newObj_type ?_)
  refine wpAny_pure ⟨plainId_quiet F.plain_list_iadd _, codeAny_builtin F.entry_list_iadd ?_⟩
  rw [Around.under_plainId F.plain_list_iadd _]
  show wpAny _ A.in1 (Builtin.List.listExtendWith (.ref s.heap.objs.size) (.ref r) (.ref s.heap.objs.size)) _ _ _
  have hS : (s.heap.push { cls := .type "list", data := .seq ([] : List Value).toArray }).get? s.heap.objs.size = some { cls := .type "list", data := .seq #[] 0 } := Heap.get?_push_size _ rfl
  refine wpAny_mono (wpAny_extend_range (A := A) (R := fun rr s' => rr = .ok (.ret (.ref s.heap.objs.size)) ∧ ∃ (h' : Heap) (tk : Nat) (acc : Array Value) (c' : Nat), s' = { s with heap := h', toks := tk } ∧
      (∀ b o, s.heap.get? b = some o → h'.get? b = some o) ∧ h'.get? s.heap.objs.size = some { cls := .type "list", dict := none, data := .seq acc c', slots := #[] } ∧ ItemsOf (fun i v => ∃ t, v = Value.int (a + i * c) t) acc n)
    (s := { s with heap := s.heap.push { cls := .type "list", data := .seq ([] : List Value).toArray } }) hh (Heap.get?_push_of_some _ hr) hsmall hn hlen _ _ 0 hS
    (fun h' tk acc c' hk e hi => ⟨rfl, h', tk, acc, c', rfl, fun b o q => hk b o (Nat.ne_of_lt (Heap.lt_size q)) (Heap.get?_push_of_some _ q), e, hi⟩)) (fun fin s' h => ?_) (fun e s' h => ?_)
  · cases fin with
    | done f =>
      obtain ⟨e, h', tk, acc, c', rfl, hk, hS', hi⟩ := h
      cases e
      show wpAny _ A (load s.heap.objs.size >>= _) _ _ _
      exact wpAny_bind (wpAny_load hS' (wpAny_pure (hQ h' tk acc hk (Heap.lt_size hS') hi)))
    | again c' =>
      refine ⟨h.1, codeAny_mono h.2 fun rr s'' hr' => ?_⟩
      obtain ⟨rfl, h', tk, acc, c', rfl, hk, hS', hi⟩ := hr'
      show wpAny _ A (load s.heap.objs.size >>= _) _ _ _
      exact wpAny_bind (wpAny_load hS' (wpAny_pure (hQ h' tk acc hk (Heap.lt_size hS') hi)))
  · exact absurd h.1 (by simp)

end
/-- the ints 0 .. n - 1, by the keys -/
abbrev ordD (ns : List Int) (n : Nat) : List Nat := (List.range n).mergeSort (dataLe false fun i : Nat => PyData.tuple [.int (ns.getD i 0), .int (i : Int)])
theorem each_range {acc : Array Value} {n : Nat} (h : ItemsOf (fun i v => ∃ t, v = .int ((0 : Int) + i * 1) t) acc n) : EachIs (fun v (i : Nat) => ∃ t, v = Value.int (i : Int) t) acc.toList (List.range n) := by
  have key : ∀ (l : List Value) (k : Nat), (∀ j v, l[j]? = some v → ∃ t, v = Value.int ((k + j : Nat) : Int) t) → EachIs (fun v (i : Nat) => ∃ t, v = Value.int (i : Int) t) l (List.range' k l.length) := by
    intro l
    induction l with
    | nil => exact fun k _ => .nil
    | cons x l ih =>
      intro k h
      refine .cons ?_ (ih (k + 1) fun j v e => ?_)
      · obtain ⟨t, e⟩ := h 0 x rfl
        exact ⟨t, by simpa using e⟩
      · obtain ⟨t, e2⟩ := h (j + 1) v e
        exact ⟨t, by rw [e2]; congr 1; omega⟩
  have := key acc.toList 0 fun j v e => by
    obtain ⟨t, e2⟩ := h.2 j v (by rw [← Array.getElem?_toList]; exact e)
    exact ⟨t, by rw [e2]; congr 1; omega⟩
  rw [Array.length_toList, h.1] at this
  rw [List.range_eq_range']; exact this
theorem sorted_range_key {f : Value} {r : Addr} {n : Nat} {ns : List Int} {Q : Value → Shared → Prop} {E : Value → Shared → Prop} {t u v : Tok} (hh : A.handled = none) (hr : IsRange s.heap r 0 (n : Int) 1 t u v) (hn : n ≤ 1000) (hu : A.units + 64 < cLine) (q : Addr) (hfq : f = .ref q)
    (turn : ∀ (i : Nat) (tk : Tok), i < n → ∀ (h : Heap) (tk' : Nat), (∀ b o, s.heap.get? b = some o → h.get? b = some o) →
      wpAny (model prog w) A.in1.in1 (call f [.int (i : Int) tk]) (KeyPure (.tuple [.int (ns.getD i 0), .int (i : Int)]) { s with heap := h, toks := tk' }) (fun _ _ => False) { s with heap := h, toks := tk' })
    (h : ∀ (out : List Value) (c : Nat) (p : Addr) (h' : Heap) (tk : Nat), (∀ b o, s.heap.get? b = some o → h'.get? b = some o) → s.heap.objs.size ≤ p → h'.get? p = some (seqObj "list" (List.toArray out) c) → EachIs (fun v (i : Nat) => ∃ t, v = Value.int (i : Int) t) out (ordD ns n) → Q (.ref p) { s with heap := h', toks := tk }) :
    wpAny (model prog w) A (call (.builtin "sorted") [.ref r] [(Str.ofString "key", f)]) Q E s := by
  subst hfq
  refine call_function_entry_kw kind_sorted plain_sorted entry_sorted (ksk_s1 _ _) ?_
  unfold Builtin.«sorted»
  refine wpAny_bind (m := checkCount "sorted" 1 1 _) (wpAny_pure ?_)
  refine wpAny_bind (collect_rangeL (A := A.in1) (n := n) hh hr (small_one (by omega) (by omega) (by omega) (by omega)) (by rw [rangeSize_nat]; omega) (by omega) fun h' tk acc hk hlt it => ?_)
  refine wpAny_bind (wpAny_newList ?_ (by rw [Array.length_toList, it.1, sizeLine_eq]; omega))
  have hle : s.heap.objs.size ≤ h'.objs.size := Nat.le_of_lt hlt
  have kp : ∀ b o, s.heap.get? b = some o → (h'.push { cls := .type "list", data := .seq acc.toList.toArray }).get? b = some o := fun b o e => Heap.get?_push_of_some _ (hk b o e)
  have ne : ∀ b o, s.heap.get? b = some o → b ≠ h'.objs.size := fun b o e z => by
    have := Heap.lt_size (hk b o e)
    rw [z] at this
    exact Nat.lt_irrefl _ this
  have ho2 : (h'.push { cls := .type "list", data := .seq acc.toList.toArray }).get? h'.objs.size = some (seqObj "list" acc.toList.toArray 0) := Heap.get?_push_size _ rfl
  have alk : ∀ i : Nat, ∃ m : Int, PyData.tuple [.int (ns.getD i 0), .int (i : Int)] = PyData.tuple [.int m, .int (i : Int)] := fun i => ⟨_, rfl⟩
  refine wpAny_bind (wpAny_holding (wpAny_mono (list_sort_key_data (A := A.in1) (β := Nat) (bs := List.range n) (b := false) (f := .ref q) (kw := [(Str.ofString "key", .ref q)]) (R := fun v (i : Nat) => ∃ t, v = Value.int (i : Int) t) (Q := fun _ s' => Q (.ref h'.objs.size) s')
    (fun i : Nat => PyData.tuple [.int (ns.getD i 0), .int (i : Int)]) ho2 (each_range it) ?_ ?_ (by rw [List.length_range, sizeLine_eq]; omega) ?_ (ksk_l1 _ _) (ksk_t1 _ _) ?_ ?_) (fun _ s' x => ?_) fun _ _ e => e))
  · intro d hd d' hd'
    obtain ⟨i, _, rfl⟩ := List.mem_map.mp hd
    obtain ⟨j, _, rfl⟩ := List.mem_map.mp hd'
    rfl
  · exact .inl fun d hd => by
      obtain ⟨i, _, rfl⟩ := List.mem_map.mp hd
      exact ⟨_, _, rfl⟩
  · intro i _
    have h2 : (PyData.tuple [.int (ns.getD i 0), .int (i : Int)]).depth ≤ 8 := depth_ints [ns.getD i 0, (i : Int)]
    show A.units + 1 + 1 + (PyData.tuple [.int (ns.getD i 0), .int (i : Int)]).depth < cLine
    omega
  · rintro v i ⟨tk', rfl⟩ hi hh tk2 kb
    exact turn i tk' (List.mem_range.mp hi) hh tk2 fun b o e => kb b o (ne b o e) (kp b o e)
  · intro out c hh tk2 kb hl hlen he
    exact h out c h'.objs.size hh tk2 (fun b o e => kb b o (ne b o e) (kp b o e)) hle hl he
  · exact wpAny_pure ⟨_, rfl, x⟩
end
/-- sorted(range(e), key=lambda x: (t[x], x)); t's slot is i -/
def tSortLam (K : PySem.W.Frag) (T : List (Addr × Str)) (i : Nat) (ta : TE) : TE := fun σ H Q => ta σ H fun x H1 => ∃ (n : Nat) (a : Addr) (ns : List Int), x = .int (n : Int) ∧ n ≤ ns.length ∧ ns.length ≤ 1000 ∧ σ[i]? = some (some (.ref a)) ∧ SqT K H1 a (ns.map V.int) ∧ LamX.Tabs T H1 ∧
  ∀ r, H1 r = none → ∀ H2, LamX.ExtN (upd H1 r (.rng 0 (n : Int))) H2 → (∀ b, upd H1 r (.rng 0 (n : Int)) b ≠ none → H2 b ≠ none) → LamX.Tabs T H2 → ∀ p, H2 p = none → Q (.ref p) (upd H2 p (.lst ((ordD ns n).map fun i : Nat => V.int (i : Int))))
theorem sqT_extN {K : PySem.W.Frag} {H H' : Hp} {a : Addr} {xs : List V} (h : SqT K H a xs) (e : LamX.ExtN H H') : SqT K H' a xs := by
  rcases h with (h | ⟨o, h⟩) | h
  · exact .inl (.inl (e a _ h nofun))
  · exact .inl (.inr ⟨o, e a _ h nofun⟩)
  · exact .inr h
theorem each_ints : ∀ {out : List Value} {l : List Nat}, EachIs (fun v (i : Nat) => ∃ t, v = Value.int (i : Int) t) out l → Vals (l.map fun i : Nat => V.int (i : Int)) out
  | _, _, .nil => .nil
  | _, _, .cons r t => .cons r (each_ints t)
structure LamK (sc scope : Scope) (xn tn : Str) : Prop where
  kind : scope.kind = .function
  co : scope.isCoroutine = false
  gen : scope.isGenerator = false
  names : scope.names = [(xn, .local), (tn, .free)]
  cell : sc.names.lookup tn = some .cell
  ne : xn ≠ tn
section
variable {X : Cx} {e : Expr} {ta : TE} {xn tn : Str} {params : Arguments} {scope : Scope} {p p2 pos pos2 p1 p3 p4 p5 p6 lpos kpos : Pos} {k1 i : Nat} {c P : Addr} {T : List (Addr × Str)}
theorem pe_sortLam (hg : Gl X "sorted") (hm : X.mg "sorted" = none) (hgr : Gl X "range") (hmr : X.mg "range" = none) (ha : PE X e ta) (hr : Room 1 X.A) (TB : LamX.TabB X.base X.mg c P) (hcode : X.env.code = .ref c) (hmT : (P, X.env.qual ++ "<lambda>") ∈ T) (hu : ∀ p ∈ T, p.1 = P → p.2 = X.env.qual ++ "<lambda>")
    (L : LamK X.env.scope scope xn tn) (hN : X.N[i]? = some tn) (hdef : defaultsOf params X.env = ([], []))
    (hbind : ∀ (q : Str) (cl : List (Str × Addr)) (pm cv ctv v : Value), bindArgs (kla_fn "<lambda>" q params (.Tuple [.Subscript (.Name tn p1) (.Name xn p3) p4, .Name xn p5] k1 p6) scope cl pm cv ctv) ⟨[v], []⟩ = pure [(xn, v)])
    (dx : (xn == ("__debug__" : Str)) = false) (dt : (tn == ("__debug__" : Str)) = false) (dt2 : (tn == ("__classdict__" : Str)) = false)
    (na : starEach [e] X.env = (false, eval e X.env) :: starEach [] X.env := by rfl) (hs : ∀ o j, subscripted (.Name xn p3) false o j = operate [o, j] (getItem o j) := by intro _ _; rfl) :
    PE X (.Call (.Name "sorted" p) [.Call (.Name "range" p2) [e] [] pos2] [⟨some "key", .Lambda params (.Tuple [.Subscript (.Name tn p1) (.Name xn p3) p4, .Name xn p5] k1 p6) scope lpos, kpos⟩] pos) (tSortLam X.K T i ta) := by
  refine ⟨fun pins s σ H Q I h => ?_⟩
  refine wpAny_Call_Name_kw (ld_blt I hg hm boot_sorted ?_)
  refine PyProof.Rows.callWith_kw (args_cons ?_ rfl) rfl rfl rfl rfl
  refine Call_ (ld_blt I hgr hmr boot_range (PyProof.Rows.callWith_type1 (one_arg ha I h (fun v s1 x H1 I1 r1 q1 => ?_) na) na))
  obtain ⟨n, a, ns, rfl, hn, hz, hsi, hq, hT, q1⟩ := q1
  obtain ⟨t, rfl⟩ := r1
  refine call_range_1 (args_nil ?_)
  -- the range is tracked
  have hrn : H1 s1.heap.objs.size = none := I1.hok.fresh (Nat.le_refl _)
  have I2 := I1.laid (a := s1.heap.objs.size) (o := .rng 0 (n : Int)) (h' := s1.heap.push { cls := .type "range", data := .fields #[.int 0 s1.toks, .int (n : Int) t, .int 1 (s1.toks + 1)] }) (t' := s1.toks + 1 + 1) (fun _ _ q => Heap.get?_push_of_some _ q) (Nat.le_refl _) ⟨_, _, _, Heap.get?_push_size _ rfl⟩
  have q2 := q1 _ hrn
  have hT2 : LamX.Tabs T (upd H1 s1.heap.objs.size (.rng 0 (n : Int))) := LamX.Tabs.ext hT fun b o e => by rw [upd_ne (ne_of_none e hrn)]; exact e
  refine wpAny_evalAll_cons (wpAny_bind (LamX.lam_mk I2 TB hcode hmT hu hT2 hdef (fun y hy hf => ?_) fun f c' pm ctv H2 s2 I3 eN eA T1 hf hfn hfr hco => wpAny_bind (wpAny_standAt (wpAny_pure (wpAny_evalAll_nil ?_)))))
  · rw [L.names] at hy
    simp only [List.mem_cons, List.not_mem_nil, or_false] at hy
    rcases hy with rfl | rfl
    · cases hf
    · exact I1.ok.has _ (.inl L.cell)
  · have hq2 : SqT X.K H2 a (ns.map V.int) := sqT_extN hq fun b o e n => eN b o (by rw [upd_ne (ne_of_none e hrn)]; exact e) n
    obtain ⟨its, rv, ht, hz2⟩ := I3.tuple hq2
    have hrng : ∃ t u v, s2.heap.get? s1.heap.objs.size = some { cls := .type "range", data := .fields #[.int 0 t, .int (n : Int) u, .int 1 v] } := I3.hok _ (.rng 0 (n : Int)) (eN _ _ upd_same nofun)
    obtain ⟨t1, u1, v1, hrg⟩ := hrng
    -- the captured name
    obtain ⟨m, hns, hl⟩ := I3.loc
    obtain ⟨uv, ruv, lk⟩ := hl i tn (.ref a) hN hsi (.inr (.inl L.cell))
    cases ruv
    obtain ⟨cc, hcc, hcv⟩ : ∃ cc, X.env.cells.lookup tn = some cc ∧ s2.heap.IsCell cc (some (.ref a)) := by
      rcases lk with ⟨k, _⟩ | ⟨_, cc, h1, h2⟩
      · have k : X.env.scope.names.lookup tn = some .local := k
        rw [L.cell] at k; cases k
      · exact ⟨cc, h1, h2⟩
    have hclo : (cloFrom X.env.cells scope.names []).lookup tn = some cc := by
      have hy : (tn, NameKind.free) ∈ scope.names := by rw [L.names]; simp
      obtain ⟨c0, e0⟩ := mem_lookup (cloFrom_has (cells := X.env.cells) (acc := []) hy)
      rcases cloFrom_mem (PySem.mem_of_lookup e0) with hmm | ⟨_, h2⟩
      · cases hmm
      · rw [e0, h2, hcc]; rfl
    have hlen : its.length = ns.length := by rw [← rv.length, List.length_map]
    show wpAny _ _ (call (.builtin "sorted") [.ref s1.heap.objs.size] [(Str.ofString "key", .ref f)]) _ _ _
    refine sorted_range_key (n := n) (ns := ns) hr.hd hrg (by omega) hr.units f rfl (fun j tk hj hh tk' hk => ?_) fun out cc2 pp hh tk hk hp ho he => ?_
    · obtain ⟨⟨oc, vs, tq, hoc, hdc, hvc⟩, _, _⟩ := I3.hok c' _ hco
      obtain ⟨uj, huj, ruj⟩ := rv.get (i := j) (x := V.int (ns.getD j 0)) (by rw [List.getElem?_map, List.getD_eq_getElem?_getD, List.getElem?_eq_getElem (by omega)]; rfl)
      obtain ⟨tj, rfl⟩ := ruj
      refine key_call (s := { s2 with heap := hh, toks := tk' }) (n1 := 0) (by have := hr.dp; show X.A.depth < _; omega) (I3.nolimit.keeps hk) (hk _ _ hf) ⟨c', oc, vs, tq, rfl, hk _ _ hoc, hdc, hvc⟩ (hbind _ _ _ _ _ _) L.kind L.co L.gen (fun y hy => ?_) (by rw [L.names]; simp [List.lookup]) (by rw [L.names]; simp [List.lookup, beq_false_of_ne L.ne.symm]) hclo
        (by obtain ⟨o, ho, r⟩ := hcv; exact ⟨o, hk _ _ ho, r⟩) (by obtain ⟨o, ho, r⟩ := ht; exact ⟨o, hk _ _ ho, r⟩) huj (by omega) dx dt dt2 hs
      rw [L.names] at hy
      simp only [List.mem_cons, List.not_mem_nil, or_false] at hy
      rcases hy with rfl | rfl <;> exact fun z => nomatch z
    · have hlen2 : ((ordD ns n).map fun i : Nat => V.int (i : Int)).length ≤ sizeLine := by
        rw [List.length_map, (List.mergeSort_perm _ _).length_eq, List.length_range, sizeLine_eq]; omega
      exact ⟨.ref pp, _, I3.laid (t' := tk) (o := .lst ((ordD ns n).map fun i : Nat => V.int (i : Int))) hk hp ⟨hlen2, out, cc2, each_ints he, ho⟩, rfl, q2 H2 eN eA T1 pp (I3.hok.fresh hp)⟩
end
end Lr
end
section
set_option Elab.async false
set_option linter.all false
set_option maxRecDepth 100000
/-! Defs whose code object is known; defs where no guard stands; the lambda that is heard. -/
namespace FK
open PySem PySem.Spec PyProof.Rows L2 Lg Lr RZ
/-- a def whose code object is at c -/
structure FunC (K : PySem.W.Frag) (x : Str) (params : Arguments) (body : List Stmt) (scope : Scope) (f c : Addr) (fd : FuncData) : Prop where
  ex : ∃ (oc : Value) (od : Option Addr) (dV kV doc pm : Value) (an : Option Addr) (ct : Value) (osl : Array (Option Value)),
    fd = PySem.W.fnOf x x params body scope dV kV doc pm an (.ref c) ct ∧ K.lookup f = some ⟨oc, od, .func fd, osl⟩ ∧ PySem.W.codeIn K (.ref c) x = true ∧ L2.DflV K dV [] ∧ L2.KwdV K kV []
  kp : PySem.W.keepIn K (.ref f) = true
theorem FunC.d {K : PySem.W.Frag} {x : Str} {params : Arguments} {body : List Stmt} {scope : Scope} {f c : Addr} {fd : FuncData} (F : FunC K x params body scope f c fd) : FunD K x x params body scope [] [] f fd := by
  obtain ⟨oc, od, dV, kV, doc, pm, an, ct, osl, h1, h2, h3, h4, h5⟩ := F.ex
  exact ⟨⟨oc, od, dV, kV, doc, pm, an, _, ct, osl, h1, h2, h3, h4, h5⟩, F.kp⟩
section
variable {P : Program} {w : World} {K : PySem.W.Frag} {mg : Str → Option Value} {base : Heap} {CX : CXT} {N ps : List Str} {k : Nat} {sp : Sp} {x : Str} {params : Arguments} {body : List Stmt} {scope : Scope} {f c : Addr} {fd : FuncData}
theorem FunC.ok (F : FunC K x params body scope f c fd) (S : FnScope N ps scope) (len : ∀ vs H Q E, sp vs H Q E → vs.length = ps.length)
    (hbody : ∀ (A : Around) (outer : List Env) (s : Shared) (H : Hp) (vs : List V) (Q : VK) (E : XK), Room k (A.deeper (envOfC x scope s.heap.objs.size f (.ref c))) → sp vs H Q E →
      ∃ t, PSs (cxOf CX P w K mg base N x scope f (.ref c) A outer s H E) body t ∧ t { nx := fun _ H' => Q .non H', rt := Q } (L2.start N vs) H) : FnOk P w K mg base CX (k + 1) f fd ps sp := by
  obtain ⟨oc, od, dV, kV, doc, pm, an, ct, osl, rfl, lk, hcd, _, _⟩ := F.ex
  exact fn_of lk hcd S len fun A outer s H vs Q E hr hsp => hbody A outer s H vs Q E hr hsp
theorem FunC.okG (F : FunC K x params body scope f c fd) (S : FnScope N ps scope) (len : ∀ vs H Q E, sp vs H Q E → vs.length = ps.length)
    (hbody : ∀ (A : Around) (outer : List Env) (s : Shared) (H : Hp) (vs : List V) (Q : VK) (E : XK), A.guards = some [] → Room k (A.deeper (envOfC x scope s.heap.objs.size f (.ref c))) → sp vs H Q E →
      ∃ t, PSs (cxOf CX P w K mg base N x scope f (.ref c) A outer s H E) body t ∧ t { nx := fun _ H' => Q .non H', rt := Q } (L2.start N vs) H) : FnG P w K mg base CX (k + 1) f fd ps sp := by
  obtain ⟨oc, od, dV, kV, doc, pm, an, ct, osl, rfl, lk, hcd, _, _⟩ := F.ex
  exact ⟨len, fun A outer s H args us vs Q E hg hr e0 hb r hsp => LamX.run_ofS lk hcd S hr e0 hb r (len _ _ _ _ hsp) fun hr' => hbody A outer s H vs Q E hg hr' hsp⟩
end
/-- how such a def is called -/
structure OkG (P : Program) (w : World) (K : PySem.W.Frag) (mg : Str → Option Value) (base : PySem.Heap) (CX : CXT) (k : Nat) (x : Str) (ps : List Str) (sp : Sp) : Prop where
  ex : ∃ f fd, L2.Binds K fd ps [] ∧ FnG P w K mg base CX k f fd ps sp ∧ mg x = some (.ref f) ∧ PySem.W.keepIn K (.ref f) = true
section
variable {X : Cx} {CX : CXT} {k : Nat} {ps : List Str} {sp : Sp} {E : XK} {x : Str} {p pos : Pos} {e : Expr} {es : List Expr} {t : TA}
theorem pe_okG (F : OkG X.prog X.w X.K X.mg X.base CX k x ps sp) (hgd : X.A.guards = some []) {j : Nat} (hr : Room j X.A) (hj : k ≤ j) (hg : Gl X x) (hx : Passes CX X E) (ha : PA X (e :: es) t) (hdb : (x == ("__debug__" : Str)) = false := by decide)
    (he : starEach (e :: es) X.env = (false, eval e X.env) :: starEach es X.env := by rfl) (hpl : (backTo pos (starEach es X.env)).any (·.1) = false := by rfl) : PE X (.Call (.Name x p) (e :: es) [] pos) (tCall sp [] E t) := by
  obtain ⟨f, fd, hb, hF, hm, hk⟩ := F.ex
  exact pe_callG hF hgd (hr.mono hj) hg hm hk hb hx ha hdb he hpl
end
/-! ### what is heard -/
abbrev N_law_heard : List Str := ["_law_act", "error"]
theorem sc_law_heard : FnScope N_law_heard ["_law_act"] (defScope (top 54)) := ⟨rfl, rfl, rfl, by decide +kernel, rfl, by decide +kernel, by decide +kernel⟩
/-- ('told', x), ('cannot', n) -/
def THeard (K : PySem.W.Frag) (aC : Addr) : (XK → Hp → VK → Prop) → Hp → VK → Prop := fun tl H Q =>
  tl (fun cls d H' => cls = .ref aC ∧ ∃ (dd : Addr) (n : Int), d = some dd ∧ H' dd = some (.xd [("index", .int n)]) ∧ ∀ p, H' p = none → Q (.ref p) (upd H' p (.tup [.str "cannot", .int n]))) H fun y H1 => [V.str "told", y].length ≤ sizeLine ∧ ∀ p, H1 p = none → Q (.ref p) (upd H1 p (.tup [.str "told", y]))
section
variable {X : Cx} {aC fI g : Addr} {fdI : FuncData} {cdg : Value} {q : Str}
theorem heard_gives (C : Cb X.prog X.K X.mg aC fI fdI) : LamX.GivesTo X N_law_heard "_law_heard" (defScope (top 54)) g cdg (defBody (top 54)) "_law_act" q (THeard X.K aC) := by
  intro f c' s H Q tl act hc h
  let Y := (cxOf C8.CX0 X.prog X.w X.K X.mg X.base N_law_heard "_law_heard" (defScope (top 54)) g cdg X.A X.stack s H C8.E0).nox
  refine ⟨_, pss_one (Lx.ps_try_as1 (X := Y) (c := .ref aC) (i := 1)
      (tb := fun W D σ H => ∃ Ech : XK, (∀ cls d σ' H', Ech cls d H' → W cls d σ' H') ∧ tRet (tTup (tCons (tC (.str "told")) (tCons (fun σZ HZ Q => σZ[0]? = some (some (.ref f)) ∧ HZ c' = some (LamX.CodeO c' q) ∧ tl Ech HZ Q) tNil))) D σ H)
      rfl rfl sc_law_heard.nd rfl rfl ⟨rfl, by decide, .inl C.gC⟩ (fun W pn xe tk _ => ?_) (fun a oe cls d pn hz hf => pss_one (ps_ret (pe_tup (pa_cons pe_str (pa_cons (pe_xf C.xf C.no hz hf (pe_var (i := 1) rfl (.inl rfl))) pa_nil))))) ), ?_⟩
  · refine ⟨fun pins s' σ H' D I h' => ?_⟩
    obtain ⟨Ech, hW, h1⟩ := h'
    have hp := fun p1 p2 => act W pn xe Ech p1 p2 tk hW
    refine PSs.run ?_ pins s' σ H' D I h1
    exact pss_one (ps_ret (pe_tup (pa_cons pe_str (pa_cons (hp _ _) pa_nil))))
  · refine ⟨fun cls d H' => cls = .ref aC ∧ ∃ (dd : Addr) (n : Int), d = some dd ∧ H' dd = some (.xd [("index", .int n)]) ∧ ∀ p, H' p = none → Q (.ref p) (upd H' p (.tup [.str "cannot", .int n])), ?_, ?_⟩
    · rintro cls d σ' H' ⟨rfl, dd, n, rfl, hdd, hq⟩
      refine ⟨C.exm, fun hl a ha => ?_⟩
      match σ', hl with
      | [x, y], _ => exact ⟨.ref a, rfl, rfl, rfl, dd, _, .int n, rfl, hdd, rfl, Nat.le_of_ble_eq_true rfl, hq⟩
    · exact ⟨rfl, hc, h⟩
end
/-- a def that makes a lambda: its code object and that one's table -/
structure LamD (K : PySem.W.Frag) (mg : Str → Option Value) (base : PySem.Heap) (T : List (Addr × Str)) (x : Str) (i : Nat) : Prop where
  ex : ∃ f c P fd, FunC K x (defArgs (top i)) (defBody (top i)) (defScope (top i)) f c fd ∧ mg x = some (.ref f) ∧ LamX.TabB base mg c P ∧ (P, x ++ ".<locals>." ++ "<lambda>") ∈ T ∧ ∀ p ∈ T, p.1 = P → p.2 = x ++ ".<locals>." ++ "<lambda>"
section
variable {X : Cx} {aC fI c P : Addr} {fdI : FuncData} {T : List (Addr × Str)} {params : Arguments} {body : Expr} {scope : Scope} {t : XK → TE} {p lpos pos : Pos} {k : Nat}
theorem pe_heard (D : Dfs X.K X.mg) (C : Cb X.prog X.K X.mg aC fI fdI) (hg : Gl X "_law_heard") (TB : LamX.TabB X.base X.mg c P) (hcode : X.env.code = .ref c) (hmT : (P, X.env.qual ++ "<lambda>") ∈ T) (hu : ∀ p ∈ T, p.1 = P → p.2 = X.env.qual ++ "<lambda>") (hr : Room (k + 2) X.A)
    (L : LamX.LamS X.env.scope scope) (hdef : defaultsOf params X.env = ([], [])) (hbind : ∀ (q : Str) (cl : List (Str × Addr)) (pm cv ctv : Value), bindArgs (PySem.W.kla_fn "<lambda>" q params body scope cl pm cv ctv) ⟨[], []⟩ = pure [])
    (hbody : ∀ (A : Around) (outer : List Env) (s : Shared) (H : Hp) (E : XK) (f c' : Addr), Room k (A.deeper (LamX.lamEnv X scope s.heap.objs.size f c')) → PE (LamX.lamCx X A outer s H E scope f c') body (t E)) :
    PE X (.Call (.Name "_law_heard" p) [.Lambda params body scope lpos] [] pos) (LamX.tLamA T (THeard X.K aC) t) := by
  obtain ⟨f, fd, F, hm⟩ := D.law_heard
  have hb := F.bindsN (ps := ["_law_act"]) fun _ _ _ _ _ _ us hl => match us, hl with | [_], _ => rfl
  have hkp := F.kp
  obtain ⟨oc, od, dV, kV, doc, pm, an, cdv, ct, osl, rfl, lk, hcd, _, _⟩ := F.ex
  exact LamX.pe_lamcallA (Ng := N_law_heard) hg hm hkp lk hcd hb sc_law_heard rfl (.inl rfl) (heard_gives C) TB hcode hmT hu hr L hdef hbind hbody
end
end FK
end
section
set_option Elab.async false
set_option linter.all false
set_option maxRecDepth 100000
set_option maxHeartbeats 0
/-! The head: what the top leaves. -/
namespace FK
open PySem PySem.Spec PyProof.Rows L2
def dOf (x : Str) (i : Nat) : He.DefD := ⟨(x, none), x, x, defArgs (top i), defBody (top i), defScope (top i), [], []⟩
def fnA : List He.DefD := [dOf "rooms_within" 5, dOf "sizes_of" 6, dOf "things_within" 7, dOf "known_sizes" 9, dOf "are_sizes" 10, dOf "stepped" 11, dOf "tightened" 12, dOf "first_knowledge" 14, dOf "taken_out" 15, dOf "amid" 16, dOf "lost_one" 17, dOf "led" 18, dOf "led_by" 19, dOf "knowledge_behind" 20, dOf "words_through" 21, dOf "can_be" 22, dOf "by_things" 25, dOf "next_numbers" 26, dOf "floor_numbers" 27, dOf "count_states" 28, dOf "states_of" 29, dOf "_law_bag" 31, dOf "_law_take" 32, dOf "_law_one" 33, dOf "_law_house" 34, dOf "_law_mixed" 35, dOf "_law_state" 36, dOf "_law_start" 37, dOf "_law_drawn_move" 38, dOf "_law_done" 39]
def fnB : List He.DefD := [dOf "_law_run" 40, dOf "_law_flat" 41, dOf "_law_full_state" 42, dOf "_law_story" 43, dOf "_law_bent_log" 44, dOf "_law_other_log" 45, dOf "_law_all_states" 46, dOf "_law_within" 47, dOf "_law_sizes" 48, dOf "_law_rooms_within" 49, dOf "_law_first_states" 50, dOf "_law_asks" 51, dOf "_law_states_behind" 52, dOf "_law_states_of_log" 53, dOf "_law_heard" 54, dOf "_law_alike" 55, dOf "_law_words_by" 56, dOf "_law_is_log_right" 57, dOf "law" 58]
def fn : List He.DefD := fnA ++ fnB
def faA : List He.Fa := [.glo "rooms_within", .glo "sizes_of", .glo "things_within", .glo "known_sizes", .glo "are_sizes", .glo "stepped", .glo "tightened", .glo "first_knowledge", .glo "taken_out", .glo "amid", .glo "lost_one", .glo "led", .glo "led_by", .glo "knowledge_behind", .glo "words_through", .glo "can_be", .glo "by_things", .glo "next_numbers", .glo "floor_numbers", .glo "count_states", .glo "states_of", .glo "_law_bag", .glo "_law_take", .glo "_law_one", .glo "_law_house", .glo "_law_mixed", .glo "_law_state", .glo "_law_start", .glo "_law_drawn_move", .glo "_law_done"]
def faB : List He.Fa := [.glo "_law_run", .glo "_law_flat", .glo "_law_full_state", .glo "_law_story", .glo "_law_bent_log", .glo "_law_other_log", .glo "_law_all_states", .glo "_law_within", .glo "_law_sizes", .glo "_law_rooms_within", .glo "_law_first_states", .glo "_law_asks", .glo "_law_states_behind", .glo "_law_states_of_log", .glo "_law_heard", .glo "_law_alike", .glo "_law_words_by", .glo "_law_is_log_right", .glo "law"]
def faC : List He.Fa := [.free "len", .free "range", .free "enumerate", .free "tuple", .free "list", .free "zip", .free "sorted", .free "max", .free "min", .free "all", .free "any", .free "int", .free "sum", .free "abs", .free "dict", .free "repr", .free "super", .int "MOST_STATES" 3000, .glo "CannotBe", .exm "CannotBe" "CannotBe" true]
def fa : List He.Fa := faA ++ (faB ++ faC)
def looseA : List Str := ["FloorError", "CannotBe", "TooMany", "MOST_STATES", "rooms_within", "sizes_of", "things_within", "known_sizes", "are_sizes", "stepped", "tightened", "first_knowledge", "taken_out", "amid", "lost_one", "led", "led_by", "knowledge_behind", "words_through", "can_be", "by_things", "next_numbers", "floor_numbers", "count_states", "states_of", "_law_bag", "_law_take", "_law_one", "_law_house", "_law_mixed"]
def looseB : List Str := ["_law_state", "_law_start", "_law_drawn_move", "_law_done", "_law_run", "_law_flat", "_law_full_state", "_law_story", "_law_bent_log", "_law_other_log", "_law_all_states", "_law_within", "_law_sizes", "_law_rooms_within", "_law_first_states", "_law_asks", "_law_states_behind", "_law_states_of_log", "_law_heard", "_law_alike", "_law_words_by", "_law_is_log_right"]
def loose : List Str := looseA ++ looseB
/-! ### the class and its __init__ -/
def initSt : Stmt := match top 2 with
  | .ClassDef _ _ _ b _ _ _ _ _ _ _ => b.getD 0 (.Pass ⟨0, 0, 0, 0⟩)
  | _ => .Pass ⟨0, 0, 0, 0⟩
def C0 (K : PySem.W.Frag) : Addr := He.ga K "CannotBe"
def I0 (K : PySem.W.Frag) : Addr := He.ma K (C0 K) "__init__"
abbrev IniV : Type := Option (Str × Str × Arguments × FuncBody × Scope × Addr × List Str × Addr)
def iniW (K : PySem.W.Frag) : IniV := match K.lookup (I0 K) with
  | some ⟨_, _, .func fd, _⟩ => some (fd.name, fd.qualname, fd.params, fd.body, fd.scope, fd.globals, fd.closure.map (·.1), fd.builtins)
  | _ => none
def iniE : IniV := some ("__init__", "CannotBe.__init__", defArgs initSt, .stmts (defBody initSt), defScope initSt, mainGlobals, ["__class__"], builtinsNs)
def oexB (K : PySem.W.Frag) (C : Addr) : Bool := match K.lookup C with
  | some ⟨.type "type", _, .cls cd, sl⟩ => (match cd.mro, sl.toList with
    | .ref D :: bm, [_, _, _, _, some (.builtin n), _] => decide (D = C) && (decide (n = "ValueError.__new__") && (!cd.hasDel && (cd.hasDict && PySem.HandSPX.refsVE bm)))
    | _, _ => false)
  | _ => false
def iniB (K : PySem.W.Frag) (C I : Addr) : Bool := match K.lookup I with
  | some ⟨_, _, .func fd, _⟩ => He.dflB K fd.defaults [] && (He.kwdB K fd.kwdefaults [] && (PySem.W.codeIn K fd.code "CannotBe.__init__" && ((match fd.code with
    | .ref c => (match K.lookup c with
      | some ⟨_, _, .fields vs, _⟩ => (match (vs[2]? : Option Value) with
        | some (.str f _) => decide (f = PySem.Challenge.pw_floorkeepers_k14_whole_all_keepers.main.file)
        | _ => false)
      | _ => false)
    | _ => false) && (match fd.closure with
    | [(_, cc)] => (match K.lookup cc with
      | some ⟨_, _, .cell (some (.ref D)), _⟩ => decide (D = C)
      | _ => false)
    | _ => false))))
  | _ => false
def exB (K : PySem.W.Frag) : Bool := oexB K (C0 K) && (iniB K (C0 K) (I0 K) && (decide (PySem.W.findIn K (.ref (C0 K)) "__setattr__" = some (some (.builtin "object.__setattr__"))) && (decide (PySem.W.subIn K (.ref (C0 K)) (.type "BaseException") = some true) && (decide (PySem.W.typeIn K (.ref (C0 K)) = some (.type "type")) && (PySem.W.keepIn K (.ref (C0 K)) &&
  (decide (PySem.W.mroIn K (C0 K) (.ref (C0 K)) = some true) && (decide (PySem.W.nsIn K cStatics "thirdparty.any" = some none) && (decide (PySem.W.ks_superIn K (C0 K) (C0 K) "__init__" = some (some (.builtin "ValueError.__init__"))) && (decide (PySem.W.subIn K (.ref (C0 K)) (.type "ValueError") = some true) && (decide (PySem.W.findIn K (.ref (C0 K)) "index" = some none) &&
  (decide (PySem.W.findIn K (.ref (C0 K)) "__init__" = some (some (.ref (I0 K)))) && (decide (PySem.W.typeIn K (.ref (I0 K)) = some (.type "function")) && xfB K (C0 K)))))))))))))
def tf : List He.Defn := [("first_knowledge", none), ("_law_is_log_right", none)]
/-! ### the Hook -/
def frK (g : Addr → Option Obj) : PySem.W.Frag := He.frT g (He.asD g 5 ++ [cStatics])
abbrev AlF : Type := (He.AlD × IniV) × Bool
def obsF (g : Addr → Option Obj) : AlF := ((He.obsD fa fn (frK g), iniW (frK g)), exB (frK g) && (He.tabsB g tf (frK g) && decide ((He.cT (frK g) ("first_knowledge", none)).2 ≠ (He.cT (frK g) ("_law_is_log_right", none)).2)))
def valF : AlF := ((He.valD fn, iniE), true)
structure SaysF (h : Heap) (K : PySem.W.Frag) : Prop where
  d : He.SaysD fa fn K
  ini : iniW K = iniE
  ex : exB K = true
  hd : ∀ p ∈ tf, PySem.W.codeHdIn K (He.cT K p).1 (He.cT K p).2 = true
  out : ∀ p ∈ tf, K.lookup (He.cT K p).2 = none
  empty : ∀ p ∈ tf, h.get? (He.cT K p).2 = some { cls := .none, data := .fields #[] }
  ne : (He.cT K ("first_knowledge", none)).2 ≠ (He.cT K ("_law_is_log_right", none)).2
theorem saysF_of {h : Heap} (e : obsF h.get? = valF) : SaysF h (frK h.get?) := by
  have e1 : He.obsD fa fn (frK h.get?) = He.valD fn := congrArg (fun z : AlF => z.1.1) e
  have e2 : iniW (frK h.get?) = iniE := congrArg (fun z : AlF => z.1.2) e
  have e3 : (exB (frK h.get?) && (He.tabsB h.get? tf (frK h.get?) && decide ((He.cT (frK h.get?) ("first_knowledge", none)).2 ≠ (He.cT (frK h.get?) ("_law_is_log_right", none)).2))) = true := congrArg (fun z : AlF => z.2) e
  obtain ⟨x1, x2⟩ := He.ba e3
  obtain ⟨x3, x4⟩ := He.ba x2
  have at_ : ∀ p ∈ tf, PySem.W.codeHdIn (frK h.get?) (He.cT (frK h.get?) p).1 (He.cT (frK h.get?) p).2 = true ∧ ∃ u, h.get? (He.cT (frK h.get?) p).2 = some u ∧ He.emptyTab u = true := fun p hp => by
    obtain ⟨y1, y2⟩ := He.ba (List.all_eq_true.mp x3 p hp)
    cases z : h.get? (He.cT (frK h.get?) p).2 with
    | none => rw [z] at y2; cases y2
    | some u => rw [z] at y2; exact ⟨y1, u, rfl, y2⟩
  refine ⟨e1, e2, x1, fun p hp => (at_ p hp).1, fun p hp => ?_, fun p hp => ?_, of_decide_eq_true x4⟩
  · obtain ⟨_, u, z, y⟩ := at_ p hp
    exact He.frT_none z y
  · obtain ⟨_, u, z, y⟩ := at_ p hp
    rw [z, He.emptyTab_eq y]
def hkF : PySem.W.Hook where
  α := AlF
  obs := fun s => obsF s.heap.get?
  val := fun _ => valF
  says := fun _ h => ∃ K : PySem.W.Frag, K.In h ∧ SaysF h K
  of := fun _ _ e => ⟨_, He.frT_in, saysF_of e⟩
  keeps := fun _ _ _ ⟨K, hK, c⟩ k => ⟨K, PySem.W.Frag.In.keeps hK k, ⟨c.d, c.ini, c.ex, c.hd, c.out, fun p hp => k _ _ (c.empty p hp), c.ne⟩⟩
abbrev R : PySem.W.OpenRow := PySem.W.OpenLaw.row PySem.Challenge.rw_floorkeepers_k14_whole_all_keepers
def ob (s : PySem.W.SharedT) : AlF := obsF (HandSHeadRun.getT s)
theorem ob_eq (s : PySem.W.SharedT) : ob s = hkF.obs s.abs := by
  have e : HandSHeadRun.getT s = s.abs.heap.get? := funext fun a => HandSHeadRun.getT_eq s a
  unfold ob
  rw [e]; rfl
theorem run (w : World) : HandSHeadRun.RunEq R (PySem.W.view R.prog [58]) hkF ob 4000 loose w := by
  intro os
  kernel_rfl
end FK
end
section
set_option Elab.async false
set_option linter.all false
set_option maxRecDepth 100000
namespace FK
open PySem PySem.Spec PyProof.Rows L2 Lg Lr RZ
section
variable {P : Program} {w : World} {K : PySem.W.Frag} {mg : Str → Option Value} {base : Heap}
abbrev N_rooms_within : List Str := ["house", "found", "rooms", "more"]
theorem sc_rooms_within : FnScope N_rooms_within ["house"] (defScope (top 5)) := ⟨rfl, rfl, rfl, by decide +kernel, rfl, by decide +kernel, by decide +kernel⟩
def t_rooms_within (K : PySem.W.Frag) : TS := (tSeq (tPar 1 2 (tCons (tLst tNil) (tCons (tC (.int 0)) tNil))) (tSeq (tFor (iSq K (tOp (rIx K) (tVar 0) (tC (.int 1)))) (gName 3) (tSeq (tAug 2 (tVar 3) (ipI fun i j => i + j)) (tDrop (tBM K "list" (rAppend) (tVar 1) (tCons (tVar 2) tNil))))) (tRet (tCB (rTupA K) (tCons (tVar 1) tNil)))))
theorem ok_rooms_within {sp : Sp} (D : Dfs K mg) (M : Mgs mg) (len : ∀ vs H Q E, sp vs H Q E → vs.length = 1) (h : ∀ vs H Q E, sp vs H Q E → t_rooms_within K  (fin Q) (L2.start N_rooms_within vs) H) : Ok P w K mg base CX0 1 "rooms_within" ["house"] sp := by
  obtain ⟨f, fd, F, hm⟩ := D.rooms_within
  refine ⟨f, fd, F.bindsN fun _ _ _ _ _ _ us hl => match us, hl with | [_], _ => rfl, F.ok sc_rooms_within len (fun cdv A outer s H vs Q E hr p => ⟨t_rooms_within K , PSs.nox ?_, h vs H Q E p⟩), hm, F.kp⟩
  have hu := hr.units
  exact (pss_cons (ps_par (i := 1) (j := 2) rfl sc_rooms_within.nd rfl rfl (by decide) rfl rfl (pa_cons (pe_lst pa_nil) (pa_cons pe_int pa_nil)) rfl) (pss_cons (ps_for PassesOwn.never rfl (PI.or (pi_list (pe_ix ix_seq (pv 0) pe_int (fun _ _ => rfl))) (pi_tup (pe_ix ix_seq (pv 0) pe_int (fun _ _ => rfl)))) (pg_name (i := 3) sc_rooms_within.nd rfl (Or.inl rfl)) (pss_cons (ps_aug (i := 2) sc_rooms_within.nd rfl (Or.inl rfl) (pv 3) ip_add) (pss_one (ps_expr (pe_bm PySem.F.plainAttrs_list PySem.F.slot_list_append PySem.F.type_list_append mt_append (pv 1) (pa_cons (pv 2) pa_nil)))))) (pss_one (ps_ret (pe_callTy call_tupA rfl M.tuple boot_tuple (pa_cons (pv 1) pa_nil))))))
abbrev N_sizes_of : List Str := ["house", "state", "floor"]
theorem sc_sizes_of : FnScope N_sizes_of ["house", "state"] (defScope (top 6)) := ⟨rfl, rfl, rfl, by decide +kernel, rfl, by decide +kernel, by decide +kernel⟩
def t_sizes_of (K : PySem.W.Frag) (sp_things_within : Sp) : TS := (tRet (tCB (rTupA K) (tCons (tLc (iRng1 (tCons (tCB (Lg.rLen K) (tCons (tOp (rIx K) (tVar 0) (tC (.int 1))) tNil)) tNil)) (gName 2) tYes (tCB (Lg.rLen K) (tCons (tCall sp_things_within [] E0 (tCons (tVar 0) (tCons (tVar 1) (tCons (tVar 2) tNil)))) tNil)) [2]) tNil)))
theorem ok_sizes_of {sp : Sp} {sp_things_within : Sp} (D : Dfs K mg) (M : Mgs mg) (F_things_within : Ok P w K mg base CX0 1 "things_within" ["house", "state", "floor"] sp_things_within) (len : ∀ vs H Q E, sp vs H Q E → vs.length = 2) (h : ∀ vs H Q E, sp vs H Q E → t_sizes_of K sp_things_within (fin Q) (L2.start N_sizes_of vs) H) : Ok P w K mg base CX0 2 "sizes_of" ["house", "state"] sp := by
  obtain ⟨f, fd, F, hm⟩ := D.sizes_of
  refine ⟨f, fd, F.bindsN fun _ _ _ _ _ _ us hl => match us, hl with | [_, _], _ => rfl, F.ok sc_sizes_of len (fun cdv A outer s H vs Q E hr p => ⟨t_sizes_of K sp_things_within, PSs.nox ?_, h vs H Q E p⟩), hm, F.kp⟩
  have hu := hr.units
  exact (pss_one (ps_ret (pe_callTy call_tupA rfl M.tuple boot_tuple (pa_cons (pe_lc (own := [("floor", 2)]) rfl sc_sizes_of.nd (pi_range1 rfl M.range (pa_cons (pe_callB call_len_seq rfl M.len boot_len (pa_cons (pe_ix ix_seq (pv 0) pe_int (fun _ _ => rfl)) pa_nil)) pa_nil)) (blkOk_by rfl) (fun _ _ _ _ _ => (pg_name (i := 2) sc_sizes_of.nd rfl (Or.inl rfl))) (fun _ _ _ _ _ => pts_nil) (fun _ _ _ _ _ => (pe_callB call_len_seq rfl M.len boot_len (pa_cons (pe_ok F_things_within hr (by decide) rfl pass0 (pa_cons (pv 0) (pa_cons (pv 1) (pa_cons (pv 2) pa_nil)))) pa_nil)))) pa_nil))))
abbrev N_things_within : List Str := ["house", "state", "floor", "thing", "place"]
theorem sc_things_within : FnScope N_things_within ["house", "state", "floor"] (defScope (top 7)) := ⟨rfl, rfl, rfl, by decide +kernel, rfl, by decide +kernel, by decide +kernel⟩
def t_things_within (K : PySem.W.Frag) : TS := (tRet (tCB (rTupA K) (tCons (tLc (iEn K (tCons (tVar 1) tNil)) (gTup K 2 (gCons (gName 3) (gCons (gName 4) gNil))) (tTest (tOp (rI0 fun i j => .bl (decide (i ≤ j))) (tVar 4) (tVar 2))) (tVar 3) [3, 4]) tNil)))
theorem ok_things_within {sp : Sp} (D : Dfs K mg) (M : Mgs mg) (len : ∀ vs H Q E, sp vs H Q E → vs.length = 3) (h : ∀ vs H Q E, sp vs H Q E → t_things_within K  (fin Q) (L2.start N_things_within vs) H) : Ok P w K mg base CX0 1 "things_within" ["house", "state", "floor"] sp := by
  obtain ⟨f, fd, F, hm⟩ := D.things_within
  refine ⟨f, fd, F.bindsN fun _ _ _ _ _ _ us hl => match us, hl with | [_, _, _], _ => rfl, F.ok sc_things_within len (fun cdv A outer s H vs Q E hr p => ⟨t_things_within K , PSs.nox ?_, h vs H Q E p⟩), hm, F.kp⟩
  have hu := hr.units
  exact (pss_one (ps_ret (pe_callTy call_tupA rfl M.tuple boot_tuple (pa_cons (pe_lc (own := [("thing", 3), ("place", 4)]) rfl sc_things_within.nd (PI.or (pi_enum rfl M.enumerate (pa_cons (pv 1) pa_nil)) (pi_enumT rfl M.enumerate (pa_cons (pv 1) pa_nil))) (blkOk_by rfl) (fun _ _ _ _ _ => (pg_tup rfl (pgs_cons (pg_name (i := 3) sc_things_within.nd rfl (Or.inl rfl)) (pgs_cons (pg_name (i := 4) sc_things_within.nd rfl (Or.inl rfl)) pgs_nil)))) (fun _ _ _ _ _ => (pts_one (pt_cmpR op_le (pv 4) (pv 2) (nomark _)))) (fun _ _ _ _ _ => (pv 3))) pa_nil))))
abbrev N_known_sizes : List Str := ["knowledge", "word"]
theorem sc_known_sizes : FnScope N_known_sizes ["knowledge"] (defScope (top 9)) := ⟨rfl, rfl, rfl, by decide +kernel, rfl, by decide +kernel, by decide +kernel⟩
def t_known_sizes (K : PySem.W.Frag) : TS := (tRet (tCB (rTupA K) (tCons (tLc (iSq K (tOp (rIx K) (tVar 0) (tC (.int 1)))) (gName 1) tYes (tOp (rIx K) (tVar 1) (tUn (rU fun i => .int (-i)) (tC (.int 1)))) [1]) tNil)))
theorem ok_known_sizes {sp : Sp} (D : Dfs K mg) (M : Mgs mg) (len : ∀ vs H Q E, sp vs H Q E → vs.length = 1) (h : ∀ vs H Q E, sp vs H Q E → t_known_sizes K  (fin Q) (L2.start N_known_sizes vs) H) : Ok P w K mg base CX0 1 "known_sizes" ["knowledge"] sp := by
  obtain ⟨f, fd, F, hm⟩ := D.known_sizes
  refine ⟨f, fd, F.bindsN fun _ _ _ _ _ _ us hl => match us, hl with | [_], _ => rfl, F.ok sc_known_sizes len (fun cdv A outer s H vs Q E hr p => ⟨t_known_sizes K , PSs.nox ?_, h vs H Q E p⟩), hm, F.kp⟩
  have hu := hr.units
  exact (pss_one (ps_ret (pe_callTy call_tupA rfl M.tuple boot_tuple (pa_cons (pe_lc (own := [("word", 1)]) rfl sc_known_sizes.nd (PI.or (pi_list (pe_ix ix_seq (pv 0) pe_int (fun _ _ => rfl))) (pi_tup (pe_ix ix_seq (pv 0) pe_int (fun _ _ => rfl)))) (blkOk_by rfl) (fun _ _ _ _ _ => (pg_name (i := 1) sc_known_sizes.nd rfl (Or.inl rfl))) (fun _ _ _ _ _ => pts_nil) (fun _ _ _ _ _ => (pe_ix ix_seq (pv 1) (pe_un un_neg pe_int) (fun _ _ => rfl)))) pa_nil))))
abbrev N_are_sizes : List Str := ["sizes", "many", "one", "other"]
theorem sc_are_sizes : FnScope N_are_sizes ["sizes", "many"] (defScope (top 10)) := ⟨rfl, rfl, rfl, by decide +kernel, rfl, by decide +kernel, by decide +kernel⟩
def t_are_sizes (K : PySem.W.Frag) : TS := (tSeq (tIfS (tOr (tTest (tOp (rI0 fun i j => .bl (decide (i < j))) (tOp (rIx K) (tVar 0) (tC (.int 0))) (tC (.int 0)))) (tTest (tOp (rI0 fun i j => .bl (decide (j < i))) (tOp (rIx K) (tVar 0) (tUn (rU fun i => .int (-i)) (tC (.int 1)))) (tVar 1)))) (tRet (tC (.bl false))) tNext) (tRet (tCB (rAll K) (tCons (tLc (iZp K (tCons (tVar 0) (tCons (tSl (rSl K) (tVar 0) (tPart (tC (.int 1))) tNoPart) tNil))) (gTup K 2 (gCons (gName 2) (gCons (gName 3) gNil))) tYes (tOp (rI0 fun i j => .bl (decide (i ≤ j))) (tVar 2) (tVar 3)) [2, 3]) tNil))))
theorem ok_are_sizes {sp : Sp} (D : Dfs K mg) (M : Mgs mg) (len : ∀ vs H Q E, sp vs H Q E → vs.length = 2) (h : ∀ vs H Q E, sp vs H Q E → t_are_sizes K  (fin Q) (L2.start N_are_sizes vs) H) : Ok P w K mg base CX0 1 "are_sizes" ["sizes", "many"] sp := by
  obtain ⟨f, fd, F, hm⟩ := D.are_sizes
  refine ⟨f, fd, F.bindsN fun _ _ _ _ _ _ us hl => match us, hl with | [_, _], _ => rfl, F.ok sc_are_sizes len (fun cdv A outer s H vs Q E hr p => ⟨t_are_sizes K , PSs.nox ?_, h vs H Q E p⟩), hm, F.kp⟩
  have hu := hr.units
  exact (pss_cons (ps_if (PW.pt (pw_or (pt_cmpR op_lt (pe_ix ix_seq (pv 0) pe_int (fun _ _ => rfl)) pe_int (nomark _)) (pw_or1 (pt_cmpR op_gt (pe_ix ix_seq (pv 0) (pe_un un_neg pe_int) (fun _ _ => rfl)) (pv 1) (nomark _))))) (pss_one (ps_ret pe_bl)) pss_nil) (pss_one (ps_ret (pe_callB (cr_all rfl) rfl M.all boot_all (pa_cons (pe_lc (own := [("one", 2), ("other", 3)]) rfl sc_are_sizes.nd (PI.or (pi_zipA rfl M.zip (pa_cons (pv 0) (pa_cons (pe_slice sl_seq (pv 0) (po_some pe_int) po_none) pa_nil))) (pi_zipM rfl M.zip (pa_cons (pv 0) (pa_cons (pe_slice sl_seq (pv 0) (po_some pe_int) po_none) pa_nil)))) (blkOk_by rfl) (fun _ _ _ _ _ => (pg_tup rfl (pgs_cons (pg_name (i := 2) sc_are_sizes.nd rfl (Or.inl rfl)) (pgs_cons (pg_name (i := 3) sc_are_sizes.nd rfl (Or.inl rfl)) pgs_nil)))) (fun _ _ _ _ _ => pts_nil) (fun _ _ _ _ _ => (pe_cmpR op_le (pv 2) (pv 3) (nomark _)))) pa_nil)))))
abbrev N_stepped : List Str := ["row", "size", "many", "found", "place", "item"]
theorem sc_stepped : FnScope N_stepped ["row", "size"] (defScope (top 11)) := ⟨rfl, rfl, rfl, by decide +kernel, rfl, by decide +kernel, by decide +kernel⟩
def t_stepped (K : PySem.W.Frag) : TS := (tSeq (tPar 2 3 (tCons (tOp (rI0 fun i j => .int (i - j)) (tCB (Lg.rLen K) (tCons (tVar 0) tNil)) (tC (.int 1))) (tCons (tLst (tCons (tC (.int 0)) tNil)) tNil))) (tSeq (tFor (iEn K (tCons (tVar 0) tNil)) (gTup K 2 (gCons (gName 4) (gCons (gName 5) gNil))) (tDrop (tBM K "list" (rAppend) (tVar 3) (tCons (tCB (rNuC3 nuMax3) (tCons (tOp (rIx K) (tVar 3) (tUn (rU fun i => .int (-i)) (tC (.int 1)))) (tCons (tVar 5) (tCons (tOp (rPlus K) (tOp (rI0 fun i j => .int (i - j)) (tVar 1) (tVar 2)) (tVar 4)) tNil)))) tNil)))) (tSeq (tAsg (tSl (rSl K) (tVar 3) (tPart (tC (.int 1))) tNoPart) (gName 3)) (tSeq (tFor (iRng3 (tCons (tOp (rI0 fun i j => .int (i - j)) (tVar 2) (tC (.int 1))) (tCons (tUn (rU fun i => .int (-i)) (tC (.int 1))) (tCons (tUn (rU fun i => .int (-i)) (tC (.int 1))) tNil)))) (gName 4) (tAsg (tCB (rMax2) (tCons (tOp (rIx K) (tVar 3) (tVar 4)) (tCons (tOp (rI0 fun i j => .int (i - j)) (tOp (rIx K) (tVar 3) (tOp (rPlus K) (tVar 4) (tC (.int 1)))) (tC (.int 1))) tNil))) (gSub (tVar 3) (tVar 4) rSetL))) (tRet (tVar 3))))))
theorem ok_stepped {sp : Sp} (D : Dfs K mg) (M : Mgs mg) (len : ∀ vs H Q E, sp vs H Q E → vs.length = 2) (h : ∀ vs H Q E, sp vs H Q E → t_stepped K  (fin Q) (L2.start N_stepped vs) H) : Ok P w K mg base CX0 1 "stepped" ["row", "size"] sp := by
  obtain ⟨f, fd, F, hm⟩ := D.stepped
  refine ⟨f, fd, F.bindsN fun _ _ _ _ _ _ us hl => match us, hl with | [_, _], _ => rfl, F.ok sc_stepped len (fun cdv A outer s H vs Q E hr p => ⟨t_stepped K , PSs.nox ?_, h vs H Q E p⟩), hm, F.kp⟩
  have hu := hr.units
  exact (pss_cons (ps_par (i := 2) (j := 3) rfl sc_stepped.nd rfl rfl (by decide) rfl rfl (pa_cons (pe_op op_sub (pe_callB call_len_seq rfl M.len boot_len (pa_cons (pv 0) pa_nil)) pe_int) (pa_cons (pe_lst (pa_cons pe_int pa_nil)) pa_nil)) rfl) (pss_cons (ps_for PassesOwn.never rfl (PI.or (pi_enum rfl M.enumerate (pa_cons (pv 0) pa_nil)) (pi_enumT rfl M.enumerate (pa_cons (pv 0) pa_nil))) (pg_tup rfl (pgs_cons (pg_name (i := 4) sc_stepped.nd rfl (Or.inl rfl)) (pgs_cons (pg_name (i := 5) sc_stepped.nd rfl (Or.inl rfl)) pgs_nil))) (pss_one (ps_expr (pe_bm PySem.F.plainAttrs_list PySem.F.slot_list_append PySem.F.type_list_append mt_append (pv 3) (pa_cons (pe_callB (call_max3Nu rfl) rfl M.max boot_max (pa_cons (pe_ix ix_seq (pv 3) (pe_un un_neg pe_int) (fun _ _ => rfl)) (pa_cons (pv 5) (pa_cons (pe_op op_plus (pe_op op_sub (pv 1) (pv 2)) (pv 4)) pa_nil)))) pa_nil))))) (pss_cons (ps_set (i := 3) sc_stepped.nd rfl (Or.inl rfl) (pe_slice sl_seq (pv 3) (po_some pe_int) po_none)) (pss_cons (ps_for PassesOwn.never rfl (pi_range3 rfl M.range (pa_cons (pe_op op_sub (pv 2) pe_int) (pa_cons (pe_un un_neg pe_int) (pa_cons (pe_un un_neg pe_int) pa_nil)))) (pg_name (i := 4) sc_stepped.nd rfl (Or.inl rfl)) (pss_one (ps_asg (pe_callB (call_max2 rfl) rfl M.max boot_max (pa_cons (pe_ix ix_seq (pv 3) (pv 4) (fun _ _ => rfl)) (pa_cons (pe_op op_sub (pe_ix ix_seq (pv 3) (pe_op op_plus (pv 4) pe_int) (fun _ _ => rfl)) pe_int) pa_nil))) (pg_sub (pv 3) (pv 4) set_list)))) (pss_one (ps_ret (pv 3)))))))
end
end FK
end
section
set_option Elab.async false
set_option linter.all false
set_option maxRecDepth 100000
namespace FK
open PySem PySem.Spec PyProof.Rows L2 Lg Lr RZ
section
variable {P : Program} {w : World} {K : PySem.W.Frag} {mg : Str → Option Value} {base : Heap}
abbrev N_tightened : List Str := ["rows", "sizes", "words", "floor", "gap", "word", "size", "row", "one", "other", "place", "item"]
theorem sc_tightened : FnScope N_tightened ["rows", "sizes"] (defScope (top 12)) := ⟨rfl, rfl, rfl, by decide +kernel, rfl, by decide +kernel, by decide +kernel⟩
def t_tightened (K : PySem.W.Frag) (sp_are_sizes sp_stepped : Sp) : TS := (tSeq (tIfS (tNot (tB (tCall sp_are_sizes [] E0 (tCons (tVar 1) (tCons (tOp (rI0 fun i j => .int (i - j)) (tCB (Lg.rLen K) (tCons (tOp (rIx K) (tVar 0) (tC (.int 0))) tNil)) (tC (.int 1))) tNil))))) (tRet (tC .non)) tNext) (tSeq (tAsg (tLc (iZp K (tCons (tVar 0) (tCons (tVar 1) tNil))) (gTup K 2 (gCons (gName 7) (gCons (gName 6) gNil))) tYes (tCall sp_stepped [] E0 (tCons (tVar 7) (tCons (tVar 6) tNil))) [7, 6]) (gName 2)) (tSeq (tFor (iRng2 (tCons (tC (.int 1)) (tCons (tCB (Lg.rLen K) (tCons (tVar 2) tNil)) tNil))) (gName 3) (tAsg (tLc (iZp K (tCons (tOp (rIx K) (tVar 2) (tOp (rI0 fun i j => .int (i - j)) (tVar 3) (tC (.int 1)))) (tCons (tOp (rIx K) (tVar 2) (tVar 3)) tNil))) (gTup K 2 (gCons (gName 8) (gCons (gName 9) gNil))) tYes (tCB (rMax2) (tCons (tVar 8) (tCons (tVar 9) tNil))) [8, 9]) (gSub (tVar 2) (tVar 3) rSetL))) (tSeq (tFor (iRng3 (tCons (tOp (rI0 fun i j => .int (i - j)) (tCB (Lg.rLen K) (tCons (tVar 2) tNil)) (tC (.int 2))) (tCons (tUn (rU fun i => .int (-i)) (tC (.int 1))) (tCons (tUn (rU fun i => .int (-i)) (tC (.int 1))) tNil)))) (gName 3) (tSeq (tAsg (tOp (rI0 fun i j => .int (i - j)) (tOp (rIx K) (tVar 1) (tOp (rPlus K) (tVar 3) (tC (.int 1)))) (tOp (rIx K) (tVar 1) (tVar 3))) (gName 4)) (tAsg (tLc (iZp K (tCons (tOp (rIx K) (tVar 2) (tVar 3)) (tCons (tOp (rIx K) (tVar 2) (tOp (rPlus K) (tVar 3) (tC (.int 1)))) tNil))) (gTup K 2 (gCons (gName 8) (gCons (gName 9) gNil))) tYes (tCB (rMax2) (tCons (tVar 8) (tCons (tOp (rI0 fun i j => .int (i - j)) (tVar 9) (tVar 4)) tNil))) [8, 9]) (gSub (tVar 2) (tVar 3) rSetL)))) (tSeq (tFor (iZp K (tCons (tVar 2) (tCons (tVar 1) tNil))) (gTup K 2 (gCons (gName 5) (gCons (gName 6) gNil))) (tIfS (tB (tCB (rAny K) (tCons (tLc (iEn K (tCons (tVar 5) tNil)) (gTup K 2 (gCons (gName 10) (gCons (gName 11) gNil))) tYes (tOp (rI0 fun i j => .bl (decide (j < i))) (tVar 11) (tCB (rMin2) (tCons (tVar 10) (tCons (tVar 6) tNil)))) [10, 11]) tNil))) (tRet (tC .non)) tNext)) (tRet (tCB (rTupA K) (tCons (tLc (iSq K (tVar 2)) (gName 5) tYes (tCB (rTupA K) (tCons (tVar 5) tNil)) [5]) tNil))))))))
theorem ok_tightened {sp : Sp} {sp_are_sizes sp_stepped : Sp} (D : Dfs K mg) (M : Mgs mg) (F_are_sizes : Ok P w K mg base CX0 1 "are_sizes" ["sizes", "many"] sp_are_sizes) (F_stepped : Ok P w K mg base CX0 1 "stepped" ["row", "size"] sp_stepped) (len : ∀ vs H Q E, sp vs H Q E → vs.length = 2) (h : ∀ vs H Q E, sp vs H Q E → t_tightened K sp_are_sizes sp_stepped (fin Q) (L2.start N_tightened vs) H) : Ok P w K mg base CX0 2 "tightened" ["rows", "sizes"] sp := by
  obtain ⟨f, fd, F, hm⟩ := D.tightened
  refine ⟨f, fd, F.bindsN fun _ _ _ _ _ _ us hl => match us, hl with | [_, _], _ => rfl, F.ok sc_tightened len (fun cdv A outer s H vs Q E hr p => ⟨t_tightened K sp_are_sizes sp_stepped, PSs.nox ?_, h vs H Q E p⟩), hm, F.kp⟩
  have hu := hr.units
  exact (pss_cons (ps_if (pt_not (pt_val (pe_ok F_are_sizes hr (by decide) rfl pass0 (pa_cons (pv 1) (pa_cons (pe_op op_sub (pe_callB call_len_seq rfl M.len boot_len (pa_cons (pe_ix ix_seq (pv 0) pe_int (fun _ _ => rfl)) pa_nil)) pe_int) pa_nil))))) (pss_one (ps_ret pe_non)) pss_nil) (pss_cons (ps_setLc (i := 2) (own := [("row", 7), ("size", 6)]) rfl sc_tightened.nd rfl rfl (sw_true rfl rfl rfl rfl) (PI.or (pi_zipA rfl M.zip (pa_cons (pv 0) (pa_cons (pv 1) pa_nil))) (pi_zipM rfl M.zip (pa_cons (pv 0) (pa_cons (pv 1) pa_nil)))) (blkOk_by rfl) (fun _ _ _ _ _ => (pg_tup rfl (pgs_cons (pg_name (i := 7) sc_tightened.nd rfl (Or.inl rfl)) (pgs_cons (pg_name (i := 6) sc_tightened.nd rfl (Or.inl rfl)) pgs_nil)))) (fun _ _ _ _ _ => pts_nil) (fun _ _ _ _ _ => (pe_ok F_stepped hr (by decide) rfl pass0 (pa_cons (pv 7) (pa_cons (pv 6) pa_nil))))) (pss_cons (ps_for PassesOwn.never rfl (pi_range2 rfl M.range (pa_cons pe_int (pa_cons (pe_callB call_len_seq rfl M.len boot_len (pa_cons (pv 2) pa_nil)) pa_nil))) (pg_name (i := 3) sc_tightened.nd rfl (Or.inl rfl)) (pss_one (ps_asg (pe_lc (own := [("one", 8), ("other", 9)]) rfl sc_tightened.nd (PI.or (pi_zipA rfl M.zip (pa_cons (pe_ix ix_seq (pv 2) (pe_op op_sub (pv 3) pe_int) (fun _ _ => rfl)) (pa_cons (pe_ix ix_seq (pv 2) (pv 3) (fun _ _ => rfl)) pa_nil))) (pi_zipM rfl M.zip (pa_cons (pe_ix ix_seq (pv 2) (pe_op op_sub (pv 3) pe_int) (fun _ _ => rfl)) (pa_cons (pe_ix ix_seq (pv 2) (pv 3) (fun _ _ => rfl)) pa_nil)))) (blkOk_by rfl) (fun _ _ _ _ _ => (pg_tup rfl (pgs_cons (pg_name (i := 8) sc_tightened.nd rfl (Or.inl rfl)) (pgs_cons (pg_name (i := 9) sc_tightened.nd rfl (Or.inl rfl)) pgs_nil)))) (fun _ _ _ _ _ => pts_nil) (fun _ _ _ _ _ => (pe_callB (call_max2 rfl) rfl M.max boot_max (pa_cons (pv 8) (pa_cons (pv 9) pa_nil))))) (pg_sub (pv 2) (pv 3) set_list)))) (pss_cons (ps_for PassesOwn.never rfl (pi_range3 rfl M.range (pa_cons (pe_op op_sub (pe_callB call_len_seq rfl M.len boot_len (pa_cons (pv 2) pa_nil)) pe_int) (pa_cons (pe_un un_neg pe_int) (pa_cons (pe_un un_neg pe_int) pa_nil)))) (pg_name (i := 3) sc_tightened.nd rfl (Or.inl rfl)) (pss_cons (ps_set (i := 4) sc_tightened.nd rfl (Or.inr rfl) (pe_op op_sub (pe_ix ix_seq (pv 1) (pe_op op_plus (pv 3) pe_int) (fun _ _ => rfl)) (pe_ix ix_seq (pv 1) (pv 3) (fun _ _ => rfl)))) (pss_one (ps_asg (pe_lc (own := [("one", 8), ("other", 9)]) rfl sc_tightened.nd (PI.or (pi_zipA rfl M.zip (pa_cons (pe_ix ix_seq (pv 2) (pv 3) (fun _ _ => rfl)) (pa_cons (pe_ix ix_seq (pv 2) (pe_op op_plus (pv 3) pe_int) (fun _ _ => rfl)) pa_nil))) (pi_zipM rfl M.zip (pa_cons (pe_ix ix_seq (pv 2) (pv 3) (fun _ _ => rfl)) (pa_cons (pe_ix ix_seq (pv 2) (pe_op op_plus (pv 3) pe_int) (fun _ _ => rfl)) pa_nil)))) (blkOk_by rfl) (fun _ _ _ _ _ => (pg_tup rfl (pgs_cons (pg_name (i := 8) sc_tightened.nd rfl (Or.inl rfl)) (pgs_cons (pg_name (i := 9) sc_tightened.nd rfl (Or.inl rfl)) pgs_nil)))) (fun _ _ _ _ _ => pts_nil) (fun _ _ _ _ _ => (pe_callB (call_max2 rfl) rfl M.max boot_max (pa_cons (pv 8) (pa_cons (pe_op op_sub (pv 9) (pv 4)) pa_nil))))) (pg_sub (pv 2) (pv 3) set_list))))) (pss_cons (ps_for PassesOwn.never rfl (PI.or (pi_zipA rfl M.zip (pa_cons (pv 2) (pa_cons (pv 1) pa_nil))) (pi_zipM rfl M.zip (pa_cons (pv 2) (pa_cons (pv 1) pa_nil)))) (pg_tup rfl (pgs_cons (pg_name (i := 5) sc_tightened.nd rfl (Or.inl rfl)) (pgs_cons (pg_name (i := 6) sc_tightened.nd rfl (Or.inr rfl)) pgs_nil))) (pss_one (ps_if (pt_val (pe_callB (cr_any rfl) rfl M.any boot_any (pa_cons (pe_lc (own := [("place", 10), ("item", 11)]) rfl sc_tightened.nd (PI.or (pi_enum rfl M.enumerate (pa_cons (pv 5) pa_nil)) (pi_enumT rfl M.enumerate (pa_cons (pv 5) pa_nil))) (blkOk_by rfl) (fun _ _ _ _ _ => (pg_tup rfl (pgs_cons (pg_name (i := 10) sc_tightened.nd rfl (Or.inl rfl)) (pgs_cons (pg_name (i := 11) sc_tightened.nd rfl (Or.inl rfl)) pgs_nil)))) (fun _ _ _ _ _ => pts_nil) (fun _ _ _ _ _ => (pe_cmpR op_gt (pv 11) (pe_callB (call_min2 rfl) rfl M.min boot_min (pa_cons (pv 10) (pa_cons (pv 6) pa_nil))) (nomark _)))) pa_nil))) (pss_one (ps_ret pe_non)) pss_nil))) (pss_one (ps_ret (pe_callTy call_tupA rfl M.tuple boot_tuple (pa_cons (pe_lc (own := [("word", 5)]) rfl sc_tightened.nd (PI.or (pi_list (pv 2)) (pi_tup (pv 2))) (blkOk_by rfl) (fun _ _ _ _ _ => (pg_name (i := 5) sc_tightened.nd rfl (Or.inl rfl))) (fun _ _ _ _ _ => pts_nil) (fun _ _ _ _ _ => (pe_callTy call_tupA rfl M.tuple boot_tuple (pa_cons (pv 5) pa_nil)))) pa_nil)))))))))
abbrev N_taken_out : List Str := ["word", "place", "is_within", "item"]
theorem sc_taken_out : FnScope N_taken_out ["word", "place", "is_within"] (defScope (top 15)) := ⟨rfl, rfl, rfl, by decide +kernel, rfl, by decide +kernel, by decide +kernel⟩
def t_taken_out (K : PySem.W.Frag) : TS := (tSeq (tIfS (tNot (tB (tVar 2))) (tRet (tTupB (StX.tStar K (tSl (rSl K) (tVar 0) tNoPart (tPart (tVar 1))) (StX.tStar K (tSl (rSl K) (tVar 0) (tPart (tOp (rPlus K) (tVar 1) (tC (.int 1)))) tNoPart) tNil)))) tNext) (tRet (tTupB (StX.tStar K (tSl (rSl K) (tVar 0) tNoPart (tPart (tOp (rPlus K) (tVar 1) (tC (.int 1))))) (StX.tStar K (tLc (iSq K (tSl (rSl K) (tVar 0) (tPart (tOp (rPlus K) (tVar 1) (tC (.int 2)))) tNoPart)) (gName 3) tYes (tOp (rI0 fun i j => .int (i - j)) (tVar 3) (tC (.int 1))) [3]) tNil)))))
theorem ok_taken_out {sp : Sp} (D : Dfs K mg) (M : Mgs mg) (len : ∀ vs H Q E, sp vs H Q E → vs.length = 3) (h : ∀ vs H Q E, sp vs H Q E → t_taken_out K  (fin Q) (L2.start N_taken_out vs) H) : Ok P w K mg base CX0 1 "taken_out" ["word", "place", "is_within"] sp := by
  obtain ⟨f, fd, F, hm⟩ := D.taken_out
  refine ⟨f, fd, F.bindsN fun _ _ _ _ _ _ us hl => match us, hl with | [_, _, _], _ => rfl, F.ok sc_taken_out len (fun cdv A outer s H vs Q E hr p => ⟨t_taken_out K , PSs.nox ?_, h vs H Q E p⟩), hm, F.kp⟩
  have hu := hr.units
  exact (pss_cons (ps_if (pt_not (pt_val (pv 2))) (pss_one (ps_ret (pe_tupB (StX.pa_star (pe_slice sl_seq (pv 0) po_none (po_some (pv 1))) (StX.pa_star (pe_slice sl_seq (pv 0) (po_some (pe_op op_plus (pv 1) pe_int)) po_none) pa_nil))))) pss_nil) (pss_one (ps_ret (pe_tupB (StX.pa_star (pe_slice sl_seq (pv 0) po_none (po_some (pe_op op_plus (pv 1) pe_int))) (StX.pa_star (pe_lc (own := [("item", 3)]) rfl sc_taken_out.nd (PI.or (pi_list (pe_slice sl_seq (pv 0) (po_some (pe_op op_plus (pv 1) pe_int)) po_none)) (pi_tup (pe_slice sl_seq (pv 0) (po_some (pe_op op_plus (pv 1) pe_int)) po_none))) (blkOk_by rfl) (fun _ _ _ _ _ => (pg_name (i := 3) sc_taken_out.nd rfl (Or.inl rfl))) (fun _ _ _ _ _ => pts_nil) (fun _ _ _ _ _ => (pe_op op_sub (pv 3) pe_int))) pa_nil))))))
abbrev N_amid : List Str := ["knowledge", "entry", "order", "words", "word", "thing", "found", "place", "rows", "sizes", "floor", "row", "size"]
theorem sc_amid : FnScope N_amid ["knowledge", "entry"] (defScope (top 16)) := ⟨rfl, rfl, rfl, by decide +kernel, rfl, by decide +kernel, by decide +kernel⟩
def t_amid (K : PySem.W.Frag) (sp_taken_out sp_known_sizes sp_tightened : Sp) : TS := (tSeq (tAsg (tVar 0) (gTup K 2 (gCons (gName 2) (gCons (gName 3) gNil)))) (tSeq (tAsg (tVar 1) (gTup K 3 (gCons (gName 4) (gCons (gName 5) (gCons (gName 6) gNil))))) (tSeq (tAsg (tBMT (rIdxT K) (tVar 2) (tCons (tVar 5) tNil)) (gName 7)) (tSeq (tAsg (tLc (iEn K (tCons (tVar 3) tNil)) (gTup K 2 (gCons (gName 10) (gCons (gName 11) gNil))) tYes (tCall sp_taken_out [] E0 (tCons (tVar 11) (tCons (tVar 7) (tCons (tOp (rI0 fun i j => .bl (decide (i ≤ j))) (tVar 6) (tVar 10)) tNil)))) [10, 11]) (gName 8)) (tSeq (tAsg (tCB (rTupA K) (tCons (tLc (iEn K (tCons (tCall sp_known_sizes [] E0 (tCons (tVar 0) tNil)) tNil)) (gTup K 2 (gCons (gName 10) (gCons (gName 12) gNil))) tYes (tOp (rI0 fun i j => .int (i - j)) (tVar 12) (tCB (rInt1) (tCons (tOp (rI0 fun i j => .bl (decide (i ≤ j))) (tVar 6) (tVar 10)) tNil))) [10, 12]) tNil)) (gName 9)) (tRet (tTupB (tCons (tTupB (StX.tStar K (tSl (rSl K) (tVar 2) tNoPart (tPart (tVar 7))) (StX.tStar K (tSl (rSl K) (tVar 2) (tPart (tOp (rPlus K) (tVar 7) (tC (.int 1)))) tNoPart) tNil))) (tCons (tCall sp_tightened [] E0 (tCons (tVar 8) (tCons (tVar 9) tNil))) (tCons (tVar 9) tNil))))))))))
theorem ok_amid {sp : Sp} {sp_taken_out sp_known_sizes sp_tightened : Sp} (D : Dfs K mg) (M : Mgs mg) (F_taken_out : Ok P w K mg base CX0 1 "taken_out" ["word", "place", "is_within"] sp_taken_out) (F_known_sizes : Ok P w K mg base CX0 1 "known_sizes" ["knowledge"] sp_known_sizes) (F_tightened : Ok P w K mg base CX0 2 "tightened" ["rows", "sizes"] sp_tightened) (len : ∀ vs H Q E, sp vs H Q E → vs.length = 2) (h : ∀ vs H Q E, sp vs H Q E → t_amid K sp_taken_out sp_known_sizes sp_tightened (fin Q) (L2.start N_amid vs) H) : Ok P w K mg base CX0 3 "amid" ["knowledge", "entry"] sp := by
  obtain ⟨f, fd, F, hm⟩ := D.amid
  refine ⟨f, fd, F.bindsN fun _ _ _ _ _ _ us hl => match us, hl with | [_, _], _ => rfl, F.ok sc_amid len (fun cdv A outer s H vs Q E hr p => ⟨t_amid K sp_taken_out sp_known_sizes sp_tightened, PSs.nox ?_, h vs H Q E p⟩), hm, F.kp⟩
  have hu := hr.units
  exact (pss_cons (ps_asg (pv 0) (pg_tup rfl (pgs_cons (pg_name (i := 2) sc_amid.nd rfl (Or.inl rfl)) (pgs_cons (pg_name (i := 3) sc_amid.nd rfl (Or.inl rfl)) pgs_nil)))) (pss_cons (ps_asg (pv 1) (pg_tup rfl (pgs_cons (pg_name (i := 4) sc_amid.nd rfl (Or.inl rfl)) (pgs_cons (pg_name (i := 5) sc_amid.nd rfl (Or.inl rfl)) (pgs_cons (pg_name (i := 6) sc_amid.nd rfl (Or.inr rfl)) pgs_nil))))) (pss_cons (ps_set (i := 7) sc_amid.nd rfl (Or.inr rfl) (pe_bmT PySem.F.slot_tuple_index PySem.F.type_tuple_index mt_tindex (pv 2) (pa_cons (pv 5) pa_nil))) (pss_cons (ps_setLc (i := 8) (own := [("floor", 10), ("row", 11)]) rfl sc_amid.nd rfl rfl (sw_true rfl rfl rfl rfl) (PI.or (pi_enum rfl M.enumerate (pa_cons (pv 3) pa_nil)) (pi_enumT rfl M.enumerate (pa_cons (pv 3) pa_nil))) (blkOk_by rfl) (fun _ _ _ _ _ => (pg_tup rfl (pgs_cons (pg_name (i := 10) sc_amid.nd rfl (Or.inl rfl)) (pgs_cons (pg_name (i := 11) sc_amid.nd rfl (Or.inl rfl)) pgs_nil)))) (fun _ _ _ _ _ => pts_nil) (fun _ _ _ _ _ => (pe_ok F_taken_out hr (by decide) rfl pass0 (pa_cons (pv 11) (pa_cons (pv 7) (pa_cons (pe_cmpR op_le (pv 6) (pv 10) (nomark _)) pa_nil)))))) (pss_cons (ps_set (i := 9) sc_amid.nd rfl (Or.inl rfl) (pe_callTy call_tupA rfl M.tuple boot_tuple (pa_cons (pe_lc (own := [("floor", 10), ("size", 12)]) rfl sc_amid.nd (PI.or (pi_enum rfl M.enumerate (pa_cons (pe_ok F_known_sizes hr (by decide) rfl pass0 (pa_cons (pv 0) pa_nil)) pa_nil)) (pi_enumT rfl M.enumerate (pa_cons (pe_ok F_known_sizes hr (by decide) rfl pass0 (pa_cons (pv 0) pa_nil)) pa_nil))) (blkOk_by rfl) (fun _ _ _ _ _ => (pg_tup rfl (pgs_cons (pg_name (i := 10) sc_amid.nd rfl (Or.inl rfl)) (pgs_cons (pg_name (i := 12) sc_amid.nd rfl (Or.inl rfl)) pgs_nil)))) (fun _ _ _ _ _ => pts_nil) (fun _ _ _ _ _ => (pe_op op_sub (pv 12) (pe_callTy call_int1 rfl M.int boot_int (pa_cons (pe_cmpR op_le (pv 6) (pv 10) (nomark _)) pa_nil))))) pa_nil))) (pss_one (ps_ret (pe_tupB (pa_cons (pe_tupB (StX.pa_star (pe_slice sl_seq (pv 2) po_none (po_some (pv 7))) (StX.pa_star (pe_slice sl_seq (pv 2) (po_some (pe_op op_plus (pv 7) pe_int)) po_none) pa_nil))) (pa_cons (pe_ok F_tightened hr (by decide) rfl pass0 (pa_cons (pv 8) (pa_cons (pv 9) pa_nil))) (pa_cons (pv 9) pa_nil)))))))))))
abbrev N_lost_one : List Str := ["word", "item"]
theorem sc_lost_one : FnScope N_lost_one ["word"] (defScope (top 17)) := ⟨rfl, rfl, rfl, by decide +kernel, rfl, by decide +kernel, by decide +kernel⟩
def t_lost_one (K : PySem.W.Frag) : TS := (tRet (tCB (rTupA K) (tCons (tLc (iSq K (tVar 0)) (gName 1) tYes (tCB (rMax2) (tCons (tC (.int 0)) (tCons (tOp (rI0 fun i j => .int (i - j)) (tVar 1) (tC (.int 1))) tNil))) [1]) tNil)))
theorem ok_lost_one {sp : Sp} (D : Dfs K mg) (M : Mgs mg) (len : ∀ vs H Q E, sp vs H Q E → vs.length = 1) (h : ∀ vs H Q E, sp vs H Q E → t_lost_one K  (fin Q) (L2.start N_lost_one vs) H) : Ok P w K mg base CX0 1 "lost_one" ["word"] sp := by
  obtain ⟨f, fd, F, hm⟩ := D.lost_one
  refine ⟨f, fd, F.bindsN fun _ _ _ _ _ _ us hl => match us, hl with | [_], _ => rfl, F.ok sc_lost_one len (fun cdv A outer s H vs Q E hr p => ⟨t_lost_one K , PSs.nox ?_, h vs H Q E p⟩), hm, F.kp⟩
  have hu := hr.units
  exact (pss_one (ps_ret (pe_callTy call_tupA rfl M.tuple boot_tuple (pa_cons (pe_lc (own := [("item", 1)]) rfl sc_lost_one.nd (PI.or (pi_list (pv 0)) (pi_tup (pv 0))) (blkOk_by rfl) (fun _ _ _ _ _ => (pg_name (i := 1) sc_lost_one.nd rfl (Or.inl rfl))) (fun _ _ _ _ _ => pts_nil) (fun _ _ _ _ _ => (pe_callB (call_max2 rfl) rfl M.max boot_max (pa_cons pe_int (pa_cons (pe_op op_sub (pv 1) pe_int) pa_nil))))) pa_nil))))
abbrev N_next_numbers : List Str := ["words", "most", "numbers", "place", "found", "floor", "later", "within", "at", "number"]
theorem sc_next_numbers : FnScope N_next_numbers ["words", "most", "numbers", "place"] (defScope (top 26)) := ⟨rfl, rfl, rfl, by decide +kernel, rfl, by decide +kernel, by decide +kernel⟩
def t_next_numbers (K : PySem.W.Frag) : TS := (tSeq (tAsg (tLst tNil) (gName 4)) (tSeq (tFor (iRng1 (tCons (tOp (rPlus K) (tCB (Lg.rLen K) (tCons (tVar 0) tNil)) (tC (.int 1))) tNil)) (gName 5) (tSeq (tIfS (tAnd (tTest (tOp (rI0 fun i j => .bl (decide (i < j))) (tVar 5) (tCB (Lg.rLen K) (tCons (tVar 0) tNil)))) (tTest (tOp (rEqD K) (tOp (rIx K) (tVar 2) (tVar 5)) (tOp (rIx K) (tVar 1) (tVar 5))))) tCont tNext) (tSeq (tPar 6 7 (tCons (tLst tNil) (tCons (tC (.int 0)) tNil))) (tSeq (tFor (iEn K (tCons (tVar 2) tNil)) (gTup K 2 (gCons (gName 8) (gCons (gName 9) gNil))) (tSeq (tDrop (tBM K "list" (rAppend) (tVar 6) (tCons (tOp (rPlus K) (tVar 9) (tCB (rInt1) (tCons (tOp (rEqD K) (tVar 8) (tVar 5)) tNil))) tNil))) (tSeq (tAug 7 (tOp (rIx K) (tVar 6) (tVar 8)) (ipI fun i j => i + j)) (tIfS (tTest (tOp (rI0 fun i j => .bl (decide (i < j))) (tVar 7) (tOp (rIx K) (tOp (rIx K) (tVar 0) (tVar 8)) (tOp (rPlus K) (tVar 3) (tC (.int 1)))))) tBreak tNext)))) (tIfS (tAnd (tTest (tOp (rEqD K) (tCB (Lg.rLen K) (tCons (tVar 6) tNil)) (tCB (Lg.rLen K) (tCons (tVar 0) tNil)))) (tTest (tOp (rI0 fun i j => .bl (decide (j ≤ i))) (tVar 7) (tOp (rIx K) (tOp (rIx K) (tVar 0) (tUn (rU fun i => .int (-i)) (tC (.int 1)))) (tOp (rPlus K) (tVar 3) (tC (.int 1))))))) (tDrop (tBM K "list" (rAppend) (tVar 4) (tCons (tTupB (tCons (tVar 5) (tCons (tCB (rTupA K) (tCons (tVar 6) tNil)) tNil))) tNil))) tNext))))) (tRet (tVar 4))))
theorem ok_next_numbers {sp : Sp} (D : Dfs K mg) (M : Mgs mg) (len : ∀ vs H Q E, sp vs H Q E → vs.length = 4) (h : ∀ vs H Q E, sp vs H Q E → t_next_numbers K  (fin Q) (L2.start N_next_numbers vs) H) : Ok P w K mg base CX0 1 "next_numbers" ["words", "most", "numbers", "place"] sp := by
  obtain ⟨f, fd, F, hm⟩ := D.next_numbers
  refine ⟨f, fd, F.bindsN fun _ _ _ _ _ _ us hl => match us, hl with | [_, _, _, _], _ => rfl, F.ok sc_next_numbers len (fun cdv A outer s H vs Q E hr p => ⟨t_next_numbers K , PSs.nox ?_, h vs H Q E p⟩), hm, F.kp⟩
  have hu := hr.units
  exact (pss_cons (ps_set (i := 4) sc_next_numbers.nd rfl (Or.inl rfl) (pe_lst pa_nil)) (pss_cons (ps_for PassesOwn.never rfl (pi_range1 rfl M.range (pa_cons (pe_op op_plus (pe_callB call_len_seq rfl M.len boot_len (pa_cons (pv 0) pa_nil)) pe_int) pa_nil)) (pg_name (i := 5) sc_next_numbers.nd rfl (Or.inl rfl)) (pss_cons (ps_if (PW.pt (pw_and (pt_cmpR op_lt (pv 5) (pe_callB call_len_seq rfl M.len boot_len (pa_cons (pv 0) pa_nil)) (nomark _)) (pw_and1 (pt_cmpR (op_eqD hu) (pe_ix ix_seq (pv 2) (pv 5) (fun _ _ => rfl)) (pe_ix ix_seq (pv 1) (pv 5) (fun _ _ => rfl)) (nomark _))))) (pss_one ps_continue) pss_nil) (pss_cons (ps_par (i := 6) (j := 7) rfl sc_next_numbers.nd rfl rfl (by decide) rfl rfl (pa_cons (pe_lst pa_nil) (pa_cons pe_int pa_nil)) rfl) (pss_cons (ps_for PassesOwn.never rfl (PI.or (pi_enum rfl M.enumerate (pa_cons (pv 2) pa_nil)) (pi_enumT rfl M.enumerate (pa_cons (pv 2) pa_nil))) (pg_tup rfl (pgs_cons (pg_name (i := 8) sc_next_numbers.nd rfl (Or.inl rfl)) (pgs_cons (pg_name (i := 9) sc_next_numbers.nd rfl (Or.inl rfl)) pgs_nil))) (pss_cons (ps_expr (pe_bm PySem.F.plainAttrs_list PySem.F.slot_list_append PySem.F.type_list_append mt_append (pv 6) (pa_cons (pe_op op_plus (pv 9) (pe_callTy call_int1 rfl M.int boot_int (pa_cons (pe_cmpR (op_eqD hu) (pv 8) (pv 5) (nomark _)) pa_nil))) pa_nil))) (pss_cons (ps_aug (i := 7) sc_next_numbers.nd rfl (Or.inl rfl) (pe_ix ix_seq (pv 6) (pv 8) (fun _ _ => rfl)) ip_add) (pss_one (ps_if (pt_cmpR op_lt (pv 7) (pe_ix ix_seq (pe_ix ix_seq (pv 0) (pv 8) (fun _ _ => rfl)) (pe_op op_plus (pv 3) pe_int) (fun _ _ => rfl)) (nomark _)) (pss_one ps_break) pss_nil))))) (pss_one (ps_if (PW.pt (pw_and (pt_cmpR (op_eqD hu) (pe_callB call_len_seq rfl M.len boot_len (pa_cons (pv 6) pa_nil)) (pe_callB call_len_seq rfl M.len boot_len (pa_cons (pv 0) pa_nil)) (nomark _)) (pw_and1 (pt_cmpR op_ge (pv 7) (pe_ix ix_seq (pe_ix ix_seq (pv 0) (pe_un un_neg pe_int) (fun _ _ => rfl)) (pe_op op_plus (pv 3) pe_int) (fun _ _ => rfl)) (nomark _))))) (pss_one (ps_expr (pe_bm PySem.F.plainAttrs_list PySem.F.slot_list_append PySem.F.type_list_append mt_append (pv 4) (pa_cons (pe_tupB (pa_cons (pv 5) (pa_cons (pe_callTy call_tupA rfl M.tuple boot_tuple (pa_cons (pv 6) pa_nil)) pa_nil))) pa_nil)))) pss_nil)))))) (pss_one (ps_ret (pv 4)))))
abbrev N_floor_numbers : List Str := ["knowledge", "sizes", "size", "other"]
theorem sc_floor_numbers : FnScope N_floor_numbers ["knowledge"] (defScope (top 27)) := ⟨rfl, rfl, rfl, by decide +kernel, rfl, by decide +kernel, by decide +kernel⟩
def t_floor_numbers (K : PySem.W.Frag) (sp_known_sizes : Sp) : TS := (tSeq (tAsg (tCall sp_known_sizes [] E0 (tCons (tVar 0) tNil)) (gName 1)) (tRet (tLc (iZp K (tCons (tVar 1) (tCons (tTupB (tCons (tC (.int 0)) (StX.tStar K (tVar 1) tNil))) tNil))) (gTup K 2 (gCons (gName 2) (gCons (gName 3) gNil))) tYes (tOp (rI0 fun i j => .int (i - j)) (tVar 2) (tVar 3)) [2, 3])))
theorem ok_floor_numbers {sp : Sp} {sp_known_sizes : Sp} (D : Dfs K mg) (M : Mgs mg) (F_known_sizes : Ok P w K mg base CX0 1 "known_sizes" ["knowledge"] sp_known_sizes) (len : ∀ vs H Q E, sp vs H Q E → vs.length = 1) (h : ∀ vs H Q E, sp vs H Q E → t_floor_numbers K sp_known_sizes (fin Q) (L2.start N_floor_numbers vs) H) : Ok P w K mg base CX0 2 "floor_numbers" ["knowledge"] sp := by
  obtain ⟨f, fd, F, hm⟩ := D.floor_numbers
  refine ⟨f, fd, F.bindsN fun _ _ _ _ _ _ us hl => match us, hl with | [_], _ => rfl, F.ok sc_floor_numbers len (fun cdv A outer s H vs Q E hr p => ⟨t_floor_numbers K sp_known_sizes, PSs.nox ?_, h vs H Q E p⟩), hm, F.kp⟩
  have hu := hr.units
  exact (pss_cons (ps_set (i := 1) sc_floor_numbers.nd rfl (Or.inl rfl) (pe_ok F_known_sizes hr (by decide) rfl pass0 (pa_cons (pv 0) pa_nil))) (pss_one (ps_ret (pe_lc (own := [("size", 2), ("other", 3)]) rfl sc_floor_numbers.nd (PI.or (pi_zipA rfl M.zip (pa_cons (pv 1) (pa_cons (pe_tupB (pa_cons pe_int (StX.pa_star (pv 1) pa_nil))) pa_nil))) (pi_zipM rfl M.zip (pa_cons (pv 1) (pa_cons (pe_tupB (pa_cons pe_int (StX.pa_star (pv 1) pa_nil))) pa_nil)))) (blkOk_by rfl) (fun _ _ _ _ _ => (pg_tup rfl (pgs_cons (pg_name (i := 2) sc_floor_numbers.nd rfl (Or.inl rfl)) (pgs_cons (pg_name (i := 3) sc_floor_numbers.nd rfl (Or.inl rfl)) pgs_nil)))) (fun _ _ _ _ _ => pts_nil) (fun _ _ _ _ _ => (pe_op op_sub (pv 2) (pv 3)))))))
abbrev N_law_bag : List Str := ["_law_script", "_law_cell"]
theorem sc_law_bag : FnScope N_law_bag ["_law_script"] (defScope (top 31)) := ⟨rfl, rfl, rfl, by decide +kernel, rfl, by decide +kernel, by decide +kernel⟩
def t_law_bag (K : PySem.W.Frag) : TS := (tRet (tLst (tCons (tC (.int 0)) (tCons (tC (.int 1234567891)) (tCons (tC (.int 0)) (tCons (tLc (iSq K (tSl (rSl K) (tVar 0) tNoPart (tPart (tC (.int 63))))) (gName 1) tYes (tCB (rAbs) (tCons (tVar 1) tNil)) [1]) tNil))))))
theorem ok_law_bag {sp : Sp} (D : Dfs K mg) (M : Mgs mg) (len : ∀ vs H Q E, sp vs H Q E → vs.length = 1) (h : ∀ vs H Q E, sp vs H Q E → t_law_bag K  (fin Q) (L2.start N_law_bag vs) H) : Ok P w K mg base CX0 1 "_law_bag" ["_law_script"] sp := by
  obtain ⟨f, fd, F, hm⟩ := D.law_bag
  refine ⟨f, fd, F.bindsN fun _ _ _ _ _ _ us hl => match us, hl with | [_], _ => rfl, F.ok sc_law_bag len (fun cdv A outer s H vs Q E hr p => ⟨t_law_bag K , PSs.nox ?_, h vs H Q E p⟩), hm, F.kp⟩
  have hu := hr.units
  exact (pss_one (ps_ret (pe_lst (pa_cons pe_int (pa_cons pe_int (pa_cons pe_int (pa_cons (pe_lc (own := [("_law_cell", 1)]) rfl sc_law_bag.nd (PI.or (pi_list (pe_slice sl_seq (pv 0) po_none (po_some pe_int))) (pi_tup (pe_slice sl_seq (pv 0) po_none (po_some pe_int)))) (blkOk_by rfl) (fun _ _ _ _ _ => (pg_name (i := 1) sc_law_bag.nd rfl (Or.inl rfl))) (fun _ _ _ _ _ => pts_nil) (fun _ _ _ _ _ => (pe_callB call_abs rfl M.abs boot_abs (pa_cons (pv 1) pa_nil)))) pa_nil)))))))
abbrev N_law_take : List Str := ["_law_bag_here", "_law_many", "_law_cell", "_law_stirred", "_law_value", "_law_begin", "_law_second"]
theorem sc_law_take : FnScope N_law_take ["_law_bag_here", "_law_many"] (defScope (top 32)) := ⟨rfl, rfl, rfl, by decide +kernel, rfl, by decide +kernel, by decide +kernel⟩
def t_law_take (K : PySem.W.Frag) : TS := (tSeq (tIfS (tTest (tOp (rEqD K) (tOp (rIx K) (tVar 0) (tC (.int 0))) (tC (.int 0)))) (tSeq (tAsg (tOp (rIx K) (tOp (rPlus K) (tSl (rSl K) (tOp (rIx K) (tVar 0) (tC (.int 3))) (tPart (tOp (rIx K) (tVar 0) (tC (.int 2)))) tNoPart) (tLst (tCons (tC (.int 0)) tNil))) (tC (.int 0))) (gName 2)) (tSeq (tAugS (tVar 0) (tC (.int 2)) (tC (.int 1)) (gL K) (ipI fun i j => i + j) rSetL) (tSeq (tIfS (tTest (tOp (rI0 fun i j => .bl (decide (j ≤ i))) (tVar 2) (tOp (rI CPow fun i j => .int (i ^ j.toNat)) (tC (.int 10)) (tC (.int 18))))) (tAsg (tVar 2) (gSub (tVar 0) (tC (.int 0)) rSetL)) tNext) (tSeq (tAsg (tOp (rPlus K) (tOp (rPlus K) (tOp (rMul K) (tOp (rIx K) (tVar 0) (tC (.int 1))) (tC (.int 48271))) (tOp (rI (fun _ j => 0 < j) fun i j => .int (i % j)) (tCB (rInt1) (tCons (tVar 2) tNil)) (tC (.int 2147483647)))) (tOp (rMul K) (tC (.int 7919)) (tOp (rIx K) (tVar 0) (tC (.int 2))))) (gName 3)) (tAsg (tOp (rI (fun _ j => 0 < j) fun i j => .int (i % j)) (tCB (rInt1) (tCons (tVar 3) tNil)) (tC (.int 2147483647))) (gSub (tVar 0) (tC (.int 1)) rSetL)))))) tNext) (tSeq (tIfS (tTest (tOp (rI0 fun i j => .bl (decide (j < i))) (tOp (rIx K) (tVar 0) (tC (.int 0))) (tC (.int 0)))) (tSeq (tAsg (tOp (rI (fun _ j => 0 < j) fun i j => .int (i % j)) (tCB (rInt1) (tCons (tOp (rIx K) (tVar 0) (tC (.int 0))) tNil)) (tVar 1)) (gName 4)) (tSeq (tAsg (tOp (rI CDiv fun i j => .int (i / j)) (tCB (rInt1) (tCons (tOp (rIx K) (tVar 0) (tC (.int 0))) tNil)) (tVar 1)) (gSub (tVar 0) (tC (.int 0)) rSetL)) (tRet (tVar 4)))) tNext) (tSeq (tAsg (tOp (rI (fun _ j => 0 < j) fun i j => .int (i % j)) (tCB (rInt1) (tCons (tOp (rMul K) (tOp (rPlus K) (tOp (rIx K) (tVar 0) (tC (.int 1))) (tC (.int 1))) (tC (.int 39373))) tNil)) (tC (.int 1000000007))) (gName 5)) (tSeq (tAsg (tOp (rI (fun _ j => 0 < j) fun i j => .int (i % j)) (tCB (rInt1) (tCons (tOp (rMul K) (tOp (rI (fun _ j => 0 < j) fun i j => .int (i % j)) (tCB (rInt1) (tCons (tOp (rMul K) (tVar 5) (tVar 5)) tNil)) (tC (.int 998244353))) (tC (.int 30011))) tNil)) (tC (.int 998244353))) (gName 6)) (tRet (tOp (rI (fun _ j => 0 < j) fun i j => .int (i % j)) (tCB (rInt1) (tCons (tOp (rI CDiv fun i j => .int (i / j)) (tVar 6) (tC (.int 7))) tNil)) (tVar 1)))))))
theorem ok_law_take {sp : Sp} (D : Dfs K mg) (M : Mgs mg) (len : ∀ vs H Q E, sp vs H Q E → vs.length = 2) (h : ∀ vs H Q E, sp vs H Q E → t_law_take K  (fin Q) (L2.start N_law_take vs) H) : Ok P w K mg base CX0 1 "_law_take" ["_law_bag_here", "_law_many"] sp := by
  obtain ⟨f, fd, F, hm⟩ := D.law_take
  refine ⟨f, fd, F.bindsN fun _ _ _ _ _ _ us hl => match us, hl with | [_, _], _ => rfl, F.ok sc_law_take len (fun cdv A outer s H vs Q E hr p => ⟨t_law_take K , PSs.nox ?_, h vs H Q E p⟩), hm, F.kp⟩
  have hu := hr.units
  exact (pss_cons (ps_if (pt_cmpR (op_eqD hu) (pe_ix ix_seq (pv 0) pe_int (fun _ _ => rfl)) pe_int (nomark _)) (pss_cons (ps_set (i := 2) sc_law_take.nd rfl (Or.inl rfl) (pe_ix ix_seq (pe_op op_plus (pe_slice sl_seq (pe_ix ix_seq (pv 0) pe_int (fun _ _ => rfl)) (po_some (pe_ix ix_seq (pv 0) pe_int (fun _ _ => rfl))) po_none) (pe_lst (pa_cons pe_int pa_nil))) pe_int (fun _ _ => rfl))) (pss_cons (ps_augS (pv 0) pe_int pget_list pe_int ip_add set_list) (pss_cons (ps_if (pt_cmpR op_ge (pv 2) (pe_op op_pow pe_int pe_int) (nomark _)) (pss_one (ps_asg (pv 2) (pg_sub (pv 0) pe_int set_list))) pss_nil) (pss_cons (ps_set (i := 3) sc_law_take.nd rfl (Or.inl rfl) (pe_op op_plus (pe_op op_plus (pe_op op_mulA (pe_ix ix_seq (pv 0) pe_int (fun _ _ => rfl)) pe_int) (pe_op op_mod (pe_callTy call_int1 rfl M.int boot_int (pa_cons (pv 2) pa_nil)) pe_int)) (pe_op op_mulA pe_int (pe_ix ix_seq (pv 0) pe_int (fun _ _ => rfl))))) (pss_one (ps_asg (pe_op op_mod (pe_callTy call_int1 rfl M.int boot_int (pa_cons (pv 3) pa_nil)) pe_int) (pg_sub (pv 0) pe_int set_list))))))) pss_nil) (pss_cons (ps_if (pt_cmpR op_gt (pe_ix ix_seq (pv 0) pe_int (fun _ _ => rfl)) pe_int (nomark _)) (pss_cons (ps_set (i := 4) sc_law_take.nd rfl (Or.inl rfl) (pe_op op_mod (pe_callTy call_int1 rfl M.int boot_int (pa_cons (pe_ix ix_seq (pv 0) pe_int (fun _ _ => rfl)) pa_nil)) (pv 1))) (pss_cons (ps_asg (pe_op op_fdiv (pe_callTy call_int1 rfl M.int boot_int (pa_cons (pe_ix ix_seq (pv 0) pe_int (fun _ _ => rfl)) pa_nil)) (pv 1)) (pg_sub (pv 0) pe_int set_list)) (pss_one (ps_ret (pv 4))))) pss_nil) (pss_cons (ps_set (i := 5) sc_law_take.nd rfl (Or.inl rfl) (pe_op op_mod (pe_callTy call_int1 rfl M.int boot_int (pa_cons (pe_op op_mulA (pe_op op_plus (pe_ix ix_seq (pv 0) pe_int (fun _ _ => rfl)) pe_int) pe_int) pa_nil)) pe_int)) (pss_cons (ps_set (i := 6) sc_law_take.nd rfl (Or.inl rfl) (pe_op op_mod (pe_callTy call_int1 rfl M.int boot_int (pa_cons (pe_op op_mulA (pe_op op_mod (pe_callTy call_int1 rfl M.int boot_int (pa_cons (pe_op op_mulA (pv 5) (pv 5)) pa_nil)) pe_int) pe_int) pa_nil)) pe_int)) (pss_one (ps_ret (pe_op op_mod (pe_callTy call_int1 rfl M.int boot_int (pa_cons (pe_op op_fdiv (pv 6) pe_int) pa_nil)) (pv 1))))))))
abbrev N_law_one : List Str := ["_law_bag_here", "_law_things"]
theorem sc_law_one : FnScope N_law_one ["_law_bag_here", "_law_things"] (defScope (top 33)) := ⟨rfl, rfl, rfl, by decide +kernel, rfl, by decide +kernel, by decide +kernel⟩
def t_law_one (K : PySem.W.Frag) (sp_law_take : Sp) : TS := (tRet (tOp (rIx K) (tVar 1) (tCall sp_law_take [] E0 (tCons (tVar 0) (tCons (tCB (Lg.rLen K) (tCons (tVar 1) tNil)) tNil)))))
theorem ok_law_one {sp : Sp} {sp_law_take : Sp} (D : Dfs K mg) (M : Mgs mg) (F_law_take : Ok P w K mg base CX0 1 "_law_take" ["_law_bag_here", "_law_many"] sp_law_take) (len : ∀ vs H Q E, sp vs H Q E → vs.length = 2) (h : ∀ vs H Q E, sp vs H Q E → t_law_one K sp_law_take (fin Q) (L2.start N_law_one vs) H) : Ok P w K mg base CX0 2 "_law_one" ["_law_bag_here", "_law_things"] sp := by
  obtain ⟨f, fd, F, hm⟩ := D.law_one
  refine ⟨f, fd, F.bindsN fun _ _ _ _ _ _ us hl => match us, hl with | [_, _], _ => rfl, F.ok sc_law_one len (fun cdv A outer s H vs Q E hr p => ⟨t_law_one K sp_law_take, PSs.nox ?_, h vs H Q E p⟩), hm, F.kp⟩
  have hu := hr.units
  exact (pss_one (ps_ret (pe_ix ix_seq (pv 1) (pe_ok F_law_take hr (by decide) rfl pass0 (pa_cons (pv 0) (pa_cons (pe_callB call_len_seq rfl M.len boot_len (pa_cons (pv 1) pa_nil)) pa_nil))) (fun _ _ => rfl))))
abbrev N_law_house : List Str := ["_law_bag_here", "_law_things", "_law_floors", "_law_rooms", "_law_many", "_law_found", "_law_left", "_law_floor"]
theorem sc_law_house : FnScope N_law_house ["_law_bag_here", "_law_things", "_law_floors", "_law_rooms"] (defScope (top 34)) := ⟨rfl, rfl, rfl, by decide +kernel, rfl, by decide +kernel, by decide +kernel⟩
def t_law_house (K : PySem.W.Frag) (sp_law_take sp_law_one : Sp) : TS := (tSeq (tAsg (tCall sp_law_one [] E0 (tCons (tVar 0) (tCons (tLst (tCons (tVar 1) (tCons (tVar 1) (tCons (tC (.int 3)) (tCons (tC (.int 2)) (tCons (tC (.int 1)) (tCons (tC (.int 0)) (tCons (tCall sp_law_take [] E0 (tCons (tVar 0) (tCons (tOp (rPlus K) (tVar 1) (tC (.int 1))) tNil))) tNil)))))))) tNil))) (gName 4)) (tSeq (tPar 5 6 (tCons (tLst tNil) (tCons (tVar 3) tNil))) (tSeq (tFor (iRng1 (tCons (tCall sp_law_one [] E0 (tCons (tVar 0) (tCons (tLst (tCons (tVar 2) (tCons (tC (.int 2)) (tCons (tVar 2) (tCons (tC (.int 1)) (tCons (tOp (rPlus K) (tC (.int 1)) (tCall sp_law_take [] E0 (tCons (tVar 0) (tCons (tVar 2) tNil)))) tNil)))))) tNil))) tNil)) (gName 7) (tIfS (tAnd (tTest (tOp (rI0 fun i j => .bl (decide (j < i))) (tVar 6) (tC (.int 0)))) (tTest (tOp (rI0 fun i j => .bl (decide (i < j))) (tVar 7) (tVar 2)))) (tSeq (tDrop (tBM K "list" (rAppend) (tVar 5) (tCons (tCB (rMin2) (tCons (tVar 6) (tCons (tCall sp_law_one [] E0 (tCons (tVar 0) (tCons (tLst (tCons (tC (.int 1)) (tCons (tC (.int 2)) (tCons (tC (.int 1)) (tCons (tC (.int 3)) (tCons (tC (.int 1)) (tCons (tC (.int 2)) (tCons (tOp (rPlus K) (tC (.int 1)) (tCall sp_law_take [] E0 (tCons (tVar 0) (tCons (tVar 3) tNil)))) tNil)))))))) tNil))) tNil))) tNil))) (tAug 6 (tOp (rIx K) (tVar 5) (tUn (rU fun i => .int (-i)) (tC (.int 1)))) (ipI fun i j => i - j))) tNext)) (tRet (tTupB (tCons (tCB (rMin2) (tCons (tVar 4) (tCons (tVar 1) tNil))) (tCons (tCB (rTupA K) (tCons (tVar 5) tNil)) tNil)))))))
theorem ok_law_house {sp : Sp} {sp_law_take sp_law_one : Sp} (D : Dfs K mg) (M : Mgs mg) (F_law_take : Ok P w K mg base CX0 1 "_law_take" ["_law_bag_here", "_law_many"] sp_law_take) (F_law_one : Ok P w K mg base CX0 2 "_law_one" ["_law_bag_here", "_law_things"] sp_law_one) (len : ∀ vs H Q E, sp vs H Q E → vs.length = 4) (h : ∀ vs H Q E, sp vs H Q E → t_law_house K sp_law_take sp_law_one (fin Q) (L2.start N_law_house vs) H) : Ok P w K mg base CX0 3 "_law_house" ["_law_bag_here", "_law_things", "_law_floors", "_law_rooms"] sp := by
  obtain ⟨f, fd, F, hm⟩ := D.law_house
  refine ⟨f, fd, F.bindsN fun _ _ _ _ _ _ us hl => match us, hl with | [_, _, _, _], _ => rfl, F.ok sc_law_house len (fun cdv A outer s H vs Q E hr p => ⟨t_law_house K sp_law_take sp_law_one, PSs.nox ?_, h vs H Q E p⟩), hm, F.kp⟩
  have hu := hr.units
  exact (pss_cons (ps_set (i := 4) sc_law_house.nd rfl (Or.inl rfl) (pe_ok F_law_one hr (by decide) rfl pass0 (pa_cons (pv 0) (pa_cons (pe_lst (pa_cons (pv 1) (pa_cons (pv 1) (pa_cons pe_int (pa_cons pe_int (pa_cons pe_int (pa_cons pe_int (pa_cons (pe_ok F_law_take hr (by decide) rfl pass0 (pa_cons (pv 0) (pa_cons (pe_op op_plus (pv 1) pe_int) pa_nil))) pa_nil)))))))) pa_nil)))) (pss_cons (ps_par (i := 5) (j := 6) rfl sc_law_house.nd rfl rfl (by decide) rfl rfl (pa_cons (pe_lst pa_nil) (pa_cons (pv 3) pa_nil)) rfl) (pss_cons (ps_for PassesOwn.never rfl (pi_range1 rfl M.range (pa_cons (pe_ok F_law_one hr (by decide) rfl pass0 (pa_cons (pv 0) (pa_cons (pe_lst (pa_cons (pv 2) (pa_cons pe_int (pa_cons (pv 2) (pa_cons pe_int (pa_cons (pe_op op_plus pe_int (pe_ok F_law_take hr (by decide) rfl pass0 (pa_cons (pv 0) (pa_cons (pv 2) pa_nil)))) pa_nil)))))) pa_nil))) pa_nil)) (pg_name (i := 7) sc_law_house.nd rfl (Or.inl rfl)) (pss_one (ps_if (PW.pt (pw_and (pt_cmpR op_gt (pv 6) pe_int (nomark _)) (pw_and1 (pt_cmpR op_lt (pv 7) (pv 2) (nomark _))))) (pss_cons (ps_expr (pe_bm PySem.F.plainAttrs_list PySem.F.slot_list_append PySem.F.type_list_append mt_append (pv 5) (pa_cons (pe_callB (call_min2 rfl) rfl M.min boot_min (pa_cons (pv 6) (pa_cons (pe_ok F_law_one hr (by decide) rfl pass0 (pa_cons (pv 0) (pa_cons (pe_lst (pa_cons pe_int (pa_cons pe_int (pa_cons pe_int (pa_cons pe_int (pa_cons pe_int (pa_cons pe_int (pa_cons (pe_op op_plus pe_int (pe_ok F_law_take hr (by decide) rfl pass0 (pa_cons (pv 0) (pa_cons (pv 3) pa_nil)))) pa_nil)))))))) pa_nil))) pa_nil))) pa_nil))) (pss_one (ps_aug (i := 6) sc_law_house.nd rfl (Or.inl rfl) (pe_ix ix_seq (pv 5) (pe_un un_neg pe_int) (fun _ _ => rfl)) ip_sub))) pss_nil))) (pss_one (ps_ret (pe_tupB (pa_cons (pe_callB (call_min2 rfl) rfl M.min boot_min (pa_cons (pv 4) (pa_cons (pv 1) pa_nil))) (pa_cons (pe_callTy call_tupA rfl M.tuple boot_tuple (pa_cons (pv 5) pa_nil)) pa_nil))))))))
abbrev N_law_mixed : List Str := ["_law_bag_here", "_law_things", "_law_found", "_law_thing"]
theorem sc_law_mixed : FnScope N_law_mixed ["_law_bag_here", "_law_things"] (defScope (top 35)) := ⟨rfl, rfl, rfl, by decide +kernel, rfl, by decide +kernel, by decide +kernel⟩
def t_law_mixed (K : PySem.W.Frag) (sp_law_take : Sp) : TS := (tSeq (tAsg (tLst tNil) (gName 2)) (tSeq (tFor (iSq K (tVar 1)) (gName 3) (tDrop (tBM K "list" (rInsert) (tVar 2) (tCons (tCall sp_law_take [] E0 (tCons (tVar 0) (tCons (tOp (rPlus K) (tCB (Lg.rLen K) (tCons (tVar 2) tNil)) (tC (.int 1))) tNil))) (tCons (tVar 3) tNil))))) (tRet (tVar 2))))
theorem ok_law_mixed {sp : Sp} {sp_law_take : Sp} (D : Dfs K mg) (M : Mgs mg) (F_law_take : Ok P w K mg base CX0 1 "_law_take" ["_law_bag_here", "_law_many"] sp_law_take) (len : ∀ vs H Q E, sp vs H Q E → vs.length = 2) (h : ∀ vs H Q E, sp vs H Q E → t_law_mixed K sp_law_take (fin Q) (L2.start N_law_mixed vs) H) : Ok P w K mg base CX0 2 "_law_mixed" ["_law_bag_here", "_law_things"] sp := by
  obtain ⟨f, fd, F, hm⟩ := D.law_mixed
  refine ⟨f, fd, F.bindsN fun _ _ _ _ _ _ us hl => match us, hl with | [_, _], _ => rfl, F.ok sc_law_mixed len (fun cdv A outer s H vs Q E hr p => ⟨t_law_mixed K sp_law_take, PSs.nox ?_, h vs H Q E p⟩), hm, F.kp⟩
  have hu := hr.units
  exact (pss_cons (ps_set (i := 2) sc_law_mixed.nd rfl (Or.inl rfl) (pe_lst pa_nil)) (pss_cons (ps_for PassesOwn.never rfl (PI.or (pi_list (pv 1)) (pi_tup (pv 1))) (pg_name (i := 3) sc_law_mixed.nd rfl (Or.inl rfl)) (pss_one (ps_expr (pe_bm PySem.F.plainAttrs_list PySem.F.slot_list_insert PySem.F.type_list_insert mt_insert (pv 2) (pa_cons (pe_ok F_law_take hr (by decide) rfl pass0 (pa_cons (pv 0) (pa_cons (pe_op op_plus (pe_callB call_len_seq rfl M.len boot_len (pa_cons (pv 2) pa_nil)) pe_int) pa_nil))) (pa_cons (pv 3) pa_nil)))))) (pss_one (ps_ret (pv 2)))))
abbrev N_law_state : List Str := ["_law_bag_here", "_law_house_here", "_law_many", "_law_rooms", "_law_left", "_law_way", "_law_state_here", "_law_thing", "_law_open_floors", "_law_floor", "_law_free"]
theorem sc_law_state : FnScope N_law_state ["_law_bag_here", "_law_house_here"] (defScope (top 36)) := ⟨rfl, rfl, rfl, by decide +kernel, rfl, by decide +kernel, by decide +kernel⟩
def t_law_state (K : PySem.W.Frag) (sp_law_take sp_law_mixed sp_law_one : Sp) : TS := (tSeq (tAsg (tVar 1) (gTup K 2 (gCons (gName 2) (gCons (gName 3) gNil)))) (tSeq (tPar3 4 5 6 (tCons (tCB (rLstOf K) (tCons (tVar 3) tNil)) (tCons (tCall sp_law_take [] E0 (tCons (tVar 0) (tCons (tC (.int 4)) tNil))) (tCons (tOp (rMul K) (tLst (tCons (tCB (Lg.rLen K) (tCons (tVar 3) tNil)) tNil)) (tVar 2)) tNil)))) (tSeq (tFor (iSq K (tCall sp_law_mixed [] E0 (tCons (tVar 0) (tCons (tLstRg (tRg1 (tVar 2))) tNil)))) (gName 7) (tSeq (tAsg (tLc (iEn K (tCons (tVar 4) tNil)) (gTup K 2 (gCons (gName 9) (gCons (gName 10) gNil))) (tTest (tOp (rI0 fun i j => .bl (decide (j < i))) (tVar 10) (tC (.int 0)))) (tVar 9) [9, 10]) (gName 8)) (tSeq (tIfS (tAnd (tTest (tOp (rEqD K) (tVar 5) (tC (.int 1)))) (tTest (tOp (rNeD K) (tVar 8) (tLst tNil)))) (tAsg (tOp (rIx K) (tVar 8) (tC (.int 0))) (gSub (tVar 6) (tVar 7) rSetL)) (tIfS (tAnd (tTest (tOp (rI0 fun i j => .bl (decide (j < i))) (tVar 5) (tC (.int 1)))) (tTest (tOp (rNeD K) (tVar 8) (tLst tNil)))) (tAsg (tCall sp_law_one [] E0 (tCons (tVar 0) (tCons (tOp (rPlus K) (tVar 8) (tOp (rMul K) (tLst (tCons (tCB (Lg.rLen K) (tCons (tVar 3) tNil)) tNil)) (tOp (rI0 fun i j => .int (i - j)) (tVar 5) (tC (.int 2))))) tNil))) (gSub (tVar 6) (tVar 7) rSetL)) tNext)) (tIfS (tTest (tOp (rI0 fun i j => .bl (decide (i < j))) (tOp (rIx K) (tVar 6) (tVar 7)) (tCB (Lg.rLen K) (tCons (tVar 3) tNil)))) (tAugS (tVar 4) (tOp (rIx K) (tVar 6) (tVar 7)) (tC (.int 1)) (gL K) (ipI fun i j => i - j) rSetL) tNext)))) (tRet (tCB (rTupA K) (tCons (tVar 6) tNil))))))
theorem ok_law_state {sp : Sp} {sp_law_take sp_law_mixed sp_law_one : Sp} (D : Dfs K mg) (M : Mgs mg) (F_law_take : Ok P w K mg base CX0 1 "_law_take" ["_law_bag_here", "_law_many"] sp_law_take) (F_law_mixed : Ok P w K mg base CX0 2 "_law_mixed" ["_law_bag_here", "_law_things"] sp_law_mixed) (F_law_one : Ok P w K mg base CX0 2 "_law_one" ["_law_bag_here", "_law_things"] sp_law_one) (len : ∀ vs H Q E, sp vs H Q E → vs.length = 2) (h : ∀ vs H Q E, sp vs H Q E → t_law_state K sp_law_take sp_law_mixed sp_law_one (fin Q) (L2.start N_law_state vs) H) : Ok P w K mg base CX0 3 "_law_state" ["_law_bag_here", "_law_house_here"] sp := by
  obtain ⟨f, fd, F, hm⟩ := D.law_state
  refine ⟨f, fd, F.bindsN fun _ _ _ _ _ _ us hl => match us, hl with | [_, _], _ => rfl, F.ok sc_law_state len (fun cdv A outer s H vs Q E hr p => ⟨t_law_state K sp_law_take sp_law_mixed sp_law_one, PSs.nox ?_, h vs H Q E p⟩), hm, F.kp⟩
  have hu := hr.units
  exact (pss_cons (ps_asg (pv 1) (pg_tup rfl (pgs_cons (pg_name (i := 2) sc_law_state.nd rfl (Or.inl rfl)) (pgs_cons (pg_name (i := 3) sc_law_state.nd rfl (Or.inl rfl)) pgs_nil)))) (pss_cons (ps_par3 (i := 4) (j := 5) (l := 6) rfl sc_law_state.nd rfl rfl rfl (by decide) (by decide) (by decide) rfl rfl rfl (pa_cons (pe_callTy call_list_of rfl M.list boot_list (pa_cons (pv 3) pa_nil)) (pa_cons (pe_ok F_law_take hr (by decide) rfl pass0 (pa_cons (pv 0) (pa_cons pe_int pa_nil))) (pa_cons (pe_op op_mulA (pe_lst (pa_cons (pe_callB call_len_seq rfl M.len boot_len (pa_cons (pv 3) pa_nil)) pa_nil)) (pv 2)) pa_nil))) rfl) (pss_cons (ps_for PassesOwn.never rfl (PI.or (pi_list (pe_ok F_law_mixed hr (by decide) rfl pass0 (pa_cons (pv 0) (pa_cons (pe_listRg rfl rfl M.list (prg_1 rfl M.range (pv 2))) pa_nil)))) (pi_tup (pe_ok F_law_mixed hr (by decide) rfl pass0 (pa_cons (pv 0) (pa_cons (pe_listRg rfl rfl M.list (prg_1 rfl M.range (pv 2))) pa_nil))))) (pg_name (i := 7) sc_law_state.nd rfl (Or.inl rfl)) (pss_cons (ps_setLc (i := 8) (own := [("_law_floor", 9), ("_law_free", 10)]) rfl sc_law_state.nd rfl rfl (sw_true rfl rfl rfl rfl) (PI.or (pi_enum rfl M.enumerate (pa_cons (pv 4) pa_nil)) (pi_enumT rfl M.enumerate (pa_cons (pv 4) pa_nil))) (blkOk_by rfl) (fun _ _ _ _ _ => (pg_tup rfl (pgs_cons (pg_name (i := 9) sc_law_state.nd rfl (Or.inl rfl)) (pgs_cons (pg_name (i := 10) sc_law_state.nd rfl (Or.inl rfl)) pgs_nil)))) (fun _ _ _ _ _ => (pts_one (pt_cmpR op_gt (pv 10) pe_int (nomark _)))) (fun _ _ _ _ _ => (pv 9))) (pss_cons (ps_if (PW.pt (pw_and (pt_cmpR (op_eqD hu) (pv 5) pe_int (nomark _)) (pw_and1 (pt_cmpR (op_neD hu) (pv 8) (pe_lst pa_nil) (nomark _))))) (pss_one (ps_asg (pe_ix ix_seq (pv 8) pe_int (fun _ _ => rfl)) (pg_sub (pv 6) (pv 7) set_list))) (pss_one (ps_if (PW.pt (pw_and (pt_cmpR op_gt (pv 5) pe_int (nomark _)) (pw_and1 (pt_cmpR (op_neD hu) (pv 8) (pe_lst pa_nil) (nomark _))))) (pss_one (ps_asg (pe_ok F_law_one hr (by decide) rfl pass0 (pa_cons (pv 0) (pa_cons (pe_op op_plus (pv 8) (pe_op op_mulA (pe_lst (pa_cons (pe_callB call_len_seq rfl M.len boot_len (pa_cons (pv 3) pa_nil)) pa_nil)) (pe_op op_sub (pv 5) pe_int))) pa_nil))) (pg_sub (pv 6) (pv 7) set_list))) pss_nil))) (pss_one (ps_if (pt_cmpR op_lt (pe_ix ix_seq (pv 6) (pv 7) (fun _ _ => rfl)) (pe_callB call_len_seq rfl M.len boot_len (pa_cons (pv 3) pa_nil)) (nomark _)) (pss_one (ps_augS (pv 4) (pe_ix ix_seq (pv 6) (pv 7) (fun _ _ => rfl)) pget_list pe_int ip_sub set_list)) pss_nil))))) (pss_one (ps_ret (pe_callTy call_tupA rfl M.tuple boot_tuple (pa_cons (pv 6) pa_nil)))))))
abbrev N_law_start : List Str := ["_law_bag_here", "_law_house_here", "_law_menu"]
theorem sc_law_start : FnScope N_law_start ["_law_bag_here", "_law_house_here"] (defScope (top 37)) := ⟨rfl, rfl, rfl, by decide +kernel, rfl, by decide +kernel, by decide +kernel⟩
def t_law_start (K : PySem.W.Frag) (sp_law_state sp_law_one : Sp) : TS := (tSeq (tAsg (tLst (tCons (tOp (rMul K) (tTupB (tCons (tCB (Lg.rLen K) (tCons (tOp (rIx K) (tVar 1) (tC (.int 1))) tNil)) tNil)) (tOp (rIx K) (tVar 1) (tC (.int 0)))) (tCons (tCall sp_law_state [] E0 (tCons (tVar 0) (tCons (tVar 1) tNil))) (tCons (tCall sp_law_state [] E0 (tCons (tVar 0) (tCons (tVar 1) tNil))) tNil)))) (gName 2)) (tRet (tCall sp_law_one [] E0 (tCons (tVar 0) (tCons (tOp (rPlus K) (tVar 2) (tOp (rMul K) (tLst (tCons (tC .non) tNil)) (tCB (rInt1) (tCons (tOp (rI0 fun i j => .bl (decide (j ≤ i))) (tOp (rIx K) (tVar 1) (tC (.int 0))) (tCB (rSumT K) (tCons (tOp (rIx K) (tVar 1) (tC (.int 1))) tNil))) tNil)))) tNil)))))
theorem ok_law_start {sp : Sp} {sp_law_state sp_law_one : Sp} (D : Dfs K mg) (M : Mgs mg) (F_law_state : Ok P w K mg base CX0 3 "_law_state" ["_law_bag_here", "_law_house_here"] sp_law_state) (F_law_one : Ok P w K mg base CX0 2 "_law_one" ["_law_bag_here", "_law_things"] sp_law_one) (len : ∀ vs H Q E, sp vs H Q E → vs.length = 2) (h : ∀ vs H Q E, sp vs H Q E → t_law_start K sp_law_state sp_law_one (fin Q) (L2.start N_law_start vs) H) : Ok P w K mg base CX0 4 "_law_start" ["_law_bag_here", "_law_house_here"] sp := by
  obtain ⟨f, fd, F, hm⟩ := D.law_start
  refine ⟨f, fd, F.bindsN fun _ _ _ _ _ _ us hl => match us, hl with | [_, _], _ => rfl, F.ok sc_law_start len (fun cdv A outer s H vs Q E hr p => ⟨t_law_start K sp_law_state sp_law_one, PSs.nox ?_, h vs H Q E p⟩), hm, F.kp⟩
  have hu := hr.units
  exact (pss_cons (ps_set (i := 2) sc_law_start.nd rfl (Or.inl rfl) (pe_lst (pa_cons (pe_op op_mulA (pe_tupB (pa_cons (pe_callB call_len_seq rfl M.len boot_len (pa_cons (pe_ix ix_seq (pv 1) pe_int (fun _ _ => rfl)) pa_nil)) pa_nil)) (pe_ix ix_seq (pv 1) pe_int (fun _ _ => rfl))) (pa_cons (pe_ok F_law_state hr (by decide) rfl pass0 (pa_cons (pv 0) (pa_cons (pv 1) pa_nil))) (pa_cons (pe_ok F_law_state hr (by decide) rfl pass0 (pa_cons (pv 0) (pa_cons (pv 1) pa_nil))) pa_nil))))) (pss_one (ps_ret (pe_ok F_law_one hr (by decide) rfl pass0 (pa_cons (pv 0) (pa_cons (pe_op op_plus (pv 2) (pe_op op_mulA (pe_lst (pa_cons pe_non pa_nil)) (pe_callTy call_int1 rfl M.int boot_int (pa_cons (pe_cmpR op_ge (pe_ix ix_seq (pv 1) pe_int (fun _ _ => rfl)) (pe_callB (cr_sumT rfl) rfl M.sum boot_sum (pa_cons (pe_ix ix_seq (pv 1) pe_int (fun _ _ => rfl)) pa_nil)) (nomark _)) pa_nil)))) pa_nil))))))
end
end FK
end
section
set_option autoImplicit false
set_option linter.all false
/-! Floors: the mathematics of leading, with words as functions. g : the floor of each thing; o : an order of things. -/
namespace FM
abbrev Fam := Nat → Nat → Int
/-- how many of the first d things of o are within j -/
def cnt (g : Nat → Nat) (o : List Nat) (j d : Nat) : Nat := (o.take d).countP (fun y => decide (g y ≤ j))

structure Tight (F m : Nat) (s : Nat → Int) (V : Fam) : Prop where
  zero : ∀ j, j < F → V j 0 = 0
  up : ∀ j d, j < F → d < m → V j d ≤ V j (d + 1) ∧ V j (d + 1) ≤ V j d + 1
  last : ∀ j, j < F → V j m = s j
  lo : ∀ j d, j + 1 < F → d ≤ m → V j d ≤ V (j + 1) d
  hi : ∀ j d, j + 1 < F → d ≤ m → V (j + 1) d ≤ V j d + (s (j + 1) - s j)

def Fits (F : Nat) (o : List Nat) (s : Nat → Int) (V : Fam) (g : Nat → Nat) : Prop :=
  (∀ j, j < F → (cnt g o j o.length : Int) = s j) ∧ ∀ j d, j < F → d ≤ o.length → V j d ≤ (cnt g o j d : Int)

section
variable {g g' : Nat → Nat} {o : List Nat} {j k d e F m : Nat} {s : Nat → Int} {V : Fam}

theorem cnt_zero : cnt g o j 0 = 0 := by simp [cnt]
theorem cnt_succ (h : d < o.length) : cnt g o j (d + 1) = cnt g o j d + (if g o[d] ≤ j then 1 else 0) := by
  unfold cnt
  rw [List.take_add_one, List.getElem?_eq_getElem h, List.countP_append]
  simp [List.countP_cons]
theorem cnt_le : cnt g o j d ≤ d := by
  unfold cnt
  refine Nat.le_trans (List.countP_le_length) ?_
  rw [List.length_take]; omega
theorem cnt_mono_j (h : j ≤ k) : cnt g o j d ≤ cnt g o k d := by
  unfold cnt
  apply List.countP_mono_left
  intro x _ hx
  simp at hx ⊢; omega
theorem cnt_mono_d (h : d ≤ e) : cnt g o j d ≤ cnt g o j e := by
  unfold cnt
  exact (List.take_sublist_take_left h).countP_le
theorem cnt_congr (h : ∀ x ∈ o, g x = g' x) : cnt g o j d = cnt g' o j d := by
  unfold cnt
  apply List.countP_congr
  intro x hx
  rw [h x (List.mem_of_mem_take hx)]
theorem cnt_big (h : o.length ≤ d) : cnt g o j d = cnt g o j o.length := by
  unfold cnt
  rw [List.take_of_length_le h, List.take_length]
theorem cnt_all (h : ∀ x ∈ o, g x ≤ j) (hd : d ≤ o.length) : cnt g o j d = d := by
  unfold cnt
  rw [List.countP_eq_length.mpr]
  · rw [List.length_take]; omega
  · intro x hx
    exact decide_eq_true (h x (List.mem_of_mem_take hx))
/-- the number on floors above j grows with d -/
theorem cnt_gap (h : d ≤ e) (hj : j ≤ k) : cnt g o k d + cnt g o j e ≤ cnt g o j d + cnt g o k e := by
  by_cases he : e ≤ o.length
  · induction e with
    | zero => have : d = 0 := by omega
              subst this; omega
    | succ e ih =>
      by_cases hd : d = e + 1
      · subst hd; omega
      · have ih' := ih (by omega) (by omega)
        rw [cnt_succ (by omega), cnt_succ (by omega)]
        split <;> split <;> omega
  · have h1 := cnt_big (g := g) (o := o) (j := j) (d := e) (by omega)
    have h2 := cnt_big (g := g) (o := o) (j := k) (d := e) (by omega)
    rw [h1, h2]
    by_cases hd : d ≤ o.length
    · have key : ∀ n, d ≤ n → n ≤ o.length → cnt g o k d + cnt g o j n ≤ cnt g o j d + cnt g o k n := by
        intro n
        induction n with
        | zero => intro a _; have : d = 0 := by omega
                  subst this; omega
        | succ n ih =>
          intro a b
          by_cases hd' : d = n + 1
          · subst hd'; omega
          · have := ih (by omega) (by omega)
            rw [cnt_succ (by omega), cnt_succ (by omega)]
            split <;> split <;> omega
      exact key _ hd (Nat.le_refl _)
    · rw [cnt_big (g := g) (o := o) (j := j) (d := d) (by omega), cnt_big (g := g) (o := o) (j := k) (d := d) (by omega)]
      omega
/-- counts are tight words -/
theorem cnt_tight : Tight F o.length (fun j => (cnt g o j o.length : Int)) (fun j d => (cnt g o j d : Int)) where
  zero := fun j _ => by simp [cnt_zero]
  up := fun j d _ hd => by
    show (cnt g o j d : Int) ≤ (cnt g o j (d + 1) : Int) ∧ (cnt g o j (d + 1) : Int) ≤ (cnt g o j d : Int) + 1
    rw [cnt_succ hd]
    split <;> omega
  last := fun j _ => rfl
  lo := fun j d _ _ => by
    have := cnt_mono_j (g := g) (o := o) (d := d) (show j ≤ j + 1 by omega)
    show (cnt g o j d : Int) ≤ (cnt g o (j + 1) d : Int)
    omega
  hi := fun j d _ hd => by
    have := cnt_gap (g := g) (o := o) (j := j) (k := j + 1) hd (by omega)
    show (cnt g o (j + 1) d : Int) ≤ (cnt g o j d : Int) + ((cnt g o (j + 1) o.length : Int) - (cnt g o j o.length : Int))
    omega

/-! ### tight words are reached -/
theorem Tight.nonneg (T : Tight F m s V) (hj : j < F) : ∀ d, d ≤ m → 0 ≤ V j d ∧ V j d ≤ d := by
  intro d
  induction d with
  | zero => intro _; rw [T.zero j hj]; omega
  | succ d ih =>
    intro h
    have a := ih (by omega)
    have b := T.up j d hj (by omega)
    omega
theorem Tight.mono (T : Tight F m s V) (hj : j < F) (hd : d ≤ e) (he : e ≤ m) : V j d ≤ V j e := by
  induction e with
  | zero => have : d = 0 := by omega
            subst this; exact Int.le_refl _
  | succ e ih =>
    by_cases h : d = e + 1
    · subst h; exact Int.le_refl _
    · have a := ih (by omega) (by omega)
      have b := T.up j e hj (by omega)
      omega
theorem Tight.lo' (T : Tight F m s V) (hd : d ≤ m) : ∀ k, j ≤ k → k < F → V j d ≤ V k d := by
  intro k
  induction k with
  | zero => intro a _; have : j = 0 := by omega
            subst this; exact Int.le_refl _
  | succ k ih =>
    intro a b
    by_cases h : j = k + 1
    · subst h; exact Int.le_refl _
    · have := ih (by omega) (by omega)
      have := T.lo k d b hd
      omega
theorem Tight.hi' (T : Tight F m s V) (hd : d ≤ m) : ∀ k, j ≤ k → k < F → V k d ≤ V j d + (s k - s j) := by
  intro k
  induction k with
  | zero => intro a _; have : j = 0 := by omega
            subst this; omega
  | succ k ih =>
    intro a b
    by_cases h : j = k + 1
    · subst h; omega
    · have := ih (by omega) (by omega)
      have := T.hi k d b hd
      omega
theorem Tight.smono (T : Tight F m s V) {k : Nat} (h1 : j ≤ k) (h2 : k < F) : s j ≤ s k := by
  have := T.lo' (j := j) (Nat.le_refl m) k h1 h2
  rw [T.last j (by omega), T.last k h2] at this
  exact this

/-- the first floor whose size is above q -/
def above (s : Nat → Int) (q : Int) : Nat → Nat → Nat
  | 0, j => j
  | n + 1, j => if q < s j then j else above s q n (j + 1)
theorem above_le (s : Nat → Int) (q : Int) : ∀ n j, j ≤ above s q n j ∧ above s q n j ≤ j + n := by
  intro n
  induction n with
  | zero => intro j; simp [above]
  | succ n ih =>
    intro j
    unfold above
    split
    · omega
    · have := ih (j + 1); omega
theorem above_iff (s : Nat → Int) (q : Int) : ∀ n j0, (∀ a b, j0 ≤ a → a ≤ b → b < j0 + n → s a ≤ s b) → ∀ j, j0 ≤ j → j < j0 + n → (above s q n j0 ≤ j ↔ q < s j) := by
  intro n
  induction n with
  | zero => intro j0 _ j h1 h2; omega
  | succ n ih =>
    intro j0 hm j h1 h2
    unfold above
    by_cases h : q < s j0
    · rw [if_pos h]
      constructor
      · intro _
        have := hm j0 j (by omega) h1 h2
        omega
      · intro _; exact h1
    · rw [if_neg h]
      by_cases hj : j = j0
      · subst hj
        have := (above_le s q n (j + 1)).1
        constructor
        · intro a; omega
        · intro a; exact absurd a h
      · exact ih (j0 + 1) (fun a b p q' r => hm a b (by omega) q' (by omega)) j (by omega) (by omega)

/-- the number that the thing at place p gets, for the word W with last integer t -/
def num (W : Nat → Int) (t : Int) (p : Nat) : Int := if W p < W (p + 1) then W p else t + (p - W p)
theorem num_count (W : Nat → Int) (t : Int) (m : Nat) (h0 : W 0 = 0) (hu : ∀ d, d < m → W d ≤ W (d + 1) ∧ W (d + 1) ≤ W d + 1) (hl : W m = t) (S : Int) (hS : 0 ≤ S) :
    ∀ d, d ≤ m → (((List.range d).countP (fun p => decide (num W t p < S)) : Nat) : Int) = if S ≤ t then min (W d) S else min (d : Int) (W d + (S - t)) := by
  have hmono : ∀ e d, d ≤ e → e ≤ m → W d ≤ W e := by
    intro e
    induction e with
    | zero => intro d h _; have : d = 0 := by omega
              subst this; exact Int.le_refl _
    | succ e ih =>
      intro d h1 h2
      by_cases h : d = e + 1
      · subst h; exact Int.le_refl _
      · have a := ih d (by omega) (by omega)
        have b := hu e (by omega)
        omega
  have hnn : ∀ d, d ≤ m → 0 ≤ W d ∧ W d ≤ d := by
    intro d
    induction d with
    | zero => intro _; rw [h0]; omega
    | succ d ih => intro h; have a := ih (by omega); have b := hu d (by omega); omega
  intro d
  induction d with
  | zero =>
    intro _
    simp only [List.range_zero, List.countP_nil]
    rw [h0]
    split <;> omega
  | succ d ih =>
    intro hd
    have ih := ih (by omega)
    have b := hu d (by omega)
    have c := hnn d (by omega)
    have mt : W (d + 1) ≤ t := by rw [← hl]; exact hmono m (d + 1) hd (Nat.le_refl _)
    rw [List.range_succ, List.countP_append]
    simp only [List.countP_cons, List.countP_nil]
    rw [Int.natCast_add, ih]
    unfold num
    by_cases hup : W d < W (d + 1)
    · rw [if_pos hup]
      by_cases hst : S ≤ t
      · rw [if_pos hst, if_pos hst]
        by_cases q : W d < S
        · simp only [q]; simp; omega
        · simp only [q]; simp; omega
      · rw [if_neg hst, if_neg hst]
        have q : W d < S := by omega
        simp only [q]; simp; omega
    · rw [if_neg hup]
      by_cases hst : S ≤ t
      · rw [if_pos hst, if_pos hst]
        have q : ¬ (t + ((d : Int) - W d) < S) := by omega
        simp only [q]; simp; omega
      · rw [if_neg hst, if_neg hst]
        by_cases q : t + ((d : Int) - W d) < S
        · simp only [q]; simp; omega
        · simp only [q]; simp; omega

theorem cnt_at (ho : o.Nodup) (f : Nat → Nat) (hg : ∀ p, (h : p < o.length) → g o[p] = f p) : ∀ d, d ≤ o.length → cnt g o j d = (List.range d).countP (fun p => decide (f p ≤ j)) := by
  intro d
  induction d with
  | zero => intro _; simp [cnt]
  | succ d ih =>
    intro hd
    rw [cnt_succ (by omega), ih (by omega), List.range_succ, List.countP_append, hg d (by omega)]
    simp [List.countP_cons]

/-- tight words: some floors of the things fit, and reach one word -/
theorem attain (T : Tight F o.length s V) (ho : o.Nodup) {j0 : Nat} (hj0 : j0 < F) :
    ∃ g : Nat → Nat, (∀ y, g y ≤ F) ∧ Fits F o s V g ∧ ∀ d, d ≤ o.length → (cnt g o j0 d : Int) = V j0 d := by
  let f : Nat → Nat := fun p => above s (num (V j0) (s j0) p) F 0
  let g : Nat → Nat := fun y => if y ∈ o then f (o.idxOf y) else F
  have hg : ∀ p, (h : p < o.length) → g o[p] = f p := by
    intro p h
    show (if o[p] ∈ o then f (o.idxOf o[p]) else F) = f p
    rw [if_pos (List.getElem_mem h), ho.idxOf_getElem p h]
  have hF : ∀ y, g y ≤ F := by
    intro y
    show (if y ∈ o then f (o.idxOf y) else F) ≤ F
    split
    · have := (above_le s (num (V j0) (s j0) (o.idxOf y)) F 0).2
      show above s _ F 0 ≤ F
      omega
    · exact Nat.le_refl _
  have hc : ∀ j d, j < F → d ≤ o.length → (cnt g o j d : Int) = if s j ≤ s j0 then min (V j0 d) (s j) else min (d : Int) (V j0 d + (s j - s j0)) := by
    intro j d hj hd
    rw [cnt_at ho f hg d hd]
    have e : (List.range d).countP (fun p => decide (f p ≤ j)) = (List.range d).countP (fun p => decide (num (V j0) (s j0) p < s j)) := by
      apply List.countP_congr
      intro p _
      have := above_iff s (num (V j0) (s j0) p) F 0 (fun a b _ h1 h2 => T.smono h1 (by omega)) j (by omega) (by omega)
      simp only [decide_eq_true_eq]
      exact this
    rw [e]
    have sn : 0 ≤ s j := by
      have := T.nonneg hj o.length (Nat.le_refl _)
      rw [T.last j hj] at this
      exact this.1
    exact num_count (V j0) (s j0) o.length (T.zero j0 hj0) (fun d h => T.up j0 d hj0 h) (T.last j0 hj0) (s j) sn d hd
  have hfit : ∀ j d, j < F → d ≤ o.length → V j d ≤ (cnt g o j d : Int) := by
    intro j d hj hd
    rw [hc j d hj hd]
    have n1 := T.nonneg hj d hd
    have n2 := T.mono hj hd (Nat.le_refl _)
    rw [T.last j hj] at n2
    by_cases hjj : j ≤ j0
    · have a := T.lo' (j := j) hd j0 hjj hj0
      have b := T.hi' (j := j) hd j0 hjj hj0
      have c := T.smono hjj hj0
      rw [if_pos c]; omega
    · have a := T.lo' (j := j0) hd j (by omega) hj
      have b := T.hi' (j := j0) hd j (by omega) hj
      have c := T.smono (show j0 ≤ j by omega) hj
      split <;> omega
  refine ⟨g, hF, ⟨fun j hj => ?_, hfit⟩, fun d hd => ?_⟩
  · rw [hc j o.length hj (Nat.le_refl _), T.last j0 hj0]
    have n1 := T.nonneg hj o.length (Nat.le_refl _)
    rw [T.last j hj] at n1
    split <;> omega
  · rw [hc j0 d hj0 hd, if_pos (Int.le_refl _)]
    have n2 := T.mono hj0 hd (Nat.le_refl _)
    rw [T.last j0 hj0] at n2
    omega
end
end FM
end
section
set_option autoImplicit false
set_option linter.all false
/-! The least tight words: the three passes. -/
namespace FM
/-- up through a row -/
def stA (row : Nat → Int) (z : Int) (m : Nat) : Nat → Int
  | 0 => max (max 0 (row 0)) (z - m + 0)
  | p + 1 => max (max (stA row z m p) (row (p + 1))) (z - m + ((p + 1 : Nat) : Int))
/-- and down again: the k-th from the end -/
def stK (row : Nat → Int) (z : Int) (m : Nat) : Nat → Int
  | 0 => stA row z m m
  | k + 1 => max (stA row z m (m - (k + 1))) (stK row z m k - 1)
def stB (row : Nat → Int) (z : Int) (m p : Nat) : Int := stK row z m (m - p)
/-- floor by floor -/
def flU (S : Fam) : Nat → Nat → Int
  | 0, d => S 0 d
  | j + 1, d => max (flU S j d) (S (j + 1) d)
/-- and back: the k-th from the last -/
def flK (S : Fam) (s : Nat → Int) (F : Nat) : Nat → Nat → Int
  | 0, d => flU S (F - 1) d
  | k + 1, d => max (flU S (F - 1 - (k + 1)) d) (flK S s F k d - (s (F - 1 - k) - s (F - 1 - (k + 1))))
def flW (S : Fam) (s : Nat → Int) (F j d : Nat) : Int := flK S s F (F - 1 - j) d
/-- the words of tightened, ahead of its last look -/
def raw (R : Fam) (s : Nat → Int) (F m : Nat) : Fam := fun j d => flW (fun i p => stB (R i) (s i) m p) s F j d

section
variable {row : Nat → Int} {z : Int} {m d p : Nat} {F j : Nat} {s : Nat → Int} {S R Z : Fam}
theorem stB_last : stB row z m m = stA row z m m := by unfold stB; rw [Nat.sub_self]; rfl
theorem stB_eq (h : p < m) : stB row z m p = max (stA row z m p) (stB row z m (p + 1) - 1) := by
  unfold stB
  have e : m - p = (m - (p + 1)) + 1 := by omega
  have e2 : m - (m - (p + 1) + 1) = p := by omega
  rw [e]
  show max (stA row z m (m - (m - (p + 1) + 1))) (stK row z m (m - (p + 1)) - 1) = _
  rw [e2]
theorem stA_row : row p ≤ stA row z m p := by cases p <;> unfold stA <;> omega
theorem stA_up : stA row z m p ≤ stA row z m (p + 1) := by
  show _ ≤ max (max (stA row z m p) (row (p + 1))) (z - m + ((p + 1 : Nat) : Int))
  omega
theorem stA_z : z - m + p ≤ stA row z m p := by
  cases p with
  | zero => unfold stA; omega
  | succ p => show _ ≤ max (max (stA row z m p) (row (p + 1))) (z - m + ((p + 1 : Nat) : Int)); omega
theorem stA_nn : 0 ≤ stA row z m p := by
  induction p with
  | zero => unfold stA; omega
  | succ p ih => have := stA_up (row := row) (z := z) (m := m) (p := p); omega
theorem stA_le_stB (h : p ≤ m) : stA row z m p ≤ stB row z m p := by
  by_cases e : p = m
  · subst e; rw [stB_last]; exact Int.le_refl _
  · rw [stB_eq (by omega)]; omega
theorem stB_step (h : p < m) : stB row z m p ≤ stB row z m (p + 1) ∧ stB row z m (p + 1) ≤ stB row z m p + 1 := by
  have a := stA_up (row := row) (z := z) (m := m) (p := p)
  have b := stA_le_stB (row := row) (z := z) (m := m) (p := p + 1) (by omega)
  rw [stB_eq h]
  omega
/-- least: a word that is nowhere less than the row and ends in z is nowhere less than it -/
theorem stA_least {W : Nat → Int} (h0 : 0 ≤ W 0) (hu : ∀ d, d < m → W d ≤ W (d + 1) ∧ W (d + 1) ≤ W d + 1) (hl : z ≤ W m) (hr : ∀ d, d ≤ m → row d ≤ W d) : p ≤ m → stA row z m p ≤ W p := by
  have low : ∀ k, k ≤ m → z - m + ((m - k : Nat) : Int) ≤ W (m - k) := by
    intro k
    induction k with
    | zero => intro _; rw [Nat.sub_zero]; omega
    | succ k ih =>
      intro h
      have a := ih (by omega)
      have b := hu (m - (k + 1)) (by omega)
      have e : m - (k + 1) + 1 = m - k := by omega
      rw [e] at b
      omega
  induction p with
  | zero =>
    intro h
    have a := hr 0 (by omega)
    have b := low m (Nat.le_refl _)
    rw [Nat.sub_self] at b
    unfold stA
    omega
  | succ p ih =>
    intro h
    have a := ih (by omega)
    have b := hr (p + 1) h
    have c := hu p (by omega)
    have d := low (m - (p + 1)) (by omega)
    have e : m - (m - (p + 1)) = p + 1 := by omega
    rw [e] at d
    show max (max (stA row z m p) (row (p + 1))) (z - m + ((p + 1 : Nat) : Int)) ≤ _
    omega
theorem stB_least {W : Nat → Int} (h0 : 0 ≤ W 0) (hu : ∀ d, d < m → W d ≤ W (d + 1) ∧ W (d + 1) ≤ W d + 1) (hl : z ≤ W m) (hr : ∀ d, d ≤ m → row d ≤ W d) (hp : p ≤ m) : stB row z m p ≤ W p := by
  have key : ∀ k, k ≤ m → stB row z m (m - k) ≤ W (m - k) := by
    intro k
    induction k with
    | zero => intro _; rw [Nat.sub_zero, stB_last]; exact stA_least h0 hu hl hr (Nat.le_refl _)
    | succ k ih =>
      intro h
      have a := ih (by omega)
      have b := hu (m - (k + 1)) (by omega)
      have e : m - (k + 1) + 1 = m - k := by omega
      rw [e] at b
      have c := stA_least (p := m - (k + 1)) h0 hu hl hr (by omega)
      rw [stB_eq (by omega), e]
      omega
  have := key (m - p) (by omega)
  rw [show m - (m - p) = p by omega] at this
  exact this

theorem flW_last : flW S s F (F - 1) d = flU S (F - 1) d := by unfold flW; rw [Nat.sub_self]; rfl
theorem flW_eq (h : j + 1 < F) : flW S s F j d = max (flU S j d) (flW S s F (j + 1) d - (s (j + 1) - s j)) := by
  unfold flW
  have e : F - 1 - j = (F - 1 - (j + 1)) + 1 := by omega
  rw [e]
  show max (flU S (F - 1 - (F - 1 - (j + 1) + 1)) d) (flK S s F (F - 1 - (j + 1)) d - (s (F - 1 - (F - 1 - (j + 1))) - s (F - 1 - (F - 1 - (j + 1) + 1)))) = _
  rw [show F - 1 - (F - 1 - (j + 1) + 1) = j by omega, show F - 1 - (F - 1 - (j + 1)) = j + 1 by omega]
theorem flU_le_flW (h : j < F) : flU S j d ≤ flW S s F j d := by
  by_cases e : j = F - 1
  · subst e; rw [flW_last]; exact Int.le_refl _
  · rw [flW_eq (by omega)]; omega
theorem S_le_flU : S j d ≤ flU S j d := by cases j <;> unfold flU <;> omega
/-- each pass keeps words that go up by at most one -/
theorem flU_step (hS : ∀ j, j < F → S j d ≤ S j (d + 1) ∧ S j (d + 1) ≤ S j d + 1) : j < F → flU S j d ≤ flU S j (d + 1) ∧ flU S j (d + 1) ≤ flU S j d + 1 := by
  induction j with
  | zero => intro h; exact hS 0 h
  | succ j ih =>
    intro h
    have a := ih (by omega)
    have b := hS (j + 1) h
    show max (flU S j d) (S (j + 1) d) ≤ max (flU S j (d + 1)) (S (j + 1) (d + 1)) ∧ max (flU S j (d + 1)) (S (j + 1) (d + 1)) ≤ max (flU S j d) (S (j + 1) d) + 1
    omega
theorem flW_ind {P : Nat → Prop} (h0 : 0 < F) (hl : P (F - 1)) (hs : ∀ j, j + 1 < F → P (j + 1) → P j) : ∀ j, j < F → P j := by
  have key : ∀ k, k < F → P (F - 1 - k) := by
    intro k
    induction k with
    | zero => intro _; exact hl
    | succ k ih =>
      intro h
      have a := ih (by omega)
      have e : F - 1 - (k + 1) + 1 = F - 1 - k := by omega
      exact hs (F - 1 - (k + 1)) (by omega) (by rw [e]; exact a)
  intro j hj
  have := key (F - 1 - j) (by omega)
  rw [show F - 1 - (F - 1 - j) = j by omega] at this
  exact this
theorem flW_step (hS : ∀ j, j < F → S j d ≤ S j (d + 1) ∧ S j (d + 1) ≤ S j d + 1) (hj : j < F) : flW S s F j d ≤ flW S s F j (d + 1) ∧ flW S s F j (d + 1) ≤ flW S s F j d + 1 := by
  refine flW_ind (P := fun j => flW S s F j d ≤ flW S s F j (d + 1) ∧ flW S s F j (d + 1) ≤ flW S s F j d + 1) (by omega) ?_ ?_ j hj
  · rw [flW_last, flW_last]; exact flU_step hS (by omega)
  · intro j h ih
    have a := flU_step (j := j) hS (by omega)
    rw [flW_eq h, flW_eq h]
    omega
/-- sizes that may be -/
def SizesOk (F m : Nat) (s : Nat → Int) : Prop := 0 ≤ s 0 ∧ s (F - 1) ≤ m ∧ ∀ j, j + 1 < F → s j ≤ s (j + 1)
def RawOk (R : Fam) (s : Nat → Int) (F m : Nat) : Prop := ∀ j d, j < F → d ≤ m → raw R s F m j d ≤ d ∧ raw R s F m j d ≤ s j
/-- what the passes give is tight, where nothing is too great -/
theorem raw_tight (h0 : 0 < F) (hs : SizesOk F m s) (ok : RawOk R s F m) : Tight F m s (raw R s F m) ∧ ∀ j d, j < F → d ≤ m → R j d ≤ raw R s F m j d := by
  have ge : ∀ j d, j < F → d ≤ m → stB (R j) (s j) m d ≤ raw R s F m j d := fun j d hj _ =>
    Int.le_trans (S_le_flU (S := fun i p => stB (R i) (s i) m p) (j := j) (d := d)) (flU_le_flW hj)
  have stp : ∀ j d, j < F → d < m → raw R s F m j d ≤ raw R s F m j (d + 1) ∧ raw R s F m j (d + 1) ≤ raw R s F m j d + 1 := fun j d hj hd =>
    flW_step (S := fun i p => stB (R i) (s i) m p) (d := d) (fun j _ => stB_step hd) hj
  refine ⟨⟨fun j hj => ?_, stp, fun j hj => ?_, fun j d hj hd => ?_, fun j d hj hd => ?_⟩, fun j d hj hd => ?_⟩
  · have a := (ok j 0 hj (Nat.zero_le _)).1
    have b := ge j 0 hj (Nat.zero_le _)
    have c := stA_le_stB (row := R j) (z := s j) (m := m) (p := 0) (Nat.zero_le _)
    have e := stA_nn (row := R j) (z := s j) (m := m) (p := 0)
    omega
  · have a := (ok j m hj (Nat.le_refl _)).2
    have b := ge j m hj (Nat.le_refl _)
    have c := stA_le_stB (row := R j) (z := s j) (m := m) (p := m) (Nat.le_refl _)
    have e := stA_z (row := R j) (z := s j) (m := m) (p := m)
    omega
  · -- lo
    show flW (fun i p => stB (R i) (s i) m p) s F j d ≤ flW (fun i p => stB (R i) (s i) m p) s F (j + 1) d
    have a : flU (fun i p => stB (R i) (s i) m p) j d ≤ flU (fun i p => stB (R i) (s i) m p) (j + 1) d := by
      show _ ≤ max (flU _ j d) _
      omega
    have b := flU_le_flW (S := fun i p => stB (R i) (s i) m p) (s := s) (d := d) hj
    have c := hs.2.2 j hj
    rw [flW_eq hj]
    omega
  · show flW (fun i p => stB (R i) (s i) m p) s F (j + 1) d ≤ flW (fun i p => stB (R i) (s i) m p) s F j d + (s (j + 1) - s j)
    rw [flW_eq hj]
    omega
  · have a := stA_row (row := R j) (z := s j) (m := m) (p := d)
    have b := stA_le_stB (row := R j) (z := s j) (m := m) (p := d) hd
    have c := ge j d hj hd
    omega
/-- and nowhere greater than other tight words that are not less than the rows -/
theorem raw_least (h0 : 0 < F) (T : Tight F m s Z) (hR : ∀ j d, j < F → d ≤ m → R j d ≤ Z j d) : ∀ j d, j < F → d ≤ m → raw R s F m j d ≤ Z j d := by
  intro j d hj hd
  have hS : ∀ j, j < F → stB (R j) (s j) m d ≤ Z j d := fun j hj =>
    stB_least (W := Z j) (by rw [T.zero j hj]; omega) (fun d h => T.up j d hj h) (by rw [T.last j hj]; omega) (fun d h => hR j d hj h) hd
  have hU : ∀ j, j < F → flU (fun i p => stB (R i) (s i) m p) j d ≤ Z j d := by
    intro j
    induction j with
    | zero => intro h; exact hS 0 h
    | succ j ih =>
      intro h
      have a := ih (by omega)
      have b := hS (j + 1) h
      have c := T.lo j d h hd
      show max (flU _ j d) (stB (R (j + 1)) (s (j + 1)) m d) ≤ _
      omega
  refine flW_ind (P := fun j => flW (fun i p => stB (R i) (s i) m p) s F j d ≤ Z j d) h0 ?_ ?_ j hj
  · rw [flW_last]; exact hU (F - 1) (by omega)
  · intro j h ih
    have a := hU j (by omega)
    have c := T.hi j d h hd
    rw [flW_eq h]
    omega
theorem sizes_ok (h0 : 0 < F) (T : Tight F m s Z) : SizesOk F m s := by
  have a := T.nonneg h0 m (Nat.le_refl _)
  have b := T.nonneg (j := F - 1) (by omega) m (Nat.le_refl _)
  rw [T.last 0 h0] at a
  rw [T.last (F - 1) (by omega)] at b
  exact ⟨a.1, b.2, fun j h => T.smono (by omega) h⟩
theorem raw_ok (h0 : 0 < F) (T : Tight F m s Z) (hR : ∀ j d, j < F → d ≤ m → R j d ≤ Z j d) : RawOk R s F m := by
  intro j d hj hd
  have a := raw_least h0 T hR j d hj hd
  have b := T.nonneg hj d hd
  have c := T.mono hj hd (Nat.le_refl _)
  rw [T.last j hj] at c
  omega
end
end FM
end
section
set_option autoImplicit false
set_option linter.all false
/-! One entry: the thing taken out, put in front; what the floors put down. -/
namespace FM
/-- (1) of a leading: the thing at place e, found on floor i, taken out -/
def outR (V : Fam) (e i : Nat) : Fam := fun j d => if i ≤ j then (if d ≤ e then V j d else V j (d + 1) - 1) else (if d < e then V j d else V j (d + 1))
def outS (s : Nat → Int) (i : Nat) : Nat → Int := fun j => s j - (if i ≤ j then 1 else 0)
section
variable {g g' : Nat → Nat} {o o1 o2 : List Nat} {x y i j k d e F m : Nat} {s : Nat → Int} {V : Fam}
theorem cnt_split_le (h : d ≤ o1.length) : cnt g (o1 ++ x :: o2) j d = cnt g (o1 ++ o2) j d := by
  unfold cnt
  rw [List.take_append_of_le_length h, List.take_append_of_le_length h]
theorem cnt_split_gt : cnt g (o1 ++ x :: o2) j (o1.length + d + 1) = cnt g (o1 ++ o2) j (o1.length + d) + (if g x ≤ j then 1 else 0) := by
  unfold cnt
  have e1 : (o1 ++ x :: o2).take (o1.length + d + 1) = o1 ++ x :: o2.take d := by
    rw [List.take_append, List.take_of_length_le (by omega)]
    congr 1
    rw [show o1.length + d + 1 - o1.length = d + 1 by omega]
    rfl
  have e2 : (o1 ++ o2).take (o1.length + d) = o1 ++ o2.take d := by
    rw [List.take_append, List.take_of_length_le (by omega)]
    congr 2
    omega
  rw [e1, e2, List.countP_append, List.countP_append, List.countP_cons]
  simp only [decide_eq_true_eq]
  omega
theorem out_tight_step (T : Tight F (o1 ++ x :: o2).length s V) (hj : j < F) (hd : d ≤ o1.length + o2.length) : V j d ≤ V j (d + 1) ∧ V j (d + 1) ≤ V j d + 1 :=
  T.up j d hj (by rw [List.length_append, List.length_cons]; omega)
/-- the thing taken out: what is left of a fit -/
theorem out_fits (T : Tight F (o1 ++ x :: o2).length s V) (hx : g x = i) :
    Fits F (o1 ++ x :: o2) s V g ↔ Fits F (o1 ++ o2) (outS s i) (outR V o1.length i) g := by
  have eL : (o1 ++ x :: o2).length = o1.length + o2.length + 1 := by simp; omega
  have eL' : (o1 ++ o2).length = o1.length + o2.length := by simp
  constructor
  · rintro ⟨h1, h2⟩
    refine ⟨fun j hj => ?_, fun j d hj hd => ?_⟩
    · have a := h1 j hj
      rw [eL, cnt_split_gt, hx] at a
      rw [eL']
      show _ = s j - (if i ≤ j then 1 else 0)
      split at a <;> rename_i q <;> simp only [q, if_true, if_false] <;> omega
    · rw [eL'] at hd
      unfold outR
      by_cases q : i ≤ j
      · rw [if_pos q]
        by_cases r : d ≤ o1.length
        · rw [if_pos r, ← cnt_split_le (x := x) r]
          exact h2 j d hj (by omega)
        · rw [if_neg r]
          have a := h2 j (d + 1) hj (by omega)
          obtain ⟨c, rfl⟩ : ∃ c, d = o1.length + c := ⟨d - o1.length, by omega⟩
          rw [cnt_split_gt, hx, if_pos q] at a
          omega
      · rw [if_neg q]
        by_cases r : d < o1.length
        · rw [if_pos r, ← cnt_split_le (x := x) (by omega)]
          exact h2 j d hj (by omega)
        · rw [if_neg r]
          have a := h2 j (d + 1) hj (by omega)
          obtain ⟨c, rfl⟩ : ∃ c, d = o1.length + c := ⟨d - o1.length, by omega⟩
          rw [cnt_split_gt, hx, if_neg q] at a
          omega
  · rintro ⟨h1, h2⟩
    refine ⟨fun j hj => ?_, fun j d hj hd => ?_⟩
    · have a := h1 j hj
      rw [eL'] at a
      rw [eL, cnt_split_gt, hx]
      unfold outS at a
      split at a <;> rename_i q <;> simp only [q, if_true, if_false] <;> omega
    · rw [eL] at hd
      by_cases r : d ≤ o1.length
      · rw [cnt_split_le r]
        have a := h2 j d hj (by omega)
        unfold outR at a
        by_cases q : i ≤ j
        · rw [if_pos q, if_pos r] at a; exact a
        · rw [if_neg q] at a
          by_cases r' : d < o1.length
          · rw [if_pos r'] at a; exact a
          · rw [if_neg r'] at a
            have b := out_tight_step T hj (d := d) (by omega)
            omega
      · obtain ⟨c, rfl⟩ : ∃ c, d = o1.length + c + 1 := ⟨d - o1.length - 1, by omega⟩
        rw [cnt_split_gt, hx]
        have a := h2 j (o1.length + c) hj (by omega)
        unfold outR at a
        by_cases q : i ≤ j
        · rw [if_pos q] at a
          rw [if_pos q]
          by_cases r' : o1.length + c ≤ o1.length
          · rw [if_pos r'] at a
            have b := out_tight_step T hj (d := o1.length + c) (by omega)
            omega
          · rw [if_neg r'] at a; omega
        · rw [if_neg q, if_neg (by omega)] at a
          rw [if_neg q]; omega

/-! ### one thing moved -/
def mv (g : Nat → Nat) (y k : Nat) : Nat → Nat := fun z => if z = y then k else g z
theorem countP_one {p q : Nat → Bool} (h : ∀ z, z ≠ y → p z = q z) : ∀ l : List Nat, l.Nodup → (if y ∈ l then l.countP p + (q y).toNat = l.countP q + (p y).toNat else l.countP p = l.countP q) := by
  intro l
  induction l with
  | nil => intro _; simp
  | cons a l ih =>
    intro hn
    have ih := ih (List.nodup_cons.mp hn).2
    have na := (List.nodup_cons.mp hn).1
    rw [List.countP_cons, List.countP_cons]
    by_cases ha : a = y
    · subst ha
      rw [if_neg na] at ih
      rw [if_pos List.mem_cons_self, ih]
      cases p a <;> cases q a <;> simp
    · have e := h a ha
      rw [e]
      by_cases hy : y ∈ l
      · rw [if_pos hy] at ih
        rw [if_pos (List.mem_cons_of_mem _ hy)]
        omega
      · rw [if_neg hy] at ih
        rw [if_neg (by intro z; rcases List.mem_cons.mp z with z | z; exact ha z.symm; exact hy z)]
        omega
theorem cnt_mv (ho : o.Nodup) : (if y ∈ o.take d then cnt (mv g y k) o j d + (if g y ≤ j then 1 else 0) = cnt g o j d + (if k ≤ j then 1 else 0) else cnt (mv g y k) o j d = cnt g o j d) := by
  have a := countP_one (y := y) (p := fun z => decide (mv g y k z ≤ j)) (q := fun z => decide (g z ≤ j)) (fun z hz => by show decide ((if z = y then k else g z) ≤ j) = _; rw [if_neg hz]) (o.take d) (ho.sublist (List.take_sublist d o))
  unfold cnt
  have e1 : (decide (mv g y k y ≤ j)).toNat = if k ≤ j then 1 else 0 := by
    show (decide ((if y = y then k else g y) ≤ j)).toNat = _
    rw [if_pos rfl]; by_cases h : k ≤ j <;> simp [h]
  have e2 : (decide (g y ≤ j)).toNat = if g y ≤ j then 1 else 0 := by by_cases h : g y ≤ j <;> simp [h]
  rw [e1, e2] at a
  exact a
/-- between two floors -/
theorem cnt_mv_same (ho : o.Nodup) (h : g y ≤ j ↔ k ≤ j) : cnt (mv g y k) o j d = cnt g o j d := by
  have a := cnt_mv (g := g) (o := o) (y := y) (k := k) (j := j) (d := d) ho
  split at a
  · by_cases q : k ≤ j
    · rw [if_pos q, if_pos (h.mpr q)] at a; omega
    · rw [if_neg q, if_neg (fun z => q (h.mp z))] at a; omega
  · exact a

/-! ### the floors put down, one after another: floors below a have lost one. x stands on floor 0, beside o -/
structure Lost (F : Nat) (o : List Nat) (s : Nat → Int) (V : Fam) (a : Nat) (g : Nat → Nat) : Prop where
  size : ∀ j, j < F → (cnt g o j o.length : Int) = s j - (if j < a then 1 else 0)
  word : ∀ j d, j < F → d ≤ o.length → V j d - (if j < a then 1 else 0) ≤ (cnt g o j d : Int)
  out : ∀ y ∈ o, g y ≤ F
variable {a : Nat}
theorem Lost.zero_iff : Lost F o s V 0 g ↔ Fits F o s V g ∧ ∀ y ∈ o, g y ≤ F := by
  constructor
  · rintro ⟨h1, h2, h3⟩
    refine ⟨⟨fun j hj => ?_, fun j d hj hd => ?_⟩, h3⟩
    · have := h1 j hj; simpa using this
    · have := h2 j d hj hd; simpa using this
  · rintro ⟨⟨h1, h2⟩, h3⟩
    refine ⟨fun j hj => ?_, fun j d hj hd => ?_, h3⟩
    · have := h1 j hj; simpa using this
    · have := h2 j d hj hd; simpa using this
theorem Lost.congr (h : ∀ y ∈ o, g y = g' y) (l : Lost F o s V a g) : Lost F o s V a g' :=
  ⟨fun j hj => by rw [← cnt_congr h]; exact l.size j hj, fun j d hj hd => by rw [← cnt_congr h]; exact l.word j d hj hd, fun y hy => by rw [← h y hy]; exact l.out y hy⟩
/-- floor a puts down y -/
theorem Lost.down (ho : o.Nodup) (l : Lost F o s V a g) (ha : a < F) (hy : y ∈ o) (hg : g y = a) : Lost F o s V (a + 1) (mv g y (a + 1)) where
  size := fun j hj => by
    by_cases q : j = a
    · subst q
      have c := cnt_mv (g := g) (o := o) (y := y) (k := j + 1) (j := j) (d := o.length) ho
      rw [List.take_length, if_pos hy, if_pos (by omega), if_neg (by omega)] at c
      have b := l.size j hj
      rw [if_neg (by omega)] at b
      rw [if_pos (by omega)]; omega
    · rw [cnt_mv_same ho (by omega), l.size j hj]
      have : (j < a) ↔ (j < a + 1) := by omega
      simp only [this]
  word := fun j d hj hd => by
    by_cases q : j = a
    · subst q
      have c := cnt_mv (g := g) (o := o) (y := y) (k := j + 1) (j := j) (d := d) ho
      have b := l.word j d hj hd
      rw [if_neg (by omega)] at b
      rw [if_pos (by omega)]
      split at c
      · rw [if_pos (by omega), if_neg (by omega)] at c; omega
      · omega
    · rw [cnt_mv_same ho (by omega)]
      have b := l.word j d hj hd
      have : (j < a) ↔ (j < a + 1) := by omega
      simp only [this] at b
      exact b
  out := fun z hz => by
    show (if z = y then a + 1 else g z) ≤ F
    split
    · omega
    · exact l.out z hz
theorem find_first {p : Nat → Bool} : ∀ {l : List Nat}, (∃ z ∈ l, p z = true) → ∃ y ∈ l, p y = true ∧ ∀ d, y ∉ l.take d → ∀ z ∈ l.take d, p z = false := by
  intro l
  induction l with
  | nil => rintro ⟨z, h, _⟩; cases h
  | cons a l ih =>
    rintro ⟨z, h, hp⟩
    by_cases pa : p a = true
    · refine ⟨a, List.mem_cons_self, pa, fun d hd => ?_⟩
      cases d with
      | zero => intro z hz; simp at hz
      | succ d => exact absurd (by rw [List.take_succ_cons]; exact List.mem_cons_self) hd
    · rcases List.mem_cons.mp h with e | h
      · subst e; exact absurd hp pa
      · obtain ⟨y, hy, py, hf⟩ := ih ⟨z, h, hp⟩
        refine ⟨y, List.mem_cons_of_mem _ hy, py, fun d hd => ?_⟩
        cases d with
        | zero => intro z hz; simp at hz
        | succ d =>
          rw [List.take_succ_cons] at hd ⊢
          intro z hz
          rcases List.mem_cons.mp hz with e | hz
          · subst e; simpa using pa
          · exact hf d (fun q => hd (List.mem_cons_of_mem _ q)) z hz
/-- .. and back: the first thing of the next floor comes up -/
theorem Lost.up (T : Tight F o.length s V) (ho : o.Nodup) (l : Lost F o s V (a + 1) g) (ha : a < F) : ∃ y ∈ o, g y = a + 1 ∧ Lost F o s V a (mv g y a) := by
  have nxt : ∀ d, d ≤ o.length → V a d ≤ (cnt g o (a + 1) d : Int) := by
    intro d hd
    by_cases q : a + 1 < F
    · have b := l.word (a + 1) d q hd
      rw [if_neg (by omega)] at b
      have c := T.lo a d q hd
      omega
    · rw [cnt_all (fun z hz => by have := l.out z hz; omega) hd]
      exact (T.nonneg ha d hd).2
  have ex : ∃ z ∈ o, decide (g z = a + 1) = true := by
    have c := l.size a ha
    rw [if_pos (by omega)] at c
    have b := nxt o.length (Nat.le_refl _)
    rw [T.last a ha] at b
    refine Classical.byContradiction fun hn => ?_
    have : cnt g o (a + 1) o.length = cnt g o a o.length := by
      unfold cnt
      apply List.countP_congr
      intro z hz
      have hz' := List.mem_of_mem_take hz
      have : g z ≠ a + 1 := fun e => hn ⟨z, hz', decide_eq_true e⟩
      simp only [decide_eq_true_eq]
      omega
    omega
  obtain ⟨y, hy, py, hf⟩ := find_first ex
  have hg : g y = a + 1 := of_decide_eq_true py
  refine ⟨y, hy, hg, fun j hj => ?_, fun j d hj hd => ?_, fun z hz => ?_⟩
  · by_cases q : j = a
    · subst q
      have c := cnt_mv (g := g) (o := o) (y := y) (k := j) (j := j) (d := o.length) ho
      rw [List.take_length, if_pos hy, if_pos (Nat.le_refl _), if_neg (by omega)] at c
      have b := l.size j hj
      rw [if_pos (by omega)] at b
      rw [if_neg (by omega)]; omega
    · rw [cnt_mv_same ho (by omega), l.size j hj]
      have : (j < a) ↔ (j < a + 1) := by omega
      simp only [this]
  · by_cases q : j = a
    · subst q
      have c := cnt_mv (g := g) (o := o) (y := y) (k := j) (j := j) (d := d) ho
      have b := l.word j d hj hd
      rw [if_pos (by omega)] at b
      rw [if_neg (by omega)]
      by_cases r : y ∈ o.take d
      · rw [if_pos r, if_pos (Nat.le_refl _), if_neg (by omega)] at c; omega
      · rw [if_neg r] at c
        have n := nxt d hd
        have : cnt g o (j + 1) d = cnt g o j d := by
          unfold cnt
          apply List.countP_congr
          intro z hz
          have : g z ≠ j + 1 := fun e => by
            have := hf d r z hz
            rw [decide_eq_true e] at this; cases this
          simp only [decide_eq_true_eq]
          omega
        omega
    · rw [cnt_mv_same ho (by omega)]
      have b := l.word j d hj hd
      have : (j < a) ↔ (j < a + 1) := by omega
      simp only [← this] at b
      exact b
  · show (if z = y then a else g z) ≤ F
    split
    · omega
    · exact l.out z hz
end
end FM
end
section
set_option autoImplicit false
set_option linter.all false
/-! States as lists; the keepers' moves; an ask. -/
namespace FM
/-- the floor of each thing, F where there is none -/
def gof (F : Nat) (st : List Nat) : Nat → Nat := fun z => st.getD z F
/-- how many stand on a floor, by the sizes -/
def fl (s : Nat → Int) (j : Nat) : Int := s j - (if j = 0 then 0 else s (j - 1))
/-- rooms of floor j -/
def rm (rooms : List Nat) (j : Nat) : Nat := rooms.getD j 0
/-- rooms within floor j -/
def rw' (rooms : List Nat) : Nat → Nat
  | 0 => rm rooms 0
  | j + 1 => rw' rooms j + rm rooms (j + 1)
/-- floors from a on put down, till one has room -/
inductive Chain (rooms : List Nat) (x : Nat) : Nat → List Nat → List Nat → List Nat → Prop
  | stop {a : Nat} {st : List Nat} : (rooms.length ≤ a ∨ st.count a ≤ rm rooms a) → Chain rooms x a st [] st
  | step {a : Nat} {st : List Nat} {y : Nat} {ds fin : List Nat} : a < rooms.length → rm rooms a < st.count a → y < st.length → st.getD y rooms.length = a → (0 < a ∨ y ≠ x) →
      Chain rooms x (a + 1) (st.set y (a + 1)) ds fin → Chain rooms x a st (y :: ds) fin
/-- a state of n things -/
def IsSt (F n : Nat) (st : List Nat) : Prop := st.length = n ∧ ∀ f ∈ st, f ≤ F
def FitL (F n : Nat) (o : List Nat) (s : Nat → Int) (V : Fam) (st : List Nat) : Prop := IsSt F n st ∧ Fits F o s V (gof F st)
structure KOk (rooms : List Nat) (n : Nat) (o : List Nat) (s : Nat → Int) (V : Fam) : Prop where
  perm : o.Perm (List.range n)
  tight : Tight rooms.length n s V
  room : ∀ j, j < rooms.length → fl s j ≤ rm rooms j
section
variable {F n x y i j k d a m : Nat} {o st st' fin ds rooms : List Nat} {s : Nat → Int} {V : Fam} {g : Nat → Nat}
theorem IsSt.le (h : IsSt F n st) (z : Nat) : gof F st z ≤ F := by
  unfold gof
  rw [List.getD_eq_getElem?_getD]
  cases e : st[z]? with
  | none => exact Nat.le_refl _
  | some f => exact h.2 f (List.mem_of_getElem? e)
theorem IsSt.set (h : IsSt F n st) (hk : k ≤ F) : IsSt F n (st.set y k) :=
  ⟨by rw [List.length_set]; exact h.1, fun f hf => by rcases List.mem_or_eq_of_mem_set hf with q | q; exact h.2 f q; omega⟩
theorem gof_set (h : y < st.length) : gof F (st.set y k) = mv (gof F st) y k := by
  funext z
  show (st.set y k).getD z F = if z = y then k else st.getD z F
  rw [List.getD_eq_getElem?_getD, List.getD_eq_getElem?_getD, List.getElem?_set]
  by_cases e : z = y
  · subst e; simp [h]
  · rw [if_neg (fun q => e q.symm), if_neg e]
theorem st_ext (h1 : st.length = n) (h2 : st'.length = n) (h : ∀ z, z < n → gof F st z = gof F st' z) : st = st' := by
  apply List.ext_getElem (by omega)
  intro z a b
  have := h z (by omega)
  unfold gof at this
  rw [List.getD_eq_getElem?_getD, List.getD_eq_getElem?_getD, List.getElem?_eq_getElem a, List.getElem?_eq_getElem b] at this
  exact this
theorem set_back (h : y < st.length) (hg : gof F st y = k) : (st.set y i).set y k = st := by
  rw [List.set_set]
  apply List.ext_getElem (by simp)
  intro z a b
  rw [List.getElem_set]
  split
  · rename_i e; subst e
    unfold gof at hg
    rw [List.getD_eq_getElem?_getD, List.getElem?_eq_getElem b] at hg
    exact hg.symm
  · rfl
theorem count_range : st.count a = (List.range st.length).countP (fun z => decide (gof F st z = a)) := by
  have e : st = (List.range st.length).map (gof F st) := by
    apply List.ext_getElem (by simp)
    intro z h1 h2
    simp [gof, h1]
  rw [List.count_eq_countP]
  conv => lhs; rw [e]
  rw [List.countP_map]
  apply List.countP_congr
  intro z _
  simp
theorem cnt_on (o : List Nat) : o.countP (fun z => decide (g z = a)) + (if a = 0 then 0 else cnt g o (a - 1) o.length) = cnt g o a o.length := by
  unfold cnt
  rw [List.take_length]
  induction o with
  | nil => simp
  | cons z o ih =>
    simp only [List.countP_cons, decide_eq_true_eq]
    by_cases h0 : a = 0
    · subst h0
      rw [if_pos rfl] at ih
      rw [if_pos rfl]
      by_cases q : g z = 0
      · rw [if_pos q, if_pos (by omega)]; omega
      · rw [if_neg q, if_neg (by omega)]; omega
    · rw [if_neg h0] at ih
      rw [if_neg h0]
      rcases Nat.lt_trichotomy (g z) a with q | q | q
      · rw [if_neg (show ¬ g z = a by omega), if_pos (show g z ≤ a - 1 by omega), if_pos (show g z ≤ a by omega)]; omega
      · rw [if_pos q, if_neg (show ¬ g z ≤ a - 1 by omega), if_pos (show g z ≤ a by omega)]; omega
      · rw [if_neg (show ¬ g z = a by omega), if_neg (show ¬ g z ≤ a - 1 by omega), if_neg (show ¬ g z ≤ a by omega)]; omega
/-- floor a, the asked thing or what has come there too -/
theorem Lost.count (hp : (x :: o).Perm (List.range n)) (l : Lost F o s V a (gof F st)) (hl : st.length = n) (hx : gof F st x = 0) (ha : a < F) : (st.count a : Int) = fl s a + 1 := by
  rw [count_range (F := F), hl, ← hp.countP_eq, List.countP_cons, hx]
  have c := cnt_on (g := gof F st) (a := a) o
  have b := l.size a ha
  rw [if_neg (by omega)] at b
  unfold fl
  by_cases h0 : a = 0
  · subst h0
    simp only [if_true] at c
    simp
    omega
  · have b2 := l.size (a - 1) (by omega)
    rw [if_pos (by omega)] at b2
    rw [if_neg h0] at c
    rw [if_neg h0]
    simp only [decide_eq_true_eq]
    rw [if_neg (by omega)]
    omega
/-- k floors are full, floor k has room (or is out) -/
structure Run (rooms : List Nat) (s : Nat → Int) (k : Nat) : Prop where
  le : k ≤ rooms.length
  full : ∀ j, j < k → (rm rooms j : Int) ≤ fl s j
  room : k < rooms.length → fl s k < rm rooms k
theorem run_ex (rooms : List Nat) (s : Nat → Int) : ∃ k, Run rooms s k := by
  have key : ∀ c k, k + c = rooms.length → (∀ j, j < k → (rm rooms j : Int) ≤ fl s j) → ∃ k, Run rooms s k := by
    intro c
    induction c with
    | zero => intro k h1 h2; exact ⟨k, by omega, h2, by omega⟩
    | succ c ih =>
      intro k h1 h2
      by_cases q : fl s k < rm rooms k
      · exact ⟨k, by omega, h2, fun _ => q⟩
      · refine ih (k + 1) (by omega) (fun j hj => ?_)
        by_cases e : j = k
        · subst e; omega
        · exact h2 j (by omega)
  exact key rooms.length 0 (by omega) (fun j hj => by omega)
theorem mem_o (hp : (x :: o).Perm (List.range n)) (hy : y < n) (hne : y ≠ x) : y ∈ o := by
  have : y ∈ x :: o := hp.mem_iff.mpr (List.mem_range.mpr hy)
  rcases List.mem_cons.mp this with e | e
  · exact absurd e hne
  · exact e
theorem nodup_o (hp : (x :: o).Perm (List.range n)) : o.Nodup ∧ x ∉ o ∧ x < n := by
  have h := hp.nodup_iff.mpr List.nodup_range
  exact ⟨(List.nodup_cons.mp h).2, (List.nodup_cons.mp h).1, List.mem_range.mp (hp.mem_iff.mp List.mem_cons_self)⟩
/-- by the moves -/
theorem chain_down {rooms : List Nat} (hp : (x :: o).Perm (List.range n)) (r : Run rooms s k) (c : Chain rooms x a st ds fin) : IsSt rooms.length n st → gof rooms.length st x = 0 → Lost rooms.length o s V a (gof rooms.length st) → a ≤ k →
    IsSt rooms.length n fin ∧ gof rooms.length fin x = 0 ∧ Lost rooms.length o s V k (gof rooms.length fin) := by
  induction c with
  | @stop a st h =>
    intro hs hx l hk
    have e : a = k := by
      refine Classical.byContradiction fun q => ?_
      have hak : a < k := by omega
      have f := r.full a hak
      have := r.le
      rcases h with h | h
      · omega
      · have c := l.count hp hs.1 hx (by omega)
        omega
    subst e
    exact ⟨hs, hx, l⟩
  | @step a st y ds fin h1 h2 h3 h4 h5 _ ih =>
    intro hs hx l hk
    have c := l.count hp hs.1 hx h1
    have hak : a < k := by
      refine Classical.byContradiction fun q => ?_
      have e : a = k := by omega
      subst e
      have := r.room h1
      omega
    have hyx : y ≠ x := by
      rcases h5 with h5 | h5
      · intro e; subst e
        have : gof rooms.length st y = a := h4
        omega
      · exact h5
    have hy : y ∈ o := mem_o hp (by rw [← hs.1]; exact h3) hyx
    refine ih (hs.set (by omega)) ?_ ?_ (by omega)
    · rw [gof_set h3]
      show (if x = y then a + 1 else gof rooms.length st x) = 0
      rw [if_neg (fun e => hyx e.symm)]; exact hx
    · rw [gof_set h3]
      exact l.down (nodup_o hp).1 h1 hy h4
/-- .. and back -/
theorem chain_up {rooms : List Nat} (T : Tight rooms.length o.length s V) (hp : (x :: o).Perm (List.range n)) (r : Run rooms s k) (hs : IsSt rooms.length n fin) (hx : gof rooms.length fin x = 0) (l : Lost rooms.length o s V k (gof rooms.length fin)) :
    ∀ c a, a + c = k → ∃ st ds, IsSt rooms.length n st ∧ gof rooms.length st x = 0 ∧ Lost rooms.length o s V a (gof rooms.length st) ∧ Chain rooms x a st ds fin := by
  intro c
  induction c with
  | zero =>
    intro a h
    have e : a = k := by omega
    subst e
    refine ⟨fin, [], hs, hx, l, .stop ?_⟩
    by_cases q : rooms.length ≤ a
    · exact .inl q
    · right
      have c := l.count hp hs.1 hx (by omega)
      have := r.room (by omega)
      omega
  | succ c ih =>
    intro a h
    obtain ⟨st, ds, hs', hx', l', ch⟩ := ih (a + 1) (by omega)
    have ha : a < rooms.length := by have := r.le; omega
    obtain ⟨y, hy, hg, l2⟩ := l'.up T (nodup_o hp).1 ha
    have hyn : y < n := List.mem_range.mp (hp.mem_iff.mp (List.mem_cons_of_mem _ hy))
    have hyx : y ≠ x := fun e => (nodup_o hp).2.1 (e ▸ hy)
    have hyl : y < st.length := by rw [hs'.1]; exact hyn
    have hs2 : IsSt rooms.length n (st.set y a) := hs'.set (by omega)
    have hx2 : gof rooms.length (st.set y a) x = 0 := by
      rw [gof_set hyl]
      show (if x = y then a else gof rooms.length st x) = 0
      rw [if_neg (fun e => hyx e.symm)]; exact hx'
    rw [← gof_set hyl] at l2
    refine ⟨st.set y a, y :: ds, hs2, hx2, l2, .step ha ?_ (by rw [List.length_set]; exact hyl) ?_ (.inr hyx) ?_⟩
    · have c := l2.count hp hs2.1 hx2 ha
      have := r.full a (by omega)
      omega
    · show gof rooms.length (st.set y a) y = a
      rw [gof_set hyl]
      show (if y = y then a else _) = a
      rw [if_pos rfl]
    · rw [set_back hyl hg]; exact ch

/-! ### filled up -/
theorem fl_sum (h : ∀ j, j < F → fl s j ≤ rm rooms j) : j < F → s j ≤ rw' rooms j ∧ (s j = rw' rooms j ↔ ∀ i, i ≤ j → fl s i = rm rooms i) := by
  induction j with
  | zero =>
    intro hj
    have a := h 0 hj
    have e : fl s 0 = s 0 := by unfold fl; simp
    have e2 : rw' rooms 0 = rm rooms 0 := rfl
    rw [e2]
    refine ⟨by omega, ?_⟩
    constructor
    · intro q i hi
      have : i = 0 := by omega
      subst this; omega
    · intro q
      have := q 0 (Nat.le_refl _)
      omega
  | succ j ih =>
    intro hj
    have ih := ih (by omega)
    have a := h (j + 1) hj
    have e : fl s (j + 1) = s (j + 1) - s j := by unfold fl; simp
    have e2 : rw' rooms (j + 1) = rw' rooms j + rm rooms (j + 1) := rfl
    rw [e2]
    refine ⟨by omega, ?_⟩
    constructor
    · intro q i hi
      by_cases c : i = j + 1
      · subst c; omega
      · exact ih.2.mp (by omega) i (by omega)
    · intro q
      have b := ih.2.mpr (fun i hi => q i (by omega))
      have c := q (j + 1) (Nat.le_refl _)
      omega
theorem lost_iff (h : ∀ j, j < rooms.length → fl s j ≤ rm rooms j) (r : Run rooms s k) (hi : k ≤ i) (hj : j < rooms.length) : (j < i ∧ s j = rw' rooms j) ↔ j < k := by
  have e := fl_sum (rooms := rooms) h hj
  constructor
  · rintro ⟨h1, h2⟩
    have f := e.2.mp h2
    refine Classical.byContradiction fun q => ?_
    have hkj : k ≤ j := by omega
    have := r.room (by omega)
    have := f k hkj
    omega
  · intro q
    refine ⟨by omega, e.2.mpr fun c hc => ?_⟩
    have a := h c (by omega)
    have b := r.full c (by omega)
    omega
end
end FM
end
section
set_option autoImplicit false
set_option linter.all false
/-! Leading is exact; the knowledge at first; each integer of tight words is reached. -/
namespace FM
def lostB (rooms : List Nat) (s : Nat → Int) (i j : Nat) : Bool := decide (j < i) && decide (s j = rw' rooms j)
def dec1 (b : Bool) (v : Int) : Int := if b = true then max 0 (v - 1) else v
def askV (V : Fam) (lost : Nat → Bool) : Fam := fun j d => if d = 0 then 0 else dec1 (lost j) (V j (d - 1)) + 1
def askS (s : Nat → Int) (lost : Nat → Bool) : Nat → Int := fun j => dec1 (lost j) (s j) + 1
def strV (V : Fam) (m : Nat) : Fam := fun j d => if d ≤ m then V j d else V j m
section
variable {F n x y i j k d a m : Nat} {o o1 o2 st st' fin ds rooms : List Nat} {s s' : Nat → Int} {V : Fam} {g : Nat → Nat}
theorem Tight.congr_s (T : Tight F m s V) (h : ∀ j, j < F → s j = s' j) : Tight F m s' V :=
  ⟨T.zero, T.up, fun j hj => by rw [T.last j hj]; exact h j hj, T.lo, fun j d hj hd => by rw [← h j (by omega), ← h (j + 1) hj]; exact T.hi j d hj hd⟩
theorem fits_tight (h : Fits F o s V g) : Tight F o.length s (fun j d => (cnt g o j d : Int)) := cnt_tight.congr_s h.1
theorem Fits.congr {g' : Nat → Nat} (h : ∀ z ∈ o, g z = g' z) (f : Fits F o s V g) : Fits F o s V g' :=
  ⟨fun j hj => by rw [← cnt_congr h]; exact f.1 j hj, fun j d hj hd => by rw [← cnt_congr h]; exact f.2 j d hj hd⟩
theorem fl_out (hj : j < F) : fl (outS s i) j = fl s j - (if j = i then 1 else 0) := by
  unfold fl outS
  by_cases h0 : j = 0
  · subst h0
    simp only [if_true]
    by_cases q : i = 0
    · subst q; simp
    · rw [if_neg (by omega), if_neg (by omega)]
  · rw [if_neg h0, if_neg h0]
    by_cases q : j = i
    · subst q; rw [if_pos (Nat.le_refl _), if_neg (by omega), if_pos rfl]; omega
    · rw [if_neg q]
      by_cases r : i ≤ j
      · rw [if_pos r, if_pos (by omega)]; omega
      · rw [if_neg r, if_neg (by omega)]; omega
theorem cnt_cons : cnt g (x :: o) j (d + 1) = cnt g o j d + (if g x ≤ j then 1 else 0) := by
  have := cnt_split_gt (g := g) (o1 := []) (x := x) (o2 := o) (j := j) (d := d)
  simpa using this
theorem ask_ok (hF : 0 < rooms.length) (hr : ∀ j, j < rooms.length → 1 ≤ rm rooms j) (T : Tight rooms.length o.length s V) (hp : (x :: o).Perm (List.range n)) (hroom : ∀ j, j < rooms.length → fl s j ≤ rm rooms j) (r : Run rooms s k)
    {lost : Nat → Bool} (hl : ∀ j, j < rooms.length → (lost j = true ↔ j < k)) : KOk rooms n (x :: o) (askS s lost) (askV V lost) := by
  have hn : n = o.length + 1 := by have := hp.length_eq; simpa using this.symm
  have sp : ∀ j, j < rooms.length → lost j = true → 1 ≤ s j := by
    intro j hj h
    have hk := (hl j hj).mp h
    have a := r.full 0 (by omega)
    have b := hr 0 hF
    have c := T.smono (show 0 ≤ j by omega) hj
    have e : fl s 0 = s 0 := by unfold fl; simp
    omega
  have nn : ∀ j d, j < rooms.length → d ≤ o.length → 0 ≤ V j d := fun j d hj hd => (T.nonneg hj d hd).1
  have dn : ∀ j, j < rooms.length → j + 1 < rooms.length → lost (j + 1) = true → lost j = true := fun j hj hj' h => (hl j hj).mpr (by have := (hl (j + 1) hj').mp h; omega)
  have dcs : ∀ j, j < rooms.length → dec1 (lost j) (s j) = s j - (if lost j = true then 1 else 0) := by
    intro j hj
    unfold dec1
    by_cases q : lost j = true
    · rw [if_pos q, if_pos q]; have := sp j hj q; omega
    · rw [if_neg q, if_neg q]; omega
  refine ⟨hp, ⟨fun j hj => ?_, fun j d hj hd => ?_, fun j hj => ?_, fun j d hj hd => ?_, fun j d hj hd => ?_⟩, fun j hj => ?_⟩
  · show (if 0 = 0 then 0 else _) = (0 : Int)
    rw [if_pos rfl]
  · unfold askV
    rw [if_neg (show ¬ d + 1 = 0 by omega), show d + 1 - 1 = d by omega]
    by_cases h0 : d = 0
    · subst h0
      rw [if_pos rfl, T.zero j hj]
      unfold dec1
      split <;> omega
    · rw [if_neg h0]
      have b := T.up j (d - 1) hj (by omega)
      rw [show d - 1 + 1 = d by omega] at b
      unfold dec1
      split <;> omega
  · unfold askV askS
    rw [hn, if_neg (by omega), show o.length + 1 - 1 = o.length by omega, T.last j hj]
  · unfold askV
    by_cases h0 : d = 0
    · rw [if_pos h0, if_pos h0]; omega
    · rw [if_neg h0, if_neg h0]
      have a := T.lo j (d - 1) hj (by omega)
      have b := nn j (d - 1) (by omega) (by omega)
      have c := dn j (by omega) hj
      unfold dec1
      by_cases q : lost (j + 1) = true
      · rw [if_pos q, if_pos (c q)]; omega
      · rw [if_neg q]
        split <;> omega
  · unfold askV askS
    rw [dcs j (by omega), dcs (j + 1) hj]
    have c := dn j (by omega) hj
    by_cases h0 : d = 0
    · rw [if_pos h0, if_pos h0]
      have a := T.smono (show j ≤ j + 1 by omega) hj
      by_cases q : lost (j + 1) = true
      · rw [if_pos q, if_pos (c q)]; omega
      · rw [if_neg q]; split <;> omega
    · rw [if_neg h0, if_neg h0]
      have a := T.hi j (d - 1) hj (by omega)
      have b := nn j (d - 1) (by omega) (by omega)
      have b2 := nn (j + 1) (d - 1) (by omega) (by omega)
      have e := T.smono (show j ≤ j + 1 by omega) hj
      unfold dec1
      by_cases q : lost (j + 1) = true
      · simp only [q, c q, if_true]; omega
      · simp only [q]
        by_cases q' : lost j = true
        · simp [q']; omega
        · simp [q']; omega
  · have a := hroom j hj
    have e : fl (askS s lost) j ≤ rm rooms j := by
      unfold fl askS
      rw [dcs j hj]
      by_cases h0 : j = 0
      · subst h0
        rw [if_pos rfl]
        have e0 : fl s 0 = s 0 := by unfold fl; simp
        by_cases q : lost 0 = true
        · rw [if_pos q]; omega
        · rw [if_neg q]
          have k0 : k = 0 := by
            refine Classical.byContradiction fun z => q ((hl 0 hj).mpr (by omega))
          have := r.room (by omega)
          rw [k0] at this
          omega
      · rw [if_neg h0, dcs (j - 1) (by omega)]
        have e0 : fl s j = s j - s (j - 1) := by unfold fl; rw [if_neg h0]
        have c := dn (j - 1) (by omega) (by omega)
        rw [show j - 1 + 1 = j by omega] at c
        by_cases q : lost j = true
        · rw [if_pos q, if_pos (c q)]; omega
        · rw [if_neg q]
          by_cases q' : lost (j - 1) = true
          · rw [if_pos q']
            have k1 : k = j := by
              have z1 := (hl (j - 1) (by omega)).mp q'
              have z2 : ¬ j < k := fun z => q ((hl j hj).mpr z)
              omega
            have := r.room (by omega)
            rw [k1] at this
            omega
          · rw [if_neg q']; omega
    exact e
theorem ask_fits (hF : 0 < rooms.length) (hr : ∀ j, j < rooms.length → 1 ≤ rm rooms j) (T : Tight rooms.length o.length s V) (hp : (x :: o).Perm (List.range n)) (r : Run rooms s k)
    {lost : Nat → Bool} (hl : ∀ j, j < rooms.length → (lost j = true ↔ j < k)) (hs : IsSt rooms.length n st) :
    Fits rooms.length (x :: o) (askS s lost) (askV V lost) (gof rooms.length st) ↔ gof rooms.length st x = 0 ∧ Lost rooms.length o s V k (gof rooms.length st) := by
  have sp : ∀ j, j < rooms.length → lost j = true → 1 ≤ s j := by
    intro j hj h
    have hk := (hl j hj).mp h
    have a := r.full 0 (by omega)
    have b := hr 0 hF
    have c := T.smono (show 0 ≤ j by omega) hj
    have e : fl s 0 = s 0 := by unfold fl; simp
    omega
  have dcs : ∀ j, j < rooms.length → dec1 (lost j) (s j) = s j - (if j < k then 1 else 0) := by
    intro j hj
    unfold dec1
    by_cases q : lost j = true
    · rw [if_pos q, if_pos ((hl j hj).mp q)]; have := sp j hj q; omega
    · rw [if_neg q, if_neg (fun z => q ((hl j hj).mpr z))]; omega
  have dcv : ∀ j d (c : Nat), j < rooms.length → d ≤ o.length → (dec1 (lost j) (V j d) ≤ (c : Int) ↔ V j d - (if j < k then 1 else 0) ≤ (c : Int)) := by
    intro j d c hj hd
    unfold dec1
    by_cases q : lost j = true
    · rw [if_pos q, if_pos ((hl j hj).mp q)]; omega
    · rw [if_neg q, if_neg (fun z => q ((hl j hj).mpr z))]; omega
  have eL : (x :: o).length = o.length + 1 := rfl
  constructor
  · rintro ⟨h1, h2⟩
    have x0 : gof rooms.length st x = 0 := by
      have a := h2 0 1 hF (by rw [eL]; omega)
      rw [show (1 : Nat) = 0 + 1 from rfl, cnt_cons, cnt_zero] at a
      unfold askV at a
      rw [if_neg (by omega), show 0 + 1 - 1 = 0 by omega, T.zero 0 hF] at a
      have : (0 : Int) ≤ dec1 (lost 0) 0 := by unfold dec1; split <;> omega
      split at a <;> omega
    refine ⟨x0, fun j hj => ?_, fun j d hj hd => ?_, fun y _ => hs.le y⟩
    · have a := h1 j hj
      rw [eL, cnt_cons, x0, if_pos (Nat.zero_le _)] at a
      unfold askS at a
      rw [dcs j hj] at a
      omega
    · have a := h2 j (d + 1) hj (by rw [eL]; omega)
      rw [cnt_cons, x0, if_pos (Nat.zero_le _)] at a
      unfold askV at a
      rw [if_neg (by omega), show d + 1 - 1 = d by omega] at a
      exact (dcv j d _ hj hd).mp (by omega)
  · rintro ⟨x0, l⟩
    refine ⟨fun j hj => ?_, fun j d hj hd => ?_⟩
    · rw [eL, cnt_cons, x0, if_pos (Nat.zero_le _)]
      have a := l.size j hj
      unfold askS
      rw [dcs j hj]
      omega
    · unfold askV
      by_cases h0 : d = 0
      · rw [if_pos h0]; omega
      · rw [if_neg h0]
        obtain ⟨c, rfl⟩ : ∃ c, d = c + 1 := ⟨d - 1, by omega⟩
        rw [cnt_cons, x0, if_pos (Nat.zero_le _), show c + 1 - 1 = c by omega]
        have hc : c ≤ o.length := by rw [eL] at hd; omega
        have a := (dcv j c _ hj hc).mpr (l.word j c hj hc)
        omega

theorem perm_mid (hp : (o1 ++ x :: o2).Perm (List.range n)) : (x :: (o1 ++ o2)).Perm (List.range n) := (List.perm_middle (l₁ := o1) (l₂ := o2) (a := x)).symm.trans hp
theorem run_le (h : ∀ j, j < rooms.length → fl s j ≤ rm rooms j) (r : Run rooms (outS s i) k) (hi : i ≤ rooms.length) : k ≤ i := by
  by_cases e : i = rooms.length
  · have := r.le; omega
  · refine Classical.byContradiction fun q => ?_
    have a := r.full i (by omega)
    rw [fl_out (F := rooms.length) (by omega), if_pos rfl] at a
    have b := h i (by omega)
    omega
theorem room_out (h : ∀ j, j < rooms.length → fl s j ≤ rm rooms j) : ∀ j, j < rooms.length → fl (outS s i) j ≤ rm rooms j := by
  intro j hj
  rw [fl_out hj]
  have := h j hj
  split <;> omega
/-- what is amid an entry that can be -/
structure Amid (rooms : List Nat) (o1 o2 : List Nat) (s : Nat → Int) (V : Fam) (i : Nat) : Prop where
  sizes : SizesOk rooms.length (o1 ++ o2).length (outS s i)
  words : RawOk (outR V o1.length i) (outS s i) rooms.length (o1 ++ o2).length
abbrev amV (rooms : List Nat) (o1 o2 : List Nat) (s : Nat → Int) (V : Fam) (i : Nat) : Fam := raw (outR V o1.length i) (outS s i) rooms.length (o1 ++ o2).length
/-- some state that fits has the thing there: the entry can be -/
theorem amid_of (hF : 0 < rooms.length) (K : KOk rooms n (o1 ++ x :: o2) s V) (hf : FitL rooms.length n (o1 ++ x :: o2) s V st) (hx : gof rooms.length st x = i) : Amid rooms o1 o2 s V i := by
  have T := K.tight
  rw [show n = (o1 ++ x :: o2).length by have := K.perm.length_eq; simpa using this.symm] at T
  have f := (out_fits T hx).mp hf.2
  have T' := fits_tight f
  exact ⟨sizes_ok hF T', raw_ok hF T' (fun j d hj hd => f.2 j d hj hd)⟩
theorem amid_fits (hF : 0 < rooms.length) (K : KOk rooms n (o1 ++ x :: o2) s V) (A : Amid rooms o1 o2 s V i) (hx : g x = i) :
    Fits rooms.length (o1 ++ x :: o2) s V g ↔ Fits rooms.length (o1 ++ o2) (outS s i) (amV rooms o1 o2 s V i) g := by
  have T := K.tight
  rw [show n = (o1 ++ x :: o2).length by have := K.perm.length_eq; simpa using this.symm] at T
  rw [out_fits T hx]
  constructor
  · intro f
    exact ⟨f.1, raw_least hF (fits_tight f) (fun j d hj hd => f.2 j d hj hd)⟩
  · intro f
    have t := (raw_tight hF A.sizes A.words).2
    exact ⟨f.1, fun j d hj hd => Int.le_trans (t j d hj hd) (f.2 j d hj hd)⟩
/-- AN ASK -/
theorem lead_ask (hF : 0 < rooms.length) (hr : ∀ j, j < rooms.length → 1 ≤ rm rooms j) (K : KOk rooms n (o1 ++ x :: o2) s V) (hi : i ≤ rooms.length) (A : Amid rooms o1 o2 s V i) :
    KOk rooms n (x :: (o1 ++ o2)) (askS (outS s i) (lostB rooms (outS s i) i)) (askV (amV rooms o1 o2 s V i) (lostB rooms (outS s i) i)) ∧
    ∀ st', FitL rooms.length n (x :: (o1 ++ o2)) (askS (outS s i) (lostB rooms (outS s i) i)) (askV (amV rooms o1 o2 s V i) (lostB rooms (outS s i) i)) st' ↔
      ∃ st, FitL rooms.length n (o1 ++ x :: o2) s V st ∧ gof rooms.length st x = i ∧ ∃ ds, Chain rooms x 0 (st.set x 0) ds st' := by
  have T := (raw_tight hF A.sizes A.words).1
  have hp := perm_mid K.perm
  have hroom := room_out (i := i) K.room
  obtain ⟨k, r⟩ := run_ex rooms (outS s i)
  have hk := run_le K.room r hi
  have hl : ∀ j, j < rooms.length → (lostB rooms (outS s i) i j = true ↔ j < k) := by
    intro j hj
    have := lost_iff hroom r hk hj
    unfold lostB
    rw [Bool.and_eq_true, decide_eq_true_eq, decide_eq_true_eq]
    exact this
  refine ⟨ask_ok hF hr T hp hroom r hl, fun st' => ?_⟩
  have nd := nodup_o hp
  constructor
  · rintro ⟨hs, f⟩
    obtain ⟨x0, l⟩ := (ask_fits hF hr T hp r hl hs).mp f
    obtain ⟨st0, ds, hs0, hx0, l0, ch⟩ := chain_up T hp r hs x0 l k 0 (by omega)
    have hxl : x < st0.length := by rw [hs0.1]; exact nd.2.2
    have f0 := (Lost.zero_iff.mp l0).1
    have hgx : gof rooms.length (st0.set x i) x = i := by
      rw [gof_set hxl]
      show (if x = x then i else _) = i
      rw [if_pos rfl]
    refine ⟨st0.set x i, ⟨hs0.set hi, (amid_fits hF K A hgx).mpr (f0.congr fun z hz => ?_)⟩, hgx, ds, ?_⟩
    · rw [gof_set hxl]
      show _ = (if z = x then i else gof rooms.length st0 z)
      rw [if_neg (show ¬ z = x from fun e => nd.2.1 (by rw [← e]; exact hz))]
    · rw [set_back hxl hx0]; exact ch
  · rintro ⟨st, ⟨hs, f⟩, hx, ds, ch⟩
    have hxl : x < st.length := by rw [hs.1]; exact nd.2.2
    have f1 := (amid_fits hF K A hx).mp f
    have hs0 : IsSt rooms.length n (st.set x 0) := hs.set (Nat.zero_le _)
    have hg0 : gof rooms.length (st.set x 0) x = 0 := by
      rw [gof_set hxl]
      show (if x = x then 0 else _) = 0
      rw [if_pos rfl]
    have l0 : Lost rooms.length (o1 ++ o2) (outS s i) (amV rooms o1 o2 s V i) 0 (gof rooms.length (st.set x 0)) :=
      Lost.zero_iff.mpr ⟨f1.congr fun z hz => by
        rw [gof_set hxl]
        show _ = (if z = x then 0 else gof rooms.length st z)
        rw [if_neg (show ¬ z = x from fun e => nd.2.1 (by rw [← e]; exact hz))], fun y _ => hs0.le y⟩
    obtain ⟨h1, h2, h3⟩ := chain_down hp r ch hs0 hg0 l0 (Nat.zero_le _)
    exact ⟨h1, (ask_fits hF hr T hp r hl h1).mpr ⟨h2, h3⟩⟩
theorem cnt_snoc_le (h : d ≤ o.length) : cnt g (o ++ [x]) j d = cnt g o j d := by
  unfold cnt
  rw [List.take_append_of_le_length h]
theorem cnt_snoc : cnt g (o ++ [x]) j (o.length + 1) = cnt g o j o.length + (if g x ≤ j then 1 else 0) := by
  have := cnt_split_gt (g := g) (o1 := o) (x := x) (o2 := []) (j := j) (d := 0)
  simpa using this
/-- A STRIKE -/
theorem lead_strike (hF : 0 < rooms.length) (K : KOk rooms n (o1 ++ x :: o2) s V) (hi : i ≤ rooms.length) (A : Amid rooms o1 o2 s V i) :
    KOk rooms n ((o1 ++ o2) ++ [x]) (outS s i) (strV (amV rooms o1 o2 s V i) (o1 ++ o2).length) ∧
    ∀ st', FitL rooms.length n ((o1 ++ o2) ++ [x]) (outS s i) (strV (amV rooms o1 o2 s V i) (o1 ++ o2).length) st' ↔
      ∃ st, FitL rooms.length n (o1 ++ x :: o2) s V st ∧ gof rooms.length st x = i ∧ st' = st.set x rooms.length := by
  have T := (raw_tight hF A.sizes A.words).1
  have hp := perm_mid K.perm
  have nd := nodup_o hp
  have hn : n = (o1 ++ o2).length + 1 := by have := hp.length_eq; simpa using this.symm
  have hroom := room_out (i := i) K.room
  refine ⟨⟨((List.perm_append_comm (l₁ := o1 ++ o2) (l₂ := [x])).trans hp), ⟨fun j hj => ?_, fun j d hj hd => ?_, fun j hj => ?_, fun j d hj hd => ?_, fun j d hj hd => ?_⟩, hroom⟩, fun st' => ?_⟩
  · show (if 0 ≤ _ then _ else _) = _
    rw [if_pos (Nat.zero_le _)]; exact T.zero j hj
  · unfold strV
    by_cases q : d + 1 ≤ (o1 ++ o2).length
    · rw [if_pos (by omega), if_pos q]; exact T.up j d hj (by omega)
    · rw [if_pos (by omega), if_neg q, show d = (o1 ++ o2).length by omega]; omega
  · unfold strV
    rw [if_neg (by omega)]; exact T.last j hj
  · unfold strV
    split
    · exact T.lo j d hj (by omega)
    · exact T.lo j _ hj (Nat.le_refl _)
  · unfold strV
    split
    · exact T.hi j d hj (by omega)
    · exact T.hi j _ hj (Nat.le_refl _)
  · have eL : ((o1 ++ o2) ++ [x]).length = (o1 ++ o2).length + 1 := by simp; omega
    constructor
    · rintro ⟨hs, f⟩
      have hxl : x < st'.length := by rw [hs.1]; exact nd.2.2
      have xF : gof rooms.length st' x = rooms.length := by
        refine Nat.le_antisymm (hs.le x) ?_
        refine Classical.byContradiction fun q => ?_
        have hj : gof rooms.length st' x < rooms.length := by omega
        have a := f.1 _ hj
        have b := f.2 _ (o1 ++ o2).length hj (by omega)
        rw [eL, cnt_snoc, if_pos (Nat.le_refl _)] at a
        rw [cnt_snoc_le (Nat.le_refl _)] at b
        unfold strV at b
        rw [if_pos (Nat.le_refl _)] at b
        have b2 : amV rooms o1 o2 s V i (gof rooms.length st' x) (o1 ++ o2).length = _ := T.last _ hj
        omega
      have hgx : gof rooms.length (st'.set x i) x = i := by
        rw [gof_set hxl]
        show (if x = x then i else _) = i
        rw [if_pos rfl]
      have f' : Fits rooms.length (o1 ++ o2) (outS s i) (amV rooms o1 o2 s V i) (gof rooms.length st') := by
        refine ⟨fun j hj => ?_, fun j d hj hd => ?_⟩
        · have a := f.1 j hj
          rw [eL, cnt_snoc, xF, if_neg (by omega)] at a
          omega
        · have b := f.2 j d hj (by omega)
          rw [cnt_snoc_le hd] at b
          unfold strV at b
          rw [if_pos hd] at b
          exact b
      refine ⟨st'.set x i, ⟨hs.set hi, (amid_fits hF K A hgx).mpr (f'.congr fun z hz => ?_)⟩, hgx, (set_back hxl xF).symm⟩
      rw [gof_set hxl]
      show _ = (if z = x then i else gof rooms.length st' z)
      rw [if_neg (show ¬ z = x from fun e => nd.2.1 (by rw [← e]; exact hz))]
    · rintro ⟨st, ⟨hs, f⟩, hx, rfl⟩
      have hxl : x < st.length := by rw [hs.1]; exact nd.2.2
      have f1 := (amid_fits hF K A hx).mp f
      have gx : gof rooms.length (st.set x rooms.length) x = rooms.length := by
        rw [gof_set hxl]
        show (if x = x then _ else _) = _
        rw [if_pos rfl]
      have f2 : Fits rooms.length (o1 ++ o2) (outS s i) (amV rooms o1 o2 s V i) (gof rooms.length (st.set x rooms.length)) := f1.congr fun z hz => by
        rw [gof_set hxl]
        show _ = (if z = x then rooms.length else gof rooms.length st z)
        rw [if_neg (show ¬ z = x from fun e => nd.2.1 (by rw [← e]; exact hz))]
      refine ⟨hs.set (Nat.le_refl _), fun j hj => ?_, fun j d hj hd => ?_⟩
      · rw [eL, cnt_snoc, gx, if_neg (by omega)]
        have := f2.1 j hj
        omega
      · unfold strV
        by_cases q : d ≤ (o1 ++ o2).length
        · rw [if_pos q, cnt_snoc_le q]; exact f2.2 j d hj q
        · rw [if_neg q, show d = (o1 ++ o2).length + 1 by omega, cnt_snoc, gx, if_neg (by omega)]
          exact f2.2 j _ hj (Nat.le_refl _)

/-! ### reached -/
theorem gof_map {f : Nat → Nat} {z : Nat} (hz : z < n) : gof F ((List.range n).map f) z = f z := by
  unfold gof
  rw [List.getD_eq_getElem?_getD, List.getElem?_map, List.getElem?_range hz]
  rfl
theorem reach (K : KOk rooms n o s V) {j0 : Nat} (hj : j0 < rooms.length) : ∃ st, FitL rooms.length n o s V st ∧ ∀ d, d ≤ n → (cnt (gof rooms.length st) o j0 d : Int) = V j0 d := by
  have hn : n = o.length := by have := K.perm.length_eq; simpa using this.symm
  have T := K.tight
  rw [hn] at T
  obtain ⟨g, h1, h2, h3⟩ := attain T (K.perm.nodup_iff.mpr List.nodup_range) hj
  have e : ∀ z ∈ o, g z = gof rooms.length ((List.range n).map g) z := fun z hz => (gof_map (List.mem_range.mp (K.perm.mem_iff.mp hz))).symm
  refine ⟨(List.range n).map g, ⟨⟨by simp, fun f hf => ?_⟩, h2.congr e⟩, fun d hd => ?_⟩
  · obtain ⟨z, _, rfl⟩ := List.mem_map.mp hf
    exact h1 z
  · rw [← cnt_congr e]; exact h3 d (by omega)

/-! ### at first -/
theorem sorted_cnt (hs : o.Pairwise (fun a b => g a ≤ g b)) (hd : d ≤ o.length) : cnt g o j d = min d (cnt g o j o.length) := by
  induction o generalizing d with
  | nil => simp at hd; subst hd; simp [cnt]
  | cons z o ih =>
    cases d with
    | zero => simp [cnt]
    | succ d =>
      have hp := List.pairwise_cons.mp hs
      have ih := ih hp.2 (d := d) (by simpa using hd)
      rw [cnt_cons, show (z :: o).length = o.length + 1 from rfl, cnt_cons, ih]
      by_cases q : g z ≤ j
      · rw [if_pos q]; omega
      · rw [if_neg q]
        have : cnt g o j o.length = 0 := by
          unfold cnt
          rw [List.take_length, List.countP_eq_zero]
          intro y hy
          have := hp.1 y hy
          simp only [decide_eq_true_eq]
          omega
        omega
def minV (s : Nat → Int) : Fam := fun j d => min (d : Int) (s j)
/-- the sizes of a state -/
def szs (F : Nat) (st : List Nat) : Nat → Int := fun j => (cnt (gof F st) (List.range st.length) j st.length : Int)
theorem cnt_perm (hp : o.Perm (List.range n)) : cnt g o j o.length = cnt g (List.range n) j n := by
  unfold cnt
  rw [List.take_length, hp.countP_eq]
  rw [List.take_of_length_le (by simp)]
theorem first_state (hF : 0 < rooms.length) (hs : IsSt rooms.length n st) (hc : ∀ j, j < rooms.length → st.count j ≤ rm rooms j) (hp : o.Perm (List.range n)) (ho : o.Pairwise (fun a b => gof rooms.length st a ≤ gof rooms.length st b)) :
    KOk rooms n o (szs rooms.length st) (minV (szs rooms.length st)) ∧ ∀ st', FitL rooms.length n o (szs rooms.length st) (minV (szs rooms.length st)) st' ↔ st' = st := by
  have hn : n = o.length := by have := hp.length_eq; simpa using this.symm
  have es : ∀ j, szs rooms.length st j = (cnt (gof rooms.length st) o j o.length : Int) := fun j => by unfold szs; rw [cnt_perm hp, hs.1]
  have mono : ∀ j, szs rooms.length st j ≤ szs rooms.length st (j + 1) := fun j => by
    rw [es, es]; have := cnt_mono_j (g := gof rooms.length st) (o := o) (d := o.length) (show j ≤ j + 1 by omega); omega
  have le : ∀ j, 0 ≤ szs rooms.length st j ∧ szs rooms.length st j ≤ n := fun j => by
    rw [es]; have := cnt_le (g := gof rooms.length st) (o := o) (j := j) (d := o.length); omega
  refine ⟨⟨hp, ⟨fun j hj => ?_, fun j d hj hd => ?_, fun j hj => ?_, fun j d hj hd => ?_, fun j d hj hd => ?_⟩, fun j hj => ?_⟩, fun st' => ⟨?_, ?_⟩⟩
  · unfold minV; have := le j; omega
  · unfold minV; omega
  · unfold minV; have := le j; omega
  · unfold minV; have := mono j; omega
  · unfold minV; have := mono j; omega
  · have a := hc j hj
    rw [count_range (F := rooms.length), hs.1] at a
    have b := cnt_on (g := gof rooms.length st) (a := j) (List.range n)
    rw [List.length_range] at b
    unfold fl szs
    rw [hs.1]
    by_cases h0 : j = 0
    · rw [if_pos h0]; rw [if_pos h0] at b; omega
    · rw [if_neg h0]; rw [if_neg h0] at b; omega
  · rintro ⟨hs', f⟩
    refine st_ext (F := rooms.length) hs'.1 hs.1 fun z hz => ?_
    have key : ∀ j, j < rooms.length → (gof rooms.length st z ≤ j → gof rooms.length st' z ≤ j) ∧ (gof rooms.length st' z ≤ j → gof rooms.length st z ≤ j) := by
      intro j hj
      have hz' : z ∈ o := hp.mem_iff.mpr (List.mem_range.mpr hz)
      obtain ⟨c, hc⟩ : ∃ c : Nat, c = cnt (gof rooms.length st) o j o.length := ⟨_, rfl⟩
      have hcl : c ≤ o.length := by rw [hc]; exact cnt_le
      have h1 : cnt (gof rooms.length st) o j c = c := by rw [sorted_cnt ho hcl]; omega
      have h2 : cnt (gof rooms.length st') o j c = c := by
        have a := f.2 j c hj hcl
        unfold minV at a
        rw [es j] at a
        have := cnt_le (g := gof rooms.length st') (o := o) (j := j) (d := c)
        omega
      have h3 : cnt (gof rooms.length st') o j o.length = c := by have a := f.1 j hj; rw [es j] at a; omega
      have spl : ∀ g : Nat → Nat, cnt g o j c = c → cnt g o j o.length = c → (g z ≤ j ↔ z ∈ o.take c) := by
        intro g e1 e2
        unfold cnt at e1 e2
        have ht : (o.take c).length = c := by rw [List.length_take]; omega
        have all : ∀ y ∈ o.take c, g y ≤ j := by
          have := List.countP_eq_length.mp (e1.trans ht.symm)
          intro y hy; exact of_decide_eq_true (this y hy)
        constructor
        · intro hg
          refine Classical.byContradiction fun hq => ?_
          have hz2 : z ∈ o.drop c := by
            have : z ∈ o.take c ++ o.drop c := by rw [List.take_append_drop]; exact hz'
            rcases List.mem_append.mp this with q | q
            · exact absurd q hq
            · exact q
          rw [List.take_length] at e2
          have e3 : o.countP (fun y => decide (g y ≤ j)) = (o.take c).countP (fun y => decide (g y ≤ j)) + (o.drop c).countP (fun y => decide (g y ≤ j)) := by
            rw [← List.countP_append, List.take_append_drop]
          have : 0 < (o.drop c).countP (fun y => decide (g y ≤ j)) := List.countP_pos_iff.mpr ⟨z, hz2, decide_eq_true hg⟩
          omega
        · exact all z
      rw [spl _ h1 hc.symm, spl _ h2 h3]
      exact ⟨id, id⟩
    have a := hs.le z
    have b := hs'.le z
    by_cases q : gof rooms.length st z < rooms.length
    · have c := (key _ q).1 (Nat.le_refl _)
      have d := (key (gof rooms.length st' z) (by omega)).2 (Nat.le_refl _)
      omega
    · by_cases q' : gof rooms.length st' z < rooms.length
      · have d := (key _ q').2 (Nat.le_refl _)
        omega
      · omega
  · rintro rfl
    refine ⟨hs, fun j hj => (es j).symm, fun j d hj hd => ?_⟩
    rw [sorted_cnt ho hd]
    unfold minV
    rw [es j]
    omega
def fullV (rooms : List Nat) (n : Nat) : Fam := fun j d => max 0 ((rw' rooms j : Int) - n + d)
theorem rw_mono : rw' rooms j ≤ rw' rooms (j + 1) := by show _ ≤ rw' rooms j + _; omega
theorem first_none (hF : 0 < rooms.length) (hn : rw' rooms (rooms.length - 1) ≤ n) :
    KOk rooms n (List.range n) (fun j => (rw' rooms j : Int)) (fullV rooms n) ∧
    ∀ st', FitL rooms.length n (List.range n) (fun j => (rw' rooms j : Int)) (fullV rooms n) st' ↔ IsSt rooms.length n st' ∧ ∀ j, j < rooms.length → szs rooms.length st' j = rw' rooms j := by
  have le : ∀ j, j < rooms.length → rw' rooms j ≤ n := by
    intro j hj
    have key : ∀ c, j + c < rooms.length → rw' rooms j ≤ rw' rooms (j + c) := by
      intro c
      induction c with
      | zero => intro _; exact Nat.le_refl _
      | succ c ih => intro h; have a := ih (by omega); have b := rw_mono (rooms := rooms) (j := j + c); exact Nat.le_trans a b
    have := key (rooms.length - 1 - j) (by omega)
    rw [show j + (rooms.length - 1 - j) = rooms.length - 1 by omega] at this
    omega
  refine ⟨⟨List.Perm.refl _, ⟨fun j hj => ?_, fun j d hj hd => ?_, fun j hj => ?_, fun j d hj hd => ?_, fun j d hj hd => ?_⟩, fun j hj => ?_⟩, fun st' => ⟨?_, ?_⟩⟩
  · unfold fullV; have := le j hj; omega
  · unfold fullV; omega
  · unfold fullV; omega
  · unfold fullV; have := rw_mono (rooms := rooms) (j := j); omega
  · unfold fullV; have := rw_mono (rooms := rooms) (j := j); omega
  · unfold fl
    by_cases h0 : j = 0
    · subst h0; rw [if_pos rfl]; show (rm rooms 0 : Int) - 0 ≤ _; omega
    · rw [if_neg h0]
      obtain ⟨c, rfl⟩ : ∃ c, j = c + 1 := ⟨j - 1, by omega⟩
      show ((rw' rooms c + rm rooms (c + 1) : Nat) : Int) - rw' rooms (c + 1 - 1) ≤ _
      rw [show c + 1 - 1 = c by omega]; omega
  · rintro ⟨hs, f⟩
    refine ⟨hs, fun j hj => ?_⟩
    have a := f.1 j hj
    rw [List.length_range] at a
    unfold szs
    rw [hs.1]; exact a
  · rintro ⟨hs, h⟩
    have e : ∀ j, j < rooms.length → (cnt (gof rooms.length st') (List.range n) j n : Int) = rw' rooms j := fun j hj => by have a := h j hj; unfold szs at a; rw [hs.1] at a; exact a
    refine ⟨hs, fun j hj => by rw [List.length_range]; exact e j hj, fun j d hj hd => ?_⟩
    rw [List.length_range] at hd
    have a := e j hj
    have b := cnt_gap (g := gof rooms.length st') (o := List.range n) (j := j) (k := rooms.length) hd (by omega)
    have c1 := cnt_all (g := gof rooms.length st') (o := List.range n) (j := rooms.length) (d := d) (fun z _ => hs.le z) (by simpa using hd)
    have c2 := cnt_all (g := gof rooms.length st') (o := List.range n) (j := rooms.length) (d := n) (fun z _ => hs.le z) (by simp)
    unfold fullV
    omega
end
end FM
end
section
set_option Elab.async false
set_option linter.all false
set_option maxRecDepth 100000
/-! Data of the law, short rules. -/
namespace FK
open PySem PySem.Spec PyProof.Rows L2 Lg Lr RZ FM
variable [tbs : Tbs]
/-- ints, places as data -/
abbrev tI (l : List Int) : D := .tup (l.map .int)
abbrev dN (n : Nat) : D := .int (n : Int)
abbrev tN (l : List Nat) : D := .tup (l.map dN)
abbrev houseD (n : Nat) (rooms : List Nat) : D := .tup [dN n, tN rooms]
structure HouseOk (n : Nat) (rooms : List Nat) : Prop where
  n5 : n ≤ 5
  ne : 0 < rooms.length
  f3 : rooms.length ≤ 3
  pos : ∀ j, j < rooms.length → 1 ≤ rm rooms j
  s6 : rw' rooms (rooms.length - 1) ≤ 6
/-- f at 0, .., n - 1 -/
abbrev upto {α : Type} (n : Nat) (f : Nat → α) : List α := (List.range n).map f
theorem upto_len {α : Type} {n : Nat} {f : Nat → α} : (upto n f).length = n := by simp
theorem upto_get {α : Type} {n i : Nat} {f : Nat → α} (h : i < n) : (upto n f)[i]? = some (f i) := by
  unfold upto
  rw [List.getElem?_map, List.getElem?_range h]; rfl
theorem upto_succ {α : Type} {n : Nat} {f : Nat → α} : upto (n + 1) f = upto n f ++ [f n] := by
  unfold upto
  rw [List.range_succ, List.map_append]; rfl
theorem dAt_N {l : List Nat} {i : Nat} (h : i < l.length) : dAt (l.map dN) i = dN (l.getD i 0) := by
  rw [dAt_map (List.getElem?_eq_getElem h), List.getD_eq_getElem?_getD, List.getElem?_eq_getElem h]; rfl
theorem dAt_upto {n i : Nat} {f : Nat → D} (h : i < n) : dAt (upto n f) i = f i := dAt_of (upto_get h)
theorem map_upto {α β : Type} {n : Nat} {f : Nat → α} {g : α → β} : (upto n f).map g = upto n fun i => g (f i) := by
  unfold upto
  rw [List.map_map]; rfl
section
variable {K : PySem.W.Frag} {ss : List Sl} {te : TE} {a b : D} {ds : List D} {i : Nat} {N N' : List Sl → Prop} {R R' : D → Prop} {B B' C C' : List Sl → Prop} {t : TS}
/-! ### short rules -/
theorem ea1 (h : EvD ss te a) : EvA ss (tCons te tNil) (fun x => x = [a]) := ea_cons h ea_nil
theorem ea2 {tf : TE} (h : EvD ss te a) (h' : EvD ss tf b) : EvA ss (tCons te (tCons tf tNil)) (fun x => x = [a, b]) := ea_cons h (ea1 h')
theorem ea3 {tf tg : TE} {c : D} (h : EvD ss te a) (h' : EvD ss tf b) (h2 : EvD ss tg c) : EvA ss (tCons te (tCons tf (tCons tg tNil))) (fun x => x = [a, b, c]) := ea_cons h (ea2 h' h2)
/-- tuple(l) -/
theorem ev_tA (h : EvV ss te (fun x => x = ds)) : EvD ss (tCB (rTupA K) (tCons te tNil)) (.tup ds) := ev_cbV h fun es e H O Z l xs Q nn h1 h2 q => by
  subst e
  exact .inl ⟨l, xs, rfl, .inl ⟨SqL.of h1, fun p hp => q _ _ _ rfl (Ext.new hp) ((Dq.rtup upd_same (h2.mv (Ext.stp (Ext.new hp)))).wk Wk.rt1)⟩⟩
/-- .. its object known -/
theorem ev_tAP (h : EvV ss te (fun x => x = ds)) : EvD ss (tCB (rTupA K) (tCons te tNil)) (.ptup ds) := ev_cbV h fun es e H O Z l xs Q nn h1 h2 q => by
  subst e
  exact .inr ⟨l, xs, rfl, SqL.of h1, fun p o hp ho => q _ _ _ rfl (Ext.new hp) (.ptup upd_same ho (h2.mv (Ext.stp (Ext.new hp))))⟩
/-- displays -/
theorem ev_tB {ta : TA} (h : EvA ss ta (fun x => x = ds)) (hz : ds.length ≤ 100000) : EvD ss (tTupB ta) (.tup ds) := fun Z Bg σ H O Q g q => .inl (ev_tup h hz Z Bg σ H O Q g q)
theorem ev_tBR {ta : TA} (h : EvA ss ta (fun x => x = ds)) (hz : ds.length ≤ 100000) : EvD ss (tTupB ta) (.rtup ds) := fun Z Bg σ H O Q g q => .inl (ev_rtup h hz Z Bg σ H O Q g q)
theorem ev_tBP {ta : TA} (h : EvA ss ta (fun x => x = ds)) (hz : ds.length ≤ 100000) : EvD ss (tTupB ta) (.ptup ds) := fun Z Bg σ H O Q g q => .inr (h Z Bg σ H O _ g fun vs ds H1 pd g1 s1 hd => ⟨by rw [hd.length, pd]; exact sz_of hz, fun p o hp ho =>
  q _ _ _ (by rw [pd]) (g1.ext (Ext.new hp)) (s1.trans (Ext.stp (Ext.new hp))) (.ptup upd_same ho (hd.mv (Ext.stp (Ext.new hp))))⟩)
theorem eb_yes : EvB ss tYes (fun x => x = true) := fun Z Bg σ H O Q g q => q true H rfl g Stp.refl
theorem ht_retD (h : EvD ss te a) (f : R a) : HT ss (tRet te) N R B C := ht_ret h fun d e => e ▸ f
theorem ht_asgD (h : EvD ss te a) (f : N (ss.set i (.im a))) : HT ss (tAsg te (gName i)) N R B C := ht_asg h fun d e => e ▸ f
theorem en_lcA {wi : TI} {g : TG} {vs : List Nat} {n : Nat} {el f : Nat → D} (hs : SrcC ss wi n el) (hn : n ≤ 99999) (hv : noOwn ss vs = true)
    (step : ∀ i, i < n → ∃ ss2 js, Tgt g (wipeS ss vs) (el i) ss2 js ∧ (∀ k ∈ js, k ∈ vs) ∧ wipeS ss2 vs = wipeS ss vs ∧ EvD ss2 te (f i)) : EvN ss (tLc wi g tYes te vs) (fun x => x = upto n f) :=
  (en_lc (keep := fun _ => true) hs hn hv fun i hi => by
    obtain ⟨ss2, js, h1, h2, h3, h4⟩ := step i hi
    exact ⟨ss2, js, h1, h2, h3, eb_yes, fun _ => h4⟩).mono fun x hx => by rw [hx, List.filter_eq_self.mpr (fun _ _ => rfl)]
/-! ### two at once -/
section
variable {tf : TE} {es : List D} {ta : TA} {s1 s2 s3 : Sl} {j l : Nat}
theorem em_ii (h : EvD ss te a) (h' : EvD ss tf b) : EvM ss (tCons te (tCons tf tNil)) (fun x => x = [.im a, .im b]) := em_imD h (em_imD h' em_nil)
theorem em_ownD {tr : TA} {sls : List Sl} (h : EvN ss te (fun x => x = ds)) (hr : EvM ss tr (fun x => x = sls)) : EvM ss (tCons te tr) (fun x => x = .own ds :: sls) := (em_own h hr).mono fun x ⟨d, r, e1, e2, e3⟩ => by rw [e1, e2, e3]
theorem em_oi (h : EvN ss te (fun x => x = ds)) (h' : EvD ss tf b) : EvM ss (tCons te (tCons tf tNil)) (fun x => x = [.own ds, .im b]) := em_ownD h (em_imD h' em_nil)
theorem em_io (h : EvD ss te a) (h' : EvN ss tf (fun x => x = ds)) : EvM ss (tCons te (tCons tf tNil)) (fun x => x = [.im a, .own ds]) := em_imD h (em_ownD h' em_nil)
theorem em_oo (h : EvN ss te (fun x => x = ds)) (h' : EvN ss tf (fun x => x = es)) : EvM ss (tCons te (tCons tf tNil)) (fun x => x = [.own ds, .own es]) := em_ownD h (em_ownD h' em_nil)
theorem ht_par2 (h : EvM ss ta (fun x => x = [s1, s2])) (hn : N ((ss.set i s1).set j s2)) : HT ss (tPar i j ta) N R B C := ht_par h fun x e => ⟨s1, s2, e, hn⟩
theorem ht_par3' (h : EvM ss ta (fun x => x = [s1, s2, s3])) (hn : N (((ss.set i s1).set j s2).set l s3)) : HT ss (tPar3 i j l ta) N R B C := ht_par3 h fun x e => ⟨s1, s2, s3, e, hn⟩
theorem ht_asgNL (h : EvN ss te (fun x => x = ds)) (hn : N (ss.set i (.own ds))) : HT ss (tAsg te (gName i)) N R B C := ht_asgN h fun x e => e ▸ hn
theorem ht_app (hi : ss[i]? = some (.own ds)) (h : EvD ss te a) (hz : ds.length < 100000) (hn : N (ss.set i (.own (ds ++ [a])))) : HT ss (tDrop (tBM K "list" rAppend (tVar i) (tCons te tNil))) N R B C := ht_append hi h hz fun d e => e ▸ hn
theorem ht_asgG {g : TG} {ss' : List Sl} {js : List Nat} (h : EvD ss te a) (ht : Tgt g ss a ss' js) (hn : N ss') : HT ss (tAsg te g) N R B C := ht_asgT h fun d e => e ▸ ⟨ss', js, ht, hn⟩
end
theorem one_le {d : D} : [d].length ≤ 100000 := Nat.le_of_ble_eq_true rfl
theorem upto_set {α : Type} {n p : Nat} {f : Nat → α} {v : α} : (upto n f).set p v = upto n fun q => if q = p then v else f q := by
  apply List.ext_getElem?
  intro q
  rw [List.getElem?_set]
  unfold upto
  rw [List.getElem?_map, List.getElem?_map, List.length_map, List.length_range]
  by_cases h : q < n
  · rw [List.getElem?_range h]
    by_cases e : p = q
    · rw [if_pos e, if_pos (by omega)]
      simp [e]
    · rw [if_neg e]
      simp [Ne.symm e]
  · rw [List.getElem?_eq_none (by simp; omega)]
    by_cases e : p = q
    · rw [if_pos e, if_neg (by omega)]; rfl
    · rw [if_neg e]; rfl
theorem upto_congr {α : Type} {n : Nat} {f g : Nat → α} (h : ∀ i, i < n → f i = g i) : upto n f = upto n g := List.map_congr_left fun i hi => h i (List.mem_range.mp hi)
theorem own_up {n : Nat} {f g : Nat → D} (h : ∀ i, i < n → f i = g i) : Sl.own (upto n f) = Sl.own (upto n g) := by rw [upto_congr h]
theorem ixN_of {n k : Nat} (h : k < n) : ixN n (k : Int) = some k := by
  unfold ixN
  rw [if_pos (by omega), if_pos (by omega), Int.toNat_natCast]
theorem src_el {wi : TI} {n : Nat} {el el' : Nat → D} (h : Src ss wi n el) (e : ∀ i, i < n → el i = el' i) : Src ss wi n el' := fun Z Bg σ H O R g k => h Z Bg σ H O R g fun J H' g' s w => k J H' g' s fun O1 H1 Z1 a b c => by
  obtain ⟨w1, w2, w3⟩ := w O1 H1 Z1 a b c
  exact ⟨w1, w2, fun i x H2 hi hy => by rw [← e i hi]; exact w3 i x H2 hi hy⟩
theorem srcC_el {wi : TI} {n : Nat} {el el' : Nat → D} (h : SrcC ss wi n el) (e : ∀ i, i < n → el i = el' i) : SrcC ss wi n el' := fun Z Bg σ H O R g k => h Z Bg σ H O R g fun J H' g' s w => k J H' g' s fun O1 H1 Z1 a b c d => by
  obtain ⟨w1, w2, w3⟩ := w O1 H1 Z1 a b c d
  exact ⟨w1, w2, fun i x H2 hi hy => by rw [← e i hi]; exact w3 i x H2 hi hy⟩
theorem ev_n1 : EvD ss (tUn (rU fun i => .int (-i)) (tC (.int 1))) (.int (-1)) := ev_neg ev_int
theorem atI_last {l : List D} {d : D} (h : l.getLast? = some d) : atI l (-1) = some d := by
  have hl : 0 < l.length := by
    cases l with
    | nil => cases h
    | cons a l => simp
  unfold atI ixN
  rw [if_neg (by omega), if_pos (by omega)]
  rw [List.getLast?_eq_getElem?] at h
  show l[((-1 : Int) + l.length).toNat]? = _
  rw [← h]; congr 1; omega
theorem upto_last {α : Type} {n : Nat} {f : Nat → α} : (upto (n + 1) f).getLast? = some (f n) := by rw [upto_succ]; simp

/-! ### calls of built-ins -/
section
variable {m n k : Int} {tf tg : TE} {Pa P : D → Prop} {PL : List D → Prop} {Bb : Bool → Prop} {j : Nat}
theorem ite_max : (if n > m then n else m) = max m n := by
  rw [Int.max_def]; split <;> split <;> omega
theorem ite_min : (if n < m then n else m) = min m n := by
  rw [Int.min_def]; split <;> split <;> omega
theorem ev_max2 (h : EvD ss te (.int m)) (h' : EvD ss tf (.int n)) : EvD ss (tCB rMax2 (tCons te (tCons tf tNil))) (.int (max m n)) := ev_cb (ea2 h h') fun ds e H O Z vs Q nn hd q => by
  subst e
  cases hd with
  | cons h1 h2 =>
    cases h2 with
    | cons h2 h3 =>
      cases h1; cases h2; cases h3
      refine ⟨m, n, rfl, ?_⟩
      rw [ite_max]
      exact q _ H _ rfl Ext.refl (.int _)
theorem ev_min2 (h : EvD ss te (.int m)) (h' : EvD ss tf (.int n)) : EvD ss (tCB rMin2 (tCons te (tCons tf tNil))) (.int (min m n)) := ev_cb (ea2 h h') fun ds e H O Z vs Q nn hd q => by
  subst e
  cases hd with
  | cons h1 h2 =>
    cases h2 with
    | cons h2 h3 =>
      cases h1; cases h2; cases h3
      refine ⟨m, n, rfl, ?_⟩
      rw [ite_min]
      exact q _ H _ rfl Ext.refl (.int _)
theorem ev_max3 (h : EvD ss te (.int m)) (h' : EvD ss tf (.int n)) (h2 : EvD ss tg (.int k)) : EvD ss (tCB (rNuC3 nuMax3) (tCons te (tCons tf (tCons tg tNil)))) (.int (max (max m n) k)) := ev_cb (ea3 h h' h2) fun ds e H O Z vs Q nn hd q => by
  subst e
  cases hd with
  | cons h1 h2 =>
    cases h2 with
    | cons h2 h3 =>
      cases h3 with
      | cons h3 h4 =>
        cases h1; cases h2; cases h3; cases h4
        refine ⟨.int m, .int n, .int k, .int (max (max m n) k), rfl, ?_, q _ H _ rfl Ext.refl (.int _)⟩
        have e1 : nuMax2 (.int m) (.int n) = some (.int (max m n)) := by
          show some (if decide (m < n) = true then V.int n else V.int m) = _
          rw [Int.max_def]
          by_cases c : m < n
          · rw [if_pos (by simpa using c), if_pos (by omega)]
          · rw [if_neg (by simpa using c)]
            by_cases c2 : m ≤ n
            · rw [if_pos c2]; congr 2; omega
            · rw [if_neg c2]
        show (nuMax2 (.int m) (.int n)).bind _ = _
        rw [e1]
        show some (if decide (max m n < k) = true then V.int k else V.int (max m n)) = _
        rw [Int.max_def (max m n) k]
        by_cases c : max m n < k
        · rw [if_pos (by simpa using c), if_pos (by omega)]
        · rw [if_neg (by simpa using c)]
          by_cases c2 : max m n ≤ k
          · rw [if_pos c2]; congr 2; omega
          · rw [if_neg c2]
theorem ev_intI (h : EvD ss te (.int m)) : EvD ss (tCB rInt1 (tCons te tNil)) (.int m) := ev_cb (ea1 h) fun ds e H O Z vs Q nn hd q => by
  subst e
  cases hd with
  | cons h1 h2 => cases h1; cases h2; exact .inl ⟨m, rfl, q _ H _ rfl Ext.refl (.int _)⟩
theorem ev_intB {b : Bool} (h : EvD ss te (.bl b)) : EvD ss (tCB rInt1 (tCons te tNil)) (.int (if b then 1 else 0)) := ev_cb (ea1 h) fun ds e H O Z vs Q nn hd q => by
  subst e
  cases hd with
  | cons h1 h2 => cases h1; cases h2; exact .inr ⟨b, rfl, q _ H _ rfl Ext.refl (.int _)⟩
theorem ev_all {bs : List Bool} (h : EvN ss te (fun x => x = bs.map .bl)) : EvD ss (tCB (rAll K) (tCons te tNil)) (.bl (bs.all id)) := ev_cbV h.v fun ds e H O Z l xs Q nn h1 h2 q => by
  subst e
  rw [DqAll.bls h2] at h1
  exact ⟨l, bs, rfl, SqL.of h1, q _ H _ rfl Ext.refl (.bl _)⟩
theorem ev_any {bs : List Bool} (h : EvN ss te (fun x => x = bs.map .bl)) : EvD ss (tCB (rAny K) (tCons te tNil)) (.bl (bs.any id)) := ev_cbV h.v fun ds e H O Z l xs Q nn h1 h2 q => by
  subst e
  rw [DqAll.bls h2] at h1
  exact ⟨l, bs, rfl, SqL.of h1, q _ H _ rfl Ext.refl (.bl _)⟩
theorem ev_sumT {ns : List Int} (h : EvD ss te a) (hi : a.items = some (ns.map .int)) : EvD ss (tCB (rSumT K) (tCons te tNil)) (.int ns.sum) := ev_cb (ea1 h) fun ds e H O Z vs Q nn hd q => by
  subst e
  cases hd with
  | cons h1 h2 =>
    cases h2
    obtain ⟨p, xs, rfl, h4, h5⟩ := h1.tupV (K := K) hi
    rw [DqAll.of_ints h5] at h4
    exact ⟨p, ns, rfl, h4, q _ H _ rfl Ext.refl (.int _)⟩
/-- min of a list of ints -/
theorem ev_minL {ns : List Int} (h : EvN ss te (fun x => x = ns.map .int)) (hne : 0 < ns.length) (hm : m ∈ ns) (hl : ∀ y ∈ ns, m ≤ y) : EvD ss (tCB (rMin K) (tCons te tNil)) (.int m) := ev_cbV h.v fun ds e H O Z l xs Q nn h1 h2 q => by
  subst e
  rw [DqAll.of_ints h2] at h1
  refine ⟨l, ns, rfl, SqL.of h1, hne, fun m' h3 h4 => ?_⟩
  have e : m' = m := by have := hl m' h3; have := h4 m hm; omega
  rw [e]
  exact q _ H _ rfl Ext.refl (.int _)
/-- t.index(k), t.count(k) -/
theorem ev_tidx {ns : List Int} (h : EvD ss te (.ptup (ns.map .int))) (h' : EvD ss tf (.int k)) (hj : ns[j]? = some k) (hno : ∀ m, m < j → ns[m]? ≠ some k) : EvD ss (tBMT (rIdxT K) te (tCons tf tNil)) (.int (j : Int)) := fun Z Bg σ H O Q g q =>
  h Z Bg σ H O _ g fun v H1 d e g1 s1 hd => by
    subst e
    cases hd with
    | ptup h1 h2 h3 =>
      refine ⟨⟨_, _, _, rfl, h1, h2⟩, h' Z Bg σ H1 O _ g1 fun w H2 d2 e2 g2 s2 hd2 => ?_⟩
      subst e2
      cases hd2
      refine ⟨_, ns, k, j, rfl, rfl, ?_, hj, hno, q _ H2 _ rfl g2 (s1.trans s2) (.int _)⟩
      rw [← DqAll.of_ints h3]
      exact .inl (.inr ⟨_, s2.tp _ _ h1 trivial⟩)
theorem ev_tcnt {ns : List Int} (h : EvD ss te (.ptup (ns.map .int))) (h' : EvD ss tf (.int k)) : EvD ss (tBMT (rCntT K) te (tCons tf tNil)) (.int (ns.count k : Nat)) := fun Z Bg σ H O Q g q =>
  h Z Bg σ H O _ g fun v H1 d e g1 s1 hd => by
    subst e
    cases hd with
    | ptup h1 h2 h3 =>
      refine ⟨⟨_, _, _, rfl, h1, h2⟩, h' Z Bg σ H1 O _ g1 fun w H2 d2 e2 g2 s2 hd2 => ?_⟩
      subst e2
      cases hd2
      refine ⟨_, ns, k, rfl, rfl, ?_, q _ H2 _ rfl g2 (s1.trans s2) (.int _)⟩
      rw [← DqAll.of_ints h3]
      exact .inl (.inr ⟨_, s2.tp _ _ h1 trivial⟩)
/-- l.count(k), l a list of one's own -/
theorem ev_lcnt {ns : List Int} (hi : ss[i]? = some (.own (ns.map .int))) (h' : EvD ss tf (.int k)) : EvD ss (tBM K "list" (rCntI K) (tVar i) (tCons tf tNil)) (.int (ns.count k : Nat)) := fun Z Bg σ H O Q g q => by
  obtain ⟨l, xs, e, _, _, h1, h2⟩ := g.own hi
  refine ⟨_, e, .inl ⟨rfl, xs, SqL.of h1⟩, h' Z Bg σ H O _ g fun w H2 d2 e2 g2 s2 hd2 => ?_⟩
  subst e2
  cases hd2
  obtain ⟨l', ys, e', _, _, h1', h2'⟩ := g2.own hi
  rw [e] at e'; cases e'
  rw [DqAll.of_ints h2'] at h1'
  exact ⟨l, ns, k, rfl, rfl, SqL.of h1', q _ H2 _ rfl g2 s2 (.int _)⟩
/-! ### * -/
theorem ev_mul (h : EvD ss te (.int m)) (h' : EvD ss tf (.int n)) (hc : CMul m n) : EvD ss (tOp (rMul K) te tf) (.int (m * n)) := ev_op h h' fun a b ea eb => by subst ea eb; exact rd_inl (rd_I hc fun _ _ _ => .int _)
theorem flat_rep {α : Type} (a : α) : ∀ k : Nat, (List.replicate k [a]).flatten = List.replicate k a
  | 0 => rfl
  | k + 1 => by rw [List.replicate_succ, List.flatten_cons, flat_rep a k]; rfl
/-- (a,) * k -/
theorem ev_mulT {k : Nat} (h : EvD ss te a) (hi : a.items = some [b]) (h' : EvD ss tf (dN k)) (hk : k ≤ 1000) : EvD ss (tOp (rMul K) te tf) (.tup (List.replicate k b)) := ev_op h h' fun x y ex ey H O Z v w Q nn hx hy q => by
  subst ex ey
  cases hy
  obtain ⟨p, xs, rfl, h4, h5⟩ := hx.tupV (K := K) hi
  have hl := h5.length
  match xs, hl with
  | [u], _ =>
    by_cases h2 : 2 ≤ k
    · refine .inr (.inr (.inl ⟨p, k, [u], rfl, rfl, h4, (fun e => nomatch e), by omega, by omega, Nat.le_of_ble_eq_true rfl, fun p hp => ?_⟩))
      rw [Int.toNat_natCast, flat_rep]
      refine q _ _ _ rfl (Ext.new hp) ((Dq.rtup upd_same ?_).wk Wk.rt1)
      have := (h5.rep k)
      rw [flat_rep, flat_rep] at this
      exact this.mv (Ext.stp (Ext.new hp))
    · refine .inr (.inr (.inr ⟨p, k, [u], rfl, rfl, h4, (fun e => nomatch e), ?_⟩))
      by_cases h1 : k = 1
      · subst h1
        exact .inl ⟨rfl, q _ H _ rfl Ext.refl (hx.asTup hi)⟩
      · obtain rfl : k = 0 := by omega
        exact .inr ⟨rfl, fun p hp => q _ _ _ rfl (Ext.new hp) ((Dq.rtup upd_same .nil).wk Wk.rt1)⟩
theorem sg_lz {Z Z' : Av} {Bg : Option Addr} {H : Hp} {O : Av} {σ : L2.St} (g : Sg Z Bg H O σ ss) (f : ∀ a, Z' a → Z a) : Sg Z' Bg H O σ ss := by
  have f' : ∀ a, O a ∨ Z' a → O a ∨ Z a := fun a q => q.elim .inl fun z => .inr (f a z)
  refine ⟨⟨fun a q => g.wd.al a (f' a q), fun a q z => g.wd.dj a q (f a z), fun b hb => ?_, g.wd.tb⟩, g.len, fun i v sl h1 h2 => ?_, g.ap⟩
  · obtain ⟨h1, i, j, k, c, ns, q1, q2, q3, q4⟩ := g.wd.bg b hb
    exact ⟨h1, i, j, k, c, ns, q1, q2, fun z => q3 (f c z), q4⟩
  · have q := g.sl i v sl h1 h2
    cases sl with
    | un => trivial
    | im d => obtain ⟨x, r, q⟩ := q; exact ⟨x, r, q.less f'⟩
    | own ds => obtain ⟨l, xs, r, k1, k2, k3, k4⟩ := q; exact ⟨l, xs, r, k1, k2, k3, k4.less f'⟩
    | obj u => exact q
    | ro l w => obtain ⟨r, k1, k2, k3, k4⟩ := q; exact ⟨r, k1, fun z => k2 (f l z), k3, k4⟩
    | bag => exact q
/-- [a] * k -/
theorem en_mulL {k : Nat} {ta : TA} (h : EvA ss ta (fun x => x = [b])) (h' : EvD ss tf (dN k)) (hk : k ≤ 1000) : EvN ss (tOp (rMul K) (tLst ta) tf) (fun x => x = List.replicate k b) := fun Z Bg σ H O Q g q =>
  en_d h (Nat.le_of_ble_eq_true rfl) Z Bg σ H O _ g fun p xs ds H1 e np hn g1 s1 hp hd => by
    subst e
    refine h' (fun a => Z a ∨ a = p) Bg σ H1 O _ (g.oz np g1) fun w H2 d2 e2 g2 s2 hd2 => ?_
    subst e2
    cases hd2
    have hl := hd.length
    match xs, hl with
    | [u], _ =>
      have hp2 := s2.kp p _ hp np nofun
      refine .inr (.inl ⟨p, k, [u], rfl, rfl, hp2, by omega, by omega, by rw [sizeLine_eq]; simp; omega, fun l hl => ?_⟩)
      rw [Int.toNat_natCast, flat_rep]
      have nl : ¬ O l := (g2.wd.fresh hl).1
      have hl0 : H l = none := s1.was (s2.was hl nl) nl
      have hd3 : DqAll H2 O (fun a => Z a ∨ a = p) (List.replicate k u) (List.replicate k b) := by
        have h3 : DqAll H1 O (fun a => Z a ∨ a = p) [u] [b] := hd.less fun a q => by
          rcases q with q | q | q
          · exact .inl (.inl q)
          · exact .inr q
          · exact .inl (.inr q)
        have := (h3.mv s2).rep k
        rwa [flat_rep, flat_rep] at this
      have s12 : Stp O (more O p) H H2 := s1.trans ⟨s2.tp, fun a o e n t => s2.kp a o e (fun z => n (.inl z)) t, fun a e n => s2.al a e fun z => n (.inl z), fun a w => .inl w, s2.tb⟩
      refine q l _ _ _ rfl nl hl0 (sg_lz (g2.more (Ext.new hl) hl (by rw [upd_same]; exact fun z => nomatch z)) fun a z => .inl z) ⟨fun a u e t => ?_, fun a o e n t => ?_, fun a e n => ?_, fun a w => w.elim .inl fun z => .inr (by rw [z]; exact hl0), fun t p hp => tab_new hl (s12.tb t p hp)⟩ upd_same ((hd3.mv (stp_more hl)).less fun a w => w.elim .inl fun z => .inr (.inl z))
      · rw [upd_ne (fun z => by rw [z, hl0] at e; cases e)]
        exact s12.tp a u e t
      · rw [upd_ne (fun z => by rw [z, hl0] at e; cases e)]
        exact s12.kp a o e n t
      · rw [upd_ne (fun z => e (by rw [z, hl0]))]
        exact s12.al a e n
/-! ### slices -/
theorem cut_to {k : Nat} : Lg.cutD ds none (some (k : Int)) = ds.take k := by
  unfold Lg.cutD
  rw [HT.sIx_none, HT.sIx_nat, List.drop_zero, Nat.sub_zero]
  rcases Nat.le_total k ds.length with h | h
  · rw [Nat.min_eq_left h]
  · rw [Nat.min_eq_right h, List.take_of_length_le (Nat.le_refl _), List.take_of_length_le h]
theorem cut_from {k : Nat} : Lg.cutD ds (some (k : Int)) none = ds.drop k := by
  unfold Lg.cutD
  rw [HT.sIx_none, HT.sIx_nat]
  rw [List.take_of_length_le (by rw [List.length_drop]; exact Nat.le_refl _)]
  rcases Nat.le_total k ds.length with h | h
  · rw [Nat.min_eq_left h]
  · rw [Nat.min_eq_right h, List.drop_of_length_le (Nat.le_refl _), List.drop_of_length_le h]
theorem ev_slTo {k : Nat} (h : EvD ss te a) (h' : EvD ss tf (dN k)) (hi : a.items = some ds) : EvD ss (tSl (rSl K) te tNoPart (tPart tf)) (.tup (ds.take k)) := (ev_sl h eo_none (eo_some h') hi).to (by rw [cut_to])
theorem ev_slFrom {k : Nat} (h : EvD ss te a) (h' : EvD ss tf (dN k)) (hi : a.items = some ds) : EvD ss (tSl (rSl K) te (tPart tf) tNoPart) (.tup (ds.drop k)) := (ev_sl h (eo_some h') eo_none hi).to (by rw [cut_from])
end
end
end FK
end
section
set_option Elab.async false
set_option linter.all false
set_option maxRecDepth 100000
/-! What the defs of houses and words do, over data. -/
namespace FK
open PySem PySem.Spec PyProof.Rows L2 Lg Lr RZ FM
variable [tbs : Tbs]
section
variable {K : PySem.W.Frag}
/-! ### the defs -/
theorem rw_succ {rooms : List Nat} {i : Nat} : rw' rooms (i + 1) = rw' rooms i + rm rooms (i + 1) := rfl
/-- the rooms ahead of floor i -/
def rwB (rooms : List Nat) : Nat → Nat
  | 0 => 0
  | i + 1 => rw' rooms i
theorem rwB_succ {rooms : List Nat} {i : Nat} : rwB rooms (i + 1) = rwB rooms i + rm rooms i := by cases i <;> simp [rwB, rw']
def A_rooms_within (x : Nat × List Nat) : List D := [houseD x.1 x.2]
def sp_rooms_within : Sp := spP A_rooms_within (fun x => x.2.length ≤ 3) (fun x d => d = tI (upto x.2.length fun j => (rw' x.2 j : Int)))
theorem c_rooms_within (vs H Q E) (p : sp_rooms_within vs H Q E) : t_rooms_within K (fin Q) (L2.start N_rooms_within vs) H := by
  refine body_P (fun x hx => ⟨by show 1 ≤ 4; decide, ?_⟩) p
  obtain ⟨n, rooms⟩ := x
  simp only at hx
  refine ht_seq (N1 := fun s => s = [.im (houseD n rooms), .own [], .im (.int 0), .un]) (ht_par (em_own en_nil (em_imD ev_int em_nil)) ?_) ?_
  · rintro x ⟨ds, r, rfl, rfl, rfl⟩
    exact ⟨_, _, rfl, rfl⟩
  rintro ss1 rfl
  refine ht_seq (N1 := fun s => ∃ u, s = [.im (houseD n rooms), .own (upto rooms.length fun j => .int (rw' rooms j)), .im (.int (rwB rooms rooms.length)), u]) (ht_for (n := rooms.length) (el := dAt (rooms.map dN)) ?_ (fun i s => ∃ u, s = [.im (houseD n rooms), .own (upto i fun j => .int (rw' rooms j)), .im (.int (rwB rooms i)), u]) ⟨.un, rfl⟩ ?_ fun ss1 h => h) ?_
  · have := src_tup (K := K) (te := tOp (rIx K) (tVar 0) (tC (.int 1))) (ss := [.im (houseD n rooms), .own [], .im (.int 0), .un]) (ev_ix (ev_var rfl) ev_int rfl rfl) (a := tN rooms) rfl
    rw [List.length_map] at this
    exact this.inr
  · rintro i ss1 hi ⟨u, rfl⟩
    refine ⟨_, _, tgt_name, ?_⟩
    rw [dAt_N hi]
    refine ht_seq (N1 := fun s => ∃ u, s = [.im (houseD n rooms), .own (upto i fun j => .int (rw' rooms j)), .im (.int (rwB rooms (i + 1))), u]) (ht_aug (m := (rwB rooms i : Int)) (n := ((rooms.getD i 0 : Nat) : Int)) rfl (ev_var rfl) ⟨.im (dN (rooms.getD i 0)), ?_⟩) ?_
    · rw [rwB_succ]; rfl
    rintro ss2 ⟨u, rfl⟩
    refine ht_append rfl (ev_var rfl) (by simp; omega) ?_
    rintro d rfl
    exact ⟨u, by rw [upto_succ]; rfl⟩
  rintro ss1 ⟨u, rfl⟩
  exact ht_retD (ev_tA (ev_own rfl)) (by simp)
/-- those within -/
theorem filter_enum {st : List Nat} {F j : Nat} : ((List.range st.length).filter fun i => decide ((st.getD i 0) ≤ j)) = (List.range st.length).filter fun i => decide (gof F st i ≤ j) := by
  apply List.filter_congr
  intro x hx
  have h := List.mem_range.mp hx
  unfold gof
  rw [List.getD_eq_getElem?_getD, List.getD_eq_getElem?_getD, List.getElem?_eq_getElem h]; rfl
def A_things_within (x : Nat × List Nat × List Nat × Nat) : List D := [houseD x.1 x.2.1, tN x.2.2.1, dN x.2.2.2]
abbrev inV (st : List Nat) (j : Nat) : List Nat := (List.range st.length).filter fun i => decide ((st.getD i 0) ≤ j)
def sp_things_within : Sp := spP A_things_within (fun x => x.2.2.1.length ≤ 5) (fun x d => d = tN (inV x.2.2.1 x.2.2.2))
theorem c_things_within (vs H Q E) (p : sp_things_within vs H Q E) : t_things_within K (fin Q) (L2.start N_things_within vs) H := by
  refine body_P (fun x hx => ⟨by show 3 ≤ 5; decide, ?_⟩) p
  obtain ⟨n, rooms, st, j⟩ := x
  simp only at hx
  refine ht_retD (ev_tA (en_lc (n := st.length) (el := elE (st.map dN)) (f := fun i => dN i) (keep := fun i => decide ((st.getD i 0) ≤ j)) ?_ (by omega) rfl ?_).v) rfl
  · have := src_enT (K := K) (ss := [.im (houseD n rooms), .im (tN st), .im (dN j), .un, .un]) (ea1 (ev_var (i := 1) rfl)) (a := tN st) rfl
    rw [List.length_map] at this
    exact this.inr.c
  · intro i hi
    refine ⟨_, _, tgt_2 rfl, by decide, rfl, ?_, fun _ => ev_var rfl⟩
    rw [dAt_N hi]
    have := eb_d (ev_le (ss := [.im (houseD n rooms), .im (tN st), .im (dN j), .im (.int (i : Int)), .im (dN (st.getD i 0))]) (ev_var (i := 4) rfl) (ev_var (i := 2) rfl))
    exact this.mono fun x hx => by rw [hx]; simp
def A_sizes_of (x : Nat × List Nat × List Nat) : List D := [houseD x.1 x.2.1, tN x.2.2]
theorem in_cnt {st : List Nat} {F j : Nat} : (inV st j).length = FM.cnt (gof F st) (List.range st.length) j st.length := by
  unfold inV FM.cnt
  rw [filter_enum (F := F), List.countP_eq_length_filter, List.take_of_length_le (by simp)]
def sp_sizes_of : Sp := spP A_sizes_of (fun x => x.2.1.length ≤ 3 ∧ x.2.2.length ≤ 5) (fun x d => d = tI (upto x.2.1.length (szs x.2.1.length x.2.2)))
theorem c_sizes_of (vs H Q E) (p : sp_sizes_of vs H Q E) : t_sizes_of K sp_things_within (fin Q) (L2.start N_sizes_of vs) H := by
  refine body_P (fun x hx => ⟨by show 2 ≤ 3; decide, ?_⟩) p
  obtain ⟨n, rooms, st⟩ := x
  simp only at hx
  refine ht_retD (ev_tA (en_lcA (n := rooms.length) (el := fun i => .int (i : Int)) (f := fun i => .int (szs rooms.length st i)) (src_r1 (ea1 ?_) (by omega)).c (by omega) rfl ?_).v) (by simp)
  · have := ev_len (K := K) (ss := [.im (houseD n rooms), .im (tN st), .un]) (te := tOp (rIx K) (tVar 0) (tC (.int 1))) (a := tN rooms) (ev_ix (ev_var rfl) ev_int rfl rfl) rfl
    rw [List.length_map] at this
    exact this
  · intro i hi
    refine ⟨_, _, tgt_name, by decide, rfl, ?_⟩
    have := ev_lenP (K := K) (P := fun d => d = .int (szs rooms.length st i)) (ev_call (E := E0) (A := A_things_within) (Pre := fun x => x.2.2.1.length ≤ 5) (Post := fun x d => d = tN (inV x.2.2.1 x.2.2.2)) (n, rooms, st, i) (ea3 (ss := [.im (houseD n rooms), .im (tN st), .im (.int (i : Int))]) (ev_var (i := 0) rfl) (ev_var (i := 1) rfl) (ev_var (i := 2) rfl)) hx.2) (by
      rintro d rfl
      refine ⟨_, rfl, ?_⟩
      rw [List.length_map, in_cnt (F := rooms.length)]; rfl)
    exact this
/-! ### words -/
abbrev wI (m : Nat) (W : Nat → Int) : D := tI (upto (m + 1) W)
abbrev wsD (F m : Nat) (V : Fam) : D := .tup (upto F fun j => wI m (V j))
def A_known_sizes (x : Nat × Nat × Fam × D) : List D := [.tup [x.2.2.2, wsD x.1 x.2.1 x.2.2.1]]
def sp_known_sizes : Sp := spP A_known_sizes (fun x => x.1 ≤ 3) (fun x d => d = tI (upto x.1 fun j => x.2.2.1 j x.2.1))
theorem c_known_sizes (vs H Q E) (p : sp_known_sizes vs H Q E) : t_known_sizes K (fin Q) (L2.start N_known_sizes vs) H := by
  refine body_P (fun x hx => ⟨by show 1 ≤ 2; decide, ?_⟩) p
  obtain ⟨F, m, V, o⟩ := x
  simp only at hx
  refine ht_retD (ev_tA (en_lcA (n := F) (el := fun j => wI m (V j)) (f := fun j => .int (V j m)) ?_ (by omega) rfl ?_).v) (by simp)
  · have := src_tup (K := K) (ss := [.im (.tup [o, wsD F m V]), .un]) (te := tOp (rIx K) (tVar 0) (tC (.int 1))) (a := wsD F m V) (ev_ix (ev_var rfl) ev_int rfl rfl) rfl
    rw [upto_len] at this
    exact (Src.inr (src_el this fun i hi => dAt_upto hi)).c
  · intro i hi
    refine ⟨_, _, tgt_name, by decide, rfl, ev_ix (ev_var rfl) ev_n1 rfl ?_⟩
    rw [map_upto]
    exact atI_last upto_last
theorem all_upto {n : Nat} {f : Nat → Bool} : (upto n f).all id = true ↔ ∀ i, i < n → f i = true := by
  simp [List.all_eq_true]
def A_are_sizes (x : Nat × Nat × (Nat → Int)) : List D := [tI (upto x.1 x.2.2), dN x.2.1]
open Classical in
def sp_are_sizes : Sp := spP A_are_sizes (fun x => 0 < x.1 ∧ x.1 ≤ 3) (fun x d => d = .bl (decide (SizesOk x.1 x.2.1 x.2.2)))
open Classical in
theorem c_are_sizes (vs H Q E) (p : sp_are_sizes vs H Q E) : t_are_sizes K (fin Q) (L2.start N_are_sizes vs) H := by
  refine body_P (fun x hx => ⟨by show 2 ≤ 4; decide, ?_⟩) p
  obtain ⟨F, m, s⟩ := x
  simp only at hx
  obtain ⟨F', rfl⟩ : ∃ F', F = F' + 1 := ⟨F - 1, by omega⟩
  have v0 : EvD [.im (tI (upto (F' + 1) s)), .im (dN m), .un, .un] (tOp (rIx K) (tVar 0) (tC (.int 0))) (.int (s 0)) := ev_ix (ev_var rfl) ev_int rfl (by rw [map_upto]; exact atI_nat (upto_get (n := F' + 1) (i := 0) (Nat.succ_pos _)))
  have vl : EvD [.im (tI (upto (F' + 1) s)), .im (dN m), .un, .un] (tOp (rIx K) (tVar 0) (tUn (rU fun i => .int (-i)) (tC (.int 1)))) (.int (s F')) := ev_ix (ev_var rfl) ev_n1 rfl (by rw [map_upto]; exact atI_last upto_last)
  refine ht_seq (N1 := fun ss => ss = [.im (tI (upto (F' + 1) s)), .im (dN m), .un, .un] ∧ 0 ≤ s 0 ∧ s F' ≤ m) (ht_if (eb_or2 (eb_d (ev_lt v0 ev_int)) fun _ => eb_d (ev_gt vl (ev_var rfl))) (fun c => ?_) fun c => ?_) ?_
  · refine ht_retD ev_bl ?_
    have : ¬ SizesOk (F' + 1) m s := fun h => by
      have h1 := h.1
      have h2 := h.2.1
      rw [Nat.add_sub_cancel] at h2
      simp at c
      omega
    simp [this]
  · refine ht_next ⟨rfl, ?_⟩
    simp at c
    omega
  · rintro ss1 ⟨rfl, h1, h2⟩
    refine ht_retD (ev_all (bs := upto F' fun i => decide (s i ≤ s (i + 1))) ((en_lcA (n := F') (el := elZ ((upto (F' + 1) s).map .int) (((upto (F' + 1) s).map D.int).drop 1)) (f := fun i => .bl (decide (s i ≤ s (i + 1)))) ?_ (by omega) rfl ?_).mono fun x hx => by rw [hx, map_upto])) ?_
    · exact (Src.inl (src_zTT (ea2 (ev_var rfl) (ev_slFrom (k := 1) (ev_var rfl) ev_int rfl)) rfl rfl (by simp))).c
    · intro i hi
      refine ⟨_, _, tgt_2 rfl, by decide, rfl, ?_⟩
      rw [map_upto, dAt_upto (by omega), show dAt (List.drop 1 (upto (F' + 1) fun i => D.int (s i))) i = D.int (s (i + 1)) from dAt_of (by rw [List.getElem?_drop, Nat.add_comm 1 i, upto_get (by omega)])]
      exact ev_le (ev_var rfl) (ev_var rfl)
    · show D.bl _ = D.bl _
      congr 1
      rw [Bool.eq_iff_iff, all_upto]
      simp only [decide_eq_true_eq]
      refine ⟨fun h => ⟨h1, by rw [Nat.add_sub_cancel]; exact h2, fun j hj => h j (by omega)⟩, fun h i hi => h.2.2 i (by omega)⟩
def A_lost_one (x : Nat × (Nat → Int)) : List D := [wI x.1 x.2]
def sp_lost_one : Sp := spP A_lost_one (fun x => x.1 ≤ 10) (fun x d => d = wI x.1 fun p => max 0 (x.2 p - 1))
theorem c_lost_one (vs H Q E) (p : sp_lost_one vs H Q E) : t_lost_one K (fin Q) (L2.start N_lost_one vs) H := by
  refine body_P (fun x hx => ⟨by show 1 ≤ 2; decide, ?_⟩) p
  obtain ⟨m, W⟩ := x
  simp only at hx
  refine ht_retD (ev_tA (en_lcA (n := m + 1) (el := fun j => .int (W j)) (f := fun j => .int (max 0 (W j - 1))) ?_ (by omega) rfl ?_).v) (by simp)
  · have := src_tup (K := K) (ss := [.im (wI m W), .un]) (te := tVar 0) (a := wI m W) (ev_var rfl) rfl
    rw [List.length_map, upto_len] at this
    exact (Src.inr (src_el this fun i hi => by rw [map_upto]; exact dAt_upto hi)).c
  · intro i hi
    exact ⟨_, _, tgt_name, by decide, rfl, ev_max2 ev_int (ev_sub (ev_var rfl) ev_int)⟩
def st0 (W : Nat → Int) (z : Int) (m : Nat) : Nat → Int
  | 0 => 0
  | i + 1 => stA W z m i
theorem st0_succ {W : Nat → Int} {z : Int} {m i : Nat} : st0 W z m (i + 1) = max (max (st0 W z m i) (W i)) (z - m + (i : Int)) := by
  cases i <;> rfl
def A_stepped (x : Nat × (Nat → Int) × Int) : List D := [wI x.1 x.2.1, .int x.2.2]
def sp_stepped : Sp := spP A_stepped (fun x => x.1 ≤ 10) (fun x d => d = .lst (upto (x.1 + 1) fun p => .int (stB x.2.1 x.2.2 x.1 p)))
theorem c_stepped (vs H Q E) (p : sp_stepped vs H Q E) : t_stepped K (fin Q) (L2.start N_stepped vs) H := by
  refine body_P (fun x hx => ⟨by show 2 ≤ 6; decide, ?_⟩) p
  obtain ⟨m, W, z⟩ := x
  simp only at hx
  refine ht_seq (N1 := fun s => s = [.im (wI m W), .im (.int z), .im (dN m), .own [.int 0], .un, .un]) (ht_par2 (em_io (EvD.to (ev_sub (ev_len (a := wI m W) (ev_var rfl) rfl) ev_int) ?_) (en_d (ea1 ev_int) one_le)) rfl) ?_
  · rw [List.length_map, upto_len]; show D.int _ = D.int _; congr 1; omega
  rintro ss1 rfl
  refine ht_seq (N1 := fun s => ∃ u v, s = [.im (wI m W), .im (.int z), .im (dN m), .own (upto (m + 2) fun p => .int (st0 W z m p)), u, v]) (ht_for (n := m + 1) (el := fun i => .rtup [.int (i : Int), .int (W i)]) ?_ (fun i s => ∃ u v, s = [.im (wI m W), .im (.int z), .im (dN m), .own (upto (i + 1) fun p => .int (st0 W z m p)), u, v]) ⟨.un, .un, rfl⟩ ?_ fun ss1 h => h) ?_
  · have := src_enT (K := K) (ss := [.im (wI m W), .im (.int z), .im (dN m), .own [.int 0], .un, .un]) (ea1 (ev_var (i := 0) rfl)) (a := wI m W) rfl
    rw [List.length_map, upto_len] at this
    exact Src.inr (src_el this fun i hi => by show D.rtup _ = _; rw [map_upto, dAt_upto hi])
  · rintro i ss1 hi ⟨u, v, rfl⟩
    refine ⟨_, _, tgt_2 rfl, ht_app rfl (ev_max3 (ev_ixOwn rfl ev_n1 (atI_last upto_last)) (ev_var rfl) (ev_add (m := z - (m : Int)) (n := (i : Int)) (ev_sub (m := z) (n := (m : Int)) (ev_var rfl) (ev_var rfl)) (ev_var rfl))) (by rw [upto_len]; omega) ⟨.im (.int i), .im (.int (W i)), ?_⟩⟩
    rw [upto_succ (n := i + 1), st0_succ]; rfl
  rintro ss1 ⟨u, v, rfl⟩
  refine ht_seq (N1 := fun s => s = [.im (wI m W), .im (.int z), .im (dN m), .own (upto (m + 1) fun p => .int (stA W z m p)), u, v]) (ht_asgNL (en_slOwn rfl (eo_some ev_int) eo_none) ?_) ?_
  · have e : Lg.cutD (upto (m + 2) fun p => D.int (st0 W z m p)) (some 1) none = upto (m + 1) fun p => .int (stA W z m p) := by
      have := cut_from (ds := upto (m + 2) fun p => D.int (st0 W z m p)) (k := 1)
      rw [show ((1 : Nat) : Int) = 1 from rfl] at this
      rw [this]
      unfold upto
      rw [show m + 2 = (m + 1) + 1 from rfl, List.range_succ_eq_map, List.map_cons, List.drop_one, List.tail_cons, List.map_map]; rfl
    rw [e]; rfl
  rintro ss1 rfl
  refine ht_seq (N1 := fun s => ∃ u, s = [.im (wI m W), .im (.int z), .im (dN m), .own (upto (m + 1) fun p => .int (stB W z m p)), u, v]) (ht_for (n := m) (el := fun i => .int ((m : Int) - 1 - (i : Int))) (src_r3 (ea3 (ev_sub (m := (m : Int)) (n := 1) (ev_var rfl) ev_int) ev_n1 ev_n1) (by omega))
    (fun i s => ∃ u, s = [.im (wI m W), .im (.int z), .im (dN m), .own (upto (m + 1) fun p => .int (if m ≤ p + i then stB W z m p else stA W z m p)), u, v]) ⟨u, ?_⟩ ?_ ?_) ?_
  · congr 4
    refine own_up fun p hp => ?_
    by_cases h : m ≤ p
    · obtain rfl : p = m := by omega
      rw [if_pos (by omega), stB_last]
    · rw [if_neg (by omega)]
  · rintro i ss1 hi ⟨u, rfl⟩
    obtain ⟨p, hp⟩ : ∃ p, p + i + 1 = m := ⟨m - 1 - i, by omega⟩
    have ep : (m : Int) - 1 - (i : Int) = (p : Int) := by omega
    rw [ep]
    have g1 : atI (upto (m + 1) fun q => D.int (if m ≤ q + i then stB W z m q else stA W z m q)) (p : Int) = some (.int (stA W z m p)) := by
      rw [atI_nat (upto_get (by omega)), if_neg (by omega)]
    have g2 : atI (upto (m + 1) fun q => D.int (if m ≤ q + i then stB W z m q else stA W z m q)) ((p : Int) + 1) = some (.int (stB W z m (p + 1))) := by
      rw [show (p : Int) + 1 = ((p + 1 : Nat) : Int) from rfl, atI_nat (upto_get (by omega)), if_pos (by omega)]
    refine ⟨_, _, tgt_name, ht_asgG (ev_max2 (ev_ixOwn rfl (ev_var rfl) g1) (ev_sub (ev_ixOwn rfl (ev_add (m := (p : Int)) (n := 1) (ev_var rfl) ev_int) g2) ev_int)) (tgt_item rfl (ev_var rfl) (ixN_of (by rw [upto_len]; omega))) ⟨.im (.int p), ?_⟩⟩
    rw [← stB_eq (by omega), upto_set]
    show [_, _, _, Sl.own _, _, _] = [_, _, _, Sl.own _, _, _]
    congr 4
    refine own_up fun q hq => ?_
    by_cases e : q = p
    · rw [if_pos e, if_pos (by omega), e]
    · rw [if_neg e]
      by_cases c : m ≤ q + i
      · rw [if_pos c, if_pos (by omega)]
      · rw [if_neg c, if_neg (by omega)]
  · rintro ss1 ⟨u, rfl⟩
    refine ⟨u, ?_⟩
    congr 4
    exact own_up fun q hq => by rw [if_pos (by omega)]
  · rintro ss1 ⟨u, rfl⟩
    exact ht_freeze (i := 3) rfl (ht_retD (ev_var rfl) rfl)
theorem upto_getI {α : Type} {n i : Nat} {f : Nat → α} : (upto n f)[i]? = if i < n then some (f i) else none := by
  by_cases h : i < n
  · rw [if_pos h, upto_get h]
  · rw [if_neg h, List.getElem?_eq_none (by rw [upto_len]; omega)]
theorem cut_one {α : Type} {m e : Nat} {f : Nat → α} (he : e ≤ m) : (upto (m + 1) f).take e ++ (upto (m + 1) f).drop (e + 1) = upto m fun d => if d < e then f d else f (d + 1) := by
  apply List.ext_getElem?
  intro d
  rw [List.getElem?_append, List.length_take, upto_len, Nat.min_eq_left (by omega), List.getElem?_take, List.getElem?_drop, upto_getI, upto_getI, upto_getI]
  by_cases h : d < e
  · rw [if_pos h, if_pos h, if_pos (by omega), if_pos (by omega), if_pos h]
  · rw [if_neg h, if_neg h]
    by_cases h2 : d < m
    · rw [if_pos (by omega), if_pos h2]; congr 2; omega
    · rw [if_neg (by omega), if_neg h2]
def outW (W : Nat → Int) (e : Nat) (b : Bool) : Nat → Int := fun d => if b = true then (if d ≤ e then W d else W (d + 1) - 1) else (if d < e then W d else W (d + 1))
def A_taken_out (x : Nat × (Nat → Int) × Nat × Bool) : List D := [wI (x.1 + 1) x.2.1, dN x.2.2.1, .bl x.2.2.2]
def sp_taken_out : Sp := spP A_taken_out (fun x => x.1 ≤ 10 ∧ x.2.2.1 ≤ x.1) (fun x d => d = wI x.1 (outW x.2.1 x.2.2.1 x.2.2.2))
theorem c_taken_out (vs H Q E) (p : sp_taken_out vs H Q E) : t_taken_out K (fin Q) (L2.start N_taken_out vs) H := by
  refine body_P (fun x hx => ⟨by show 3 ≤ 4; decide, ?_⟩) p
  obtain ⟨m, W, e, b⟩ := x
  simp only at hx
  have hv : EvD [.im (wI (m + 1) W), .im (dN e), .im (.bl b), .un] (tVar 0) (.tup (upto (m + 2) fun d => .int (W d))) := (ev_var rfl).to (by simp)
  refine ht_seq (N1 := fun s => s = [.im (wI (m + 1) W), .im (dN e), .im (.bl b), .un] ∧ b = true) (ht_if (eb_not (eb_v (ev_var rfl))) (fun c => ?_) fun c => ht_next ⟨rfl, by cases b <;> first | rfl | cases c⟩) ?_
  · obtain rfl : b = false := by cases b <;> first | rfl | cases c
    refine ht_retD (ev_tB (ea_star (ev_slTo hv (ev_var rfl) rfl) rfl (ea_star (ev_slFrom (k := e + 1) hv (ev_add (m := (e : Int)) (n := 1) (ev_var rfl) ev_int) rfl) rfl ea_nil)) ?_) ?_
    · show (List.take e _ ++ (List.drop (e + 1) _ ++ [])).length ≤ _
      rw [List.append_nil, cut_one (m := m + 1) (e := e) (by omega), upto_len]; omega
    · show D.tup (List.take e _ ++ (List.drop (e + 1) _ ++ [])) = wI m (outW W e false)
      rw [List.append_nil, cut_one (m := m + 1) (e := e) (by omega)]
      show D.tup _ = D.tup _
      rw [map_upto]
      refine congrArg _ (upto_congr fun d hd => ?_)
      show _ = D.int (if d < e then W d else W (d + 1))
      by_cases h : d < e
      · rw [if_pos h, if_pos h]
      · rw [if_neg h, if_neg h]
  · rintro ss1 ⟨rfl, rfl⟩
    have he1 : EvD [.im (wI (m + 1) W), .im (dN e), .im (.bl true), .un] (tOp (rPlus K) (tVar 1) (tC (.int 1))) (dN (e + 1)) := ev_add (m := (e : Int)) (n := 1) (ev_var (i := 1) rfl) ev_int
    refine ht_retD (ev_tB (ea_star (ev_slTo (k := e + 1) hv he1 rfl) rfl (ea_starL (ds := upto (m - e) fun i => .int (W (e + 2 + i) - 1)) ?_ ea_nil)) ?_) ?_
    · refine EvN.dat (en_lcA (n := m - e) (el := fun i => .int (W (e + 2 + i))) (f := fun i => .int (W (e + 2 + i) - 1)) ?_ (by omega) rfl fun i hi => ⟨_, _, tgt_name, by decide, rfl, ev_sub (ev_var rfl) ev_int⟩)
      have h := src_tup (K := K) (ev_slFrom (K := K) (k := e + 2) hv (ev_add (K := K) (m := (e : Int)) (n := 2) (ev_var (i := 1) rfl) ev_int) rfl) rfl
      have hl : (List.drop (e + 2) (upto (m + 2) fun d => D.int (W d))).length = m - e := by rw [List.length_drop, upto_len]; omega
      rw [hl] at h
      exact (Src.inr (src_el h fun i hi => dAt_of (by rw [List.getElem?_drop, upto_get (by omega)]))).c
    · simp; omega
    · show D.tup (List.take (e + 1) _ ++ _) = wI m (outW W e true)
      show D.tup _ = D.tup _
      rw [map_upto]
      refine congrArg _ (List.ext_getElem? fun d => ?_)
      rw [List.append_nil, List.getElem?_append, List.length_take, upto_len, List.getElem?_take, upto_getI, upto_getI, upto_getI, Nat.min_eq_left (by omega)]
      show _ = if d < m + 1 then some (D.int (if true = true then (if d ≤ e then W d else W (d + 1) - 1) else _)) else none
      rw [if_pos (rfl : true = true)]
      by_cases h : d < e + 1
      · rw [if_pos h, if_pos h, if_pos (by omega), if_pos (by omega), if_pos (by omega)]
      · rw [if_neg h]
        by_cases h2 : d < m + 1
        · rw [if_pos (by omega), if_pos h2, if_neg (by omega)]; congr 3; congr 1; omega
        · rw [if_neg (by omega), if_neg h2]
end
end FK
end
section
set_option Elab.async false
set_option linter.all false
set_option maxRecDepth 100000
/-! tightened, amid, over data. -/
namespace FK
open PySem PySem.Spec PyProof.Rows L2 Lg Lr RZ FM
variable [tbs : Tbs]
section
variable {K : PySem.W.Frag}
abbrev wL (m : Nat) (W : Nat → Int) : D := .lst (upto (m + 1) fun p => .int (W p))
abbrev stF (R : Fam) (s : Nat → Int) (m : Nat) : Fam := fun j p => stB (R j) (s j) m p
def A_tightened (x : Nat × Nat × Fam × (Nat → Int)) : List D := [.lst (upto x.1 fun j => wI x.2.1 (x.2.2.1 j)), tI (upto x.1 x.2.2.2)]
open Classical in
noncomputable def tightD (F m : Nat) (R : Fam) (s : Nat → Int) : D := if SizesOk F m s ∧ RawOk R s F m then wsD F m (raw R s F m) else .non
def sp_tightened : Sp := spP A_tightened (fun x => 0 < x.1 ∧ x.1 ≤ 3 ∧ x.2.1 ≤ 10) (fun x d => d = tightD x.1 x.2.1 x.2.2.1 x.2.2.2)
/-- one word by two, in a comprehension over their places -/
theorem dAt_wL {m : Nat} {W : Nat → Int} {d : Nat} (h : d < m + 1) : dAt (upto (m + 1) fun p => D.int (W p)) d = .int (W d) := dAt_upto h
theorem if_down {j k : Nat} {α : Type} {x y : α} (h : j ≤ k) : (if j ≤ k then x else y) = x := if_pos h
open Classical in
theorem c_tightened (vs H Q E) (p : sp_tightened vs H Q E) : t_tightened K sp_are_sizes sp_stepped (fin Q) (L2.start N_tightened vs) H := by
  refine body_P (fun x hx => ⟨by show 2 ≤ 12; decide, ?_⟩) p
  obtain ⟨F, m, R, s⟩ := x
  simp only at hx
  obtain ⟨h0, h3, hm⟩ := hx
  show HT _ _ _ (fun d => d = tightD F m R s) _ _
  let rD : D := .lst (upto F fun j => wI m (R j))
  let sD : D := tI (upto F s)
  have hs : ∀ {ss : List Sl} {te : TE} {k : Nat}, ss[1]? = some (.im sD) → k < F → EvD ss te (dN k) → EvD ss (tOp (rIx K) (tVar 1) te) (.int (s k)) := fun h hk hk' => ev_ix (ev_var h) hk' rfl (by rw [map_upto]; exact atI_nat (upto_get hk))
  -- are they sizes?
  refine ht_seq (N1 := fun ss => ss = [.im rD, .im sD, .un, .un, .un, .un, .un, .un, .un, .un, .un, .un] ∧ SizesOk F m s) (ht_if (eb_not (eb_v (ev_call (A := A_are_sizes) (F, m, s) (ea2 (ev_var rfl) (EvD.to (ev_sub (ev_len (a := wI m (R 0)) (ev_ixL (ev_var rfl) ev_int (atI_nat (upto_get h0))) rfl) ev_int) ?_)) ⟨h0, h3⟩))) (fun c => ht_retD ev_non ?_) fun c => ht_next ⟨rfl, ?_⟩) ?_
  · show D.int ((List.map _ (upto (m + 1) _)).length - 1) = dN m
    rw [List.length_map, upto_len]; show D.int _ = D.int _; congr 1; omega
  · have c' : ¬ SizesOk F m s := by simpa using c
    show _ = if _ then _ else _
    rw [if_neg fun h => c' h.1]
  · simpa using c
  rintro ss1 ⟨rfl, hso⟩
  -- stepped
  refine ht_seq (N1 := fun ss => ss = [.im rD, .im sD, .own (upto F fun j => wL m (stF R s m j)), .un, .un, .un, .un, .un, .un, .un, .un, .un]) (ht_asgNL (en_lcA (n := F) (el := fun j => .rtup [wI m (R j), .int (s j)]) (f := fun j => wL m (stF R s m j)) ?_ (by omega) rfl ?_) rfl) ?_
  · have h := src_zLT (K := K) (ss := [.im rD, .im sD, .un, .un, .un, .un, .un, .un, .un, .un, .un, .un]) (ea2 (ev_var (i := 0) rfl) (ev_var (i := 1) rfl)) (ds := upto F fun j => wI m (R j)) (b := sD) rfl (by simp)
    rw [upto_len] at h
    exact (Src.inr (src_el h fun i hi => by show D.rtup [_, _] = _; rw [dAt_upto hi, map_upto, dAt_upto hi])).c
  · intro i hi
    exact ⟨_, _, tgt_2 rfl, by decide, rfl, ev_call (A := A_stepped) (m, R i, s i) (ea2 (ev_var rfl) (ev_var rfl)) hm⟩
  rintro ss1 rfl
  -- up through the floors
  refine ht_seq (N1 := fun ss => ∃ u, ss = [.im rD, .im sD, .own (upto F fun j => wL m (flU (stF R s m) j)), u, .un, .un, .un, .un, .un, .un, .un, .un]) (ht_for (n := F - 1) (el := fun i => .int (1 + (i : Int))) (src_r2 (ea2 ev_int (ev_lenV (ev_own rfl))) (by rw [upto_len]; omega) (by omega) (by omega) (by omega) (by rw [upto_len]; omega))
    (fun i ss => ∃ u, ss = [.im rD, .im sD, .own (upto F fun j => wL m (if j ≤ i then flU (stF R s m) j else stF R s m j)), u, .un, .un, .un, .un, .un, .un, .un, .un]) ⟨.un, ?_⟩ ?_ ?_) ?_
  · congr 3
    refine own_up fun j hj => ?_
    by_cases c : j ≤ 0
    · obtain rfl : j = 0 := by omega
      rw [if_pos c]; rfl
    · rw [if_neg c]
  · rintro i ss1 hi ⟨u, rfl⟩
    refine ⟨_, _, tgt_name, ht_asgG (EvN.dat (en_lcA (n := m + 1) (el := fun d => .rtup [.int (flU (stF R s m) i d), .int (stF R s m (i + 1) d)]) (f := fun d => .int (flU (stF R s m) (i + 1) d)) ?_ (by omega) rfl ?_)) (tgt_item rfl (ev_var rfl) (ixN_of (k := i + 1) (by rw [upto_len]; omega) |> fun h => by rw [Int.add_comm]; exact h)) ⟨.im (.int (1 + (i : Int))), ?_⟩⟩
    · have h := src_zLL (K := K) (ss := [.im rD, .im sD, .own (upto F fun j => wL m (if j ≤ i then flU (stF R s m) j else stF R s m j)), .im (.int (1 + (i : Int))), .un, .un, .un, .un, .un, .un, .un, .un])
        (ta := tCons (tOp (rIx K) (tVar 2) (tOp (rI0 fun i j => .int (i - j)) (tVar 3) (tC (.int 1)))) (tCons (tOp (rIx K) (tVar 2) (tVar 3)) tNil)) (ds := upto (m + 1) fun d => .int (flU (stF R s m) i d)) (es := upto (m + 1) fun d => .int (stF R s m (i + 1) d))
        (ea2 (ev_ixOwn rfl (ev_sub (m := 1 + (i : Int)) (n := 1) (ev_var rfl) ev_int) ?_) (ev_ixOwn rfl (ev_var rfl) ?_)) (by rw [upto_len, upto_len])
      · rw [upto_len] at h
        exact (Src.inl (src_el h fun d hd => by show D.rtup [_, _] = _; rw [dAt_wL hd, dAt_wL hd])).c
      · rw [show 1 + (i : Int) - 1 = (i : Int) by omega, atI_nat (upto_get (by omega)), if_pos (Nat.le_refl _)]
      · rw [show 1 + (i : Int) = ((i + 1 : Nat) : Int) by omega, atI_nat (upto_get (by omega)), if_neg (by omega)]
    · intro d hd
      exact ⟨_, _, tgt_2 rfl, by decide, rfl, ev_max2 (ev_var rfl) (ev_var rfl)⟩
    · rw [upto_set]
      show [_, _, Sl.own _, _, _, _, _, _, _, _, _, _] = [_, _, Sl.own _, _, _, _, _, _, _, _, _, _]
      congr 3
      refine own_up fun j hj => ?_
      by_cases e : j = i + 1
      · rw [if_pos e, if_pos (by omega), e]
      · rw [if_neg e]
        by_cases c : j ≤ i
        · rw [if_pos c, if_pos (by omega)]
        · rw [if_neg c, if_neg (by omega)]
  · rintro ss1 ⟨u, rfl⟩
    refine ⟨u, ?_⟩
    congr 3
    exact own_up fun j hj => by rw [if_pos (by omega)]
  rintro ss1 ⟨u, rfl⟩
  -- and back
  refine ht_seq (N1 := fun ss => ∃ u v, ss = [.im rD, .im sD, .own (upto F fun j => wL m (raw R s F m j)), u, v, .un, .un, .un, .un, .un, .un, .un]) (ht_for (n := F - 1) (el := fun i => .int (((F - 1 : Nat) : Int) - 1 - (i : Int))) (src_r3 (ea3 (EvD.to (ev_sub (ev_lenV (ev_own rfl)) ev_int) (by rw [upto_len]; congr 1; omega)) ev_n1 ev_n1) (by omega))
    (fun i ss => ∃ u v, ss = [.im rD, .im sD, .own (upto F fun j => wL m (if F - 1 ≤ j + i then raw R s F m j else flU (stF R s m) j)), u, v, .un, .un, .un, .un, .un, .un, .un]) ⟨u, .un, ?_⟩ ?_ ?_) ?_
  · congr 3
    refine own_up fun j hj => ?_
    by_cases c : F - 1 ≤ j + 0
    · obtain rfl : j = F - 1 := by omega
      rw [if_pos c]
      congr 1
      funext d
      exact flW_last.symm
    · rw [if_neg c]
  · rintro i ss1 hi ⟨u, v, rfl⟩
    obtain ⟨j, hj⟩ : ∃ j, j + i + 1 = F - 1 := ⟨F - 1 - i - 1, by omega⟩
    have ej : ((F - 1 : Nat) : Int) - 1 - (i : Int) = (j : Int) := by omega
    rw [ej]
    have e1 : ∀ {ss : List Sl}, ss[3]? = some (.im (dN j)) → EvD ss (tOp (rPlus K) (tVar 3) (tC (.int 1))) (dN (j + 1)) := fun h => ev_add (m := (j : Int)) (n := 1) (ev_var h) ev_int
    refine ⟨_, _, tgt_name, ht_seq (N1 := fun ss => ss = [.im rD, .im sD, .own (upto F fun j => wL m (if F - 1 ≤ j + i then raw R s F m j else flU (stF R s m) j)), .im (dN j), .im (.int (s (j + 1) - s j)), .un, .un, .un, .un, .un, .un, .un]) (ht_asgD (ev_sub (hs rfl (by omega) (e1 rfl)) (hs rfl (by omega) (ev_var rfl))) rfl) ?_⟩
    rintro ss1 rfl
    refine ht_asgG (EvN.dat (en_lcA (n := m + 1) (el := fun d => .rtup [.int (flU (stF R s m) j d), .int (raw R s F m (j + 1) d)]) (f := fun d => .int (raw R s F m j d)) ?_ (by omega) rfl ?_)) (tgt_item rfl (ev_var rfl) (ixN_of (by rw [upto_len]; omega))) ⟨.im (dN j), .im (.int (s (j + 1) - s j)), ?_⟩
    · have h := src_zLL (K := K) (ss := [.im rD, .im sD, .own (upto F fun j => wL m (if F - 1 ≤ j + i then raw R s F m j else flU (stF R s m) j)), .im (dN j), .im (.int (s (j + 1) - s j)), .un, .un, .un, .un, .un, .un, .un])
        (ta := tCons (tOp (rIx K) (tVar 2) (tVar 3)) (tCons (tOp (rIx K) (tVar 2) (tOp (rPlus K) (tVar 3) (tC (.int 1)))) tNil)) (ds := upto (m + 1) fun d => .int (flU (stF R s m) j d)) (es := upto (m + 1) fun d => .int (raw R s F m (j + 1) d))
        (ea2 (ev_ixOwn rfl (ev_var rfl) ?_) (ev_ixOwn rfl (e1 rfl) ?_)) (by rw [upto_len, upto_len])
      · rw [upto_len] at h
        exact (Src.inl (src_el h fun d hd => by show D.rtup [_, _] = _; rw [dAt_wL hd, dAt_wL hd])).c
      · rw [atI_nat (upto_get (by omega)), if_neg (by omega)]
      · rw [atI_nat (upto_get (by omega)), if_pos (by omega)]
    · intro d hd
      refine ⟨_, _, tgt_2 rfl, by decide, rfl, EvD.to (ev_max2 (ev_var rfl) (ev_sub (ev_var rfl) (ev_var rfl))) ?_⟩
      show D.int (max (flU _ j d) (raw R s F m (j + 1) d - (s (j + 1) - s j))) = D.int (raw R s F m j d)
      congr 1
      exact (flW_eq (by omega)).symm
    · rw [upto_set]
      show [_, _, Sl.own _, _, _, _, _, _, _, _, _, _] = [_, _, Sl.own _, _, _, _, _, _, _, _, _, _]
      congr 3
      refine own_up fun k hk => ?_
      by_cases e : k = j
      · rw [if_pos e, if_pos (by omega), e]
      · rw [if_neg e]
        by_cases c : F - 1 ≤ k + i
        · rw [if_pos c, if_pos (by omega)]
        · rw [if_neg c, if_neg (by omega)]
  · rintro ss1 ⟨u, v, rfl⟩
    refine ⟨u, v, ?_⟩
    congr 3
    exact own_up fun j hj => by rw [if_pos (by omega)]
  rintro ss1 ⟨u, v, rfl⟩
  -- the last look
  let wD : D := .lst (upto F fun j => wL m (raw R s F m j))
  refine ht_freeze (i := 2) rfl (ht_seq (N1 := fun ss => (∃ a b, ss = [.im rD, .im sD, .im wD, u, v, a, b, .un, .un, .un, .un, .un]) ∧ RawOk R s F m) (ht_for (n := F) (el := fun j => .rtup [wL m (raw R s F m j), .int (s j)]) ?_
    (fun i ss => (∃ a b, ss = [.im rD, .im sD, .im wD, u, v, a, b, .un, .un, .un, .un, .un]) ∧ ∀ j d, j < i → d ≤ m → raw R s F m j d ≤ d ∧ raw R s F m j d ≤ s j) ⟨⟨.un, .un, rfl⟩, fun j d h => absurd h (Nat.not_lt_zero _)⟩ ?_ (fun ss1 h => h)) ?_)
  · have h := src_zLT (K := K) (ss := [.im rD, .im sD, .im wD, u, v, .un, .un, .un, .un, .un, .un, .un]) (ea2 (ev_var (i := 2) rfl) (ev_var (i := 1) rfl)) (ds := upto F fun j => wL m (raw R s F m j)) (b := sD) rfl (by simp)
    rw [upto_len] at h
    exact (Src.inr (src_el h fun i hi => by show D.rtup [_, _] = _; rw [dAt_upto hi, map_upto, dAt_upto hi]))
  · rintro i ss1 hi ⟨⟨a, b, rfl⟩, hp⟩
    refine ⟨_, _, tgt_2 rfl, ht_if (eb_v (ev_any (bs := upto (m + 1) fun d => decide (min (d : Int) (s i) < raw R s F m i d)) ((en_lcA (n := m + 1) (el := fun d => .rtup [.int (d : Int), .int (raw R s F m i d)]) (f := fun d => .bl (decide (min (d : Int) (s i) < raw R s F m i d))) ?_ (by omega) rfl ?_).mono fun x hx => by rw [hx, map_upto]))) (fun c => ht_retD ev_non ?_) fun c => ht_next ⟨⟨_, _, rfl⟩, ?_⟩⟩
    · have h := src_enL (K := K) (ss := [.im rD, .im sD, .im wD, u, v, .im (wL m (raw R s F m i)), .im (.int (s i)), .un, .un, .un, .un, .un]) (ea1 (ev_var (i := 5) rfl)) (ds := upto (m + 1) fun d => .int (raw R s F m i d))
      rw [upto_len] at h
      exact (Src.inl (src_el h fun d hd => by show D.rtup [_, _] = _; rw [dAt_wL hd])).c
    · intro d hd
      exact ⟨_, _, tgt_2 rfl, by decide, rfl, ev_gt (ev_var rfl) (ev_min2 (ev_var rfl) (ev_var rfl))⟩
    · show _ = if _ then _ else _
      rw [if_neg]
      rintro ⟨_, h⟩
      have c' := c.symm
      rw [List.any_eq_true] at c'
      obtain ⟨x, hx, hx2⟩ := c'
      obtain ⟨d, hd, rfl⟩ := List.mem_map.mp hx
      have hd' := List.mem_range.mp hd
      have := h i d hi (by omega)
      simp at hx2
      omega
    · intro j d hj hd
      by_cases e : j < i
      · exact hp j d e hd
      · obtain rfl : j = i := by omega
        have c' := c.symm
        rw [List.any_eq_false] at c'
        have := c' _ (List.mem_map.mpr ⟨d, List.mem_range.mpr (show d < m + 1 by omega), rfl⟩)
        simp at this
        omega
  rintro ss1 ⟨⟨a, b, rfl⟩, hr⟩
  refine ht_forget 5 (ht_retD (ev_tA (en_lcA (n := F) (el := fun j => wL m (raw R s F m j)) (f := fun j => wI m (raw R s F m j)) ?_ (by omega) rfl ?_).v) ?_)
  · have h := src_lst (K := K) (ss := [.im rD, .im sD, .im wD, u, v, .un, b, .un, .un, .un, .un, .un]) (te := tVar 2) (ds := upto F fun j => wL m (raw R s F m j)) (ev_var rfl)
    rw [upto_len] at h
    exact (Src.inl (src_el h fun i hi => dAt_upto hi)).c
  · intro i hi
    exact ⟨_, _, tgt_name, by decide, rfl, (ev_tA (EvD.v (ev_var rfl))).to (by show _ = D.tup _; rw [map_upto])⟩
  · show _ = if _ then _ else _
    rw [if_pos ⟨hso, hr⟩]
/-! ### amid -/
abbrev kD (F n : Nat) (o : List Nat) (V : Fam) : D := .tup [.ptup (o.map dN), wsD F n V]
abbrev entD (w : Str) (x i : Nat) : D := .tup [.str w, dN x, dN i]
structure EA where
  F : Nat
  o1 : List Nat
  x : Nat
  o2 : List Nat
  s : Nat → Int
  V : Fam
  w : Str
  i : Nat
structure EA.Ok (a : EA) : Prop where
  F0 : 0 < a.F
  F3 : a.F ≤ 3
  n5 : (a.o1 ++ a.o2).length ≤ 10
  nx : a.x ∉ a.o1
  sz : ∀ j, j < a.F → a.V j ((a.o1 ++ a.o2).length + 1) = a.s j
def A_amid (a : EA) : List D := [kD a.F ((a.o1 ++ a.o2).length + 1) (a.o1 ++ a.x :: a.o2) a.V, entD a.w a.x a.i]
noncomputable def amidD (a : EA) : D := .tup [.ptup ((a.o1 ++ a.o2).map dN), tightD a.F (a.o1 ++ a.o2).length (outR a.V a.o1.length a.i) (outS a.s a.i), tI (upto a.F (outS a.s a.i))]
def sp_amid : Sp := spP A_amid EA.Ok (fun a d => d = amidD a)
theorem outR_W {V : Fam} {e i j : Nat} : outR V e i j = outW (V j) e (decide ((i : Int) ≤ (j : Int))) := by
  funext d
  unfold outR outW
  by_cases h : i ≤ j <;> simp [h]
theorem mid_take {α β : Type} {f : α → β} {o1 o2 : List α} {x : α} : (((o1 ++ x :: o2).map f).take o1.length) ++ (((o1 ++ x :: o2).map f).drop (o1.length + 1)) = (o1 ++ o2).map f := by
  have h1 : o1.length + 1 - o1.length = 1 := by omega
  simp [List.take_append, List.drop_append, h1]
theorem c_amid (vs H Q E) (p : sp_amid vs H Q E) : t_amid K sp_taken_out sp_known_sizes sp_tightened (fin Q) (L2.start N_amid vs) H := by
  refine body_P (fun a ha => ⟨by show 2 ≤ 13; decide, ?_⟩) p
  obtain ⟨F, o1, x, o2, s, V, w, i⟩ := a
  obtain ⟨F0, F3, n5, nx, sz⟩ := ha
  simp only at F0 F3 n5 nx sz
  generalize hm : (o1 ++ o2).length = m at n5 sz
  have hm' : o1.length ≤ m := by rw [← hm, List.length_append]; omega
  show HT (ims [kD F ((o1 ++ o2).length + 1) (o1 ++ x :: o2) V, entD w x i] 13) _ _ (fun d => d = .tup [.ptup ((o1 ++ o2).map dN), tightD F (o1 ++ o2).length (outR V o1.length i) (outS s i), tI (upto F (outS s i))]) _ _
  rw [hm]
  let kd : D := kD F (m + 1) (o1 ++ x :: o2) V
  let oD : D := .ptup ((o1 ++ x :: o2).map dN)
  let wD : D := wsD F (m + 1) V
  let eD : D := entD w x i
  refine ht_seq (N1 := fun ss => ss = [.im kd, .im eD, .im oD, .im wD, .un, .un, .un, .un, .un, .un, .un, .un, .un]) (ht_asgG (ev_var rfl) (tgt_2 rfl) rfl) ?_
  rintro ss1 rfl
  refine ht_seq (N1 := fun ss => ss = [.im kd, .im eD, .im oD, .im wD, .im (.str w), .im (dN x), .im (dN i), .un, .un, .un, .un, .un, .un]) (ht_asgG (ev_var rfl) (tgt_3 rfl) rfl) ?_
  rintro ss1 rfl
  refine ht_seq (N1 := fun ss => ss = [.im kd, .im eD, .im oD, .im wD, .im (.str w), .im (dN x), .im (dN i), .im (dN o1.length), .un, .un, .un, .un, .un]) (ht_asgD (ev_tidx (ns := (o1 ++ x :: o2).map fun y : Nat => (y : Int)) (k := (x : Int)) (j := o1.length) ((ev_var rfl).to (by rw [List.map_map]; rfl)) (ev_var rfl) (by simp) ?_) rfl) ?_
  · intro q hq h
    rw [List.getElem?_map, List.getElem?_append_left hq, List.getElem?_eq_getElem hq] at h
    have : o1[q] = x := by
      have h2 : ((o1[q] : Nat) : Int) = (x : Int) := by simpa using h
      omega
    exact nx (this ▸ List.getElem_mem hq)
  rintro ss1 rfl
  let rD : D := .lst (upto F fun j => wI m (outR V o1.length i j))
  refine ht_seq (N1 := fun ss => ss = [.im kd, .im eD, .im oD, .im wD, .im (.str w), .im (dN x), .im (dN i), .im (dN o1.length), .im rD, .un, .un, .un, .un]) (ht_asgD (EvN.dat (en_lcA (n := F) (el := fun j => .rtup [dN j, wI (m + 1) (V j)]) (f := fun j => wI m (outR V o1.length i j)) ?_ (by omega) rfl ?_)) rfl) ?_
  · have h := src_enT (K := K) (ss := [.im kd, .im eD, .im oD, .im wD, .im (.str w), .im (dN x), .im (dN i), .im (dN o1.length), .un, .un, .un, .un, .un]) (ea1 (ev_var (i := 3) rfl)) (a := wD) rfl
    rw [upto_len] at h
    exact (Src.inr (src_el h fun j hj => by show D.rtup [_, _] = _; rw [dAt_upto hj])).c
  · intro j hj
    refine ⟨_, _, tgt_2 rfl, by decide, rfl, (ev_call (A := A_taken_out) (m, V j, o1.length, decide ((i : Int) ≤ (j : Int))) (ea3 (ev_var rfl) (ev_var rfl) (ev_le (ev_var rfl) (ev_var rfl))) ⟨n5, hm'⟩).mono ?_⟩
    rintro d rfl
    rw [outR_W]
  rintro ss1 rfl
  let sD : D := tI (upto F (outS s i))
  refine ht_seq (N1 := fun ss => ss = [.im kd, .im eD, .im oD, .im wD, .im (.str w), .im (dN x), .im (dN i), .im (dN o1.length), .im rD, .im sD, .un, .un, .un]) (ht_asgD (EvD.to (ev_tA (en_lcA (n := F) (el := fun j => .rtup [dN j, .int (s j)]) (f := fun j => .int (outS s i j)) ?_ (by omega) rfl ?_).v) (by simp [sD])) rfl) ?_
  · have h := src_enT (K := K) (ss := [.im kd, .im eD, .im oD, .im wD, .im (.str w), .im (dN x), .im (dN i), .im (dN o1.length), .im rD, .un, .un, .un, .un]) (ea1 (ev_call (E := E0) (A := A_known_sizes) (Pre := fun x => x.1 ≤ 3) (Post := fun x d => d = tI (upto x.1 fun j => x.2.2.1 j x.2.1)) (F, m + 1, V, oD) (ea1 (ev_var (i := 0) rfl)) F3)) (a := tI (upto F fun j => V j (m + 1))) rfl
    rw [List.length_map, upto_len] at h
    exact (Src.inr (src_el h fun j hj => by show D.rtup [_, _] = _; rw [map_upto, dAt_upto hj, sz j hj])).c
  · intro j hj
    refine ⟨_, _, tgt_2 rfl, by decide, rfl, (ev_sub (ev_var rfl) (ev_intB (ev_le (ev_var rfl) (ev_var rfl)))).to ?_⟩
    show D.int _ = D.int (s j - (if i ≤ j then 1 else 0))
    by_cases c : i ≤ j
    · simp [c]
    · simp [c]
  rintro ss1 rfl
  refine ht_retD (ev_tB (ea3 (ev_tBP (ds := (o1 ++ o2).map dN) ((ea_star (ev_slTo (a := oD) (ev_var rfl) (ev_var rfl) rfl) rfl (ea_star (ev_slFrom (k := o1.length + 1) (a := oD) (ev_var rfl) (ev_add (m := (o1.length : Int)) (n := 1) (ev_var rfl) ev_int) rfl) rfl ea_nil)).mono ?_) (by simp at hm ⊢; omega)) (ev_call (A := A_tightened) (F, m, outR V o1.length i, outS s i) (ea2 (ev_var rfl) (ev_var rfl)) ⟨F0, F3, n5⟩) (ev_var rfl)) (Nat.le_of_ble_eq_true rfl)) rfl
  rintro ds rfl
  rw [List.append_nil]
  exact mid_take
end
end FK
end
section
set_option Elab.async false
set_option linter.all false
set_option maxRecDepth 100000
namespace FK
open PySem PySem.Spec PyProof.Rows L2 Lg Lr RZ
section
variable {P : Program} {w : World} {K : PySem.W.Frag} {mg : Str → Option Value} {base : Heap}
abbrev N_by_things : List Str := ["order", "floors", "found", "thing"]
theorem sc_by_things : FnScope N_by_things ["order", "floors"] (defScope (top 25)) := ⟨rfl, rfl, rfl, by decide +kernel, rfl, by decide +kernel, by decide +kernel⟩
def t_by_things (K : PySem.W.Frag) : TS := (tSeq (tAsg (tDictZip K (tCons (tVar 0) (tCons (tVar 1) tNil))) (gName 2)) (tRet (tCB (rTupA K) (tCons (tLc (iRng1 (tCons (tCB (Lg.rLen K) (tCons (tVar 0) tNil)) tNil)) (gName 3) tYes (tDGet (tVar 2) (tVar 3)) [3]) tNil))))
theorem ok_by_things {sp : Sp} (D : Dfs K mg) (M : Mgs mg) (len : ∀ vs H Q E, sp vs H Q E → vs.length = 2) (h : ∀ vs H Q E, sp vs H Q E → t_by_things K (fin Q) (L2.start N_by_things vs) H) : Ok P w K mg base CX0 1 "by_things" ["order", "floors"] sp := by
  obtain ⟨f, fd, F, hm⟩ := D.by_things
  refine ⟨f, fd, F.bindsN fun _ _ _ _ _ _ us hl => match us, hl with | [_, _], _ => rfl, F.ok sc_by_things len (fun cdv A outer s H vs Q E hr p => ⟨t_by_things K, PSs.nox ?_, h vs H Q E p⟩), hm, F.kp⟩
  have hu := hr.units
  exact (pss_cons (ps_set (i := 2) sc_by_things.nd rfl (Or.inr rfl) (pe_dictZipT rfl rfl M.dict rfl M.zip (pa_cons (pv 0) (pa_cons (pv 1) pa_nil)))) (pss_one (ps_ret (pe_callTy call_tupA rfl M.tuple boot_tuple (pa_cons (pe_lc (own := [("thing", 3)]) rfl sc_by_things.nd (pi_range1 rfl M.range (pa_cons (pe_callB call_len_seq rfl M.len boot_len (pa_cons (pv 0) pa_nil)) pa_nil)) (blkOk_by rfl) (fun _ _ _ _ _ => (pg_name (i := 3) sc_by_things.nd rfl (Or.inl rfl))) (fun _ _ _ _ _ => pts_nil) (fun _ _ _ _ _ => (pe_dget (lt1 hu) (pv 2) (pv 3) (fun _ _ => rfl)))) pa_nil)))))
abbrev N_count_states : List Str := ["knowledge", "order", "words", "most", "found", "place", "later", "numbers", "many", "floor", "other"]
theorem sc_count_states : FnScope N_count_states ["knowledge"] (defScope (top 28)) := ⟨rfl, rfl, rfl, by decide +kernel, rfl, by decide +kernel, by decide +kernel⟩
def t_count_states (K : PySem.W.Frag) (sp_floor_numbers sp_next_numbers : Sp) : TS := (tSeq (tAsg (tVar 0) (gTup K 2 (gCons (gName 1) (gCons (gName 2) gNil)))) (tSeq (tAsg (tCall sp_floor_numbers [] E0 (tCons (tVar 0) tNil)) (gName 3)) (tSeq (tAsg (tDispT1 (tOp (rMul K) (tTupB (tCons (tC (.int 0)) tNil)) (tCB (Lg.rLen K) (tCons (tVar 2) tNil))) (tC (.int 1))) (gName 4)) (tSeq (tFor (iRng1 (tCons (tCB (Lg.rLen K) (tCons (tVar 1) tNil)) tNil)) (gName 5) (tSeq (tAsg tDNewT (gName 6)) (tSeq (tLock (tFor (iItemsT (tVar 4)) (gTup K 2 (gCons (gName 7) (gCons (gName 8) gNil))) (tFor (iSq K (tCall sp_next_numbers [] E0 (tCons (tVar 2) (tCons (tVar 3) (tCons (tVar 7) (tCons (tVar 5) tNil)))))) (gTup K 2 (gCons (gName 9) (gCons (gName 10) gNil))) (sDPut (tVar 6) (tVar 10) (tOp (rPlus K) (tDGet2 (tVar 6) (tVar 10) (tC (.int 0))) (tVar 8)))))) (tAsg (tVar 6) (gName 4))))) (tRet (tCB (rSum K) (tCons (tCB rListVT (tCons (tBM0 K "dict" rValsT (tVar 4)) tNil)) tNil)))))))
theorem ok_count_states {sp : Sp} {sp_floor_numbers sp_next_numbers : Sp} (D : Dfs K mg) (M : Mgs mg) (F_floor_numbers : Ok P w K mg base CX0 2 "floor_numbers" ["knowledge"] sp_floor_numbers) (F_next_numbers : Ok P w K mg base CX0 1 "next_numbers" ["words", "most", "numbers", "place"] sp_next_numbers) (len : ∀ vs H Q E, sp vs H Q E → vs.length = 1) (h : ∀ vs H Q E, sp vs H Q E → t_count_states K sp_floor_numbers sp_next_numbers (fin Q) (L2.start N_count_states vs) H) : Ok P w K mg base CX0 3 "count_states" ["knowledge"] sp := by
  obtain ⟨f, fd, F, hm⟩ := D.count_states
  refine ⟨f, fd, F.bindsN fun _ _ _ _ _ _ us hl => match us, hl with | [_], _ => rfl, F.ok sc_count_states len (fun cdv A outer s H vs Q E hr p => ⟨t_count_states K sp_floor_numbers sp_next_numbers, PSs.nox ?_, h vs H Q E p⟩), hm, F.kp⟩
  have hu := hr.units
  exact (pss_cons (ps_asg (pv 0) (pg_tup rfl (pgs_cons (pg_name (i := 1) sc_count_states.nd rfl (Or.inl rfl)) (pgs_cons (pg_name (i := 2) sc_count_states.nd rfl (Or.inl rfl)) pgs_nil)))) (pss_cons (ps_set (i := 3) sc_count_states.nd rfl (Or.inl rfl) (pe_ok F_floor_numbers hr (by decide) rfl pass0 (pa_cons (pv 0) pa_nil))) (pss_cons (ps_set (i := 4) sc_count_states.nd rfl (Or.inl rfl) (pe_dispT1 hu (pe_op op_mulA (pe_tupB (pa_cons pe_int pa_nil)) (pe_callB call_len_seq rfl M.len boot_len (pa_cons (pv 2) pa_nil))) pe_int)) (pss_cons (ps_for PassesOwn.never rfl (pi_range1 rfl M.range (pa_cons (pe_callB call_len_seq rfl M.len boot_len (pa_cons (pv 1) pa_nil)) pa_nil)) (pg_name (i := 5) sc_count_states.nd rfl (Or.inl rfl)) (pss_cons (ps_set (i := 6) sc_count_states.nd rfl (Or.inl rfl) pe_dnewT) (pss_cons (ps_lock (ps_for PassesOwn.never rfl (pi_itemsT (pv 4)) (pg_tup rfl (pgs_cons (pg_name (i := 7) sc_count_states.nd rfl (Or.inl rfl)) (pgs_cons (pg_name (i := 8) sc_count_states.nd rfl (Or.inl rfl)) pgs_nil))) (pss_one (ps_for PassesOwn.never rfl (PI.or (pi_list (pe_ok F_next_numbers hr (by decide) rfl pass0 (pa_cons (pv 2) (pa_cons (pv 3) (pa_cons (pv 7) (pa_cons (pv 5) pa_nil)))))) (pi_tup (pe_ok F_next_numbers hr (by decide) rfl pass0 (pa_cons (pv 2) (pa_cons (pv 3) (pa_cons (pv 7) (pa_cons (pv 5) pa_nil))))))) (pg_tup rfl (pgs_cons (pg_name (i := 9) sc_count_states.nd rfl (Or.inl rfl)) (pgs_cons (pg_name (i := 10) sc_count_states.nd rfl (Or.inl rfl)) pgs_nil))) (pss_one (ps_dput (lt1 hu) (pv 6) (pv 10) (pe_op op_plus (pe_dget2 (lt1 hu) (pv 6) (pv 10) pe_int ⟨rfl, rfl, rfl, rfl⟩) (pv 8)) rfl)))))) (pss_one (ps_set (i := 4) sc_count_states.nd rfl (Or.inl rfl) (pv 6)))))) (pss_one (ps_ret (pe_callB (cr_sum rfl) rfl M.sum boot_sum (pa_cons (pe_callTy (call_listVT rfl) rfl M.list boot_list (pa_cons (pe_bm0 PySem.F.plainAttrs_dict PySem.F.slot_dict_values PySem.F.type_dict_values mt_valsT (pv 4)) pa_nil)) pa_nil))))))))
abbrev N_states_of : List Str := ["house", "knowledge", "order", "words", "most", "line", "place", "longer", "floors", "numbers", "floor", "other"]
theorem sc_states_of : FnScope N_states_of ["house", "knowledge"] (defScope (top 29)) := ⟨rfl, rfl, rfl, by decide +kernel, rfl, by decide +kernel, by decide +kernel⟩
def t_states_of (K : PySem.W.Frag) (sp_count_states sp_floor_numbers sp_next_numbers sp_by_things : Sp) : TS := (tSeq (tAsg (tVar 1) (gTup K 2 (gCons (gName 2) (gCons (gName 3) gNil)))) (tSeq (tIfS (tTest (tOp (rI0 fun i j => .bl (decide (j < i))) (tCall sp_count_states [] E0 (tCons (tVar 1) tNil)) (tC (.int 3000)))) tNever tNext) (tSeq (tAsg (tCall sp_floor_numbers [] E0 (tCons (tVar 1) tNil)) (gName 4)) (tSeq (tAsg (tLst (tCons (tTupB (tCons (tTupB tNil) (tCons (tOp (rMul K) (tTupB (tCons (tC (.int 0)) tNil)) (tCB (Lg.rLen K) (tCons (tVar 3) tNil))) tNil))) tNil)) (gName 5)) (tSeq (tFor (iRng1 (tCons (tCB (Lg.rLen K) (tCons (tVar 2) tNil)) tNil)) (gName 6) (tSeq (tAsg (tLst tNil) (gName 7)) (tSeq (tFor (iSq K (tVar 5)) (gTup K 2 (gCons (gName 8) (gCons (gName 9) gNil))) (tFor (iSq K (tCall sp_next_numbers [] E0 (tCons (tVar 3) (tCons (tVar 4) (tCons (tVar 9) (tCons (tVar 6) tNil)))))) (gTup K 2 (gCons (gName 10) (gCons (gName 11) gNil))) (tDrop (tBM K "list" (rAppend) (tVar 7) (tCons (tTupB (tCons (tTupB (StX.tStar K (tVar 8) (tCons (tVar 10) tNil))) (tCons (tVar 11) tNil))) tNil))))) (tAsg (tVar 7) (gName 5))))) (tRet (tCB (rSortD K) (tCons (tLc (iSq K (tVar 5)) (gTup K 2 (gCons (gName 8) (gCons (gName 9) gNil))) tYes (tCall sp_by_things [] E0 (tCons (tVar 2) (tCons (tVar 8) tNil))) [8, 9]) tNil))))))))
theorem ok_states_of {sp : Sp} {sp_count_states sp_floor_numbers sp_next_numbers sp_by_things : Sp} (D : Dfs K mg) (M : Mgs mg) (F_count_states : Ok P w K mg base CX0 3 "count_states" ["knowledge"] sp_count_states) (F_floor_numbers : Ok P w K mg base CX0 2 "floor_numbers" ["knowledge"] sp_floor_numbers) (F_next_numbers : Ok P w K mg base CX0 1 "next_numbers" ["words", "most", "numbers", "place"] sp_next_numbers) (F_by_things : Ok P w K mg base CX0 1 "by_things" ["order", "floors"] sp_by_things) (len : ∀ vs H Q E, sp vs H Q E → vs.length = 2) (h : ∀ vs H Q E, sp vs H Q E → t_states_of K sp_count_states sp_floor_numbers sp_next_numbers sp_by_things (fin Q) (L2.start N_states_of vs) H) : Ok P w K mg base CX0 4 "states_of" ["house", "knowledge"] sp := by
  obtain ⟨f, fd, F, hm⟩ := D.states_of
  refine ⟨f, fd, F.bindsN fun _ _ _ _ _ _ us hl => match us, hl with | [_, _], _ => rfl, F.ok sc_states_of len (fun cdv A outer s H vs Q E hr p => ⟨t_states_of K sp_count_states sp_floor_numbers sp_next_numbers sp_by_things, PSs.nox ?_, h vs H Q E p⟩), hm, F.kp⟩
  have hu := hr.units
  obtain ⟨tmost, hmost⟩ := M.most
  exact (pss_cons (ps_asg (pv 1) (pg_tup rfl (pgs_cons (pg_name (i := 2) sc_states_of.nd rfl (Or.inr rfl)) (pgs_cons (pg_name (i := 3) sc_states_of.nd rfl (Or.inl rfl)) pgs_nil)))) (pss_cons (ps_if (pt_cmpR op_gt (pe_ok F_count_states hr (by decide) rfl pass0 (pa_cons (pv 1) pa_nil)) (pe_glob rfl hmost ⟨_, rfl⟩) (nomark _)) (pss_one ps_never) pss_nil) (pss_cons (ps_set (i := 4) sc_states_of.nd rfl (Or.inl rfl) (pe_ok F_floor_numbers hr (by decide) rfl pass0 (pa_cons (pv 1) pa_nil))) (pss_cons (ps_set (i := 5) sc_states_of.nd rfl (Or.inl rfl) (pe_lst (pa_cons (pe_tupB (pa_cons (pe_tupB pa_nil) (pa_cons (pe_op op_mulA (pe_tupB (pa_cons pe_int pa_nil)) (pe_callB call_len_seq rfl M.len boot_len (pa_cons (pv 3) pa_nil))) pa_nil))) pa_nil))) (pss_cons (ps_for PassesOwn.never rfl (pi_range1 rfl M.range (pa_cons (pe_callB call_len_seq rfl M.len boot_len (pa_cons (pv 2) pa_nil)) pa_nil)) (pg_name (i := 6) sc_states_of.nd rfl (Or.inl rfl)) (pss_cons (ps_set (i := 7) sc_states_of.nd rfl (Or.inl rfl) (pe_lst pa_nil)) (pss_cons (ps_for PassesOwn.never rfl (PI.or (pi_list (pv 5)) (pi_tup (pv 5))) (pg_tup rfl (pgs_cons (pg_name (i := 8) sc_states_of.nd rfl (Or.inl rfl)) (pgs_cons (pg_name (i := 9) sc_states_of.nd rfl (Or.inl rfl)) pgs_nil))) (pss_one (ps_for PassesOwn.never rfl (PI.or (pi_list (pe_ok F_next_numbers hr (by decide) rfl pass0 (pa_cons (pv 3) (pa_cons (pv 4) (pa_cons (pv 9) (pa_cons (pv 6) pa_nil)))))) (pi_tup (pe_ok F_next_numbers hr (by decide) rfl pass0 (pa_cons (pv 3) (pa_cons (pv 4) (pa_cons (pv 9) (pa_cons (pv 6) pa_nil))))))) (pg_tup rfl (pgs_cons (pg_name (i := 10) sc_states_of.nd rfl (Or.inl rfl)) (pgs_cons (pg_name (i := 11) sc_states_of.nd rfl (Or.inl rfl)) pgs_nil))) (pss_one (ps_expr (pe_bm PySem.F.plainAttrs_list PySem.F.slot_list_append PySem.F.type_list_append mt_append (pv 7) (pa_cons (pe_tupB (pa_cons (pe_tupB (StX.pa_star (pv 8) (pa_cons (pv 10) pa_nil))) (pa_cons (pv 11) pa_nil))) pa_nil))))))) (pss_one (ps_set (i := 5) sc_states_of.nd rfl (Or.inl rfl) (pv 7)))))) (pss_one (ps_ret (pe_callB (cr_sortD hu) rfl M.sorted boot_sorted (pa_cons (pe_lc (own := [("floors", 8), ("numbers", 9)]) rfl sc_states_of.nd (PI.or (pi_list (pv 5)) (pi_tup (pv 5))) (blkOk_by rfl) (fun _ _ _ _ _ => (pg_tup rfl (pgs_cons (pg_name (i := 8) sc_states_of.nd rfl (Or.inl rfl)) (pgs_cons (pg_name (i := 9) sc_states_of.nd rfl (Or.inl rfl)) pgs_nil)))) (fun _ _ _ _ _ => pts_nil) (fun _ _ _ _ _ => (pe_ok F_by_things hr (by decide) rfl pass0 (pa_cons (pv 2) (pa_cons (pv 8) pa_nil))))) pa_nil)))))))))
abbrev N_law_asks : List Str := ["_law_house_here", "_law_state_here", "_law_thing", "_law_now", "_law_found", "_law_open_rows", "_law_downs", "_law_here", "_law_at", "_law_down"]
theorem sc_law_asks : FnScope N_law_asks ["_law_house_here", "_law_state_here", "_law_thing"] (defScope (top 51)) := ⟨rfl, rfl, rfl, by decide +kernel, rfl, by decide +kernel, by decide +kernel⟩
def t_law_asks (K : PySem.W.Frag) : TS := (tSeq (tAsg (tCB (rLstOf K) (tCons (tVar 1) tNil)) (gName 3)) (tSeq (tAsg (tC (.int 0)) (gSub (tVar 3) (tVar 2) rSetL)) (tSeq (tPar 4 5 (tCons (tLst tNil) (tCons (tLst (tCons (tTupB (tCons (tTupB tNil) (tCons (tCB (rTupA K) (tCons (tVar 3) tNil)) tNil))) tNil)) tNil))) (tSeq (tWhile (tTest (tOp (rNeD K) (tVar 5) (tLst tNil))) (tSeq (tAsg (tBM0 K "list" rPop (tVar 5)) (gTup K 2 (gCons (gName 6) (gCons (gName 7) gNil)))) (tSeq (tAsg (tCB (Lg.rLen K) (tCons (tVar 6) tNil)) (gName 8)) (tIfS (tOr (tTest (tOp (rI0 fun i j => .bl (decide (j ≤ i))) (tVar 8) (tCB (Lg.rLen K) (tCons (tOp (rIx K) (tVar 0) (tC (.int 1))) tNil)))) (tTest (tOp (rI0 fun i j => .bl (decide (i ≤ j))) (tBMT (rCntT K) (tVar 7) (tCons (tVar 8) tNil)) (tOp (rIx K) (tOp (rIx K) (tVar 0) (tC (.int 1))) (tVar 8))))) (tDrop (tBM K "list" (rAppend) (tVar 4) (tCons (tTupB (tCons (tC (.str "ask")) (tCons (tVar 2) (tCons (tVar 6) tNil)))) tNil))) (tFor (iRng1 (tCons (tOp (rIx K) (tVar 0) (tC (.int 0))) tNil)) (gName 9) (tIfS (tAnd (tTest (tOp (rEqD K) (tOp (rIx K) (tVar 7) (tVar 9)) (tVar 8))) (tOr (tTest (tOp (rI0 fun i j => .bl (decide (j < i))) (tVar 8) (tC (.int 0)))) (tTest (tOp (rNeD K) (tVar 9) (tVar 2))))) (tDrop (tBM K "list" (rAppend) (tVar 5) (tCons (tTupB (tCons (tOp (rPlus K) (tVar 6) (tTupB (tCons (tVar 9) tNil))) (tCons (tOp (rPlus K) (tOp (rPlus K) (tSl (rSl K) (tVar 7) tNoPart (tPart (tVar 9))) (tTupB (tCons (tOp (rPlus K) (tVar 8) (tC (.int 1))) tNil))) (tSl (rSl K) (tVar 7) (tPart (tOp (rPlus K) (tVar 9) (tC (.int 1)))) tNoPart)) tNil))) tNil))) tNext)))))) (tRet (tCB (rSortD K) (tCons (tVar 4) tNil)))))))
theorem ok_law_asks {sp : Sp} (D : Dfs K mg) (M : Mgs mg) (len : ∀ vs H Q E, sp vs H Q E → vs.length = 3) (h : ∀ vs H Q E, sp vs H Q E → t_law_asks K (fin Q) (L2.start N_law_asks vs) H) : Ok P w K mg base CX0 1 "_law_asks" ["_law_house_here", "_law_state_here", "_law_thing"] sp := by
  obtain ⟨f, fd, F, hm⟩ := D.law_asks
  refine ⟨f, fd, F.bindsN fun _ _ _ _ _ _ us hl => match us, hl with | [_, _, _], _ => rfl, F.ok sc_law_asks len (fun cdv A outer s H vs Q E hr p => ⟨t_law_asks K, PSs.nox ?_, h vs H Q E p⟩), hm, F.kp⟩
  have hu := hr.units
  exact (pss_cons (ps_set (i := 3) sc_law_asks.nd rfl (Or.inl rfl) (pe_callTy call_list_of rfl M.list boot_list (pa_cons (pv 1) pa_nil))) (pss_cons (ps_asg pe_int (pg_sub (pv 3) (pv 2) set_list)) (pss_cons (ps_par (i := 4) (j := 5) rfl sc_law_asks.nd rfl rfl (by decide) rfl rfl (pa_cons (pe_lst pa_nil) (pa_cons (pe_lst (pa_cons (pe_tupB (pa_cons (pe_tupB pa_nil) (pa_cons (pe_callTy call_tupA rfl M.tuple boot_tuple (pa_cons (pv 3) pa_nil)) pa_nil))) pa_nil)) pa_nil)) rfl) (pss_cons (ps_while PassesOwn.never (pt_cmpR (op_neD hu) (pv 5) (pe_lst pa_nil) (nomark _)) (pss_cons (ps_asg (pe_bm0 PySem.F.plainAttrs_list PySem.F.slot_list_pop PySem.F.type_list_pop mt_pop (pv 5)) (pg_tup rfl (pgs_cons (pg_name (i := 6) sc_law_asks.nd rfl (Or.inl rfl)) (pgs_cons (pg_name (i := 7) sc_law_asks.nd rfl (Or.inl rfl)) pgs_nil)))) (pss_cons (ps_set (i := 8) sc_law_asks.nd rfl (Or.inl rfl) (pe_callB call_len_seq rfl M.len boot_len (pa_cons (pv 6) pa_nil))) (pss_one (ps_if (PW.pt (pw_or (pt_cmpR op_ge (pv 8) (pe_callB call_len_seq rfl M.len boot_len (pa_cons (pe_ix ix_seq (pv 0) pe_int (fun _ _ => rfl)) pa_nil)) (nomark _)) (pw_or1 (pt_cmpR op_le (pe_bmT PySem.F.slot_tuple_count PySem.F.type_tuple_count mt_tcount (pv 7) (pa_cons (pv 8) pa_nil)) (pe_ix ix_seq (pe_ix ix_seq (pv 0) pe_int (fun _ _ => rfl)) (pv 8) (fun _ _ => rfl)) (nomark _))))) (pss_one (ps_expr (pe_bm PySem.F.plainAttrs_list PySem.F.slot_list_append PySem.F.type_list_append mt_append (pv 4) (pa_cons (pe_tupB (pa_cons pe_str (pa_cons (pv 2) (pa_cons (pv 6) pa_nil)))) pa_nil)))) (pss_one (ps_for PassesOwn.never rfl (pi_range1 rfl M.range (pa_cons (pe_ix ix_seq (pv 0) pe_int (fun _ _ => rfl)) pa_nil)) (pg_name (i := 9) sc_law_asks.nd rfl (Or.inl rfl)) (pss_one (ps_if (PW.pt (pw_and (pt_cmpR (op_eqD hu) (pe_ix ix_seq (pv 7) (pv 9) (fun _ _ => rfl)) (pv 8) (nomark _)) (pw_and1 (PW.pt (pw_or (pt_cmpR op_gt (pv 8) pe_int (nomark _)) (pw_or1 (pt_cmpR (op_neD hu) (pv 9) (pv 2) (nomark _)))))))) (pss_one (ps_expr (pe_bm PySem.F.plainAttrs_list PySem.F.slot_list_append PySem.F.type_list_append mt_append (pv 5) (pa_cons (pe_tupB (pa_cons (pe_op op_plus (pv 6) (pe_tupB (pa_cons (pv 9) pa_nil))) (pa_cons (pe_op op_plus (pe_op op_plus (pe_slice sl_seq (pv 7) po_none (po_some (pv 9))) (pe_tupB (pa_cons (pe_op op_plus (pv 8) pe_int) pa_nil))) (pe_slice sl_seq (pv 7) (po_some (pe_op op_plus (pv 9) pe_int)) po_none)) pa_nil))) pa_nil)))) pss_nil))))))))) (pss_one (ps_ret (pe_callB (cr_sortD hu) rfl M.sorted boot_sorted (pa_cons (pv 4) pa_nil))))))))
abbrev N_law_states_behind : List Str := ["_law_house_here", "_law_states", "_law_entry", "_law_word", "_law_thing", "_law_floor", "_law_found", "_law_state_here", "_law_moves", "_law_move"]
theorem sc_law_states_behind : FnScope N_law_states_behind ["_law_house_here", "_law_states", "_law_entry"] (defScope (top 52)) := ⟨rfl, rfl, rfl, by decide +kernel, rfl, by decide +kernel, by decide +kernel⟩
def t_law_states_behind (K : PySem.W.Frag) (sp_law_asks sp_law_done : Sp) : TS := (tSeq (tAsg (tVar 2) (gTup K 3 (gCons (gName 3) (gCons (gName 4) (gCons (gName 5) gNil))))) (tSeq (tAsg tDNewT (gName 6)) (tSeq (tFor (iSq K (tVar 1)) (gName 7) (tIfS (tTest (tOp (rEqD K) (tOp (rIx K) (tVar 7) (tVar 4)) (tVar 5))) (tSeq (tAsg (tIf (tTest (tOp (rEqD K) (tVar 3) (tC (.str "strike")))) (tLst (tCons (tTupB (tCons (tC (.str "strike")) (tCons (tVar 4) (tCons (tTupB tNil) tNil)))) tNil)) (tCall sp_law_asks [] E0 (tCons (tVar 0) (tCons (tVar 7) (tCons (tVar 4) tNil))))) (gName 8)) (tFor (iSq K (tVar 8)) (gName 9) (sDPut (tVar 6) (tCall sp_law_done [] E0 (tCons (tVar 0) (tCons (tVar 7) (tCons (tVar 9) tNil)))) (tC (.bl true))))) tNext)) (tRet (tCB (rSortDT) (tCons (tVar 6) tNil))))))
theorem ok_law_states_behind {sp : Sp} {sp_law_asks sp_law_done : Sp} (D : Dfs K mg) (M : Mgs mg) (F_law_asks : Ok P w K mg base CX0 1 "_law_asks" ["_law_house_here", "_law_state_here", "_law_thing"] sp_law_asks) (F_law_done : Ok P w K mg base CX0 1 "_law_done" ["_law_house_here", "_law_state_here", "_law_move"] sp_law_done) (len : ∀ vs H Q E, sp vs H Q E → vs.length = 3) (h : ∀ vs H Q E, sp vs H Q E → t_law_states_behind K sp_law_asks sp_law_done (fin Q) (L2.start N_law_states_behind vs) H) : Ok P w K mg base CX0 2 "_law_states_behind" ["_law_house_here", "_law_states", "_law_entry"] sp := by
  obtain ⟨f, fd, F, hm⟩ := D.law_states_behind
  refine ⟨f, fd, F.bindsN fun _ _ _ _ _ _ us hl => match us, hl with | [_, _, _], _ => rfl, F.ok sc_law_states_behind len (fun cdv A outer s H vs Q E hr p => ⟨t_law_states_behind K sp_law_asks sp_law_done, PSs.nox ?_, h vs H Q E p⟩), hm, F.kp⟩
  have hu := hr.units
  exact (pss_cons (ps_asg (pv 2) (pg_tup rfl (pgs_cons (pg_name (i := 3) sc_law_states_behind.nd rfl (Or.inl rfl)) (pgs_cons (pg_name (i := 4) sc_law_states_behind.nd rfl (Or.inl rfl)) (pgs_cons (pg_name (i := 5) sc_law_states_behind.nd rfl (Or.inl rfl)) pgs_nil))))) (pss_cons (ps_set (i := 6) sc_law_states_behind.nd rfl (Or.inl rfl) pe_dnewT) (pss_cons (ps_for PassesOwn.never rfl (PI.or (pi_list (pv 1)) (pi_tup (pv 1))) (pg_name (i := 7) sc_law_states_behind.nd rfl (Or.inl rfl)) (pss_one (ps_if (pt_cmpR (op_eqD hu) (pe_ix ix_seq (pv 7) (pv 4) (fun _ _ => rfl)) (pv 5) (nomark _)) (pss_cons (ps_set (i := 8) sc_law_states_behind.nd rfl (Or.inl rfl) (pe_ifExp (pt_cmpR (op_eqD hu) (pv 3) pe_str (nomark _)) (pe_lst (pa_cons (pe_tupB (pa_cons pe_str (pa_cons (pv 4) (pa_cons (pe_tupB pa_nil) pa_nil)))) pa_nil)) (pe_ok F_law_asks hr (by decide) rfl pass0 (pa_cons (pv 0) (pa_cons (pv 7) (pa_cons (pv 4) pa_nil)))))) (pss_one (ps_for PassesOwn.never rfl (PI.or (pi_list (pv 8)) (pi_tup (pv 8))) (pg_name (i := 9) sc_law_states_behind.nd rfl (Or.inl rfl)) (pss_one (ps_dput (lt1 hu) (pv 6) (pe_ok F_law_done hr (by decide) rfl pass0 (pa_cons (pv 0) (pa_cons (pv 7) (pa_cons (pv 9) pa_nil)))) pe_bl rfl))))) pss_nil))) (pss_one (ps_ret (pe_callB (cr_sortDT rfl hu) rfl M.sorted boot_sorted (pa_cons (pv 6) pa_nil)))))))
end
end FK
end
section
set_option Elab.async false
set_option linter.all false
set_option maxRecDepth 100000
/-! States that fit: the numbers, place by place. -/
namespace FK
open PySem PySem.Spec PyProof.Rows L2 Lg Lr RZ FM
variable [tbs : Tbs]
section
variable {K : PySem.W.Frag}
/-- sums of the first j -/
def psum (g : Nat → Int) : Nat → Int
  | 0 => 0
  | j + 1 => psum g j + g j
def bump (g : Nat → Int) (f : Nat) : Nat → Int := fun j => g j + (if j = f then 1 else 0)
def NOk (F : Nat) (V : Fam) (p : Nat) (g : Nat → Int) : Prop := ∀ j, j < F → V j (p + 1) ≤ psum g (j + 1)
open Classical in
noncomputable def accB (F : Nat) (V : Fam) (most g : Nat → Int) (p f : Nat) : Bool := !(decide (f < F) && decide (g f = most f)) && decide (NOk F V p (bump g f))
/-- the floors that the thing at place p may go to -/
noncomputable def nxts (F : Nat) (V : Fam) (most g : Nat → Int) (p : Nat) : List Nat := (List.range (F + 1)).filter (accB F V most g p)
/-! ### short rules -/
section
variable {ss : List Sl} {te tf : TE} {m n : Int} {ds : List D}
theorem ev_eqI (h : EvD ss te (.int m)) (h' : EvD ss tf (.int n)) : EvD ss (tOp (rEqD K) te tf) (.bl (decide (m = n))) := ev_eq h h' fun a b ea eb => by
  subst ea eb
  refine ⟨rfl, rfl, ?_⟩
  show D.bl (PyData.eqv (.int m) (.int n)) = _
  congr 1
/-- tuple(l), a new one -/
theorem ev_tAR (h : EvV ss te (fun x => x = ds)) : EvD ss (tCB (rTupA K) (tCons te tNil)) (.rtup ds) := ev_cbV h fun es e H O Z l xs Q nn h1 h2 q => by
  subst e
  exact .inl ⟨l, xs, rfl, .inl ⟨SqL.of h1, fun p hp => q _ _ _ rfl (Ext.new hp) (Dq.rtup upd_same (h2.mv (Ext.stp (Ext.new hp))))⟩⟩
end
theorem filter_range_succ {q : Nat → Bool} {i : Nat} : (List.range (i + 1)).filter q = (List.range i).filter q ++ (if q i = true then [i] else []) := by
  rw [List.range_succ, List.filter_append]
  by_cases h : q i = true <;> simp [h]
abbrev numD (F : Nat) (g : Nat → Int) : D := .rtup (upto F fun j => .int (g j))
abbrev nxD (F : Nat) (g : Nat → Int) (f : Nat) : D := .rtup [dN f, numD F (bump g f)]
structure NN where
  F : Nat
  n : Nat
  V : Fam
  most : Nat → Int
  g : Nat → Int
  p : Nat
def A_next_numbers (a : NN) : List D := [wsD a.F a.n a.V, .lst (upto a.F fun j => .int (a.most j)), numD a.F a.g, dN a.p]
noncomputable def sp_next_numbers : Sp := spP A_next_numbers (fun a => 0 < a.F ∧ a.F ≤ 3 ∧ a.p < a.n ∧ a.n ≤ 10) (fun a d => d = .lst ((nxts a.F a.V a.most a.g a.p).map (nxD a.F a.g)))
theorem ints_upto {F : Nat} {g : Nat → Int} {i : Nat} (h : i < F) : atI (upto F fun j => D.int (g j)) (i : Int) = some (.int (g i)) := by rw [atI_nat (upto_get h)]
theorem c_next_numbers (vs H Q E) (p : sp_next_numbers vs H Q E) : t_next_numbers K (fin Q) (L2.start N_next_numbers vs) H := by
  refine body_P (fun a ha => ⟨by show 4 ≤ 10; decide, ?_⟩) p
  obtain ⟨F, n, V, most, g, p⟩ := a
  obtain ⟨F0, F3, hp, hn⟩ := ha
  simp only at F0 F3 hp hn
  let wD : D := wsD F n V
  let mD : D := .lst (upto F fun j => .int (most j))
  let gD : D := numD F g
  let el : List Nat → List D := fun l => l.map (nxD F g)
  let S : List D → Sl → Sl → Sl → Sl → Sl → List Sl := fun es a b c d e => [.im wD, .im mD, .im gD, .im (dN p), .own es, a, b, c, d, e]
  have hlen : ∀ {ss : List Sl}, ss[0]? = some (.im wD) → EvD ss (tCB (Lg.rLen K) (tCons (tVar 0) tNil)) (dN F) := fun h => by
    have := ev_len (K := K) (ev_var h) (a := wD) rfl
    rw [upto_len] at this; exact this
  have hword : ∀ {ss : List Sl} {tj : TE} {j : Int} {j' : Nat}, ss[0]? = some (.im wD) → ss[3]? = some (.im (dN p)) → EvD ss tj (.int j) → atI (upto F fun j => wI n (V j)) j = some (wI n (V j')) → EvD ss (tOp (rIx K) (tOp (rIx K) (tVar 0) tj) (tOp (rPlus K) (tVar 3) (tC (.int 1)))) (.int (V j' (p + 1))) := fun h h3 hj e => by
    refine ev_ix (ev_ix (ev_var h) hj rfl e) (ev_add (m := (p : Int)) (n := 1) (ev_var h3) ev_int) rfl ?_
    rw [map_upto, show (p : Int) + 1 = ((p + 1 : Nat) : Int) from rfl, atI_nat (upto_get (by omega))]
  refine ht_seq (N1 := fun s => s = S [] .un .un .un .un .un) (ht_asgNL en_nil rfl) ?_
  rintro ss1 rfl
  refine ht_seq (N1 := fun s => ∃ a b c d e, s = S (el (nxts F V most g p)) a b c d e) (ht_for (n := F + 1) (el := fun i => .int (i : Int)) (src_r1 (ea1 (ev_add (m := (F : Int)) (n := 1) (hlen rfl) ev_int)) (by omega))
    (fun i s => ∃ a b c d e, s = S (el ((List.range i).filter (accB F V most g p))) a b c d e) ⟨.un, .un, .un, .un, .un, rfl⟩ ?_ fun ss1 h => h) ?_
  · rintro i ss1 hi ⟨a, b, c, d, e, rfl⟩
    refine ⟨_, _, tgt_name, ?_⟩
    let es := el ((List.range i).filter (accB F V most g p))
    have hes : es.length ≤ 10 := by
      show (List.map _ _).length ≤ _
      rw [List.length_map]
      have := List.length_filter_le (accB F V most g p) (List.range i)
      rw [List.length_range] at this; omega
    refine ht_seq (N1 := fun s => s = S es (.im (dN i)) b c d e ∧ ¬ (i < F ∧ g i = most i)) (ht_if (B := _) (eb_and2 (eb_d (ev_lt (m := (i : Int)) (ev_var rfl) (hlen rfl))) fun hc => eb_d (ev_eqI (m := g i) (n := most i) (ev_ix (ev_var rfl) (ev_var rfl) rfl ?_) (ev_ixL (ev_var rfl) (ev_var rfl) ?_))) (fun hc => ht_cont ?_) (fun hc => ht_next ⟨rfl, ?_⟩)) ?_
    · exact ints_upto (by simpa using hc)
    · exact ints_upto (by simpa using hc)
    · refine ⟨.im (dN i), b, c, d, e, ?_⟩
      have hc2 : i < F ∧ g i = most i := by simpa using hc
      rw [filter_range_succ, if_neg (by simp [accB, hc2.1, hc2.2]), List.append_nil]; rfl
    · rintro ⟨h1, h2⟩
      simp [h1, h2] at hc
    rintro ss1 ⟨rfl, hne⟩
    let S2 : List D → Int → Sl → Sl → List Sl := fun ls w d e => [.im wD, .im mD, .im gD, .im (dN p), .own es, .im (dN i), .own ls, .im (.int w), d, e]
    refine ht_seq (N1 := fun s => s = S2 [] 0 d e) (ht_par2 (em_oi en_nil ev_int) rfl) ?_
    rintro ss1 rfl
    let B : Nat → Int := bump g i
    refine ht_seq (N1 := fun s => ∃ j d e, s = S2 (upto j fun q => .int (B q)) (psum B j) d e ∧ j ≤ F ∧ ((j = F ∧ NOk F V p B) ∨ ∃ q, j = q + 1 ∧ psum B (q + 1) < V q (p + 1)))
      (ht_for (n := F) (el := fun j => .rtup [dN j, .int (g j)]) ?_ (fun j s => ∃ d e, s = S2 (upto j fun q => .int (B q)) (psum B j) d e ∧ ∀ q, q < j → V q (p + 1) ≤ psum B (q + 1)) ⟨d, e, rfl, fun q h => absurd h (Nat.not_lt_zero _)⟩ ?_ ?_) ?_
    · have h := src_enT (K := K) (ss := S2 [] 0 d e) (ea1 (ev_var (i := 2) rfl)) (a := gD) rfl
      rw [upto_len] at h
      exact Src.inr (src_el h fun j hj => by show D.rtup [_, _] = _; rw [dAt_upto hj])
    · rintro j ss1 hj ⟨d, e, rfl, hq⟩
      refine ⟨_, _, tgt_2 rfl, ?_⟩
      refine ht_seq (N1 := fun s => s = S2 (upto (j + 1) fun q => .int (B q)) (psum B j) (.im (dN j)) (.im (.int (g j)))) (ht_app rfl (ev_add (m := g j) (n := if (decide ((j : Int) = (i : Int))) = true then 1 else 0) (ev_var rfl) (ev_intB (ev_eqI (ev_var rfl) (ev_var rfl)))) (by rw [upto_len]; omega) ?_) ?_
      · rw [upto_succ]
        show [_, _, _, _, _, _, Sl.own _, _, _, _] = _
        have e1 : (if (decide ((j : Int) = (i : Int))) = true then (1 : Int) else 0) = if j = i then 1 else 0 := by
          by_cases h : j = i
          · simp [h]
          · rw [if_neg h, if_neg (by simp; omega)]
        rw [e1]; rfl
      rintro ss1 rfl
      refine ht_seq (N1 := fun s => s = S2 (upto (j + 1) fun q => .int (B q)) (psum B (j + 1)) (.im (dN j)) (.im (.int (g j)))) (ht_aug (m := psum B j) (n := B j) rfl (ev_ixOwn rfl (ev_var rfl) (ints_upto (Nat.lt_succ_self j))) rfl) ?_
      rintro ss1 rfl
      refine ht_if (eb_d (ev_lt (ev_var rfl) (hword (j' := j) rfl rfl (ev_var rfl) (by rw [atI_nat (upto_get hj)])))) (fun hc => ht_brk ⟨j + 1, _, _, rfl, hj, .inr ⟨j, rfl, by simpa using hc⟩⟩) fun hc => ht_next ⟨_, _, rfl, fun q hq2 => ?_⟩
      by_cases h : q = j
      · subst h
        simp at hc; exact hc
      · exact hq q (by omega)
    · rintro ss1 ⟨d, e, rfl, hq⟩
      exact ⟨F, d, e, rfl, Nat.le_refl _, .inl ⟨rfl, hq⟩⟩
    rintro ss1 ⟨j, d, e, rfl, hj, hcase⟩
    obtain ⟨F', rfl⟩ : ∃ F', F = F' + 1 := ⟨F - 1, by omega⟩
    have hacc : accB (F' + 1) V most g p i = true ↔ NOk (F' + 1) V p B := by
      have h1 : (decide (i < F' + 1) && decide (g i = most i)) = false := by
        cases h : (decide (i < F' + 1) && decide (g i = most i)) with
        | false => rfl
        | true => simp at h; exact absurd h hne
      unfold accB
      rw [h1]
      simp [B]
    refine ht_if (eb_and2 (c := decide ((j : Int) = ((F' + 1 : Nat) : Int))) (e := decide (V F' (p + 1) ≤ psum B j)) (eb_d (ev_eqI (EvD.to (ev_lenV (ev_own rfl)) (by rw [upto_len])) (hlen rfl))) fun _ => eb_d (ev_ge (ev_var rfl) (hword (j' := F') rfl rfl ev_n1 (atI_last upto_last)))) (fun hc => ?_) fun hc => ?_
    · have hc2 : j = F' + 1 ∧ V F' (p + 1) ≤ psum B j := by
        simp at hc
        exact ⟨by omega, hc.2⟩
      have hok : NOk (F' + 1) V p B := by
        rcases hcase with ⟨_, h⟩ | ⟨q, h1, h2⟩
        · exact h
        · have : q = F' := by omega
          subst this
          rw [h1] at hc2
          omega
      obtain ⟨rfl, _⟩ := hc2
      refine ht_app rfl (ev_tBR (ea2 (ev_var rfl) (ev_tAR (ev_own rfl))) (Nat.le_of_ble_eq_true rfl)) (by omega) ⟨.im (dN i), .own (upto (F' + 1) fun q => .int (B q)), .im (.int (psum B (F' + 1))), d, e, ?_⟩
      rw [filter_range_succ, if_pos (hacc.mpr hok)]
      show _ = S (List.map _ (_ ++ _)) _ _ _ _ _
      rw [List.map_append]; rfl
    · refine ht_next ⟨.im (dN i), .own (upto j fun q => .int (B q)), .im (.int (psum B j)), d, e, ?_⟩
      have hno : ¬ NOk (F' + 1) V p B := fun hok => by
        rcases hcase with ⟨h1, _⟩ | ⟨q, h1, h2⟩
        · subst h1
          have := hok F' (by omega)
          simp [this] at hc
        · have := hok q (by omega)
          omega
      rw [filter_range_succ, if_neg (fun h => hno (hacc.mp h)), List.append_nil]
  rintro ss1 ⟨a, b, c, d, e, rfl⟩
  exact ht_freeze (i := 4) rfl (ht_retD (ev_var rfl) rfl)
end
end FK
end
section
set_option Elab.async false
set_option linter.all false
set_option maxRecDepth 100000
/-! Tables whose keys are lists of ints; how many states there are, at most. -/
namespace FK
open PySem PySem.Spec PyProof.Rows L2 Lg Lr RZ FM
section
variable {β : Type}
def getI (kvs : List (List Int × β)) (k : List Int) : Option β := (kvs.find? fun e => decide (e.1 = k)).map (·.2)
def putI (kvs : List (List Int × β)) (k : List Int) (v : β) : List (List Int × β) :=
  if (kvs.any fun e => decide (e.1 = k)) = true then kvs.map (fun e => if e.1 = k then (e.1, v) else e) else kvs ++ [(k, v)]
abbrev encK (f : β → L2.V) (e : List Int × β) : List L2.Key × L2.V := (e.1.map Sum.inl, f e.2)
theorem inl_inj {k k' : List Int} : (k.map (Sum.inl : Int → L2.Key) = k'.map Sum.inl) ↔ k = k' :=
  ⟨fun h => by
    have e := congrArg (List.map fun q : L2.Key => match q with
      | .inl i => i
      | .inr _ => 0) h
    rw [List.map_map, List.map_map] at e
    have id' : ∀ l : List Int, l.map ((fun q : L2.Key => match q with
      | .inl i => i
      | .inr _ => 0) ∘ Sum.inl) = l := fun l => List.map_id'' (fun _ => rfl) l
    rw [id', id'] at e
    exact e, fun h => by rw [h]⟩
theorem getI_enc (f : β → L2.V) (k : List Int) : ∀ kvs : List (List Int × β), valV (kvs.map (encK f)) (k.map Sum.inl) = (getI kvs k).map f
  | [] => rfl
  | e :: r => by
    have ih := getI_enc f k r
    unfold valV getI at ih ⊢
    rw [List.map_cons, List.find?_cons, List.find?_cons]
    by_cases h : e.1 = k
    · rw [decide_eq_true (show (encK f e).1 = k.map Sum.inl from inl_inj.mpr h), decide_eq_true h]; rfl
    · rw [decide_eq_false (show ¬ (encK f e).1 = k.map Sum.inl from fun z => h (inl_inj.mp z)), decide_eq_false h]; exact ih
theorem putI_enc (f : β → L2.V) (k : List Int) (v : β) (kvs : List (List Int × β)) : putK (kvs.map (encK f)) (k.map Sum.inl) (f v) = (putI kvs k v).map (encK f) := by
  have ha : ((kvs.map (encK f)).any fun kv => decide (kv.1 = k.map Sum.inl)) = kvs.any fun e => decide (e.1 = k) := by
    rw [List.any_map]
    congr 1
    funext e
    show decide ((encK f e).1 = k.map Sum.inl) = _
    by_cases h : e.1 = k
    · rw [decide_eq_true h, decide_eq_true (inl_inj.mpr h)]
    · rw [decide_eq_false h, decide_eq_false (fun z => h (inl_inj.mp z))]
  unfold putK putI
  rw [ha]
  split
  · rw [List.map_map, List.map_map]
    congr 1
    funext e
    show (if (encK f e).1 = k.map Sum.inl then ((encK f e).1, f v) else encK f e) = encK f (if e.1 = k then (e.1, v) else e)
    by_cases h : e.1 = k
    · rw [if_pos h, if_pos (inl_inj.mpr h)]
    · rw [if_neg h, if_neg (fun z => h (inl_inj.mp z))]
  · rw [List.map_append]; rfl
theorem putI_keys {kvs : List (List Int × β)} {k : List Int} {v : β} : (putI kvs k v).map (·.1) = if k ∈ kvs.map (·.1) then kvs.map (·.1) else kvs.map (·.1) ++ [k] := by
  have hm : (kvs.any fun e => decide (e.1 = k)) = true ↔ k ∈ kvs.map (·.1) := by
    rw [List.any_eq_true]
    simp [List.mem_map]
  unfold putI
  by_cases h : k ∈ kvs.map (·.1)
  · rw [if_pos (hm.mpr h), if_pos h, List.map_map]
    congr 1
    funext e
    show (if e.1 = k then (e.1, v) else e).1 = e.1
    split <;> rfl
  · rw [if_neg (fun z => h (hm.mp z)), if_neg h, List.map_append]; rfl
theorem putI_nodup {kvs : List (List Int × β)} {k : List Int} {v : β} (h : (kvs.map (·.1)).Nodup) : ((putI kvs k v).map (·.1)).Nodup := by
  rw [putI_keys]
  split
  · exact h
  · rename_i hk
    exact List.nodup_append.mpr ⟨h, by simp, fun a ha b hb => by simp at hb; subst hb; exact fun e => hk (e ▸ ha)⟩
theorem putI_len {kvs : List (List Int × β)} {k : List Int} {v : β} : (putI kvs k v).length ≤ kvs.length + 1 := by
  have := congrArg List.length (putI_keys (kvs := kvs) (k := k) (v := v))
  rw [List.length_map] at this
  rw [this]
  split <;> simp
end
/-! ### sums -/
abbrev tot (kvs : List (List Int × Int)) : Int := (kvs.map (·.2)).sum
theorem tot_put {k : List Int} {m : Int} : ∀ {kvs : List (List Int × Int)}, (kvs.map (·.1)).Nodup → tot (putI kvs k ((getI kvs k).getD 0 + m)) = tot kvs + m
  | [], _ => by simp [putI, getI, tot]
  | e :: r, hn => by
    rw [List.map_cons, List.nodup_cons] at hn
    by_cases h : e.1 = k
    · have hg : getI (e :: r) k = some e.2 := by
        unfold getI
        rw [List.find?_cons, decide_eq_true h]; rfl
      have hr : (r.map fun x => if x.1 = k then (x.1, (some e.2).getD 0 + m) else x) = r := by
        refine (List.map_congr_left fun x hx => ?_).trans (List.map_id r)
        rw [if_neg]
        · rfl
        · intro z
          exact hn.1 (List.mem_map.mpr ⟨x, hx, by rw [z, h]⟩)
      rw [hg]
      unfold putI
      rw [if_pos (by simp [h]), List.map_cons, if_pos h, hr]
      simp [tot]; omega
    · have hg : getI (e :: r) k = getI r k := by
        unfold getI
        rw [List.find?_cons, decide_eq_false h]
      have ih := tot_put (k := k) (m := m) hn.2
      rw [hg]
      have hp : putI (e :: r) k ((getI r k).getD 0 + m) = e :: putI r k ((getI r k).getD 0 + m) := by
        unfold putI
        rw [List.any_cons, decide_eq_false h, Bool.false_or]
        split
        · rw [List.map_cons, if_neg h]
        · rfl
      rw [hp]
      show e.2 + tot (putI r k _) = e.2 + tot r + m
      rw [ih]; omega
theorem getI_mem {kvs : List (List Int × Int)} {k : List Int} {v : Int} (h : getI kvs k = some v) : ∃ e ∈ kvs, e.2 = v := by
  unfold getI at h
  cases e : kvs.find? fun e => decide (e.1 = k) with
  | none => rw [e] at h; cases h
  | some x => rw [e] at h; cases h; exact ⟨x, List.mem_of_find?_eq_some e, rfl⟩
theorem putI_all {P : List Int × Int → Prop} {kvs : List (List Int × Int)} {k : List Int} {v : Int} (h : ∀ e ∈ kvs, P e) (hv : P (k, v)) : ∀ e ∈ putI kvs k v, P e := by
  intro e he
  unfold putI at he
  split at he
  · obtain ⟨x, hx, rfl⟩ := List.mem_map.mp he
    by_cases hk : x.1 = k
    · rw [if_pos hk, hk]; exact hv
    · rw [if_neg hk]; exact h x hx
  · rcases List.mem_append.mp he with he | he
    · exact h e he
    · simp at he; subst he; exact hv
theorem len_tot : ∀ {kvs : List (List Int × Int)}, (∀ e ∈ kvs, 1 ≤ e.2) → (kvs.length : Int) ≤ tot kvs
  | [], _ => by simp [tot]
  | e :: r, h => by
    have ih := len_tot (kvs := r) fun x hx => h x (.tail _ hx)
    have h1 := h e (.head _)
    show ((r.length + 1 : Nat) : Int) ≤ e.2 + tot r
    omega
end FK
end
section
set_option Elab.async false
set_option linter.all false
set_option maxRecDepth 100000
/-! How many states fit, at most; a state by its things. -/
namespace FK
open PySem PySem.Spec PyProof.Rows L2 Lg Lr RZ FM
variable [tbs : Tbs]
section
variable {K : PySem.W.Frag}
section
variable {ss : List Sl} {te tf : TE} {b : D}
theorem ev_mulTR {k : Nat} (h : EvD ss te (.rtup [b])) (h' : EvD ss tf (dN k)) (hk : k ≤ 1000) : EvD ss (tOp (rMul K) te tf) (.rtup (List.replicate k b)) := ev_op h h' fun x y ex ey H O Z v w Q nn hx hy q => by
  subst ex ey
  cases hy
  cases hx with
  | @rtup p xs _ h1 h5 =>
  have h4 : SqT K H p xs := SqT.of h1
  have hl := h5.length
  match xs, hl with
  | [u], _ =>
    by_cases h2 : 2 ≤ k
    · refine .inr (.inr (.inl ⟨p, k, [u], rfl, rfl, h4, (fun e => nomatch e), by omega, by omega, Nat.le_of_ble_eq_true rfl, fun p' hp => ?_⟩))
      rw [Int.toNat_natCast, flat_rep]
      refine q _ _ _ rfl (Ext.new hp) (.rtup upd_same ?_)
      have := (h5.rep k)
      rw [flat_rep, flat_rep] at this
      exact this.mv (Ext.stp (Ext.new hp))
    · refine .inr (.inr (.inr ⟨p, k, [u], rfl, rfl, h4, (fun e => nomatch e), ?_⟩))
      by_cases h1' : k = 1
      · subst h1'
        exact .inl ⟨rfl, q _ H _ rfl Ext.refl (.rtup h1 h5)⟩
      · obtain rfl : k = 0 := by omega
        exact .inr ⟨rfl, fun p' hp => q _ _ _ rfl (Ext.new hp) (.rtup upd_same .nil)⟩
theorem ev_sumL {ns : List Int} (h : EvN ss te (fun x => x = ns.map .int)) : EvD ss (tCB (rSum K) (tCons te tNil)) (.int ns.sum) := ev_cbV h.v fun ds e H O Z l xs Q nn h1 h2 q => by
  subst e
  rw [DqAll.of_ints h2] at h1
  exact ⟨l, ns, rfl, SqL.of h1, q _ H _ rfl Ext.refl (.int _)⟩
end
/-! ### floor_numbers -/
def A_floor_numbers (x : Nat × Nat × Fam × D) : List D := [.tup [x.2.2.2, wsD x.1 x.2.1 x.2.2.1]]
abbrev flF (V : Fam) (n : Nat) (j : Nat) : Int := fl (fun j => V j n) j
def sp_floor_numbers : Sp := spP A_floor_numbers (fun x => x.1 ≤ 3) (fun x d => d = .lst (upto x.1 fun j => .int (flF x.2.2.1 x.2.1 j)))
theorem c_floor_numbers (vs H Q E) (p : sp_floor_numbers vs H Q E) : t_floor_numbers K sp_known_sizes (fin Q) (L2.start N_floor_numbers vs) H := by
  refine body_P (fun x hx => ⟨by show 1 ≤ 4; decide, ?_⟩) p
  obtain ⟨F, n, V, o⟩ := x
  simp only at hx
  refine ht_seq (N1 := fun s => s = [.im (.tup [o, wsD F n V]), .im (tI (upto F fun j => V j n)), .un, .un]) (ht_asgD (ev_call (A := A_known_sizes) (F, n, V, o) (ea1 (ev_var rfl)) hx) rfl) ?_
  rintro ss1 rfl
  refine ht_retD (EvN.dat (en_lcA (n := F) (el := fun j => .rtup [.int (V j n), .int (if j = 0 then 0 else V (j - 1) n)]) (f := fun j => .int (flF V n j)) ?_ (by omega) rfl ?_)) rfl
  · have h := src_zTT (K := K) (ss := [.im (.tup [o, wsD F n V]), .im (tI (upto F fun j => V j n)), .un, .un]) (n := F) (ea2 (ev_var (i := 1) rfl) (ev_tB (ds := .int 0 :: ((upto F fun j => V j n).map .int ++ [])) (ea_cons ev_int (ea_star (K := K) (ev_var (i := 1) rfl) rfl ea_nil)) (by simp; omega))) rfl rfl (by simp)
    refine (Src.inl (src_el h fun j hj => ?_)).c
    show D.rtup [_, _] = _
    rw [map_upto, dAt_upto hj, List.append_nil]
    congr 3
    cases j with
    | zero => rfl
    | succ j => exact dAt_of (by rw [List.getElem?_cons_succ, upto_get (by omega)]; rfl)
  · intro j hj
    exact ⟨_, _, tgt_2 rfl, by decide, rfl, ev_sub (ev_var rfl) (ev_var rfl)⟩
/-! ### by_things -/
theorem mergeK_nodup : ∀ (l acc : List (L2.Key × L2.V)), ((acc ++ l).map (·.1)).Nodup → mergeK acc l = acc ++ l
  | [], acc, _ => by simp [mergeK]
  | e :: l, acc, h => by
    have hn : valV acc e.1 = none := by
      unfold valV
      rw [List.find?_eq_none.mpr]
      · rfl
      · intro x hx hxe
        rw [List.map_append, List.nodup_append] at h
        exact h.2.2 x.1 (List.mem_map.mpr ⟨x, hx, rfl⟩) e.1 (by simp) (by simpa using hxe)
    show mergeK (putK acc e.1 e.2) l = _
    rw [putK_new _ hn, mergeK_nodup l (acc ++ [(e.1, e.2)]) (by simpa using h)]
    simp
theorem valV_zip {ks : List Int} {vs : List L2.V} {j : Nat} {v : L2.V} (hn : ks.Nodup) (hl : ks.length = vs.length) (hv : vs[j]? = some v) : ∀ {k : Int}, ks[j]? = some k → valV (intK ks vs) (Sum.inl k) = some v := by
  intro k hk
  induction ks generalizing vs j with
  | nil => simp at hk
  | cons a ks ih =>
    cases vs with
    | nil => simp at hl
    | cons b vs =>
      rw [List.nodup_cons] at hn
      cases j with
      | zero =>
        simp at hk hv
        subst hk hv
        exact valV_pos rfl
      | succ j =>
        have hk' : ks[j]? = some k := by simpa using hk
        have hne : ¬ (Sum.inl a : L2.Key) = Sum.inl k := fun z => hn.1 (by rw [Sum.inl.inj z]; exact List.mem_of_getElem? hk')
        show valV ((Sum.inl a, b) :: intK ks vs) (Sum.inl k) = _
        rw [valV_neg hne]
        exact ih hn.2 (by simpa using hl) (by simpa using hv) hk'
/-- the state of an order and its floors -/
def stOf (o fs : List Nat) : List Nat := (List.range o.length).map fun z => fs.getD (o.idxOf z) 0
def A_by_things (x : List Nat × List Nat) : List D := [.ptup (x.1.map dN), .tup (x.2.map dN)]
def sp_by_things : Sp := spP A_by_things (fun x => x.1.Perm (List.range x.1.length) ∧ x.2.length = x.1.length ∧ x.1.length ≤ 10) (fun x d => d = .tup ((stOf x.1 x.2).map dN))
theorem c_by_things (vs H Q E) (p : sp_by_things vs H Q E) : t_by_things K (fin Q) (L2.start N_by_things vs) H := by
  refine body_P (fun x hx => ⟨by show 2 ≤ 4; decide, ?_⟩) p
  obtain ⟨o, fs⟩ := x
  obtain ⟨hp, hl, hn⟩ := hx
  simp only at hp hl hn
  have ei : ∀ l : List Nat, l.map dN = (l.map fun i : Nat => (i : Int)).map D.int := fun l => by rw [List.map_map]; rfl
  have hnd : o.Nodup := hp.nodup_iff.mpr List.nodup_range
  have hnI : (o.map fun i : Nat => (i : Int)).Nodup := List.Pairwise.map _ (fun a b h z => h (by omega)) hnd
  have hkey : (intK (o.map fun i : Nat => (i : Int)) ((fs.map fun i : Nat => (i : Int)).map L2.V.int)).map (·.1) = (o.map fun i : Nat => (i : Int)).map Sum.inl := List.map_fst_zip (by simp [hl])
  refine ht_seq (N1 := fun s => s = [.im (.ptup (o.map dN)), .im (.tup (fs.map dN)), .obj (.dK (intK (o.map fun i : Nat => (i : Int)) ((fs.map fun i : Nat => (i : Int)).map L2.V.int))), .un]) (ht_asgW (ew_zip (ks := o.map fun i : Nat => (i : Int)) (ms := fs.map fun i : Nat => (i : Int)) (ea2 (ev_var rfl) (ev_var rfl)) (by rw [← ei]; rfl) (by rw [← ei]; rfl) (by simp [hl])) ?_) ?_
  · rintro u rfl
    rw [mergeK_nodup _ [] (by
      rw [List.nil_append, hkey]
      exact List.Pairwise.map _ (fun a b h z => h (Sum.inl.inj z)) hnI)]
    rfl
  rintro ss1 rfl
  refine ht_retD (ev_tA (en_lcA (n := o.length) (el := fun i => .int (i : Int)) (f := fun i => dN (fs.getD (o.idxOf i) 0)) (src_r1 (ea1 ?_) (by omega)).c (by omega) rfl ?_).v) ?_
  · have := ev_len (K := K) (ss := [.im (.ptup (o.map dN)), .im (.tup (fs.map dN)), .obj (.dK (intK (o.map fun i : Nat => (i : Int)) ((fs.map fun i : Nat => (i : Int)).map L2.V.int))), .un]) (te := tVar 0) (a := .ptup (o.map dN)) (ev_var rfl) rfl
    rw [List.length_map] at this
    exact this
  · intro i hi
    have hm : i ∈ o := hp.mem_iff.mpr (List.mem_range.mpr hi)
    have hj : o.idxOf i < o.length := List.idxOf_lt_length_of_mem hm
    refine ⟨_, _, tgt_name, by decide, rfl, ev_dget (kvs := intK (o.map fun i : Nat => (i : Int)) ((fs.map fun i : Nat => (i : Int)).map L2.V.int)) rfl (ev_var rfl) (valV_zip (j := o.idxOf i) hnI (by simp [hl]) ?_ ?_)⟩
    · rw [List.getElem?_map, List.getElem?_map, List.getD_eq_getElem?_getD, List.getElem?_eq_getElem (by omega)]; rfl
    · rw [List.getElem?_map, List.getElem?_eq_getElem hj, List.getElem_idxOf]; rfl
  · show D.tup _ = D.tup _
    unfold stOf
    rw [List.map_map]; rfl
/-! ### count_states -/
abbrev kN (F : Nat) (g : Nat → Int) : List Int := upto F g
structure Good (F : Nat) (b : Int) (kvs : List (List Int × Int)) : Prop where
  tot : tot kvs ≤ b
  nd : (kvs.map (·.1)).Nodup
  key : ∀ e ∈ kvs, (∃ g, e.1 = kN F g) ∧ 1 ≤ e.2
theorem Good.len {F : Nat} {b : Int} {kvs : List (List Int × Int)} (h : Good F b kvs) : (kvs.length : Int) ≤ b := Int.le_trans (len_tot fun e he => (h.key e he).2) h.tot
theorem Good.put {F : Nat} {b m : Int} {kvs : List (List Int × Int)} {g : Nat → Int} (h : Good F b kvs) (hm : 1 ≤ m) : Good F (b + m) (putI kvs (kN F g) ((getI kvs (kN F g)).getD 0 + m)) := by
  refine ⟨by rw [tot_put h.nd]; have := h.tot; omega, putI_nodup h.nd, putI_all h.key ⟨⟨g, rfl⟩, ?_⟩⟩
  show 1 ≤ (getI kvs (kN F g)).getD 0 + m
  cases e : getI kvs (kN F g) with
  | none => simp; omega
  | some v =>
    obtain ⟨x, hx, rfl⟩ := getI_mem e
    have := (h.key x hx).2
    simp; omega
theorem nxts_len {F : Nat} {V : Fam} {most g : Nat → Int} {p : Nat} : (nxts F V most g p).length ≤ F + 1 := by
  unfold nxts
  have := List.length_filter_le (accB F V most g p) (List.range (F + 1))
  rwa [List.length_range] at this
theorem elT_of {kvs : List (List Int × Int)} {j : Nat} {e : List Int × Int} (h : kvs[j]? = some e) : elT kvs j = .rtup [.rtup (e.1.map .int), .int e.2] := by
  unfold elT; rw [h]
theorem pow4 {i : Nat} (h : i ≤ 5) : (4 : Int) ^ i ≤ 1024 := by
  have : i = 0 ∨ i = 1 ∨ i = 2 ∨ i = 3 ∨ i = 4 ∨ i = 5 := by omega
  rcases this with rfl | rfl | rfl | rfl | rfl | rfl <;> decide
theorem Good.mono {F : Nat} {b b' : Int} {kvs : List (List Int × Int)} (h : Good F b kvs) (hb : b ≤ b') : Good F b' kvs := ⟨Int.le_trans h.tot hb, h.nd, h.key⟩
theorem tot_take {kvs : List (List Int × Int)} {j : Nat} {e : List Int × Int} (h : kvs[j]? = some e) : tot (kvs.take (j + 1)) = tot (kvs.take j) + e.2 := by
  rw [List.take_add_one, h]
  simp [tot]
theorem tot_take_le {F : Nat} {b : Int} {kvs : List (List Int × Int)} (h : Good F b kvs) (j : Nat) : tot (kvs.take j) ≤ tot kvs := by
  have h1 : tot kvs = tot (kvs.take j) + tot (kvs.drop j) := by
    have : kvs = kvs.take j ++ kvs.drop j := (List.take_append_drop j kvs).symm
    unfold tot
    rw [← List.sum_append, ← List.map_append, ← this]
  have h2 := len_tot (kvs := kvs.drop j) fun e he => (h.key e (List.mem_of_mem_drop he)).2
  omega
def A_count_states (x : Nat × Fam × List Nat) : List D := [.tup [.ptup (x.2.2.map dN), wsD x.1 x.2.2.length x.2.1]]
def sp_count_states : Sp := spP A_count_states (fun x => 0 < x.1 ∧ x.1 ≤ 3 ∧ x.2.2.length ≤ 5) (fun x d => ∃ c : Int, d = .int c ∧ c ≤ 3000)
theorem c_count_states (vs H Q E) (p : sp_count_states vs H Q E) : t_count_states K sp_floor_numbers sp_next_numbers (fin Q) (L2.start N_count_states vs) H := by
  refine body_P (fun x hx => ⟨by show 1 ≤ 11; decide, ?_⟩) p
  obtain ⟨F, V, o⟩ := x
  obtain ⟨F0, F3, hn⟩ := hx
  simp only at F0 F3 hn
  generalize hlo : o.length = n at hn
  show HT (ims [.tup [.ptup (o.map dN), wsD F o.length V]] 11) _ _ _ _ _
  rw [hlo]
  let kD' : D := .tup [.ptup (o.map dN), wsD F n V]
  let oD : D := .ptup (o.map dN)
  let wD : D := wsD F n V
  let mD : D := .lst (upto F fun j => .int (flF V n j))
  refine ht_seq (N1 := fun s => s = [.im kD', .im oD, .im wD, .un, .un, .un, .un, .un, .un, .un, .un]) (ht_asgG (ev_var rfl) (tgt_2 rfl) rfl) ?_
  rintro ss1 rfl
  refine ht_seq (N1 := fun s => s = [.im kD', .im oD, .im wD, .im mD, .un, .un, .un, .un, .un, .un, .un]) (ht_asgD (ev_call (A := A_floor_numbers) (F, n, V, oD) (ea1 (ev_var rfl)) F3) rfl) ?_
  rintro ss1 rfl
  have hlen : ∀ {ss : List Sl}, ss[2]? = some (.im wD) → EvD ss (tCB (Lg.rLen K) (tCons (tVar 2) tNil)) (dN F) := fun h => by
    have := ev_len (K := K) (ev_var h) (a := wD) rfl
    rw [upto_len] at this; exact this
  let S : Sl → Sl → Sl → Sl → Sl → Sl → Sl → List Sl := fun f p l a b c d => [.im kD', .im oD, .im wD, .im mD, f, p, l, a, b, c, d]
  refine ht_seq (N1 := fun s => s = S (.obj (dT [(List.replicate F 0, 1)])) .un .un .un .un .un .un) (ht_asgW (ew_disp (ks := List.replicate F 0) ((ev_mulTR (ev_tBR (ea1 ev_int) one_le) (hlen rfl) (by omega)).to (by rw [List.map_replicate])) ev_int) ?_) ?_
  · rintro u rfl; rfl
  rintro ss1 rfl
  have hrep : List.replicate F (0 : Int) = kN F fun _ => 0 := by
    apply List.ext_getElem? ; intro j
    rw [List.getElem?_replicate]
    by_cases h : j < F
    · rw [if_pos h, upto_get h]
    · rw [if_neg h, List.getElem?_eq_none (by rw [upto_len]; omega)]
  refine ht_seq (N1 := fun s => ∃ kvs p a b c d, s = S (.obj (dT kvs)) p .un a b c d ∧ Good F (4 ^ n) kvs) (ht_for (n := n) (el := fun i => .int (i : Int)) (src_r1 (ea1 ?_) (by omega))
    (fun i s => ∃ kvs p a b c d, s = S (.obj (dT kvs)) p .un a b c d ∧ Good F (4 ^ i) kvs ∧ noRo [a, b, c, d] = true) ⟨_, .un, .un, .un, .un, .un, rfl, ⟨by simp [FK.tot], by simp, fun e he => by simp at he; subst he; exact ⟨⟨_, hrep⟩, Int.le_refl _⟩⟩, rfl⟩ ?_ ?_) ?_
  · have := ev_len (K := K) (ss := S (.obj (dT [(List.replicate F 0, 1)])) .un .un .un .un .un .un) (te := tVar 1) (a := oD) (ev_var rfl) rfl
    rw [List.length_map, hlo] at this
    exact this
  · rintro i ss1 hi ⟨kvs, p, a, b, c, d, rfl, hg, hro⟩
    refine ⟨_, _, tgt_name, ?_⟩
    refine ht_seq (N1 := fun s => s = S (.obj (dT kvs)) (.im (dN i)) (.obj (dT [])) a b c d) (ht_asgW ew_newT ?_) ?_
    · rintro u rfl; rfl
    rintro ss1 rfl
    have hp4 : (4 : Int) ^ i ≤ 1024 := pow4 (by omega)
    refine ht_seq (N1 := fun s => ∃ lat a b c d, s = S .un (.im (dN i)) (.obj (dT lat)) a b c d ∧ Good F (4 ^ (i + 1)) lat ∧ noRo [a, b, c, d] = true)
      (ht_forItems (kvs := kvs) rfl (fun j s => ∃ lat a b c d, s = S .un (.im (dN i)) (.obj (dT lat)) a b c d ∧ Good F (4 * FK.tot (kvs.take j)) lat ∧ noRo [a, b, c, d] = true) ⟨[], a, b, c, d, rfl, ⟨by simp [FK.tot], by simp, fun e he => absurd he (by simp)⟩, hro⟩ ?_ ?_) ?_
    · rintro j ss1 hj ⟨lat, a, b, c, d, rfl, hgl, hro⟩
      have he : kvs[j]? = some kvs[j] := List.getElem?_eq_getElem hj
      obtain ⟨⟨g, hgk⟩, he1⟩ := hg.key kvs[j] (List.getElem_mem hj)
      generalize kvs[j] = e at he hgk he1
      refine ⟨_, _, tgt_2 (a := elT kvs j) (by rw [elT_of he]; rfl), ?_⟩
      rw [hgk, map_upto]
      let L := nxts F V (flF V n) g i
      have hL : L.length ≤ F + 1 := nxts_len
      have hbound : 4 * FK.tot (kvs.take (j + 1)) ≤ 4096 := by
        have h1 := tot_take_le hg (j + 1)
        have h2 := hg.tot
        omega
      have htk := tot_take he
      refine ht_for (n := L.length) (el := fun k => nxD F g (L.getD k 0)) ?_ (fun k s => ∃ lat x y, s = S .un (.im (dN i)) (.obj (dT lat)) (.im (numD F g)) (.im (.int e.2)) x y ∧ Good F (4 * FK.tot (kvs.take j) + k * e.2) lat ∧ noRo [x, y] = true) ⟨lat, c, d, rfl, hgl.mono (by simp), ?_⟩ ?_ ?_
      · have h := src_lst (K := K) (ds := L.map (nxD F g)) ((ev_call (E := E0) (ss := S .un (.im (dN i)) (.obj (dT lat)) (.im (numD F g)) (.im (.int e.2)) c d) (A := A_next_numbers) (Pre := fun a => 0 < a.F ∧ a.F ≤ 3 ∧ a.p < a.n ∧ a.n ≤ 10) (Post := fun a d => d = .lst ((nxts a.F a.V a.most a.g a.p).map (nxD a.F a.g))) ⟨F, n, V, flF V n, g, i⟩ (ea_cons (ev_var (i := 2) rfl) (ea3 (ev_var (i := 3) rfl) (ev_var (i := 7) rfl) (ev_var (i := 5) rfl))) ⟨F0, F3, hi, by show n ≤ 10; omega⟩))
        rw [List.length_map] at h
        refine Src.inl (src_el h fun k hk => ?_)
        rw [dAt_map (a := L.getD k 0) (by rw [List.getD_eq_getElem?_getD, List.getElem?_eq_getElem hk]; rfl)]
      · simp only [noRo, List.all_cons, List.all_nil, Bool.and_true, Bool.and_eq_true] at hro ⊢
        exact ⟨hro.2.2.1, hro.2.2.2⟩
      · rintro k ss1 hk ⟨lat, x, y, rfl, hgl, hro⟩
        let f := L.getD k 0
        refine ⟨_, _, tgt_2 (a1 := dN f) (a2 := numD F (bump g f)) rfl, ?_⟩
        have hll : lat.length < 100000 := by
          have h1 := hgl.len
          have h2 : (k : Int) * e.2 ≤ 4 * e.2 := Int.mul_le_mul_of_nonneg_right (by omega) (by omega)
          omega
        refine ht_dput (kvs := lat.map (encK L2.V.int)) (ks := kN F (bump g f)) (w := .int ((getI lat (kN F (bump g f))).getD 0 + e.2)) (d := .int ((getI lat (kN F (bump g f))).getD 0 + e.2)) rfl
          (ev_add (ev_dget2 (kvs := lat.map (encK L2.V.int)) (ks := kN F (bump g f)) (n := 0) (m := (getI lat (kN F (bump g f))).getD 0) rfl ((ev_var rfl).to (by rw [map_upto])) ev_int ?_) (ev_var rfl)) (fun H O Z x h => by cases h; rfl) ((ev_var rfl).to (by rw [map_upto])) (by rw [List.length_map]; exact hll) ?_
        · rw [getI_enc]
          cases getI lat (kN F (bump g f)) <;> rfl
        · refine ⟨putI lat (kN F (bump g f)) ((getI lat (kN F (bump g f))).getD 0 + e.2), .im (dN f), .im (numD F (bump g f)), ?_, (hgl.put (g := bump g f) he1).mono ?_, rfl⟩
          · rw [putI_enc]; rfl
          · have : ((k + 1 : Nat) : Int) * e.2 = k * e.2 + e.2 := by rw [Int.natCast_succ, Int.add_mul, Int.one_mul]
            omega
      · rintro ss1 ⟨lat, x, y, rfl, hgl, hro⟩
        refine ⟨lat, _, _, x, y, rfl, hgl.mono ?_, ?_⟩
        · have h2 : (L.length : Int) * e.2 ≤ 4 * e.2 := Int.mul_le_mul_of_nonneg_right (by omega) (by omega)
          omega
        · simp only [noRo, List.all_cons, List.all_nil, Bool.and_true, Bool.and_eq_true] at hro ⊢
          exact ⟨trivial, trivial, hro.1, hro.2⟩
    · rintro ss1 ⟨lat, a, b, c, d, rfl, hgl, hro⟩
      refine ⟨hro, lat, a, b, c, d, rfl, hgl.mono ?_, hro⟩
      rw [List.take_length, Int.pow_succ]
      have := hg.tot
      omega
    rintro ss1 ⟨lat, a, b, c, d, rfl, hg2, hro2⟩
    exact ht_move (j := 6) (i := 4) rfl (by decide) ⟨lat, .im (dN i), a, b, c, d, rfl, hg2, hro2⟩
  · rintro ss1 ⟨kvs, p, a, b, c, d, rfl, hg, _⟩
    exact ⟨kvs, p, a, b, c, d, rfl, hg⟩
  rintro ss1 ⟨kvs, p, a, b, c, d, rfl, hg⟩
  refine ht_retD (ev_sumL (ns := kvs.map (·.2)) (en_vals (kvs := kvs.map fun p => (p.1.map Sum.inl, .int p.2)) rfl (by rw [List.map_map, List.map_map]; rfl))) ⟨_, rfl, ?_⟩
  have := hg.tot
  have h4 : (4 : Int) ^ n ≤ 1024 := pow4 (by omega)
  show FK.tot kvs ≤ 3000
  omega
end
end FK
end
section
set_option Elab.async false
set_option linter.all false
set_option maxRecDepth 100000
/-! sorted lists of states; all states that fit. -/
namespace FK
open PySem PySem.Spec PyProof.Rows L2 Lg Lr RZ FM
/-- a state as data, as a list of ints -/
abbrev stD (st : List Nat) : D := .tup (st.map dN)
abbrev stI (st : List Nat) : List Int := st.map fun i : Nat => (i : Int)
/-- states in their order -/
abbrev leS (a b : List Nat) : Bool := decide (stI a ≤ stI b)
abbrev sortS (l : List (List Nat)) : List (List Nat) := l.mergeSort leS
theorem dataLe_tup {β : Type} (x : β → List Int) : PySem.W.dataLe false (fun b => PyData.tuple ((x b).map .int)) = fun p q => decide (x p ≤ x q) := PySem.W.dataLe_rows x
theorem alike_ints : ∀ (a b : List Int), PySem.W.alike (PyData.tuple (a.map .int)) (PyData.tuple (b.map .int)) = true
  | [], _ => by simp [PySem.W.alike, PySem.W.alikeAll]
  | _ :: _, [] => by simp [PySem.W.alike, PySem.W.alikeAll]
  | x :: a, y :: b => by
    have := alike_ints a b
    simp only [PySem.W.alike] at this ⊢
    simp [PySem.W.alikeAll, PySem.W.alike]
    exact this
variable [tbs : Tbs]
theorem stD_py (st : List Nat) : (stD st).py = .tuple ((stI st).map .int) := by
  show PyData.tuple (D.pys _) = _
  rw [D.pys_eq, List.map_map, List.map_map]; rfl
section
variable {K : PySem.W.Frag} {ss : List Sl} {te : TE}
theorem dqAll_mem {H : Hp} {O Z : Av} {α : Type} {enc : α → D} : ∀ {xs : List L2.V} {l : List α}, DqAll H O Z xs (l.map enc) → ∀ p ∈ xs.zip l, Dq H O Z p.1 (enc p.2)
  | _, [], .nil, p, h => by simp at h
  | _, a :: l, .cons q t, p, h => by
    rw [List.zip_cons_cons] at h
    rcases List.mem_cons.mp h with rfl | h
    · exact q
    · exact dqAll_mem t p h
theorem dqAll_pairs {H : Hp} {O Z : Av} {α : Type} {enc : α → D} : ∀ {ps : List (L2.V × α)}, (∀ p ∈ ps, Dq H O Z p.1 (enc p.2)) → DqAll H O Z (ps.map (·.1)) ((ps.map (·.2)).map enc)
  | [], _ => .nil
  | p :: ps, h => .cons (h p (.head _)) (dqAll_pairs fun q hq => h q (.tail _ hq))
/-- sorted(l), l a list of states -/
theorem en_sortS {l : List (List Nat)} (h : EvV ss te (fun x => x = l.map stD)) (hz : l.length ≤ 1 ∨ ∀ st ∈ l, st ≠ []) (hl : l.length ≤ 100000) : EvN ss (tCB (rSortD K) (tCons te tNil)) (fun x => x = (sortS l).map stD) := fun Z Bg σ H O Q g q => h Z Bg σ H O _ g fun p xs ds H1 e g1 s1 h1 h2 => by
  subst e
  have hxl : xs.length = l.length := by rw [h2.length, List.length_map]
  have hpy : (D.pys (l.map stD)) = l.map fun st => PyData.tuple ((stI st).map .int) := by
    rw [D.pys_eq, List.map_map]
    exact List.map_congr_left fun st _ => stD_py st
  have hsort : sortV xs (D.pys (l.map stD)) = ((xs.zip l).mergeSort fun p q => leS p.2 q.2).map (·.1) := by
    unfold sortV
    have h3 : xs.zip (D.pys (l.map stD)) = (xs.zip l).map fun p => (p.1, PyData.tuple ((stI p.2).map .int)) := by
      rw [hpy, List.zip_map_right]; rfl
    rw [h3, ← List.map_mergeSort (r := fun p q => leS p.2 q.2), List.map_map]
    · rfl
    · intro a _ b _
      have := congrFun (congrFun (dataLe_tup (fun b : L2.V × List Nat => stI b.2)) a) b
      exact this.symm
  refine ⟨p, xs, D.pys (l.map stD), rfl, SqL.of h1, DqAll.dp h2, ?_, ?_, fun r hr => ?_⟩
  · rcases hz with hz | hz
    · exact .inl (by omega)
    · refine .inr ⟨fun d hd d' hd' => ?_, .inl fun d hd => ?_⟩
      · rw [hpy] at hd hd'
        obtain ⟨a, _, rfl⟩ := List.mem_map.mp hd
        obtain ⟨b, _, rfl⟩ := List.mem_map.mp hd'
        exact alike_ints (stI a) (stI b)
      · rw [hpy] at hd
        obtain ⟨a, ha, rfl⟩ := List.mem_map.mp hd
        cases a with
        | nil => exact absurd rfl (hz [] ha)
        | cons x r => exact ⟨_, _, rfl⟩
  · intro d hd
    rw [hpy] at hd
    obtain ⟨a, _, rfl⟩ := List.mem_map.mp hd
    exact depth_ints _
  · have nO : ¬ O r := (g1.wd.fresh hr).1
    refine q r _ _ _ rfl nO (s1.was hr nO) (g1.more (Ext.new hr) hr (by rw [upd_same]; exact fun z => nomatch z)) (s1.trans (stp_more hr)) upd_same ?_
    rw [hsort]
    have h4 : (((xs.zip l).mergeSort fun p q => leS p.2 q.2).map (·.2)) = sortS l := by
      rw [List.map_mergeSort (s := leS) (fun _ _ _ _ => rfl), List.map_snd_zip (by omega)]
    rw [← h4]
    refine (dqAll_pairs fun pr hpr => ?_).mv (stp_more hr)
    exact dqAll_mem h2 pr ((List.mergeSort_perm _ _).mem_iff.mp hpr)
end
/-! ### states_of -/
/-- how many of fs are j -/
abbrev cnF (fs : List Nat) : Nat → Int := fun j => (fs.count j : Int)
/-- the floors of the first p things of the order that may be -/
noncomputable def lineL (F : Nat) (V : Fam) (most : Nat → Int) : Nat → List (List Nat)
  | 0 => [[]]
  | p + 1 => (lineL F V most p).flatMap fun fs => (nxts F V most (cnF fs) p).map fun f => fs ++ [f]
theorem lineL_mem {F : Nat} {V : Fam} {most : Nat → Int} : ∀ {p : Nat} {fs : List Nat}, fs ∈ lineL F V most p → fs.length = p
  | 0, fs, h => by simp [lineL] at h; simp [h]
  | p + 1, fs, h => by
    unfold lineL at h
    obtain ⟨gs, hg, h⟩ := List.mem_flatMap.mp h
    obtain ⟨f, _, rfl⟩ := List.mem_map.mp h
    have := lineL_mem hg
    simp [this]
theorem flatMap_len {α β : Type} {f : α → List β} {k : Nat} : ∀ {l : List α}, (∀ a ∈ l, (f a).length ≤ k) → (l.flatMap f).length ≤ l.length * k
  | [], _ => by simp
  | a :: l, h => by
    rw [List.flatMap_cons, List.length_append, List.length_cons, Nat.add_mul]
    have h1 := h a (.head _)
    have h2 := flatMap_len (l := l) fun b hb => h b (.tail _ hb)
    omega
theorem lineL_len {F : Nat} {V : Fam} {most : Nat → Int} (hF : F ≤ 3) : ∀ p, (lineL F V most p).length ≤ 4 ^ p
  | 0 => by simp [lineL]
  | p + 1 => by
    have h1 := lineL_len (V := V) (most := most) hF p
    have h2 : (lineL F V most (p + 1)).length ≤ (lineL F V most p).length * 4 := by
      show ((lineL F V most p).flatMap fun fs => (nxts F V most (cnF fs) p).map fun f => fs ++ [f]).length ≤ _
      refine flatMap_len fun fs _ => ?_
      rw [List.length_map]
      exact Nat.le_trans nxts_len (by omega)
    rw [Nat.pow_succ]; omega
theorem pow4N {i : Nat} (h : i ≤ 5) : (4 : Nat) ^ i ≤ 1024 := by
  have : i = 0 ∨ i = 1 ∨ i = 2 ∨ i = 3 ∨ i = 4 ∨ i = 5 := by omega
  rcases this with rfl | rfl | rfl | rfl | rfl | rfl <;> decide
abbrev lnE (F : Nat) (fs : List Nat) : D := .rtup [stD fs, numD F (cnF fs)]
theorem bump_cn {F : Nat} {fs : List Nat} {f : Nat} : numD F (bump (cnF fs) f) = numD F (cnF (fs ++ [f])) := by
  show D.rtup _ = D.rtup _
  refine congrArg _ (upto_congr fun j hj => ?_)
  show D.int ((fs.count j : Int) + if j = f then 1 else 0) = D.int (((fs ++ [f]).count j : Nat) : Int)
  congr 1
  rw [List.count_append]
  by_cases h : j = f
  · subst h; simp
  · rw [if_neg h, List.count_eq_zero_of_not_mem (a := j) (l := [f]) (by simp [h])]; simp
theorem upto_getD {α β : Type} {l : List α} {a : α} {f : α → β} : upto l.length (fun k => f (l.getD k a)) = l.map f := by
  apply List.ext_getElem?
  intro k
  by_cases h : k < l.length
  · rw [upto_get h, List.getElem?_map, List.getD_eq_getElem?_getD, List.getElem?_eq_getElem h]; rfl
  · rw [List.getElem?_eq_none (by rw [upto_len]; omega), List.getElem?_eq_none (by rw [List.length_map]; omega)]
theorem htn_forget {ss : List Sl} {t : TS} {P : List D → Prop} (i : Nat) (h : HTN (ss.set i .un) t P) : HTN ss t P := fun Z Bg σ H O E g q => h Z Bg σ H O E (g.forget i) q
section
variable {K : PySem.W.Frag}
def A_states_of (x : D × Nat × Fam × List Nat) : List D := [x.1, .tup [.ptup (x.2.2.2.map dN), wsD x.2.1 x.2.2.2.length x.2.2.1]]
noncomputable abbrev statesL (F : Nat) (V : Fam) (o : List Nat) : List (List Nat) := (lineL F V (flF V o.length) o.length).map (stOf o)
noncomputable def sp_states_of : Sp := spN A_states_of (fun x => 0 < x.2.1 ∧ x.2.1 ≤ 3 ∧ x.2.2.2.length ≤ 5 ∧ x.2.2.2.Perm (List.range x.2.2.2.length)) (fun x es => es = (sortS (statesL x.2.1 x.2.2.1 x.2.2.2)).map stD)
theorem c_states_of (vs H Q E) (p : sp_states_of vs H Q E) : t_states_of K sp_count_states sp_floor_numbers sp_next_numbers sp_by_things (fin Q) (L2.start N_states_of vs) H := by
  refine body_N (fun x hx => ⟨by show 2 ≤ 12; decide, ?_⟩) p
  obtain ⟨hD, F, V, o⟩ := x
  obtain ⟨F0, F3, hn, hp⟩ := hx
  simp only at F0 F3 hn hp
  generalize hlo : o.length = n at hn hp
  show HTN (ims [hD, .tup [.ptup (o.map dN), wsD F o.length V]] 12) _ fun es => es = (sortS ((lineL F V (flF V o.length) o.length).map (stOf o))).map stD
  rw [hlo]
  let kD' : D := .tup [.ptup (o.map dN), wsD F n V]
  let oD : D := .ptup (o.map dN)
  let wD : D := wsD F n V
  let mD : D := .lst (upto F fun j => .int (flF V n j))
  let S0 : Sl → List Sl := fun m => [.im hD, .im kD', .im oD, .im wD, m, .un, .un, .un, .un, .un, .un, .un]
  refine htn_seq (N1 := fun s => s = S0 .un) (ht_asgG (ev_var rfl) (tgt_2 rfl) rfl) ?_
  rintro ss1 rfl
  refine htn_seq (N1 := fun s => s = S0 .un) (ht_if (Bb := fun b => b = false) (eb_test (EvP.mono (ev_op (Pa := fun d => ∃ c : Int, d = .int c ∧ c ≤ 3000) (Pb := fun d => d = .int 3000) (P := fun d => d = .bl false) (ev_call (E := E0) (A := A_count_states) (Pre := fun x => 0 < x.1 ∧ x.1 ≤ 3 ∧ x.2.2.length ≤ 5) (Post := fun x d => ∃ c : Int, d = .int c ∧ c ≤ 3000) (F, V, o) (ea1 (EvD.to (ev_var (i := 1) rfl) (by show kD' = .tup [.ptup (o.map dN), wsD F o.length V]; rw [hlo]))) ⟨F0, F3, by show o.length ≤ 5; omega⟩) ev_int ?_) fun d e => ⟨false, e, rfl⟩)) (fun h => nomatch h) fun _ => ht_next rfl) ?_
  · rintro a b ⟨c, rfl, hc⟩ rfl
    have h1 : decide ((3000 : Int) < c) = false := by simp; omega
    exact rd_I0 fun H O Z => by rw [h1]; exact .bl _
  rintro ss1 rfl
  refine htn_seq (N1 := fun s => s = S0 (.im mD)) (ht_asgD (ev_call (A := A_floor_numbers) (F, n, V, oD) (ea1 (ev_var rfl)) F3) rfl) ?_
  rintro ss1 rfl
  let S : List (List Nat) → Sl → Sl → Sl → Sl → Sl → Sl → List Sl := fun l p lo a b c d => [.im hD, .im kD', .im oD, .im wD, .im mD, .im (.lst (l.map (lnE F))), p, lo, a, b, c, d]
  have hlen : ∀ {ss : List Sl}, ss[3]? = some (.im wD) → EvD ss (tCB (Lg.rLen K) (tCons (tVar 3) tNil)) (dN F) := fun h => by
    have := ev_len (K := K) (ev_var h) (a := wD) rfl
    rw [upto_len] at this; exact this
  have hleno : ∀ {ss : List Sl}, ss[2]? = some (.im oD) → EvD ss (tCB (Lg.rLen K) (tCons (tVar 2) tNil)) (dN n) := fun h => by
    have := ev_len (K := K) (ev_var h) (a := oD) rfl
    rw [List.length_map, hlo] at this; exact this
  let Ln := lineL F V (flF V n)
  refine htn_seq (N1 := fun s => s = S (Ln 0) .un .un .un .un .un .un) (ht_asgD (EvN.dat (en_d (ea1 (ev_tBR (ea2 (ev_tB ea_nil (Nat.zero_le _)) (ev_mulTR (ev_tBR (ea1 ev_int) one_le) (hlen rfl) (by omega))) (Nat.le_of_ble_eq_true rfl))) one_le)) ?_) ?_
  · have hrep : List.replicate F (D.int 0) = upto F fun j => .int (cnF [] j) := by
      apply List.ext_getElem? ; intro j
      rw [List.getElem?_replicate]
      by_cases h : j < F
      · rw [if_pos h, upto_get h]; rfl
      · rw [if_neg h, List.getElem?_eq_none (by rw [upto_len]; omega)]
    show [_, _, _, _, _, Sl.im (.lst [.rtup [.tup [], .rtup (List.replicate F (D.int 0))]]), _, _, _, _, _, _] = _
    rw [hrep]; rfl
  rintro ss1 rfl
  refine htn_seq (N1 := fun s => ∃ p lo a b c d, s = S (Ln n) p lo a b c d) (ht_for (n := n) (el := fun i => .int (i : Int)) (src_r1 (ea1 (hleno rfl)) (by omega)) (fun i s => ∃ p lo a b c d, s = S (Ln i) p lo a b c d) ⟨_, _, _, _, _, _, rfl⟩ ?_ fun ss1 h => h) ?_
  · rintro i ss1 hi ⟨p, lo, a, b, c, d, rfl⟩
    refine ⟨_, _, tgt_name, ?_⟩
    refine ht_seq (N1 := fun s => s = S (Ln i) (.im (dN i)) (.own []) a b c d) (ht_asgNL en_nil rfl) ?_
    rintro ss1 rfl
    have hl4 : ∀ k, k ≤ 5 → (Ln k).length ≤ 1024 := fun k hk => Nat.le_trans (lineL_len F3 k) (pow4N hk)
    let P : Nat → List (List Nat) := fun k => ((Ln i).take k).flatMap fun fs => (nxts F V (flF V n) (cnF fs) i).map fun f => fs ++ [f]
    have hPn : P (Ln i).length = Ln (i + 1) := by
      show ((Ln i).take (Ln i).length).flatMap _ = _
      rw [List.take_length]; rfl
    have hPl : ∀ k, (P k).length ≤ 4096 := fun k => by
      have h1 : (P k).length ≤ ((Ln i).take k).length * 4 := flatMap_len fun fs _ => by
        rw [List.length_map]; exact Nat.le_trans nxts_len (by omega)
      have h2 := hl4 i (by omega)
      rw [List.length_take] at h1
      omega
    refine ht_seq (N1 := fun s => ∃ a b c d, s = S (Ln i) (.im (dN i)) (.own ((Ln (i + 1)).map (lnE F))) a b c d) (ht_for (n := (Ln i).length) (el := fun k => lnE F ((Ln i).getD k [])) ?_ (fun k s => ∃ a b c d, s = S (Ln i) (.im (dN i)) (.own ((P k).map (lnE F))) a b c d) ⟨a, b, c, d, rfl⟩ ?_ ?_) ?_
    · have h := src_lst (K := K) (ds := (Ln i).map (lnE F)) (ss := S (Ln i) (.im (dN i)) (.own []) a b c d) (te := tVar 5) (ev_var rfl)
      rw [List.length_map] at h
      exact Src.inl (src_el h fun k hk => by rw [dAt_map (a := (Ln i).getD k []) (by rw [List.getD_eq_getElem?_getD, List.getElem?_eq_getElem hk]; rfl)])
    · rintro k ss1 hk ⟨a, b, c, d, rfl⟩
      let fs := (Ln i).getD k []
      have hfs : (Ln i)[k]? = some fs := by
        show _ = some ((Ln i).getD k [])
        rw [List.getD_eq_getElem?_getD, List.getElem?_eq_getElem hk]; rfl
      have hP1 : P (k + 1) = P k ++ (nxts F V (flF V n) (cnF fs) i).map fun f => fs ++ [f] := by
        show ((Ln i).take (k + 1)).flatMap _ = _
        rw [List.take_add_one, hfs, List.flatMap_append]
        show _ ++ List.flatMap _ [fs] = _
        rw [List.flatMap_cons, List.flatMap_nil, List.append_nil]
      refine ⟨_, _, tgt_2 (a1 := stD fs) (a2 := numD F (cnF fs)) rfl, ?_⟩
      let L := nxts F V (flF V n) (cnF fs) i
      have hfl : fs.length = i := lineL_mem (List.mem_of_getElem? hfs)
      refine ht_for (n := L.length) (el := fun q => nxD F (cnF fs) (L.getD q 0)) ?_ (fun q s => ∃ c d, s = S (Ln i) (.im (dN i)) (.own ((P k ++ (L.take q).map fun f => fs ++ [f]).map (lnE F))) (.im (stD fs)) (.im (numD F (cnF fs))) c d) ⟨c, d, ?_⟩ ?_ ?_
      · have h := src_lst (K := K) (ds := L.map (nxD F (cnF fs))) ((ev_call (E := E0) (ss := S (Ln i) (.im (dN i)) (.own ((P k).map (lnE F))) (.im (stD fs)) (.im (numD F (cnF fs))) c d) (A := A_next_numbers) (Pre := fun a => 0 < a.F ∧ a.F ≤ 3 ∧ a.p < a.n ∧ a.n ≤ 10) (Post := fun a d => d = .lst ((nxts a.F a.V a.most a.g a.p).map (nxD a.F a.g))) ⟨F, n, V, flF V n, cnF fs, i⟩ (ea_cons (ev_var (i := 3) rfl) (ea3 (ev_var (i := 4) rfl) (ev_var (i := 9) rfl) (ev_var (i := 6) rfl))) ⟨F0, F3, hi, by show n ≤ 10; omega⟩))
        rw [List.length_map] at h
        exact Src.inl (src_el h fun q hq => by rw [dAt_map (a := L.getD q 0) (by rw [List.getD_eq_getElem?_getD, List.getElem?_eq_getElem hq]; rfl)])
      · rw [List.take_zero, List.map_nil, List.append_nil]; rfl
      · rintro q ss1 hq ⟨c, d, rfl⟩
        let f := L.getD q 0
        have hf : L[q]? = some f := by
          show _ = some (L.getD q 0)
          rw [List.getD_eq_getElem?_getD, List.getElem?_eq_getElem hq]; rfl
        refine ⟨_, _, tgt_2 (a1 := dN f) (a2 := numD F (bump (cnF fs) f)) rfl, ?_⟩
        refine ht_app (a := lnE F (fs ++ [f])) rfl ((ev_tBR (ea2 (ev_tB (ea_star (K := K) (ev_var (i := 8) rfl) rfl (ea1 (ev_var (i := 10) rfl))) ?_) (ev_var (i := 11) rfl)) (Nat.le_of_ble_eq_true rfl)).to ?_) ?_ ⟨.im (dN f), .im (numD F (bump (cnF fs) f)), ?_⟩
        · simp [hfl]; omega
        · rw [bump_cn]
          show D.rtup [.tup _, _] = D.rtup [.tup _, _]
          rw [List.map_append]; rfl
        · have h1 := hPl k
          have h2 : L.length ≤ F + 1 := nxts_len
          rw [List.length_map, List.length_append, List.length_map, List.length_take]
          omega
        · rw [List.take_add_one, hf]
          show _ = S _ _ (.own (List.map _ (_ ++ List.map _ (_ ++ [f])))) _ _ _ _
          rw [List.map_append (l₂ := [f]), ← List.append_assoc, List.map_append (l₂ := List.map _ [f])]; rfl
      · rintro ss1 ⟨c, d, rfl⟩
        refine ⟨.im (stD fs), .im (numD F (cnF fs)), c, d, ?_⟩
        rw [List.take_length, hP1]
    · rintro ss1 ⟨a, b, c, d, rfl⟩
      exact ⟨a, b, c, d, by rw [hPn]⟩
    rintro ss1 ⟨a, b, c, d, rfl⟩
    exact ht_freeze (i := 7) rfl (ht_asgD (ev_var rfl) ⟨_, _, a, b, c, d, rfl⟩)
  rintro ss1 ⟨p, lo, a, b, c, d, rfl⟩
  have hl4 : (Ln n).length ≤ 1024 := Nat.le_trans (lineL_len F3 n) (pow4N hn)
  refine htn_forget 8 (htn_forget 9 (htn_ret (en_sortS (l := (Ln n).map (stOf o)) (EvN.v (EvN.mono (en_lcA (n := (Ln n).length) (el := fun k => lnE F ((Ln n).getD k [])) (f := fun k => stD (stOf o ((Ln n).getD k []))) ?_ (by omega) rfl ?_) ?_)) ?_ (by rw [List.length_map]; omega))))
  · have h := src_lst (K := K) (ds := (Ln n).map (lnE F)) (ss := S (Ln n) p lo .un .un c d) (te := tVar 5) (ev_var rfl)
    rw [List.length_map] at h
    exact (Src.inl (src_el h fun k hk => by rw [dAt_map (a := (Ln n).getD k []) (by rw [List.getD_eq_getElem?_getD, List.getElem?_eq_getElem hk]; rfl)])).c
  · intro k hk
    let fs := (Ln n).getD k []
    have hfs : fs ∈ Ln n := by
      show (Ln n).getD k [] ∈ _
      rw [List.getD_eq_getElem?_getD, List.getElem?_eq_getElem hk]
      exact List.getElem_mem hk
    refine ⟨_, _, tgt_2 (a1 := stD fs) (a2 := numD F (cnF fs)) rfl, by decide, rfl, ev_call (A := A_by_things) (Pre := fun x => x.1.Perm (List.range x.1.length) ∧ x.2.length = x.1.length ∧ x.1.length ≤ 10) (Post := fun x d => d = .tup ((stOf x.1 x.2).map dN)) (o, fs) (ea2 (ev_var rfl) (ev_var rfl)) ⟨by show o.Perm (List.range o.length); rw [hlo]; exact hp, by show fs.length = o.length; rw [hlo]; exact lineL_mem hfs, by show o.length ≤ 10; omega⟩⟩
  · rintro x rfl
    exact (upto_getD (f := fun fs => stD (stOf o fs))).trans (by rw [List.map_map]; rfl)
  · by_cases h0 : n = 0
    · left
      rw [List.length_map]
      show (lineL F V (flF V n) n).length ≤ 1
      subst h0
      exact Nat.le_refl 1
    · right
      intro st hst
      obtain ⟨fs, hfs, rfl⟩ := List.mem_map.mp hst
      intro z
      have := congrArg List.length z
      unfold stOf at this
      rw [List.length_map, List.length_range, hlo] at this
      exact h0 this
end
end FK
end
section
set_option Elab.async false
set_option linter.all false
set_option maxRecDepth 100000
/-! All states that fit, and no others: the plain law of states_of. -/
namespace FK
open FM
/-- of fs within j -/
abbrev wth (fs : List Nat) (j : Nat) : Nat := fs.countP fun f => decide (f ≤ j)
theorem psum_cn (fs : List Nat) : ∀ j, psum (cnF fs) (j + 1) = (wth fs j : Int)
  | 0 => by
    show psum (cnF fs) 0 + (fs.count 0 : Int) = _
    show (0 : Int) + _ = _
    rw [Int.zero_add, List.count]
    congr 1
    apply List.countP_congr
    intro x _; simp
  | j + 1 => by
    show psum (cnF fs) (j + 1) + (fs.count (j + 1) : Int) = _
    rw [psum_cn fs j]
    have : wth fs (j + 1) = wth fs j + fs.count (j + 1) := by
      induction fs with
      | nil => rfl
      | cons a fs ih =>
        simp only [wth, List.countP_cons, List.count_cons] at ih ⊢
        rw [ih]
        by_cases h1 : a ≤ j
        · have h2 : a ≤ j + 1 := by omega
          have h3 : ¬ a = j + 1 := by omega
          simp [h1, h2, h3]; omega
        · by_cases h3 : a = j + 1
          · subst h3
            have h4 : ¬ j + 1 ≤ j := by omega
            simp [h4]; omega
          · have h2 : ¬ a ≤ j + 1 := by omega
            simp [h1, h2, h3]
    omega
structure Line (F : Nat) (V : Fam) (most : Nat → Int) (p : Nat) (fs : List Nat) : Prop where
  len : fs.length = p
  le : ∀ f ∈ fs, f ≤ F
  cnt : ∀ j, j < F → (fs.count j : Int) ≤ most j
  word : ∀ d, 1 ≤ d → d ≤ p → ∀ j, j < F → V j d ≤ (wth (fs.take d) j : Int)
open Classical in
theorem mem_nxts {F : Nat} {V : Fam} {most g : Nat → Int} {p f : Nat} : f ∈ nxts F V most g p ↔ f ≤ F ∧ ¬ (f < F ∧ g f = most f) ∧ NOk F V p (bump g f) := by
  unfold nxts accB
  rw [List.mem_filter, List.mem_range, Nat.lt_succ_iff, Bool.and_eq_true, Bool.not_eq_true', Bool.and_eq_false_iff, decide_eq_false_iff_not, decide_eq_false_iff_not, decide_eq_true_eq]
  refine and_congr_right fun _ => and_congr_left fun _ => ⟨fun h z => h.elim (fun a => a z.1) fun a => a z.2, fun h => ?_⟩
  by_cases h1 : f < F
  · exact .inr fun z => h ⟨h1, z⟩
  · exact .inl h1
theorem nok_cn {F : Nat} {V : Fam} {fs : List Nat} {p f : Nat} : NOk F V p (bump (cnF fs) f) ↔ ∀ j, j < F → V j (p + 1) ≤ (wth (fs ++ [f]) j : Int) := by
  have e : bump (cnF fs) f = cnF (fs ++ [f]) := by
    funext j
    show (fs.count j : Int) + (if j = f then 1 else 0) = (((fs ++ [f]).count j : Nat) : Int)
    rw [List.count_append]
    by_cases h : j = f
    · subst h; simp
    · rw [if_neg h, List.count_eq_zero_of_not_mem (a := j) (l := [f]) (by simp [h])]; simp
  rw [e]
  exact ⟨fun h j hj => by rw [← psum_cn]; exact h j hj, fun h j hj => by rw [psum_cn]; exact h j hj⟩
theorem mem_lineL {F : Nat} {V : Fam} {most : Nat → Int} (hm : ∀ j, j < F → 0 ≤ most j) : ∀ {p : Nat} {fs : List Nat}, fs ∈ lineL F V most p ↔ Line F V most p fs
  | 0, fs => by
    show fs ∈ [[]] ↔ _
    rw [List.mem_singleton]
    exact ⟨fun h => by subst h; exact ⟨rfl, fun f h => by simp at h, fun j hj => by simpa using hm j hj, fun d h1 h2 => by omega⟩, fun h => List.length_eq_zero_iff.mp h.len⟩
  | p + 1, fs => by
    show fs ∈ (lineL F V most p).flatMap _ ↔ _
    rw [List.mem_flatMap]
    constructor
    · rintro ⟨gs, hg, h⟩
      obtain ⟨f, hf, rfl⟩ := List.mem_map.mp h
      have L := (mem_lineL hm).mp hg
      obtain ⟨h1, h2, h3⟩ := mem_nxts.mp hf
      refine ⟨by simp [L.len], fun x hx => ?_, fun j hj => ?_, fun d d1 d2 j hj => ?_⟩
      · rcases List.mem_append.mp hx with hx | hx
        · exact L.le x hx
        · simp at hx; omega
      · rw [List.count_append]
        have := L.cnt j hj
        by_cases h : j = f
        · subst h
          have h4 : (gs.count j : Int) ≠ most j := fun z => h2 ⟨hj, z⟩
          simp; omega
        · rw [List.count_eq_zero_of_not_mem (a := j) (l := [f]) (by simp [h])]; simpa using this
      · by_cases hd : d ≤ p
        · rw [List.take_append_of_le_length (by rw [L.len]; exact hd)]
          exact L.word d d1 hd j hj
        · obtain rfl : d = p + 1 := by omega
          rw [List.take_of_length_le (by simp [L.len])]
          exact nok_cn.mp h3 j hj
    · intro L
      have hne : fs ≠ [] := fun z => by have := L.len; rw [z] at this; cases this
      obtain ⟨gs, f, rfl⟩ : ∃ gs f, fs = gs ++ [f] := ⟨fs.dropLast, fs.getLast hne, (List.dropLast_concat_getLast hne).symm⟩
      have hgl : gs.length = p := by have := L.len; simpa using this
      refine ⟨gs, (mem_lineL hm).mpr ⟨hgl, fun x hx => L.le x (List.mem_append_left _ hx), fun j hj => ?_, fun d d1 d2 j hj => ?_⟩, List.mem_map.mpr ⟨f, mem_nxts.mpr ⟨L.le f (by simp), ?_, ?_⟩, rfl⟩⟩
      · have := L.cnt j hj
        rw [List.count_append] at this
        omega
      · have := L.word d d1 (by omega) j hj
        rwa [List.take_append_of_le_length (by rw [hgl]; exact d2)] at this
      · rintro ⟨h1, h2⟩
        have := L.cnt f h1
        rw [List.count_append] at this
        have h2 : (gs.count f : Int) = most f := h2
        simp at this
        omega
      · refine nok_cn.mpr fun j hj => ?_
        have := L.word (p + 1) (by omega) (Nat.le_refl _) j hj
        rwa [List.take_of_length_le (by simp [hgl])] at this
theorem lineL_nodup {F : Nat} {V : Fam} {most : Nat → Int} : ∀ p, (lineL F V most p).Nodup
  | 0 => by show [[]].Nodup; simp
  | p + 1 => by
    show ((lineL F V most p).flatMap fun fs => (nxts F V most (cnF fs) p).map fun f => fs ++ [f]).Nodup
    refine List.pairwise_flatMap.mpr ⟨fun fs _ => ?_, (lineL_nodup p).imp fun {a b} hab => ?_⟩
    · refine List.Pairwise.map _ (fun a b h z => h ?_) (List.Pairwise.filter _ List.nodup_range)
      have := List.append_cancel_left z
      simpa using this
    · intro x hx y hy e
      subst e
      obtain ⟨f, _, rfl⟩ := List.mem_map.mp hx
      obtain ⟨g, _, e⟩ := List.mem_map.mp hy
      exact hab (List.append_inj_left' e rfl).symm
section
variable {F n : Nat} {o : List Nat} {st : List Nat}
theorem cnt_wth {g : Nat → Nat} {j d : Nat} : cnt g o j d = wth ((o.map g).take d) j := by
  unfold cnt wth
  rw [← List.map_take, List.countP_map]; rfl
theorem wth_step (fs : List Nat) (a : Nat) : fs.count a + (if a = 0 then 0 else wth fs (a - 1)) = wth fs a := by
  have h := psum_cn fs
  cases a with
  | zero =>
    have := h 0
    show fs.count 0 + 0 = _
    have h2 : psum (cnF fs) (0 + 1) = (fs.count 0 : Int) := by
      show (0 : Int) + (fs.count 0 : Int) = _
      rw [Int.zero_add]
    omega
  | succ a =>
    have h1 := h a
    have h2 := h (a + 1)
    have h3 : psum (cnF fs) (a + 1 + 1) = psum (cnF fs) (a + 1) + (fs.count (a + 1) : Int) := rfl
    rw [if_neg (by omega)]
    show fs.count (a + 1) + wth fs a = _
    omega
/-- the floors in the order's row: a line, just if the state fits -/
theorem line_fits {V : Fam} {s : Nat → Int} (T : Tight F n s V) (ho : o.length = n) (hle : ∀ y, gof F st y ≤ F) : Line F V (fl s) n (o.map (gof F st)) ↔ Fits F o s V (gof F st) := by
  have hw : ∀ j d, cnt (gof F st) o j d = wth ((o.map (gof F st)).take d) j := fun j d => cnt_wth
  have hwn : ∀ j, cnt (gof F st) o j o.length = wth (o.map (gof F st)) j := fun j => by
    rw [hw, List.take_of_length_le (by simp)]
  constructor
  · intro L
    have key : ∀ j, j < F → (wth (o.map (gof F st)) j : Int) ≤ s j := by
      intro j
      induction j with
      | zero =>
        intro hj
        have h1 := wth_step (o.map (gof F st)) 0
        have h2 := L.cnt 0 hj
        unfold fl at h2
        rw [if_pos rfl] at h1 h2
        omega
      | succ j ih =>
        intro hj
        have h1 := wth_step (o.map (gof F st)) (j + 1)
        have h2 := L.cnt (j + 1) hj
        have h3 := ih (by omega)
        unfold fl at h2
        rw [if_neg (by omega)] at h1 h2
        have e : j + 1 - 1 = j := rfl
        rw [e] at h1 h2
        omega
    have words : ∀ j d, j < F → d ≤ n → V j d ≤ (cnt (gof F st) o j d : Int) := fun j d hj hd => by
      by_cases h0 : d = 0
      · subst h0
        rw [T.zero j hj]; omega
      · rw [hw]
        exact L.word d (by omega) hd j hj
    refine ⟨fun j hj => ?_, fun j d hj hd => words j d hj (by omega)⟩
    have h1 := key j hj
    have h2 := words j n hj (Nat.le_refl _)
    rw [T.last j hj] at h2
    rw [← ho, hwn] at h2
    rw [hwn]
    omega
  · intro f
    refine ⟨by rw [List.length_map]; exact ho, fun x hx => ?_, fun j hj => ?_, fun d d1 d2 j hj => ?_⟩
    · obtain ⟨y, _, rfl⟩ := List.mem_map.mp hx
      exact hle y
    · have h1 := wth_step (o.map (gof F st)) j
      have h2 := f.1 j hj
      rw [hwn] at h2
      unfold fl
      by_cases h0 : j = 0
      · rw [if_pos h0] at h1 ⊢
        omega
      · rw [if_neg h0] at h1 ⊢
        have h3 := f.1 (j - 1) (by omega)
        rw [hwn] at h3
        omega
    · rw [← hw]
      exact f.2 j d hj (by omega)
theorem stOf_map (hp : o.Perm (List.range n)) (hs : st.length = n) : stOf o (o.map (gof F st)) = st := by
  have hl : o.length = n := by rw [hp.length_eq, List.length_range]
  unfold stOf
  rw [hl]
  apply List.ext_getElem?
  intro z
  by_cases h : z < n
  · have hm : z ∈ o := hp.mem_iff.mpr (List.mem_range.mpr h)
    have hj : o.idxOf z < o.length := List.idxOf_lt_length_of_mem hm
    rw [List.getElem?_map, List.getElem?_range h]
    show some ((o.map (gof F st)).getD (o.idxOf z) 0) = _
    rw [List.getD_eq_getElem?_getD, List.getElem?_map, List.getElem?_eq_getElem hj, List.getElem_idxOf, List.getElem?_eq_getElem (by omega)]
    show some (gof F st z) = _
    unfold gof
    rw [List.getD_eq_getElem?_getD, List.getElem?_eq_getElem (by omega)]; rfl
  · rw [List.getElem?_eq_none (by simp; omega), List.getElem?_eq_none (by omega)]
theorem map_stOf {fs : List Nat} (hp : o.Perm (List.range n)) (hl : fs.length = n) : o.map (gof F (stOf o fs)) = fs := by
  have hol : o.length = n := by rw [hp.length_eq, List.length_range]
  have hnd : o.Nodup := hp.nodup_iff.mpr List.nodup_range
  apply List.ext_getElem?
  intro q
  rw [List.getElem?_map]
  by_cases h : q < o.length
  · rw [List.getElem?_eq_getElem h, List.getElem?_eq_getElem (by omega)]
    show some (gof F (stOf o fs) o[q]) = _
    congr 1
    have hlt : o[q] < n := List.mem_range.mp (hp.mem_iff.mp (List.getElem_mem h))
    unfold gof stOf
    rw [List.getD_eq_getElem?_getD, List.getElem?_map, hol, List.getElem?_range hlt]
    show fs.getD (o.idxOf o[q]) 0 = _
    rw [hnd.idxOf_getElem, List.getD_eq_getElem?_getD, List.getElem?_eq_getElem (by omega)]; rfl
  · rw [List.getElem?_eq_none (by omega), List.getElem?_eq_none (by omega)]; rfl
/-- just the states that fit -/
theorem mem_statesL {V : Fam} {s : Nat → Int} (T : Tight F n s V) (hp : o.Perm (List.range n)) : st ∈ statesL F V o ↔ FitL F n o s V st := by
  have hol : o.length = n := by rw [hp.length_eq, List.length_range]
  have hfl : ∀ j, j < F → flF V n j = fl s j := fun j hj => by
    show V j n - (if j = 0 then 0 else V (j - 1) n) = s j - (if j = 0 then 0 else s (j - 1))
    rw [T.last j hj]
    by_cases h : j = 0
    · rw [if_pos h, if_pos h]
    · rw [if_neg h, if_neg h, T.last (j - 1) (by omega)]
  have hm : ∀ j, j < F → 0 ≤ flF V n j := fun j hj => by
    rw [hfl j hj]
    unfold fl
    by_cases h : j = 0
    · rw [if_pos h]
      have := (T.nonneg hj n (Nat.le_refl _)).1
      rw [T.last j hj] at this; omega
    · rw [if_neg h]
      have := T.smono (j := j - 1) (k := j) (by omega) hj
      omega
  have hLine : ∀ fs, Line F V (flF V n) n fs ↔ Line F V (fl s) n fs := fun fs => ⟨fun L => ⟨L.len, L.le, fun j hj => by rw [← hfl j hj]; exact L.cnt j hj, L.word⟩, fun L => ⟨L.len, L.le, fun j hj => by rw [hfl j hj]; exact L.cnt j hj, L.word⟩⟩
  unfold statesL
  rw [hol, List.mem_map]
  constructor
  · rintro ⟨fs, hfs, rfl⟩
    have L := (hLine fs).mp ((mem_lineL hm).mp hfs)
    have hst : IsSt F n (stOf o fs) := by
      refine ⟨by unfold stOf; simp [hol], fun f hf => ?_⟩
      unfold stOf at hf
      obtain ⟨z, hz, rfl⟩ := List.mem_map.mp hf
      have hm : z ∈ o := hp.mem_iff.mpr (List.mem_range.mpr (by rw [hol] at hz; exact List.mem_range.mp hz))
      have hj : o.idxOf z < fs.length := by rw [L.len, ← hol]; exact List.idxOf_lt_length_of_mem hm
      rw [List.getD_eq_getElem?_getD, List.getElem?_eq_getElem hj]
      exact L.le _ (List.getElem_mem hj)
    refine ⟨hst, (line_fits T hol hst.le).mp ?_⟩
    rw [map_stOf hp L.len]; exact L
  · rintro ⟨hst, hf⟩
    exact ⟨o.map (gof F st), (mem_lineL hm).mpr ((hLine _).mpr ((line_fits T hol hst.le).mpr hf)), stOf_map hp hst.1⟩
theorem lineL_mem' {V : Fam} {most : Nat → Int} : ∀ {p : Nat} {fs : List Nat}, fs ∈ lineL F V most p → fs.length = p
  | 0, fs, h => by simp [lineL] at h; simp [h]
  | p + 1, fs, h => by
    unfold lineL at h
    obtain ⟨gs, hg, h⟩ := List.mem_flatMap.mp h
    obtain ⟨f, _, rfl⟩ := List.mem_map.mp h
    have := lineL_mem' hg
    simp [this]
theorem statesL_nodup {V : Fam} {s : Nat → Int} (T : Tight F n s V) (hp : o.Perm (List.range n)) : (statesL F V o).Nodup := by
  have hol : o.length = n := by rw [hp.length_eq, List.length_range]
  have h := lineL_nodup (F := F) (V := V) (most := flF V n) n
  unfold statesL
  rw [hol]
  refine List.pairwise_map.mpr (List.Pairwise.imp_of_mem (fun {a b} ha hb hab z => hab ?_) h)
  have e := congrArg (fun st => o.map (gof F st)) z
  have e : o.map (gof F (stOf o a)) = o.map (gof F (stOf o b)) := e
  rwa [map_stOf hp (lineL_mem' ha), map_stOf hp (lineL_mem' hb)] at e
end
/-! ### sorted alike -/
theorem stI_inj : ∀ {a b : List Nat}, stI a = stI b → a = b
  | [], [], _ => rfl
  | [], _ :: _, h => by cases h
  | _ :: _, [], h => by cases h
  | x :: a, y :: b, h => by
    have h' : (x : Int) :: stI a = (y : Int) :: stI b := h
    injection h' with h1 h2
    rw [stI_inj h2, show x = y by omega]
theorem leS_trans (a b c : List Nat) (h1 : leS a b = true) (h2 : leS b c = true) : leS a c = true := by
  simp only [leS, decide_eq_true_eq] at *
  exact List.le_trans h1 h2
theorem leS_total (a b : List Nat) : (leS a b || leS b a) = true := by
  simp only [leS, Bool.or_eq_true, decide_eq_true_eq]
  exact List.le_total _ _
theorem leS_anti {a b : List Nat} (h1 : leS a b = true) (h2 : leS b a = true) : a = b := by
  simp only [leS, decide_eq_true_eq] at *
  exact stI_inj (List.le_antisymm h1 h2)
theorem sortS_sorted (l : List (List Nat)) : (sortS l).Pairwise fun a b => leS a b = true := List.pairwise_mergeSort leS_trans leS_total l
theorem sortS_eq {l m : List (List Nat)} (hl : l.Nodup) (hm : m.Nodup) (h : ∀ st, st ∈ l ↔ st ∈ m) : sortS l = sortS m := by
  have hp : l.Perm m := (List.perm_ext_iff_of_nodup hl hm).mpr h
  refine List.Perm.eq_of_pairwise (le := fun a b => leS a b = true) (fun a b _ _ h1 h2 => leS_anti h1 h2) (sortS_sorted l) (sortS_sorted m) ?_
  exact (List.mergeSort_perm l _).trans (hp.trans (List.mergeSort_perm m _).symm)
end FK
end
section
set_option Elab.async false
set_option linter.all false
set_option maxRecDepth 100000
namespace FK
open PySem PySem.Spec PyProof.Rows L2 Lg Lr RZ
section
variable {P : Program} {w : World} {K : PySem.W.Frag} {mg : Str → Option Value} {base : Heap}
abbrev N_law_drawn_move : List Str := ["_law_bag_here", "_law_house_here", "_law_state_here", "_law_thing", "_law_way", "_law_downs", "_law_now", "_law_at", "_law_there", "_law_down", "_law_one_here"]
theorem sc_law_drawn_move : FnScope N_law_drawn_move ["_law_bag_here", "_law_house_here", "_law_state_here", "_law_thing", "_law_way"] (defScope (top 38)) := ⟨rfl, rfl, rfl, by decide +kernel, rfl, by decide +kernel, by decide +kernel⟩
def t_law_drawn_move (K : PySem.W.Frag) (sp_law_one : Sp) : TS := (tSeq (tAsg (tTupB (tCons (tTupB tNil) (tCons (tCB (rLstOf K) (tCons (tVar 2) tNil)) tNil))) (gTup K 2 (gCons (gName 5) (gCons (gName 6) gNil)))) (tSeq (tAsg (tC (.int 0)) (gSub (tVar 6) (tVar 3) rSetL)) (tSeq (tWhile (tAnd (tTest (tOp (rI0 fun i j => .bl (decide (i < j))) (tCB (Lg.rLen K) (tCons (tVar 5) tNil)) (tCB (Lg.rLen K) (tCons (tOp (rIx K) (tVar 1) (tC (.int 1))) tNil)))) (tTest (tOp (rI0 fun i j => .bl (decide (j < i))) (tBM K "list" (rCntI K) (tVar 6) (tCons (tCB (Lg.rLen K) (tCons (tVar 5) tNil)) tNil)) (tOp (rIx K) (tOp (rIx K) (tVar 1) (tC (.int 1))) (tCB (Lg.rLen K) (tCons (tVar 5) tNil)))))) (tSeq (tAsg (tCB (Lg.rLen K) (tCons (tVar 5) tNil)) (gName 7)) (tSeq (tAsg (tLc (iRng1 (tCons (tOp (rIx K) (tVar 1) (tC (.int 0))) tNil)) (gName 10) (tAnd (tTest (tOp (rEqD K) (tOp (rIx K) (tVar 6) (tVar 10)) (tVar 7))) (tOr (tTest (tOp (rI0 fun i j => .bl (decide (j < i))) (tVar 7) (tC (.int 0)))) (tTest (tOp (rNeD K) (tVar 10) (tVar 3))))) (tVar 10) [10]) (gName 8)) (tSeq (tAsg (tIf (tTest (tOp (rEqD K) (tVar 4) (tC (.int 1)))) (tOp (rIx K) (tVar 8) (tUn (rU fun i => .int (-i)) (tC (.int 1)))) (tIf (tAnd (tTest (tOp (rEqD K) (tVar 4) (tC (.int 2)))) (tTest (tOp (rI0 fun i j => .bl (decide (j < i))) (tVar 7) (tC (.int 0))))) (tOp (rIx K) (tVar 5) (tUn (rU fun i => .int (-i)) (tC (.int 1)))) (tCall sp_law_one [] E0 (tCons (tVar 0) (tCons (tVar 8) tNil))))) (gName 9)) (tAsg (tTupB (tCons (tOp (rPlus K) (tVar 5) (tTupB (tCons (tVar 9) tNil))) (tCons (tOp (rPlus K) (tVar 7) (tC (.int 1))) tNil))) (gTup K 2 (gCons (gName 5) (gCons (gSub (tVar 6) (tVar 9) rSetL) gNil)))))))) (tRet (tTupB (tCons (tC (.str "ask")) (tCons (tVar 3) (tCons (tVar 5) tNil))))))))
theorem ok_law_drawn_move {sp : Sp} {sp_law_one : Sp} (D : Dfs K mg) (M : Mgs mg) (F_law_one : Ok P w K mg base CX0 2 "_law_one" ["_law_bag_here", "_law_things"] sp_law_one) (len : ∀ vs H Q E, sp vs H Q E → vs.length = 5) (h : ∀ vs H Q E, sp vs H Q E → t_law_drawn_move K sp_law_one (fin Q) (L2.start N_law_drawn_move vs) H) : Ok P w K mg base CX0 3 "_law_drawn_move" ["_law_bag_here", "_law_house_here", "_law_state_here", "_law_thing", "_law_way"] sp := by
  obtain ⟨f, fd, F, hm⟩ := D.law_drawn_move
  refine ⟨f, fd, F.bindsN fun _ _ _ _ _ _ us hl => match us, hl with | [_, _, _, _, _], _ => rfl, F.ok sc_law_drawn_move len (fun cdv A outer s H vs Q E hr p => ⟨t_law_drawn_move K sp_law_one, PSs.nox ?_, h vs H Q E p⟩), hm, F.kp⟩
  have hu := hr.units
  exact (pss_cons (ps_asg (pe_tupB (pa_cons (pe_tupB pa_nil) (pa_cons (pe_callTy call_list_of rfl M.list boot_list (pa_cons (pv 2) pa_nil)) pa_nil))) (pg_tup rfl (pgs_cons (pg_name (i := 5) sc_law_drawn_move.nd rfl (Or.inl rfl)) (pgs_cons (pg_name (i := 6) sc_law_drawn_move.nd rfl (Or.inr rfl)) pgs_nil)))) (pss_cons (ps_asg pe_int (pg_sub (pv 6) (pv 3) set_list)) (pss_cons (ps_while PassesOwn.never (PW.pt (pw_and (pt_cmpR op_lt (pe_callB call_len_seq rfl M.len boot_len (pa_cons (pv 5) pa_nil)) (pe_callB call_len_seq rfl M.len boot_len (pa_cons (pe_ix ix_seq (pv 1) pe_int (fun _ _ => rfl)) pa_nil)) (nomark _)) (pw_and1 (pt_cmpR op_gt (pe_bm PySem.F.plainAttrs_list PySem.F.slot_list_count PySem.F.type_list_count mt_lcount (pv 6) (pa_cons (pe_callB call_len_seq rfl M.len boot_len (pa_cons (pv 5) pa_nil)) pa_nil)) (pe_ix ix_seq (pe_ix ix_seq (pv 1) pe_int (fun _ _ => rfl)) (pe_callB call_len_seq rfl M.len boot_len (pa_cons (pv 5) pa_nil)) (fun _ _ => rfl)) (nomark _))))) (pss_cons (ps_set (i := 7) sc_law_drawn_move.nd rfl (Or.inr rfl) (pe_callB call_len_seq rfl M.len boot_len (pa_cons (pv 5) pa_nil))) (pss_cons (ps_setLc (i := 8) (own := [("_law_one_here", 10)]) rfl sc_law_drawn_move.nd rfl rfl (sw_true rfl rfl rfl rfl) (pi_range1 rfl M.range (pa_cons (pe_ix ix_seq (pv 1) pe_int (fun _ _ => rfl)) pa_nil)) (blkOk_by rfl) (fun _ _ _ _ _ => (pg_name (i := 10) sc_law_drawn_move.nd rfl (Or.inl rfl))) (fun _ _ _ _ _ => (pts_one (PW.pt (pw_and (pt_cmpR (op_eqD hu) (pe_ix ix_seq (pv 6) (pv 10) (fun _ _ => rfl)) (pv 7) (nomark _)) (pw_and1 (PW.pt (pw_or (pt_cmpR op_gt (pv 7) pe_int (nomark _)) (pw_or1 (pt_cmpR (op_neD hu) (pv 10) (pv 3) (nomark _)))))))))) (fun _ _ _ _ _ => (pv 10))) (pss_cons (ps_set (i := 9) sc_law_drawn_move.nd rfl (Or.inl rfl) (pe_ifExp (pt_cmpR (op_eqD hu) (pv 4) pe_int (nomark _)) (pe_ix ix_seq (pv 8) (pe_un un_neg pe_int) (fun _ _ => rfl)) (pe_ifExp (PW.pt (pw_and (pt_cmpR (op_eqD hu) (pv 4) pe_int (nomark _)) (pw_and1 (pt_cmpR op_gt (pv 7) pe_int (nomark _))))) (pe_ix ix_seq (pv 5) (pe_un un_neg pe_int) (fun _ _ => rfl)) (pe_ok F_law_one hr (by decide) rfl pass0 (pa_cons (pv 0) (pa_cons (pv 8) pa_nil)))))) (pss_one (ps_asg (pe_tupB (pa_cons (pe_op op_plus (pv 5) (pe_tupB (pa_cons (pv 9) pa_nil))) (pa_cons (pe_op op_plus (pv 7) pe_int) pa_nil))) (pg_tup rfl (pgs_cons (pg_name (i := 5) sc_law_drawn_move.nd rfl (Or.inl rfl)) (pgs_cons (pg_sub (pv 6) (pv 9) set_list) pgs_nil))))))))) (pss_one (ps_ret (pe_tupB (pa_cons pe_str (pa_cons (pv 3) (pa_cons (pv 5) pa_nil)))))))))
abbrev N_law_done : List Str := ["_law_house_here", "_law_state_here", "_law_move", "_law_word", "_law_thing", "_law_downs", "_law_floors", "_law_now", "_law_at", "_law_down", "_law_last"]
theorem sc_law_done : FnScope N_law_done ["_law_house_here", "_law_state_here", "_law_move"] (defScope (top 39)) := ⟨rfl, rfl, rfl, by decide +kernel, rfl, by decide +kernel, by decide +kernel⟩
def t_law_done (K : PySem.W.Frag) : TS := (tSeq (tAsg (tVar 2) (gTup K 3 (gCons (gName 3) (gCons (gName 4) (gCons (gName 5) gNil))))) (tSeq (tPar 6 7 (tCons (tCB (Lg.rLen K) (tCons (tOp (rIx K) (tVar 0) (tC (.int 1))) tNil)) (tCons (tCB (rLstOf K) (tCons (tVar 1) tNil)) tNil))) (tSeq (tIfS (tTest (tOp (rEqD K) (tVar 3) (tC (.str "strike")))) (tSeq (tAsg (tVar 6) (gSub (tVar 7) (tVar 4) rSetL)) (tRet (tIf (tTest (tOp (rEqD K) (tVar 5) (tTupB tNil))) (tCB (rTupA K) (tCons (tVar 7) tNil)) (tC .non)))) tNext) (tSeq (tAsg (tC (.int 0)) (gSub (tVar 7) (tVar 4) rSetL)) (tSeq (tFor (iEn K (tCons (tVar 5) tNil)) (gTup K 2 (gCons (gName 8) (gCons (gName 9) gNil))) (tSeq (tIfS (tOr (tTest (tOp (rI0 fun i j => .bl (decide (j ≤ i))) (tVar 8) (tVar 6))) (tOr (tTest (tOp (rI0 fun i j => .bl (decide (i ≤ j))) (tBM K "list" (rCntI K) (tVar 7) (tCons (tVar 8) tNil)) (tOp (rIx K) (tOp (rIx K) (tVar 0) (tC (.int 1))) (tVar 8)))) (tOr (tTest (tOp (rNeD K) (tOp (rIx K) (tVar 7) (tVar 9)) (tVar 8))) (tAnd (tTest (tOp (rEqD K) (tVar 8) (tC (.int 0)))) (tTest (tOp (rEqD K) (tVar 9) (tVar 4))))))) (tRet (tC .non)) tNext) (tAsg (tOp (rPlus K) (tVar 8) (tC (.int 1))) (gSub (tVar 7) (tVar 9) rSetL)))) (tSeq (tAsg (tCB (Lg.rLen K) (tCons (tVar 5) tNil)) (gName 10)) (tRet (tIf (tOr (tTest (tOp (rI0 fun i j => .bl (decide (j ≤ i))) (tVar 10) (tVar 6))) (tTest (tOp (rI0 fun i j => .bl (decide (i ≤ j))) (tBM K "list" (rCntI K) (tVar 7) (tCons (tVar 10) tNil)) (tOp (rIx K) (tOp (rIx K) (tVar 0) (tC (.int 1))) (tVar 10))))) (tCB (rTupA K) (tCons (tVar 7) tNil)) (tC .non)))))))))
theorem ok_law_done {sp : Sp} (D : Dfs K mg) (M : Mgs mg) (len : ∀ vs H Q E, sp vs H Q E → vs.length = 3) (h : ∀ vs H Q E, sp vs H Q E → t_law_done K  (fin Q) (L2.start N_law_done vs) H) : Ok P w K mg base CX0 1 "_law_done" ["_law_house_here", "_law_state_here", "_law_move"] sp := by
  obtain ⟨f, fd, F, hm⟩ := D.law_done
  refine ⟨f, fd, F.bindsN fun _ _ _ _ _ _ us hl => match us, hl with | [_, _, _], _ => rfl, F.ok sc_law_done len (fun cdv A outer s H vs Q E hr p => ⟨t_law_done K , PSs.nox ?_, h vs H Q E p⟩), hm, F.kp⟩
  have hu := hr.units
  exact (pss_cons (ps_asg (pv 2) (pg_tup rfl (pgs_cons (pg_name (i := 3) sc_law_done.nd rfl (Or.inl rfl)) (pgs_cons (pg_name (i := 4) sc_law_done.nd rfl (Or.inl rfl)) (pgs_cons (pg_name (i := 5) sc_law_done.nd rfl (Or.inl rfl)) pgs_nil))))) (pss_cons (ps_par (i := 6) (j := 7) rfl sc_law_done.nd rfl rfl (by decide) rfl rfl (pa_cons (pe_callB call_len_seq rfl M.len boot_len (pa_cons (pe_ix ix_seq (pv 0) pe_int (fun _ _ => rfl)) pa_nil)) (pa_cons (pe_callTy call_list_of rfl M.list boot_list (pa_cons (pv 1) pa_nil)) pa_nil)) rfl) (pss_cons (ps_if (pt_cmpR (op_eqD hu) (pv 3) pe_str (nomark _)) (pss_cons (ps_asg (pv 6) (pg_sub (pv 7) (pv 4) set_list)) (pss_one (ps_ret (pe_ifExp (pt_cmpR (op_eqD hu) (pv 5) (pe_tupB pa_nil) (nomark _)) (pe_callTy call_tupA rfl M.tuple boot_tuple (pa_cons (pv 7) pa_nil)) pe_non)))) pss_nil) (pss_cons (ps_asg pe_int (pg_sub (pv 7) (pv 4) set_list)) (pss_cons (ps_for PassesOwn.never rfl (PI.or (pi_enum rfl M.enumerate (pa_cons (pv 5) pa_nil)) (pi_enumT rfl M.enumerate (pa_cons (pv 5) pa_nil))) (pg_tup rfl (pgs_cons (pg_name (i := 8) sc_law_done.nd rfl (Or.inl rfl)) (pgs_cons (pg_name (i := 9) sc_law_done.nd rfl (Or.inl rfl)) pgs_nil))) (pss_cons (ps_if (PW.pt (pw_or (pt_cmpR op_ge (pv 8) (pv 6) (nomark _)) (pw_or (pt_cmpR op_le (pe_bm PySem.F.plainAttrs_list PySem.F.slot_list_count PySem.F.type_list_count mt_lcount (pv 7) (pa_cons (pv 8) pa_nil)) (pe_ix ix_seq (pe_ix ix_seq (pv 0) pe_int (fun _ _ => rfl)) (pv 8) (fun _ _ => rfl)) (nomark _)) (pw_or (pt_cmpR (op_neD hu) (pe_ix ix_seq (pv 7) (pv 9) (fun _ _ => rfl)) (pv 8) (nomark _)) (pw_or1 (PW.pt (pw_and (pt_cmpR (op_eqD hu) (pv 8) pe_int (nomark _)) (pw_and1 (pt_cmpR (op_eqD hu) (pv 9) (pv 4) (nomark _)))))))))) (pss_one (ps_ret pe_non)) pss_nil) (pss_one (ps_asg (pe_op op_plus (pv 8) pe_int) (pg_sub (pv 7) (pv 9) set_list))))) (pss_cons (ps_set (i := 10) sc_law_done.nd rfl (Or.inl rfl) (pe_callB call_len_seq rfl M.len boot_len (pa_cons (pv 5) pa_nil))) (pss_one (ps_ret (pe_ifExp (PW.pt (pw_or (pt_cmpR op_ge (pv 10) (pv 6) (nomark _)) (pw_or1 (pt_cmpR op_le (pe_bm PySem.F.plainAttrs_list PySem.F.slot_list_count PySem.F.type_list_count mt_lcount (pv 7) (pa_cons (pv 10) pa_nil)) (pe_ix ix_seq (pe_ix ix_seq (pv 0) pe_int (fun _ _ => rfl)) (pv 10) (fun _ _ => rfl)) (nomark _))))) (pe_callTy call_tupA rfl M.tuple boot_tuple (pa_cons (pv 7) pa_nil)) pe_non)))))))))
abbrev N_law_run : List Str := ["_law_bag_here", "_law_house_here", "_law_state_here", "_law_many", "_law_strikes", "_law_run_here", "_law_log", "_law_states", "_law_way", "_law_favoured", "_law_turn", "_law_thing", "_law_move"]
theorem sc_law_run : FnScope N_law_run ["_law_bag_here", "_law_house_here", "_law_state_here", "_law_many", "_law_strikes"] (defScope (top 40)) := ⟨rfl, rfl, rfl, by decide +kernel, rfl, by decide +kernel, by decide +kernel⟩
def t_law_run (K : PySem.W.Frag) (sp_law_one sp_law_mixed sp_law_take sp_law_drawn_move sp_law_done : Sp) : TS := (tSeq (tAsg (tTupB (tCons (tLst tNil) (tCons (tLst tNil) (tCons (tLst (tCons (tVar 2) tNil)) (tCons (tCall sp_law_one [] E0 (tCons (tVar 0) (tCons (tLst (tCons (tC (.int 0)) (tCons (tC (.int 0)) (tCons (tC (.int 1)) (tCons (tC (.int 2)) tNil))))) tNil))) tNil))))) (gTup K 4 (gCons (gName 5) (gCons (gName 6) (gCons (gName 7) (gCons (gName 8) gNil)))))) (tSeq (tAsg (tSl (rSl K) (tCall sp_law_mixed [] E0 (tCons (tVar 0) (tCons (tLstRg (tRg1 (tOp (rIx K) (tVar 1) (tC (.int 0))))) tNil))) tNoPart (tPart (tOp (rPlus K) (tC (.int 1)) (tCall sp_law_take [] E0 (tCons (tVar 0) (tCons (tCB (rMax2) (tCons (tC (.int 1)) (tCons (tOp (rIx K) (tVar 1) (tC (.int 0))) tNil))) tNil)))))) (gName 9)) (tSeq (tFor (iRng1 (tCons (tIf (tTest (tOp (rI0 fun i j => .bl (decide (j < i))) (tOp (rIx K) (tVar 1) (tC (.int 0))) (tC (.int 0)))) (tVar 3) (tC (.int 0))) tNil)) (gName 10) (tSeq (tAsg (tIf (tTest (tOp (rI0 fun i j => .bl (decide (j < i))) (tCall sp_law_take [] E0 (tCons (tVar 0) (tCons (tC (.int 3)) tNil))) (tC (.int 0)))) (tCall sp_law_one [] E0 (tCons (tVar 0) (tCons (tVar 9) tNil))) (tCall sp_law_take [] E0 (tCons (tVar 0) (tCons (tOp (rIx K) (tVar 1) (tC (.int 0))) tNil)))) (gName 11)) (tSeq (tAsg (tTupB (tCons (tC (.str "strike")) (tCons (tVar 11) (tCons (tTupB tNil) tNil)))) (gName 12)) (tSeq (tIfS (tOr (tTest (tOp (rEqD K) (tVar 4) (tC (.int 0)))) (tTest (tOp (rI0 fun i j => .bl (decide (j < i))) (tCall sp_law_take [] E0 (tCons (tVar 0) (tCons (tVar 4) tNil))) (tC (.int 0))))) (tAsg (tCall sp_law_drawn_move [] E0 (tCons (tVar 0) (tCons (tVar 1) (tCons (tOp (rIx K) (tVar 7) (tUn (rU fun i => .int (-i)) (tC (.int 1)))) (tCons (tVar 11) (tCons (tVar 8) tNil)))))) (gName 12)) tNext) (tSeq (tDrop (tBM K "list" (rAppend) (tVar 5) (tCons (tVar 12) tNil))) (tSeq (tDrop (tBM K "list" (rAppend) (tVar 6) (tCons (tTupB (tCons (tOp (rIx K) (tVar 12) (tC (.int 0))) (tCons (tVar 11) (tCons (tOp (rIx K) (tOp (rIx K) (tVar 7) (tUn (rU fun i => .int (-i)) (tC (.int 1)))) (tVar 11)) tNil)))) tNil))) (tDrop (tBM K "list" (rAppend) (tVar 7) (tCons (tCall sp_law_done [] E0 (tCons (tVar 1) (tCons (tOp (rIx K) (tVar 7) (tUn (rU fun i => .int (-i)) (tC (.int 1)))) (tCons (tVar 12) tNil)))) tNil))))))))) (tRet (tTupB (tCons (tCB (rTupA K) (tCons (tVar 5) tNil)) (tCons (tCB (rTupA K) (tCons (tVar 6) tNil)) (tCons (tVar 7) tNil))))))))
theorem ok_law_run {sp : Sp} {sp_law_one sp_law_mixed sp_law_take sp_law_drawn_move sp_law_done : Sp} (D : Dfs K mg) (M : Mgs mg) (F_law_one : Ok P w K mg base CX0 2 "_law_one" ["_law_bag_here", "_law_things"] sp_law_one) (F_law_mixed : Ok P w K mg base CX0 2 "_law_mixed" ["_law_bag_here", "_law_things"] sp_law_mixed) (F_law_take : Ok P w K mg base CX0 1 "_law_take" ["_law_bag_here", "_law_many"] sp_law_take) (F_law_drawn_move : Ok P w K mg base CX0 3 "_law_drawn_move" ["_law_bag_here", "_law_house_here", "_law_state_here", "_law_thing", "_law_way"] sp_law_drawn_move) (F_law_done : Ok P w K mg base CX0 1 "_law_done" ["_law_house_here", "_law_state_here", "_law_move"] sp_law_done) (len : ∀ vs H Q E, sp vs H Q E → vs.length = 5) (h : ∀ vs H Q E, sp vs H Q E → t_law_run K sp_law_one sp_law_mixed sp_law_take sp_law_drawn_move sp_law_done (fin Q) (L2.start N_law_run vs) H) : Ok P w K mg base CX0 4 "_law_run" ["_law_bag_here", "_law_house_here", "_law_state_here", "_law_many", "_law_strikes"] sp := by
  obtain ⟨f, fd, F, hm⟩ := D.law_run
  refine ⟨f, fd, F.bindsN fun _ _ _ _ _ _ us hl => match us, hl with | [_, _, _, _, _], _ => rfl, F.ok sc_law_run len (fun cdv A outer s H vs Q E hr p => ⟨t_law_run K sp_law_one sp_law_mixed sp_law_take sp_law_drawn_move sp_law_done, PSs.nox ?_, h vs H Q E p⟩), hm, F.kp⟩
  have hu := hr.units
  exact (pss_cons (ps_asg (pe_tupB (pa_cons (pe_lst pa_nil) (pa_cons (pe_lst pa_nil) (pa_cons (pe_lst (pa_cons (pv 2) pa_nil)) (pa_cons (pe_ok F_law_one hr (by decide) rfl pass0 (pa_cons (pv 0) (pa_cons (pe_lst (pa_cons pe_int (pa_cons pe_int (pa_cons pe_int (pa_cons pe_int pa_nil))))) pa_nil))) pa_nil))))) (pg_tup rfl (pgs_cons (pg_name (i := 5) sc_law_run.nd rfl (Or.inl rfl)) (pgs_cons (pg_name (i := 6) sc_law_run.nd rfl (Or.inl rfl)) (pgs_cons (pg_name (i := 7) sc_law_run.nd rfl (Or.inl rfl)) (pgs_cons (pg_name (i := 8) sc_law_run.nd rfl (Or.inl rfl)) pgs_nil)))))) (pss_cons (ps_set (i := 9) sc_law_run.nd rfl (Or.inl rfl) (pe_slice sl_seq (pe_ok F_law_mixed hr (by decide) rfl pass0 (pa_cons (pv 0) (pa_cons (pe_listRg rfl rfl M.list (prg_1 rfl M.range (pe_ix ix_seq (pv 1) pe_int (fun _ _ => rfl)))) pa_nil))) po_none (po_some (pe_op op_plus pe_int (pe_ok F_law_take hr (by decide) rfl pass0 (pa_cons (pv 0) (pa_cons (pe_callB (call_max2 rfl) rfl M.max boot_max (pa_cons pe_int (pa_cons (pe_ix ix_seq (pv 1) pe_int (fun _ _ => rfl)) pa_nil))) pa_nil))))))) (pss_cons (ps_for PassesOwn.never rfl (pi_range1 rfl M.range (pa_cons (pe_ifExp (pt_cmpR op_gt (pe_ix ix_seq (pv 1) pe_int (fun _ _ => rfl)) pe_int (nomark _)) (pv 3) pe_int) pa_nil)) (pg_name (i := 10) sc_law_run.nd rfl (Or.inl rfl)) (pss_cons (ps_set (i := 11) sc_law_run.nd rfl (Or.inl rfl) (pe_ifExp (pt_cmpR op_gt (pe_ok F_law_take hr (by decide) rfl pass0 (pa_cons (pv 0) (pa_cons pe_int pa_nil))) pe_int (nomark _)) (pe_ok F_law_one hr (by decide) rfl pass0 (pa_cons (pv 0) (pa_cons (pv 9) pa_nil))) (pe_ok F_law_take hr (by decide) rfl pass0 (pa_cons (pv 0) (pa_cons (pe_ix ix_seq (pv 1) pe_int (fun _ _ => rfl)) pa_nil))))) (pss_cons (ps_set (i := 12) sc_law_run.nd rfl (Or.inl rfl) (pe_tupB (pa_cons pe_str (pa_cons (pv 11) (pa_cons (pe_tupB pa_nil) pa_nil))))) (pss_cons (ps_if (PW.pt (pw_or (pt_cmpR (op_eqD hu) (pv 4) pe_int (nomark _)) (pw_or1 (pt_cmpR op_gt (pe_ok F_law_take hr (by decide) rfl pass0 (pa_cons (pv 0) (pa_cons (pv 4) pa_nil))) pe_int (nomark _))))) (pss_one (ps_set (i := 12) sc_law_run.nd rfl (Or.inl rfl) (pe_ok F_law_drawn_move hr (by decide) rfl pass0 (pa_cons (pv 0) (pa_cons (pv 1) (pa_cons (pe_ix ix_seq (pv 7) (pe_un un_neg pe_int) (fun _ _ => rfl)) (pa_cons (pv 11) (pa_cons (pv 8) pa_nil)))))))) pss_nil) (pss_cons (ps_expr (pe_bm PySem.F.plainAttrs_list PySem.F.slot_list_append PySem.F.type_list_append mt_append (pv 5) (pa_cons (pv 12) pa_nil))) (pss_cons (ps_expr (pe_bm PySem.F.plainAttrs_list PySem.F.slot_list_append PySem.F.type_list_append mt_append (pv 6) (pa_cons (pe_tupB (pa_cons (pe_ix ix_seq (pv 12) pe_int (fun _ _ => rfl)) (pa_cons (pv 11) (pa_cons (pe_ix ix_seq (pe_ix ix_seq (pv 7) (pe_un un_neg pe_int) (fun _ _ => rfl)) (pv 11) (fun _ _ => rfl)) pa_nil)))) pa_nil))) (pss_one (ps_expr (pe_bm PySem.F.plainAttrs_list PySem.F.slot_list_append PySem.F.type_list_append mt_append (pv 7) (pa_cons (pe_ok F_law_done hr (by decide) rfl pass0 (pa_cons (pv 1) (pa_cons (pe_ix ix_seq (pv 7) (pe_un un_neg pe_int) (fun _ _ => rfl)) (pa_cons (pv 12) pa_nil)))) pa_nil)))))))))) (pss_one (ps_ret (pe_tupB (pa_cons (pe_callTy call_tupA rfl M.tuple boot_tuple (pa_cons (pv 5) pa_nil)) (pa_cons (pe_callTy call_tupA rfl M.tuple boot_tuple (pa_cons (pv 6) pa_nil)) (pa_cons (pv 7) pa_nil)))))))))
abbrev N_law_flat : List Str := ["_law_rows", "_law_found", "_law_row"]
theorem sc_law_flat : FnScope N_law_flat ["_law_rows"] (defScope (top 41)) := ⟨rfl, rfl, rfl, by decide +kernel, rfl, by decide +kernel, by decide +kernel⟩
def t_law_flat (K : PySem.W.Frag) : TS := (tSeq (tAsg (tLst tNil) (gName 1)) (tSeq (tFor (iSq K (tVar 0)) (gName 2) (tDrop (tBM K "list" (rExtend) (tVar 1) (tCons (tVar 2) tNil)))) (tRet (tVar 1))))
theorem ok_law_flat {sp : Sp} (D : Dfs K mg) (M : Mgs mg) (len : ∀ vs H Q E, sp vs H Q E → vs.length = 1) (h : ∀ vs H Q E, sp vs H Q E → t_law_flat K  (fin Q) (L2.start N_law_flat vs) H) : Ok P w K mg base CX0 1 "_law_flat" ["_law_rows"] sp := by
  obtain ⟨f, fd, F, hm⟩ := D.law_flat
  refine ⟨f, fd, F.bindsN fun _ _ _ _ _ _ us hl => match us, hl with | [_], _ => rfl, F.ok sc_law_flat len (fun cdv A outer s H vs Q E hr p => ⟨t_law_flat K , PSs.nox ?_, h vs H Q E p⟩), hm, F.kp⟩
  have hu := hr.units
  exact (pss_cons (ps_set (i := 1) sc_law_flat.nd rfl (Or.inl rfl) (pe_lst pa_nil)) (pss_cons (ps_for PassesOwn.never rfl (PI.or (pi_list (pv 0)) (pi_tup (pv 0))) (pg_name (i := 2) sc_law_flat.nd rfl (Or.inl rfl)) (pss_one (ps_expr (pe_bm PySem.F.plainAttrs_list PySem.F.slot_list_extend PySem.F.type_list_extend mt_extend (pv 1) (pa_cons (pv 2) pa_nil))))) (pss_one (ps_ret (pv 1)))))
abbrev N_law_full_state : List Str := ["_law_bag_here", "_law_house_here", "_law_places", "_law_floor", "_law_rooms"]
theorem sc_law_full_state : FnScope N_law_full_state ["_law_bag_here", "_law_house_here"] (defScope (top 42)) := ⟨rfl, rfl, rfl, by decide +kernel, rfl, by decide +kernel, by decide +kernel⟩
def t_law_full_state (K : PySem.W.Frag) (sp_law_flat sp_law_mixed : Sp) : TS := (tSeq (tAsg (tCall sp_law_flat [] E0 (tCons (tLc (iEn K (tCons (tOp (rIx K) (tVar 1) (tC (.int 1))) tNil)) (gTup K 2 (gCons (gName 3) (gCons (gName 4) gNil))) tYes (tOp (rMul K) (tLst (tCons (tVar 3) tNil)) (tVar 4)) [3, 4]) tNil)) (gName 2)) (tRet (tCB (rTupA K) (tCons (tCall sp_law_mixed [] E0 (tCons (tVar 0) (tCons (tOp (rPlus K) (tVar 2) (tOp (rMul K) (tLst (tCons (tCB (Lg.rLen K) (tCons (tOp (rIx K) (tVar 1) (tC (.int 1))) tNil)) tNil)) (tOp (rI0 fun i j => .int (i - j)) (tOp (rIx K) (tVar 1) (tC (.int 0))) (tCB (Lg.rLen K) (tCons (tVar 2) tNil))))) tNil))) tNil))))
theorem ok_law_full_state {sp : Sp} {sp_law_flat sp_law_mixed : Sp} (D : Dfs K mg) (M : Mgs mg) (F_law_flat : Ok P w K mg base CX0 1 "_law_flat" ["_law_rows"] sp_law_flat) (F_law_mixed : Ok P w K mg base CX0 2 "_law_mixed" ["_law_bag_here", "_law_things"] sp_law_mixed) (len : ∀ vs H Q E, sp vs H Q E → vs.length = 2) (h : ∀ vs H Q E, sp vs H Q E → t_law_full_state K sp_law_flat sp_law_mixed (fin Q) (L2.start N_law_full_state vs) H) : Ok P w K mg base CX0 3 "_law_full_state" ["_law_bag_here", "_law_house_here"] sp := by
  obtain ⟨f, fd, F, hm⟩ := D.law_full_state
  refine ⟨f, fd, F.bindsN fun _ _ _ _ _ _ us hl => match us, hl with | [_, _], _ => rfl, F.ok sc_law_full_state len (fun cdv A outer s H vs Q E hr p => ⟨t_law_full_state K sp_law_flat sp_law_mixed, PSs.nox ?_, h vs H Q E p⟩), hm, F.kp⟩
  have hu := hr.units
  exact (pss_cons (ps_set (i := 2) sc_law_full_state.nd rfl (Or.inl rfl) (pe_ok F_law_flat hr (by decide) rfl pass0 (pa_cons (pe_lc (own := [("_law_floor", 3), ("_law_rooms", 4)]) rfl sc_law_full_state.nd (PI.or (pi_enum rfl M.enumerate (pa_cons (pe_ix ix_seq (pv 1) pe_int (fun _ _ => rfl)) pa_nil)) (pi_enumT rfl M.enumerate (pa_cons (pe_ix ix_seq (pv 1) pe_int (fun _ _ => rfl)) pa_nil))) (blkOk_by rfl) (fun _ _ _ _ _ => (pg_tup rfl (pgs_cons (pg_name (i := 3) sc_law_full_state.nd rfl (Or.inl rfl)) (pgs_cons (pg_name (i := 4) sc_law_full_state.nd rfl (Or.inl rfl)) pgs_nil)))) (fun _ _ _ _ _ => pts_nil) (fun _ _ _ _ _ => (pe_op op_mulA (pe_lst (pa_cons (pv 3) pa_nil)) (pv 4)))) pa_nil))) (pss_one (ps_ret (pe_callTy call_tupA rfl M.tuple boot_tuple (pa_cons (pe_ok F_law_mixed hr (by decide) rfl pass0 (pa_cons (pv 0) (pa_cons (pe_op op_plus (pv 2) (pe_op op_mulA (pe_lst (pa_cons (pe_callB call_len_seq rfl M.len boot_len (pa_cons (pe_ix ix_seq (pv 1) pe_int (fun _ _ => rfl)) pa_nil)) pa_nil)) (pe_op op_sub (pe_ix ix_seq (pv 1) pe_int (fun _ _ => rfl)) (pe_callB call_len_seq rfl M.len boot_len (pa_cons (pv 2) pa_nil))))) pa_nil))) pa_nil)))))
abbrev N_law_story : List Str := ["_law_bag_here", "_law_house_here", "_law_start_here", "_law_many", "_law_strikes"]
theorem sc_law_story : FnScope N_law_story ["_law_bag_here", "_law_house_here", "_law_start_here", "_law_many", "_law_strikes"] (defScope (top 43)) := ⟨rfl, rfl, rfl, by decide +kernel, rfl, by decide +kernel, by decide +kernel⟩
def t_law_story (K : PySem.W.Frag) (sp_law_full_state sp_law_run : Sp) : TS := (tRet (tCall sp_law_run [] E0 (tCons (tVar 0) (tCons (tVar 1) (tCons (tIf (tTest (tOp (fun x y H Q => y = .non ∧ Q (.bl (decide (x = .non))) H) (tVar 2) (tC .non))) (tCall sp_law_full_state [] E0 (tCons (tVar 0) (tCons (tVar 1) tNil))) (tVar 2)) (tCons (tVar 3) (tCons (tVar 4) tNil)))))))
theorem ok_law_story {sp : Sp} {sp_law_full_state sp_law_run : Sp} (D : Dfs K mg) (M : Mgs mg) (F_law_full_state : Ok P w K mg base CX0 3 "_law_full_state" ["_law_bag_here", "_law_house_here"] sp_law_full_state) (F_law_run : Ok P w K mg base CX0 4 "_law_run" ["_law_bag_here", "_law_house_here", "_law_state_here", "_law_many", "_law_strikes"] sp_law_run) (len : ∀ vs H Q E, sp vs H Q E → vs.length = 5) (h : ∀ vs H Q E, sp vs H Q E → t_law_story K sp_law_full_state sp_law_run (fin Q) (L2.start N_law_story vs) H) : Ok P w K mg base CX0 5 "_law_story" ["_law_bag_here", "_law_house_here", "_law_start_here", "_law_many", "_law_strikes"] sp := by
  obtain ⟨f, fd, F, hm⟩ := D.law_story
  refine ⟨f, fd, F.bindsN fun _ _ _ _ _ _ us hl => match us, hl with | [_, _, _, _, _], _ => rfl, F.ok sc_law_story len (fun cdv A outer s H vs Q E hr p => ⟨t_law_story K sp_law_full_state sp_law_run, PSs.nox ?_, h vs H Q E p⟩), hm, F.kp⟩
  have hu := hr.units
  exact (pss_one (ps_ret (pe_ok F_law_run hr (by decide) rfl pass0 (pa_cons (pv 0) (pa_cons (pv 1) (pa_cons (pe_ifExp (pt_cmpR op_isN (pv 2) pe_non (nomark _)) (pe_ok F_law_full_state hr (by decide) rfl pass0 (pa_cons (pv 0) (pa_cons (pv 1) pa_nil))) (pv 2)) (pa_cons (pv 3) (pa_cons (pv 4) pa_nil))))))))
abbrev N_law_bent_log : List Str := ["_law_bag_here", "_law_house_here", "_law_log", "_law_found", "_law_turn", "_law_at", "_law_way", "_law_word", "_law_thing", "_law_floor"]
theorem sc_law_bent_log : FnScope N_law_bent_log ["_law_bag_here", "_law_house_here", "_law_log"] (defScope (top 44)) := ⟨rfl, rfl, rfl, by decide +kernel, rfl, by decide +kernel, by decide +kernel⟩
def t_law_bent_log (K : PySem.W.Frag) (sp_law_one sp_law_take : Sp) : TS := (tSeq (tAsg (tCB (rLstOf K) (tCons (tVar 2) tNil)) (gName 3)) (tSeq (tFor (iRng1 (tCons (tIf (tTest (tOp (rNeD K) (tVar 2) (tTupB tNil))) (tCall sp_law_one [] E0 (tCons (tVar 0) (tCons (tLst (tCons (tC (.int 1)) (tCons (tC (.int 2)) (tCons (tC (.int 1)) tNil)))) tNil))) (tC (.int 0))) tNil)) (gName 4) (tSeq (tPar 5 6 (tCons (tCall sp_law_take [] E0 (tCons (tVar 0) (tCons (tCB (Lg.rLen K) (tCons (tVar 3) tNil)) tNil))) (tCons (tCall sp_law_take [] E0 (tCons (tVar 0) (tCons (tC (.int 6)) tNil))) tNil))) (tSeq (tAsg (tOp (rIx K) (tVar 3) (tVar 5)) (gTup K 3 (gCons (gName 7) (gCons (gName 8) (gCons (gName 9) gNil))))) (tIfS (tTest (tOp (rI0 fun i j => .bl (decide (i < j))) (tVar 6) (tC (.int 4)))) (tAsg (tTupB (tCons (tVar 7) (tCons (tVar 8) (tCons (tCall sp_law_take [] E0 (tCons (tVar 0) (tCons (tOp (rPlus K) (tCB (Lg.rLen K) (tCons (tOp (rIx K) (tVar 1) (tC (.int 1))) tNil)) (tC (.int 1))) tNil))) tNil)))) (gSub (tVar 3) (tVar 5) rSetL)) (tIfS (tTest (tOp (rEqD K) (tVar 6) (tC (.int 4)))) (tAsg (tTupB (tCons (tVar 7) (tCons (tCall sp_law_take [] E0 (tCons (tVar 0) (tCons (tOp (rIx K) (tVar 1) (tC (.int 0))) tNil))) (tCons (tVar 9) tNil)))) (gSub (tVar 3) (tVar 5) rSetL)) (tIfS (tTest (tOp (rI0 fun i j => .bl (decide (j < i))) (tCB (Lg.rLen K) (tCons (tVar 3) tNil)) (tC (.int 1)))) (tDrop (tBM K "list" (rPopAt) (tVar 3) (tCons (tVar 5) tNil))) tNext)))))) (tRet (tCB (rTupA K) (tCons (tVar 3) tNil)))))
theorem ok_law_bent_log {sp : Sp} {sp_law_one sp_law_take : Sp} (D : Dfs K mg) (M : Mgs mg) (F_law_one : Ok P w K mg base CX0 2 "_law_one" ["_law_bag_here", "_law_things"] sp_law_one) (F_law_take : Ok P w K mg base CX0 1 "_law_take" ["_law_bag_here", "_law_many"] sp_law_take) (len : ∀ vs H Q E, sp vs H Q E → vs.length = 3) (h : ∀ vs H Q E, sp vs H Q E → t_law_bent_log K sp_law_one sp_law_take (fin Q) (L2.start N_law_bent_log vs) H) : Ok P w K mg base CX0 3 "_law_bent_log" ["_law_bag_here", "_law_house_here", "_law_log"] sp := by
  obtain ⟨f, fd, F, hm⟩ := D.law_bent_log
  refine ⟨f, fd, F.bindsN fun _ _ _ _ _ _ us hl => match us, hl with | [_, _, _], _ => rfl, F.ok sc_law_bent_log len (fun cdv A outer s H vs Q E hr p => ⟨t_law_bent_log K sp_law_one sp_law_take, PSs.nox ?_, h vs H Q E p⟩), hm, F.kp⟩
  have hu := hr.units
  exact (pss_cons (ps_set (i := 3) sc_law_bent_log.nd rfl (Or.inl rfl) (pe_callTy call_list_of rfl M.list boot_list (pa_cons (pv 2) pa_nil))) (pss_cons (ps_for PassesOwn.never rfl (pi_range1 rfl M.range (pa_cons (pe_ifExp (pt_cmpR (op_neD hu) (pv 2) (pe_tupB pa_nil) (nomark _)) (pe_ok F_law_one hr (by decide) rfl pass0 (pa_cons (pv 0) (pa_cons (pe_lst (pa_cons pe_int (pa_cons pe_int (pa_cons pe_int pa_nil)))) pa_nil))) pe_int) pa_nil)) (pg_name (i := 4) sc_law_bent_log.nd rfl (Or.inl rfl)) (pss_cons (ps_par (i := 5) (j := 6) rfl sc_law_bent_log.nd rfl rfl (by decide) rfl rfl (pa_cons (pe_ok F_law_take hr (by decide) rfl pass0 (pa_cons (pv 0) (pa_cons (pe_callB call_len_seq rfl M.len boot_len (pa_cons (pv 3) pa_nil)) pa_nil))) (pa_cons (pe_ok F_law_take hr (by decide) rfl pass0 (pa_cons (pv 0) (pa_cons pe_int pa_nil))) pa_nil)) rfl) (pss_cons (ps_asg (pe_ix ix_seq (pv 3) (pv 5) (fun _ _ => rfl)) (pg_tup rfl (pgs_cons (pg_name (i := 7) sc_law_bent_log.nd rfl (Or.inl rfl)) (pgs_cons (pg_name (i := 8) sc_law_bent_log.nd rfl (Or.inl rfl)) (pgs_cons (pg_name (i := 9) sc_law_bent_log.nd rfl (Or.inl rfl)) pgs_nil))))) (pss_one (ps_if (pt_cmpR op_lt (pv 6) pe_int (nomark _)) (pss_one (ps_asg (pe_tupB (pa_cons (pv 7) (pa_cons (pv 8) (pa_cons (pe_ok F_law_take hr (by decide) rfl pass0 (pa_cons (pv 0) (pa_cons (pe_op op_plus (pe_callB call_len_seq rfl M.len boot_len (pa_cons (pe_ix ix_seq (pv 1) pe_int (fun _ _ => rfl)) pa_nil)) pe_int) pa_nil))) pa_nil)))) (pg_sub (pv 3) (pv 5) set_list))) (pss_one (ps_if (pt_cmpR (op_eqD hu) (pv 6) pe_int (nomark _)) (pss_one (ps_asg (pe_tupB (pa_cons (pv 7) (pa_cons (pe_ok F_law_take hr (by decide) rfl pass0 (pa_cons (pv 0) (pa_cons (pe_ix ix_seq (pv 1) pe_int (fun _ _ => rfl)) pa_nil))) (pa_cons (pv 9) pa_nil)))) (pg_sub (pv 3) (pv 5) set_list))) (pss_one (ps_if (pt_cmpR op_gt (pe_callB call_len_seq rfl M.len boot_len (pa_cons (pv 3) pa_nil)) pe_int (nomark _)) (pss_one (ps_expr (pe_bm PySem.F.plainAttrs_list PySem.F.slot_list_pop PySem.F.type_list_pop mt_popAt (pv 3) (pa_cons (pv 5) pa_nil)))) pss_nil))))))))) (pss_one (ps_ret (pe_callTy call_tupA rfl M.tuple boot_tuple (pa_cons (pv 3) pa_nil))))))
abbrev N_law_other_log : List Str := ["_law_bag_here", "_law_house_here", "_law_log", "_law_some", "_law_word", "_law_more"]
theorem sc_law_other_log : FnScope N_law_other_log ["_law_bag_here", "_law_house_here", "_law_log"] (defScope (top 45)) := ⟨rfl, rfl, rfl, by decide +kernel, rfl, by decide +kernel, by decide +kernel⟩
def t_law_other_log (K : PySem.W.Frag) (sp_law_take sp_law_bent_log sp_law_one : Sp) : TS := (tSeq (tIfS (tOr (tTest (tOp (rEqD K) (tOp (rIx K) (tVar 1) (tC (.int 0))) (tC (.int 0)))) (tTest (tOp (rEqD K) (tCall sp_law_take [] E0 (tCons (tVar 0) (tCons (tC (.int 3)) tNil))) (tC (.int 0))))) (tRet (tVar 2)) tNext) (tSeq (tAsg (tCall sp_law_bent_log [] E0 (tCons (tVar 0) (tCons (tVar 1) (tCons (tVar 2) tNil)))) (gName 3)) (tSeq (tAsg (tCall sp_law_one [] E0 (tCons (tVar 0) (tCons (tLst (tCons (tC (.str "ask")) (tCons (tC (.str "ask")) (tCons (tC (.str "strike")) tNil)))) tNil))) (gName 4)) (tSeq (tAsg (tTupB (tCons (tVar 4) (tCons (tCall sp_law_take [] E0 (tCons (tVar 0) (tCons (tOp (rIx K) (tVar 1) (tC (.int 0))) tNil))) (tCons (tCall sp_law_take [] E0 (tCons (tVar 0) (tCons (tOp (rPlus K) (tCB (Lg.rLen K) (tCons (tOp (rIx K) (tVar 1) (tC (.int 1))) tNil)) (tC (.int 1))) tNil))) tNil)))) (gName 5)) (tRet (tIf (tAnd (tTest (tOp (rEqD K) (tCall sp_law_take [] E0 (tCons (tVar 0) (tCons (tC (.int 3)) tNil))) (tC (.int 0)))) (tTest (tOp (rI0 fun i j => .bl (decide (i < j))) (tCB (Lg.rLen K) (tCons (tVar 3) tNil)) (tC (.int 60))))) (tOp (rPlus K) (tVar 3) (tTupB (tCons (tVar 5) tNil))) (tVar 3)))))))
theorem ok_law_other_log {sp : Sp} {sp_law_take sp_law_bent_log sp_law_one : Sp} (D : Dfs K mg) (M : Mgs mg) (F_law_take : Ok P w K mg base CX0 1 "_law_take" ["_law_bag_here", "_law_many"] sp_law_take) (F_law_bent_log : Ok P w K mg base CX0 3 "_law_bent_log" ["_law_bag_here", "_law_house_here", "_law_log"] sp_law_bent_log) (F_law_one : Ok P w K mg base CX0 2 "_law_one" ["_law_bag_here", "_law_things"] sp_law_one) (len : ∀ vs H Q E, sp vs H Q E → vs.length = 3) (h : ∀ vs H Q E, sp vs H Q E → t_law_other_log K sp_law_take sp_law_bent_log sp_law_one (fin Q) (L2.start N_law_other_log vs) H) : Ok P w K mg base CX0 4 "_law_other_log" ["_law_bag_here", "_law_house_here", "_law_log"] sp := by
  obtain ⟨f, fd, F, hm⟩ := D.law_other_log
  refine ⟨f, fd, F.bindsN fun _ _ _ _ _ _ us hl => match us, hl with | [_, _, _], _ => rfl, F.ok sc_law_other_log len (fun cdv A outer s H vs Q E hr p => ⟨t_law_other_log K sp_law_take sp_law_bent_log sp_law_one, PSs.nox ?_, h vs H Q E p⟩), hm, F.kp⟩
  have hu := hr.units
  exact (pss_cons (ps_if (PW.pt (pw_or (pt_cmpR (op_eqD hu) (pe_ix ix_seq (pv 1) pe_int (fun _ _ => rfl)) pe_int (nomark _)) (pw_or1 (pt_cmpR (op_eqD hu) (pe_ok F_law_take hr (by decide) rfl pass0 (pa_cons (pv 0) (pa_cons pe_int pa_nil))) pe_int (nomark _))))) (pss_one (ps_ret (pv 2))) pss_nil) (pss_cons (ps_set (i := 3) sc_law_other_log.nd rfl (Or.inl rfl) (pe_ok F_law_bent_log hr (by decide) rfl pass0 (pa_cons (pv 0) (pa_cons (pv 1) (pa_cons (pv 2) pa_nil))))) (pss_cons (ps_set (i := 4) sc_law_other_log.nd rfl (Or.inl rfl) (pe_ok F_law_one hr (by decide) rfl pass0 (pa_cons (pv 0) (pa_cons (pe_lst (pa_cons pe_str (pa_cons pe_str (pa_cons pe_str pa_nil)))) pa_nil)))) (pss_cons (ps_set (i := 5) sc_law_other_log.nd rfl (Or.inl rfl) (pe_tupB (pa_cons (pv 4) (pa_cons (pe_ok F_law_take hr (by decide) rfl pass0 (pa_cons (pv 0) (pa_cons (pe_ix ix_seq (pv 1) pe_int (fun _ _ => rfl)) pa_nil))) (pa_cons (pe_ok F_law_take hr (by decide) rfl pass0 (pa_cons (pv 0) (pa_cons (pe_op op_plus (pe_callB call_len_seq rfl M.len boot_len (pa_cons (pe_ix ix_seq (pv 1) pe_int (fun _ _ => rfl)) pa_nil)) pe_int) pa_nil))) pa_nil))))) (pss_one (ps_ret (pe_ifExp (PW.pt (pw_and (pt_cmpR (op_eqD hu) (pe_ok F_law_take hr (by decide) rfl pass0 (pa_cons (pv 0) (pa_cons pe_int pa_nil))) pe_int (nomark _)) (pw_and1 (pt_cmpR op_lt (pe_callB call_len_seq rfl M.len boot_len (pa_cons (pv 3) pa_nil)) pe_int (nomark _))))) (pe_op op_plus (pv 3) (pe_tupB (pa_cons (pv 5) pa_nil))) (pv 3))))))))
abbrev N_law_all_states : List Str := ["_law_house_here", "_law_found", "_law_out", "_law_thing", "_law_more", "_law_state_here", "_law_floor", "_law_rooms"]
theorem sc_law_all_states : FnScope N_law_all_states ["_law_house_here"] (defScope (top 46)) := ⟨rfl, rfl, rfl, by decide +kernel, rfl, by decide +kernel, by decide +kernel⟩
def t_law_all_states (K : PySem.W.Frag) : TS := (tSeq (tPar 1 2 (tCons (tLst (tCons (tTupB tNil) tNil)) (tCons (tCB (Lg.rLen K) (tCons (tOp (rIx K) (tVar 0) (tC (.int 1))) tNil)) tNil))) (tSeq (tFor (iRng1 (tCons (tOp (rIx K) (tVar 0) (tC (.int 0))) tNil)) (gName 3) (tSeq (tAsg (tLst tNil) (gName 4)) (tSeq (tFor (iSq K (tVar 1)) (gName 5) (tSeq (tDrop (tBM K "list" (rExtend) (tVar 4) (tCons (tLc (iEn K (tCons (tOp (rIx K) (tVar 0) (tC (.int 1))) tNil)) (gTup K 2 (gCons (gName 6) (gCons (gName 7) gNil))) (tTest (tOp (rI0 fun i j => .bl (decide (i < j))) (tBMT (rCntT K) (tVar 5) (tCons (tVar 6) tNil)) (tVar 7))) (tOp (rPlus K) (tVar 5) (tTupB (tCons (tVar 6) tNil))) [6, 7]) tNil))) (tDrop (tBM K "list" (rAppend) (tVar 4) (tCons (tOp (rPlus K) (tVar 5) (tTupB (tCons (tVar 2) tNil))) tNil))))) (tAsg (tVar 4) (gName 1))))) (tRet (tVar 1))))
theorem ok_law_all_states {sp : Sp} (D : Dfs K mg) (M : Mgs mg) (len : ∀ vs H Q E, sp vs H Q E → vs.length = 1) (h : ∀ vs H Q E, sp vs H Q E → t_law_all_states K  (fin Q) (L2.start N_law_all_states vs) H) : Ok P w K mg base CX0 1 "_law_all_states" ["_law_house_here"] sp := by
  obtain ⟨f, fd, F, hm⟩ := D.law_all_states
  refine ⟨f, fd, F.bindsN fun _ _ _ _ _ _ us hl => match us, hl with | [_], _ => rfl, F.ok sc_law_all_states len (fun cdv A outer s H vs Q E hr p => ⟨t_law_all_states K , PSs.nox ?_, h vs H Q E p⟩), hm, F.kp⟩
  have hu := hr.units
  exact (pss_cons (ps_par (i := 1) (j := 2) rfl sc_law_all_states.nd rfl rfl (by decide) rfl rfl (pa_cons (pe_lst (pa_cons (pe_tupB pa_nil) pa_nil)) (pa_cons (pe_callB call_len_seq rfl M.len boot_len (pa_cons (pe_ix ix_seq (pv 0) pe_int (fun _ _ => rfl)) pa_nil)) pa_nil)) rfl) (pss_cons (ps_for PassesOwn.never rfl (pi_range1 rfl M.range (pa_cons (pe_ix ix_seq (pv 0) pe_int (fun _ _ => rfl)) pa_nil)) (pg_name (i := 3) sc_law_all_states.nd rfl (Or.inl rfl)) (pss_cons (ps_set (i := 4) sc_law_all_states.nd rfl (Or.inl rfl) (pe_lst pa_nil)) (pss_cons (ps_for PassesOwn.never rfl (PI.or (pi_list (pv 1)) (pi_tup (pv 1))) (pg_name (i := 5) sc_law_all_states.nd rfl (Or.inr rfl)) (pss_cons (ps_expr (pe_bm PySem.F.plainAttrs_list PySem.F.slot_list_extend PySem.F.type_list_extend mt_extend (pv 4) (pa_cons (pe_lc (own := [("_law_floor", 6), ("_law_rooms", 7)]) rfl sc_law_all_states.nd (PI.or (pi_enum rfl M.enumerate (pa_cons (pe_ix ix_seq (pv 0) pe_int (fun _ _ => rfl)) pa_nil)) (pi_enumT rfl M.enumerate (pa_cons (pe_ix ix_seq (pv 0) pe_int (fun _ _ => rfl)) pa_nil))) (blkOk_by rfl) (fun _ _ _ _ _ => (pg_tup rfl (pgs_cons (pg_name (i := 6) sc_law_all_states.nd rfl (Or.inl rfl)) (pgs_cons (pg_name (i := 7) sc_law_all_states.nd rfl (Or.inl rfl)) pgs_nil)))) (fun _ _ _ _ _ => (pts_one (pt_cmpR op_lt (pe_bmT PySem.F.slot_tuple_count PySem.F.type_tuple_count mt_tcount (pv 5) (pa_cons (pv 6) pa_nil)) (pv 7) (nomark _)))) (fun _ _ _ _ _ => (pe_op op_plus (pv 5) (pe_tupB (pa_cons (pv 6) pa_nil))))) pa_nil))) (pss_one (ps_expr (pe_bm PySem.F.plainAttrs_list PySem.F.slot_list_append PySem.F.type_list_append mt_append (pv 4) (pa_cons (pe_op op_plus (pv 5) (pe_tupB (pa_cons (pv 2) pa_nil))) pa_nil)))))) (pss_one (ps_set (i := 1) sc_law_all_states.nd rfl (Or.inl rfl) (pv 4)))))) (pss_one (ps_ret (pv 1)))))
abbrev N_law_within : List Str := ["_law_house_here", "_law_state_here", "_law_floor", "_law_thing"]
theorem sc_law_within : FnScope N_law_within ["_law_house_here", "_law_state_here", "_law_floor"] (defScope (top 47)) := ⟨rfl, rfl, rfl, by decide +kernel, rfl, by decide +kernel, by decide +kernel⟩
def t_law_within (K : PySem.W.Frag) : TS := (tRet (tLc (iRng1 (tCons (tOp (rIx K) (tVar 0) (tC (.int 0))) tNil)) (gName 3) (tTest (tOp (rI0 fun i j => .bl (decide (i ≤ j))) (tOp (rIx K) (tVar 1) (tVar 3)) (tVar 2))) (tVar 3) [3]))
theorem ok_law_within {sp : Sp} (D : Dfs K mg) (M : Mgs mg) (len : ∀ vs H Q E, sp vs H Q E → vs.length = 3) (h : ∀ vs H Q E, sp vs H Q E → t_law_within K  (fin Q) (L2.start N_law_within vs) H) : Ok P w K mg base CX0 1 "_law_within" ["_law_house_here", "_law_state_here", "_law_floor"] sp := by
  obtain ⟨f, fd, F, hm⟩ := D.law_within
  refine ⟨f, fd, F.bindsN fun _ _ _ _ _ _ us hl => match us, hl with | [_, _, _], _ => rfl, F.ok sc_law_within len (fun cdv A outer s H vs Q E hr p => ⟨t_law_within K , PSs.nox ?_, h vs H Q E p⟩), hm, F.kp⟩
  have hu := hr.units
  exact (pss_one (ps_ret (pe_lc (own := [("_law_thing", 3)]) rfl sc_law_within.nd (pi_range1 rfl M.range (pa_cons (pe_ix ix_seq (pv 0) pe_int (fun _ _ => rfl)) pa_nil)) (blkOk_by rfl) (fun _ _ _ _ _ => (pg_name (i := 3) sc_law_within.nd rfl (Or.inl rfl))) (fun _ _ _ _ _ => (pts_one (pt_cmpR op_le (pe_ix ix_seq (pv 1) (pv 3) (fun _ _ => rfl)) (pv 2) (nomark _)))) (fun _ _ _ _ _ => (pv 3)))))
abbrev N_law_sizes : List Str := ["_law_house_here", "_law_state_here", "_law_floor"]
theorem sc_law_sizes : FnScope N_law_sizes ["_law_house_here", "_law_state_here"] (defScope (top 48)) := ⟨rfl, rfl, rfl, by decide +kernel, rfl, by decide +kernel, by decide +kernel⟩
def t_law_sizes (K : PySem.W.Frag) (sp_law_within : Sp) : TS := (tRet (tCB (rTupA K) (tCons (tLc (iRng1 (tCons (tCB (Lg.rLen K) (tCons (tOp (rIx K) (tVar 0) (tC (.int 1))) tNil)) tNil)) (gName 2) tYes (tCB (Lg.rLen K) (tCons (tCall sp_law_within [] E0 (tCons (tVar 0) (tCons (tVar 1) (tCons (tVar 2) tNil)))) tNil)) [2]) tNil)))
theorem ok_law_sizes {sp : Sp} {sp_law_within : Sp} (D : Dfs K mg) (M : Mgs mg) (F_law_within : Ok P w K mg base CX0 1 "_law_within" ["_law_house_here", "_law_state_here", "_law_floor"] sp_law_within) (len : ∀ vs H Q E, sp vs H Q E → vs.length = 2) (h : ∀ vs H Q E, sp vs H Q E → t_law_sizes K sp_law_within (fin Q) (L2.start N_law_sizes vs) H) : Ok P w K mg base CX0 2 "_law_sizes" ["_law_house_here", "_law_state_here"] sp := by
  obtain ⟨f, fd, F, hm⟩ := D.law_sizes
  refine ⟨f, fd, F.bindsN fun _ _ _ _ _ _ us hl => match us, hl with | [_, _], _ => rfl, F.ok sc_law_sizes len (fun cdv A outer s H vs Q E hr p => ⟨t_law_sizes K sp_law_within, PSs.nox ?_, h vs H Q E p⟩), hm, F.kp⟩
  have hu := hr.units
  exact (pss_one (ps_ret (pe_callTy call_tupA rfl M.tuple boot_tuple (pa_cons (pe_lc (own := [("_law_floor", 2)]) rfl sc_law_sizes.nd (pi_range1 rfl M.range (pa_cons (pe_callB call_len_seq rfl M.len boot_len (pa_cons (pe_ix ix_seq (pv 0) pe_int (fun _ _ => rfl)) pa_nil)) pa_nil)) (blkOk_by rfl) (fun _ _ _ _ _ => (pg_name (i := 2) sc_law_sizes.nd rfl (Or.inl rfl))) (fun _ _ _ _ _ => pts_nil) (fun _ _ _ _ _ => (pe_callB call_len_seq rfl M.len boot_len (pa_cons (pe_ok F_law_within hr (by decide) rfl pass0 (pa_cons (pv 0) (pa_cons (pv 1) (pa_cons (pv 2) pa_nil)))) pa_nil)))) pa_nil))))
abbrev N_law_rooms_within : List Str := ["_law_house_here", "_law_floor"]
theorem sc_law_rooms_within : FnScope N_law_rooms_within ["_law_house_here"] (defScope (top 49)) := ⟨rfl, rfl, rfl, by decide +kernel, rfl, by decide +kernel, by decide +kernel⟩
def t_law_rooms_within (K : PySem.W.Frag) : TS := (tRet (tLc (iRng1 (tCons (tCB (Lg.rLen K) (tCons (tOp (rIx K) (tVar 0) (tC (.int 1))) tNil)) tNil)) (gName 1) tYes (tCB (rSumT K) (tCons (tSl (rSl K) (tOp (rIx K) (tVar 0) (tC (.int 1))) tNoPart (tPart (tOp (rPlus K) (tVar 1) (tC (.int 1))))) tNil)) [1]))
theorem ok_law_rooms_within {sp : Sp} (D : Dfs K mg) (M : Mgs mg) (len : ∀ vs H Q E, sp vs H Q E → vs.length = 1) (h : ∀ vs H Q E, sp vs H Q E → t_law_rooms_within K  (fin Q) (L2.start N_law_rooms_within vs) H) : Ok P w K mg base CX0 1 "_law_rooms_within" ["_law_house_here"] sp := by
  obtain ⟨f, fd, F, hm⟩ := D.law_rooms_within
  refine ⟨f, fd, F.bindsN fun _ _ _ _ _ _ us hl => match us, hl with | [_], _ => rfl, F.ok sc_law_rooms_within len (fun cdv A outer s H vs Q E hr p => ⟨t_law_rooms_within K , PSs.nox ?_, h vs H Q E p⟩), hm, F.kp⟩
  have hu := hr.units
  exact (pss_one (ps_ret (pe_lc (own := [("_law_floor", 1)]) rfl sc_law_rooms_within.nd (pi_range1 rfl M.range (pa_cons (pe_callB call_len_seq rfl M.len boot_len (pa_cons (pe_ix ix_seq (pv 0) pe_int (fun _ _ => rfl)) pa_nil)) pa_nil)) (blkOk_by rfl) (fun _ _ _ _ _ => (pg_name (i := 1) sc_law_rooms_within.nd rfl (Or.inl rfl))) (fun _ _ _ _ _ => pts_nil) (fun _ _ _ _ _ => (pe_callB (cr_sumT rfl) rfl M.sum boot_sum (pa_cons (pe_slice sl_seq (pe_ix ix_seq (pv 0) pe_int (fun _ _ => rfl)) po_none (po_some (pe_op op_plus (pv 1) pe_int))) pa_nil))))))
abbrev N_law_first_states : List Str := ["_law_house_here", "_law_start_here", "_law_state_here"]
theorem sc_law_first_states : FnScope N_law_first_states ["_law_house_here", "_law_start_here"] (defScope (top 50)) := ⟨rfl, rfl, rfl, by decide +kernel, rfl, by decide +kernel, by decide +kernel⟩
def t_law_first_states (K : PySem.W.Frag) (sp_law_all_states sp_law_sizes sp_law_rooms_within : Sp) : TS := (tSeq (tIfS (tTest (tOp (fun x y H Q => y = .non ∧ Q (.bl (!decide (x = .non))) H) (tVar 1) (tC .non))) (tRet (tLst (tCons (tVar 1) tNil))) tNext) (tRet (tLc (iSq K (tCall sp_law_all_states [] E0 (tCons (tVar 0) tNil))) (gName 2) (tTest (tOp (rEqD K) (tCall sp_law_sizes [] E0 (tCons (tVar 0) (tCons (tVar 2) tNil))) (tCB (rTupA K) (tCons (tCall sp_law_rooms_within [] E0 (tCons (tVar 0) tNil)) tNil)))) (tVar 2) [2])))
theorem ok_law_first_states {sp : Sp} {sp_law_all_states sp_law_sizes sp_law_rooms_within : Sp} (D : Dfs K mg) (M : Mgs mg) (F_law_all_states : Ok P w K mg base CX0 1 "_law_all_states" ["_law_house_here"] sp_law_all_states) (F_law_sizes : Ok P w K mg base CX0 2 "_law_sizes" ["_law_house_here", "_law_state_here"] sp_law_sizes) (F_law_rooms_within : Ok P w K mg base CX0 1 "_law_rooms_within" ["_law_house_here"] sp_law_rooms_within) (len : ∀ vs H Q E, sp vs H Q E → vs.length = 2) (h : ∀ vs H Q E, sp vs H Q E → t_law_first_states K sp_law_all_states sp_law_sizes sp_law_rooms_within (fin Q) (L2.start N_law_first_states vs) H) : Ok P w K mg base CX0 3 "_law_first_states" ["_law_house_here", "_law_start_here"] sp := by
  obtain ⟨f, fd, F, hm⟩ := D.law_first_states
  refine ⟨f, fd, F.bindsN fun _ _ _ _ _ _ us hl => match us, hl with | [_, _], _ => rfl, F.ok sc_law_first_states len (fun cdv A outer s H vs Q E hr p => ⟨t_law_first_states K sp_law_all_states sp_law_sizes sp_law_rooms_within, PSs.nox ?_, h vs H Q E p⟩), hm, F.kp⟩
  have hu := hr.units
  exact (pss_cons (ps_if (pt_cmpR op_notN (pv 1) pe_non (nomark _)) (pss_one (ps_ret (pe_lst (pa_cons (pv 1) pa_nil)))) pss_nil) (pss_one (ps_ret (pe_lc (own := [("_law_state_here", 2)]) rfl sc_law_first_states.nd (PI.or (pi_list (pe_ok F_law_all_states hr (by decide) rfl pass0 (pa_cons (pv 0) pa_nil))) (pi_tup (pe_ok F_law_all_states hr (by decide) rfl pass0 (pa_cons (pv 0) pa_nil)))) (blkOk_by rfl) (fun _ _ _ _ _ => (pg_name (i := 2) sc_law_first_states.nd rfl (Or.inl rfl))) (fun _ _ _ _ _ => (pts_one (pt_cmpR (op_eqD hu) (pe_ok F_law_sizes hr (by decide) rfl pass0 (pa_cons (pv 0) (pa_cons (pv 2) pa_nil))) (pe_callTy call_tupA rfl M.tuple boot_tuple (pa_cons (pe_ok F_law_rooms_within hr (by decide) rfl pass0 (pa_cons (pv 0) pa_nil)) pa_nil)) (nomark _)))) (fun _ _ _ _ _ => (pv 2))))))
abbrev N_law_states_of_log : List Str := ["_law_house_here", "_law_start_here", "_law_log", "_law_states", "_law_index", "_law_entry", "_law_later"]
theorem sc_law_states_of_log : FnScope N_law_states_of_log ["_law_house_here", "_law_start_here", "_law_log"] (defScope (top 53)) := ⟨rfl, rfl, rfl, by decide +kernel, rfl, by decide +kernel, by decide +kernel⟩
def t_law_states_of_log (K : PySem.W.Frag) (sp_law_first_states sp_law_states_behind : Sp) : TS := (tSeq (tAsg (tCall sp_law_first_states [] E0 (tCons (tVar 0) (tCons (tVar 1) tNil))) (gName 3)) (tSeq (tFor (iEn K (tCons (tVar 2) tNil)) (gTup K 2 (gCons (gName 4) (gCons (gName 5) gNil))) (tSeq (tAsg (tCall sp_law_states_behind [] E0 (tCons (tVar 0) (tCons (tVar 3) (tCons (tVar 5) tNil)))) (gName 6)) (tSeq (tIfS (tTest (tOp (rEqD K) (tVar 6) (tLst tNil))) (tRet (tTupB (tCons (tVar 3) (tCons (tVar 4) tNil)))) tNext) (tAsg (tVar 6) (gName 3))))) (tRet (tTupB (tCons (tVar 3) (tCons (tC .non) tNil))))))
theorem ok_law_states_of_log {sp : Sp} {sp_law_first_states sp_law_states_behind : Sp} (D : Dfs K mg) (M : Mgs mg) (F_law_first_states : Ok P w K mg base CX0 3 "_law_first_states" ["_law_house_here", "_law_start_here"] sp_law_first_states) (F_law_states_behind : Ok P w K mg base CX0 2 "_law_states_behind" ["_law_house_here", "_law_states", "_law_entry"] sp_law_states_behind) (len : ∀ vs H Q E, sp vs H Q E → vs.length = 3) (h : ∀ vs H Q E, sp vs H Q E → t_law_states_of_log K sp_law_first_states sp_law_states_behind (fin Q) (L2.start N_law_states_of_log vs) H) : Ok P w K mg base CX0 4 "_law_states_of_log" ["_law_house_here", "_law_start_here", "_law_log"] sp := by
  obtain ⟨f, fd, F, hm⟩ := D.law_states_of_log
  refine ⟨f, fd, F.bindsN fun _ _ _ _ _ _ us hl => match us, hl with | [_, _, _], _ => rfl, F.ok sc_law_states_of_log len (fun cdv A outer s H vs Q E hr p => ⟨t_law_states_of_log K sp_law_first_states sp_law_states_behind, PSs.nox ?_, h vs H Q E p⟩), hm, F.kp⟩
  have hu := hr.units
  exact (pss_cons (ps_set (i := 3) sc_law_states_of_log.nd rfl (Or.inl rfl) (pe_ok F_law_first_states hr (by decide) rfl pass0 (pa_cons (pv 0) (pa_cons (pv 1) pa_nil)))) (pss_cons (ps_for PassesOwn.never rfl (PI.or (pi_enum rfl M.enumerate (pa_cons (pv 2) pa_nil)) (pi_enumT rfl M.enumerate (pa_cons (pv 2) pa_nil))) (pg_tup rfl (pgs_cons (pg_name (i := 4) sc_law_states_of_log.nd rfl (Or.inl rfl)) (pgs_cons (pg_name (i := 5) sc_law_states_of_log.nd rfl (Or.inl rfl)) pgs_nil))) (pss_cons (ps_set (i := 6) sc_law_states_of_log.nd rfl (Or.inl rfl) (pe_ok F_law_states_behind hr (by decide) rfl pass0 (pa_cons (pv 0) (pa_cons (pv 3) (pa_cons (pv 5) pa_nil))))) (pss_cons (ps_if (pt_cmpR (op_eqD hu) (pv 6) (pe_lst pa_nil) (nomark _)) (pss_one (ps_ret (pe_tupB (pa_cons (pv 3) (pa_cons (pv 4) pa_nil))))) pss_nil) (pss_one (ps_set (i := 3) sc_law_states_of_log.nd rfl (Or.inl rfl) (pv 6)))))) (pss_one (ps_ret (pe_tupB (pa_cons (pv 3) (pa_cons pe_non pa_nil)))))))
abbrev N_law_words_by : List Str := ["_law_house_here", "_law_order", "_law_states", "_law_found", "_law_floor", "_law_word", "_law_count", "_law_state_here", "_law_one_here"]
theorem sc_law_words_by : FnScope N_law_words_by ["_law_house_here", "_law_order", "_law_states"] (defScope (top 56)) := ⟨rfl, rfl, rfl, by decide +kernel, rfl, by decide +kernel, by decide +kernel⟩
def t_law_words_by (K : PySem.W.Frag) : TS := (tSeq (tAsg (tLst tNil) (gName 3)) (tSeq (tFor (iRng1 (tCons (tCB (Lg.rLen K) (tCons (tOp (rIx K) (tVar 0) (tC (.int 1))) tNil)) tNil)) (gName 4) (tSeq (tAsg (tLst tNil) (gName 5)) (tSeq (tFor (iRng1 (tCons (tOp (rPlus K) (tOp (rIx K) (tVar 0) (tC (.int 0))) (tC (.int 1))) tNil)) (gName 6) (tDrop (tBM K "list" (rAppend) (tVar 5) (tCons (tCB (rMin K) (tCons (tLc (iSq K (tVar 2)) (gName 7) tYes (tCB (Lg.rLen K) (tCons (tLc (iSq K (tSl (rSl K) (tVar 1) tNoPart (tPart (tVar 6)))) (gName 8) (tTest (tOp (rI0 fun i j => .bl (decide (i ≤ j))) (tOp (rIx K) (tVar 7) (tVar 8)) (tVar 4))) (tVar 8) [8]) tNil)) [7]) tNil)) tNil)))) (tDrop (tBM K "list" (rAppend) (tVar 3) (tCons (tCB (rTupA K) (tCons (tVar 5) tNil)) tNil)))))) (tRet (tCB (rTupA K) (tCons (tVar 3) tNil)))))
theorem ok_law_words_by {sp : Sp} (D : Dfs K mg) (M : Mgs mg) (len : ∀ vs H Q E, sp vs H Q E → vs.length = 3) (h : ∀ vs H Q E, sp vs H Q E → t_law_words_by K  (fin Q) (L2.start N_law_words_by vs) H) : Ok P w K mg base CX0 1 "_law_words_by" ["_law_house_here", "_law_order", "_law_states"] sp := by
  obtain ⟨f, fd, F, hm⟩ := D.law_words_by
  refine ⟨f, fd, F.bindsN fun _ _ _ _ _ _ us hl => match us, hl with | [_, _, _], _ => rfl, F.ok sc_law_words_by len (fun cdv A outer s H vs Q E hr p => ⟨t_law_words_by K , PSs.nox ?_, h vs H Q E p⟩), hm, F.kp⟩
  have hu := hr.units
  exact (pss_cons (ps_set (i := 3) sc_law_words_by.nd rfl (Or.inl rfl) (pe_lst pa_nil)) (pss_cons (ps_for PassesOwn.never rfl (pi_range1 rfl M.range (pa_cons (pe_callB call_len_seq rfl M.len boot_len (pa_cons (pe_ix ix_seq (pv 0) pe_int (fun _ _ => rfl)) pa_nil)) pa_nil)) (pg_name (i := 4) sc_law_words_by.nd rfl (Or.inr rfl)) (pss_cons (ps_set (i := 5) sc_law_words_by.nd rfl (Or.inl rfl) (pe_lst pa_nil)) (pss_cons (ps_for PassesOwn.never rfl (pi_range1 rfl M.range (pa_cons (pe_op op_plus (pe_ix ix_seq (pv 0) pe_int (fun _ _ => rfl)) pe_int) pa_nil)) (pg_name (i := 6) sc_law_words_by.nd rfl (Or.inr rfl)) (pss_one (ps_expr (pe_bm PySem.F.plainAttrs_list PySem.F.slot_list_append PySem.F.type_list_append mt_append (pv 5) (pa_cons (pe_callB (cr_min rfl) rfl M.min boot_min (pa_cons (pe_lc (own := [("_law_state_here", 7)]) rfl sc_law_words_by.nd (PI.or (pi_list (pv 2)) (pi_tup (pv 2))) (blkOk_by rfl) (fun _ _ _ _ _ => (pg_name (i := 7) sc_law_words_by.nd rfl (Or.inr rfl))) (fun _ _ _ _ _ => pts_nil) (fun _ _ _ _ _ => (pe_callB call_len_seq rfl M.len boot_len (pa_cons (pe_lc (own := [("_law_one_here", 8)]) rfl sc_law_words_by.nd (PI.or (pi_list (pe_slice sl_seq (pv 1) po_none (po_some (pv 6)))) (pi_tup (pe_slice sl_seq (pv 1) po_none (po_some (pv 6))))) (blkOk_by rfl) (fun _ _ _ _ _ => (pg_name (i := 8) sc_law_words_by.nd rfl (Or.inl rfl))) (fun _ _ _ _ _ => (pts_one (pt_cmpR op_le (pe_ix ix_seq (pv 7) (pv 8) (fun _ _ => rfl)) (pv 4) (nomark _)))) (fun _ _ _ _ _ => (pv 8))) pa_nil)))) pa_nil)) pa_nil))))) (pss_one (ps_expr (pe_bm PySem.F.plainAttrs_list PySem.F.slot_list_append PySem.F.type_list_append mt_append (pv 3) (pa_cons (pe_callTy call_tupA rfl M.tuple boot_tuple (pa_cons (pv 5) pa_nil)) pa_nil))))))) (pss_one (ps_ret (pe_callTy call_tupA rfl M.tuple boot_tuple (pa_cons (pv 3) pa_nil))))))
end
end FK
end
section
set_option Elab.async false
set_option linter.all false
set_option maxRecDepth 100000
/-! The law's own defs: houses, states. -/
namespace FK
open PySem PySem.Spec PyProof.Rows L2 Lg Lr RZ FM
variable [tbs : Tbs]
section
variable {K : PySem.W.Frag}
/-- a state whose count may be asked -/
abbrev stP (st : List Nat) : D := .ptup (st.map dN)
def A_law_within (x : Nat × List Nat × List Nat × Nat) : List D := [houseD x.1 x.2.1, tN x.2.2.1, dN x.2.2.2]
def sp_law_within : Sp := spP A_law_within (fun x => x.2.2.1.length = x.1 ∧ x.1 ≤ 5) (fun x d => d = .lst ((inV x.2.2.1 x.2.2.2).map dN))
theorem c_law_within (vs H Q E) (p : sp_law_within vs H Q E) : t_law_within K (fin Q) (L2.start N_law_within vs) H := by
  refine body_P (fun x hx => ⟨by show 3 ≤ 4; decide, ?_⟩) p
  obtain ⟨n, rooms, st, j⟩ := x
  obtain ⟨hl, hn⟩ := hx
  simp only at hl hn
  subst hl
  refine ht_retD (EvN.dat (en_lc (n := st.length) (el := fun i => .int (i : Int)) (f := fun i => dN i) (keep := fun i => decide ((st.getD i 0) ≤ j)) (src_r1 (ea1 (ev_ix (ev_var rfl) ev_int rfl rfl)) (by omega)).c (by omega) rfl ?_)) rfl
  intro i hi
  refine ⟨_, _, tgt_name, by decide, rfl, ?_, fun _ => ev_var rfl⟩
  have h1 : EvD [.im (houseD st.length rooms), .im (tN st), .im (dN j), .im (.int (i : Int))] (tOp (rIx K) (tVar 1) (tVar 3)) (dN (st.getD i 0)) := ev_ix (ev_var rfl) (ev_var rfl) rfl (atI_nat (by rw [List.getElem?_map, List.getD_eq_getElem?_getD, List.getElem?_eq_getElem hi]; rfl))
  exact (eb_d (ev_le h1 (ev_var (i := 2) rfl))).mono fun x hx => by rw [hx]; simp
def A_law_sizes (x : Nat × List Nat × List Nat) : List D := [houseD x.1 x.2.1, tN x.2.2]
def sp_law_sizes : Sp := spP A_law_sizes (fun x => x.2.1.length ≤ 3 ∧ x.2.2.length = x.1 ∧ x.1 ≤ 5) (fun x d => d = tI (upto x.2.1.length (szs x.2.1.length x.2.2)))
theorem c_law_sizes (vs H Q E) (p : sp_law_sizes vs H Q E) : t_law_sizes K sp_law_within (fin Q) (L2.start N_law_sizes vs) H := by
  refine body_P (fun x hx => ⟨by show 2 ≤ 3; decide, ?_⟩) p
  obtain ⟨n, rooms, st⟩ := x
  obtain ⟨h3, hl, hn⟩ := hx
  simp only at h3 hl hn
  refine ht_retD (ev_tA (en_lcA (n := rooms.length) (el := fun i => .int (i : Int)) (f := fun i => .int (szs rooms.length st i)) (src_r1 (ea1 ?_) (by omega)).c (by omega) rfl ?_).v) (by simp)
  · have := ev_len (K := K) (ss := [.im (houseD n rooms), .im (tN st), .un]) (te := tOp (rIx K) (tVar 0) (tC (.int 1))) (a := tN rooms) (ev_ix (ev_var rfl) ev_int rfl rfl) rfl
    rw [List.length_map] at this
    exact this
  · intro i hi
    refine ⟨_, _, tgt_name, by decide, rfl, (ev_lenV (EvD.v (ev_call (E := E0) (A := A_law_within) (Pre := fun x => x.2.2.1.length = x.1 ∧ x.1 ≤ 5) (Post := fun x d => d = .lst ((inV x.2.2.1 x.2.2.2).map dN)) (n, rooms, st, i) (ea3 (ev_var (i := 0) rfl) (ev_var (i := 1) rfl) (ev_var (i := 2) rfl)) ⟨hl, hn⟩))).to ?_⟩
    rw [List.length_map, in_cnt (F := rooms.length)]; rfl
theorem rw_sum {rooms : List Nat} : ∀ {i : Nat}, i < rooms.length → ((rooms.take (i + 1)).map fun r : Nat => (r : Int)).sum = (rw' rooms i : Int)
  | 0, h => by
    cases rooms with
    | nil => simp at h
    | cons a r => simp [rw', rm]
  | i + 1, h => by
    have ih := rw_sum (rooms := rooms) (i := i) (by omega)
    rw [List.take_add_one, List.getElem?_eq_getElem h, List.map_append, List.sum_append, ih]
    show _ + (((rooms[i + 1] : Nat) : Int) + 0) = ((rw' rooms i + rm rooms (i + 1) : Nat) : Int)
    unfold rm
    rw [List.getD_eq_getElem?_getD, List.getElem?_eq_getElem h]
    show _ + (((rooms[i + 1] : Nat) : Int) + 0) = ((rw' rooms i + rooms[i + 1] : Nat) : Int)
    omega
def A_law_rooms_within (x : Nat × List Nat) : List D := [houseD x.1 x.2]
def sp_law_rooms_within : Sp := spP A_law_rooms_within (fun x => x.2.length ≤ 3) (fun x d => d = .lst (upto x.2.length fun j => .int (rw' x.2 j : Int)))
theorem c_law_rooms_within (vs H Q E) (p : sp_law_rooms_within vs H Q E) : t_law_rooms_within K (fin Q) (L2.start N_law_rooms_within vs) H := by
  refine body_P (fun x hx => ⟨by show 1 ≤ 2; decide, ?_⟩) p
  obtain ⟨n, rooms⟩ := x
  simp only at hx
  refine ht_retD (EvN.dat (en_lcA (n := rooms.length) (el := fun i => .int (i : Int)) (f := fun i => .int (rw' rooms i : Int)) (src_r1 (ea1 ?_) (by omega)).c (by omega) rfl ?_)) rfl
  · have := ev_len (K := K) (ss := [.im (houseD n rooms), .un]) (te := tOp (rIx K) (tVar 0) (tC (.int 1))) (a := tN rooms) (ev_ix (ev_var rfl) ev_int rfl rfl) rfl
    rw [List.length_map] at this
    exact this
  · intro i hi
    refine ⟨_, _, tgt_name, by decide, rfl, (ev_sumT (ns := (rooms.take (i + 1)).map fun r : Nat => (r : Int)) (ev_slTo (k := i + 1) (ev_ix (ev_var (i := 0) rfl) ev_int rfl rfl) (ev_add (m := (i : Int)) (n := 1) (ev_var (i := 1) rfl) ev_int) (ds := rooms.map dN) rfl) ?_).to ?_⟩
    · show some _ = some _
      rw [List.map_map, ← List.map_take]; rfl
    · rw [rw_sum hi]
end
end FK
end
section
set_option Elab.async false
set_option linter.all false
set_option maxRecDepth 100000
/-! All states of a house. -/
namespace FK
open PySem PySem.Spec PyProof.Rows L2 Lg Lr RZ FM
variable [tbs : Tbs]
section
variable {K : PySem.W.Frag} {ss : List Sl} {te tf : TE} {ds es : List D}
/-- s + t, the result's object known -/
theorem ev_catP (h : EvD ss te (.ptup ds)) (h' : EvD ss tf (.ptup es)) (hz : ds.length + es.length ≤ 100000) (he : es ≠ []) : EvD ss (tOp (rPlus K) te tf) (.ptup (ds ++ es)) := ev_op h h' fun a b ea eb H O Z x y Q nn hx hy q => by
  subst ea eb
  cases hx with
  | @ptup p xs _ o h1 ho h5 =>
  cases hy with
  | @ptup p' ys _ o' h1' ho' h5' =>
  have l1 := h5.length
  have l2 := h5'.length
  by_cases hxe : xs = []
  · subst hxe
    have hds : ds = [] := List.length_eq_zero_iff.mp l1.symm
    subst hds
    exact .inr (.inr (.inl ⟨p, p', [], ys, rfl, rfl, .inl (.inr ⟨_, h1⟩), .inl (.inr ⟨_, h1'⟩), by rw [l2]; exact sz_of (by simpa using hz), fun _ => q _ H _ rfl Ext.refl (.ptup h1' ho' h5'), fun z => absurd rfl z, fun z => absurd rfl z⟩))
  · refine .inr (.inr (.inr ⟨p, p', xs, ys, rfl, rfl, .inl (.inr ⟨_, h1⟩), .inl (.inr ⟨_, h1'⟩), by rw [l1, l2]; exact sz_of hz, hxe, fun z => he ?_, fun r oo hr hoo => ?_⟩))
    · rw [z] at l2
      exact List.length_eq_zero_iff.mp l2.symm
    · exact q _ _ _ rfl (Ext.new hr) (.ptup upd_same hoo ((h5.append h5').mv (Ext.stp (Ext.new hr))))
end
/-! ### all states -/
abbrev freeF (rooms st : List Nat) : List Nat := (List.range rooms.length).filter fun j => decide (st.count j < rm rooms j)
abbrev growS (rooms st : List Nat) : List (List Nat) := (freeF rooms st).map (fun j => st ++ [j]) ++ [st ++ [rooms.length]]
def allS (rooms : List Nat) : Nat → List (List Nat)
  | 0 => [[]]
  | k + 1 => (allS rooms k).flatMap (growS rooms)
theorem allS_len {rooms : List Nat} (h : rooms.length ≤ 3) : ∀ k, (allS rooms k).length ≤ 4 ^ k
  | 0 => by simp [allS]
  | k + 1 => by
    have h1 := allS_len h k
    have h2 : (allS rooms (k + 1)).length ≤ (allS rooms k).length * 4 := by
      show ((allS rooms k).flatMap (growS rooms)).length ≤ _
      refine flatMap_len fun st _ => ?_
      rw [List.length_append, List.length_map]
      have : (freeF rooms st).length ≤ rooms.length := by
        have := List.length_filter_le (fun j => decide (st.count j < rm rooms j)) (List.range rooms.length)
        rwa [List.length_range] at this
      simp only [List.length_cons, List.length_nil]
      omega
    rw [Nat.pow_succ]; omega
/-- a state that may be: no floor above its rooms -/
structure Fair (rooms : List Nat) (k : Nat) (st : List Nat) : Prop where
  is : IsSt rooms.length k st
  cnt : ∀ j, j < rooms.length → st.count j ≤ rm rooms j
theorem mem_allS {rooms : List Nat} : ∀ {k : Nat} {st : List Nat}, st ∈ allS rooms k ↔ Fair rooms k st
  | 0, st => by
    show st ∈ [[]] ↔ _
    rw [List.mem_singleton]
    exact ⟨fun h => by subst h; exact ⟨⟨rfl, fun f h => by simp at h⟩, fun j hj => by simp⟩, fun h => List.length_eq_zero_iff.mp h.is.1⟩
  | k + 1, st => by
    show st ∈ (allS rooms k).flatMap (growS rooms) ↔ _
    rw [List.mem_flatMap]
    constructor
    · rintro ⟨gs, hg, h⟩
      have G := mem_allS.mp hg
      obtain ⟨f, rfl, hf⟩ : ∃ f, st = gs ++ [f] ∧ (f = rooms.length ∨ f < rooms.length ∧ gs.count f < rm rooms f) := by
        rcases List.mem_append.mp h with h | h
        · obtain ⟨f, hf, rfl⟩ := List.mem_map.mp h
          rw [List.mem_filter, List.mem_range, decide_eq_true_eq] at hf
          exact ⟨f, rfl, .inr hf⟩
        · simp at h
          exact ⟨_, h, .inl rfl⟩
      refine ⟨⟨by simp [G.is.1], fun x hx => ?_⟩, fun j hj => ?_⟩
      · rcases List.mem_append.mp hx with hx | hx
        · exact G.is.2 x hx
        · simp at hx; omega
      · rw [List.count_append]
        have := G.cnt j hj
        by_cases h : j = f
        · subst h
          rcases hf with hf | hf
          · omega
          · simp; omega
        · rw [List.count_eq_zero_of_not_mem (a := j) (l := [f]) (by simp [h])]; simpa using this
    · intro L
      have hne : st ≠ [] := fun z => by have := L.is.1; rw [z] at this; cases this
      obtain ⟨gs, f, rfl⟩ : ∃ gs f, st = gs ++ [f] := ⟨st.dropLast, st.getLast hne, (List.dropLast_concat_getLast hne).symm⟩
      have hgl : gs.length = k := by have := L.is.1; simpa using this
      refine ⟨gs, mem_allS.mpr ⟨⟨hgl, fun x hx => L.is.2 x (List.mem_append_left _ hx)⟩, fun j hj => ?_⟩, ?_⟩
      · have := L.cnt j hj
        rw [List.count_append] at this; omega
      · have hle := L.is.2 f (by simp)
        by_cases hf : f = rooms.length
        · subst hf; exact List.mem_append_right _ (by simp)
        · refine List.mem_append_left _ (List.mem_map.mpr ⟨f, ?_, rfl⟩)
          rw [List.mem_filter, List.mem_range, decide_eq_true_eq]
          have := L.cnt f (by omega)
          rw [List.count_append] at this
          simp at this
          exact ⟨by omega, by omega⟩
theorem allS_nodup {rooms : List Nat} : ∀ k, (allS rooms k).Nodup
  | 0 => by show [[]].Nodup; simp
  | k + 1 => by
    show ((allS rooms k).flatMap (growS rooms)).Nodup
    refine List.pairwise_flatMap.mpr ⟨fun st _ => ?_, (allS_nodup k).imp fun {a b} hab => ?_⟩
    · have e : growS rooms st = (freeF rooms st ++ [rooms.length]).map fun j => st ++ [j] := by rw [List.map_append]; rfl
      rw [e]
      have hn : (freeF rooms st ++ [rooms.length]).Nodup := by
        refine List.nodup_append.mpr ⟨List.Pairwise.filter _ List.nodup_range, by simp, fun a ha b hb => ?_⟩
        rw [List.mem_filter, List.mem_range] at ha
        simp at hb
        omega
      refine List.Pairwise.map _ (fun a b h z => h ?_) hn
      have := List.append_cancel_left z
      simpa using this
    · have key : ∀ {s x : List Nat}, x ∈ growS rooms s → ∃ f, x = s ++ [f] := fun {s x} hx => by
        rcases List.mem_append.mp hx with h | h
        · obtain ⟨f, _, rfl⟩ := List.mem_map.mp h
          exact ⟨f, rfl⟩
        · simp at h
          exact ⟨_, h⟩
      intro x hx y hy e
      subst e
      obtain ⟨f, rfl⟩ := key hx
      obtain ⟨g, e⟩ := key hy
      exact hab (List.append_inj_left' e rfl)
end FK
end
section
set_option Elab.async false
set_option linter.all false
set_option maxRecDepth 100000
/-! All states of a house, over data; those at first. -/
namespace FK
open PySem PySem.Spec PyProof.Rows L2 Lg Lr RZ FM
variable [tbs : Tbs]
section
variable {K : PySem.W.Frag}
theorem dAt_rooms {rooms : List Nat} {j : Nat} (h : j < rooms.length) : dAt (rooms.map dN) j = dN (rm rooms j) := dAt_N h
theorem stI_map (st : List Nat) : st.map dN = (stI st).map D.int := by rw [List.map_map]; rfl
theorem count_stI (st : List Nat) (j : Nat) : (stI st).count (j : Int) = st.count j := by
  induction st with
  | nil => rfl
  | cons a st ih =>
    show ((a : Int) :: stI st).count (j : Int) = _
    rw [List.count_cons, List.count_cons, ih]
    by_cases h : a = j
    · subst h; simp
    · have : ¬ ((a : Int) = (j : Int)) := by omega
      simp [h, this]
def A_law_all_states (x : Nat × List Nat) : List D := [houseD x.1 x.2]
def sp_law_all_states : Sp := spP A_law_all_states (fun x => x.1 ≤ 5 ∧ x.2.length ≤ 3) (fun x d => d = .lst ((allS x.2 x.1).map stP))
theorem c_law_all_states (vs H Q E) (p : sp_law_all_states vs H Q E) : t_law_all_states K (fin Q) (L2.start N_law_all_states vs) H := by
  refine body_P (fun x hx => ⟨by show 1 ≤ 8; decide, ?_⟩) p
  obtain ⟨n, rooms⟩ := x
  obtain ⟨hn, h3⟩ := hx
  simp only at hn h3
  let hD : D := houseD n rooms
  let lD : List (List Nat) → D := fun l => .lst (l.map stP)
  have hrooms : ∀ {ss : List Sl}, ss[0]? = some (.im hD) → EvD ss (tOp (rIx K) (tVar 0) (tC (.int 1))) (tN rooms) := fun h => ev_ix (ev_var h) ev_int rfl rfl
  refine ht_seq (N1 := fun s => s = [.im hD, .own [stP []], .im (dN rooms.length), .un, .un, .un, .un, .un]) (ht_par2 (em_oi (en_d (ea1 (ev_tBP ea_nil (Nat.zero_le _))) one_le) ?_) rfl) ?_
  · have := ev_len (K := K) (hrooms (ss := [.im hD, .un, .un, .un, .un, .un, .un, .un]) rfl) (a := tN rooms) rfl
    rw [List.length_map] at this
    exact this
  rintro ss1 rfl
  refine ht_freeze (i := 1) rfl ?_
  let S : List (List Nat) → Sl → Sl → Sl → Sl → Sl → List Sl := fun l t m a b c => [.im hD, .im (lD l), .im (dN rooms.length), t, m, a, b, c]
  refine ht_seq (N1 := fun s => ∃ t m a b c, s = S (allS rooms n) t m a b c) (ht_for (n := n) (el := fun i => .int (i : Int)) (src_r1 (ea1 (ev_ix (ev_var rfl) ev_int rfl rfl)) (by omega)) (fun i s => ∃ t m a, s = S (allS rooms i) t m a .un .un) ⟨_, _, _, rfl⟩ ?_ ?_) ?_
  · rintro i ss1 hi ⟨t, m, a, rfl⟩
    refine ⟨_, _, tgt_name, ?_⟩
    refine ht_seq (N1 := fun s => s = S (allS rooms i) (.im (dN i)) (.own []) a .un .un) (ht_asgNL en_nil rfl) ?_
    rintro ss1 rfl
    let L := allS rooms i
    let P : Nat → List (List Nat) := fun k => (L.take k).flatMap (growS rooms)
    have hP : P L.length = allS rooms (i + 1) := by show (L.take L.length).flatMap _ = _; rw [List.take_length]; rfl
    have hPl : ∀ k, (P k).length ≤ 4096 := fun k => by
      have h1 : (P k).length ≤ (L.take k).length * 4 := flatMap_len fun st _ => by
        rw [List.length_append, List.length_map]
        have : (freeF rooms st).length ≤ rooms.length := by
          have := List.length_filter_le (fun j => decide (st.count j < rm rooms j)) (List.range rooms.length)
          rwa [List.length_range] at this
        simp only [List.length_cons, List.length_nil]
        omega
      have h2 : L.length ≤ 1024 := Nat.le_trans (allS_len h3 i) (pow4N (by omega))
      rw [List.length_take] at h1
      omega
    refine ht_seq (N1 := fun s => ∃ a, s = S L (.im (dN i)) (.own ((allS rooms (i + 1)).map stP)) a .un .un) (ht_for (n := L.length) (el := fun k => stP (L.getD k [])) ?_ (fun k s => ∃ a, s = S L (.im (dN i)) (.own ((P k).map stP)) a .un .un) ⟨a, rfl⟩ ?_ ?_) ?_
    · have h := src_lst (K := K) (ds := L.map stP) (ss := S L (.im (dN i)) (.own []) a .un .un) (te := tVar 1) (ev_var rfl)
      rw [List.length_map] at h
      exact Src.inl (src_el h fun k hk => by rw [dAt_map (a := L.getD k []) (by rw [List.getD_eq_getElem?_getD, List.getElem?_eq_getElem hk]; rfl)])
    · rintro k ss1 hk ⟨a, rfl⟩
      let st := L.getD k []
      have hst : L[k]? = some st := by
        show _ = some (L.getD k [])
        rw [List.getD_eq_getElem?_getD, List.getElem?_eq_getElem hk]; rfl
      have hsl : st.length = i := (mem_allS.mp (List.mem_of_getElem? hst)).is.1
      have hP1 : P (k + 1) = P k ++ growS rooms st := by
        show (L.take (k + 1)).flatMap _ = _
        rw [List.take_add_one, hst, List.flatMap_append]
        show _ ++ List.flatMap _ [st] = _
        rw [List.flatMap_cons, List.flatMap_nil, List.append_nil]
      have hfl : (freeF rooms st).length ≤ rooms.length := by
        have := List.length_filter_le (fun j => decide (st.count j < rm rooms j)) (List.range rooms.length)
        rwa [List.length_range] at this
      refine ⟨_, _, tgt_name, ?_⟩
      refine ht_seq (N1 := fun s => s = S L (.im (dN i)) (.own ((P k ++ (freeF rooms st).map fun j => st ++ [j]).map stP)) (.im (stP st)) .un .un) (ht_extend (PL := fun es => es = ((freeF rooms st).map fun j => st ++ [j]).map stP) rfl (EvP.mono (EvN.p (en_lc (n := rooms.length) (el := fun j => .rtup [dN j, dN (rm rooms j)]) (f := fun j => stP (st ++ [j])) (keep := fun j => decide (st.count j < rm rooms j)) ?_ (by omega) rfl ?_)) ?_) ?_ ?_) ?_
      · have h := src_enT (K := K) (ss := S L (.im (dN i)) (.own ((P k).map stP)) (.im (stP st)) .un .un) (ea1 (hrooms rfl)) (a := tN rooms) rfl
        rw [List.length_map] at h
        exact (Src.inr (src_el h fun j hj => by show D.rtup [_, _] = _; rw [dAt_rooms hj])).c
      · intro j hj
        refine ⟨_, _, tgt_2 (a1 := dN j) (a2 := dN (rm rooms j)) rfl, by decide, rfl, ?_, fun _ => ?_⟩
        · have h1 := eb_d (ev_lt (ss := S L (.im (dN i)) (.own ((P k).map stP)) (.im (stP st)) (.im (dN j)) (.im (dN (rm rooms j)))) (m := ((stI st).count (j : Int) : Nat)) (n := (rm rooms j : Int)) (ev_tcnt (K := K) (ns := stI st) ((ev_var (i := 5) rfl).to (by rw [← stI_map])) (ev_var (i := 6) rfl)) (ev_var (i := 7) rfl))
          refine h1.mono fun x hx => ?_
          rw [hx, count_stI]
          simp
        · exact (ev_catP (ev_var (i := 5) rfl) (ev_tBP (ea1 (ev_var (i := 6) rfl)) one_le) (by rw [List.length_map, hsl]; show i + 1 ≤ 100000; omega) (by simp)).to (by show D.ptup _ = D.ptup _; rw [List.map_append]; rfl)
      · rintro d ⟨es, rfl, rfl⟩
        exact ⟨_, rfl, by rw [List.map_map]; rfl⟩
      · rintro es rfl
        have := hPl k
        simp only [List.length_map]
        omega
      · rintro es rfl
        rw [← List.map_append]; rfl
      rintro ss1 rfl
      refine ht_app (a := stP (st ++ [rooms.length])) rfl ((ev_catP (ev_var (i := 5) rfl) (ev_tBP (ea1 (ev_var (i := 2) rfl)) one_le) (by rw [List.length_map, hsl]; show i + 1 ≤ 100000; omega) (by simp)).to (by show D.ptup _ = D.ptup _; rw [List.map_append]; rfl)) ?_ ⟨.im (stP st), ?_⟩
      · have := hPl k
        simp only [List.length_map, List.length_append]
        omega
      · rw [hP1]
        show _ = S _ _ (.own (List.map _ (_ ++ (_ ++ [_])))) _ _ _
        rw [← List.append_assoc, List.map_append (l₂ := [_])]; rfl
    · rintro ss1 ⟨a, rfl⟩
      exact ⟨a, by rw [hP]⟩
    rintro ss1 ⟨a, rfl⟩
    exact ht_freeze (i := 4) rfl (ht_asgD (ev_var rfl) ⟨_, _, a, rfl⟩)
  · rintro ss1 ⟨t, m, a, rfl⟩
    exact ⟨t, m, a, _, _, rfl⟩
  rintro ss1 ⟨t, m, a, b, c, rfl⟩
  exact ht_retD (ev_var rfl) rfl
end
end FK
end
section
set_option Elab.async false
set_option linter.all false
set_option maxRecDepth 100000
/-! Equality of data; the states at first; the words by some states. -/
namespace FK
open PySem PySem.Spec PyProof.Rows L2 Lg Lr RZ FM
mutual
/-- how deep d is, by a bound -/
def dpt : Nat → D → Bool
  | _, .non => true
  | _, .bl _ => true
  | _, .int _ => true
  | _, .str x => PyData.strOk x
  | 0, .lst _ => false
  | 0, .tup _ => false
  | 0, .ptup _ => false
  | 0, .rtup _ => false
  | k + 1, .lst ds => dpts k ds
  | k + 1, .tup ds => dpts k ds
  | k + 1, .ptup ds => dpts k ds
  | k + 1, .rtup ds => dpts k ds
def dpts : Nat → List D → Bool
  | _, [] => true
  | k, d :: ds => dpt k d && dpts k ds
end
mutual
theorem dpt_ok : ∀ {k : Nat} {d : D}, dpt k d = true → d.py.canLay0 = true ∧ d.py.depth ≤ k
  | _, .non, _ => ⟨rfl, Nat.zero_le _⟩
  | _, .bl _, _ => ⟨rfl, Nat.zero_le _⟩
  | _, .int _, _ => ⟨rfl, Nat.zero_le _⟩
  | k, .str x, h => by
    unfold dpt at h
    exact ⟨by simpa [D.py, PyData.canLay0] using h, by simp [D.py, PyData.depth]⟩
  | 0, .lst ds, h => by unfold dpt at h; cases h
  | 0, .tup ds, h => by unfold dpt at h; cases h
  | 0, .ptup ds, h => by unfold dpt at h; cases h
  | 0, .rtup ds, h => by unfold dpt at h; cases h
  | k + 1, .lst ds, h => by
    unfold dpt at h
    have := dpts_ok h
    simp only [D.py, PyData.canLay0, PyData.depth]
    exact ⟨this.1, by omega⟩
  | k + 1, .tup ds, h => by
    unfold dpt at h
    have := dpts_ok h
    simp only [D.py, PyData.canLay0, PyData.depth]
    exact ⟨this.1, by omega⟩
  | k + 1, .ptup ds, h => by
    unfold dpt at h
    have := dpts_ok h
    simp only [D.py, PyData.canLay0, PyData.depth]
    exact ⟨this.1, by omega⟩
  | k + 1, .rtup ds, h => by
    unfold dpt at h
    have := dpts_ok h
    simp only [D.py, PyData.canLay0, PyData.depth]
    exact ⟨this.1, by omega⟩
theorem dpts_ok : ∀ {k : Nat} {ds : List D}, dpts k ds = true → PyData.canLayAll0 (D.pys ds) = true ∧ PyData.depthAll (D.pys ds) ≤ k
  | _, [], _ => ⟨rfl, Nat.zero_le _⟩
  | k, d :: ds, h => by
    unfold dpts at h
    rw [Bool.and_eq_true] at h
    have h1 := dpt_ok h.1
    have h2 := dpts_ok h.2
    simp only [D.pys, PyData.canLayAll0, PyData.depthAll, Bool.and_eq_true]
    exact ⟨⟨h1.1, h2.1⟩, Nat.max_le.mpr ⟨h1.2, h2.2⟩⟩
end
theorem dpts_all {k : Nat} : ∀ {ds : List D}, (∀ d ∈ ds, dpt k d = true) → dpts k ds = true
  | [], _ => by unfold dpts; rfl
  | d :: ds, h => by
    unfold dpts
    rw [Bool.and_eq_true]
    exact ⟨h d (by simp), dpts_all fun e he => h e (by simp [he])⟩
theorem shp {k : Nat} {d : D} (h : dpt k d = true) (hk : k ≤ 64) : SeqAt.shaped d.py = true := by
  have := dpt_ok h
  show (d.py.canLay0 && decide (d.py.depth ≤ 64)) = true
  rw [Bool.and_eq_true]
  exact ⟨this.1, decide_eq_true (by omega)⟩
theorem dpt_int {k : Nat} {i : Int} : dpt k (.int i) = true := by cases k <;> (unfold dpt; rfl)
theorem dpt_bl {k : Nat} {i : Bool} : dpt k (.bl i) = true := by cases k <;> (unfold dpt; rfl)
theorem dpt_non {k : Nat} : dpt k .non = true := by cases k <;> (unfold dpt; rfl)
theorem dpt_str {k : Nat} {x : Str} (h : PyData.strOk x = true) : dpt k (.str x) = true := by cases k <;> (unfold dpt; exact h)
theorem dpt_tup {k : Nat} {ds : List D} (h : ∀ d ∈ ds, dpt k d = true) : dpt (k + 1) (.tup ds) = true := by unfold dpt; exact dpts_all h
theorem dpt_lst {k : Nat} {ds : List D} (h : ∀ d ∈ ds, dpt k d = true) : dpt (k + 1) (.lst ds) = true := by unfold dpt; exact dpts_all h
theorem dpt_rtup {k : Nat} {ds : List D} (h : ∀ d ∈ ds, dpt k d = true) : dpt (k + 1) (.rtup ds) = true := by unfold dpt; exact dpts_all h
theorem dpt_tI {l : List Int} : dpt 1 (tI l) = true := dpt_tup fun d h => by
  obtain ⟨i, _, rfl⟩ := List.mem_map.mp h
  exact dpt_int
theorem dpt_tN {l : List Nat} : dpt 1 (tN l) = true := dpt_tup fun d h => by
  obtain ⟨i, _, rfl⟩ := List.mem_map.mp h
  exact dpt_int
variable [tbs : Tbs]
theorem pys_ints (l : List Int) : D.pys (l.map .int) = l.map PyData.int := by rw [D.pys_eq, List.map_map]; rfl
theorem eqv_ints : ∀ (a b : List Int), PyData.eqvAll (a.map .int) (b.map .int) = decide (a = b)
  | [], [] => by simp [PyData.eqvAll]
  | [], _ :: _ => by simp [PyData.eqvAll]
  | _ :: _, [] => by simp [PyData.eqvAll]
  | x :: a, y :: b => by
    rw [List.map_cons, List.map_cons, PyData.eqvAll, eqv_ints a b]
    show ((x == y) && decide (a = b)) = _
    by_cases h : x = y <;> simp [h]
theorem eqv_tI (a b : List Int) : PyData.eqv (tI a).py (tI b).py = decide (a = b) := by
  show PyData.eqv (.tuple (D.pys (a.map .int))) (.tuple (D.pys (b.map .int))) = _
  rw [pys_ints, pys_ints, PyData.eqv, eqv_ints]
/-- against () and [] -/
theorem eqvAll_nil (ds : List D) : PyData.eqvAll (D.pys ds) [] = ds.isEmpty := by cases ds <;> rfl
section
variable {K : PySem.W.Frag} {ss : List Sl} {te tf : TE} {a b : D} {ds : List D}
theorem ev_eqT {l m : List Int} (h : EvD ss te (tI l)) (h' : EvD ss tf (tI m)) : EvD ss (tOp (rEqD K) te tf) (.bl (decide (l = m))) := ev_eq h h' fun a b ea eb => by
  subst ea eb
  exact ⟨shp dpt_tI (by omega), shp dpt_tI (by omega), by rw [eqv_tI]⟩
theorem ev_eqS {x y : Str} (h : EvD ss te (.str x)) (h' : EvD ss tf (.str y)) (hx : PyData.strOk x = true) (hy : PyData.strOk y = true) : EvD ss (tOp (rEqD K) te tf) (.bl (x == y)) := ev_eq h h' fun a b ea eb => by
  subst ea eb
  exact ⟨shp (k := 0) (dpt_str hx) (by omega), shp (k := 0) (dpt_str hy) (by omega), by show D.bl (PyData.eqv (.str x) (.str y)) = _; simp only [PyData.eqv]⟩
theorem ev_neI {m n : Int} (h : EvD ss te (.int m)) (h' : EvD ss tf (.int n)) : EvD ss (tOp (rNeD K) te tf) (.bl (!decide (m = n))) := ev_ne h h' fun a b ea eb => by
  subst ea eb
  refine ⟨rfl, rfl, ?_⟩
  show D.bl (!PyData.eqv (.int m) (.int n)) = _
  congr 1
/-- l == [], t == (), .. -/
theorem ev_eqNilL {k : Nat} (h : EvD ss te (.lst ds)) (hd : dpt k (.lst ds) = true) (hk : k ≤ 64) : EvD ss (tOp (rEqD K) te (tLst tNil)) (.bl ds.isEmpty) := ev_eq h (EvN.dat en_nil) fun a b ea eb => by
  subst ea eb
  refine ⟨shp hd hk, rfl, ?_⟩
  show D.bl (PyData.eqv (.list (D.pys ds)) (.list [])) = _
  rw [PyData.eqv, eqvAll_nil]
theorem ev_eqNilT {k : Nat} (h : EvD ss te (.tup ds)) (hd : dpt k (.tup ds) = true) (hk : k ≤ 64) : EvD ss (tOp (rEqD K) te (tTupB tNil)) (.bl ds.isEmpty) := ev_eq h (ev_tB ea_nil (Nat.zero_le _)) fun a b ea eb => by
  subst ea eb
  refine ⟨shp hd hk, rfl, ?_⟩
  show D.bl (PyData.eqv (.tuple (D.pys ds)) (.tuple [])) = _
  rw [PyData.eqv, eqvAll_nil]
theorem ev_neNilT {k : Nat} (h : EvD ss te (.tup ds)) (hd : dpt k (.tup ds) = true) (hk : k ≤ 64) : EvD ss (tOp (rNeD K) te (tTupB tNil)) (.bl (!ds.isEmpty)) := ev_ne h (ev_tB ea_nil (Nat.zero_le _)) fun a b ea eb => by
  subst ea eb
  refine ⟨shp hd hk, rfl, ?_⟩
  show D.bl (!PyData.eqv (.tuple (D.pys ds)) (.tuple [])) = _
  rw [PyData.eqv, eqvAll_nil]
theorem ev_neNilL {k : Nat} (h : EvD ss te (.lst ds)) (hd : dpt k (.lst ds) = true) (hk : k ≤ 64) : EvD ss (tOp (rNeD K) te (tLst tNil)) (.bl (!ds.isEmpty)) := ev_ne h (EvN.dat en_nil) fun a b ea eb => by
  subst ea eb
  refine ⟨shp hd hk, rfl, ?_⟩
  show D.bl (!PyData.eqv (.list (D.pys ds)) (.list [])) = _
  rw [PyData.eqv, eqvAll_nil]
theorem ev_isNon {a : D} (h : EvD ss te a) {c : Bool} (hc : c = true ↔ a = .non) : EvD ss (tOp (fun x y H Q => y = .non ∧ Q (.bl (decide (x = .non))) H) te (tC .non)) (.bl c) := ev_isN h fun a' e H O Z x q => by
  subst e
  cases c with
  | true => rw [hc.mp rfl] at q; cases q; rfl
  | false => rw [dq_non_iff q fun z => by cases hc.mpr z]
theorem ev_notNon {a : D} (h : EvD ss te a) {c : Bool} (hc : c = true ↔ a ≠ .non) : EvD ss (tOp (fun x y H Q => y = .non ∧ Q (.bl (!decide (x = .non))) H) te (tC .non)) (.bl c) := ev_notN h fun a' e H O Z x q => by
  subst e
  cases c with
  | true => rw [dq_non_iff q (hc.mp rfl)]; rfl
  | false => 
    have : a' = .non := Classical.byContradiction fun z => by cases hc.mpr z
    subst this; cases q; rfl
end
/-- a filter by places -/
theorem filter_map_at {α β : Type} {L : List α} {z : α} (q : α → Bool) (g : α → β) : ((List.range L.length).filter fun i => q (L.getD i z)).map (fun i => g (L.getD i z)) = (L.filter q).map g := by
  have : L = (List.range L.length).map fun i => L.getD i z := by
    apply List.ext_getElem?
    intro i
    rw [List.getElem?_map]
    by_cases h : i < L.length
    · rw [List.getElem?_range h, List.getElem?_eq_getElem h]
      simp [List.getD_eq_getElem?_getD, List.getElem?_eq_getElem h]
    · rw [List.getElem?_eq_none (by omega), List.getElem?_eq_none (by simp; omega)]; rfl
  conv => rhs; rw [this]
  rw [List.filter_map, List.map_map]
  rfl
section
variable {K : PySem.W.Frag}
/-! ### the states at first -/
abbrev startD : Option (List Nat) → D
  | none => .non
  | some st => tN st
abbrev fullB (rooms : List Nat) (st : List Nat) : Bool := decide (upto rooms.length (szs rooms.length st) = upto rooms.length fun j => (rw' rooms j : Int))
def firstS (rooms : List Nat) (n : Nat) : Option (List Nat) → List (List Nat)
  | some st => [st]
  | none => (allS rooms n).filter (fullB rooms)
def A_law_first_states (x : Nat × List Nat × Option (List Nat)) : List D := [houseD x.1 x.2.1, startD x.2.2]
def sp_law_first_states : Sp := spP A_law_first_states (fun x => x.1 ≤ 5 ∧ x.2.1.length ≤ 3) (fun x d => d = .lst ((firstS x.2.1 x.1 x.2.2).map stD))
theorem c_law_first_states (vs H Q E) (p : sp_law_first_states vs H Q E) : t_law_first_states K sp_law_all_states sp_law_sizes sp_law_rooms_within (fin Q) (L2.start N_law_first_states vs) H := by
  refine body_P (fun x hx => ⟨by show 2 ≤ 3; decide, ?_⟩) p
  obtain ⟨n, rooms, s⟩ := x
  obtain ⟨hn, h3⟩ := hx
  simp only at hn h3
  refine ht_seq (N1 := fun ss => ss = [.im (houseD n rooms), .im (startD s), .un] ∧ s = none) (ht_if (eb_d (ev_notNon (c := s.isSome) (ev_var rfl) ?_)) (fun hc => ?_) fun hc => ht_next ⟨rfl, ?_⟩) ?_
  · cases s <;> simp [startD]
  · cases s with
    | none => cases hc
    | some st => exact ht_retD (EvN.dat (en_d (ea1 (ev_var rfl)) one_le)) rfl
  · cases s with
    | none => rfl
    | some st => cases hc
  rintro ss1 ⟨rfl, rfl⟩
  let L := allS rooms n
  have hL : L.length ≤ 1024 := Nat.le_trans (allS_len h3 n) (pow4N hn)
  refine ht_retD (EvN.dat (EvN.mono (en_lc (n := L.length) (el := fun k => stP (L.getD k [])) (f := fun k => stD (L.getD k [])) (keep := fun k => fullB rooms (L.getD k [])) ?_ (by omega) rfl ?_) fun x hx => hx)) ?_
  · have h := src_lst (K := K) (ds := L.map stP) (ss := [.im (houseD n rooms), .im (startD none), .un]) (ev_call (E := E0) (A := A_law_all_states) (Pre := fun x => x.1 ≤ 5 ∧ x.2.length ≤ 3) (Post := fun x d => d = .lst ((allS x.2 x.1).map stP)) (n, rooms) (ea1 (ev_var (i := 0) rfl)) ⟨hn, h3⟩)
    rw [List.length_map] at h
    exact (Src.inl (src_el h fun k hk => by rw [dAt_map (a := L.getD k []) (by rw [List.getD_eq_getElem?_getD, List.getElem?_eq_getElem hk]; rfl)])).c
  · intro k hk
    have hst : L.getD k [] ∈ L := by
      rw [List.getD_eq_getElem?_getD, List.getElem?_eq_getElem hk]
      exact List.getElem_mem hk
    have hl := (mem_allS.mp hst).is.1
    refine ⟨_, _, tgt_name, by decide, rfl, eb_d (ev_eqT (ev_call (E := E0) (A := A_law_sizes) (Pre := fun x => x.2.1.length ≤ 3 ∧ x.2.2.length = x.1 ∧ x.1 ≤ 5) (Post := fun x d => d = tI (upto x.2.1.length (szs x.2.1.length x.2.2))) (n, rooms, L.getD k []) (ea2 (ev_var (i := 0) rfl) (EvD.wk (ev_var (i := 2) rfl) Wk.pt1)) ⟨h3, hl, hn⟩) ?_), fun _ => EvD.wk (ev_var rfl) Wk.pt1⟩
    refine (ev_tA (EvD.v (ev_call (E := E0) (A := A_law_rooms_within) (Pre := fun x => x.2.length ≤ 3) (Post := fun x d => d = .lst (upto x.2.length fun j => .int (rw' x.2 j : Int))) (n, rooms) (ea1 (ev_var (i := 0) rfl)) h3))).to ?_
    show D.tup _ = D.tup _
    rw [map_upto]
  · rw [filter_map_at (L := L) (z := []) (fullB rooms) stD]; rfl
end
end FK
end
section
set_option Elab.async false
set_option linter.all false
set_option maxRecDepth 100000
/-! The words by some states. -/
namespace FK
open PySem PySem.Spec PyProof.Rows L2 Lg Lr RZ FM
variable [tbs : Tbs]
section
variable {K : PySem.W.Frag}
structure WB where
  n : Nat
  rooms : List Nat
  o : List Nat
  l : List (List Nat)
  V : Fam
structure WB.Ok (a : WB) : Prop where
  n5 : a.n ≤ 5
  f3 : a.rooms.length ≤ 3
  o : a.o.Perm (List.range a.n)
  len : ∀ st ∈ a.l, st.length = a.n
  l4 : a.l.length ≤ 4096
  le : ∀ j d, j < a.rooms.length → d ≤ a.n → ∀ st ∈ a.l, a.V j d ≤ (cnt (gof a.rooms.length st) a.o j d : Int)
  ex : ∀ j d, j < a.rooms.length → d ≤ a.n → ∃ st ∈ a.l, a.V j d = (cnt (gof a.rooms.length st) a.o j d : Int)
def A_law_words_by (a : WB) : List D := [houseD a.n a.rooms, .ptup (a.o.map dN), .lst (a.l.map stD)]
def sp_law_words_by : Sp := spP A_law_words_by WB.Ok (fun a d => d = wsD a.rooms.length a.n a.V)
theorem c_law_words_by (vs H Q E) (p : sp_law_words_by vs H Q E) : t_law_words_by K (fin Q) (L2.start N_law_words_by vs) H := by
  refine body_P (fun x hx => ⟨by show 3 ≤ 9; decide, ?_⟩) p
  obtain ⟨n, rooms, o, l, V⟩ := x
  obtain ⟨n5, f3, ho, hlen, hl4, hle, hex⟩ := hx
  simp only at n5 f3 ho hlen hl4 hle hex
  have hol : o.length = n := by have := ho.length_eq; simpa using this
  let hD : D := houseD n rooms
  let oD : D := .ptup (o.map dN)
  let lD : D := .lst (l.map stD)
  let S : List D → Sl → Sl → Sl → Sl → Sl → List Sl := fun r a b c d e => [.im hD, .im oD, .im lD, .own r, a, b, c, d, e]
  refine ht_seq (N1 := fun s => s = S [] .un .un .un .un .un) (ht_asgNL en_nil rfl) ?_
  rintro ss1 rfl
  have hrooms : ∀ {ss : List Sl}, ss[0]? = some (.im hD) → EvD ss (tCB (Lg.rLen K) (tCons (tOp (rIx K) (tVar 0) (tC (.int 1))) tNil)) (dN rooms.length) := fun h => by
    have := ev_len (K := K) (ev_ix (K := K) (ev_var h) (ev_int (n := 1)) rfl rfl) (a := tN rooms) rfl
    rw [List.length_map] at this
    exact this
  refine ht_seq (N1 := fun s => ∃ a b c d e, s = S (upto rooms.length fun j => wI n (V j)) a b c d e) (ht_for (n := rooms.length) (el := fun i => .int (i : Int)) (src_r1 (ea1 (hrooms rfl)) (by omega)) (fun j s => ∃ a b c d e, s = S (upto j fun j => wI n (V j)) a b c d e) ⟨_, _, _, _, _, rfl⟩ ?_ fun ss1 h => h) ?_
  · rintro j ss1 hj ⟨a, b, c, d, e, rfl⟩
    refine ⟨_, _, tgt_name, ?_⟩
    let R := upto j fun j => wI n (V j)
    refine ht_seq (N1 := fun s => s = S R (.im (dN j)) (.own []) c d e) (ht_asgNL en_nil rfl) ?_
    rintro ss1 rfl
    refine ht_seq (N1 := fun s => ∃ c d e, s = S R (.im (dN j)) (.own (upto (n + 1) fun q => .int (V j q))) c d e) (ht_for (n := n + 1) (el := fun i => .int (i : Int)) (src_r1 (ea1 (ev_add (m := (n : Int)) (n := 1) (ev_ix (ev_var rfl) ev_int rfl rfl) ev_int)) (by omega)) (fun q s => ∃ c d e, s = S R (.im (dN j)) (.own (upto q fun q => .int (V j q))) c d e) ⟨_, _, _, rfl⟩ ?_ fun ss1 h => h) ?_
    · rintro q ss1 hq ⟨c, d, e, rfl⟩
      refine ⟨_, _, tgt_name, ?_⟩
      have hq' : q ≤ n := by omega
      refine ht_forget 7 (ht_forget 8 (ht_app (a := .int (V j q)) rfl (ev_minL (ns := l.map fun st => (cnt (gof rooms.length st) o j q : Int)) (EvN.mono (en_lcA (n := l.length) (el := fun k => stD (l.getD k [])) (f := fun k => .int (cnt (gof rooms.length (l.getD k [])) o j q : Int)) ?_ (by omega) rfl ?_) ?_) ?_ ?_ ?_) ?_ ?_))
      · have h := src_lst (K := K) (ds := l.map stD) (ss := S R (.im (dN j)) (.own (upto q fun q => .int (V j q))) (.im (dN q)) .un .un) (te := tVar 2) (ev_var rfl)
        rw [List.length_map] at h
        exact (Src.inl (src_el h fun k hk => by rw [dAt_map (a := l.getD k []) (by rw [List.getD_eq_getElem?_getD, List.getElem?_eq_getElem hk]; rfl)])).c
      · intro k hk
        have hst : l.getD k [] ∈ l := by
          rw [List.getD_eq_getElem?_getD, List.getElem?_eq_getElem hk]
          exact List.getElem_mem hk
        generalize l.getD k [] = st at hst
        have hsl := hlen st hst
        let L := o.take q
        have hLl : L.length = q := by show (o.take q).length = q; rw [List.length_take]; omega
        refine ⟨_, _, tgt_name, by decide, rfl, EvD.to (ev_lenV (EvN.v (EvN.mono (en_lc (n := q) (el := fun i => dN (L.getD i 0)) (f := fun i => dN (L.getD i 0)) (keep := fun i => decide (gof rooms.length st (L.getD i 0) ≤ j)) ?_ (by omega) rfl ?_) fun x hx => hx))) ?_⟩
        · have h := src_tup (K := K) (ss := S R (.im (dN j)) (.own (upto q fun q => .int (V j q))) (.im (dN q)) (.im (stD st)) .un) (te := tSl (rSl K) (tVar 1) tNoPart (tPart (tVar 6))) (ev_slTo (k := q) (a := oD) (ev_var rfl) (ev_var rfl) rfl) rfl
          have e1 : (List.take q (o.map dN)) = L.map dN := (List.map_take).symm
          rw [e1, List.length_map, hLl] at h
          exact (Src.inr (src_el h fun i hi => by rw [dAt_map (a := L.getD i 0) (by rw [List.getD_eq_getElem?_getD, List.getElem?_eq_getElem (by omega)]; rfl)])).c
        · intro i hi
          have hz : L.getD i 0 < n := by
            have : L.getD i 0 ∈ L := by
              rw [List.getD_eq_getElem?_getD, List.getElem?_eq_getElem (by omega)]
              exact List.getElem_mem _
            exact List.mem_range.mp (ho.mem_iff.mp (List.mem_of_mem_take this))
          generalize L.getD i 0 = z at hz
          refine ⟨_, _, tgt_name, by decide, rfl, ?_, fun _ => ev_var rfl⟩
          refine (eb_d (ev_le (m := (gof rooms.length st z : Int)) (n := (j : Int)) (ev_ix (ev_var (i := 7) rfl) (ev_var (i := 8) rfl) rfl (atI_nat ?_)) (ev_var (i := 4) rfl))).mono fun x hx => by rw [hx]; simp
          rw [List.getElem?_map]
          unfold gof
          rw [List.getD_eq_getElem?_getD, List.getElem?_eq_getElem (by omega)]; rfl
        · have := filter_map_at (L := L) (z := 0) (fun y => decide (gof rooms.length st y ≤ j)) dN
          rw [hLl] at this
          rw [this, List.length_map, ← List.countP_eq_length_filter]; rfl
      · rintro x rfl
        rw [List.map_map]
        exact upto_getD (f := fun st => D.int (cnt (gof rooms.length st) o j q : Int))
      · obtain ⟨st, h1, h2⟩ := hex j q hj hq'
        rw [List.length_map]
        exact List.length_pos_of_mem h1
      · obtain ⟨st, h1, h2⟩ := hex j q hj hq'
        exact List.mem_map.mpr ⟨st, h1, h2.symm⟩
      · intro y hy
        obtain ⟨st, h1, rfl⟩ := List.mem_map.mp hy
        exact hle j q hj hq' st h1
      · rw [upto_len]; omega
      · exact ⟨_, _, _, by rw [upto_succ]; rfl⟩
    rintro ss1 ⟨c, d, e, rfl⟩
    refine ht_app (a := wI n (V j)) rfl ((ev_tA (ev_own rfl)).to (by show D.tup _ = D.tup _; rw [map_upto])) (by rw [upto_len]; omega) ⟨_, _, _, _, _, by rw [upto_succ (n := j)]; rfl⟩
  rintro ss1 ⟨a, b, c, d, e, rfl⟩
  exact ht_retD (ev_tA (ev_own rfl)) rfl
end
end FK
end
section
set_option Elab.async false
set_option linter.all false
set_option maxRecDepth 100000
/-! A move done. -/
namespace FK
open PySem PySem.Spec PyProof.Rows L2 Lg Lr RZ FM
variable [tbs : Tbs]
section
variable {K : PySem.W.Frag}
abbrev moveD (w : Str) (x : Nat) (ds : List Nat) : D := .tup [.str w, dN x, tN ds]
structure MV where
  n : Nat
  rooms : List Nat
  st : List Nat
  w : Str
  x : Nat
  ds : List Nat
  fin : List Nat
/-- what a move does -/
def Does (rooms : List Nat) (st : List Nat) (w : Str) (x : Nat) (ds fin : List Nat) : Prop := (w = "strike" ∧ ds = [] ∧ fin = st.set x rooms.length) ∨ (w = "ask" ∧ Chain rooms x 0 (st.set x 0) ds fin)
structure MV.Ok (a : MV) : Prop where
  n5 : a.n ≤ 5
  f3 : a.rooms.length ≤ 3
  st : a.st.length = a.n
  x : a.x < a.n
  does : Does a.rooms a.st a.w a.x a.ds a.fin
  d3 : a.ds.length ≤ 3
def A_law_done (a : MV) : List D := [houseD a.n a.rooms, stD a.st, moveD a.w a.x a.ds]
abbrev stR (st : List Nat) : D := .rtup (st.map dN)
def sp_law_done : Sp := spP A_law_done MV.Ok (fun a d => d = stR a.fin)
theorem map_setN {st : List Nat} {x k : Nat} : (st.map dN).set x (dN k) = (st.set x k).map dN := (List.map_set).symm
theorem drop_cons {ds : List Nat} {i : Nat} (h : i < ds.length) : ds.drop i = ds.getD i 0 :: ds.drop (i + 1) := by
  rw [List.getD_eq_getElem?_getD, List.getElem?_eq_getElem h]
  exact List.drop_eq_getElem_cons h
theorem ev_ixR {ss : List Sl} {tk : TE} {n j : Nat} {rooms : List Nat} (h0 : ss[0]? = some (.im (houseD n rooms))) (h : EvD ss tk (dN j)) (hj : j < rooms.length) : EvD ss (tOp (rIx K) (tOp (rIx K) (tVar 0) (tC (.int 1))) tk) (.int (rm rooms j : Int)) := by
  refine ev_ix (ev_ix (ev_var h0) ev_int rfl rfl) h rfl (atI_nat ?_)
  rw [List.getElem?_map]
  unfold rm
  rw [List.getD_eq_getElem?_getD, List.getElem?_eq_getElem hj]; rfl
theorem ev_lenR {ss : List Sl} {n : Nat} {rooms : List Nat} (h : ss[0]? = some (.im (houseD n rooms))) : EvD ss (tCB (Lg.rLen K) (tCons (tOp (rIx K) (tVar 0) (tC (.int 1))) tNil)) (dN rooms.length) := by
  have := ev_len (K := K) (ev_ix (K := K) (ev_var h) (ev_int (n := 1)) rfl rfl) (a := tN rooms) rfl
  rw [List.length_map] at this
  exact this
theorem ev_lcntN {ss : List Sl} {i k : Nat} {tf : TE} {st : List Nat} (hi : ss[i]? = some (.own (st.map dN))) (h' : EvD ss tf (dN k)) : EvD ss (tBM K "list" (rCntI K) (tVar i) (tCons tf tNil)) (dN (st.count k)) := by
  have := ev_lcnt (K := K) (ns := stI st) (by rw [hi, stI_map]) h'
  rwa [count_stI] at this
theorem decI (m n : Nat) : decide ((m : Int) ≤ (n : Int)) = decide (m ≤ n) := by simp
theorem tgt_set {ss : List Sl} {i : Nat} {cur : List Nat} {y k : Nat} {ty : TE} (h : ss[i]? = some (.own (cur.map dN))) (hy : y < cur.length) (hty : EvD ss ty (dN y)) : Tgt (gSub (tVar i) ty rSetL) ss (dN k) (ss.set i (.own ((cur.set y k).map dN))) [] := by
  have := tgt_item (d := dN k) h hty (ixN_of (n := (cur.map dN).length) (k := y) (by rw [List.length_map]; exact hy))
  rw [map_setN] at this
  exact this
theorem strikeOk : PyData.strOk "strike" = true := by decide +kernel
theorem askOk : PyData.strOk "ask" = true := by decide +kernel
theorem askNe : (("ask" : Str) == ("strike" : Str)) = false := by decide +kernel
theorem c_law_done (vs H Q E) (p : sp_law_done vs H Q E) : t_law_done K (fin Q) (L2.start N_law_done vs) H := by
  refine body_P (fun x hx => ⟨by show 3 ≤ 11; decide, ?_⟩) p
  obtain ⟨n, rooms, st, w, x, ds, fn⟩ := x
  obtain ⟨n5, f3, hst, hx', hdo, d3⟩ := hx
  simp only at n5 f3 hst hx' hdo d3
  let hD : D := houseD n rooms
  let mD : D := moveD w x ds
  let S : Sl → Sl → List Nat → Sl → Sl → Sl → List Sl := fun a b c d e f => [.im hD, .im (stD st), .im mD, .im (.str w), .im (dN x), .im (tN ds), .im (dN rooms.length), .own (c.map dN), d, e, f]
  refine ht_seq (N1 := fun s => s = [.im hD, .im (stD st), .im mD, .im (.str w), .im (dN x), .im (tN ds), .un, .un, .un, .un, .un]) (ht_asgG (ev_var rfl) (tgt_3 rfl) rfl) ?_
  rintro ss1 rfl
  refine ht_seq (N1 := fun s => s = S .un .un st .un .un .un) (ht_par2 (em_io (ev_lenR rfl) (en_list (ev_var rfl) rfl)) rfl) ?_
  rintro ss1 rfl
  have hset : ∀ {ss : List Sl} {cur : List Nat} {y k : Nat} {ty : TE}, ss[7]? = some (.own (cur.map dN)) → y < cur.length → EvD ss ty (dN y) → Tgt (gSub (tVar 7) ty rSetL) ss (dN k) (ss.set 7 (.own ((cur.set y k).map dN))) [] := fun h hy hty => tgt_set h hy hty
  rcases hdo with ⟨rfl, rfl, rfl⟩ | ⟨rfl, hc⟩
  · refine ht_seq (N1 := noS) (ht_if (eb_d (ev_eqS (ev_var rfl) ev_str strikeOk strikeOk)) (fun _ => ?_) fun h => by rw [beq_self_eq_true] at h; cases h) fun _ h => h.elim
    refine ht_seq (N1 := fun s => s = S .un .un (st.set x rooms.length) .un .un .un) (ht_asgG (ev_var rfl) (hset rfl (by omega) (ev_var rfl)) rfl) ?_
    rintro ss1 rfl
    refine ht_ret (ev_if (P := fun d => d = stR (st.set x rooms.length)) (eb_d (ev_eqNilT (k := 1) (ev_var rfl) dpt_tN (by omega))) (fun _ => ev_tAR (ev_own rfl)) fun h => nomatch h) fun d h => h
  · refine ht_seq (N1 := fun s => s = S .un .un st .un .un .un) (ht_if (eb_d (ev_eqS (ev_var rfl) ev_str askOk strikeOk)) (fun h => by rw [askNe] at h; cases h) fun h => ht_next rfl) ?_
    rintro ss1 rfl
    refine ht_seq (N1 := fun s => s = S .un .un (st.set x 0) .un .un .un) (ht_asgG (a := dN 0) ev_int (hset rfl (by omega) (ev_var rfl)) rfl) ?_
    rintro ss1 rfl
    refine ht_seq (N1 := fun s => ∃ d e, s = S .un .un fn d e .un ∧ (rooms.length ≤ ds.length ∨ fn.count ds.length ≤ rm rooms ds.length)) (ht_for (n := ds.length) (el := fun i => .rtup [dN i, dN (ds.getD i 0)]) ?_ (fun i s => ∃ cur d e, s = S .un .un cur d e .un ∧ cur.length = n ∧ Chain rooms x i cur (ds.drop i) fn) ⟨_, _, _, rfl, by simp [hst], hc⟩ ?_ ?_) ?_
    · have h := src_enT (K := K) (ss := S .un .un (st.set x 0) .un .un .un) (ea1 (ev_var (i := 5) rfl)) (a := tN ds) rfl
      rw [List.length_map] at h
      exact (Src.inr (src_el h fun j hj => by show D.rtup [_, _] = _; rw [dAt_N hj]))
    · rintro i ss1 hi ⟨cur, d, e, rfl, hl, ch⟩
      rw [drop_cons hi] at ch
      refine ⟨_, _, tgt_2 (a1 := dN i) (a2 := dN (ds.getD i 0)) rfl, ?_⟩
      generalize hy' : ds.getD i 0 = y at ch
      cases ch with
      | step ha hr hy hg hx0 hn =>
      let S1 := S .un .un cur (.im (dN i)) (.im (dN y)) .un
      have e1 : EvB S1 (tTest (tOp (rI0 fun i j => .bl (decide (j ≤ i))) (tVar 8) (tVar 6))) (fun x => x = false) := (eb_d (ev_ge (m := (i : Int)) (n := (rooms.length : Int)) (ev_var rfl) (ev_var rfl))).mono fun b hb => by rw [hb, decI]; simpa using ha
      have e2 : EvB S1 (tTest (tOp (rI0 fun i j => .bl (decide (i ≤ j))) (tBM K "list" (rCntI K) (tVar 7) (tCons (tVar 8) tNil)) (tOp (rIx K) (tOp (rIx K) (tVar 0) (tC (.int 1))) (tVar 8)))) (fun x => x = false) := (eb_d (ev_le (m := (cur.count i : Nat)) (n := (rm rooms i : Int)) (ev_lcntN rfl (ev_var rfl)) (ev_ixR rfl (ev_var rfl) ha))).mono fun b hb => by rw [hb, decI]; simpa using hr
      have e3 : EvB S1 (tTest (tOp (rNeD K) (tOp (rIx K) (tVar 7) (tVar 9)) (tVar 8))) (fun x => x = false) := (eb_d (ev_neI (m := (i : Int)) (n := (i : Int)) (ev_ixOwn (k := (y : Int)) rfl (ev_var rfl) (atI_nat (by rw [List.getElem?_map]; rw [List.getD_eq_getElem?_getD, List.getElem?_eq_getElem hy] at hg; rw [List.getElem?_eq_getElem hy]; exact congrArg (fun z : Nat => some (dN z)) hg))) (ev_var rfl))).mono fun b hb => by rw [hb]; simp
      have e4 : EvB S1 (tAnd (tTest (tOp (rEqD K) (tVar 8) (tC (.int 0)))) (tTest (tOp (rEqD K) (tVar 9) (tVar 4)))) (fun x => x = false) := (eb_and2 (eb_d (ev_eqI (m := (i : Int)) (n := 0) (ev_var rfl) ev_int)) fun _ => eb_d (ev_eqI (m := (y : Int)) (n := (x : Int)) (ev_var rfl) (ev_var rfl))).mono fun b hb => by
        rw [hb]
        rcases hx0 with h | h
        · simp; intro z; omega
        · simp; intro _; omega
      refine ht_seq (N1 := fun s => s = S1) (ht_if (eb_or2 e1 fun _ => eb_or2 e2 fun _ => eb_or2 e3 fun _ => e4) (fun h => nomatch h) fun _ => ht_next rfl) ?_
      rintro ss1 rfl
      exact ht_asgG (a := dN (i + 1)) ((ev_add (m := (i : Int)) (n := 1) (ev_var rfl) ev_int).to rfl) (hset rfl hy (ev_var rfl)) ⟨_, _, _, rfl, by simpa using hl, hn⟩
    · rintro ss1 ⟨cur, d, e, rfl, hl, ch⟩
      rw [List.drop_length] at ch
      cases ch with
      | stop h => exact ⟨d, e, rfl, h⟩
    rintro ss1 ⟨d, e, rfl, hend⟩
    refine ht_seq (N1 := fun s => s = S .un .un fn d e (.im (dN ds.length))) (ht_asgD ?_ rfl) ?_
    · have := ev_len (K := K) (ss := S .un .un fn d e .un) (te := tVar 5) (ev_var rfl) (a := tN ds) rfl
      rw [List.length_map] at this
      exact this
    rintro ss1 rfl
    refine ht_ret (ev_if (P := fun d => d = stR fn) (B := fun b => b = true) (eb_or (B := fun b => b = decide (rooms.length ≤ ds.length)) ((eb_d (ev_ge (m := (ds.length : Int)) (n := (rooms.length : Int)) (ev_var rfl) (ev_var rfl))).mono fun b hb => by rw [hb, decI]) (fun h => ?_) fun _ => rfl) (fun _ => ev_tAR (ev_own rfl)) fun h => nomatch h) fun d h => h
    have h1 : ¬ rooms.length ≤ ds.length := by simpa using h.symm
    refine (eb_d (ev_le (m := (fn.count ds.length : Nat)) (n := (rm rooms ds.length : Int)) (ev_lcntN rfl (ev_var rfl)) (ev_ixR rfl (ev_var rfl) (by omega)))).mono fun b hb => ?_
    rw [hb, decI]
    exact decide_eq_true (hend.resolve_left h1)
end
end FK
end
section
set_option Elab.async false
set_option linter.all false
set_option maxRecDepth 100000
/-! More rules over data: cat, pop, insert, sorted of any data. -/
namespace FK
open PySem PySem.Spec PyProof.Rows L2 Lg Lr RZ FM
variable [tbs : Tbs]
section
variable {H : Hp} {O Z : Av} {vs ws : List V} {ds es : List D} {d : D}
theorem DqAll.perm {vs ws : List V} (p : vs.Perm ws) : ∀ {ds : List D}, DqAll H O Z vs ds → ∃ es, es.Perm ds ∧ DqAll H O Z ws es := by
  induction p with
  | nil => exact fun h => ⟨_, .refl _, h⟩
  | cons x _ ih =>
    intro ds h
    cases h with
    | cons h t =>
      obtain ⟨es, p1, p2⟩ := ih t
      exact ⟨_, p1.cons _, .cons h p2⟩
  | swap x y l =>
    intro ds h
    cases h with
    | cons h t =>
      cases t with
      | cons h2 t => exact ⟨_, .swap _ _ _, .cons h2 (.cons h t)⟩
  | trans _ _ i1 i2 =>
    intro ds h
    obtain ⟨es, p1, q1⟩ := i1 h
    obtain ⟨fs, p2, q2⟩ := i2 q1
    exact ⟨fs, p2.trans p1, q2⟩
theorem DqAll.snoc (h : DqAll H O Z vs (ds ++ [d])) : ∃ y, vs[vs.length - 1]? = some y ∧ Dq H O Z y d ∧ DqAll H O Z vs.dropLast ds := by
  have hl := h.length
  rw [List.length_append] at hl
  obtain ⟨y, h1, h2⟩ := h.get (i := ds.length) (d := d) (by simp)
  refine ⟨y, ?_, h2, ?_⟩
  · rw [hl]; exact h1
  · have := h.take ds.length
    rw [List.take_left, show ds.length = vs.length - 1 by simp at hl; omega, ← List.dropLast_eq_take] at this
    exact this
end
section
variable {K : PySem.W.Frag} {ss : List Sl} {te tf : TE} {ta : TA} {g : TG} {a b d : D} {ds es : List D} {i : Nat} {N : List Sl → Prop} {R : D → Prop} {B C : List Sl → Prop}
/-- s + t, the result's object known: t's known -/
theorem ev_catPR (h : EvD ss te a) (hi : a.items = some ds) (h' : EvD ss tf (.ptup es)) (hz : ds.length + es.length ≤ 100000) (he : es ≠ []) : EvD ss (tOp (rPlus K) te tf) (.ptup (ds ++ es)) := ev_op h h' fun a' b' ea eb H O Z x y Q nn hx hy q => by
  subst ea eb
  obtain ⟨p, xs, rfl, h1, h5⟩ := hx.tupV (K := K) hi
  cases hy with
  | @ptup p' ys _ o' h1' ho' h5' =>
  have l1 := h5.length
  have l2 := h5'.length
  by_cases hxe : xs = []
  · subst hxe
    have hds : ds = [] := List.length_eq_zero_iff.mp l1.symm
    subst hds
    exact .inr (.inr (.inl ⟨p, p', [], ys, rfl, rfl, h1, .inl (.inr ⟨_, h1'⟩), by rw [l2]; exact sz_of (by simpa using hz), fun _ => q _ H _ rfl Ext.refl (.ptup h1' ho' h5'), fun z => absurd rfl z, fun z => absurd rfl z⟩))
  · refine .inr (.inr (.inr ⟨p, p', xs, ys, rfl, rfl, h1, .inl (.inr ⟨_, h1'⟩), by rw [l1, l2]; exact sz_of hz, hxe, fun z => he ?_, fun r oo hr hoo => ?_⟩))
    · rw [z] at l2
      exact List.length_eq_zero_iff.mp l2.symm
    · exact q _ _ _ rfl (Ext.new hr) (.ptup upd_same hoo ((h5.append h5').mv (Ext.stp (Ext.new hr))))
/-- .. s's known -/
theorem ev_catPL (h : EvD ss te (.ptup ds)) (h' : EvD ss tf b) (hi : b.items = some es) (hz : ds.length + es.length ≤ 100000) (hd : ds ≠ []) : EvD ss (tOp (rPlus K) te tf) (.ptup (ds ++ es)) := ev_op h h' fun a' b' ea eb H O Z x y Q nn hx hy q => by
  subst ea eb
  obtain ⟨p', ys, rfl, h1', h5'⟩ := hy.tupV (K := K) hi
  cases hx with
  | @ptup p xs _ o h1 ho h5 =>
  have l1 := h5.length
  have l2 := h5'.length
  have hxe : xs ≠ [] := fun z => hd (by rw [z] at l1; exact List.length_eq_zero_iff.mp l1.symm)
  by_cases hye : ys = []
  · subst hye
    have hes : es = [] := List.length_eq_zero_iff.mp l2.symm
    subst hes
    exact .inr (.inr (.inl ⟨p, p', xs, [], rfl, rfl, .inl (.inr ⟨_, h1⟩), h1', by rw [l1]; exact sz_of (by simpa using hz), fun z => absurd z hxe, fun _ _ => q _ H _ rfl Ext.refl (by rw [List.append_nil]; exact .ptup h1 ho h5), fun _ z => absurd rfl z⟩))
  · refine .inr (.inr (.inr ⟨p, p', xs, ys, rfl, rfl, .inl (.inr ⟨_, h1⟩), h1', by rw [l1, l2]; exact sz_of hz, hxe, hye, fun r oo hr hoo => ?_⟩))
    exact q _ _ _ rfl (Ext.new hr) (.ptup upd_same hoo ((h5.append h5').mv (Ext.stp (Ext.new hr))))
/-- s + t, of any make -/
theorem ev_catT (h : EvD ss te a) (hi : a.items = some ds) (h' : EvD ss tf b) (hi' : b.items = some es) (hz : ds.length + es.length ≤ 100000) : EvD ss (tOp (rPlus K) te tf) (.tup (ds ++ es)) := ev_op h h' fun a' b' ea eb H O Z x y Q nn hx hy q => by
  subst ea eb
  have hx2 := hx.asTup hi
  have hy2 := hy.asTup hi'
  obtain ⟨p, xs, rfl, h1, h5⟩ := hx.tupV (K := K) hi
  obtain ⟨p', ys, rfl, h1', h5'⟩ := hy.tupV (K := K) hi'
  have l1 := h5.length
  have l2 := h5'.length
  refine .inr (.inr (.inl ⟨p, p', xs, ys, rfl, rfl, h1, h1', by rw [l1, l2]; exact sz_of hz, fun z => ?_, fun _ z => ?_, fun _ _ r hr => ?_⟩))
  · have hds : ds = [] := List.length_eq_zero_iff.mp (by rw [← l1, z]; rfl)
    subst hds
    exact q _ H _ rfl Ext.refl hy2
  · have hes : es = [] := List.length_eq_zero_iff.mp (by rw [← l2, z]; rfl)
    subst hes
    exact q _ H _ rfl Ext.refl (by rw [List.append_nil]; exact hx2)
  · exact q _ _ _ rfl (Ext.new hr) ((Dq.rtup upd_same ((h5.append h5').mv (Ext.stp (Ext.new hr)))).wk Wk.rt1)
/-- x = l.pop() -/
theorem ht_popAsg {ss' : List Sl} {js : List Nat} (hi : ss[i]? = some (.own (ds ++ [d]))) (ht : Tgt g (ss.set i (.own ds)) d ss' js) (hn : N ss') : HT ss (tAsg (tBM0 K "list" rPop (tVar i)) g) N R B C := fun Z Bg σ H O E gg nn r b c => by
  obtain ⟨l, xs, e0, _, _, h1, h2⟩ := gg.own hi
  obtain ⟨y, hy, hyd, hdl⟩ := DqAll.snoc h2
  obtain ⟨g3, s3⟩ := gg.write hi e0 hdl
  refine ⟨_, e0, .inl ⟨rfl, xs, SqL.of h1⟩, l, xs, y, rfl, rfl, h1, hy, ?_⟩
  exact ht Z Bg σ _ O y _ g3 (hyd.mv s3) fun σ' H' g4 s4 _ _ => nn _ _ _ O hn g4 (s3.trans s4)
/-- l.pop(k) -/
theorem ht_popAt {k : Nat} (hi : ss[i]? = some (.own ds)) (h : EvD ss te (dN k)) (hk : k < ds.length) (hz : ds.length ≤ 100000) (hn : N (ss.set i (.own (ds.eraseIdx k)))) : HT ss (tDrop (tBM K "list" rPopAt (tVar i) (tCons te tNil))) N R B C := fun Z Bg σ H O E g nn r b c => by
  obtain ⟨l0, xs0, e0, _, _, h01, _⟩ := g.own hi
  refine ⟨_, e0, .inl ⟨rfl, xs0, SqL.of h01⟩, h Z Bg σ H O _ g fun y H' d pd g' s' hd => ?_⟩
  subst pd
  obtain ⟨l, xs, e, _, _, h1, h2⟩ := g'.own hi
  rw [e0] at e; cases e
  cases hd
  obtain ⟨x, hx, _⟩ := h2.get (List.getElem?_eq_getElem hk)
  obtain ⟨g3, s3⟩ := g'.write hi e0 (h2.eraseIdx k)
  have hl := h2.length
  refine ⟨l0, xs, (k : Int), k, x, rfl, rfl, h1, by omega, by omega, ?_, hx, nn _ σ _ O hn g3 (s'.trans s3)⟩
  unfold seqIndex?
  have h0 : ¬ ((k : Int) < 0) := by omega
  simp only [h0, if_false]
  simp
  omega
/-- l.insert(k, x) -/
theorem ht_insert {Pk : Nat → Prop} (hi : ss[i]? = some (.own ds)) (h : EvP ss te (fun x => ∃ k, x = dN k ∧ k ≤ ds.length)) (h' : EvD ss tf d) (hz : ds.length < 100000) (hn : ∀ k, k ≤ ds.length → N (ss.set i (.own (ds.take k ++ [d] ++ ds.drop k)))) : HT ss (tDrop (tBM K "list" rInsert (tVar i) (tCons te (tCons tf tNil)))) N R B C := fun Z Bg σ H O E g nn r b c => by
  obtain ⟨l0, xs0, e0, _, _, h01, _⟩ := g.own hi
  refine ⟨_, e0, .inl ⟨rfl, xs0, SqL.of h01⟩, h Z Bg σ H O _ g fun y H1 d1 pd g1 s1 hd1 => h' Z Bg σ H1 O _ g1 fun w H2 d2 pd2 g2 s2 hd2 => ?_⟩
  obtain ⟨k, rfl, hk⟩ := pd
  subst pd2
  obtain ⟨l, xs, e, _, _, h1, h2⟩ := g2.own hi
  rw [e0] at e; cases e
  cases hd1
  obtain ⟨g3, s3⟩ := g2.write hi e0 (((h2.take k).append (.one hd2)).append (h2.drop k))
  have hl := h2.length
  exact ⟨l0, xs, (k : Int), w, rfl, rfl, h1, by rw [hl]; exact sz_lt hz, by omega, by omega, nn _ σ _ O (hn k hk) g3 ((s1.trans s2).trans s3)⟩
/-- sorted(l), l a list of data -/
theorem en_sortP (h : EvV ss te (fun x => x = ds)) (hs : ds.length ≤ 1 ∨ PySem.W.AllAlike (D.pys ds) ∧ PySem.W.Sortable (D.pys ds)) (hdp : ∀ d ∈ ds, d.py.depth ≤ 8) : EvN ss (tCB (rSortD K) (tCons te tNil)) (fun x => x.Perm ds) := fun Z Bg σ H O Q g q => h Z Bg σ H O _ g fun p xs es H1 e g1 s1 h1 h2 => by
  subst e
  have hl := h2.length
  refine ⟨p, xs, D.pys es, rfl, SqL.of h1, DqAll.dp h2, ?_, ?_, fun r hr => ?_⟩
  · rw [hl]; exact hs
  · intro d hd
    rw [D.pys_eq] at hd
    obtain ⟨e, he, rfl⟩ := List.mem_map.mp hd
    exact hdp e he
  · have nO : ¬ O r := (g1.wd.fresh hr).1
    have hp : (sortV xs (D.pys es)).Perm xs := by
      unfold sortV
      refine ((List.mergeSort_perm _ _).map _).trans ?_
      rw [List.map_fst_zip (by rw [D.pys_eq, List.length_map, hl]; exact Nat.le_refl _)]
    obtain ⟨fs, p1, p2⟩ := DqAll.perm hp.symm h2
    exact q r _ _ _ p1 nO (s1.was hr nO) (g1.more (Ext.new hr) hr (by rw [upd_same]; exact fun z => nomatch z)) (s1.trans (stp_more hr)) upd_same (p2.mv (stp_more hr))
end
end FK
end
section
set_option Elab.async false
set_option linter.all false
set_option maxRecDepth 100000
/-! All asks of a thing. -/
namespace FK
open PySem PySem.Spec PyProof.Rows L2 Lg Lr RZ FM
theorem perm_map_inv {α β : Type} {f : α → β} {l1 l2 : List β} (p : l1.Perm l2) : ∀ {m : List α}, l1 = m.map f → ∃ m' : List α, l2 = m'.map f ∧ m'.Perm m := by
  induction p with
  | nil => intro m h; exact ⟨m, h, .refl _⟩
  | cons x _ ih =>
    intro m h
    cases m with
    | nil => cases h
    | cons a m =>
      rw [List.map_cons] at h
      obtain ⟨h1, h2⟩ := List.cons.inj h
      obtain ⟨m', e, p⟩ := ih h2
      exact ⟨a :: m', by rw [List.map_cons, e, h1], p.cons a⟩
  | swap x y l =>
    intro m h
    match m, h with
    | a :: b :: m, h =>
      rw [List.map_cons, List.map_cons] at h
      obtain ⟨h1, h2⟩ := List.cons.inj h
      obtain ⟨h3, h4⟩ := List.cons.inj h2
      exact ⟨b :: a :: m, by rw [List.map_cons, List.map_cons, h1, h3, h4], .swap _ _ _⟩
  | trans _ _ i1 i2 =>
    intro m h
    obtain ⟨m1, e1, p1⟩ := i1 h
    obtain ⟨m2, e2, p2⟩ := i2 e1
    exact ⟨m2, e2, p2.trans p1⟩
/-! ### the plain part -/
abbrev Row := List Nat × List Nat
/-- what a row may still come to -/
def Tl (rooms : List Nat) (x : Nat) (p : Row) (es : List Nat) : Prop := ∃ tl fin, es = p.1 ++ tl ∧ Chain rooms x p.1.length p.2 tl fin
def wt (F : Nat) (ps : List Row) : Nat := (ps.map fun p => 6 ^ (F + 1 - p.1.length)).sum
theorem wt_app {F : Nat} {ps qs : List Row} : wt F (ps ++ qs) = wt F ps + wt F qs := by unfold wt; rw [List.map_append, List.sum_append]
theorem wt_one {F : Nat} {p : Row} : wt F [p] = 6 ^ (F + 1 - p.1.length) := by unfold wt; simp
theorem wt_all {F c : Nat} : ∀ {ps : List Row}, (∀ p ∈ ps, p.1.length = c) → wt F ps = ps.length * 6 ^ (F + 1 - c)
  | [], _ => by simp [wt]
  | p :: ps, h => by
    have e : wt F (p :: ps) = 6 ^ (F + 1 - p.1.length) + wt F ps := by unfold wt; simp
    rw [e, wt_all (c := c) fun q hq => h q (by simp [hq]), h p (by simp), List.length_cons, Nat.succ_mul]; omega
structure AInv (rooms : List Nat) (n x : Nat) (st0 : List Nat) (fs : List (List Nat)) (ps : List Row) : Prop where
  all : ∀ es, (∃ fin, Chain rooms x 0 st0 es fin) ↔ es ∈ fs ∨ ∃ p ∈ ps, Tl rooms x p es
  row : ∀ p ∈ ps, p.1.length ≤ rooms.length ∧ p.2.length = n
  sz : fs.length + wt rooms.length ps ≤ 6 ^ (rooms.length + 1)
  fl : ∀ es ∈ fs, es.length ≤ rooms.length
abbrev stopB (rooms : List Nat) (p : Row) : Bool := decide (rooms.length ≤ p.1.length) || decide (p.2.count p.1.length ≤ rm rooms p.1.length)
abbrev pickB (x : Nat) (p : Row) (y : Nat) : Bool := decide (p.2.getD y 0 = p.1.length) && (decide (0 < p.1.length) || !decide (y = x))
abbrev nextR (p : Row) (y : Nat) : Row := (p.1 ++ [y], p.2.set y (p.1.length + 1))
section
variable {rooms : List Nat} {n x : Nat} {st0 : List Nat} {fs : List (List Nat)} {ps : List Row} {p : Row}
theorem AInv.start (hl : st0.length = n) : AInv rooms n x st0 [] [([], st0)] where
  all := fun es => by
    constructor
    · rintro ⟨fin, h⟩
      exact .inr ⟨([], st0), by simp, es, fin, rfl, h⟩
    · rintro (h | ⟨p, hp, tl, fin, e, h⟩)
      · cases h
      · rw [List.mem_singleton] at hp
        subst hp
        simp at e h
        subst e
        exact ⟨fin, h⟩
  row := fun p hp => by rw [List.mem_singleton] at hp; subst hp; exact ⟨Nat.zero_le _, hl⟩
  sz := by rw [wt_one]; simp
  fl := fun es h => by cases h
theorem AInv.stop (I : AInv rooms n x st0 fs (ps ++ [p])) (h : stopB rooms p = true) : AInv rooms n x st0 (fs ++ [p.1]) ps where
  all := fun es => by
    rw [I.all es]
    simp only [List.mem_append, List.mem_singleton]
    rw [Bool.or_eq_true, decide_eq_true_eq, decide_eq_true_eq] at h
    constructor
    · rintro (h1 | ⟨q, hq | hq, t⟩)
      · exact .inl (.inl h1)
      · exact .inr ⟨q, hq, t⟩
      · subst hq
        obtain ⟨tl, fin, e, c⟩ := t
        cases c with
        | stop _ => exact .inl (.inr (by simpa using e))
        | step h1 h2 => omega
    · rintro ((h1 | h1) | ⟨q, hq, t⟩)
      · exact .inl h1
      · exact .inr ⟨p, .inr rfl, [], p.2, by simpa using h1, .stop h⟩
      · exact .inr ⟨q, .inl hq, t⟩
  row := fun q hq => I.row q (by simp [hq])
  sz := by
    have := I.sz
    rw [wt_app, wt_one] at this
    have h1 : 0 < 6 ^ (rooms.length + 1 - p.1.length) := Nat.pow_pos (by omega)
    rw [List.length_append, List.length_singleton]; omega
  fl := fun es he => by
    rcases List.mem_append.mp he with h1 | h1
    · exact I.fl es h1
    · rw [List.mem_singleton] at h1; subst h1; exact (I.row p (by simp)).1
theorem AInv.step (I : AInv rooms n x st0 fs (ps ++ [p])) (hn : n ≤ 5) (h : stopB rooms p = false) : AInv rooms n x st0 fs (ps ++ ((List.range n).filter (pickB x p)).map (nextR p)) ∧ wt rooms.length (ps ++ ((List.range n).filter (pickB x p)).map (nextR p)) < wt rooms.length (ps ++ [p]) := by
  have hp := I.row p (by simp)
  rw [Bool.or_eq_false_iff, decide_eq_false_iff_not, decide_eq_false_iff_not] at h
  have hw : wt rooms.length (((List.range n).filter (pickB x p)).map (nextR p)) < wt rooms.length [p] := by
    have hle : ((List.range n).filter (pickB x p)).length ≤ 5 := by
      have := List.length_filter_le (pickB x p) (List.range n)
      rw [List.length_range] at this; omega
    rw [wt_one, wt_all (c := p.1.length + 1) (by
      intro q hq
      obtain ⟨y, _, rfl⟩ := List.mem_map.mp hq
      simp), List.length_map]
    have e1 : rooms.length + 1 - p.1.length = (rooms.length + 1 - (p.1.length + 1)) + 1 := by omega
    rw [e1, Nat.pow_succ]
    have h1 : 0 < 6 ^ (rooms.length + 1 - (p.1.length + 1)) := Nat.pow_pos (by omega)
    generalize 6 ^ (rooms.length + 1 - (p.1.length + 1)) = c at h1
    have : ((List.range n).filter (pickB x p)).length * c ≤ 5 * c := Nat.mul_le_mul_right _ hle
    omega
  refine ⟨⟨fun es => ?_, fun q hq => ?_, ?_, I.fl⟩, by rw [wt_app, wt_app]; omega⟩
  · rw [I.all es]
    simp only [List.mem_append, List.mem_singleton, List.mem_map, List.mem_filter, List.mem_range]
    constructor
    · rintro (h1 | ⟨q, hq | hq, t⟩)
      · exact .inl h1
      · exact .inr ⟨q, .inl hq, t⟩
      · subst hq
        obtain ⟨tl, fin, e, c⟩ := t
        cases c with
        | stop h1 => exact absurd h1 (by omega)
        | @step _ _ y tl' _ h1 h2 h3 h4 h5 h6 =>
          refine .inr ⟨nextR q y, .inr ⟨y, ⟨by omega, ?_⟩, rfl⟩, tl', fin, by rw [e]; simp, by simpa using h6⟩
          rw [List.getD_eq_getElem?_getD, List.getElem?_eq_getElem h3] at h4
          rw [Bool.and_eq_true, Bool.or_eq_true, decide_eq_true_eq, decide_eq_true_eq, List.getD_eq_getElem?_getD, List.getElem?_eq_getElem h3]
          exact ⟨h4, h5.imp id fun z => by simpa using z⟩
    · rintro (h1 | ⟨q, hq | ⟨y, ⟨hy, hb⟩, rfl⟩, t⟩)
      · exact .inl h1
      · exact .inr ⟨q, .inl hq, t⟩
      · obtain ⟨tl, fin, e, c⟩ := t
        have h3 : y < p.2.length := by omega
        rw [Bool.and_eq_true, Bool.or_eq_true, decide_eq_true_eq, decide_eq_true_eq, List.getD_eq_getElem?_getD, List.getElem?_eq_getElem h3] at hb
        refine .inr ⟨p, .inr rfl, y :: tl, fin, by rw [e]; simp, .step (by omega) (by omega) h3 ?_ (hb.2.imp id fun z => by simpa using z) (by simpa using c)⟩
        rw [List.getD_eq_getElem?_getD, List.getElem?_eq_getElem h3]
        exact hb.1
  · rcases List.mem_append.mp hq with h1 | h1
    · exact I.row q (by simp [h1])
    · obtain ⟨y, _, rfl⟩ := List.mem_map.mp h1
      exact ⟨by simp; omega, by simpa using hp.2⟩
  · have := I.sz
    rw [wt_app] at this ⊢
    omega
end
variable [tbs : Tbs]
section
variable {K : PySem.W.Frag}
theorem dpt_ptup {k : Nat} {ds : List D} (h : ∀ d ∈ ds, dpt k d = true) : dpt (k + 1) (.ptup ds) = true := by unfold dpt; exact dpts_all h
theorem dpt_dNs {l : List Nat} : ∀ d ∈ l.map dN, dpt 0 d = true := fun d h => by
  obtain ⟨i, _, rfl⟩ := List.mem_map.mp h
  exact dpt_int
abbrev rowD (p : Row) : D := .rtup [tN p.1, stP p.2]
theorem dpt_row {p : Row} : dpt 2 (rowD p) = true := dpt_rtup fun d h => by
  rcases List.mem_cons.mp h with rfl | h
  · exact dpt_tup dpt_dNs
  · rw [List.mem_singleton] at h
    subst h
    exact dpt_ptup dpt_dNs
theorem dpt_move {w : Str} {x : Nat} {ds : List Nat} (h : PyData.strOk w = true) : dpt 2 (moveD w x ds) = true := dpt_tup fun d hd => by
  simp only [List.mem_cons, List.not_mem_nil, or_false] at hd
  rcases hd with rfl | rfl | rfl
  · exact dpt_str h
  · exact dpt_int
  · exact dpt_tup dpt_dNs
theorem pys_N (l : List Nat) : D.pys (l.map dN) = (stI l).map PyData.int := by rw [stI_map]; exact pys_ints _
theorem alike_move (w : Str) (x : Nat) (a b : List Nat) : PySem.W.alike (moveD w x a).py (moveD w x b).py = true := by
  show PySem.W.alike (.tuple [.str w, .int x, .tuple (D.pys (a.map dN))]) (.tuple [.str w, .int x, .tuple (D.pys (b.map dN))]) = true
  rw [pys_N, pys_N]
  simp only [PySem.W.alike, PySem.W.alikeAll, Bool.and_true, Bool.true_and]
  have := alike_ints (stI a) (stI b)
  simpa only [PySem.W.alike] using this
def A_law_asks (a : Nat × List Nat × List Nat × Nat) : List D := [houseD a.1 a.2.1, stD a.2.2.1, dN a.2.2.2]
def sp_law_asks : Sp := spP A_law_asks (fun a => a.1 ≤ 5 ∧ a.2.1.length ≤ 3 ∧ a.2.2.1.length = a.1 ∧ a.2.2.2 < a.1) (fun a d => ∃ L : List (List Nat), d = .lst (L.map (moveD "ask" a.2.2.2)) ∧ ∀ es, (es ∈ L ↔ ∃ fin, Chain a.2.1 a.2.2.2 0 (a.2.2.1.set a.2.2.2 0) es fin) ∧ (es ∈ L → es.length ≤ 3))
theorem decEqI (m n : Nat) : decide ((m : Int) = (n : Int)) = decide (m = n) := decide_eq_decide.mpr ⟨fun h => by omega, fun h => by omega⟩
theorem set_cut {st : List Nat} {y k : Nat} (h : y < st.length) : ((st.map dN).take y ++ [dN k]) ++ (st.map dN).drop (y + 1) = (st.set y k).map dN := by
  rw [List.set_eq_take_append_cons_drop, if_pos h, List.map_append, List.map_cons, List.map_take, List.map_drop]
  simp
theorem c_law_asks (vs H Q E) (p : sp_law_asks vs H Q E) : t_law_asks K (fin Q) (L2.start N_law_asks vs) H := by
  refine body_P (fun x hx => ⟨by show 3 ≤ 10; decide, ?_⟩) p
  obtain ⟨n, rooms, st, x⟩ := x
  obtain ⟨n5, f3, hst, hx'⟩ := hx
  simp only at n5 f3 hst hx'
  let hD : D := houseD n rooms
  let st0 := st.set x 0
  let S : List (List Nat) → List Row → Sl → Sl → Sl → Sl → List Sl := fun fs ps a b c d => [.im hD, .im (stD st), .im (dN x), .own (st0.map dN), .own (fs.map (moveD "ask" x)), .own (ps.map rowD), a, b, c, d]
  refine ht_seq (N1 := fun s => s = [.im hD, .im (stD st), .im (dN x), .own (st.map dN), .un, .un, .un, .un, .un, .un]) (ht_asgNL (en_list (ev_var rfl) rfl) rfl) ?_
  rintro ss1 rfl
  refine ht_seq (N1 := fun s => s = [.im hD, .im (stD st), .im (dN x), .own (st0.map dN), .un, .un, .un, .un, .un, .un]) (ht_asgG (a := dN 0) ev_int (tgt_set rfl (by omega) (ev_var rfl)) rfl) ?_
  rintro ss1 rfl
  refine ht_seq (N1 := fun s => s = S [] [([], st0)] .un .un .un .un) (ht_par2 (em_oo en_nil (en_d (ea1 (ev_tBR (ea2 (ev_tB ea_nil (Nat.zero_le _)) (ev_tAP (ev_own rfl))) (Nat.le_of_ble_eq_true rfl))) one_le)) rfl) ?_
  rintro ss1 rfl
  have h6 : 6 ^ (rooms.length + 1) ≤ 1296 := by
    have : 6 ^ (rooms.length + 1) ≤ 6 ^ 4 := Nat.pow_le_pow_right (by omega) (by omega)
    omega
  refine ht_seq (N1 := fun s => ∃ fs a b c d, s = S fs [] a b c d ∧ AInv rooms n x st0 fs []) (ht_while (fun m s => ∃ fs ps a b c d, s = S fs ps a b c d ∧ AInv rooms n x st0 fs ps ∧ m = wt rooms.length ps) (wt rooms.length [([], st0)]) ⟨[], _, _, _, _, _, rfl, AInv.start (by simpa [st0] using hst), rfl⟩ ?_) ?_
  · rintro m ss1 ⟨fs, ps, a, b, c, d, rfl, I, rfl⟩
    have hsz : fs.length + ps.length ≤ 1296 := by
      have h1 := I.sz
      have h2 : ps.length ≤ wt rooms.length ps := by
        clear I h1
        induction ps with
        | nil => simp
        | cons q ps ih =>
          have e : wt rooms.length (q :: ps) = 6 ^ (rooms.length + 1 - q.1.length) + wt rooms.length ps := by unfold wt; simp
          have : 0 < 6 ^ (rooms.length + 1 - q.1.length) := Nat.pow_pos (by omega)
          rw [e, List.length_cons]; omega
      omega
    refine ⟨fun b => b = !ps.isEmpty, ?_, fun hne => ?_, fun he => ?_⟩
    · refine (eb_d (ev_neOwn (ds := ps.map rowD) rfl (EvN.dat en_nil) (shp (k := 3) (dpt_lst fun d h => ?_) (by omega)) rfl)).mono fun b hb => ?_
      · obtain ⟨q, _, rfl⟩ := List.mem_map.mp h
        exact dpt_row
      · rw [hb]
        show (!PyData.eqv (.list (D.pys (ps.map rowD))) (.list [])) = _
        rw [PyData.eqv, eqvAll_nil, List.isEmpty_map]
    · have hne' : ps ≠ [] := fun z => by rw [z] at hne; cases hne
      obtain ⟨qs, p, rfl⟩ : ∃ qs p, ps = qs ++ [p] := ⟨ps.dropLast, ps.getLast hne', (List.dropLast_concat_getLast hne').symm⟩
      have hp := I.row p (by simp)
      have hql : qs.length + 1 ≤ 1296 := by rw [List.length_append] at hsz; simp at hsz; omega
      refine ht_seq (N1 := fun s => s = S fs qs (.im (tN p.1)) (.im (stP p.2)) c d) (ht_popAsg (i := 5) (ds := qs.map rowD) (d := rowD p) (by show some (Sl.own _) = _; rw [List.map_append]; rfl) (tgt_2 (a1 := tN p.1) (a2 := stP p.2) rfl) rfl) ?_
      rintro ss1 rfl
      refine ht_seq (N1 := fun s => s = S fs qs (.im (tN p.1)) (.im (stP p.2)) (.im (dN p.1.length)) d) (ht_asgD ?_ rfl) ?_
      · have := ev_len (K := K) (ss := S fs qs (.im (tN p.1)) (.im (stP p.2)) c d) (te := tVar 6) (ev_var rfl) (a := tN p.1) rfl
        rw [List.length_map] at this
        exact this
      rintro ss1 rfl
      let S1 : Sl → List Sl := fun d => S fs qs (.im (tN p.1)) (.im (stP p.2)) (.im (dN p.1.length)) d
      refine ht_if (Bb := fun b => b = stopB rooms p) (eb_or (B := fun b => b = decide (rooms.length ≤ p.1.length)) (B' := fun b => b = stopB rooms p) ((eb_d (ev_ge (m := (p.1.length : Int)) (n := (rooms.length : Int)) (ev_var rfl) (ev_lenR rfl))).mono fun b hb => by rw [hb, decI]) (fun h => ?_) fun h => by show true = (_ || _); rw [← h]; rfl) (fun hs => ?_) fun hs => ?_
      · have h1 : ¬ rooms.length ≤ p.1.length := by simpa using h.symm
        refine (eb_d (ev_le (m := (p.2.count p.1.length : Nat)) (n := (rm rooms p.1.length : Int)) ?_ (ev_ixR rfl (ev_var rfl) (by omega)))).mono fun b hb => ?_
        · have := ev_tcnt (K := K) (ss := S1 d) (te := tVar 7) (tf := tVar 8) (ns := stI p.2) (k := (p.1.length : Int)) ((ev_var rfl).to (by show stP p.2 = _; rw [← stI_map])) (ev_var rfl)
          rw [count_stI] at this
          exact this
        · rw [hb, decI]
          show _ = (_ || _)
          rw [decide_eq_false h1, Bool.false_or]
      · refine ht_app (a := moveD "ask" x p.1) rfl (ev_tB (ea3 ev_str (ev_var rfl) (ev_var rfl)) (Nat.le_of_ble_eq_true rfl)) (by rw [List.length_map]; omega) ⟨wt rooms.length qs, ?_, fs ++ [p.1], qs, .im (tN p.1), .im (stP p.2), .im (dN p.1.length), d, by simp [S], I.stop hs.symm, rfl⟩
        rw [wt_app, wt_one]
        have : 0 < 6 ^ (rooms.length + 1 - p.1.length) := Nat.pow_pos (by omega)
        omega
      · obtain ⟨I2, hw⟩ := I.step n5 hs.symm
        refine ht_for (n := n) (el := fun i => .int (i : Int)) (src_r1 (ea1 (ev_ix (ev_var rfl) ev_int rfl rfl)) (by omega)) (fun k s => ∃ d, s = S fs (qs ++ ((List.range k).filter (pickB x p)).map (nextR p)) (.im (tN p.1)) (.im (stP p.2)) (.im (dN p.1.length)) d) ⟨d, by simp [S]⟩ ?_ ?_
        · rintro k ss1 hk ⟨d, rfl⟩
          refine ⟨_, _, tgt_name, ?_⟩
          let ps' := qs ++ ((List.range k).filter (pickB x p)).map (nextR p)
          have hps : ps'.length < 100000 := by
            have := List.length_filter_le (pickB x p) (List.range k)
            rw [List.length_range] at this
            show (qs ++ _).length < _
            rw [List.length_append, List.length_map]
            omega
          let S2 := S fs ps' (.im (tN p.1)) (.im (stP p.2)) (.im (dN p.1.length)) (.im (dN k))
          have hky : k < p.2.length := by omega
          have hix : atI (p.2.map dN) (k : Int) = some (.int ((p.2.getD k 0 : Nat) : Int)) := atI_nat (by rw [List.getElem?_map, List.getD_eq_getElem?_getD, List.getElem?_eq_getElem hky]; rfl)
          have hsucc : ∀ b : Bool, pickB x p k = b → qs ++ ((List.range (k + 1)).filter (pickB x p)).map (nextR p) = ps' ++ (if b = true then [nextR p k] else []) := fun b hb => by
            rw [filter_range_succ, List.map_append, ← List.append_assoc, hb]
            cases b <;> rfl
          refine ht_if (ss := S2) (Bb := fun b => b = pickB x p k) ((eb_and2 (eb_d (ev_eqI (m := ((p.2.getD k 0 : Nat) : Int)) (n := (p.1.length : Int)) (ev_ix (a := stP p.2) (ev_var (i := 7) rfl) (ev_var (i := 9) rfl) rfl hix) (ev_var (i := 8) rfl))) fun _ => eb_or2 (eb_d (ev_gt (m := (p.1.length : Int)) (n := 0) (ev_var (i := 8) rfl) ev_int)) fun _ => eb_d (ev_neI (m := (k : Int)) (n := (x : Int)) (ev_var (i := 9) rfl) (ev_var (i := 2) rfl))).mono fun b hb => by rw [hb, decEqI, decEqI]; simp [pickB]) (fun hb => ?_) fun hb => ht_next ⟨.im (dN k), by rw [hsucc _ hb.symm]; simp [S2]⟩
          have hrow : EvD S2 (tTupB (tCons (tOp (rPlus K) (tVar 6) (tTupB (tCons (tVar 9) tNil))) (tCons (tOp (rPlus K) (tOp (rPlus K) (tSl (rSl K) (tVar 7) tNoPart (tPart (tVar 9))) (tTupB (tCons (tOp (rPlus K) (tVar 8) (tC (.int 1))) tNil))) (tSl (rSl K) (tVar 7) (tPart (tOp (rPlus K) (tVar 9) (tC (.int 1)))) tNoPart)) tNil))) (rowD (nextR p k)) := by
            refine (ev_tBR (ea2 (ev_catT (ds := p.1.map dN) (ev_var (i := 6) rfl) rfl (ev_tB (ea1 (ev_var (i := 9) rfl)) one_le) rfl ?_) (ev_catPL (ds := (p.2.map dN).take k ++ [dN (p.1.length + 1)]) (es := (p.2.map dN).drop (k + 1)) (ev_catPR (ds := (p.2.map dN).take k) (ev_slTo (k := k) (ev_var (i := 7) rfl) (ev_var (i := 9) rfl) rfl) rfl (ev_tBP (ea1 ((ev_add (m := (p.1.length : Int)) (n := 1) (ev_var (i := 8) rfl) ev_int).to rfl)) one_le) ?_ (by simp)) (ev_slFrom (k := k + 1) (ev_var (i := 7) rfl) ((ev_add (m := (k : Int)) (n := 1) (ev_var (i := 9) rfl) ev_int).to rfl) rfl) rfl ?_ (by simp))) (Nat.le_of_ble_eq_true rfl)).to ?_
            · rw [List.length_map]; simp; omega
            · simp; omega
            · simp; omega
            · rw [set_cut hky]
              show D.rtup [.tup _, _] = D.rtup [.tup _, _]
              rw [List.map_append]; rfl
          refine ht_app (ss := S2) (i := 5) rfl hrow (by rw [List.length_map]; exact hps) ⟨.im (dN k), ?_⟩
          rw [hsucc _ hb.symm, if_pos rfl]
          show _ = S _ (ps' ++ [nextR p k]) _ _ _ _
          simp [S, S2]
        · rintro ss1 ⟨d, rfl⟩
          exact ⟨_, hw, fs, _, _, _, _, _, rfl, I2, rfl⟩
    · have hps : ps = [] := by cases ps with
        | nil => rfl
        | cons q qs => cases he
      subst hps
      exact ⟨fs, a, b, c, d, rfl, I⟩
  rintro ss1 ⟨fs, a, b, c, d, rfl, I⟩
  refine ht_ret (EvN.p (en_sortP (K := K) (ev_own (i := 4) rfl) (.inr ⟨?_, .inl ?_⟩) ?_)) ?_
  · intro d hd d' hd'
    rw [D.pys_eq, List.map_map] at hd hd'
    obtain ⟨a, _, rfl⟩ := List.mem_map.mp hd
    obtain ⟨b, _, rfl⟩ := List.mem_map.mp hd'
    exact alike_move _ _ _ _
  · intro d hd
    rw [D.pys_eq, List.map_map] at hd
    obtain ⟨a, _, rfl⟩ := List.mem_map.mp hd
    exact ⟨_, _, rfl⟩
  · intro d hd
    obtain ⟨a, _, rfl⟩ := List.mem_map.mp hd
    have := (dpt_ok (dpt_move (x := x) (ds := a) askOk)).2
    omega
  · rintro d ⟨es, rfl, hp⟩
    obtain ⟨L, rfl, hL⟩ := perm_map_inv hp.symm rfl
    refine ⟨L, rfl, fun es => ⟨?_, fun h => ?_⟩⟩
    · rw [hL.mem_iff, I.all es]; simp
    · exact Nat.le_trans (I.fl es (hL.mem_iff.mp h)) f3
end
end FK
end
section
set_option Elab.async false
set_option linter.all false
set_option maxRecDepth 100000
/-! The states behind an entry. -/
namespace FK
open PySem PySem.Spec PyProof.Rows L2 Lg Lr RZ FM
variable [tbs : Tbs]
/-! ### the plain part -/
theorem nodup_len {α : Type} [DecidableEq α] : ∀ {ks l : List α}, ks.Nodup → (∀ a ∈ ks, a ∈ l) → ks.length ≤ l.length
  | [], _, _, _ => Nat.zero_le _
  | a :: ks, l, h, s => by
    rw [List.nodup_cons] at h
    have ha := s a (by simp)
    have := nodup_len (l := l.erase a) h.2 fun b hb => by
      have hne : b ≠ a := fun z => h.1 (z ▸ hb)
      exact (List.mem_erase_of_ne hne).mpr (s b (by simp [hb]))
    rw [List.length_erase_of_mem ha] at this
    have := List.length_pos_of_mem ha
    rw [List.length_cons]; omega
theorem chain_det {rooms : List Nat} {x a : Nat} {st ds f1 : List Nat} (c : Chain rooms x a st ds f1) : ∀ {f2 : List Nat}, Chain rooms x a st ds f2 → f2 = f1 := by
  induction c with
  | stop h => intro f2 c2; cases c2; rfl
  | step h1 h2 h3 h4 h5 _ ih =>
    intro f2 c2
    cases c2 with
    | step _ _ _ _ _ c3 => exact ih c3
theorem chain_st {rooms : List Nat} {x a n : Nat} {st ds f : List Nat} (c : Chain rooms x a st ds f) : IsSt rooms.length n st → IsSt rooms.length n f := by
  induction c with
  | stop h => exact fun h => h
  | step h1 h2 h3 h4 h5 _ ih => exact fun h => ih (h.set (by omega))
theorem does_det {rooms : List Nat} {x : Nat} {w : Str} {st ds f1 f2 : List Nat} (h1 : Does rooms st w x ds f1) (h2 : Does rooms st w x ds f2) : f2 = f1 := by
  rcases h1 with ⟨rfl, rfl, rfl⟩ | ⟨rfl, c1⟩
  · rcases h2 with ⟨_, _, rfl⟩ | ⟨e, _⟩
    · rfl
    · exact absurd e (by decide +kernel)
  · rcases h2 with ⟨e, _⟩ | ⟨_, c2⟩
    · exact absurd e (by decide +kernel)
    · exact chain_det c1 c2
theorem does_st {rooms : List Nat} {x n : Nat} {w : Str} {st ds f : List Nat} (h : Does rooms st w x ds f) (hs : IsSt rooms.length n st) : IsSt rooms.length n f := by
  rcases h with ⟨rfl, rfl, rfl⟩ | ⟨rfl, c⟩
  · exact hs.set (Nat.le_refl _)
  · exact chain_st c (hs.set (Nat.zero_le _))
def Behind (rooms : List Nat) (l : List (List Nat)) (w : Str) (x i : Nat) (st' : List Nat) : Prop := ∃ st ∈ l, gof rooms.length st x = i ∧ ∃ ds, Does rooms st w x ds st'
theorem behind_st {rooms : List Nat} {l : List (List Nat)} {w : Str} {x i n : Nat} {st' : List Nat} (h : Behind rooms l w x i st') (hl : ∀ st ∈ l, IsSt rooms.length n st) : IsSt rooms.length n st' := by
  obtain ⟨st, h1, _, ds, d⟩ := h
  exact does_st d (hl st h1)
theorem st_len {F n : Nat} (h3 : F ≤ 3) (hn : n ≤ 5) {ks : List (List Nat)} (hd : ks.Nodup) (hs : ∀ st ∈ ks, IsSt F n st) : ks.length ≤ 1024 := by
  have e : (List.replicate F n).length = F := List.length_replicate
  have h1 := nodup_len (l := allS (List.replicate F n) n) hd fun st h => mem_allS.mpr ⟨by rw [e]; exact hs st h, fun j hj => by
    rw [e] at hj
    have h2 : rm (List.replicate F n) j = n := by unfold rm; rw [List.getD_eq_getElem?_getD, List.getElem?_replicate, if_pos hj]; rfl
    rw [h2, ← (hs st h).1]
    exact List.count_le_length⟩
  exact Nat.le_trans h1 (Nat.le_trans (allS_len (by rw [e]; exact h3) n) (pow4N hn))
/-- a state more -/
def insS (ks : List (List Nat)) (st : List Nat) : List (List Nat) := if st ∈ ks then ks else ks ++ [st]
theorem insS_mem {ks : List (List Nat)} {st a : List Nat} : a ∈ insS ks st ↔ a ∈ ks ∨ a = st := by
  unfold insS
  split
  · rename_i h
    exact ⟨.inl, fun z => z.elim id fun e => e ▸ h⟩
  · simp
theorem insS_nodup {ks : List (List Nat)} {st : List Nat} (h : ks.Nodup) : (insS ks st).Nodup := by
  unfold insS
  split
  · exact h
  · rename_i hn
    exact List.nodup_append.mpr ⟨h, by simp, fun a ha b hb => by simp at hb; exact fun z => hn (hb ▸ z ▸ ha)⟩
abbrev gS (st : List Nat) : List Int × Bool := (stI st, true)
theorem stI_mem {ks : List (List Nat)} {st : List Nat} : stI st ∈ ks.map stI ↔ st ∈ ks := by
  rw [List.mem_map]
  exact ⟨fun ⟨a, h1, h2⟩ => stI_inj h2 ▸ h1, fun h => ⟨st, h, rfl⟩⟩
theorem putI_st {ks : List (List Nat)} {st : List Nat} : putI (ks.map gS) (stI st) true = (insS ks st).map gS := by
  unfold putI insS
  have e : ((ks.map gS).any fun e => decide (e.1 = stI st)) = decide (st ∈ ks) := by
    rw [List.any_map]
    by_cases h : st ∈ ks
    · rw [decide_eq_true h, List.any_eq_true]
      exact ⟨st, h, by simp⟩
    · rw [decide_eq_false h]
      refine Bool.eq_false_iff.mpr fun z => h ?_
      rw [List.any_eq_true] at z
      obtain ⟨a, h1, h2⟩ := z
      have h3 : stI a = stI st := by simpa using h2
      exact stI_inj h3 ▸ h1
  rw [e]
  by_cases h : st ∈ ks
  · rw [if_pos (decide_eq_true h), if_pos h, List.map_map]
    exact List.map_congr_left fun a _ => by simp only [Function.comp, gS]; split <;> rfl
  · rw [if_neg (by simpa using h), if_neg h, List.map_append]; rfl
section
variable {K : PySem.W.Frag}
structure BH where
  n : Nat
  rooms : List Nat
  l : List (List Nat)
  w : Str
  x : Nat
  i : Nat
structure BH.Ok (a : BH) : Prop where
  n5 : a.n ≤ 5
  f3 : a.rooms.length ≤ 3
  st : ∀ st ∈ a.l, IsSt a.rooms.length a.n st
  w : a.w = "ask" ∨ a.w = "strike"
  x : a.x < a.n
def A_law_states_behind (a : BH) : List D := [houseD a.n a.rooms, .lst (a.l.map stD), entD a.w a.x a.i]
def sp_law_states_behind : Sp := spP A_law_states_behind BH.Ok (fun a d => ∃ L : List (List Nat), d = .lst (L.map stD) ∧ L.Nodup ∧ ∀ st', st' ∈ L ↔ Behind a.rooms a.l a.w a.x a.i st')
abbrev dS (ks : List (List Nat)) : HO := .dT ((ks.map gS).map (encK V.bl))
theorem c_law_states_behind (vs H Q E) (p : sp_law_states_behind vs H Q E) : t_law_states_behind K sp_law_asks sp_law_done (fin Q) (L2.start N_law_states_behind vs) H := by
  refine body_P (fun x hx => ⟨by show 3 ≤ 10; decide, ?_⟩) p
  obtain ⟨n, rooms, l, w, x, i⟩ := x
  obtain ⟨n5, f3, hst, hw, hx'⟩ := hx
  simp only at n5 f3 hst hw hx'
  have hwok : PyData.strOk w = true := by rcases hw with rfl | rfl; exact askOk; exact strikeOk
  let hD : D := houseD n rooms
  let lD : D := .lst (l.map stD)
  let eD : D := entD w x i
  let S : List (List Nat) → Sl → Sl → Sl → List Sl := fun ks a b c => [.im hD, .im lD, .im eD, .im (.str w), .im (dN x), .im (dN i), .obj (dS ks), a, b, c]
  refine ht_seq (N1 := fun s => s = [.im hD, .im lD, .im eD, .im (.str w), .im (dN x), .im (dN i), .un, .un, .un, .un]) (ht_asgG (ev_var rfl) (tgt_3 rfl) rfl) ?_
  rintro ss1 rfl
  refine ht_seq (N1 := fun s => s = S [] .un .un .un) (ht_asgW ew_newT ?_) ?_
  · rintro u rfl; rfl
  rintro ss1 rfl
  refine ht_seq (N1 := fun s => ∃ ks a b c, s = S ks a b c ∧ ks.Nodup ∧ ∀ st', st' ∈ ks ↔ Behind rooms l w x i st') (ht_for (n := l.length) (el := fun k => stD (l.getD k [])) ?_ (fun k s => ∃ ks a b c, s = S ks a b c ∧ ks.Nodup ∧ ∀ st', st' ∈ ks ↔ Behind rooms (l.take k) w x i st') ⟨[], _, _, _, rfl, List.nodup_nil, fun st' => ⟨fun h => (nomatch h), fun ⟨st, h, _⟩ => (by simp at h)⟩⟩ ?_ ?_) ?_
  · have h := src_lst (K := K) (ds := l.map stD) (ss := S [] .un .un .un) (te := tVar 1) (ev_var rfl)
    rw [List.length_map] at h
    exact Src.inl (src_el h fun k hk => by rw [dAt_map (a := l.getD k []) (by rw [List.getD_eq_getElem?_getD, List.getElem?_eq_getElem hk]; rfl)])
  · rintro k ss1 hk ⟨ks, a, b, c, rfl, hnd, hmem⟩
    let st := l.getD k []
    have hstk : l[k]? = some st := by
      show _ = some (l.getD k [])
      rw [List.getD_eq_getElem?_getD, List.getElem?_eq_getElem hk]; rfl
    have hsl : st ∈ l := List.mem_of_getElem? hstk
    have hs := hst st hsl
    have hBk : ∀ st', Behind rooms (l.take (k + 1)) w x i st' ↔ Behind rooms (l.take k) w x i st' ∨ (gof rooms.length st x = i ∧ ∃ ds, Does rooms st w x ds st') := fun st' => by
      unfold Behind
      rw [List.take_add_one, hstk]
      constructor
      · rintro ⟨s, h1, h2⟩
        rcases List.mem_append.mp h1 with h | h
        · exact .inl ⟨s, h, h2⟩
        · simp at h; subst h; exact .inr h2
      · rintro (⟨s, h1, h2⟩ | h)
        · exact ⟨s, List.mem_append_left _ h1, h2⟩
        · exact ⟨st, List.mem_append_right _ (by simp), h⟩
    refine ⟨_, _, tgt_name, ?_⟩
    have hix : atI (st.map dN) (x : Int) = some (.int ((gof rooms.length st x : Nat) : Int)) := atI_nat (by
      have : x < st.length := by rw [hs.1]; exact hx'
      rw [List.getElem?_map, List.getElem?_eq_getElem this]
      unfold gof
      rw [List.getD_eq_getElem?_getD, List.getElem?_eq_getElem this]; rfl)
    refine ht_if (Bb := fun b => b = decide (gof rooms.length st x = i)) ((eb_d (ev_eqI (m := ((gof rooms.length st x : Nat) : Int)) (n := (i : Int)) (ev_ix (a := stD st) (ev_var (i := 7) rfl) (ev_var (i := 4) rfl) rfl hix) (ev_var (i := 5) rfl))).mono fun b hb => by rw [hb, decEqI]) (fun hc => ?_) (fun hc => ht_next ⟨ks, .im (stD st), b, c, rfl, hnd, fun st' => ?_⟩)
    · have hgi : gof rooms.length st x = i := by simpa using hc.symm
      refine ht_seq (N1 := fun s => ∃ M : List (List Nat), s = S ks (.im (stD st)) (.im (.lst (M.map (moveD w x)))) c ∧ ∀ ds, (ds ∈ M ↔ ∃ fin, Does rooms st w x ds fin) ∧ (ds ∈ M → ds.length ≤ 3)) (ht_asg (P := fun d => ∃ M : List (List Nat), d = .lst (M.map (moveD w x)) ∧ ∀ ds, (ds ∈ M ↔ ∃ fin, Does rooms st w x ds fin) ∧ (ds ∈ M → ds.length ≤ 3)) (ev_if (B := fun b => b = (w == "strike")) (eb_d (ev_eqS (ev_var (i := 3) rfl) ev_str hwok strikeOk)) (fun hb => ?_) fun hb => ?_) ?_) ?_
      · have e : w = "strike" := by simpa using hb.symm
        subst e
        refine (EvN.dat (en_d (ea1 (ev_tB (ea3 ev_str (ev_var (i := 4) rfl) (ev_tB ea_nil (Nat.zero_le _))) (Nat.le_of_ble_eq_true rfl))) one_le)).is ⟨[[]], rfl, fun ds => ⟨?_, fun h => by simp at h; simp [h]⟩⟩
        rw [List.mem_singleton]
        exact ⟨fun h => ⟨_, .inl ⟨rfl, h, rfl⟩⟩, fun ⟨fin, h⟩ => h.elim (fun h => h.2.1) fun h => absurd h.1 (by decide +kernel)⟩
      · have e : w = "ask" := hw.resolve_right fun z => by rw [z] at hb; simp at hb
        subst e
        refine (ev_call (E := E0) (A := A_law_asks) (Pre := fun a => a.1 ≤ 5 ∧ a.2.1.length ≤ 3 ∧ a.2.2.1.length = a.1 ∧ a.2.2.2 < a.1) (Post := fun a d => ∃ L : List (List Nat), d = .lst (L.map (moveD "ask" a.2.2.2)) ∧ ∀ es, (es ∈ L ↔ ∃ fin, Chain a.2.1 a.2.2.2 0 (a.2.2.1.set a.2.2.2 0) es fin) ∧ (es ∈ L → es.length ≤ 3)) (n, rooms, st, x) (ea3 (ev_var (i := 0) rfl) (ev_var (i := 7) rfl) (ev_var (i := 4) rfl)) ⟨n5, f3, hs.1, hx'⟩).mono ?_
        rintro d ⟨L, rfl, hL⟩
        refine ⟨L, rfl, fun ds => ⟨?_, (hL ds).2⟩⟩
        rw [(hL ds).1]
        exact ⟨fun ⟨fin, h⟩ => ⟨fin, .inr ⟨rfl, h⟩⟩, fun ⟨fin, h⟩ => h.elim (fun h => absurd h.1 (by decide +kernel)) fun h => ⟨fin, h.2⟩⟩
      · rintro d ⟨M, rfl, hM⟩
        exact ⟨M, rfl, hM⟩
      rintro ss1 ⟨M, rfl, hM⟩
      refine ht_for (n := M.length) (el := fun q => moveD w x (M.getD q [])) ?_ (fun q s => ∃ ks' c, s = S ks' (.im (stD st)) (.im (.lst (M.map (moveD w x)))) c ∧ ks'.Nodup ∧ ∀ st', st' ∈ ks' ↔ Behind rooms (l.take k) w x i st' ∨ ∃ ds ∈ M.take q, Does rooms st w x ds st') ⟨ks, c, rfl, hnd, fun st' => by rw [hmem]; simp⟩ ?_ ?_
      · have h := src_lst (K := K) (ds := M.map (moveD w x)) (ss := S ks (.im (stD st)) (.im (.lst (M.map (moveD w x)))) c) (te := tVar 8) (ev_var rfl)
        rw [List.length_map] at h
        exact Src.inl (src_el h fun k hk => by rw [dAt_map (a := M.getD k []) (by rw [List.getD_eq_getElem?_getD, List.getElem?_eq_getElem hk]; rfl)])
      · rintro q ss1 hq ⟨ks', c, rfl, hnd', hmem'⟩
        let ds := M.getD q []
        have hds : M[q]? = some ds := by
          show _ = some (M.getD q [])
          rw [List.getD_eq_getElem?_getD, List.getElem?_eq_getElem hq]; rfl
        have hdM : ds ∈ M := List.mem_of_getElem? hds
        obtain ⟨fn, hfn⟩ := ((hM ds).1).mp hdM
        have hall : ∀ st' ∈ ks', IsSt rooms.length n st' := fun st' h => by
          rcases (hmem' st').mp h with h | ⟨es, _, h⟩
          · exact behind_st h fun s hs => hst s (List.mem_of_mem_take hs)
          · exact does_st h hs
        have hlen := st_len f3 n5 hnd' hall
        refine ⟨_, _, tgt_name, ?_⟩
        refine ht_dput (kvs := (ks'.map gS).map (encK V.bl)) (ks := stI fn) (w := V.bl true) (d := .bl true) rfl ev_bl (fun H O Z x h => by cases h; rfl) (EvD.to (ss := S ks' (.im (stD st)) (.im (.lst (M.map (moveD w x)))) (.im (moveD w x ds))) (ev_call (E := E0) (A := A_law_done) (Pre := MV.Ok) (Post := fun a d => d = stR a.fin) ⟨n, rooms, st, w, x, ds, fn⟩ (ea3 (ev_var (i := 0) rfl) (ev_var (i := 7) rfl) (ev_var (i := 9) rfl)) ⟨n5, f3, hs.1, hx', hfn, (hM ds).2 hdM⟩) (by show D.rtup (fn.map dN) = _; rw [stI_map])) (by rw [List.length_map, List.length_map]; omega) ⟨insS ks' fn, .im (moveD w x ds), ?_, insS_nodup hnd', fun st' => ?_⟩
        · rw [putI_enc, putI_st]; rfl
        · rw [insS_mem, hmem', List.take_add_one, hds]
          constructor
          · rintro ((h | ⟨es, h1, h2⟩) | rfl)
            · exact .inl h
            · exact .inr ⟨es, List.mem_append_left _ h1, h2⟩
            · exact .inr ⟨ds, List.mem_append_right _ (by simp), hfn⟩
          · rintro (h | ⟨es, h1, h2⟩)
            · exact .inl (.inl h)
            · rcases List.mem_append.mp h1 with h | h
              · exact .inl (.inr ⟨es, h, h2⟩)
              · simp at h; subst h; exact .inr (does_det hfn h2)
      · rintro ss1 ⟨ks', c, rfl, hnd', hmem'⟩
        refine ⟨ks', _, _, c, rfl, hnd', fun st' => ?_⟩
        rw [hmem', hBk, List.take_length]
        constructor
        · rintro (h | ⟨ds, h1, h2⟩)
          · exact .inl h
          · exact .inr ⟨hgi, ds, h2⟩
        · rintro (h | ⟨_, ds, h2⟩)
          · exact .inl h
          · exact .inr ⟨ds, ((hM ds).1).mpr ⟨st', h2⟩, h2⟩
    · have hgi : ¬ gof rooms.length st x = i := by simpa using hc.symm
      rw [hmem, hBk]
      exact ⟨.inl, fun h => h.elim id fun h => absurd h.1 hgi⟩
  · rintro ss1 ⟨ks, a, b, c, rfl, hnd, hmem⟩
    rw [List.take_length] at hmem
    exact ⟨ks, a, b, c, rfl, hnd, hmem⟩
  rintro ss1 ⟨ks, a, b, c, rfl, hnd, hmem⟩
  have hall : ∀ st' ∈ ks, IsSt rooms.length n st' := fun st' h => behind_st ((hmem st').mp h) hst
  have hlen := st_len f3 n5 hnd hall
  refine ht_ret (EvP.wk (EvN.p (en_sortK (i := 6) (kvs := ks.map fun st => (stI st, V.bl true)) ?_ (by rw [List.length_map]; omega) ?_ ?_)) (P' := fun d => ∃ L : List (List Nat), d = .lst (L.map stD) ∧ L.Nodup ∧ ∀ st', st' ∈ L ↔ Behind rooms l w x i st') ?_) fun d h => h
  · show some (Sl.obj (.dT _)) = some (Sl.obj (.dT _))
    rw [List.map_map, List.map_map]; rfl
  · intro p hp
    obtain ⟨st, h1, rfl⟩ := List.mem_map.mp hp
    intro z
    have := congrArg List.length z
    have h2 := (hall st h1).1
    simp at this
    subst this
    simp at h2
    omega
  · intro d hd d' hd'
    rw [List.map_map] at hd hd'
    obtain ⟨a, _, rfl⟩ := List.mem_map.mp hd
    obtain ⟨b, _, rfl⟩ := List.mem_map.mp hd'
    exact alike_ints _ _
  · rintro d ⟨es, rfl, rfl⟩
    obtain ⟨L, e, hL⟩ := perm_map_inv (f := stI) (List.mergeSort_perm ((ks.map fun st => (stI st, V.bl true)).map (·.1)) (fun x y => PySem.W.dataLe false (fun z : List Int => PyData.tuple (z.map .int)) x y)).symm (m := ks) (by rw [List.map_map]; rfl)
    rw [e]
    refine ⟨_, Wk.ll (WkAll.map (g := fun k : List Int => D.tup (k.map .int)) (fun k => Wk.rt1) _), L, ?_, hL.nodup_iff.mpr hnd, fun st' => by rw [hL.mem_iff, hmem]⟩
    rw [List.map_map]
    congr 1
    exact List.map_congr_left fun st _ => by show D.tup _ = D.tup _; rw [stI_map]
end
end FK
end
section
set_option Elab.async false
set_option linter.all false
set_option maxRecDepth 100000
/-! The states of a log. -/
namespace FK
open PySem PySem.Spec PyProof.Rows L2 Lg Lr RZ FM
abbrev Ent := Str × Nat × Nat
abbrev eD (e : Ent) : D := entD e.1 e.2.1 e.2.2
abbrev logD (log : List Ent) : D := .tup (log.map eD)
abbrev e0 : Ent := ("", 0, 0)
/-- the states behind the first k entries -/
def After (rooms : List Nat) (S0 : List (List Nat)) (log : List Ent) : Nat → List Nat → Prop
  | 0, st => st ∈ S0
  | k + 1, st' => ∃ st, After rooms S0 log k st ∧ gof rooms.length st (log.getD k e0).2.1 = (log.getD k e0).2.2 ∧ ∃ ds, Does rooms st (log.getD k e0).1 (log.getD k e0).2.1 ds st'
def optD : Option Nat → D
  | none => .non
  | some k => dN k
structure EntOk (n : Nat) (e : Ent) : Prop where
  w : e.1 = "ask" ∨ e.1 = "strike"
  x : e.2.1 < n
structure StartOk (n : Nat) (rooms : List Nat) (s : Option (List Nat)) : Prop where
  st : ∀ st, s = some st → IsSt rooms.length n st ∧ ∀ j, j < rooms.length → st.count j ≤ rm rooms j
  full : s = none → rw' rooms (rooms.length - 1) ≤ n
variable [tbs : Tbs]
theorem firstS_ok {rooms : List Nat} {n : Nat} {s : Option (List Nat)} (h : StartOk n rooms s) : (firstS rooms n s).Nodup ∧ ∀ st ∈ firstS rooms n s, IsSt rooms.length n st := by
  cases s with
  | some st => exact ⟨by show [st].Nodup; simp, fun a ha => by rw [show firstS rooms n (some st) = [st] from rfl, List.mem_singleton] at ha; subst ha; exact (h.st _ rfl).1⟩
  | none => exact ⟨List.Pairwise.filter _ (allS_nodup n), fun a ha => (mem_allS.mp (List.mem_filter.mp ha).1).is⟩
structure LR where
  n : Nat
  rooms : List Nat
  s : Option (List Nat)
  log : List Ent
structure LR.Ok (a : LR) : Prop where
  n5 : a.n ≤ 5
  f3 : a.rooms.length ≤ 3
  s : StartOk a.n a.rooms a.s
  log : ∀ e ∈ a.log, EntOk a.n e
  l6 : a.log.length ≤ 100
/-- what is told of a log -/
def LogIs (rooms : List Nat) (S0 : List (List Nat)) (log : List Ent) (L : List (List Nat)) : Option Nat → Prop
  | none => (∀ st, st ∈ L ↔ After rooms S0 log log.length st) ∧ ∀ k, k < log.length → ∃ st, After rooms S0 log (k + 1) st
  | some k => k < log.length ∧ (∀ j, j < k → ∃ st, After rooms S0 log (j + 1) st) ∧ ∀ st, ¬ After rooms S0 log (k + 1) st
abbrev LR.S0 (a : LR) : List (List Nat) := firstS a.rooms a.n a.s
def A_law_states_of_log (a : LR) : List D := [houseD a.n a.rooms, startD a.s, logD a.log]
def P_law_states_of_log (a : LR) (d : D) : Prop := ∃ L idx, d = .tup [.lst (L.map stD), optD idx] ∧ L.Nodup ∧ (∀ st ∈ L, IsSt a.rooms.length a.n st) ∧ LogIs a.rooms a.S0 a.log L idx
def sp_law_states_of_log : Sp := spP A_law_states_of_log LR.Ok P_law_states_of_log
section
variable {K : PySem.W.Frag}
theorem dpt_sts {l : List (List Nat)} : dpt 2 (.lst (l.map stD)) = true := dpt_lst fun d h => by
  obtain ⟨a, _, rfl⟩ := List.mem_map.mp h
  exact dpt_tup dpt_dNs
theorem c_law_states_of_log (vs H Q E) (p : sp_law_states_of_log vs H Q E) : t_law_states_of_log K sp_law_first_states sp_law_states_behind (fin Q) (L2.start N_law_states_of_log vs) H := by
  refine body_P (fun x hx => ⟨by show 3 ≤ 7; decide, ?_⟩) p
  obtain ⟨n, rooms, s, log⟩ := x
  obtain ⟨n5, f3, hs, hlog, hl6⟩ := hx
  simp only at n5 f3 hs hlog hl6
  obtain ⟨hf1, hf2⟩ := firstS_ok hs
  let hD : D := houseD n rooms
  let S : List (List Nat) → Sl → Sl → Sl → List Sl := fun l a b c => [.im hD, .im (startD s), .im (logD log), .im (.lst (l.map stD)), a, b, c]
  let S0 := firstS rooms n s
  refine ht_seq (N1 := fun ss => ss = S S0 .un .un .un) (ht_asgD (ev_call (E := E0) (A := A_law_first_states) (Pre := fun x => x.1 ≤ 5 ∧ x.2.1.length ≤ 3) (Post := fun x d => d = .lst ((firstS x.2.1 x.1 x.2.2).map stD)) (n, rooms, s) (ea2 (ev_var (i := 0) rfl) (ev_var (i := 1) rfl)) ⟨n5, f3⟩) rfl) ?_
  rintro ss1 rfl
  refine ht_seq (N1 := fun ss => ∃ L a b c, ss = S L a b c ∧ L.Nodup ∧ (∀ st ∈ L, IsSt rooms.length n st) ∧ LogIs rooms S0 log L none) (ht_for (n := log.length) (el := fun k => .rtup [dN k, eD (log.getD k e0)]) ?_ (fun k ss => ∃ L a b c, ss = S L a b c ∧ L.Nodup ∧ (∀ st ∈ L, IsSt rooms.length n st) ∧ (∀ st, st ∈ L ↔ After rooms S0 log k st) ∧ ∀ j, j < k → ∃ st, After rooms S0 log (j + 1) st) ⟨S0, _, _, _, rfl, hf1, hf2, fun st => Iff.rfl, fun j h => absurd h (Nat.not_lt_zero _)⟩ ?_ ?_) ?_
  · have h := src_enT (K := K) (ss := S S0 .un .un .un) (ea1 (ev_var (i := 2) rfl)) (a := logD log) rfl
    rw [List.length_map] at h
    exact Src.inr (src_el h fun j hj => by show D.rtup [_, _] = _; rw [dAt_map (a := log.getD j e0) (by rw [List.getD_eq_getElem?_getD, List.getElem?_eq_getElem hj]; rfl)])
  · rintro k ss1 hk ⟨L, a, b, c, rfl, hnd, hall, hmem, hne⟩
    let e := log.getD k e0
    have he : e ∈ log := by
      show log.getD k e0 ∈ log
      rw [List.getD_eq_getElem?_getD, List.getElem?_eq_getElem hk]
      exact List.getElem_mem hk
    have hok := hlog e he
    refine ⟨_, _, tgt_2 (a1 := dN k) (a2 := eD e) rfl, ?_⟩
    have hB : ∀ st', Behind rooms L e.1 e.2.1 e.2.2 st' ↔ After rooms S0 log (k + 1) st' := fun st' => by
      constructor
      · rintro ⟨st, h1, h2, h3⟩
        exact ⟨st, (hmem st).mp h1, h2, h3⟩
      · rintro ⟨st, h1, h2, h3⟩
        exact ⟨st, (hmem st).mpr h1, h2, h3⟩
    refine ht_seq (N1 := fun ss => ∃ L' : List (List Nat), ss = S L (.im (dN k)) (.im (eD e)) (.im (.lst (L'.map stD))) ∧ L'.Nodup ∧ ∀ st', st' ∈ L' ↔ After rooms S0 log (k + 1) st') (ht_asg (ev_call (E := E0) (A := A_law_states_behind) (Pre := BH.Ok) (Post := fun a d => ∃ L : List (List Nat), d = .lst (L.map stD) ∧ L.Nodup ∧ ∀ st', st' ∈ L ↔ Behind a.rooms a.l a.w a.x a.i st') ⟨n, rooms, L, e.1, e.2.1, e.2.2⟩ (ea3 (ev_var (i := 0) rfl) (ev_var (i := 3) rfl) (ev_var (i := 5) rfl)) ⟨n5, f3, hall, hok.w, hok.x⟩) ?_) ?_
    · rintro d ⟨L', rfl, h1, h2⟩
      exact ⟨L', rfl, h1, fun st' => by rw [h2, ← hB]⟩
    rintro ss1 ⟨L', rfl, hnd', hmem'⟩
    refine ht_seq (N1 := fun ss => ss = S L (.im (dN k)) (.im (eD e)) (.im (.lst (L'.map stD))) ∧ L' ≠ []) (ht_if (eb_d (ev_eqNilL (k := 2) (ev_var (i := 6) rfl) dpt_sts (by omega))) (fun h => ?_) fun h => ht_next ⟨rfl, fun z => by rw [z] at h; cases h⟩) ?_
    · have hz : L' = [] := by
        rw [List.isEmpty_map] at h
        exact List.isEmpty_iff.mp h.symm
      subst hz
      exact ht_retD (ev_tB (ea2 (ev_var (i := 3) rfl) (ev_var (i := 4) rfl)) (Nat.le_of_ble_eq_true rfl)) ⟨L, some k, rfl, hnd, hall, hk, hne, fun st h => nomatch (hmem' st).mpr h⟩
    rintro ss1 ⟨rfl, hne'⟩
    refine ht_asgD (ev_var (i := 6) rfl) ⟨L', _, _, _, rfl, hnd', fun st h => behind_st ((hB st).mpr ((hmem' st).mp h)) hall, hmem', fun j hj => ?_⟩
    by_cases h : j = k
    · subst h
      cases L' with
      | nil => exact absurd rfl hne'
      | cons st r => exact ⟨st, (hmem' st).mp (by simp)⟩
    · exact hne j (by omega)
  · rintro ss1 ⟨L, a, b, c, rfl, h1, h2, h3, h4⟩
    exact ⟨L, a, b, c, rfl, h1, h2, h3, h4⟩
  rintro ss1 ⟨L, a, b, c, rfl, h1, h2, h3⟩
  exact ht_retD (ev_tB (ea2 (ev_var (i := 3) rfl) ev_non) (Nat.le_of_ble_eq_true rfl)) ⟨L, none, rfl, h1, h2, h3⟩
end
end FK
end
section
set_option Elab.async false
set_option linter.all false
set_option maxRecDepth 100000
namespace FK
open PySem PySem.Spec PyProof.Rows L2 Lg Lr RZ
section
variable {P : Program} {w : World} {K : PySem.W.Frag} {mg : Str → Option Value} {base : Heap}
abbrev N_led : List Str := ["house", "knowledge", "entry", "order", "words", "sizes", "word", "thing", "found", "rows", "rooms", "floor", "row", "item"]
theorem sc_led : FnScope N_led ["house", "knowledge", "entry"] (defScope (top 18)) := ⟨rfl, rfl, rfl, by decide +kernel, rfl, by decide +kernel, by decide +kernel⟩
def t_led (K : PySem.W.Frag) (aC : Addr) (sp_amid sp_rooms_within sp_lost_one : Sp) (E : XK) : TS := (tSeq (tAsg (tCall sp_amid [] E0 (tCons (tVar 1) (tCons (tVar 2) tNil))) (gTup K 3 (gCons (gName 3) (gCons (gName 4) (gCons (gName 5) gNil))))) (tSeq (tIfS (tTest (tOp (fun x y H Q => y = .non ∧ Q (.bl (decide (x = .non))) H) (tVar 4) (tC .non))) (tRaiseC K aC E (tCons (tC (.int 0)) tNil)) tNext) (tSeq (tAsg (tVar 2) (gTup K 3 (gCons (gName 6) (gCons (gName 7) (gCons (gName 8) gNil))))) (tSeq (tIfS (tTest (tOp (rEqD K) (tVar 6) (tC (.str "strike")))) (tRet (tTupB (tCons (tTupB (StX.tStar K (tVar 3) (tCons (tVar 7) tNil))) (tCons (tCB (rTupA K) (tCons (tLc (iSq K (tVar 4)) (gName 12) tYes (tTupB (StX.tStar K (tVar 12) (tCons (tOp (rIx K) (tVar 12) (tUn (rU fun i => .int (-i)) (tC (.int 1)))) tNil))) [12]) tNil)) tNil)))) tNext) (tSeq (tPar 9 10 (tCons (tLst tNil) (tCons (tCall sp_rooms_within [] E0 (tCons (tVar 0) tNil)) tNil))) (tSeq (tFor (iEn K (tCons (tVar 4) tNil)) (gTup K 2 (gCons (gName 11) (gCons (gName 12) gNil))) (tSeq (tIfS (tAnd (tTest (tOp (rI0 fun i j => .bl (decide (i < j))) (tVar 11) (tVar 8))) (tTest (tOp (rEqD K) (tOp (rIx K) (tVar 5) (tVar 11)) (tOp (rIx K) (tVar 10) (tVar 11))))) (tAsg (tCall sp_lost_one [] E0 (tCons (tVar 12) tNil)) (gName 12)) tNext) (tDrop (tBM K "list" (rAppend) (tVar 9) (tCons (tTupB (tCons (tC (.int 0)) (StX.tStar K (tLc (iSq K (tVar 12)) (gName 13) tYes (tOp (rPlus K) (tVar 13) (tC (.int 1))) [13]) tNil))) tNil))))) (tRet (tTupB (tCons (tTupB (tCons (tVar 7) (StX.tStar K (tVar 3) tNil))) (tCons (tCB (rTupA K) (tCons (tVar 9) tNil)) tNil))))))))))
theorem ok_led {sp : Sp} {aC fI : Addr} {fdI : FuncData} {sp_amid sp_rooms_within sp_lost_one : Sp} (D : Dfs K mg) (M : Mgs mg) (C : Cb P K mg aC fI fdI) (F_amid : Ok P w K mg base CX0 3 "amid" ["knowledge", "entry"] sp_amid) (F_rooms_within : Ok P w K mg base CX0 1 "rooms_within" ["house"] sp_rooms_within) (F_lost_one : Ok P w K mg base CX0 1 "lost_one" ["word"] sp_lost_one) (len : ∀ vs H Q E, sp vs H Q E → vs.length = 3) (h : ∀ vs H Q E, sp vs H Q E → t_led K aC sp_amid sp_rooms_within sp_lost_one E (fin Q) (L2.start N_led vs) H) : Ok P w K mg base (L2N.CX P w) 4 "led" ["house", "knowledge", "entry"] sp := by
  obtain ⟨f, fd, F, hm⟩ := D.led
  refine ⟨f, fd, F.bindsN fun _ _ _ _ _ _ us hl => match us, hl with | [_, _, _], _ => rfl, F.ok sc_led len (fun cdv A outer s H vs Q E hr p => ⟨t_led K aC sp_amid sp_rooms_within sp_lost_one E, ?_, h vs H Q E p⟩), hm, F.kp⟩
  have hu := hr.units
  have tkE : L2N.Takes (cxOf (L2N.CX P w) P w K mg base N_led "led" (defScope (top 18)) f cdv A outer s H E) (fun cls d _ H => E cls d H) := L2N.takes_of rfl rfl rfl rfl
  exact (pss_cons (ps_asg (pe_ok F_amid hr (by decide) rfl pass0 (pa_cons (pv 1) (pa_cons (pv 2) pa_nil))) (pg_tup rfl (pgs_cons (pg_name (i := 3) sc_led.nd rfl (Or.inl rfl)) (pgs_cons (pg_name (i := 4) sc_led.nd rfl (Or.inl rfl)) (pgs_cons (pg_name (i := 5) sc_led.nd rfl (Or.inl rfl)) pgs_nil))))) (pss_cons (ps_if (pt_cmpR op_isN (pv 4) pe_non (nomark _)) (pss_one (L2N.ps_raise rfl tkE (Lx.pmkN_oex C.ini.oex C.iC C.tI (Lx.init_ok C.ini) (hr.mono (by decide)) C.bd .nil pass0 rfl C.gC (pa_cons pe_int pa_nil)))) pss_nil) (pss_cons (ps_asg (pv 2) (pg_tup rfl (pgs_cons (pg_name (i := 6) sc_led.nd rfl (Or.inl rfl)) (pgs_cons (pg_name (i := 7) sc_led.nd rfl (Or.inl rfl)) (pgs_cons (pg_name (i := 8) sc_led.nd rfl (Or.inl rfl)) pgs_nil))))) (pss_cons (ps_if (pt_cmpR (op_eqD hu) (pv 6) pe_str (nomark _)) (pss_one (ps_ret (pe_tupB (pa_cons (pe_tupB (StX.pa_star (pv 3) (pa_cons (pv 7) pa_nil))) (pa_cons (pe_callTy call_tupA rfl M.tuple boot_tuple (pa_cons (pe_lc (own := [("row", 12)]) rfl sc_led.nd (PI.or (pi_list (pv 4)) (pi_tup (pv 4))) (blkOk_by rfl) (fun _ _ _ _ _ => (pg_name (i := 12) sc_led.nd rfl (Or.inl rfl))) (fun _ _ _ _ _ => pts_nil) (fun _ _ _ _ _ => (pe_tupB (StX.pa_star (pv 12) (pa_cons (pe_ix ix_seq (pv 12) (pe_un un_neg pe_int) (fun _ _ => rfl)) pa_nil))))) pa_nil)) pa_nil))))) pss_nil) (pss_cons (ps_par (i := 9) (j := 10) rfl sc_led.nd rfl rfl (by decide) rfl rfl (pa_cons (pe_lst pa_nil) (pa_cons (pe_ok F_rooms_within hr (by decide) rfl pass0 (pa_cons (pv 0) pa_nil)) pa_nil)) rfl) (pss_cons (ps_for (passes_of rfl) rfl (PI.or (pi_enum rfl M.enumerate (pa_cons (pv 4) pa_nil)) (pi_enumT rfl M.enumerate (pa_cons (pv 4) pa_nil))) (pg_tup rfl (pgs_cons (pg_name (i := 11) sc_led.nd rfl (Or.inl rfl)) (pgs_cons (pg_name (i := 12) sc_led.nd rfl (Or.inl rfl)) pgs_nil))) (pss_cons (ps_if (PW.pt (pw_and (pt_cmpR op_lt (pv 11) (pv 8) (nomark _)) (pw_and1 (pt_cmpR (op_eqD hu) (pe_ix ix_seq (pv 5) (pv 11) (fun _ _ => rfl)) (pe_ix ix_seq (pv 10) (pv 11) (fun _ _ => rfl)) (nomark _))))) (pss_one (ps_set (i := 12) sc_led.nd rfl (Or.inl rfl) (pe_ok F_lost_one hr (by decide) rfl pass0 (pa_cons (pv 12) pa_nil)))) pss_nil) (pss_one (ps_expr (pe_bm PySem.F.plainAttrs_list PySem.F.slot_list_append PySem.F.type_list_append mt_append (pv 9) (pa_cons (pe_tupB (pa_cons pe_int (StX.pa_star (pe_lc (own := [("item", 13)]) rfl sc_led.nd (PI.or (pi_list (pv 12)) (pi_tup (pv 12))) (blkOk_by rfl) (fun _ _ _ _ _ => (pg_name (i := 13) sc_led.nd rfl (Or.inl rfl))) (fun _ _ _ _ _ => pts_nil) (fun _ _ _ _ _ => (pe_op op_plus (pv 13) pe_int))) pa_nil))) pa_nil)))))) (pss_one (ps_ret (pe_tupB (pa_cons (pe_tupB (pa_cons (pv 7) (StX.pa_star (pv 3) pa_nil))) (pa_cons (pe_callTy call_tupA rfl M.tuple boot_tuple (pa_cons (pv 9) pa_nil)) pa_nil)))))))))))
abbrev N_led_by : List Str := ["house", "knowledge", "log", "index", "entry"]
theorem sc_led_by : FnScope N_led_by ["house", "knowledge", "log"] (defScope (top 19)) := ⟨rfl, rfl, rfl, by decide +kernel, rfl, by decide +kernel, by decide +kernel⟩
def t_led_by (K : PySem.W.Frag) (aC : Addr) (sp_led : Sp) (E : XK) : TS := (tSeq (tFor (iEn K (tCons (tVar 2) tNil)) (gTup K 2 (gCons (gName 3) (gCons (gName 4) gNil))) (fun D σ H => (fun W : WX => (tAsg (tCallS sp_led (WE W) (tCons (tVar 0) (tCons (tVar 1) (tCons (tVar 4) tNil)))) (gName 1))) (wOnly K (.ref aC) (fun _ _ _ => (tRaiseC K aC E (tCons (tVar 3) tNil))) (fun cls d _ H => E cls d H) D) D σ H)) (tRet (tVar 1)))
theorem ok_led_by {sp : Sp} {aC fI : Addr} {fdI : FuncData} {sp_led : Sp} (D : Dfs K mg) (M : Mgs mg) (C : Cb P K mg aC fI fdI) (F_led : Ok P w K mg base (L2N.CX P w) 4 "led" ["house", "knowledge", "entry"] sp_led) (len : ∀ vs H Q E, sp vs H Q E → vs.length = 3) (h : ∀ vs H Q E, sp vs H Q E → t_led_by K aC sp_led E (fin Q) (L2.start N_led_by vs) H) : Ok P w K mg base (L2.CX P w) 5 "led_by" ["house", "knowledge", "log"] sp := by
  obtain ⟨f, fd, F, hm⟩ := D.led_by
  refine ⟨f, fd, F.bindsN fun _ _ _ _ _ _ us hl => match us, hl with | [_, _, _], _ => rfl, F.ok sc_led_by len (fun cdv A outer s H vs Q E hr p => ⟨t_led_by K aC sp_led E, ?_, h vs H Q E p⟩), hm, F.kp⟩
  have hu := hr.units
  have tkE : L2.Takes (cxOf (L2.CX P w) P w K mg base N_led_by "led_by" (defScope (top 19)) f cdv A outer s H E) (fun cls d _ H => E cls d H) := L2.takes_of rfl rfl rfl rfl
  exact (pss_cons (ps_for (passes_of rfl) rfl (PI.or (pi_enum rfl M.enumerate (pa_cons (pv 2) pa_nil)) (pi_enumT rfl M.enumerate (pa_cons (pv 2) pa_nil))) (pg_tup rfl (pgs_cons (pg_name (i := 3) sc_led_by.nd rfl (Or.inl rfl)) (pgs_cons (pg_name (i := 4) sc_led_by.nd rfl (Or.inl rfl)) pgs_nil))) (pss_one (L2H.ps_try_onlyX (tb := fun W => (tAsg (tCallS sp_led (WE W) (tCons (tVar 0) (tCons (tVar 1) (tCons (tVar 4) tNil)))) (gName 1))) (ts := fun _ _ _ => (tRaiseC K aC E (tCons (tVar 3) tNil))) (Wout := fun cls d _ H => E cls d H) rfl rfl ⟨rfl, by decide, .inl C.gC⟩ (fun hd => L2H.passesAt_of rfl hd) tkE (fun W pn xe tkW _ hpo => (pss_one (ps_set (i := 1) sc_led_by.nd rfl (Or.inl rfl) (pe_okS F_led hr (by decide) rfl (fun σ => L2N.passAt tkW σ) (pa_cons (pv 0) (pa_cons (pv 1) (pa_cons (pv 4) pa_nil))))))) (fun a oe cls d pn _ _ tkO hot => (pss_one (L2H.ps_raiseH hot tkO (L2H.PMk5.pmk (L2H.pmk5_oexH C.ini.oex C.iC C.tI (Lx.init_okH C.ini) ((L2H.roomH_mark hr _).mono (by decide)) hot C.bd pass0 rfl C.gC (pa_cons (pv 3) pa_nil))))))))) (pss_one (ps_ret (pv 1))))
abbrev N_knowledge_behind : List Str := ["house", "start", "log"]
theorem sc_knowledge_behind : FnScope N_knowledge_behind ["house", "start", "log"] (defScope (top 20)) := ⟨rfl, rfl, rfl, by decide +kernel, rfl, by decide +kernel, by decide +kernel⟩
def t_knowledge_behind (K : PySem.W.Frag) (aC : Addr) (sp_first_knowledge sp_led_by : Sp) (E : XK) : TS := (tRet (tCall sp_led_by [] E (tCons (tVar 0) (tCons (tCall sp_first_knowledge [] E0 (tCons (tVar 0) (tCons (tVar 1) tNil))) (tCons (tVar 2) tNil)))))
theorem ok_knowledge_behind {sp : Sp} {aC fI : Addr} {fdI : FuncData} {sp_first_knowledge sp_led_by : Sp} (D : Dfs K mg) (M : Mgs mg) (C : Cb P K mg aC fI fdI) (F_first_knowledge : Ok P w K mg base CX0 3 "first_knowledge" ["house", "start"] sp_first_knowledge) (F_led_by : Ok P w K mg base (L2.CX P w) 5 "led_by" ["house", "knowledge", "log"] sp_led_by) (len : ∀ vs H Q E, sp vs H Q E → vs.length = 3) (h : ∀ vs H Q E, sp vs H Q E → t_knowledge_behind K aC sp_first_knowledge sp_led_by E (fin Q) (L2.start N_knowledge_behind vs) H) : Ok P w K mg base (L2.CX P w) 6 "knowledge_behind" ["house", "start", "log"] sp := by
  obtain ⟨f, fd, F, hm⟩ := D.knowledge_behind
  refine ⟨f, fd, F.bindsN fun _ _ _ _ _ _ us hl => match us, hl with | [_, _, _], _ => rfl, F.ok sc_knowledge_behind len (fun cdv A outer s H vs Q E hr p => ⟨t_knowledge_behind K aC sp_first_knowledge sp_led_by E, ?_, h vs H Q E p⟩), hm, F.kp⟩
  have hu := hr.units
  have tkE : L2.Takes (cxOf (L2.CX P w) P w K mg base N_knowledge_behind "knowledge_behind" (defScope (top 20)) f cdv A outer s H E) (fun cls d _ H => E cls d H) := L2.takes_of rfl rfl rfl rfl
  exact (pss_one (ps_ret (pe_ok F_led_by hr (by decide) rfl (fun _ _ _ _ _ _ I c => L2.passes_call tkE (fun _ _ _ _ h => h) _ _ _ _ _ _ I c) (pa_cons (pv 0) (pa_cons (pe_ok F_first_knowledge hr (by decide) rfl pass0 (pa_cons (pv 0) (pa_cons (pv 1) pa_nil))) (pa_cons (pv 2) pa_nil))))))
abbrev N_words_through : List Str := ["house", "start", "log", "found", "entry"]
theorem sc_words_through : FnScope N_words_through ["house", "start", "log"] (defScope (top 21)) := ⟨rfl, rfl, rfl, by decide +kernel, rfl, by decide +kernel, by decide +kernel⟩
def t_words_through (K : PySem.W.Frag) (aC : Addr) (sp_first_knowledge sp_led : Sp) : TS := (tSeq (tAsg (tLst (tCons (tCall sp_first_knowledge [] E0 (tCons (tVar 0) (tCons (tVar 1) tNil))) tNil)) (gName 3)) (tSeq (tFor (iSq K (tVar 2)) (gName 4) (fun D σ H => (fun W : WX => (tDrop (tBM K "list" (rAppend) (tVar 3) (tCons (tCallS sp_led (WE W) (tCons (tVar 0) (tCons (tOp (rIx K) (tVar 3) (tUn (rU fun i => .int (-i)) (tC (.int 1)))) (tCons (tVar 4) tNil)))) tNil)))) (wMany K (fun _ _ _ _ => False) D [(.ref aC, fun _ _ _ => (tRet (tVar 3)))]) D σ H)) (tRet (tVar 3))))
theorem ok_words_through {sp : Sp} {aC fI : Addr} {fdI : FuncData} {sp_first_knowledge sp_led : Sp} (D : Dfs K mg) (M : Mgs mg) (C : Cb P K mg aC fI fdI) (F_first_knowledge : Ok P w K mg base CX0 3 "first_knowledge" ["house", "start"] sp_first_knowledge) (F_led : Ok P w K mg base (L2N.CX P w) 4 "led" ["house", "knowledge", "entry"] sp_led) (len : ∀ vs H Q E, sp vs H Q E → vs.length = 3) (h : ∀ vs H Q E, sp vs H Q E → t_words_through K aC sp_first_knowledge sp_led (fin Q) (L2.start N_words_through vs) H) : Ok P w K mg base CX0 5 "words_through" ["house", "start", "log"] sp := by
  obtain ⟨f, fd, F, hm⟩ := D.words_through
  refine ⟨f, fd, F.bindsN fun _ _ _ _ _ _ us hl => match us, hl with | [_, _, _], _ => rfl, F.ok sc_words_through len (fun cdv A outer s H vs Q E hr p => ⟨t_words_through K aC sp_first_knowledge sp_led, PSs.nox ?_, h vs H Q E p⟩), hm, F.kp⟩
  have hu := hr.units
  exact (pss_cons (ps_set (i := 3) sc_words_through.nd rfl (Or.inl rfl) (pe_lst (pa_cons (pe_ok F_first_knowledge hr (by decide) rfl pass0 (pa_cons (pv 0) (pa_cons (pv 1) pa_nil))) pa_nil))) (pss_cons (ps_for PassesOwn.never rfl (PI.or (pi_list (pv 2)) (pi_tup (pv 2))) (pg_name (i := 4) sc_words_through.nd rfl (Or.inl rfl)) (pss_one (L2N.ps_try_many (tb := fun W => (tDrop (tBM K "list" (rAppend) (tVar 3) (tCons (tCallS sp_led (WE W) (tCons (tVar 0) (tCons (tOp (rIx K) (tVar 3) (tUn (rU fun i => .int (-i)) (tC (.int 1)))) (tCons (tVar 4) tNil)))) tNil)))) (l := [(.ref aC, fun _ _ _ => (tRet (tVar 3)))]) (Wout := fun _ _ _ _ => False) rfl rfl takesN0 (fun W pn xe tkW hpo => (pss_one (ps_expr (pe_bm PySem.F.plainAttrs_list PySem.F.slot_list_append PySem.F.type_list_append mt_append (pv 3) (pa_cons (pe_okS F_led hr (by decide) rfl (fun σ => L2N.passAt tkW σ) (pa_cons (pv 0) (pa_cons (pe_ix ix_seq (pv 3) (pe_un un_neg pe_int) (fun _ _ => rfl)) (pa_cons (pv 4) pa_nil)))) pa_nil))))) (.cons ⟨rfl, by decide, .inl C.gC⟩ (fun a oe cls d pn _ _ => (pss_one (ps_ret (pv 3)))) .nil)))) (pss_one (ps_ret (pv 3)))))
abbrev N_can_be : List Str := ["house", "start", "log"]
theorem sc_can_be : FnScope N_can_be ["house", "start", "log"] (defScope (top 22)) := ⟨rfl, rfl, rfl, by decide +kernel, rfl, by decide +kernel, by decide +kernel⟩
def t_can_be (K : PySem.W.Frag) (sp_words_through : Sp) : TS := (tRet (tOp (rEqD K) (tCB (Lg.rLen K) (tCons (tCall sp_words_through [] E0 (tCons (tVar 0) (tCons (tVar 1) (tCons (tVar 2) tNil)))) tNil)) (tOp (rPlus K) (tCB (Lg.rLen K) (tCons (tVar 2) tNil)) (tC (.int 1)))))
theorem ok_can_be {sp : Sp} {sp_words_through : Sp} (D : Dfs K mg) (M : Mgs mg) (F_words_through : Ok P w K mg base CX0 5 "words_through" ["house", "start", "log"] sp_words_through) (len : ∀ vs H Q E, sp vs H Q E → vs.length = 3) (h : ∀ vs H Q E, sp vs H Q E → t_can_be K sp_words_through (fin Q) (L2.start N_can_be vs) H) : Ok P w K mg base CX0 6 "can_be" ["house", "start", "log"] sp := by
  obtain ⟨f, fd, F, hm⟩ := D.can_be
  refine ⟨f, fd, F.bindsN fun _ _ _ _ _ _ us hl => match us, hl with | [_, _, _], _ => rfl, F.ok sc_can_be len (fun cdv A outer s H vs Q E hr p => ⟨t_can_be K sp_words_through, PSs.nox ?_, h vs H Q E p⟩), hm, F.kp⟩
  have hu := hr.units
  exact (pss_one (ps_ret (pe_cmpR (op_eqD hu) (pe_callB call_len_seq rfl M.len boot_len (pa_cons (pe_ok F_words_through hr (by decide) rfl pass0 (pa_cons (pv 0) (pa_cons (pv 1) (pa_cons (pv 2) pa_nil)))) pa_nil)) (pe_op op_plus (pe_callB call_len_seq rfl M.len boot_len (pa_cons (pv 2) pa_nil)) pe_int) (nomark _))))
end
end FK
end
section
set_option Elab.async false
set_option linter.all false
set_option maxRecDepth 100000
namespace FK
open PySem PySem.Spec PyProof.Rows L2 Lg Lr RZ
section
variable {P : Program} {w : World} {K : PySem.W.Frag} {mg : Str → Option Value} {base : Heap}
abbrev N_first_knowledge : List Str := ["house", "start", "many", "places", "words", "order", "size", "place"]
theorem sc_first_knowledge : FnScope N_first_knowledge ["house", "start"] (defScope (top 14)) := ⟨rfl, rfl, rfl, by decide +kernel, rfl, by decide +kernel, by decide +kernel⟩
def t_first_knowledge (K : PySem.W.Frag) (T : List (Addr × Str)) (sp_rooms_within sp_sizes_of : Sp) : TS := (tSeq (tAsg (tOp (rIx K) (tVar 0) (tC (.int 0))) (gName 2)) (tSeq (tAsg (tLstRg (tRg1 (tOp (rPlus K) (tVar 2) (tC (.int 1))))) (gName 3)) (tSeq (tIfS (tTest (tOp (fun x y H Q => y = .non ∧ Q (.bl (decide (x = .non))) H) (tVar 1) (tC .non))) (tSeq (tAsg (tLc (iSq K (tCall sp_rooms_within [] E0 (tCons (tVar 0) tNil))) (gName 6) tYes (tCB (rTupA K) (tCons (tLc (iSq K (tVar 3)) (gName 7) tYes (tCB (rMax2) (tCons (tC (.int 0)) (tCons (tOp (rPlus K) (tOp (rI0 fun i j => .int (i - j)) (tVar 6) (tVar 2)) (tVar 7)) tNil))) [7]) tNil)) [6]) (gName 4)) (tRet (tTupB (tCons (tTupRgF (tRg1 (tVar 2))) (tCons (tCB (rTupA K) (tCons (tVar 4) tNil)) tNil))))) tNext) (tSeq (tAsg (tSortLam K T 1 (tVar 2)) (gName 5)) (tSeq (tAsg (tLc (iSq K (tCall sp_sizes_of [] E0 (tCons (tVar 0) (tCons (tVar 1) tNil)))) (gName 6) tYes (tCB (rTupA K) (tCons (tLc (iSq K (tVar 3)) (gName 7) tYes (tCB (rMin2) (tCons (tVar 7) (tCons (tVar 6) tNil))) [7]) tNil)) [6]) (gName 4)) (tRet (tTupB (tCons (tCB (rTupA K) (tCons (tVar 5) tNil)) (tCons (tCB (rTupA K) (tCons (tVar 4) tNil)) tNil)))))))))
theorem ok_first_knowledge {sp : Sp} {T : List (Addr × Str)} {sp_rooms_within sp_sizes_of : Sp} (D : Dfs K mg) (M : Mgs mg) (LC : LamD K mg base T "first_knowledge" 14) (F_rooms_within : Ok P w K mg base CX0 1 "rooms_within" ["house"] sp_rooms_within) (F_sizes_of : Ok P w K mg base CX0 2 "sizes_of" ["house", "state"] sp_sizes_of) (len : ∀ vs H Q E, sp vs H Q E → vs.length = 2) (h : ∀ vs H Q E, sp vs H Q E → t_first_knowledge K T sp_rooms_within sp_sizes_of (fin Q) (L2.start N_first_knowledge vs) H) : Ok P w K mg base CX0 3 "first_knowledge" ["house", "start"] sp := by
  obtain ⟨f, c, PT, fd, F, hm, TB, hmT, huT⟩ := LC.ex
  refine ⟨f, fd, F.d.bindsN fun _ _ _ _ _ _ us hl => match us, hl with | [_, _], _ => rfl, F.ok sc_first_knowledge len (fun A outer s H vs Q E hr p => ⟨t_first_knowledge K T sp_rooms_within sp_sizes_of, PSs.nox ?_, h vs H Q E p⟩), hm, F.kp⟩
  have hu := hr.units
  exact (pss_cons (ps_set (i := 2) sc_first_knowledge.nd rfl (Or.inr rfl) (pe_ix ix_seq (pv 0) pe_int (fun _ _ => rfl))) (pss_cons (ps_set (i := 3) sc_first_knowledge.nd rfl (Or.inr rfl) (pe_listRg rfl rfl M.list (prg_1 rfl M.range (pe_op op_plus (pv 2) pe_int)))) (pss_cons (ps_if (pt_cmpR op_isN (pv 1) pe_non (nomark _)) (pss_cons (ps_setLc (i := 4) (own := [("size", 6)]) rfl sc_first_knowledge.nd rfl rfl (sw_true rfl rfl rfl rfl) (PI.or (pi_list (pe_ok F_rooms_within hr (by decide) rfl pass0 (pa_cons (pv 0) pa_nil))) (pi_tup (pe_ok F_rooms_within hr (by decide) rfl pass0 (pa_cons (pv 0) pa_nil)))) (blkOk_by rfl) (fun _ _ _ _ _ => (pg_name (i := 6) sc_first_knowledge.nd rfl (Or.inr rfl))) (fun _ _ _ _ _ => pts_nil) (fun _ _ _ _ _ => (pe_callTy call_tupA rfl M.tuple boot_tuple (pa_cons (pe_lc (own := [("place", 7)]) rfl sc_first_knowledge.nd (PI.or (pi_list (pv 3)) (pi_tup (pv 3))) (blkOk_by rfl) (fun _ _ _ _ _ => (pg_name (i := 7) sc_first_knowledge.nd rfl (Or.inl rfl))) (fun _ _ _ _ _ => pts_nil) (fun _ _ _ _ _ => (pe_callB (call_max2 rfl) rfl M.max boot_max (pa_cons pe_int (pa_cons (pe_op op_plus (pe_op op_sub (pv 6) (pv 2)) (pv 7)) pa_nil))))) pa_nil)))) (pss_one (ps_ret (pe_tupB (pa_cons (pe_tupRgF rfl rfl M.tuple (prg_1 rfl M.range (pv 2))) (pa_cons (pe_callTy call_tupA rfl M.tuple boot_tuple (pa_cons (pv 4) pa_nil)) pa_nil)))))) pss_nil) (pss_cons (ps_set (i := 5) sc_first_knowledge.nd rfl (Or.inl rfl) (pe_sortLam (i := 1) rfl M.sorted rfl M.range (pv 2) (hr.mono (by decide)) TB rfl hmT huT ⟨rfl, rfl, rfl, rfl, rfl, by decide⟩ rfl rfl (fun _ _ _ _ _ _ => rfl) (by decide) (by decide) (by decide))) (pss_cons (ps_setLc (i := 4) (own := [("size", 6)]) rfl sc_first_knowledge.nd rfl rfl (sw_true rfl rfl rfl rfl) (PI.or (pi_list (pe_ok F_sizes_of hr (by decide) rfl pass0 (pa_cons (pv 0) (pa_cons (pv 1) pa_nil)))) (pi_tup (pe_ok F_sizes_of hr (by decide) rfl pass0 (pa_cons (pv 0) (pa_cons (pv 1) pa_nil))))) (blkOk_by rfl) (fun _ _ _ _ _ => (pg_name (i := 6) sc_first_knowledge.nd rfl (Or.inr rfl))) (fun _ _ _ _ _ => pts_nil) (fun _ _ _ _ _ => (pe_callTy call_tupA rfl M.tuple boot_tuple (pa_cons (pe_lc (own := [("place", 7)]) rfl sc_first_knowledge.nd (PI.or (pi_list (pv 3)) (pi_tup (pv 3))) (blkOk_by rfl) (fun _ _ _ _ _ => (pg_name (i := 7) sc_first_knowledge.nd rfl (Or.inl rfl))) (fun _ _ _ _ _ => pts_nil) (fun _ _ _ _ _ => (pe_callB (call_min2 rfl) rfl M.min boot_min (pa_cons (pv 7) (pa_cons (pv 6) pa_nil))))) pa_nil)))) (pss_one (ps_ret (pe_tupB (pa_cons (pe_callTy call_tupA rfl M.tuple boot_tuple (pa_cons (pv 5) pa_nil)) (pa_cons (pe_callTy call_tupA rfl M.tuple boot_tuple (pa_cons (pv 4) pa_nil)) pa_nil))))))))))
abbrev N_law_alike : List Str := ["_law_found", "_law_due"]
theorem sc_law_alike : FnScope N_law_alike ["_law_found", "_law_due"] (defScope (top 55)) := ⟨rfl, rfl, rfl, by decide +kernel, rfl, by decide +kernel, by decide +kernel⟩
def t_law_alike (K : PySem.W.Frag) : TS := (tRet (tAndV (tOp (rEqD K) (tVar 0) (tVar 1)) (tOp (rEqD K) (tCB (rReprD K) (tCons (tVar 0) tNil)) (tCB (rReprD K) (tCons (tVar 1) tNil)))))
theorem ok_law_alike {sp : Sp} (D : Dfs K mg) (M : Mgs mg) (len : ∀ vs H Q E, sp vs H Q E → vs.length = 2) (h : ∀ vs H Q E, sp vs H Q E → t_law_alike K (fin Q) (L2.start N_law_alike vs) H) : OkG P w K mg base CX0 1 "_law_alike" ["_law_found", "_law_due"] sp := by
  obtain ⟨f, fd, F, hm⟩ := D.law_alike
  refine ⟨f, fd, F.bindsN fun _ _ _ _ _ _ us hl => match us, hl with | [_, _], _ => rfl, okG F sc_law_alike len (fun cdv A outer s H vs Q E hg hr p => ⟨t_law_alike K, PSs.nox ?_, h vs H Q E p⟩), hm, F.kp⟩
  have hu := hr.units
  exact (pss_one (ps_ret (pe_and (pe_cmpR (op_eqD hu) (pv 0) (pv 1) (nomark _)) (pe_one (pe_cmpR (op_eqD hu) (pe_callB (cr_reprD hg hu) rfl M.repr boot_repr (pa_cons (pv 0) pa_nil)) (pe_callB (cr_reprD hg hu) rfl M.repr boot_repr (pa_cons (pv 1) pa_nil)) (nomark _))))))
abbrev N_law_is_log_right : List Str := ["_law_house_here", "_law_start_here", "_law_log", "_law_states", "_law_index", "_law_heard_here", "_law_again", "_law_told"]
theorem sc_law_is_log_right : FnScope N_law_is_log_right ["_law_house_here", "_law_start_here", "_law_log"] (defScope (top 57)) := ⟨rfl, rfl, rfl, by decide +kernel, rfl, by decide +kernel, by decide +kernel⟩
def t_law_is_log_right (K : PySem.W.Frag) (T : List (Addr × Str)) (aC : Addr) (sp_law_states_of_log sp_knowledge_behind sp_can_be sp_law_alike sp_law_words_by sp_states_of : Sp) : TS := (tSeq (tAsg (tCall sp_law_states_of_log [] E0 (tCons (tVar 0) (tCons (tVar 1) (tCons (tVar 2) tNil)))) (gTup K 2 (gCons (gName 3) (gCons (gName 4) gNil)))) (tSeq (tAsg (LamX.tLamA T (THeard K aC) (fun E => tCall sp_knowledge_behind [] E (tCons (tVar 0) (tCons (tVar 1) (tCons (tVar 2) tNil))))) (gName 5)) (tSeq (tIfS (tNot (tB (tCall sp_law_alike [] E0 (tCons (tCall sp_can_be [] E0 (tCons (tVar 0) (tCons (tVar 1) (tCons (tVar 2) tNil)))) (tCons (tOp (fun x y H Q => y = .non ∧ Q (.bl (decide (x = .non))) H) (tVar 4) (tC .non)) tNil))))) (tRet (tC (.bl false))) tNext) (tSeq (tIfS (tTest (tOp (fun x y H Q => y = .non ∧ Q (.bl (!decide (x = .non))) H) (tVar 4) (tC .non))) (tRet (tCall sp_law_alike [] E0 (tCons (tVar 5) (tCons (tTupB (tCons (tC (.str "cannot")) (tCons (tVar 4) tNil))) tNil)))) tNext) (tSeq (tIfS (tOr (tTest (tOp (rNeD K) (tOp (rIx K) (tVar 5) (tC (.int 0))) (tC (.str "told")))) (tNot (tB (tCall sp_law_alike [] E0 (tCons (tOp (rIx K) (tOp (rIx K) (tVar 5) (tC (.int 1))) (tC (.int 1))) (tCons (tCall sp_law_words_by [] E0 (tCons (tVar 0) (tCons (tOp (rIx K) (tOp (rIx K) (tVar 5) (tC (.int 1))) (tC (.int 0))) (tCons (tVar 3) tNil)))) tNil)))))) (tRet (tC (.bl false))) tNext) (tSeq (tFor (iRng1 (tCons (tC (.int 2)) tNil)) (gName 6) (tSeq (tAsg (tCall sp_states_of [] E0 (tCons (tVar 0) (tCons (tOp (rIx K) (tVar 5) (tC (.int 1))) tNil))) (gName 7)) (tSeq (tIfS (tNot (tB (tCall sp_law_alike [] E0 (tCons (tVar 7) (tCons (tCB (rSortD K) (tCons (tVar 3) tNil)) tNil))))) (tRet (tC (.bl false))) tNext) (tDrop (tBM K "list" (rAppend) (tVar 7) (tCons (tC .non) tNil)))))) (tRet (tC (.bl true)))))))))
theorem ok_law_is_log_right {sp : Sp} {T : List (Addr × Str)} {aC fI : Addr} {fdI : FuncData} {sp_law_states_of_log sp_knowledge_behind sp_can_be sp_law_alike sp_law_words_by sp_states_of : Sp} (D : Dfs K mg) (M : Mgs mg) (LC : LamD K mg base T "_law_is_log_right" 57) (C : Cb P K mg aC fI fdI) (F_law_states_of_log : Ok P w K mg base CX0 4 "_law_states_of_log" ["_law_house_here", "_law_start_here", "_law_log"] sp_law_states_of_log) (F_knowledge_behind : Ok P w K mg base (L2.CX P w) 6 "knowledge_behind" ["house", "start", "log"] sp_knowledge_behind) (F_can_be : Ok P w K mg base CX0 6 "can_be" ["house", "start", "log"] sp_can_be) (F_law_alike : OkG P w K mg base CX0 1 "_law_alike" ["_law_found", "_law_due"] sp_law_alike) (F_law_words_by : Ok P w K mg base CX0 1 "_law_words_by" ["_law_house_here", "_law_order", "_law_states"] sp_law_words_by) (F_states_of : Ok P w K mg base CX0 4 "states_of" ["house", "knowledge"] sp_states_of) (len : ∀ vs H Q E, sp vs H Q E → vs.length = 3) (h : ∀ vs H Q E, sp vs H Q E → t_law_is_log_right K T aC sp_law_states_of_log sp_knowledge_behind sp_can_be sp_law_alike sp_law_words_by sp_states_of (fin Q) (L2.start N_law_is_log_right vs) H) : OkG P w K mg base CX0 9 "_law_is_log_right" ["_law_house_here", "_law_start_here", "_law_log"] sp := by
  obtain ⟨f, c, PT, fd, F, hm, TB, hmT, huT⟩ := LC.ex
  refine ⟨f, fd, F.d.bindsN fun _ _ _ _ _ _ us hl => match us, hl with | [_, _, _], _ => rfl, F.okG sc_law_is_log_right len (fun A outer s H vs Q E hg hr p => ⟨t_law_is_log_right K T aC sp_law_states_of_log sp_knowledge_behind sp_can_be sp_law_alike sp_law_words_by sp_states_of, PSs.nox ?_, h vs H Q E p⟩), hm, F.kp⟩
  have hu := hr.units
  exact (pss_cons (ps_asg (pe_ok F_law_states_of_log hr (by decide) rfl pass0 (pa_cons (pv 0) (pa_cons (pv 1) (pa_cons (pv 2) pa_nil)))) (pg_tup rfl (pgs_cons (pg_name (i := 3) sc_law_is_log_right.nd rfl (Or.inl rfl)) (pgs_cons (pg_name (i := 4) sc_law_is_log_right.nd rfl (Or.inl rfl)) pgs_nil)))) (pss_cons (ps_set (i := 5) sc_law_is_log_right.nd rfl (Or.inl rfl) (pe_heard (k := 6) D C rfl TB rfl hmT huT (hr.mono (by decide)) (LamX.lamS_by rfl) rfl (fun _ _ _ _ _ => rfl) (fun A outer s H E f c' hr2 => pe_ok F_knowledge_behind hr2 (Nat.le_refl _) rfl (fun _ _ _ _ _ _ I c => L2.passes_call (L2.takes_of (E := E) rfl rfl rfl rfl) (fun _ _ _ _ h => h) _ _ _ _ _ _ I c) (pa_cons (pv 0) (pa_cons (pv 1) (pa_cons (pv 2) pa_nil)))))) (pss_cons (ps_if (pt_not (pt_val (pe_okG F_law_alike hg hr (by decide) rfl pass0 (pa_cons (pe_ok F_can_be hr (by decide) rfl pass0 (pa_cons (pv 0) (pa_cons (pv 1) (pa_cons (pv 2) pa_nil)))) (pa_cons (pe_cmpR op_isN (pv 4) pe_non (nomark _)) pa_nil))))) (pss_one (ps_ret pe_bl)) pss_nil) (pss_cons (ps_if (pt_cmpR op_notN (pv 4) pe_non (nomark _)) (pss_one (ps_ret (pe_okG F_law_alike hg hr (by decide) rfl pass0 (pa_cons (pv 5) (pa_cons (pe_tupB (pa_cons pe_str (pa_cons (pv 4) pa_nil))) pa_nil))))) pss_nil) (pss_cons (ps_if (PW.pt (pw_or (pt_cmpR (op_neD hu) (pe_ix ix_seq (pv 5) pe_int (fun _ _ => rfl)) pe_str (nomark _)) (pw_or1 (pt_not (pt_val (pe_okG F_law_alike hg hr (by decide) rfl pass0 (pa_cons (pe_ix ix_seq (pe_ix ix_seq (pv 5) pe_int (fun _ _ => rfl)) pe_int (fun _ _ => rfl)) (pa_cons (pe_ok F_law_words_by hr (by decide) rfl pass0 (pa_cons (pv 0) (pa_cons (pe_ix ix_seq (pe_ix ix_seq (pv 5) pe_int (fun _ _ => rfl)) pe_int (fun _ _ => rfl)) (pa_cons (pv 3) pa_nil)))) pa_nil)))))))) (pss_one (ps_ret pe_bl)) pss_nil) (pss_cons (ps_for PassesOwn.never rfl (pi_range1 rfl M.range (pa_cons pe_int pa_nil)) (pg_name (i := 6) sc_law_is_log_right.nd rfl (Or.inl rfl)) (pss_cons (ps_set (i := 7) sc_law_is_log_right.nd rfl (Or.inl rfl) (pe_ok F_states_of hr (by decide) rfl pass0 (pa_cons (pv 0) (pa_cons (pe_ix ix_seq (pv 5) pe_int (fun _ _ => rfl)) pa_nil)))) (pss_cons (ps_if (pt_not (pt_val (pe_okG F_law_alike hg hr (by decide) rfl pass0 (pa_cons (pv 7) (pa_cons (pe_callB (cr_sortD hu) rfl M.sorted boot_sorted (pa_cons (pv 3) pa_nil)) pa_nil))))) (pss_one (ps_ret pe_bl)) pss_nil) (pss_one (ps_expr (pe_bm PySem.F.plainAttrs_list PySem.F.slot_list_append PySem.F.type_list_append mt_append (pv 7) (pa_cons pe_non pa_nil))))))) (pss_one (ps_ret pe_bl))))))))
abbrev N_law : List Str := ["_law_script", "_law_bag_here", "_law_turn", "_law_house_here", "_law_start_here", "_law_log", "_law_some"]
theorem sc_law : FnScope N_law ["_law_script"] (defScope (top 58)) := ⟨rfl, rfl, rfl, by decide +kernel, rfl, by decide +kernel, by decide +kernel⟩
def t_law (K : PySem.W.Frag) (sp_law_bag sp_law_one sp_law_house sp_law_start sp_law_story sp_law_other_log sp_law_is_log_right : Sp) : TS := (tSeq (tAsg (tCall sp_law_bag [] E0 (tCons (tVar 0) tNil)) (gName 1)) (tSeq (tFor (iRng1 (tCons (tC (.int 4)) tNil)) (gName 2) (tSeq (tAsg (tCall sp_law_house [] E0 (tCons (tVar 1) (tCons (tCall sp_law_one [] E0 (tCons (tVar 1) (tCons (tLst (tCons (tC (.int 5)) (tCons (tC (.int 4)) (tCons (tC (.int 3)) tNil)))) tNil))) (tCons (tC (.int 3)) (tCons (tC (.int 6)) tNil))))) (gName 3)) (tSeq (tAsg (tCall sp_law_start [] E0 (tCons (tVar 1) (tCons (tVar 3) tNil))) (gName 4)) (tSeq (tAsg (tOp (rIx K) (tCall sp_law_story [] E0 (tCons (tVar 1) (tCons (tVar 3) (tCons (tVar 4) (tCons (tCall sp_law_one [] E0 (tCons (tVar 1) (tCons (tLst (tCons (tC (.int 6)) (tCons (tC (.int 4)) (tCons (tC (.int 2)) (tCons (tC (.int 3)) tNil))))) tNil))) (tCons (tCall sp_law_one [] E0 (tCons (tVar 1) (tCons (tLst (tCons (tC (.int 0)) (tCons (tC (.int 5)) (tCons (tC (.int 3)) tNil)))) tNil))) tNil)))))) (tC (.int 1))) (gName 5)) (tFor (iSq K (tTupB (tCons (tVar 5) (tCons (tCall sp_law_other_log [] E0 (tCons (tVar 1) (tCons (tVar 3) (tCons (tVar 5) tNil)))) tNil)))) (gName 6) (tIfS (tNot (tB (tCall sp_law_is_log_right [] E0 (tCons (tVar 3) (tCons (tVar 4) (tCons (tVar 6) tNil)))))) (tRet (tC (.bl false))) tNext)))))) (tRet (tC (.bl true)))))
theorem ok_law {sp : Sp} {sp_law_bag sp_law_one sp_law_house sp_law_start sp_law_story sp_law_other_log sp_law_is_log_right : Sp} (D : Dfs K mg) (M : Mgs mg) (F_law_bag : Ok P w K mg base CX0 1 "_law_bag" ["_law_script"] sp_law_bag) (F_law_one : Ok P w K mg base CX0 2 "_law_one" ["_law_bag_here", "_law_things"] sp_law_one) (F_law_house : Ok P w K mg base CX0 3 "_law_house" ["_law_bag_here", "_law_things", "_law_floors", "_law_rooms"] sp_law_house) (F_law_start : Ok P w K mg base CX0 4 "_law_start" ["_law_bag_here", "_law_house_here"] sp_law_start) (F_law_story : Ok P w K mg base CX0 5 "_law_story" ["_law_bag_here", "_law_house_here", "_law_start_here", "_law_many", "_law_strikes"] sp_law_story) (F_law_other_log : Ok P w K mg base CX0 4 "_law_other_log" ["_law_bag_here", "_law_house_here", "_law_log"] sp_law_other_log) (F_law_is_log_right : OkG P w K mg base CX0 9 "_law_is_log_right" ["_law_house_here", "_law_start_here", "_law_log"] sp_law_is_log_right) (len : ∀ vs H Q E, sp vs H Q E → vs.length = 1) (h : ∀ vs H Q E, sp vs H Q E → t_law K sp_law_bag sp_law_one sp_law_house sp_law_start sp_law_story sp_law_other_log sp_law_is_log_right (fin Q) (L2.start N_law vs) H) : OkG P w K mg base CX0 10 "law" ["_law_script"] sp := by
  obtain ⟨f, fd, F, hm⟩ := D.law
  refine ⟨f, fd, F.bindsN fun _ _ _ _ _ _ us hl => match us, hl with | [_], _ => rfl, okG F sc_law len (fun cdv A outer s H vs Q E hg hr p => ⟨t_law K sp_law_bag sp_law_one sp_law_house sp_law_start sp_law_story sp_law_other_log sp_law_is_log_right, PSs.nox ?_, h vs H Q E p⟩), hm, F.kp⟩
  have hu := hr.units
  exact (pss_cons (ps_set (i := 1) sc_law.nd rfl (Or.inl rfl) (pe_ok F_law_bag hr (by decide) rfl pass0 (pa_cons (pv 0) pa_nil))) (pss_cons (ps_for PassesOwn.never rfl (pi_range1 rfl M.range (pa_cons pe_int pa_nil)) (pg_name (i := 2) sc_law.nd rfl (Or.inl rfl)) (pss_cons (ps_set (i := 3) sc_law.nd rfl (Or.inl rfl) (pe_ok F_law_house hr (by decide) rfl pass0 (pa_cons (pv 1) (pa_cons (pe_ok F_law_one hr (by decide) rfl pass0 (pa_cons (pv 1) (pa_cons (pe_lst (pa_cons pe_int (pa_cons pe_int (pa_cons pe_int pa_nil)))) pa_nil))) (pa_cons pe_int (pa_cons pe_int pa_nil)))))) (pss_cons (ps_set (i := 4) sc_law.nd rfl (Or.inl rfl) (pe_ok F_law_start hr (by decide) rfl pass0 (pa_cons (pv 1) (pa_cons (pv 3) pa_nil)))) (pss_cons (ps_set (i := 5) sc_law.nd rfl (Or.inl rfl) (pe_ix ix_seq (pe_ok F_law_story hr (by decide) rfl pass0 (pa_cons (pv 1) (pa_cons (pv 3) (pa_cons (pv 4) (pa_cons (pe_ok F_law_one hr (by decide) rfl pass0 (pa_cons (pv 1) (pa_cons (pe_lst (pa_cons pe_int (pa_cons pe_int (pa_cons pe_int (pa_cons pe_int pa_nil))))) pa_nil))) (pa_cons (pe_ok F_law_one hr (by decide) rfl pass0 (pa_cons (pv 1) (pa_cons (pe_lst (pa_cons pe_int (pa_cons pe_int (pa_cons pe_int pa_nil)))) pa_nil))) pa_nil)))))) pe_int (fun _ _ => rfl))) (pss_one (ps_for PassesOwn.never rfl (PI.or (pi_list (pe_tupB (pa_cons (pv 5) (pa_cons (pe_ok F_law_other_log hr (by decide) rfl pass0 (pa_cons (pv 1) (pa_cons (pv 3) (pa_cons (pv 5) pa_nil)))) pa_nil)))) (pi_tup (pe_tupB (pa_cons (pv 5) (pa_cons (pe_ok F_law_other_log hr (by decide) rfl pass0 (pa_cons (pv 1) (pa_cons (pv 3) (pa_cons (pv 5) pa_nil)))) pa_nil))))) (pg_name (i := 6) sc_law.nd rfl (Or.inl rfl)) (pss_one (ps_if (pt_not (pt_val (pe_okG F_law_is_log_right hg hr (by decide) rfl pass0 (pa_cons (pv 3) (pa_cons (pv 4) (pa_cons (pv 6) pa_nil)))))) (pss_one (ps_ret pe_bl)) pss_nil)))))))) (pss_one (ps_ret pe_bl))))
end
end FK
end
section
set_option Elab.async false
set_option linter.all false
set_option maxRecDepth 100000
/-! Exceptions over data: promises that may end in CannotBe(n). -/
namespace FK
open PySem PySem.Spec PyProof.Rows L2 Lg Lr RZ FM
variable [tbs : Tbs]
abbrev xd1 (n : Int) : HO := .xd [("index", .int n)]
/-- a def of data that may end in CannotBe(n) -/
def spE {α : Type} (aC : Addr) (A : α → List D) (Pre : α → Prop) (Post : α → D → Prop) (PX : α → Int → Prop) : Sp := fun vs H Q E => ∃ x Z, (∀ a, Z a → H a ≠ none) ∧ LamX.Tabs tbs.T H ∧ DqAll H no Z vs (A x) ∧ Pre x ∧
  (∀ v H' d, Post x d → Ext H H' → Dq H' no Z v d → Q v H') ∧ ∀ n dd H', PX x n → Ext H H' → H' dd = some (xd1 n) → E (.ref aC) (some dd) H'
theorem len_E {α : Type} {aC : Addr} {A : α → List D} {Pre : α → Prop} {Post : α → D → Prop} {PX : α → Int → Prop} {vs : List V} {H : Hp} {Q : VK} {E : XK} {n : Nat} (h : ∀ x, (A x).length = n) (p : spE aC A Pre Post PX vs H Q E) : vs.length = n := by
  obtain ⟨x, Z, _, _, hd, _⟩ := p
  rw [hd.length, h]
/-- statements that may end in CannotBe(n) -/
def HTX (aC : Addr) (ss : List Sl) (f : XK → TS) (N : List Sl → Prop) (R : D → Prop) (B C : List Sl → Prop) (X : Int → Prop) : Prop := ∀ (Z : Av) (Bg : Option Addr) (σ : L2.St) (H : Hp) (O : Av) (E : XK) (D : Ends), Sg Z Bg H O σ ss →
  (∀ ss' σ' H' O', N ss' → Sg Z Bg H' O' σ' ss' → Stp O O' H H' → D.nx σ' H') →
  (∀ d v H' O', R d → Wd Z Bg H' O' → Stp O O' H H' → Dq H' O' Z v d → D.rt v H') →
  (∀ ss' σ' H' O', B ss' → Sg Z Bg H' O' σ' ss' → Stp O O' H H' → D.bk σ' H') →
  (∀ ss' σ' H' O', C ss' → Sg Z Bg H' O' σ' ss' → Stp O O' H H' → D.ct σ' H') →
  (∀ n dd H' O', X n → Wd Z Bg H' O' → Stp O O' H H' → H' dd = some (xd1 n) → E (.ref aC) (some dd) H') → f E D σ H
/-- an expression that may -/
def EvX (aC : Addr) (ss : List Sl) (f : XK → TE) (P : D → Prop) (X : Int → Prop) : Prop := ∀ (Z : Av) (Bg : Option Addr) (σ : L2.St) (H : Hp) (O : Av) (E : XK) (Q : VK), Sg Z Bg H O σ ss →
  (∀ v H' d, P d → Sg Z Bg H' O σ ss → Stp O O H H' → Dq H' O Z v d → Q v H') →
  (∀ n dd H', X n → Sg Z Bg H' O σ ss → Stp O O H H' → H' dd = some (xd1 n) → E (.ref aC) (some dd) H') → f E σ H Q
section
variable {aC : Addr} {ss : List Sl} {f g : XK → TS} {t : TS} {tt : TT} {te : TE} {ta : TA} {N N1 : List Sl → Prop} {R : D → Prop} {B C : List Sl → Prop} {X : Int → Prop} {Bb : Bool → Prop} {K : PySem.W.Frag} {i : Nat} {a : D} {ds : List D} {P : D → Prop}
variable {α : Type} {A : α → List D} {Pre : α → Prop} {Post : α → D → Prop} {PX : α → Int → Prop}
theorem HTX.of (h : HT ss t N R B C) : HTX aC ss (fun _ => t) N R B C X := fun Z Bg σ H O E D gg nn r b c x => h Z Bg σ H O D gg nn r b c
theorem htx_seq (h : HTX aC ss f N1 R B C X) (k : ∀ ss1, N1 ss1 → HTX aC ss1 g N R B C X) : HTX aC ss (fun E => tSeq (f E) (g E)) N R B C X := fun Z Bg σ H O E D gg n r b c x =>
  h Z Bg σ H O E { D with nx := g E D } gg (fun ss1 σ1 H1 O1 p g1 s1 => k ss1 p Z Bg σ1 H1 O1 E D g1
    (fun ss' σ' H' O' p' g' s' => n ss' σ' H' O' p' g' (s1.trans s')) (fun d v H' O' p' w' s' => r d v H' O' p' w' (s1.trans s'))
    (fun ss' σ' H' O' p' g' s' => b ss' σ' H' O' p' g' (s1.trans s')) (fun ss' σ' H' O' p' g' s' => c ss' σ' H' O' p' g' (s1.trans s')) (fun n dd H' O' p' w' s' => x n dd H' O' p' w' (s1.trans s'))) r b c x
theorem htx_if (h : EvB ss tt Bb) (h1 : Bb true → HTX aC ss f N R B C X) (h2 : Bb false → HTX aC ss g N R B C X) : HTX aC ss (fun E => tIfS tt (f E) (g E)) N R B C X := fun Z Bg σ H O E D gg n r b c x => h Z Bg σ H O _ gg fun y H1 p g1 s1 => by
  cases y with
  | true => exact iteT (h1 p Z Bg σ H1 O E D g1 (fun ss' σ' H' O' p' g' s' => n ss' σ' H' O' p' g' (s1.trans s')) (fun d v H' O' p' w' s' => r d v H' O' p' w' (s1.trans s')) (fun ss' σ' H' O' p' g' s' => b ss' σ' H' O' p' g' (s1.trans s')) (fun ss' σ' H' O' p' g' s' => c ss' σ' H' O' p' g' (s1.trans s')) (fun n dd H' O' p' w' s' => x n dd H' O' p' w' (s1.trans s')))
  | false => exact iteF (h2 p Z Bg σ H1 O E D g1 (fun ss' σ' H' O' p' g' s' => n ss' σ' H' O' p' g' (s1.trans s')) (fun d v H' O' p' w' s' => r d v H' O' p' w' (s1.trans s')) (fun ss' σ' H' O' p' g' s' => b ss' σ' H' O' p' g' (s1.trans s')) (fun ss' σ' H' O' p' g' s' => c ss' σ' H' O' p' g' (s1.trans s')) (fun n dd H' O' p' w' s' => x n dd H' O' p' w' (s1.trans s')))
/-- raise CannotBe(n), at any store -/
theorem raise_at {Z : Av} {Bg : Option Addr} {σ : L2.St} {H : Hp} {O : Av} {n : Int} {E : XK} {D : Ends} (h : EvD ss te (.int n)) (gg : Sg Z Bg H O σ ss) (x : ∀ dd H' O', Wd Z Bg H' O' → Stp O O' H H' → H' dd = some (xd1 n) → E (.ref aC) (some dd) H') : tRaiseC K aC E (tCons te tNil) D σ H := by
  refine h Z Bg σ H O _ gg fun v H1 d pd g1 s1 hd => ?_
  subst pd
  cases hd
  refine ⟨by show 1 ≤ 1000; decide, fun a ha => ⟨a, .int n, rfl, upd_same, fun dx h1 h2 => ⟨rfl, dx, [("index", .int n)], upd_same, ?_, ?_, ?_⟩⟩⟩
  · rw [upd_ne h2, upd_same]
  · rw [upd_ne h2] at h1; exact h1
  · rw [upd_ne h2] at h1
    have e : Ext H1 (upd (del (upd (upd (upd H1 a (exo a aC none)) dx (exd dx [("index", .int n)])) a (exo a aC (some dx))) a) dx (.xd [("index", .int n)])) := Ext.of fun b o hb => by
      have n1 : b ≠ a := fun z => by rw [z, ha] at hb; cases hb
      have n2 : b ≠ dx := fun z => by rw [z, h1] at hb; cases hb
      rw [upd_ne n2, del_ne n1, upd_ne n1, upd_ne n2, upd_ne n1]; exact hb
    exact x dx _ O (g1.ext e).wd (s1.trans (Ext.stp e)) upd_same
theorem htx_raise {n : Int} (h : EvD ss te (.int n)) (hx : X n) : HTX aC ss (fun E => tRaiseC K aC E (tCons te tNil)) N R B C X := fun Z Bg σ H O E D gg nn r b c x => raise_at h gg fun dd H' O' w s e => x n dd H' O' hx w s e
/-- a call of such a def -/
theorem call_E {Z : Av} {Bg : Option Addr} {σ : L2.St} {H : Hp} {O : Av} {E : XK} {Q : VK} (x : α) (h : EvA ss ta (fun y => y = A x)) (hp : Pre x) (gg : Sg Z Bg H O σ ss) (q : ∀ v H' d, Post x d → Sg Z Bg H' O σ ss → Stp O O H H' → Dq H' O Z v d → Q v H') (e : ∀ n dd H', PX x n → Sg Z Bg H' O σ ss → Stp O O H H' → H' dd = some (xd1 n) → E (.ref aC) (some dd) H') : ta σ H fun vs H1 => spE aC A Pre Post PX vs H1 Q E :=
  h Z Bg σ H O _ gg fun vs ds H1 pd g1 s1 hd => by
    subst pd
    exact ⟨x, fun a => O a ∨ Z a, fun a w => g1.wd.al a w, g1.wd.tb, hd.less uz, hp, fun v H' d pd e hd' => q v H' d pd (g1.ext e) (s1.trans (Ext.stp e)) (hd'.less zu), fun n dd H' px ex hx => e n dd H' px (g1.ext ex) (s1.trans (Ext.stp ex)) hx⟩
theorem evx_call (x : α) (h : EvA ss ta (fun y => y = A x)) (hp : Pre x) : EvX aC ss (fun E => tCall (spE aC A Pre Post PX) [] E ta) (Post x) (PX x) := fun Z Bg σ H O E Q gg q e => by
  have := call_E (E := E) (Q := Q) (PX := PX) x h hp gg q e
  unfold tCall
  simp only [List.append_nil]
  exact this
theorem htx_ret {fe : XK → TE} (h : EvX aC ss fe P X) (hr : ∀ d, P d → R d) : HTX aC ss (fun E => tRet (fe E)) N R B C X := fun Z Bg σ H O E D gg nn r b c x => h Z Bg σ H O E D.rt gg (fun v H' d p g' s' hd => r d v H' O (hr d p) g'.wd s' hd) fun n dd H' p g' s' hx => x n dd H' O p g'.wd s' hx
/-- a loop -/
theorem htx_for {wi : TI} {tg : TG} {n : Nat} {el : Nat → D} (hs : Src ss wi n el) (I : Nat → List Sl → Prop) (h0 : I 0 ss) (step : ∀ i ss1, i < n → I i ss1 → ∃ ss2 js, Tgt tg ss1 (el i) ss2 js ∧ HTX aC ss2 f (I (i + 1)) R N (I (i + 1)) X) (hd : ∀ ss1, I n ss1 → N ss1) :
    HTX aC ss (fun E => tFor wi tg (f E)) N R B C X := fun Z Bg σ H O E D gg nn r b c x =>
  hs Z Bg σ H O _ gg fun J H' g' s' walk => by
    refine ⟨fun i m σ1 H1 => m = n - i ∧ i ≤ n ∧ ∃ O1 ss1, I i ss1 ∧ Sg Z Bg H1 O1 σ1 ss1 ∧ Stp O O1 H' H1, ⟨n, by simp, Nat.zero_le _, O, ss, h0, g', Stp.refl⟩, ?_⟩
    rintro i m σ1 H1 ⟨rfl, hi, O1, ss1, hI, g1, s1⟩
    obtain ⟨w1, w2, w3⟩ := walk O1 H1 Z s1 (fun a h => .inl h) g1.nn
    by_cases hlt : i < n
    · refine .inr ⟨w1 i hlt, fun σ2 H2 => ∃ O2 ss2, I (i + 1) ss2 ∧ Sg Z Bg H2 O2 σ2 ss2 ∧ Stp O O2 H' H2, fun σ' H'' q => ⟨n - (i + 1), by omega, rfl, hlt, q⟩, fun y H2 hy => ?_⟩
      obtain ⟨e2, hd2⟩ := w3 i y H2 hlt hy
      obtain ⟨ss2, js, ht, hb⟩ := step i ss1 hlt hI
      refine ht Z Bg σ1 H2 O1 y _ (g1.ext e2) hd2 fun σ3 H3 g3 s3 _ _ => ?_
      have st : Stp O O1 H' H3 := (s1.trans (Ext.stp e2)).trans s3
      exact hb Z Bg σ3 H3 O1 E _ g3 (fun ss' σ' H4 O4 p4 g4 s4 => ⟨O4, ss', p4, g4, st.trans s4⟩) (fun d v H4 O4 p4 w4 s4 hd4 => r d v H4 O4 p4 w4 (s'.trans (st.trans s4)) hd4)
        (fun ss' σ' H4 O4 p4 g4 s4 => nn ss' σ' H4 O4 p4 g4 (s'.trans (st.trans s4))) (fun ss' σ' H4 O4 p4 g4 s4 => ⟨O4, ss', p4, g4, st.trans s4⟩) (fun n dd H4 O4 p4 w4 s4 hx => x n dd H4 O4 p4 w4 (s'.trans (st.trans s4)) hx)
    · have e : i = n := by omega
      subst e
      exact .inl ⟨w2, nn ss1 σ1 H1 O1 (hd ss1 hI) g1 (s'.trans s1)⟩
/-- try: x = f(..) except CannotBe: raise CannotBe(m) -/
theorem htx_try {m : Int} (hm : PySem.W.exmOne K (.ref aC) (.ref aC) = some true) (x : α) (h : EvA ss ta (fun y => y = A x)) (hp : Pre x) (hn : ∀ d, Post x d → N (ss.set i (.im d))) (hr : EvD ss te (.int m)) (hx : (∃ n, PX x n) → X m) :
    HTX aC ss (fun E => fun D σ H => (fun W : WX => tAsg (tCallS (spE aC A Pre Post PX) (WE W) ta) (gName i)) (wOnly K (.ref aC) (fun _ _ _ => tRaiseC K aC E (tCons te tNil)) (fun cls d _ H => E cls d H) D) D σ H) N R B C X := fun Z Bg σ H O E D gg nn r b c xx => by
  refine call_E x h hp gg (fun v H' d pd g' s' hd => nn _ _ H' O (hn d pd) (g'.setIm i hd) s') fun n dd H' px g' s' hdd => ?_
  refine ⟨true, hm, fun _ a _ => raise_at hr g' fun dd2 H2 O2 w2 s2 hx2 => xx m dd2 H2 O2 (hx ⟨n, px⟩) w2 (s'.trans s2) hx2, fun z => by cases z⟩
/-- try: l.append(f(..)) except CannotBe: return l -/
theorem ht_tryApp (hm : PySem.W.exmOne K (.ref aC) (.ref aC) = some true) (x : α) (hi : ss[i]? = some (.own ds)) (hz : ds.length < 100000) (h : EvA ss ta (fun y => y = A x)) (hp : Pre x) (hn : ∀ d, Post x d → N (ss.set i (.own (ds ++ [d])))) (hr : (∃ n, PX x n) → R (.lst ds)) :
    HT ss (fun D σ H => (fun W : WX => tDrop (tBM K "list" rAppend (tVar i) (tCons (tCallS (spE aC A Pre Post PX) (WE W) ta) tNil))) (wMany K (fun _ _ _ _ => False) D [(.ref aC, fun _ _ _ => tRet (tVar i))]) D σ H) N R B C := fun Z Bg σ H O D gg nn r b c => by
  obtain ⟨l0, xs0, e0, _, _, h01, _⟩ := gg.own hi
  refine ⟨_, e0, .inl ⟨rfl, xs0, SqL.of h01⟩, call_E x h hp gg (fun v H' d pd g' s' hd => ?_) fun n dd H' px g' s' hdd => ?_⟩
  · obtain ⟨l, xs, e, _, _, h1, h2⟩ := g'.own hi
    rw [e0] at e; cases e
    obtain ⟨g3, s3⟩ := g'.write hi e0 (h2.append (.one hd))
    exact ⟨l0, xs, v, rfl, rfl, h1, by rw [h2.length]; exact sz_lt hz, nn _ σ _ O (hn d pd) g3 (s'.trans s3)⟩
  · obtain ⟨l, xs, e, h1, h2, h3, h4⟩ := g'.own hi
    obtain ⟨g4, s4⟩ := g'.freeze hi e
    refine ⟨true, hm, fun _ a _ => ⟨_, e, r _ _ H' _ (hr ⟨n, px⟩) g4.wd (s'.trans s4) ?_⟩, fun z => by cases z⟩
    obtain ⟨y, e2, y2⟩ := g4.im (i := i) (d := .lst ds) (by rw [List.getElem?_set_self (List.getElem?_eq_some_iff.mp hi).1])
    rw [e] at e2; cases e2
    exact y2
/-- what is heard of a lambda -/
theorem ev_heard {fe : XK → TE} (h : EvX aC ss fe P X) : EvP ss (LamX.tLamA tbs.T (THeard K aC) fe) (fun x => (∃ d, P d ∧ x = .rtup [.str "told", d]) ∨ ∃ n, X n ∧ x = .rtup [.str "cannot", .int n]) := fun Z Bg σ H O Q gg q => by
  refine ⟨gg.wd.tb, fun H1 e1 a1 t1 => ?_⟩
  have ex : Ext H H1 := ⟨fun a o h n => e1 a o h n, a1, fun _ => t1⟩
  refine h Z Bg σ H1 O _ _ (gg.ext ex) (fun v H2 d p g2 s2 hd => ⟨Nat.le_of_ble_eq_true rfl, fun p' hp' => ?_⟩) fun n dd H2 px g2 s2 hdd => ⟨rfl, dd, n, rfl, hdd, fun p' hp' => ?_⟩
  · exact q _ _ _ (.inl ⟨d, p, rfl⟩) (g2.ext (Ext.new hp')) ((Ext.stp ex).trans (s2.trans (Ext.stp (Ext.new hp')))) (.rtup upd_same (.cons (.str _) (.one (hd.mv (Ext.stp (Ext.new hp'))))))
  · exact q _ _ _ (.inr ⟨n, px, rfl⟩) (g2.ext (Ext.new hp')) ((Ext.stp ex).trans (s2.trans (Ext.stp (Ext.new hp')))) (.rtup upd_same (.cons (.str _) (.one (.int _))))
/-- a def's body -/
theorem body_E {Nn : List Str} {vs : List V} {H : Hp} {Q : VK} {E : XK} (h : ∀ x, Pre x → (A x).length ≤ Nn.length ∧ HTX aC (ims (A x) Nn.length) f noS (Post x) noS noS (PX x)) (p : spE aC A Pre Post PX vs H Q E) : f E (fin Q) (L2.start Nn vs) H := by
  obtain ⟨x, Z, hz, htb, hd, hp, q, e⟩ := p
  obtain ⟨hl, ht⟩ := h x hp
  refine ht Z none _ H no E (fin Q) (Sg.start0 hz htb hd hl) (fun _ _ _ _ z => z.elim) (fun d v H' O' pd w s hd' => ?_) (fun _ _ _ _ z => z.elim) (fun _ _ _ _ z => z.elim) fun n dd H' O' px w s hdd => ?_
  · exact q v H' d pd ⟨fun a o e => s.kp a o e id, fun a h => s.al a h id, s.tb⟩ (hd'.less fun a z => z.elim False.elim .inr)
  · exact e n dd H' px ⟨fun a o e => s.kp a o e id, fun a h => s.al a h id, s.tb⟩ hdd
end
/-! ### sorted(range(n), key=lambda ..), list(range(n)), tuple(range(n)) -/
section
variable {ss : List Sl} {te : TE} {K : PySem.W.Frag} {i n : Nat}
theorem rgV_N : rgV 0 (n : Int) = ((List.range n).map fun i : Nat => (i : Int)).map V.int := by
  unfold rgV
  rw [List.map_map, show ((n : Int) - 0).toNat = n by omega]
  exact List.map_congr_left fun i _ => by show V.int (0 + (i : Int)) = V.int (i : Int); rw [Int.zero_add]
theorem rgN : (upto n dN) = ((List.range n).map fun i : Nat => (i : Int)).map D.int := by rw [List.map_map]; rfl
theorem en_lstRg (h : EvD ss te (dN n)) (hn : n ≤ 1000000) : EvN ss (tLstRg (tRg1 te)) (fun x => x = upto n dN) := fun Z Bg σ H O Q g q => h Z Bg σ H O _ g fun v H1 d pd g1 s1 hd => by
  subst pd
  cases hd
  refine ⟨(n : Int), rfl, RgOk.of_le (by omega) (by omega) (by omega) (by omega), fun p hp => ?_⟩
  have nO : ¬ O p := (g1.wd.fresh hp).1
  refine q p _ _ _ rfl nO (s1.was hp nO) (g1.more (Ext.new hp) hp (by rw [upd_same]; exact fun z => nomatch z)) (s1.trans (stp_more hp)) upd_same ?_
  rw [rgV_N, rgN]
  exact DqAll.ints _
theorem ev_tupRgF (h : EvD ss te (dN n)) (hn : n ≤ 1000000) : EvD ss (tTupRgF (tRg1 te)) (.ptup (upto n dN)) := fun Z Bg σ H O Q g q => h Z Bg σ H O _ g fun v H1 d pd g1 s1 hd => by
  subst pd
  cases hd
  refine ⟨(n : Int), rfl, RgOk.of_le (by omega) (by omega) (by omega) (by omega), fun p o hp ho => ?_⟩
  refine q _ _ _ rfl (g1.ext (Ext.new hp)) (s1.trans (Ext.stp (Ext.new hp))) (.ptup upd_same ho ?_)
  rw [rgV_N, rgN]
  exact DqAll.ints _
theorem en_sortLam {ns : List Int} {a : D} (hi : ss[i]? = some (.im a)) (ha : a.items = some (ns.map .int)) (h : EvD ss te (dN n)) (hn : n ≤ ns.length) (hz : ns.length ≤ 1000) : EvN ss (tSortLam K tbs.T i te) (fun x => x = (ordD ns n).map dN) := fun Z Bg σ H O Q g q => h Z Bg σ H O _ g fun v H1 d pd g1 s1 hd => by
  subst pd
  cases hd
  obtain ⟨y, e, hy⟩ := g1.im hi
  obtain ⟨p, xs, rfl, h4, h5⟩ := hy.tupV (K := K) ha
  have hxs := h5.of_ints
  subst hxs
  refine ⟨n, p, ns, rfl, hn, hz, e, h4, g1.wd.tb, fun r hr H2 e2 a2 t2 p' hp' => ?_⟩
  have ex : Ext H1 H2 := ⟨fun a o h nt => e2 a o (by rw [upd_ne (ne_of_none h hr)]; exact h) nt, fun a h => a2 a (by by_cases z : a = r; rw [z, upd_same]; exact fun z => nomatch z; rw [upd_ne z]; exact h), fun _ => t2⟩
  have g2 := g1.ext ex
  have nO : ¬ O p' := (g2.wd.fresh hp').1
  have s2 := s1.trans (Ext.stp ex)
  refine q p' _ _ _ rfl nO (s2.was hp' nO) (g2.more (Ext.new hp') hp' (by rw [upd_same]; exact fun z => nomatch z)) (s2.trans (stp_more hp')) upd_same ?_
  have e1 : ((ordD ns n).map fun i : Nat => V.int (i : Int)) = ((ordD ns n).map fun i : Nat => (i : Int)).map V.int := by rw [List.map_map]; rfl
  have e3 : (ordD ns n).map dN = ((ordD ns n).map fun i : Nat => (i : Int)).map D.int := by rw [List.map_map]; rfl
  rw [e1, e3]
  exact DqAll.ints _
end
end FK
end
section
set_option Elab.async false
set_option linter.all false
set_option maxRecDepth 100000
/-! The knowledge at first. -/
namespace FK
open PySem PySem.Spec PyProof.Rows L2 Lg Lr RZ FM
/-! ### the plain part -/
theorem ordD_sorted {st : List Nat} {F : Nat} : (ordD (stI st) st.length).Pairwise fun a b => gof F st a ≤ gof F st b := by
  have e : (PySem.W.dataLe false fun i : Nat => PyData.tuple [.int ((stI st).getD i 0), .int (i : Int)]) = fun p q : Nat => decide ([((stI st).getD p 0 : Int), (p : Int)] ≤ [((stI st).getD q 0 : Int), (q : Int)]) := dataLe_tup (fun i : Nat => [((stI st).getD i 0 : Int), (i : Int)])
  have h := List.pairwise_mergeSort (le := fun p q : Nat => decide ([((stI st).getD p 0 : Int), (p : Int)] ≤ [((stI st).getD q 0 : Int), (q : Int)])) (fun a b c h1 h2 => by
    simp only [decide_eq_true_eq] at *
    exact List.le_trans h1 h2) (fun a b => by
    simp only [Bool.or_eq_true, decide_eq_true_eq]
    exact List.le_total _ _) (List.range st.length)
  unfold ordD
  rw [e]
  refine List.Pairwise.imp_of_mem (fun {a b} ha hb hab => ?_) h
  rw [(List.mergeSort_perm _ _).mem_iff, List.mem_range] at ha hb
  rw [decide_eq_true_eq, List.cons_le_cons_iff] at hab
  have ga : (stI st).getD a 0 = ((gof F st a : Nat) : Int) := by unfold gof; rw [List.getD_eq_getElem?_getD, List.getD_eq_getElem?_getD, List.getElem?_map, List.getElem?_eq_getElem ha]; rfl
  have gb : (stI st).getD b 0 = ((gof F st b : Nat) : Int) := by unfold gof; rw [List.getD_eq_getElem?_getD, List.getD_eq_getElem?_getD, List.getElem?_map, List.getElem?_eq_getElem hb]; rfl
  rw [ga, gb] at hab
  rcases hab with h | ⟨h, _⟩ <;> omega
theorem ordD_perm {ns : List Int} {n : Nat} : (ordD ns n).Perm (List.range n) := List.mergeSort_perm _ _
theorem full_fair {rooms st : List Nat} {n : Nat} (hs : IsSt rooms.length n st) (h : ∀ j, j < rooms.length → szs rooms.length st j = rw' rooms j) : Fair rooms n st := by
  refine ⟨hs, fun j hj => ?_⟩
  have h1 := cnt_on (g := gof rooms.length st) (a := j) (List.range st.length)
  rw [← count_range] at h1
  have h2 := h j hj
  unfold szs at h2
  rw [List.length_range] at h1
  by_cases z : j = 0
  · subst z
    have e : rw' rooms 0 = rm rooms 0 := rfl
    rw [if_pos rfl] at h1
    omega
  · have h3 := h (j - 1) (by omega)
    unfold szs at h3
    rw [if_neg z] at h1
    have e : rw' rooms j = rw' rooms (j - 1) + rm rooms j := by
      obtain ⟨k, rfl⟩ : ∃ k, j = k + 1 := ⟨j - 1, by omega⟩
      rfl
    omega
variable [tbs : Tbs]
theorem upto_inj {α : Type} {n : Nat} {f g : Nat → α} : upto n f = upto n g ↔ ∀ i, i < n → f i = g i := by
  refine ⟨fun h i hi => ?_, upto_congr⟩
  have h1 := upto_get (f := f) hi
  rw [h, upto_get hi] at h1
  exact (Option.some.inj h1).symm
/-- a knowledge, of just these states -/
structure Kn (rooms : List Nat) (n : Nat) (S : List Nat → Prop) (d : D) : Prop where
  ex : ∃ o s V, d = kD rooms.length n o V ∧ KOk rooms n o s V ∧ ∀ st, FitL rooms.length n o s V st ↔ S st
structure FKn where
  n : Nat
  rooms : List Nat
  s : Option (List Nat)
structure FKn.Ok (a : FKn) : Prop where
  n5 : a.n ≤ 5
  F0 : 0 < a.rooms.length
  f3 : a.rooms.length ≤ 3
  s : StartOk a.n a.rooms a.s
def A_first_knowledge (a : FKn) : List D := [houseD a.n a.rooms, startD a.s]
def sp_first_knowledge : Sp := spP A_first_knowledge FKn.Ok (fun a d => Kn a.rooms a.n (fun st => st ∈ firstS a.rooms a.n a.s) d)
section
variable {K : PySem.W.Frag}
theorem c_first_knowledge (vs H Q E) (p : sp_first_knowledge vs H Q E) : t_first_knowledge K tbs.T sp_rooms_within sp_sizes_of (fin Q) (L2.start N_first_knowledge vs) H := by
  refine body_P (fun x hx => ⟨by show 2 ≤ 8; decide, ?_⟩) p
  obtain ⟨n, rooms, s⟩ := x
  obtain ⟨n5, F0, f3, hs⟩ := hx
  simp only at n5 F0 f3 hs
  let hD : D := houseD n rooms
  refine ht_seq (N1 := fun ss => ss = [.im hD, .im (startD s), .im (dN n), .un, .un, .un, .un, .un]) (ht_asgD (ev_ix (ev_var rfl) ev_int rfl rfl) rfl) ?_
  rintro ss1 rfl
  refine ht_seq (N1 := fun ss => ss = [.im hD, .im (startD s), .im (dN n), .im (.lst (upto (n + 1) dN)), .un, .un, .un, .un]) (ht_asgD (EvN.dat (en_lstRg (n := n + 1) ((ev_add (m := (n : Int)) (n := 1) (ev_var rfl) ev_int).to rfl) (by omega))) rfl) ?_
  rintro ss1 rfl
  let S : Sl → Sl → Sl → Sl → List Sl := fun a b c d => [.im hD, .im (startD s), .im (dN n), .im (.lst (upto (n + 1) dN)), a, b, c, d]
  have hplaces : ∀ {ss : List Sl}, ss[3]? = some (.im (.lst (upto (n + 1) dN))) → Src ss (iSq K (tVar 3)) (n + 1) dN := fun h => by
    have := src_lst (K := K) (ev_var h)
    rw [upto_len] at this
    exact Src.inl (src_el this fun k hk => dAt_upto hk)
  refine ht_seq (N1 := fun ss => ss = S .un .un .un .un ∧ s ≠ none) (ht_if (eb_d (ev_isNon (c := s.isNone) (ev_var rfl) ?_)) (fun hc => ?_) fun hc => ht_next ⟨rfl, fun z => by rw [z] at hc; cases hc⟩) ?_
  · cases s <;> simp [startD]
  · have hs0 : s = none := by cases s with | none => rfl | some _ => cases hc
    subst hs0
    refine ht_seq (N1 := fun ss => ss = S (.im (.lst (upto rooms.length fun j => wI n (fullV rooms n j)))) .un .un .un) (ht_asgD (EvN.dat (en_lcA (n := rooms.length) (el := fun j => .int (rw' rooms j : Int)) (f := fun j => wI n (fullV rooms n j)) ?_ (by omega) rfl ?_)) rfl) ?_
    · have h := src_tup (K := K) (ss := S .un .un .un .un) (ev_call (E := E0) (A := A_rooms_within) (Pre := fun x => x.2.length ≤ 3) (Post := fun x d => d = tI (upto x.2.length fun j => (rw' x.2 j : Int))) (n, rooms) (ea1 (ev_var (i := 0) rfl)) f3) rfl
      rw [List.length_map, upto_len] at h
      exact (Src.inr (src_el h fun k hk => by rw [map_upto, dAt_upto hk])).c
    · intro j hj
      refine ⟨_, _, tgt_name, by decide, rfl, EvD.to (ev_tA (en_lcA (n := n + 1) (el := dN) (f := fun d => .int (fullV rooms n j d)) (hplaces rfl).c (by omega) rfl ?_).v) (by show D.tup _ = D.tup _; rw [map_upto])⟩
      intro d hd
      refine ⟨_, _, tgt_name, by decide, rfl, (ev_max2 ev_int (ev_add (ev_sub (ev_var (i := 6) rfl) (ev_var (i := 2) rfl)) (ev_var (i := 7) rfl))).to rfl⟩
    rintro ss1 rfl
    refine ht_retD (ev_tB (ea2 (ev_tupRgF (n := n) (ev_var (i := 2) rfl) (by omega)) (ev_tA (EvD.v (ev_var (i := 4) rfl)))) (Nat.le_of_ble_eq_true rfl)) ?_
    obtain ⟨h1, h2⟩ := first_none F0 (hs.full rfl)
    refine ⟨List.range n, _, _, rfl, h1, fun st => ?_⟩
    rw [h2]
    show _ ↔ st ∈ (allS rooms n).filter (fullB rooms)
    rw [List.mem_filter, mem_allS, decide_eq_true_eq, upto_inj]
    exact ⟨fun h => ⟨full_fair h.1 h.2, h.2⟩, fun h => ⟨h.1.is, h.2⟩⟩
  rintro ss1 ⟨rfl, hne⟩
  obtain ⟨st, rfl⟩ : ∃ st, s = some st := by cases s with | none => exact absurd rfl hne | some st => exact ⟨st, rfl⟩
  obtain ⟨hst, hcnt⟩ := hs.st st rfl
  obtain ⟨h1, h2⟩ := first_state F0 hst hcnt ordD_perm ((ordD_sorted (st := st) (F := rooms.length)) |> fun h => by rw [hst.1] at h; exact h)
  refine ht_seq (N1 := fun ss => ss = S .un (.im (.lst ((ordD (stI st) n).map dN))) .un .un) (ht_asgD (EvN.dat (en_sortLam (ns := stI st) (a := stD st) rfl (by show some _ = some _; rw [← stI_map]) (ev_var (i := 2) rfl) (by rw [List.length_map, hst.1]; exact Nat.le_refl _) (by rw [List.length_map, hst.1]; omega))) rfl) ?_
  rintro ss1 rfl
  refine ht_seq (N1 := fun ss => ss = S (.im (.lst (upto rooms.length fun j => wI n (minV (szs rooms.length st) j)))) (.im (.lst ((ordD (stI st) n).map dN))) .un .un) (ht_asgD (EvN.dat (en_lcA (n := rooms.length) (el := fun j => .int (szs rooms.length st j)) (f := fun j => wI n (minV (szs rooms.length st) j)) ?_ (by omega) rfl ?_)) rfl) ?_
  · have h := src_tup (K := K) (ss := S .un (.im (.lst ((ordD (stI st) n).map dN))) .un .un) (ev_call (E := E0) (A := A_sizes_of) (Pre := fun x => x.2.1.length ≤ 3 ∧ x.2.2.length ≤ 5) (Post := fun x d => d = tI (upto x.2.1.length (szs x.2.1.length x.2.2))) (n, rooms, st) (ea2 (ev_var (i := 0) rfl) (ev_var (i := 1) rfl)) ⟨f3, by show st.length ≤ 5; rw [hst.1]; exact n5⟩) rfl
    rw [List.length_map, upto_len] at h
    exact (Src.inr (src_el h fun k hk => by rw [map_upto, dAt_upto hk])).c
  · intro j hj
    refine ⟨_, _, tgt_name, by decide, rfl, EvD.to (ev_tA (en_lcA (n := n + 1) (el := dN) (f := fun d => .int (minV (szs rooms.length st) j d)) (hplaces rfl).c (by omega) rfl ?_).v) (by show D.tup _ = D.tup _; rw [map_upto])⟩
    intro d hd
    exact ⟨_, _, tgt_name, by decide, rfl, (ev_min2 (ev_var (i := 7) rfl) (ev_var (i := 6) rfl)).to rfl⟩
  rintro ss1 rfl
  refine ht_retD (ev_tB (ea2 (ev_tAP (EvD.v (ev_var (i := 5) rfl))) (ev_tA (EvD.v (ev_var (i := 4) rfl)))) (Nat.le_of_ble_eq_true rfl)) ⟨ordD (stI st) n, _, _, rfl, h1, fun st' => ?_⟩
  rw [h2]
  show _ ↔ st' ∈ [st]
  rw [List.mem_singleton]
end
end FK
end
section
set_option Elab.async false
set_option linter.all false
set_option maxRecDepth 100000
/-! A knowledge led by an entry. -/
namespace FK
open PySem PySem.Spec PyProof.Rows L2 Lg Lr RZ FM
variable [tbs : Tbs]
structure LD where
  n : Nat
  rooms : List Nat
  S : List Nat → Prop
  k : D
  w : Str
  x : Nat
  i : Nat
structure RoomsOk (n : Nat) (rooms : List Nat) : Prop where
  n5 : n ≤ 5
  F0 : 0 < rooms.length
  f3 : rooms.length ≤ 3
  pos : ∀ j, j < rooms.length → 1 ≤ rm rooms j
structure LD.Ok (a : LD) : Prop where
  h : RoomsOk a.n a.rooms
  k : Kn a.rooms a.n a.S a.k
  w : a.w = "ask" ∨ a.w = "strike"
  x : a.x < a.n
  i : a.i ≤ a.rooms.length
/-- what is led to -/
def Nxt (rooms : List Nat) (S : List Nat → Prop) (w : Str) (x i : Nat) (st' : List Nat) : Prop := ∃ st, S st ∧ gof rooms.length st x = i ∧ ∃ ds, Does rooms st w x ds st'
def A_led (a : LD) : List D := [houseD a.n a.rooms, a.k, entD a.w a.x a.i]
def P_led (a : LD) (d : D) : Prop := Kn a.rooms a.n (Nxt a.rooms a.S a.w a.x a.i) d
def X_led (a : LD) (n : Int) : Prop := ∀ st', ¬ Nxt a.rooms a.S a.w a.x a.i st'
def sp_led (aC : Addr) : Sp := spE aC A_led LD.Ok P_led X_led
theorem Kn.some {rooms : List Nat} {n : Nat} {S : List Nat → Prop} {d : D} (k : Kn rooms n S d) (F0 : 0 < rooms.length) : ∃ st, S st := by
  obtain ⟨o, s, V, rfl, h1, h2⟩ := k.ex
  obtain ⟨st, h3, _⟩ := reach h1 F0
  exact ⟨st, (h2 st).mp h3⟩
theorem Kn.congr {rooms : List Nat} {n : Nat} {S S' : List Nat → Prop} {d : D} (k : Kn rooms n S d) (h : ∀ st, S st ↔ S' st) : Kn rooms n S' d := by
  obtain ⟨o, s, V, rfl, h1, h2⟩ := k.ex
  exact ⟨⟨o, s, V, rfl, h1, fun st => (h2 st).trans (h st)⟩⟩
theorem split_at {x : Nat} : ∀ {o : List Nat}, x ∈ o → ∃ o1 o2, o = o1 ++ x :: o2 ∧ x ∉ o1
  | [], h => by cases h
  | y :: o, h => by
    by_cases e : x = y
    · exact ⟨[], o, by rw [e]; rfl, by simp⟩
    · obtain ⟨o1, o2, rfl, h1⟩ := split_at (o := o) (by rcases List.mem_cons.mp h with h | h; exact absurd h e; exact h)
      exact ⟨y :: o1, o2, rfl, by simp [e, h1]⟩
section
variable {K : PySem.W.Frag} {aC : Addr}
open Classical in
theorem c_led (vs H Q E) (p : sp_led aC vs H Q E) : t_led K aC sp_amid sp_rooms_within sp_lost_one E (fin Q) (L2.start N_led vs) H := by
  refine body_E (f := t_led K aC sp_amid sp_rooms_within sp_lost_one) (fun a ha => ⟨by show 3 ≤ 14; decide, ?_⟩) p
  obtain ⟨n, rooms, S, kd, w, x, i⟩ := a
  obtain ⟨⟨n5, F0, f3, hpos⟩, hk, hw, hx, hi⟩ := ha
  simp only at n5 F0 f3 hpos hw hx hi hk
  obtain ⟨⟨o, s, V, rfl, hK, hS⟩⟩ := hk
  have hxo : x ∈ o := hK.perm.mem_iff.mpr (List.mem_range.mpr hx)
  obtain ⟨o1, o2, rfl, hno⟩ := split_at hxo
  have hn : n = (o1 ++ o2).length + 1 := by have := hK.perm.length_eq; simp at this ⊢; omega
  generalize hm : (o1 ++ o2).length = m at hn
  subst hn
  show HTX aC (ims [houseD (m + 1) rooms, kD rooms.length (m + 1) (o1 ++ x :: o2) V, entD w x i] 14) _ _ _ _ _ _
  let F := rooms.length
  let hD : D := houseD (m + 1) rooms
  let kd : D := kD F (m + 1) (o1 ++ x :: o2) V
  let eD : D := entD w x i
  let oD : D := .ptup ((o1 ++ o2).map dN)
  let sD : D := tI (upto F (outS s i))
  let wD : D := tightD F m (outR V o1.length i) (outS s i)
  refine htx_seq (N1 := fun ss => ss = [.im hD, .im kd, .im eD, .im oD, .im wD, .im sD, .un, .un, .un, .un, .un, .un, .un, .un]) (HTX.of (ht_asgG (a := .tup [oD, wD, sD]) (EvD.to (ev_call (E := E0) (A := A_amid) (Pre := EA.Ok) (Post := fun a d => d = amidD a) ⟨F, o1, x, o2, s, V, w, i⟩ (ea2 ((ev_var (i := 1) rfl).to (by show kd = kD F ((o1 ++ o2).length + 1) _ V; rw [hm])) (ev_var (i := 2) rfl)) ⟨F0, f3, by show (o1 ++ o2).length ≤ 10; omega, hno, fun j hj => ?_⟩) (by show D.tup [_, tightD F (o1 ++ o2).length _ _, _] = _; rw [hm])) (tgt_3 rfl) rfl)) ?_
  · show V j ((o1 ++ o2).length + 1) = s j
    rw [hm]
    exact hK.tight.last j hj
  rintro ss1 rfl
  have hAm : SizesOk F m (outS s i) ∧ RawOk (outR V o1.length i) (outS s i) F m ↔ Amid rooms o1 o2 s V i := by
    rw [← hm]
    exact ⟨fun h => ⟨h.1, h.2⟩, fun h => ⟨h.sizes, h.words⟩⟩
  let S1 : Sl → Sl → Sl → Sl → Sl → Sl → Sl → Sl → Sl → List Sl := fun wd a b c d e f g h => [.im hD, .im kd, .im eD, .im oD, wd, .im sD, a, b, c, d, e, f, g, h]
  let W : Fam := raw (outR V o1.length i) (outS s i) F m
  refine htx_seq (N1 := fun ss => ss = S1 (.im (wsD F m W)) .un .un .un .un .un .un .un .un ∧ Amid rooms o1 o2 s V i) (htx_if (eb_d (ev_isNon (a := wD) (c := !decide (Amid rooms o1 o2 s V i)) (ev_var (i := 4) rfl) ?_)) (fun hc => ?_) fun hc => HTX.of (ht_next ?_)) ?_
  · show _ ↔ tightD F m (outR V o1.length i) (outS s i) = .non
    unfold tightD
    by_cases h : Amid rooms o1 o2 s V i
    · rw [if_pos (hAm.mpr h), decide_eq_true h]; simp
    · rw [if_neg (fun z => h (hAm.mp z)), decide_eq_false h]; simp
  · have hA : ¬ Amid rooms o1 o2 s V i := by simpa using hc.symm
    refine htx_raise ev_int ?_
    rintro st' ⟨st, h1, h2, _⟩
    exact hA (amid_of F0 hK ((hS st).mpr h1) h2)
  · have hA : Amid rooms o1 o2 s V i := by simpa using hc.symm
    refine ⟨?_, hA⟩
    have : wD = wsD F m W := by
      show tightD F m (outR V o1.length i) (outS s i) = _
      unfold tightD
      rw [if_pos (hAm.mpr hA)]
    show [_, _, _, _, Sl.im wD, _, _, _, _, _, _, _, _, _] = _
    rw [this]
  rintro ss1 ⟨rfl, hA⟩
  have eW : amV rooms o1 o2 s V i = W := by show raw _ _ _ (o1 ++ o2).length = _; rw [hm]
  refine htx_seq (N1 := fun ss => ss = S1 (.im (wsD F m W)) (.im (.str w)) (.im (dN x)) (.im (dN i)) .un .un .un .un .un) (HTX.of (ht_asgG (ev_var rfl) (tgt_3 rfl) rfl)) ?_
  rintro ss1 rfl
  have hwords : ∀ {ss : List Sl}, ss[4]? = some (.im (wsD F m W)) → Src ss (iSq K (tVar 4)) F (fun j => wI m (W j)) := fun h => by
    have := src_tup (K := K) (ev_var h) rfl
    rw [upto_len] at this
    exact Src.inr (src_el this fun k hk => dAt_upto hk)
  have hwok : PyData.strOk w = true := by rcases hw with rfl | rfl; exact askOk; exact strikeOk
  refine htx_seq (N1 := fun ss => ss = S1 (.im (wsD F m W)) (.im (.str w)) (.im (dN x)) (.im (dN i)) .un .un .un .un .un ∧ w = "ask") (htx_if (eb_d (ev_eqS (ev_var (i := 6) rfl) ev_str hwok strikeOk)) (fun hc => HTX.of ?_) fun hc => HTX.of (ht_next ⟨rfl, hw.resolve_right fun z => by rw [z] at hc; simp at hc⟩)) ?_
  · have e : w = "strike" := by simpa using hc.symm
    subst e
    refine ht_retD (ev_tB (ea2 (ev_tBP (ds := (o1 ++ o2).map dN ++ [dN x]) (ea_star (K := K) (ev_var (i := 3) rfl) rfl (ea1 (ev_var (i := 7) rfl))) ?_) (ev_tA (en_lcA (n := F) (el := fun j => wI m (W j)) (f := fun j => wI (m + 1) (strV W m j)) (hwords rfl).c (by omega) rfl ?_).v)) (Nat.le_of_ble_eq_true rfl)) ?_
    · rw [List.length_append, List.length_map, hm]; simp; omega
    · intro j hj
      refine ⟨_, _, tgt_name, by decide, rfl, EvD.to (ev_tB (ds := (upto (m + 1) fun d => D.int (W j d)) ++ [.int (W j m)]) (ea_star (K := K) (a := .tup (upto (m + 1) fun d => D.int (W j d))) ((ev_var (i := 12) rfl).to (by show D.tup _ = D.tup _; rw [map_upto])) rfl (ea1 (ev_ix (a := .tup (upto (m + 1) fun d => D.int (W j d))) (ds := upto (m + 1) fun d => D.int (W j d)) ((ev_var (i := 12) rfl).to (by show D.tup _ = D.tup _; rw [map_upto])) ev_n1 rfl (atI_last upto_last)))) ?_) ?_⟩
      · rw [List.length_append, upto_len]; simp; omega
      · show D.tup _ = D.tup _
        rw [map_upto, upto_succ (n := m + 1)]
        refine congrArg D.tup (congr (congrArg _ (upto_congr fun d hd => ?_)) ?_)
        · unfold strV; rw [if_pos (by omega)]
        · unfold strV; rw [if_neg (by omega)]
    · obtain ⟨h1, h2⟩ := lead_strike F0 hK hi hA
      rw [eW, hm] at h1 h2
      refine ⟨_, _, _, by show D.tup [.ptup _, _] = D.tup [.ptup (((o1 ++ o2) ++ [x]).map dN), _]; rw [List.map_append (l₂ := [x])]; rfl, h1, fun st' => ?_⟩
      rw [h2]
      constructor
      · rintro ⟨st, a, b, c⟩
        exact ⟨st, (hS st).mp a, b, [], .inl ⟨rfl, rfl, c⟩⟩
      · rintro ⟨st, a, b, ds, c⟩
        exact ⟨st, (hS st).mpr a, b, c.elim (fun c => c.2.2) fun c => absurd (show ("strike" : Str) = "ask" from c.1) (by decide +kernel)⟩
  rintro ss1 ⟨rfl, rfl⟩
  refine HTX.of ?_
  let rD : D := tI (upto F fun j => (rw' rooms j : Int))
  let L := lostB rooms (outS s i) i
  let el : Nat → D := fun j => wI (m + 1) (askV W L j)
  refine ht_seq (N1 := fun ss => ss = S1 (.im (wsD F m W)) (.im (.str "ask")) (.im (dN x)) (.im (dN i)) (.own []) (.im rD) .un .un .un) (ht_par2 (em_oi en_nil (ev_call (E := E0) (A := A_rooms_within) (Pre := fun x => x.2.length ≤ 3) (Post := fun x d => d = tI (upto x.2.length fun j => (rw' x.2 j : Int))) (m + 1, rooms) (ea1 (ev_var (i := 0) rfl)) f3)) rfl) ?_
  rintro ss1 rfl
  refine ht_seq (N1 := fun ss => ∃ a b c, ss = S1 (.im (wsD F m W)) (.im (.str "ask")) (.im (dN x)) (.im (dN i)) (.own (upto F el)) (.im rD) a b c) (ht_for (n := F) (el := fun j => .rtup [dN j, wI m (W j)]) ?_ (fun j ss => ∃ a b c, ss = S1 (.im (wsD F m W)) (.im (.str "ask")) (.im (dN x)) (.im (dN i)) (.own (upto j el)) (.im rD) a b c) ⟨_, _, _, rfl⟩ ?_ fun ss h => h) ?_
  · have h := src_enT (K := K) (ss := S1 (.im (wsD F m W)) (.im (.str "ask")) (.im (dN x)) (.im (dN i)) (.own []) (.im rD) .un .un .un) (ea1 (ev_var (i := 4) rfl)) (a := wsD F m W) rfl
    rw [upto_len] at h
    exact Src.inr (src_el h fun j hj => by show D.rtup [_, _] = _; rw [dAt_upto hj])
  · rintro j ss1 hj ⟨a, b, c, rfl⟩
    refine ⟨_, _, tgt_2 (a1 := dN j) (a2 := wI m (W j)) rfl, ?_⟩
    let S2 : Sl → List Sl := fun r => S1 (.im (wsD F m W)) (.im (.str "ask")) (.im (dN x)) (.im (dN i)) (.own (upto j el)) (.im rD) (.im (dN j)) r c
    refine ht_seq (N1 := fun ss => ss = S2 (.im (wI m fun d => dec1 (L j) (W j d)))) (ht_if (ss := S2 (.im (wI m (W j)))) (Bb := fun b => b = L j) ((eb_and2 (eb_d (ev_lt (m := (j : Int)) (n := (i : Int)) (ev_var (i := 11) rfl) (ev_var (i := 8) rfl))) fun _ => eb_d (ev_eqI (m := outS s i j) (n := (rw' rooms j : Int)) (ev_ix (ev_var (i := 5) rfl) (ev_var (i := 11) rfl) rfl ?_) (ev_ix (ev_var (i := 10) rfl) (ev_var (i := 11) rfl) rfl ?_))).mono fun b hb => ?_) (fun hb => ?_) fun hb => ht_next ?_) ?_
    · rw [map_upto]; exact ints_upto hj
    · rw [map_upto]; exact ints_upto hj
    · rw [hb]
      show _ = lostB rooms (outS s i) i j
      unfold lostB
      congr 1
      simp
    · refine ht_asgD (a := wI m fun d => dec1 (L j) (W j d)) (EvD.to (ev_call (E := E0) (A := A_lost_one) (Pre := fun x => x.1 ≤ 10) (Post := fun x d => d = wI x.1 fun p => max 0 (x.2 p - 1)) (m, W j) (ea1 (ev_var (i := 12) rfl)) (by show m ≤ 10; omega)) ?_) rfl
      rw [← hb]; rfl
    · rw [← hb]; rfl
    rintro ss1 rfl
    refine ht_forget 13 (ht_app (i := 9) (a := el j) rfl (EvD.to (ev_tB (ds := .int 0 :: (upto (m + 1) fun d => D.int (dec1 (L j) (W j d) + 1))) (ea_cons ev_int (EvA.mono (ea_starL (K := K) (EvN.dat (en_lcA (n := m + 1) (el := fun d => .int (dec1 (L j) (W j d))) (f := fun d => D.int (dec1 (L j) (W j d) + 1)) ?_ (by omega) rfl ?_)) ea_nil) fun x hx => by rw [hx, List.append_nil])) ?_) ?_) (by rw [upto_len]; omega) ⟨.im (dN j), .im (wI m fun d => dec1 (L j) (W j d)), .un, by rw [upto_succ]; rfl⟩)
    · have h := src_tup (K := K) (ss := (S2 (.im (wI m fun d => dec1 (L j) (W j d)))).set 13 .un) (te := tVar 12) (ev_var rfl) rfl
      rw [List.length_map, upto_len] at h
      exact (Src.inr (src_el h fun k hk => by rw [map_upto, dAt_upto hk])).c
    · intro d hd
      exact ⟨_, _, tgt_name, by decide, rfl, ev_add (ev_var (i := 13) rfl) ev_int⟩
    · rw [List.length_cons, upto_len]; omega
    · show D.tup _ = D.tup _
      rw [map_upto]
      show D.tup _ = D.tup ((List.range (m + 1 + 1)).map _)
      rw [List.range_succ_eq_map, List.map_cons, List.map_map]
      rfl
  rintro ss1 ⟨a, b, c, rfl⟩
  obtain ⟨h1, h2⟩ := lead_ask F0 hpos hK hi hA
  rw [eW] at h1 h2
  refine ht_retD (ev_tB (ea2 (ev_tBP (ds := dN x :: (o1 ++ o2).map dN) (ea_cons (ev_var (i := 7) rfl) (EvA.mono (ea_star (K := K) (ev_var (i := 3) rfl) rfl ea_nil) fun x hx => by rw [hx, List.append_nil])) ?_) (ev_tA (ev_own (i := 9) rfl))) (Nat.le_of_ble_eq_true rfl)) ⟨_, _, _, rfl, h1, fun st' => ?_⟩
  · rw [List.length_cons, List.length_map, hm]; omega
  · rw [h2]
    constructor
    · rintro ⟨st, a, b, ds, c⟩
      exact ⟨st, (hS st).mp a, b, ds, .inr ⟨rfl, c⟩⟩
    · rintro ⟨st, a, b, ds, c⟩
      exact ⟨st, (hS st).mpr a, b, ds, c.elim (fun c => absurd (show ("ask" : Str) = "strike" from c.1) (by decide +kernel)) fun c => c.2⟩
end
end FK
end
section
set_option Elab.async false
set_option linter.all false
set_option maxRecDepth 100000
/-! A knowledge led by a log. -/
namespace FK
open PySem PySem.Spec PyProof.Rows L2 Lg Lr RZ FM
variable [tbs : Tbs]
/-- the states behind the first k entries, from those of which S holds -/
def AftP (rooms : List Nat) (S : List Nat → Prop) (log : List Ent) : Nat → List Nat → Prop
  | 0 => S
  | k + 1 => Nxt rooms (AftP rooms S log k) (log.getD k e0).1 (log.getD k e0).2.1 (log.getD k e0).2.2
theorem aft_iff {rooms : List Nat} {S0 : List (List Nat)} {log : List Ent} : ∀ {k : Nat} {st : List Nat}, AftP rooms (fun st => st ∈ S0) log k st ↔ After rooms S0 log k st
  | 0, _ => Iff.rfl
  | k + 1, st' => by
    constructor
    · rintro ⟨st, h1, h2⟩
      exact ⟨st, aft_iff.mp h1, h2⟩
    · rintro ⟨st, h1, h2⟩
      exact ⟨st, aft_iff.mpr h1, h2⟩
structure LogOk (n : Nat) (rooms : List Nat) (log : List Ent) : Prop where
  e : ∀ e ∈ log, EntOk n e ∧ e.2.2 ≤ rooms.length
  l : log.length ≤ 100
theorem LogOk.at_ {n : Nat} {rooms : List Nat} {log : List Ent} (h : LogOk n rooms log) {k : Nat} (hk : k < log.length) : EntOk n (log.getD k e0) ∧ (log.getD k e0).2.2 ≤ rooms.length := by
  refine h.e _ ?_
  rw [List.getD_eq_getElem?_getD, List.getElem?_eq_getElem hk]
  exact List.getElem_mem hk
structure LB where
  n : Nat
  rooms : List Nat
  S : List Nat → Prop
  k : D
  log : List Ent
structure LB.Ok (a : LB) : Prop where
  h : RoomsOk a.n a.rooms
  k : Kn a.rooms a.n a.S a.k
  log : LogOk a.n a.rooms a.log
/-- all of a log can be -/
def Can (rooms : List Nat) (S : List Nat → Prop) (log : List Ent) : Prop := ∀ k, k < log.length → ∃ st, AftP rooms S log (k + 1) st
/-- entry k is the first that cannot be -/
def Cant (rooms : List Nat) (S : List Nat → Prop) (log : List Ent) (k : Nat) : Prop := k < log.length ∧ (∀ j, j < k → ∃ st, AftP rooms S log (j + 1) st) ∧ ∀ st, ¬ AftP rooms S log (k + 1) st
def A_led_by (a : LB) : List D := [houseD a.n a.rooms, a.k, logD a.log]
def P_led_by (a : LB) (d : D) : Prop := Kn a.rooms a.n (AftP a.rooms a.S a.log a.log.length) d ∧ Can a.rooms a.S a.log
def X_led_by (a : LB) (n : Int) : Prop := ∃ k : Nat, n = (k : Int) ∧ Cant a.rooms a.S a.log k
def sp_led_by (aC : Addr) : Sp := spE aC A_led_by LB.Ok P_led_by X_led_by
section
variable {α : Type} {aC : Addr} {ss : List Sl} {ta : TA} {A : α → List D} {Pre : α → Prop} {Post : α → D → Prop} {PX : α → Int → Prop} {PL : List D → Prop} {P : D → Prop} {X : Int → Prop} {K : PySem.W.Frag} {te : TE}
theorem evx_callP (h : EvA ss ta PL) (hp : ∀ ds, PL ds → ∃ x, ds = A x ∧ Pre x ∧ (∀ d, Post x d → P d) ∧ ∀ n, PX x n → X n) : EvX aC ss (fun E => tCall (spE aC A Pre Post PX) [] E ta) P X := fun Z Bg σ H O E Q gg q e => h Z Bg σ H O _ gg fun vs ds H1 pd g1 s1 hd => by
  rw [List.append_nil]
  obtain ⟨x, rfl, h1, h2, h3⟩ := hp ds pd
  exact ⟨x, fun a => O a ∨ Z a, fun a w => g1.wd.al a w, g1.wd.tb, hd.less uz, h1, fun v H' d pd e hd' => q v H' d (h2 d pd) (g1.ext e) (s1.trans (Ext.stp e)) (hd'.less zu), fun n dd H' px ex hx => e n dd H' (h3 n px) (g1.ext ex) (s1.trans (Ext.stp ex)) hx⟩
theorem ev_lenVP (h : EvV ss te PL) (hp : ∀ ds, PL ds → P (.int (ds.length : Nat))) : EvP ss (tCB (Lg.rLen K) (tCons te tNil)) P := ev_cbV h fun ds pd H O Z l xs Q nn h1 h2 q => ⟨l, xs, rfl, .inl (SqL.of h1), by rw [h2.length]; exact q _ _ _ (hp ds pd) Ext.refl (.int _)⟩
end
section
variable {K : PySem.W.Frag} {aC : Addr}
theorem c_led_by (hm : PySem.W.exmOne K (.ref aC) (.ref aC) = some true) (vs H Q E) (p : sp_led_by aC vs H Q E) : t_led_by K aC (sp_led aC) E (fin Q) (L2.start N_led_by vs) H := by
  refine body_E (f := t_led_by K aC (sp_led aC)) (fun a ha => ⟨by show 3 ≤ 5; decide, ?_⟩) p
  obtain ⟨n, rooms, S, kd, log⟩ := a
  obtain ⟨hr, hk, hl⟩ := ha
  simp only at hr hk hl
  let S1 : D → Sl → Sl → List Sl := fun k a b => [.im (houseD n rooms), .im k, .im (logD log), a, b]
  refine htx_seq (N1 := fun ss => ∃ k a b, ss = S1 k a b ∧ Kn rooms n (AftP rooms S log log.length) k ∧ Can rooms S log) (htx_for (n := log.length) (el := fun k => .rtup [dN k, eD (log.getD k e0)]) ?_ (fun q ss => ∃ k a b, ss = S1 k a b ∧ Kn rooms n (AftP rooms S log q) k ∧ ∀ j, j < q → ∃ st, AftP rooms S log (j + 1) st) ⟨kd, _, _, rfl, hk, fun j h => absurd h (Nat.not_lt_zero _)⟩ ?_ ?_) ?_
  · have h := src_enT (K := K) (ss := S1 kd .un .un) (ea1 (ev_var (i := 2) rfl)) (a := logD log) rfl
    rw [List.length_map] at h
    exact Src.inr (src_el h fun j hj => by show D.rtup [_, _] = _; rw [dAt_map (a := log.getD j e0) (by rw [List.getD_eq_getElem?_getD, List.getElem?_eq_getElem hj]; rfl)])
  · rintro q ss1 hq ⟨k, a, b, rfl, hkn, hne⟩
    obtain ⟨he, hi⟩ := hl.at_ hq
    refine ⟨_, _, tgt_2 (a1 := dN q) (a2 := eD (log.getD q e0)) rfl, ?_⟩
    refine htx_try (m := (q : Int)) (A := A_led) (Pre := LD.Ok) (Post := P_led) (PX := X_led) hm ⟨n, rooms, AftP rooms S log q, k, (log.getD q e0).1, (log.getD q e0).2.1, (log.getD q e0).2.2⟩ (ea3 (ev_var (i := 0) rfl) (ev_var (i := 1) rfl) (ev_var (i := 4) rfl)) ⟨hr, hkn, he.w, he.x, hi⟩ (fun d hd => ⟨d, _, _, rfl, hd, fun j hj => ?_⟩) (ev_var (i := 3) rfl) ?_
    · by_cases h : j = q
      · subst h
        exact Kn.some hd hr.F0
      · exact hne j (by omega)
    · rintro ⟨_, hx⟩
      exact ⟨q, rfl, hq, hne, hx⟩
  · rintro ss1 ⟨k, a, b, rfl, h1, h2⟩
    exact ⟨k, a, b, rfl, h1, h2⟩
  rintro ss1 ⟨k, a, b, rfl, h1, h2⟩
  exact HTX.of (ht_retD (ev_var (i := 1) rfl) ⟨h1, h2⟩)
/-! ### knowledge_behind -/
structure KB where
  n : Nat
  rooms : List Nat
  s : Option (List Nat)
  log : List Ent
structure KB.Ok (a : KB) : Prop where
  h : RoomsOk a.n a.rooms
  s : StartOk a.n a.rooms a.s
  log : LogOk a.n a.rooms a.log
abbrev KB.S (a : KB) : List Nat → Prop := fun st => st ∈ firstS a.rooms a.n a.s
def A_knowledge_behind (a : KB) : List D := [houseD a.n a.rooms, startD a.s, logD a.log]
def P_knowledge_behind (a : KB) (d : D) : Prop := Kn a.rooms a.n (AftP a.rooms a.S a.log a.log.length) d ∧ Can a.rooms a.S a.log
def X_knowledge_behind (a : KB) (n : Int) : Prop := ∃ k : Nat, n = (k : Int) ∧ Cant a.rooms a.S a.log k
def sp_knowledge_behind (aC : Addr) : Sp := spE aC A_knowledge_behind KB.Ok P_knowledge_behind X_knowledge_behind
theorem c_knowledge_behind (vs H Q E) (p : sp_knowledge_behind aC vs H Q E) : t_knowledge_behind K aC sp_first_knowledge (sp_led_by aC) E (fin Q) (L2.start N_knowledge_behind vs) H := by
  refine body_E (f := t_knowledge_behind K aC sp_first_knowledge (sp_led_by aC)) (fun a ha => ⟨by show 3 ≤ 3; decide, ?_⟩) p
  obtain ⟨n, rooms, s, log⟩ := a
  obtain ⟨hr, hs, hl⟩ := ha
  simp only at hr hs hl
  refine htx_ret (P := P_knowledge_behind ⟨n, rooms, s, log⟩) (evx_callP (PL := fun y => ∃ d, y = [houseD n rooms, d, logD log] ∧ Kn rooms n (fun st => st ∈ firstS rooms n s) d) (EvA.mono (ea_consP (ev_var (i := 0) rfl) (ea_consP (ev_call (E := E0) (A := A_first_knowledge) (Pre := FKn.Ok) (Post := fun a d => Kn a.rooms a.n (fun st => st ∈ firstS a.rooms a.n a.s) d) ⟨n, rooms, s⟩ (ea2 (ev_var (i := 0) rfl) (ev_var (i := 1) rfl)) ⟨hr.n5, hr.F0, hr.f3, hs⟩) (ea1 (ev_var (i := 2) rfl)))) ?_) ?_) fun d h => h
  · rintro ds ⟨_, _, rfl, rfl, d, _, rfl, hd, rfl⟩
    exact ⟨d, rfl, hd⟩
  · rintro ds ⟨d, rfl, hd⟩
    exact ⟨⟨n, rooms, _, d, log⟩, rfl, ⟨hr, hd, hl⟩, fun e he => he, fun m hm => hm⟩
/-! ### words_through, can_be -/
def sp_words_through : Sp := spP A_knowledge_behind KB.Ok (fun a d => ∃ l, d = .lst l ∧ ((l.length = a.log.length + 1 ∧ Can a.rooms a.S a.log) ∨ ∃ k, l.length = k + 1 ∧ Cant a.rooms a.S a.log k))
theorem c_words_through (hm : PySem.W.exmOne K (.ref aC) (.ref aC) = some true) (vs H Q E) (p : sp_words_through vs H Q E) : t_words_through K aC sp_first_knowledge (sp_led aC) (fin Q) (L2.start N_words_through vs) H := by
  refine body_P (fun a ha => ⟨by show 3 ≤ 5; decide, ?_⟩) p
  obtain ⟨n, rooms, s, log⟩ := a
  obtain ⟨hr, hs, hl⟩ := ha
  simp only at hr hs hl
  let S : List Nat → Prop := fun st => st ∈ firstS rooms n s
  let S1 : List D → Sl → List Sl := fun l a => [.im (houseD n rooms), .im (startD s), .im (logD log), .own l, a]
  refine ht_seq (N1 := fun ss => ∃ d, ss = S1 [d] .un ∧ Kn rooms n S d) (ht_asgN (en_lst (PL := fun ds => ∃ d, ds = [d] ∧ Kn rooms n S d) (ea_one (ev_call (E := E0) (A := A_first_knowledge) (Pre := FKn.Ok) (Post := fun a d => Kn a.rooms a.n (fun st => st ∈ firstS a.rooms a.n a.s) d) ⟨n, rooms, s⟩ (ea2 (ev_var (i := 0) rfl) (ev_var (i := 1) rfl)) ⟨hr.n5, hr.F0, hr.f3, hs⟩)) ?_) ?_) ?_
  · rintro ds ⟨d, rfl, _⟩
    exact one_le
  · rintro ds ⟨d, rfl, hd⟩
    exact ⟨d, rfl, hd⟩
  rintro ss1 ⟨d0, rfl, hd0⟩
  refine ht_seq (N1 := fun ss => ∃ l a, ss = S1 l a ∧ l.length = log.length + 1 ∧ Can rooms S log) (ht_for (n := log.length) (el := fun k => eD (log.getD k e0)) ?_ (fun q ss => ∃ l d a, ss = S1 (l ++ [d]) a ∧ l.length = q ∧ Kn rooms n (AftP rooms S log q) d ∧ ∀ j, j < q → ∃ st, AftP rooms S log (j + 1) st) ⟨[], d0, _, rfl, rfl, hd0, fun j h => absurd h (Nat.not_lt_zero _)⟩ ?_ ?_) ?_
  · have h := src_tup (K := K) (ss := S1 [d0] .un) (te := tVar 2) (ev_var (i := 2) rfl) (ds := log.map eD) rfl
    rw [List.length_map] at h
    exact Src.inr (src_el h fun j hj => dAt_map (a := log.getD j e0) (by rw [List.getD_eq_getElem?_getD, List.getElem?_eq_getElem hj]; rfl))
  · rintro q ss1 hq ⟨l, d, a, rfl, hlq, hkn, hne⟩
    obtain ⟨he, hi⟩ := hl.at_ hq
    have h100 := hl.l
    refine ⟨_, _, tgt_name, ?_⟩
    refine ht_tryApp (A := A_led) (Pre := LD.Ok) (Post := P_led) (PX := X_led) hm ⟨n, rooms, AftP rooms S log q, d, (log.getD q e0).1, (log.getD q e0).2.1, (log.getD q e0).2.2⟩ (ds := l ++ [d]) rfl (by rw [List.length_append, List.length_singleton]; omega) (ea3 (ev_var (i := 0) rfl) (ev_ixOwn (i := 3) (ds := l ++ [d]) rfl ev_n1 (atI_last (by simp))) (ev_var (i := 4) rfl)) ⟨hr, hkn, he.w, he.x, hi⟩ (fun e hd => ⟨l ++ [d], e, _, rfl, by simp [hlq], hd, fun j hj => ?_⟩) ?_
    · by_cases h : j = q
      · subst h
        exact Kn.some hd hr.F0
      · exact hne j (by omega)
    · rintro ⟨_, hx⟩
      exact ⟨_, rfl, .inr ⟨q, by simp [hlq], hq, hne, hx⟩⟩
  · rintro ss1 ⟨l, d, a, rfl, hlq, hkn, hne⟩
    exact ⟨_, a, rfl, by simp [hlq], hne⟩
  rintro ss1 ⟨l, a, rfl, h1, h2⟩
  exact ht_freeze (i := 3) rfl (ht_retD (ev_var (i := 3) rfl) ⟨l, rfl, .inl ⟨h1, h2⟩⟩)
def sp_can_be : Sp := spP A_knowledge_behind KB.Ok (fun a d => ∃ b : Bool, d = .bl b ∧ (b = true ↔ Can a.rooms a.S a.log))
theorem c_can_be (vs H Q E) (p : sp_can_be vs H Q E) : t_can_be K sp_words_through (fin Q) (L2.start N_can_be vs) H := by
  refine body_P (fun a ha => ⟨by show 3 ≤ 3; decide, ?_⟩) p
  obtain ⟨n, rooms, s, log⟩ := a
  obtain ⟨hr, hs, hl⟩ := ha
  simp only at hr hs hl
  refine ht_ret (ev_eq (Pa := fun d => ∃ c : Nat, d = dN c ∧ (c = log.length + 1 ↔ Can rooms (fun st => st ∈ firstS rooms n s) log)) (Pb := fun d => d = dN (log.length + 1)) (P := fun d => ∃ b : Bool, d = .bl b ∧ (b = true ↔ Can rooms (fun st => st ∈ firstS rooms n s) log)) (ev_lenVP (ev_call (E := E0) (A := A_knowledge_behind) (Pre := KB.Ok) (Post := fun a d => ∃ l, d = .lst l ∧ ((l.length = a.log.length + 1 ∧ Can a.rooms a.S a.log) ∨ ∃ k, l.length = k + 1 ∧ Cant a.rooms a.S a.log k)) ⟨n, rooms, s, log⟩ (ea3 (ev_var (i := 0) rfl) (ev_var (i := 1) rfl) (ev_var (i := 2) rfl)) ⟨hr, hs, hl⟩).v ?_) ((ev_add (n := 1) (EvD.to (ev_len (ev_var (i := 2) rfl) (a := logD log) rfl) (by rw [List.length_map])) ev_int).to rfl) ?_) fun d h => h
  · rintro l h
    refine ⟨l.length, rfl, ?_⟩
    rcases h with ⟨h1, h2⟩ | ⟨k, h1, h2, h3, h4⟩
    · exact ⟨fun _ => h2, fun _ => h1⟩
    · simp only at h2
      refine ⟨fun z => by omega, fun z => ?_⟩
      obtain ⟨st, h5⟩ := z k h2
      exact absurd h5 (h4 st)
  · rintro a b ⟨c, rfl, hc⟩ rfl
    refine ⟨rfl, rfl, decide (c = log.length + 1), ?_, by rw [decide_eq_true_eq]; exact hc⟩
    show D.bl (PyData.eqv (.int (c : Int)) (.int ((log.length + 1 : Nat) : Int))) = _
    rw [← decEqI c (log.length + 1)]
    congr 1
end
end FK
end
section
set_option Elab.async false
set_option linter.all false
set_option maxRecDepth 100000
/-! The bag that is drawn from; expressions of which only the kind is known. -/
namespace FK
open PySem PySem.Spec PyProof.Rows L2 Lg Lr RZ FM
variable [tbs : Tbs]
section
variable {Z : Av} {Bg : Option Addr} {H : Hp} {O : Av} {σ : L2.St} {ss : List Sl} {b c : Addr} {i j k : Int} {ns : { l : List Int // l.length ≤ 1000 }}
/-- the bag is written -/
theorem Sg.wbag (g : Sg Z Bg H O σ ss) (hb : Bg = some b) (h1 : ¬ O c) (h2 : ¬ Z c) (h3 : H c = some (.lst (ns.1.map V.int))) : Sg Z Bg (upd H b (.lst [.int i, .int j, .int k, .ref c])) O σ ss ∧ Stp O O H (upd H b (.lst [.int i, .int j, .int k, .ref c])) := by
  obtain ⟨hO, _, _, _, _, _, q1, _⟩ := g.wd.bg b hb
  have hcb : c ≠ b := fun e => h1 (e ▸ hO)
  have st : Stp O O H (upd H b (.lst [.int i, .int j, .int k, .ref c])) := by
    refine ⟨fun a u h t => ?_, fun a o h n _ => ?_, fun a h _ => ?_, fun a h => .inl h, fun t p hp => tab_upd q1 (t p hp)⟩
    · rw [upd_ne (IsTp.ne h t q1 fun z => z)]; exact h
    · rw [upd_ne fun e => n (by rw [e]; exact hO)]; exact h
    · by_cases e : a = b
      · rw [e, upd_same]; exact fun z => nomatch z
      · rw [upd_ne e]; exact h
  refine ⟨⟨⟨fun a w => ?_, g.wd.dj, fun b' hb' => ?_, st.tb g.wd.tb⟩, g.len, fun i v sl x1 x2 => ?_, g.ap⟩, st⟩
  · by_cases e : a = b
    · rw [e, upd_same]; exact fun z => nomatch z
    · rw [upd_ne e]; exact g.wd.al a w
  · rw [hb] at hb'; cases hb'
    exact ⟨hO, _, _, _, c, ns, upd_same, h1, h2, by rw [upd_ne hcb]; exact h3⟩
  · have y := g.sl i v sl x1 x2
    cases sl with
    | un => trivial
    | im d => obtain ⟨x, r, y⟩ := y; exact ⟨x, r, y.mv st⟩
    | own ds =>
      obtain ⟨l, xs, r, k1, k2, k3, k4⟩ := y
      exact ⟨l, xs, r, k1, k2, by rw [upd_ne fun e => k2 (by rw [hb, e])]; exact k3, k4.mv st⟩
    | obj u =>
      obtain ⟨l, r, k1, k2, k3, k4⟩ := y
      exact ⟨l, r, k1, k2, by rw [upd_ne fun e => k2 (by rw [hb, e])]; exact k3, k4⟩
    | ro l w => obtain ⟨r, k1, k2, k3, k4⟩ := y; exact ⟨r, k1, k2, by rw [upd_ne fun e => k1 (by rw [e]; exact hO)]; exact k3, k4⟩
    | bag => exact y
end
/-- an int of which p holds -/
abbrev EvI (ss : List Sl) (te : TE) (p : Int → Prop) : Prop := EvP ss te (fun d => ∃ n, d = .int n ∧ p n)
abbrev any : Int → Prop := fun _ => True
section
variable {K : PySem.W.Frag} {ss : List Sl} {te tf : TE} {p q r : Int → Prop} {i : Nat} {N : List Sl → Prop} {R : D → Prop} {B C : List Sl → Prop} {PL PL' : List D → Prop} {m n : Int}
theorem EvI.of (h : EvD ss te (.int n)) (hp : p n) : EvI ss te p := h.is ⟨n, rfl, hp⟩
theorem EvI.mono (h : EvI ss te p) (f : ∀ n, p n → q n) : EvI ss te q := EvP.mono h fun d ⟨n, e, hp⟩ => ⟨n, e, f n hp⟩
theorem rd_I' {C : Int → Int → Prop} {g : Int → Int → Int} {P : D → Prop} (hc : C m n) (hf : P (.int (g m n))) : RdP (rI C fun i j => .int (g i j)) (.int m) (.int n) P := rd_of fun H O Z x y Q ha hb q => by
  cases ha
  cases hb
  exact ⟨m, n, rfl, rfl, hc, q _ _ hf (.int _)⟩
theorem rd_I0' {g : Int → Int → Int} {P : D → Prop} (hf : P (.int (g m n))) : RdP (rI0 fun i j => .int (g i j)) (.int m) (.int n) P := rd_of fun H O Z x y Q ha hb q => by
  cases ha
  cases hb
  exact ⟨m, n, rfl, rfl, q _ _ hf (.int _)⟩
theorem evi_op0 {g : Int → Int → Int} (h : EvI ss te p) (h' : EvI ss tf q) (f : ∀ a b, p a → q b → r (g a b)) : EvI ss (tOp (rI0 fun i j => .int (g i j)) te tf) r := ev_op h h' fun a b ⟨m, e1, h1⟩ ⟨n, e2, h2⟩ => by
  subst e1 e2
  exact rd_I0' ⟨_, rfl, f m n h1 h2⟩
theorem evi_op {C : Int → Int → Prop} {g : Int → Int → Int} (h : EvI ss te p) (h' : EvI ss tf q) (hc : ∀ a b, p a → q b → C a b) (f : ∀ a b, p a → q b → r (g a b)) : EvI ss (tOp (rI C fun i j => .int (g i j)) te tf) r := ev_op h h' fun a b ⟨m, e1, h1⟩ ⟨n, e2, h2⟩ => by
  subst e1 e2
  exact rd_I' (hc m n h1 h2) ⟨_, rfl, f m n h1 h2⟩
theorem evi_add (h : EvI ss te p) (h' : EvI ss tf q) (f : ∀ a b, p a → q b → r (a + b)) : EvI ss (tOp (rPlus K) te tf) r := ev_op h h' fun a b ⟨m, e1, h1⟩ ⟨n, e2, h2⟩ => by
  subst e1 e2
  exact rd_inl (rd_I0' ⟨_, rfl, f m n h1 h2⟩)
theorem evi_mul (h : EvI ss te p) (h' : EvI ss tf q) (hc : ∀ a b, p a → q b → CMul a b) (f : ∀ a b, p a → q b → r (a * b)) : EvI ss (tOp (rMul K) te tf) r := ev_op h h' fun a b ⟨m, e1, h1⟩ ⟨n, e2, h2⟩ => by
  subst e1 e2
  exact rd_inl (rd_I' (hc m n h1 h2) ⟨_, rfl, f m n h1 h2⟩)
theorem evi_mod (h : EvI ss te p) (h' : EvD ss tf (.int n)) (hn : 0 < n) : EvI ss (tOp (rI (fun _ j => 0 < j) fun i j => .int (i % j)) te tf) (fun x => 0 ≤ x ∧ x < n) := evi_op (q := fun x => x = n) h (EvI.of h' rfl) (fun a b _ e => by rw [e]; exact hn) fun a b _ e => by
  rw [e]
  exact ⟨Int.emod_nonneg _ (by omega), Int.emod_lt_of_pos _ hn⟩
theorem evi_div (h : EvI ss te p) (h' : EvD ss tf (.int n)) (hn : 0 < n) (hb : n < 1073741824) : EvI ss (tOp (rI CDiv fun i j => .int (i / j)) te tf) any := evi_op (q := fun x => x = n) h (EvI.of h' rfl) (fun a b _ e => by rw [e]; exact ⟨hn, hb⟩) fun a b _ _ => trivial
theorem evi_int (h : EvI ss te p) : EvI ss (tCB rInt1 (tCons te tNil)) p := ev_cb (ea_one h) fun ds ⟨d, e, n, e2, hp⟩ H O Z vs Q nn hd q => by
  subst e e2
  cases hd with
  | cons h t =>
    cases t
    cases h
    exact .inl ⟨n, rfl, q _ _ _ ⟨n, rfl, hp⟩ Ext.refl (.int _)⟩
theorem evi_abs (h : EvI ss te p) : EvI ss (tCB rAbs (tCons te tNil)) any := ev_cb (ea_one h) fun ds ⟨d, e, n, e2, hp⟩ H O Z vs Q nn hd q => by
  subst e e2
  cases hd with
  | cons h t =>
    cases t
    cases h
    exact ⟨n, rfl, q _ _ _ ⟨_, rfl, trivial⟩ Ext.refl (.int _)⟩
theorem evi_max (h : EvI ss te p) (h' : EvI ss tf q) (f : ∀ a b, p a → q b → r (max a b)) : EvI ss (tCB rMax2 (tCons te (tCons tf tNil))) r := ev_cb (ea_consP h (ea_one h')) fun ds ⟨_, _, e, ⟨m, e1, h1⟩, _, e2, n, e3, h2⟩ H O Z vs Q nn hd w => by
  subst e e1 e2 e3
  cases hd with
  | cons x t =>
  cases t with
  | cons y t =>
  cases t
  cases x
  cases y
  exact ⟨m, n, rfl, by rw [ite_max]; exact w _ _ _ ⟨_, rfl, f m n h1 h2⟩ Ext.refl (.int _)⟩
theorem evi_min (h : EvI ss te p) (h' : EvI ss tf q) (f : ∀ a b, p a → q b → r (min a b)) : EvI ss (tCB rMin2 (tCons te (tCons tf tNil))) r := ev_cb (ea_consP h (ea_one h')) fun ds ⟨_, _, e, ⟨m, e1, h1⟩, _, e2, n, e3, h2⟩ H O Z vs Q nn hd w => by
  subst e e1 e2 e3
  cases hd with
  | cons x t =>
  cases t with
  | cons y t =>
  cases t
  cases x
  cases y
  exact ⟨m, n, rfl, by rw [ite_min]; exact w _ _ _ ⟨_, rfl, f m n h1 h2⟩ Ext.refl (.int _)⟩
/-- a test of two ints -/
theorem evb_op {g : Int → Int → Bool} (h : EvI ss te p) (h' : EvI ss tf q) {P : Bool → Prop} (f : ∀ a b, p a → q b → P (g a b)) : EvB ss (tTest (tOp (rI0 fun i j => .bl (g i j)) te tf)) P := eb_test (ev_op h h' fun a b ⟨m, e1, h1⟩ ⟨n, e2, h2⟩ => by
  subst e1 e2
  exact rd_of fun H O Z x y Q ha hb q => by
    cases ha
    cases hb
    exact ⟨m, n, rfl, rfl, q _ _ ⟨_, rfl, f m n h1 h2⟩ (.bl _)⟩)
theorem evb_eq (h : EvI ss te p) (h' : EvI ss tf q) {P : Bool → Prop} (f : ∀ a b, p a → q b → P (decide (a = b))) : EvB ss (tTest (tOp (rEqD K) te tf)) P := eb_test (ev_eq h h' fun a b ⟨m, e1, h1⟩ ⟨n, e2, h2⟩ => by
  subst e1 e2
  refine ⟨rfl, rfl, _, rfl, ?_⟩
  have e : PyData.eqv (.int m) (.int n) = decide (m = n) := rfl
  show P (PyData.eqv (.int m) (.int n))
  rw [e]; exact f m n h1 h2)
/-! ### lists -/
/-- a list of which P holds, as data -/
abbrev EvL' (ss : List Sl) (te : TE) (P : List D → Prop) : Prop := EvP ss te (fun x => ∃ ds, x = .lst ds ∧ P ds)
theorem evl_cat {PL2 : List D → Prop} (h : EvL' ss te PL) (h' : EvL' ss tf PL') (hz : ∀ a b, PL a → PL' b → a.length + b.length ≤ 100000 ∧ PL2 (a ++ b)) : EvL' ss (tOp (rPlus K) te tf) PL2 := ev_op h h' fun a b ⟨ds, e1, h1⟩ ⟨es, e2, h2⟩ => by
  subst e1 e2
  intro H O Z x y Q nn hx hy q
  obtain ⟨hz, hp⟩ := hz ds es h1 h2
  cases hx with
  | lst n1 z1 e1 d1 =>
  cases hy with
  | lst n2 z2 e2 d2 =>
  refine .inr (.inl ⟨_, _, _, _, rfl, rfl, e1, e2, by rw [d1.length, d2.length]; exact sz_of hz, fun p hp' => ?_⟩)
  obtain ⟨k1, k2⟩ := nn p hp'
  exact q _ _ _ ⟨_, rfl, hp⟩ (Ext.new hp') (.lst k1 k2 upd_same ((d1.append d2).mv (Ext.stp (Ext.new hp'))))
/-- an item of a list, of a tuple; which one is not known -/
theorem ev_ixAny {P : D → Prop} {a : D} {ds : List D} (h : EvD ss te a) (hl : a = .lst ds ∨ a.items = some ds) (h' : EvI ss tf (fun n => 0 ≤ n ∧ n < ds.length)) (hp : ∀ d ∈ ds, P d) : EvP ss (tOp (rIx K) te tf) P := ev_op h h' fun a' b e ⟨n, e2, h1, h2⟩ => by
  subst e e2
  refine rd_of fun H O Z x y Q ha hb q => ?_
  cases hb
  obtain ⟨k, rfl⟩ : ∃ k : Nat, n = (k : Int) := ⟨n.toNat, by omega⟩
  have hk : k < ds.length := by omega
  have he : ds[k]? = some ds[k] := List.getElem?_eq_getElem hk
  rcases hl with rfl | hi
  · cases ha with
    | lst n z h3 h4 =>
      obtain ⟨v, h5, h6⟩ := atI_dq h4 (atI_k he)
      exact .inl ⟨_, _, _, v, rfl, rfl, SqL.of h3, h5, q _ _ (hp _ (List.getElem_mem hk)) h6⟩
  · obtain ⟨p, xs, rfl, h3, h4⟩ := ha.tupV (K := K) hi
    obtain ⟨v, h5, h6⟩ := atI_dq h4 (atI_k he)
    exact .inr (.inl ⟨_, _, _, v, rfl, rfl, h3, h5, q _ _ (hp _ (List.getElem_mem hk)) h6⟩)
/-! ### the bag -/
theorem ev_bagI (hb : ss[i]? = some .bag) (hm : m = 0 ∨ m = 1 ∨ m = 2) : EvI ss (tOp (rIx K) (tVar i) (tC (.int m))) any := fun Z Bg σ H O Q g q => by
  obtain ⟨v, e, b, rfl, hB⟩ := g.at_ hb
  obtain ⟨hO, x, y, z, c, ns, h1, h2, h3, h4⟩ := g.wd.bg b hB
  refine ⟨_, e, ?_⟩
  rcases hm with rfl | rfl | rfl
  · exact .inl ⟨b, _, _, .int x, rfl, rfl, SqL.of h1, rfl, q _ _ _ ⟨x, rfl, trivial⟩ g Stp.refl (.int _)⟩
  · exact .inl ⟨b, _, _, .int y, rfl, rfl, SqL.of h1, rfl, q _ _ _ ⟨y, rfl, trivial⟩ g Stp.refl (.int _)⟩
  · exact .inl ⟨b, _, _, .int z, rfl, rfl, SqL.of h1, rfl, q _ _ _ ⟨z, rfl, trivial⟩ g Stp.refl (.int _)⟩
abbrev Ints : List D → Prop := fun ds => ∃ ns : List Int, ds = ns.map .int ∧ ns.length ≤ 1000
theorem ev_bagL (hb : ss[i]? = some .bag) : EvL' ss (tOp (rIx K) (tVar i) (tC (.int 3))) Ints := fun Z Bg σ H O Q g q => by
  obtain ⟨v, e, b, rfl, hB⟩ := g.at_ hb
  obtain ⟨hO, x, y, z, c, ns, h1, h2, h3, h4⟩ := g.wd.bg b hB
  exact ⟨_, e, .inl ⟨b, _, _, .ref c, rfl, rfl, SqL.of h1, rfl, q _ _ _ ⟨_, rfl, ns.1, rfl, ns.2⟩ g Stp.refl (.lst h2 h3 h4 (DqAll.ints ns.1))⟩⟩
theorem ht_setBag (hb : ss[i]? = some .bag) (hm : m = 0 ∨ m = 1 ∨ m = 2) (h : EvI ss te p) (hn : N ss) : HT ss (tAsg te (gSub (tVar i) (tC (.int m)) rSetL)) N R B C := fun Z Bg σ H O E g nn r b c => h Z Bg σ H O _ g fun v H1 d ⟨n, ed, _⟩ g1 s1 hd => by
  subst ed
  cases hd
  obtain ⟨v, e, b, rfl, hB⟩ := g1.at_ hb
  obtain ⟨hO, x, y, z, c, ns, h1, h2, h3, h4⟩ := g1.wd.bg b hB
  rcases hm with rfl | rfl | rfl
  · obtain ⟨g3, s3⟩ := Sg.wbag (i := n) (j := y) (k := z) g1 hB h2 h3 h4
    exact ⟨_, e, b, _, _, 0, rfl, rfl, h1, rfl, nn _ _ _ O hn g3 (s1.trans s3)⟩
  · obtain ⟨g3, s3⟩ := Sg.wbag (i := x) (j := n) (k := z) g1 hB h2 h3 h4
    exact ⟨_, e, b, _, _, 1, rfl, rfl, h1, rfl, nn _ _ _ O hn g3 (s1.trans s3)⟩
  · obtain ⟨g3, s3⟩ := Sg.wbag (i := x) (j := y) (k := n) g1 hB h2 h3 h4
    exact ⟨_, e, b, _, _, 2, rfl, rfl, h1, rfl, nn _ _ _ O hn g3 (s1.trans s3)⟩
/-- bag[2] += 1 -/
theorem ht_augBag (hb : ss[i]? = some .bag) (hn : N ss) : HT ss (tAugS (tVar i) (tC (.int 2)) (tC (.int 1)) (gL K) (ipI fun i j => i + j) rSetL) N R B C := fun Z Bg σ H O E g nn r b c => by
  obtain ⟨v, e, b, rfl, hB⟩ := g.at_ hb
  obtain ⟨hO, x, y, z, c, ns, h1, h2, h3, h4⟩ := g.wd.bg b hB
  obtain ⟨g3, s3⟩ := Sg.wbag (i := x) (j := y) (k := z + 1) g hB h2 h3 h4
  exact ⟨_, e, b, _, 2, .int z, rfl, rfl, SqL.of h1, by omega, rfl, z, 1, rfl, rfl, b, _, _, 2, rfl, rfl, h1, rfl, nn _ _ _ O hn g3 s3⟩
/-- l[a:] of such a list -/
theorem evl_slF (h : EvL' ss te Ints) (h' : EvI ss tf p) : EvL' ss (tSl (rSl K) te (tPart tf) tNoPart) Ints := fun Z Bg σ H O Q g q => h Z Bg σ H O _ g fun v H1 d ⟨ds, ed, ns, en, hln⟩ g1 s1 hd => by
  subst ed en
  refine h' Z Bg σ H1 O _ g1 fun w H2 d2 ⟨m, e2, _⟩ g2 s2 hd2 => ?_
  subst e2
  cases hd2
  have hd3 := hd.mv s2
  cases hd3 with
  | lst n1 z1 h4 h5 =>
    refine ⟨m, rfl, .inl ⟨_, _, rfl, SqL.of h4, fun l hl => ?_⟩⟩
    obtain ⟨k1, k2⟩ := g2.nn l hl
    have := cut_dq (lo := some m) (hi := none) h5
    refine q _ _ _ ⟨_, rfl, ?_⟩ (g2.ext (Ext.new hl)) ((s1.trans s2).trans (Ext.stp (Ext.new hl))) (.lst k1 k2 upd_same (this.mv (Ext.stp (Ext.new hl))))
    unfold Lg.cutD
    exact ⟨_, by rw [← List.map_drop, ← List.map_take], by rw [List.length_take, List.length_drop]; omega⟩
end
end FK
end
section
set_option Elab.async false
set_option linter.all false
set_option maxRecDepth 100000
/-! Loops over what is not known; more short rules. -/
namespace FK
open PySem PySem.Spec PyProof.Rows L2 Lg Lr RZ FM
variable [tbs : Tbs]
def SrcX (ss : List Sl) (wi : TI) (P : Nat → (Nat → D) → Prop) : Prop := ∀ (Z : Av) (Bg : Option Addr) (σ : L2.St) (H : Hp) (O : Av) (R : It → Hp → Prop), Sg Z Bg H O σ ss →
  (∀ n el J H', P n el → Sg Z Bg H' O σ ss → Stp O O H H' → (∀ O1 H1 (Z1 : Av), Stp O O1 H' H1 → (∀ a, Z1 a → Z a ∨ H' a = none) → (∀ p, H1 p = none → ¬ O1 p ∧ ¬ Z1 p) →
    (∀ i, i < n → J.go i H1) ∧ J.stop n H1 ∧ ∀ i x H2, i < n → J.yld i H1 x H2 → Ext H1 H2 ∧ Dq H2 O1 Z1 x (el i)) → R J H') → wi σ H R
section
variable {K : PySem.W.Frag} {ss : List Sl} {te tf : TE} {ta : TA} {tb : TS} {g : TG} {wi w1 w2 : TI} {P : Nat → (Nat → D) → Prop} {p : Int → Prop} {PL : List D → Prop} {PS : List Sl → Prop} {i : Nat} {N : List Sl → Prop} {R : D → Prop} {B C : List Sl → Prop} {a d : D} {ds : List D} {Pd : D → Prop}
theorem SrcX.inl (h : SrcX ss w1 P) : SrcX ss (fun σ H R => w1 σ H R ∨ w2 σ H R) P := fun Z Bg σ H O R g k => .inl (h Z Bg σ H O R g k)
theorem SrcX.inr (h : SrcX ss w2 P) : SrcX ss (fun σ H R => w1 σ H R ∨ w2 σ H R) P := fun Z Bg σ H O R g k => .inr (h Z Bg σ H O R g k)
theorem srcx_rng (h : EvI ss te p) (hp : ∀ n, p n → 0 ≤ n ∧ n ≤ 1000000) : SrcX ss (iRng1 (tCons te tNil)) (fun m el => p (m : Int) ∧ el = fun i => .int (i : Int)) := fun Z Bg σ H O R g k =>
  h Z Bg σ H O _ g fun v H' d ⟨n, e, pn⟩ g' s hd => by
    subst e
    cases hd
    obtain ⟨h1, h2⟩ := hp n pn
    refine ⟨n, rfl, by omega, by omega, k n.toNat _ _ H' ⟨by rw [Int.toNat_of_nonneg h1]; exact pn, rfl⟩ g' s fun O1 H1 Z1 s1 hz nn => ⟨fun i hi => hi, Nat.le_refl _, fun i x H2 hi hy => ?_⟩⟩
    obtain ⟨rfl, rfl⟩ := hy
    refine ⟨Ext.refl, ?_⟩
    rw [Int.zero_add]; exact .int _
theorem srcx_lst (h : EvL' ss te PL) : SrcX ss (iList K te) (fun n el => ∃ ds, PL ds ∧ n = ds.length ∧ el = dAt ds) := fun Z Bg σ H O R g k => h Z Bg σ H O _ g fun v H' d ⟨ds, e, pd⟩ g' s hd => by
  subst e
  cases hd with
  | lst n z h1 h2 =>
    refine ⟨_, rfl, ⟨_, SqL.of h1⟩, k _ _ _ H' ⟨ds, pd, rfl, rfl⟩ g' s fun O1 H1 Z1 s1 hz nn => ?_⟩
    have h1' := SqL.of (K := K) (s1.kp _ _ h1 n nofun)
    have h2' := DqAll.mz s1 hz h2
    refine ⟨fun i hi => ?_, ⟨_, h1', Nat.le_of_eq h2.length⟩, fun i x H2 hi hy => ?_⟩
    · obtain ⟨x, hx⟩ := vAt h2 hi; exact ⟨_, x, h1', hx⟩
    · obtain ⟨rfl, hx⟩ := hy; exact ⟨Ext.refl, dqAt h2' (hx _ h1')⟩
theorem ht_forX (hs : SrcX ss wi P) (step : ∀ n el, P n el → ∃ I : Nat → List Sl → Prop, I 0 ss ∧ (∀ i ss1, i < n → I i ss1 → ∃ ss2 js, Tgt g ss1 (el i) ss2 js ∧ HT ss2 tb (I (i + 1)) R N (I (i + 1))) ∧ ∀ ss1, I n ss1 → N ss1) :
    HT ss (tFor wi g tb) N R B C := fun Z Bg σ H O E gg nn r b c =>
  hs Z Bg σ H O _ gg fun n el J H' hp g' s' walk => by
    obtain ⟨I, h0, step, hd⟩ := step n el hp
    refine ⟨fun i m σ1 H1 => m = n - i ∧ i ≤ n ∧ ∃ O1 ss1, I i ss1 ∧ Sg Z Bg H1 O1 σ1 ss1 ∧ Stp O O1 H' H1, ⟨n, by simp, Nat.zero_le _, O, ss, h0, g', Stp.refl⟩, ?_⟩
    rintro i m σ1 H1 ⟨rfl, hi, O1, ss1, hI, g1, s1⟩
    obtain ⟨w1, w2, w3⟩ := walk O1 H1 Z s1 (fun a h => .inl h) g1.nn
    by_cases hlt : i < n
    · refine .inr ⟨w1 i hlt, fun σ2 H2 => ∃ O2 ss2, I (i + 1) ss2 ∧ Sg Z Bg H2 O2 σ2 ss2 ∧ Stp O O2 H' H2, fun σ' H'' q => ⟨n - (i + 1), by omega, rfl, hlt, q⟩, fun x H2 hy => ?_⟩
      obtain ⟨e2, hd2⟩ := w3 i x H2 hlt hy
      obtain ⟨ss2, js, ht, hb⟩ := step i ss1 hlt hI
      refine ht Z Bg σ1 H2 O1 x _ (g1.ext e2) hd2 fun σ3 H3 g3 s3 _ _ => ?_
      have st : Stp O O1 H' H3 := (s1.trans (Ext.stp e2)).trans s3
      exact hb Z Bg σ3 H3 O1 _ g3 (fun ss' σ' H4 O4 p4 g4 s4 => ⟨O4, ss', p4, g4, st.trans s4⟩) (fun d v H4 O4 p4 w4 s4 hd4 => r d v H4 O4 p4 w4 (s'.trans (st.trans s4)) hd4)
        (fun ss' σ' H4 O4 p4 g4 s4 => nn ss' σ' H4 O4 p4 g4 (s'.trans (st.trans s4))) (fun ss' σ' H4 O4 p4 g4 s4 => ⟨O4, ss', p4, g4, st.trans s4⟩)
    · have e : i = n := by omega
      subst e
      exact .inl ⟨w2, nn ss1 σ1 H1 O1 (hd ss1 hI) g1 (s'.trans s1)⟩
/-- a, b, .. = x, y, .. -/
theorem ht_tupasgB {gs : TGs} {n : Nat} (h : EvM ss ta PS) (hn : n ≤ 1000) (f : ∀ x, PS x → x.length = n ∧ TgM gs x ss N) : HT ss (tAsg (tTupB ta) (gTup K n gs)) N R B C := fun Z Bg σ H O E g nn r b c => .inl (ht_tupasg (K := K) h hn f Z Bg σ H O E g nn r b c)
/-- l[k] -= 1, l a list of one's own -/
theorem ht_augOwn {k : Nat} {m n : Int} {f : Int → Int → Int} (hi : ss[i]? = some (.own ds)) (h : EvD ss te (dN k)) (hd : ds[k]? = some (.int m)) (hn : N (ss.set i (.own (ds.set k (.int (f m n)))))) : HT ss (tAugS (tVar i) te (tC (.int n)) (gL K) (ipI f) rSetL) N R B C := fun Z Bg σ H O E g nn r b c => by
  obtain ⟨l0, xs0, e0, _⟩ := g.own hi
  refine ⟨_, e0, h Z Bg σ H O _ g fun x H2 kd pk g2 s2 hx => ?_⟩
  subst pk; cases hx
  obtain ⟨l, xs, e, hO, _, h1, h2⟩ := g2.own hi
  rw [e0] at e; cases e
  obtain ⟨v, h3, h4⟩ := h2.get hd
  cases h4
  have hk : k < ds.length := (List.getElem?_eq_some_iff.mp hd).1
  obtain ⟨g3, s3⟩ := g2.write hi e0 (DqAll.set (.int (f m n)) k h2)
  exact ⟨l0, xs, (k : Int), .int m, rfl, rfl, SqL.of h1, by omega, h3, m, n, rfl, rfl, l0, xs, (k : Int), k, rfl, rfl, h1, by rw [h2.length]; exact ixN_of hk, nn _ _ _ O hn g3 (s2.trans s3)⟩
/-! ### displays all of whose items are alike -/
theorem ea_none : EvA ss tNil (fun x => x.length = 0 ∧ ∀ d ∈ x, Pd d) := EvA.mono ea_nil fun x h => by subst h; exact ⟨rfl, fun d h => by cases h⟩
theorem ea_more {n : Nat} (h : EvP ss te Pd) (hr : EvA ss ta (fun x => x.length = n ∧ ∀ d ∈ x, Pd d)) : EvA ss (tCons te ta) (fun x => x.length = n + 1 ∧ ∀ d ∈ x, Pd d) := EvA.mono (ea_consP h hr) fun x ⟨d, ds, e, h1, h2, h3⟩ => by
  subst e
  exact ⟨by rw [List.length_cons, h2], fun y hy => (List.mem_cons.mp hy).elim (fun z => z ▸ h1) (h3 y)⟩
end
end FK
end
section
set_option Elab.async false
set_option linter.all false
set_option maxRecDepth 100000
/-! The drawing: bag, take, one, mixed, house. -/
namespace FK
open PySem PySem.Spec PyProof.Rows L2 Lg Lr RZ FM
variable [tbs : Tbs]
section
variable {K : PySem.W.Frag}
/-! ### the bag -/
theorem ev_absD {ss : List Sl} {te : TE} {n : Int} (h : EvD ss te (.int n)) : EvD ss (tCB rAbs (tCons te tNil)) (.int (if n < 0 then -n else n)) := ev_cb (ea1 h) fun ds e H O Z vs Q nn hd q => by
  subst e
  cases hd with
  | cons h t =>
    cases t
    cases h
    exact ⟨n, rfl, q _ _ _ rfl Ext.refl (.int _)⟩
def A_law_bag (x : List Int) : List D := [.lst (x.map .int)]
def P_law_bag (ds : List D) : Prop := ∃ (i j k : Int) (ns : List Int), ds = [.int i, .int j, .int k, .lst (ns.map .int)] ∧ ns.length ≤ 1000
def sp_law_bag : Sp := spN A_law_bag (fun _ => True) (fun _ ds => P_law_bag ds)
theorem c_law_bag (vs H Q E) (p : sp_law_bag vs H Q E) : t_law_bag K (fin Q) (L2.start N_law_bag vs) H := by
  refine body_N (fun xs _ => ⟨by show 1 ≤ 2; decide, htn_ret (EvN.mono (en_lst (PL := fun ds => P_law_bag ds) (EvA.mono (ea_consP (ev_int (n := 0)) (ea_consP (ev_int (n := 1234567891)) (ea_consP (ev_int (n := 0)) (ea_one (EvN.p (en_lcA (n := (xs.take 63).length) (el := fun i => .int ((xs.take 63).getD i 0)) (f := fun i => .int (if (xs.take 63).getD i 0 < 0 then -(xs.take 63).getD i 0 else (xs.take 63).getD i 0)) ?_ ?_ rfl ?_)))))) ?_) ?_) fun x h => h)⟩) p
  · have h := src_lst (K := K) (ss := ims (A_law_bag xs) N_law_bag.length) (te := tSl (rSl K) (tVar 0) tNoPart (tPart (tC (.int 63)))) (EvN.dat (en_slL (ev_var (i := 0) rfl) eo_none (eo_some ev_int)))
    rw [show (63 : Int) = ((63 : Nat) : Int) from rfl, cut_to, ← List.map_take, List.length_map] at h
    exact (Src.inl (src_el h fun i hi => dAt_map (a := (xs.take 63).getD i 0) (by rw [List.getD_eq_getElem?_getD, List.getElem?_eq_getElem hi]; rfl))).c
  · rw [List.length_take]; omega
  · intro i hi
    exact ⟨_, _, tgt_name, by decide, rfl, ev_absD (ev_var (i := 1) rfl)⟩
  · rintro x ⟨_, _, rfl, rfl, _, _, rfl, rfl, _, _, rfl, rfl, _, rfl, l, rfl, rfl⟩
    exact ⟨_, _, _, (List.range (xs.take 63).length).map fun i => (if (xs.take 63).getD i 0 < 0 then -(xs.take 63).getD i 0 else (xs.take 63).getD i 0), by rw [List.map_map]; rfl, by rw [List.length_map, List.length_range, List.length_take]; omega⟩
  · rintro ds ⟨i, j, k, ns, rfl, _⟩
    exact Nat.le_of_ble_eq_true rfl
/-! ### take -/
def A_law_take (m : Nat) : List D := [dN m]
def sp_law_take : Sp := spB A_law_take (fun m => 0 < m ∧ m ≤ 1000) (fun m d => ∃ n : Nat, d = dN n ∧ n < m)
theorem c_law_take (vs H Q E) (p : sp_law_take vs H Q E) : t_law_take K (fin Q) (L2.start N_law_take vs) H := by
  refine body_B (fun m hm => ⟨by show 2 ≤ 7; decide, ?_⟩) p
  obtain ⟨h0, h1⟩ := hm
  let S : Sl → Sl → Sl → Sl → Sl → List Sl := fun a b c d e => [.bag, .im (dN m), a, b, c, d, e]
  have fin_ : ∀ {ss : List Sl} {te : TE}, EvI ss te (fun x => 0 ≤ x ∧ x < (m : Int)) → EvP ss te (fun d => ∃ n : Nat, d = dN n ∧ n < m) := fun h => EvP.mono h fun d ⟨n, e, h2, h3⟩ => ⟨n.toNat, by rw [e]; show D.int n = D.int _; rw [Int.toNat_of_nonneg h2], by omega⟩
  refine ht_seq (N1 := fun s => ∃ a b, s = S a b .un .un .un) (ht_if (Bb := fun _ => True) (evb_eq (ev_bagI (i := 0) rfl (.inl rfl)) (EvI.of (p := any) ev_int trivial) fun _ _ _ _ => trivial) (fun _ => ?_) fun _ => ht_next ⟨_, _, rfl⟩) ?_
  · refine ht_seq (N1 := fun s => ∃ n : Int, s = S (.im (.int n)) .un .un .un .un) (ht_asg (P := fun d => ∃ n : Int, d = .int n) (ev_op (Pa := fun x => ∃ ds, x = .lst ds ∧ ∃ n r, ds = .int n :: r) (Pb := fun d => d = .int 0) (evl_cat (PL2 := fun ds => ∃ n r, ds = .int n :: r) (evl_slF (ev_bagL (i := 0) rfl) (ev_bagI (i := 0) rfl (.inr (.inr rfl)))) (EvN.p (en_d (ea1 (ev_int (n := 0))) one_le)) ?_) ev_int ?_) ?_) ?_
    · rintro a b ⟨ns, rfl, hln⟩ rfl
      refine ⟨?_, ?_⟩
      · rw [List.length_map]; simp; omega
      · cases ns with
        | nil => exact ⟨0, [], rfl⟩
        | cons n ns => exact ⟨n, _, rfl⟩
    · rintro a b ⟨_, rfl, n, r, rfl⟩ rfl
      refine rd_of fun H O Z x y Q ha hb q => ?_
      cases hb
      cases ha with
      | lst n1 z1 h3 h4 =>
        cases h4 with
        | cons hx t =>
          cases hx
          exact .inl ⟨_, _, 0, .int n, rfl, rfl, SqL.of h3, atI_nat (j := 0) rfl, q _ _ ⟨n, rfl⟩ (.int _)⟩
    · rintro d ⟨n, rfl⟩
      exact ⟨n, rfl⟩
    rintro ss1 ⟨n, rfl⟩
    refine ht_seq (N1 := fun s => s = S (.im (.int n)) .un .un .un .un) (ht_augBag rfl rfl) ?_
    rintro ss1 rfl
    refine ht_seq (N1 := fun s => s = S (.im (.int n)) .un .un .un .un) (ht_if (Bb := fun _ => True) (evb_op (p := any) (q := any) (EvI.of (ev_var (i := 2) rfl) trivial) (evi_op (C := CPow) (g := fun i j => i ^ j.toNat) (p := fun x => x = 10) (q := fun x => x = 18) (EvI.of ev_int rfl) (EvI.of ev_int rfl) (fun a b e1 e2 => by subst e1 e2; exact ⟨by omega, by omega, by decide⟩) fun _ _ _ _ => trivial) fun _ _ _ _ => trivial) (fun _ => ht_setBag (p := any) rfl (.inl rfl) (EvI.of (ev_var (i := 2) rfl) trivial) rfl) fun _ => ht_next rfl) ?_
    rintro ss1 rfl
    refine ht_seq (N1 := fun s => ∃ x : Int, s = S (.im (.int n)) (.im (.int x)) .un .un .un) (ht_asg (P := fun d => ∃ n, d = .int n ∧ any n) (evi_add (p := any) (q := any) (evi_add (p := any) (q := any) (evi_mul (q := fun x => x = 48271) (ev_bagI (i := 0) rfl (.inr (.inl rfl))) (EvI.of ev_int rfl) (fun a b _ e => by subst e; exact .inr (by omega)) fun _ _ _ _ => trivial) (EvI.mono (evi_mod (evi_int (EvI.of (p := any) (ev_var (i := 2) rfl) trivial)) ev_int (by omega)) fun _ _ => trivial) fun _ _ _ _ => trivial) (evi_mul (p := fun x => x = 7919) (EvI.of ev_int rfl) (ev_bagI (i := 0) rfl (.inr (.inr rfl))) (fun a b e _ => by subst e; exact .inl (by omega)) fun _ _ _ _ => trivial) fun _ _ _ _ => trivial) ?_) ?_
    · rintro d ⟨x, rfl, _⟩
      exact ⟨x, rfl⟩
    rintro ss1 ⟨x, rfl⟩
    exact ht_setBag (i := 0) rfl (.inr (.inl rfl)) (evi_mod (evi_int (EvI.of (p := any) (ev_var (i := 3) rfl) trivial)) ev_int (by omega)) ⟨_, _, rfl⟩
  rintro ss1 ⟨a, b, rfl⟩
  refine ht_seq (N1 := fun s => s = S a b .un .un .un) (ht_if (Bb := fun _ => True) (evb_op (ev_bagI (i := 0) rfl (.inl rfl)) (EvI.of (p := any) ev_int trivial) fun _ _ _ _ => trivial) (fun _ => ?_) fun _ => ht_next rfl) ?_
  · refine ht_seq (N1 := fun s => ∃ x : Int, s = S a b (.im (.int x)) .un .un ∧ 0 ≤ x ∧ x < (m : Int)) (ht_asg (evi_mod (evi_int (ev_bagI (i := 0) rfl (.inl rfl))) (ev_var (i := 1) rfl) (by omega)) ?_) ?_
    · rintro d ⟨x, rfl, h⟩
      exact ⟨x, rfl, h⟩
    rintro ss1 ⟨x, rfl, h2⟩
    refine ht_seq (N1 := fun s => s = S a b (.im (.int x)) .un .un) (ht_setBag (i := 0) rfl (.inl rfl) (evi_div (evi_int (ev_bagI (i := 0) rfl (.inl rfl))) (ev_var (i := 1) rfl) (by omega) (by omega)) rfl) ?_
    rintro ss1 rfl
    exact ht_ret (fin_ (EvI.of (ev_var (i := 4) rfl) h2)) fun d h => h
  rintro ss1 rfl
  refine ht_seq (N1 := fun s => ∃ x : Int, s = S a b .un (.im (.int x)) .un ∧ 0 ≤ x ∧ x < 1000000007) (ht_asg (evi_mod (evi_int (evi_mul (p := any) (q := fun x => x = 39373) (r := any) (evi_add (ev_bagI (i := 0) rfl (.inr (.inl rfl))) (EvI.of (p := any) ev_int trivial) fun _ _ _ _ => trivial) (EvI.of ev_int rfl) (fun a b _ e => by subst e; exact .inr (by omega)) fun _ _ _ _ => trivial)) ev_int (by omega)) ?_) ?_
  · rintro d ⟨x, rfl, h⟩
    exact ⟨x, rfl, h⟩
  rintro ss1 ⟨x, rfl, hx0, hx1⟩
  refine ht_seq (N1 := fun s => ∃ y : Int, s = S a b .un (.im (.int x)) (.im (.int y))) (ht_asg (evi_mod (evi_int (evi_mul (p := any) (q := fun x => x = 30011) (r := any) (EvI.mono (evi_mod (evi_int (evi_mul (p := fun z => z = x) (q := fun z => z = x) (r := any) (EvI.of (ev_var (i := 5) rfl) rfl) (EvI.of (ev_var (i := 5) rfl) rfl) (fun a b e1 e2 => by subst e1 e2; exact .inl (by omega)) fun _ _ _ _ => trivial)) ev_int (by omega)) fun _ _ => trivial) (EvI.of ev_int rfl) (fun a b _ e => by subst e; exact .inr (by omega)) fun _ _ _ _ => trivial)) ev_int (by omega)) ?_) ?_
  · rintro d ⟨y, rfl, h⟩
    exact ⟨y, rfl⟩
  rintro ss1 ⟨y, rfl⟩
  exact ht_ret (fin_ (evi_mod (evi_int (evi_div (EvI.of (p := any) (ev_var (i := 6) rfl) trivial) ev_int (by omega) (by omega))) (ev_var (i := 1) rfl) (by omega))) fun d h => h
end
end FK
end
section
set_option Elab.async false
set_option linter.all false
set_option maxRecDepth 100000
/-! The drawing: one of a list, a list mixed, a house. -/
namespace FK
open PySem PySem.Spec PyProof.Rows L2 Lg Lr RZ FM
variable [tbs : Tbs]
section
variable {K : PySem.W.Frag}
/-- a call of take -/
theorem ev_take {ss : List Sl} {te : TE} {i m : Nat} {E : XK} (hb : ss[i]? = some .bag) (h : EvD ss te (dN m)) (h0 : 0 < m) (h1 : m ≤ 1000) : EvP ss (tCall sp_law_take [] E (tCons (tVar i) (tCons te tNil))) (fun d => ∃ n : Nat, d = dN n ∧ n < m) := ev_callB (A := A_law_take) m hb (ea1 h) ⟨h0, h1⟩
def A_law_one (x : List D) : List D := [.lst x]
def sp_law_one : Sp := spB A_law_one (fun x => x ≠ [] ∧ x.length ≤ 1000) (fun x d => d ∈ x)
theorem c_law_one (vs H Q E) (p : sp_law_one vs H Q E) : t_law_one K sp_law_take (fin Q) (L2.start N_law_one vs) H := by
  refine body_B (fun x hx => ⟨by show 2 ≤ 2; decide, ?_⟩) p
  obtain ⟨h0, h1⟩ := hx
  have hpos : 0 < x.length := List.length_pos_iff.mpr h0
  have hl : EvD [.bag, .im (.lst x)] (tCB (Lg.rLen K) (tCons (tVar 1) tNil)) (dN x.length) := ev_lenV (EvD.v (ev_var rfl))
  refine ht_ret (P := fun d => d ∈ x) (ev_ixAny (ds := x) (ev_var (i := 1) rfl) (.inl rfl) (EvP.mono (ev_take (i := 0) rfl hl hpos h1) ?_) fun d h => h) fun d h => h
  rintro d ⟨n, rfl, h⟩
  exact ⟨(n : Int), rfl, by omega, by omega⟩
/-- a call of one -/
theorem ev_one {ss : List Sl} {te : TE} {i : Nat} {E : XK} {P : D → Prop} (hb : ss[i]? = some .bag) (h : EvL' ss te (fun x => x ≠ [] ∧ x.length ≤ 1000 ∧ ∀ d ∈ x, P d)) : EvP ss (tCall sp_law_one [] E (tCons (tVar i) (tCons te tNil))) P := ev_callBP (A := A_law_one) (PL := fun y => ∃ x, y = [.lst x] ∧ x ≠ [] ∧ x.length ≤ 1000 ∧ ∀ d ∈ x, P d) hb (EvA.mono (ea_one h) fun y ⟨d, e, x, e2, h⟩ => ⟨x, by rw [e, e2], h⟩) fun ds ⟨x, e, h1, h2, h3⟩ => ⟨x, e, ⟨h1, h2⟩, h3⟩
/-- .. of a display of ints -/
theorem ev_oneI {ss : List Sl} {ta : TA} {i n : Nat} {E : XK} {p : Nat → Prop} (hb : ss[i]? = some .bag) (h : EvA ss ta (fun x => x.length = n ∧ ∀ d ∈ x, ∃ k : Nat, d = dN k ∧ p k)) (h0 : 0 < n) (h1 : n ≤ 1000) : EvP ss (tCall sp_law_one [] E (tCons (tVar i) (tCons (tLst ta) tNil))) (fun d => ∃ k : Nat, d = dN k ∧ p k) := ev_one hb (EvP.mono (EvN.p (en_lst h fun ds h => by rw [h.1]; omega)) fun d ⟨ds, e, h2, h3⟩ => ⟨ds, e, fun z => by rw [z] at h2; simp at h2; omega, by omega, h3⟩)
theorem evn {ss : List Sl} {te : TE} {p : Nat → Prop} {k : Nat} (h : EvD ss te (dN k)) (hp : p k) : EvP ss te (fun d => ∃ k : Nat, d = dN k ∧ p k) := h.is ⟨k, rfl, hp⟩
/-! ### mixed -/
theorem ins_perm {α : Type} {es ds : List α} {k : Nat} {a : α} (h : es.Perm ds) : (es.take k ++ [a] ++ es.drop k).Perm (ds ++ [a]) := by
  have h1 : (es.take k ++ [a] ++ es.drop k).Perm (a :: (es.take k ++ es.drop k)) := by
    rw [List.append_assoc]
    exact List.perm_middle
  rw [List.take_append_drop] at h1
  exact h1.trans ((h.cons a).trans (List.perm_append_singleton a ds).symm)
def A_law_mixed (x : List D) : List D := [.lst x]
def sp_law_mixed : Sp := spB A_law_mixed (fun x => x.length ≤ 900) (fun x d => ∃ es, d = .lst es ∧ es.Perm x)
theorem c_law_mixed (vs H Q E) (p : sp_law_mixed vs H Q E) : t_law_mixed K sp_law_take (fin Q) (L2.start N_law_mixed vs) H := by
  refine body_B (fun x hx => ⟨by show 2 ≤ 4; decide, ?_⟩) p
  let S : List D → Sl → List Sl := fun es a => [.bag, .im (.lst x), .own es, a]
  refine ht_seq (N1 := fun s => s = S [] .un) (ht_asgNL en_nil rfl) ?_
  rintro ss1 rfl
  refine ht_seq (N1 := fun s => ∃ es a, s = S es a ∧ es.Perm x) (ht_for (n := x.length) (el := dAt x) (src_lst (ev_var (i := 1) rfl)).inl (fun k s => ∃ es a, s = S es a ∧ es.Perm (x.take k)) ⟨[], _, rfl, .refl _⟩ ?_ ?_) ?_
  · rintro k ss1 hk ⟨es, a, rfl, hp⟩
    have hel : es.length = k := by rw [hp.length_eq, List.length_take]; omega
    refine ⟨_, _, tgt_name, ?_⟩
    have hl : EvD (S es (.im (dAt x k))) (tOp (rPlus K) (tCB (Lg.rLen K) (tCons (tVar 2) tNil)) (tC (.int 1))) (dN (es.length + 1)) := (ev_add (m := (es.length : Int)) (n := 1) (ev_lenV (ev_own (i := 2) rfl)) ev_int).to rfl
    refine ht_insert (Pk := fun _ => True) rfl (EvP.mono (ev_take (i := 0) rfl hl (by omega) (by omega)) ?_) (ev_var (i := 3) rfl) (by omega) fun q hq => ⟨_, _, rfl, ?_⟩
    · rintro d ⟨n, rfl, h⟩
      exact ⟨n, rfl, by omega⟩
    · rw [List.take_add_one, dAt_some hk]
      exact ins_perm hp
  · rintro ss1 ⟨es, a, rfl, hp⟩
    rw [List.take_length] at hp
    exact ⟨es, a, rfl, hp⟩
  rintro ss1 ⟨es, a, rfl, hp⟩
  exact ht_freeze (i := 2) rfl (ht_retD (ev_var (i := 2) rfl) ⟨es, rfl, hp⟩)
/-! ### house -/
def A_law_house (t : Nat) : List D := [dN t, dN 3, dN 6]
def P_house (d : D) : Prop := ∃ n rooms, d = houseD n rooms ∧ HouseOk n rooms
def sp_law_house : Sp := spB A_law_house (fun t => t ≤ 5) (fun _ d => P_house d)
theorem rwB_last {rooms : List Nat} (h : 0 < rooms.length) : rwB rooms rooms.length = rw' rooms (rooms.length - 1) := by
  obtain ⟨k, e⟩ : ∃ k, rooms.length = k + 1 := ⟨rooms.length - 1, by omega⟩
  rw [e]; rfl
theorem rm_app {rooms : List Nat} {r j : Nat} (h : j < rooms.length) : rm (rooms ++ [r]) j = rm rooms j := by
  unfold rm
  rw [List.getD_eq_getElem?_getD, List.getD_eq_getElem?_getD, List.getElem?_append_left h]
theorem rm_last {rooms : List Nat} {r : Nat} : rm (rooms ++ [r]) rooms.length = r := by
  unfold rm
  rw [List.getD_eq_getElem?_getD]; simp
theorem rwB_app {rooms : List Nat} {r : Nat} : ∀ {i : Nat}, i ≤ rooms.length → rwB (rooms ++ [r]) i = rwB rooms i
  | 0, _ => rfl
  | i + 1, h => by
    rw [rwB_succ, rwB_succ, rwB_app (i := i) (by omega), rm_app (by omega)]
theorem c_law_house (vs H Q E) (p : sp_law_house vs H Q E) : t_law_house K sp_law_take sp_law_one (fin Q) (L2.start N_law_house vs) H := by
  refine body_B (fun t ht => ⟨by show 4 ≤ 8; decide, ?_⟩) p
  let S0 : Sl → Sl → Sl → Sl → List Sl := fun a b c d => [.bag, .im (dN t), .im (dN 3), .im (dN 6), a, b, c, d]
  have hadd1 : ∀ {ss : List Sl}, EvD ss (tVar 1) (dN t) → EvD ss (tOp (rPlus K) (tVar 1) (tC (.int 1))) (dN (t + 1)) := fun h => (ev_add (m := (t : Int)) (n := 1) h ev_int).to rfl
  have one_add : ∀ {ss : List Sl} {te : TE} {m : Nat}, EvP ss te (fun d => ∃ n : Nat, d = dN n ∧ n < m) → EvP ss (tOp (rPlus K) (tC (.int 1)) te) (fun d => ∃ k : Nat, d = dN k ∧ 1 ≤ k ∧ k ≤ m) := fun {ss te m} h => ev_op (Pa := fun d => d = .int 1) ev_int h fun a b ea ⟨n, eb, hn⟩ => by
    subst ea eb
    exact rd_inl (rd_I0' (g := fun i j => i + j) ⟨n + 1, by show D.int _ = D.int _; congr 1; omega, by omega, by omega⟩)
  refine ht_seq (N1 := fun s => ∃ many : Nat, s = S0 (.im (dN many)) .un .un .un ∧ many ≤ 5) (ht_asg (ev_oneI (i := 0) (n := 7) (p := fun k => k ≤ 5) rfl ?_ (by omega) (by omega)) ?_) ?_
  · refine ea_more (evn (ev_var (i := 1) rfl) ht) (ea_more (evn (ev_var (i := 1) rfl) ht) (ea_more (evn (k := 3) ev_int (by omega)) (ea_more (evn (k := 2) ev_int (by omega)) (ea_more (evn (k := 1) ev_int (by omega)) (ea_more (evn (k := 0) ev_int (by omega)) (ea_more (EvP.mono (ev_take (i := 0) rfl (hadd1 (ev_var rfl)) (by omega) (by omega)) ?_) ea_none))))))
    rintro d ⟨n, rfl, h⟩
    exact ⟨n, rfl, by omega⟩
  · rintro d ⟨n, rfl, h⟩
    exact ⟨n, rfl, h⟩
  rintro ss1 ⟨many, rfl, hmany⟩
  let S : List Nat → Nat → Sl → List Sl := fun r l d => [.bag, .im (dN t), .im (dN 3), .im (dN 6), .im (dN many), .own (r.map dN), .im (dN l), d]
  refine ht_seq (N1 := fun s => s = S [] 6 .un) (ht_par2 (em_oi en_nil (ev_var (i := 3) rfl)) rfl) ?_
  rintro ss1 rfl
  let Inv : Nat → Nat → List Nat → Nat → Prop := fun c k r l => (∀ j, j < r.length → 1 ≤ rm r j) ∧ rwB r r.length + l = 6 ∧ r.length ≤ k ∧ r.length ≤ 3 ∧ (0 < k → 0 < r.length)
  refine ht_seq (N1 := fun s => ∃ r l d, s = S r l d ∧ (∀ j, j < r.length → 1 ≤ rm r j) ∧ rwB r r.length + l = 6 ∧ r.length ≤ 3 ∧ 0 < r.length) (ht_forX (srcx_rng (p := fun n => 1 ≤ n ∧ n ≤ 3) (EvP.mono (ev_oneI (i := 0) (n := 5) (p := fun k => 1 ≤ k ∧ k ≤ 3) rfl (ea_more (evn (k := 3) (ev_var (i := 2) rfl) (by omega)) (ea_more (evn (k := 2) ev_int (by omega)) (ea_more (evn (k := 3) (ev_var (i := 2) rfl) (by omega)) (ea_more (evn (k := 1) ev_int (by omega)) (ea_more (one_add (ev_take (i := 0) (m := 3) rfl (ev_var (i := 2) rfl) (by omega) (by omega))) ea_none))))) (by omega) (by omega)) ?_) ?_) ?_) ?_
  · rintro d ⟨n, rfl, h1, h2⟩
    exact ⟨(n : Int), rfl, by omega, by omega⟩
  · intro n h; omega
  · rintro n el ⟨⟨hn1, hn3⟩, rfl⟩
    refine ⟨fun k s => ∃ r l d, s = S r l d ∧ Inv n k r l, ⟨[], 6, _, rfl, fun j h => absurd h (Nat.not_lt_zero _), rfl, Nat.le_refl _, Nat.zero_le _, fun h => absurd h (Nat.lt_irrefl _)⟩, ?_, ?_⟩
    · rintro k ss1 hk ⟨r, l, d, rfl, i1, i2, i3, i4, i5⟩
      refine ⟨_, _, tgt_name, ?_⟩
      refine ht_if (ss := S r l (.im (dN k))) (Bb := fun b => b = decide (0 < l)) ((eb_and2 (e := true) (eb_d (ev_gt (m := (l : Int)) (n := 0) (ev_var (i := 6) rfl) ev_int)) fun _ => (eb_d (ev_lt (m := (k : Int)) (n := 3) (ev_var (i := 7) rfl) (ev_var (i := 2) rfl))).mono fun b hb => by rw [hb]; simp; omega).mono fun b hb => by rw [hb]; simp) (fun hb => ?_) fun hb => ht_next ⟨r, l, _, rfl, i1, i2, by omega, i4, fun _ => ?_⟩
      · have hl : 0 < l := by simpa using hb.symm
        refine ht_seq (N1 := fun s => ∃ q, s = S (r ++ [q]) l (.im (dN k)) ∧ 1 ≤ q ∧ q ≤ l) (ht_append (ds := r.map dN) rfl (evi_min (p := fun x => x = (l : Int)) (q := fun x => 1 ≤ x) (r := fun x => 1 ≤ x ∧ x ≤ (l : Int)) (EvI.of (ev_var (i := 6) rfl) rfl) (EvP.mono (ev_oneI (i := 0) (n := 7) (p := fun k => 1 ≤ k) rfl (ea_more (evn (k := 1) ev_int (by omega)) (ea_more (evn (k := 2) ev_int (by omega)) (ea_more (evn (k := 1) ev_int (by omega)) (ea_more (evn (k := 3) ev_int (by omega)) (ea_more (evn (k := 1) ev_int (by omega)) (ea_more (evn (k := 2) ev_int (by omega)) (ea_more (EvP.mono (one_add (ev_take (i := 0) (m := 6) rfl (ev_var (i := 3) rfl) (by omega) (by omega))) ?_) ea_none))))))) (by omega) (by omega)) ?_) ?_) (by rw [List.length_map]; omega) ?_) ?_
        · rintro d ⟨n, rfl, h, _⟩
          exact ⟨n, rfl, h⟩
        · rintro d ⟨n, rfl, h⟩
          exact ⟨(n : Int), rfl, by omega⟩
        · intro a b e h; subst e; omega
        · rintro d ⟨x, rfl, h1, h2⟩
          refine ⟨x.toNat, ?_, by omega, by omega⟩
          show [_, _, _, _, _, Sl.own (r.map dN ++ [.int x]), _, _] = [_, _, _, _, _, Sl.own ((r ++ [x.toNat]).map dN), _, _]
          rw [List.map_append]
          have : D.int x = dN x.toNat := by show D.int x = D.int _; congr 1; omega
          rw [this]; rfl
        rintro ss1 ⟨q, rfl, hq1, hq2⟩
        refine ht_aug (m := (l : Int)) (n := (q : Int)) (f := fun i j => i - j) rfl (ev_ixOwn (i := 5) (ds := (r ++ [q]).map dN) rfl ev_n1 (atI_last (by rw [List.getLast?_map]; simp))) ⟨r ++ [q], l - q, .im (dN k), ?_, fun j hj => ?_, ?_, ?_, ?_, fun _ => by simp⟩
        · have : ((l : Int) - (q : Int)) = ((l - q : Nat) : Int) := by omega
          rw [this]; rfl
        · rw [List.length_append, List.length_singleton] at hj
          by_cases h : j < r.length
          · rw [rm_app h]; exact i1 j h
          · have : j = r.length := by omega
            subst this
            rw [rm_last]; exact hq1
        · rw [List.length_append, List.length_singleton, rwB_succ, rwB_app (Nat.le_refl _), rm_last]; omega
        · rw [List.length_append, List.length_singleton]; omega
        · rw [List.length_append, List.length_singleton]; omega
      · have hl : l = 0 := by have : ¬ 0 < l := by simpa using hb.symm
                              omega
        refine Classical.byContradiction fun z => ?_
        have : r = [] := List.length_eq_zero_iff.mp (by omega)
        subst this
        have e : rwB [] 0 = 0 := rfl
        simp at i2
        rw [e] at i2; omega
    · rintro ss1 ⟨r, l, d, rfl, i1, i2, i3, i4, i5⟩
      exact ⟨r, l, d, rfl, i1, i2, i4, i5 (by omega)⟩
  rintro ss1 ⟨r, l, d, rfl, i1, i2, i3, i4⟩
  refine ht_retD (ev_tB (ea2 (ev_min2 (m := (many : Int)) (n := (t : Int)) (ev_var (i := 4) rfl) (ev_var (i := 1) rfl)) (ev_tA (ev_own (i := 5) rfl))) (Nat.le_of_ble_eq_true rfl)) ⟨min many t, r, ?_, ⟨by omega, i4, i3, i1, ?_⟩⟩
  · show D.tup [.int _, _] = D.tup [.int _, _]
    congr 3
    omega
  · rw [← rwB_last i4]; omega
end
end FK
end
section
set_option Elab.async false
set_option linter.all false
set_option maxRecDepth 100000
/-! The drawing: a state, a start. -/
namespace FK
open PySem PySem.Spec PyProof.Rows L2 Lg Lr RZ FM
variable [tbs : Tbs]
/-! ### the plain part -/
/-- what is drawn of a state so far: the floors, the rooms left; from place k of es on all is out -/
structure DSt (rooms : List Nat) (n : Nat) (es : List Nat) (k : Nat) (st lf : List Nat) : Prop where
  is : IsSt rooms.length n st
  ll : lf.length = rooms.length
  cnt : ∀ j, j < rooms.length → st.count j + lf.getD j 0 ≤ rm rooms j
  out : ∀ q, k ≤ q → q < es.length → gof rooms.length st (es.getD q 0) = rooms.length
theorem count_set {st : List Nat} {y f j : Nat} (hy : y < st.length) : (st.set y f).count j + (if st.getD y 0 = j then 1 else 0) = st.count j + (if f = j then 1 else 0) := by
  induction st generalizing y with
  | nil => simp at hy
  | cons a st ih =>
    cases y with
    | zero =>
      rw [List.set_cons_zero, List.count_cons, List.count_cons]
      simp only [List.getD_cons_zero, beq_iff_eq]
      omega
    | succ y =>
      rw [List.set_cons_succ, List.count_cons, List.count_cons]
      have := ih (y := y) (by simpa using hy)
      simp only [List.getD_cons_succ]
      omega
theorem getD_set {l : List Nat} {i j v : Nat} (hi : i < l.length) : (l.set i v).getD j 0 = if j = i then v else l.getD j 0 := by
  rw [List.getD_eq_getElem?_getD, List.getD_eq_getElem?_getD, List.getElem?_set]
  by_cases h : i = j
  · subst h; simp [hi]
  · have : ¬ j = i := fun z => h z.symm
    simp [h, this]
section
variable {rooms : List Nat} {n : Nat} {es : List Nat} {k : Nat} {st lf : List Nat}
theorem DSt.skip (I : DSt rooms n es k st lf) : DSt rooms n es (k + 1) st lf := ⟨I.is, I.ll, I.cnt, fun q h1 h2 => I.out q (by omega) h2⟩
theorem DSt.put (I : DSt rooms n es k st lf) (hp : es.Perm (List.range n)) (hk : k < es.length) {f : Nat} (hf : f < rooms.length) (hr : 0 < lf.getD f 0) : DSt rooms n es (k + 1) (st.set (es.getD k 0) f) (lf.set f (lf.getD f 0 - 1)) := by
  have hx : es.getD k 0 < n := by
    have : es.getD k 0 ∈ es := by rw [List.getD_eq_getElem?_getD, List.getElem?_eq_getElem hk]; exact List.getElem_mem hk
    exact List.mem_range.mp (hp.mem_iff.mp this)
  have hxs : es.getD k 0 < st.length := by rw [I.is.1]; exact hx
  refine ⟨I.is.set (by omega), by rw [List.length_set, I.ll], fun j hj => ?_, fun q h1 h2 => ?_⟩
  · have h1 := count_set (f := f) (j := j) hxs
    have h2 := I.cnt j hj
    rw [getD_set (by rw [I.ll]; exact hf)]
    by_cases e : j = f
    · subst e
      rw [if_pos rfl] at h1 ⊢
      split at h1 <;> omega
    · rw [if_neg e]
      rw [if_neg (show ¬ f = j from fun z => e z.symm)] at h1
      split at h1 <;> omega
  · have hne : es.getD q 0 ≠ es.getD k 0 := by
      have hnd : es.Nodup := hp.nodup_iff.mpr List.nodup_range
      rw [List.getD_eq_getElem?_getD, List.getD_eq_getElem?_getD, List.getElem?_eq_getElem h2, List.getElem?_eq_getElem hk]
      intro z
      have := (List.getElem_inj hnd).mp z
      omega
    rw [gof_set hxs]
    unfold mv
    rw [if_neg hne]
    exact I.out q (by omega) h2
theorem DSt.at_ (I : DSt rooms n es k st lf) (hk : k < es.length) (hx : es.getD k 0 < n) : st.getD (es.getD k 0) 0 = rooms.length := by
  have := I.out k (Nat.le_refl _) hk
  unfold gof at this
  have h : es.getD k 0 < st.length := by rw [I.is.1]; exact hx
  rw [List.getD_eq_getElem?_getD, List.getElem?_eq_getElem h] at this ⊢
  exact this
end
section
variable {K : PySem.W.Frag}
theorem perm_dN {es : List D} {l : List Nat} (h : es.Perm (l.map dN)) : ∃ l' : List Nat, es = l'.map dN ∧ l'.Perm l := perm_map_inv h.symm rfl
/-- a call of mixed -/
theorem ev_mixed {ss : List Sl} {te : TE} {i : Nat} {E : XK} {ds : List D} (hb : ss[i]? = some .bag) (h : EvD ss te (.lst ds)) (h1 : ds.length ≤ 900) : EvL' ss (tCall sp_law_mixed [] E (tCons (tVar i) (tCons te tNil))) (fun es => es.Perm ds) := ev_callB (A := A_law_mixed) ds hb (ea1 h) h1
abbrev openF (lf : List Nat) : List Nat := (List.range lf.length).filter fun j => decide (0 < lf.getD j 0)
def A_law_state (x : Nat × List Nat) : List D := [houseD x.1 x.2]
def sp_law_state : Sp := spB A_law_state (fun x => x.1 ≤ 5 ∧ x.2.length ≤ 3) (fun x d => ∃ st, d = tN st ∧ Fair x.2 x.1 st)
theorem c_law_state (vs H Q E) (p : sp_law_state vs H Q E) : t_law_state K sp_law_take sp_law_mixed sp_law_one (fin Q) (L2.start N_law_state vs) H := by
  refine body_B (fun x hx => ⟨by show 2 ≤ 11; decide, ?_⟩) p
  obtain ⟨n, rooms⟩ := x
  obtain ⟨n5, f3⟩ := hx
  simp only at n5 f3
  let F := rooms.length
  let hD : D := houseD n rooms
  refine ht_seq (N1 := fun s => s = [.bag, .im hD, .im (dN n), .im (tN rooms), .un, .un, .un, .un, .un, .un, .un]) (ht_asgG (ev_var rfl) (tgt_2 rfl) rfl) ?_
  rintro ss1 rfl
  have hlen : ∀ {ss : List Sl}, ss[3]? = some (.im (tN rooms)) → EvD ss (tCB (Lg.rLen K) (tCons (tVar 3) tNil)) (dN F) := fun h => by
    have := ev_len (K := K) (ev_var h) (a := tN rooms) rfl
    rw [List.length_map] at this; exact this
  let S : List Nat → Nat → List Nat → Sl → Sl → List Sl := fun lf way st a b => [.bag, .im hD, .im (dN n), .im (tN rooms), .own (lf.map dN), .im (dN way), .own (st.map dN), a, b, .un, .un]
  refine ht_seq (N1 := fun s => ∃ way : Nat, s = S rooms way (List.replicate n F) .un .un ∧ way < 4) (ht_par3 (em_own (en_list (ev_var (i := 3) rfl) rfl) (em_im (ev_take (i := 0) (m := 4) rfl ev_int (by omega) (by omega)) (em_own (en_mulL (k := n) (ea1 (hlen rfl)) (ev_var (i := 2) rfl) (by omega)) em_nil))) ?_) ?_
  · rintro x ⟨_, _, rfl, rfl, _, _, rfl, ⟨way, rfl, hw⟩, _, _, rfl, rfl, rfl⟩
    refine ⟨_, _, _, rfl, way, ?_, hw⟩
    show [_, _, _, _, _, _, Sl.own (List.replicate n (dN F)), _, _, _, _] = [_, _, _, _, _, _, Sl.own ((List.replicate n F).map dN), _, _, _, _]
    rw [List.map_replicate]
  rintro ss1 ⟨way, rfl, hway⟩
  have hstart : ∀ es : List Nat, es.Perm (List.range n) → DSt rooms n es 0 (List.replicate n F) rooms := fun es hp => by
    refine ⟨⟨List.length_replicate, fun f hf => by rw [List.mem_replicate] at hf; omega⟩, rfl, fun j hj => ?_, fun q _ _ => ?_⟩
    · rw [List.count_replicate]
      have : (F == j) = false := by simp; show ¬ rooms.length = j; omega
      rw [this]
      show 0 + rm rooms j ≤ _; omega
    · unfold gof
      rw [List.getD_eq_getElem?_getD, List.getElem?_replicate]
      split <;> rfl
  refine ht_seq (N1 := fun s => ∃ lf st a b, s = S lf way st a b ∧ Fair rooms n st) (ht_forX (srcx_lst (ev_mixed (i := 0) rfl (EvN.dat (en_lstRg (ev_var (i := 2) rfl) (by omega))) (by rw [upto_len]; omega))).inl ?_) ?_
  · rintro m el ⟨ds, hp, rfl, rfl⟩
    obtain ⟨es, rfl, hes⟩ := perm_dN (l := List.range n) hp
    rw [List.length_map]
    refine ⟨fun k s => ∃ lf st a b, s = S lf way st a b ∧ DSt rooms n es k st lf, ⟨_, _, _, _, rfl, hstart es hes⟩, ?_, ?_⟩
    · rintro k ss1 hk ⟨lf, st, a, b, rfl, I⟩
      let x := es.getD k 0
      have hx : x < n := by
        have : es.getD k 0 ∈ es := by rw [List.getD_eq_getElem?_getD, List.getElem?_eq_getElem hk]; exact List.getElem_mem hk
        exact List.mem_range.mp (hes.mem_iff.mp this)
      have hxs : x < st.length := by rw [I.is.1]; exact hx
      rw [dAt_N hk]
      refine ⟨_, _, tgt_name, ?_⟩
      let L := openF lf
      refine ht_seq (N1 := fun s => s = S lf way st (.im (dN x)) (.im (.lst (L.map dN)))) (ht_asgD (EvN.dat (EvN.mono (en_lc (n := lf.length) (el := fun j => .rtup [dN j, dN (lf.getD j 0)]) (f := fun j => dN j) (keep := fun j => decide (0 < lf.getD j 0)) ?_ (by rw [I.ll]; omega) rfl ?_) fun y h => h)) rfl) ?_
      · have h := src_enOwn (K := K) (ss := S lf way st (.im (dN x)) b) (i := 4) (ds := lf.map dN) rfl
        rw [List.length_map] at h
        exact SrcC.inl (srcC_el h fun j hj => by show D.rtup [_, _] = _; rw [dAt_N hj])
      · intro j hj
        exact ⟨_, _, tgt_2 (a1 := dN j) (a2 := dN (lf.getD j 0)) rfl, by decide, rfl, (eb_d (ev_gt (m := (lf.getD j 0 : Nat)) (n := 0) (ev_var (i := 10) rfl) ev_int)).mono fun b hb => by rw [hb]; simp, fun _ => ev_var (i := 9) rfl⟩
      rintro ss1 rfl
      let S1 : List Nat → List Nat → List Sl := fun lf st => S lf way st (.im (dN x)) (.im (.lst (L.map dN)))
      have hLe : (L.map dN).isEmpty = L.isEmpty := List.isEmpty_map
      have hdp : dpt 1 (.lst (L.map dN)) = true := dpt_lst dpt_dNs
      have hset : ∀ {f : Nat}, Tgt (gSub (tVar 6) (tVar 7) rSetL) (S1 lf st) (dN f) (S1 lf (st.set x f)) [] := fun {f} => tgt_set (i := 6) (k := f) rfl hxs (ev_var (i := 7) rfl)
      have hL : ∀ f, f ∈ L → f < F ∧ 0 < lf.getD f 0 := fun f hf => by
        rw [List.mem_filter, List.mem_range, decide_eq_true_eq, I.ll] at hf
        exact hf
      have hLl : L.length ≤ 3 := by
        have := List.length_filter_le (fun j => decide (0 < lf.getD j 0)) (List.range lf.length)
        rw [List.length_range] at this
        exact Nat.le_trans this (by rw [I.ll]; exact f3)
      have hne : ∀ {ss : List Sl}, ss[8]? = some (.im (.lst (L.map dN))) → EvB ss (tTest (tOp (rNeD K) (tVar 8) (tLst tNil))) (fun b => b = !L.isEmpty) := fun h => (eb_d (ev_neNilL (k := 1) (ev_var h) hdp (by omega))).mono fun b hb => by rw [hb, hLe]
      refine ht_seq (N1 := fun s => ∃ st', s = S1 lf st' ∧ (st' = st ∨ ∃ f, st' = st.set x f ∧ (f = F ∨ f ∈ L))) (ht_if (Bb := fun b => b = (decide (way = 1) && !L.isEmpty)) ((eb_and2 (eb_d (ev_eqI (m := (way : Int)) (n := 1) (ev_var (i := 5) rfl) ev_int)) fun _ => hne rfl).mono fun b hb => by rw [hb]; congr 1; exact decEqI way 1) (fun hb => ?_) fun hb => ?_) ?_
      · obtain ⟨h1, h2⟩ : way = 1 ∧ L ≠ [] := by
          have := hb.symm
          rw [Bool.and_eq_true, decide_eq_true_eq] at this
          exact ⟨this.1, fun z => by rw [z] at this; exact absurd this.2 (by simp)⟩
        obtain ⟨f, r, hL'⟩ : ∃ f r, L = f :: r := by cases h : L with | nil => exact absurd h h2 | cons f r => exact ⟨f, r, rfl⟩
        exact ht_asgG (a := dN f) (ev_ixL (ds := L.map dN) (ev_var (i := 8) rfl) ev_int (by rw [hL']; exact atI_nat (j := 0) rfl)) hset ⟨_, rfl, .inr ⟨f, rfl, .inr (by rw [hL']; simp)⟩⟩
      · refine ht_if (Bb := fun b => b = (decide (1 < way) && !L.isEmpty)) ((eb_and2 (eb_d (ev_gt (m := (way : Int)) (n := 1) (ev_var (i := 5) rfl) ev_int)) fun _ => hne rfl).mono fun b hb => by rw [hb]; congr 1; simp; omega) (fun hb => ?_) fun hb => ht_next ⟨st, rfl, .inl rfl⟩
        obtain ⟨h1, h2⟩ : 1 < way ∧ L ≠ [] := by
          have := hb.symm
          rw [Bool.and_eq_true, decide_eq_true_eq] at this
          exact ⟨this.1, fun z => by rw [z] at this; exact absurd this.2 (by simp)⟩
        have hsub : EvD (S1 lf st) (tOp (rI0 fun i j => .int (i - j)) (tVar 5) (tC (.int 2))) (dN (way - 2)) := (ev_sub (m := (way : Int)) (n := 2) (ev_var (i := 5) rfl) ev_int).to (by show D.int _ = D.int _; congr 1; omega)
        refine ht_asgT (P := fun d => ∃ f : Nat, d = dN f ∧ (f = F ∨ f ∈ L)) (ev_one (i := 0) rfl (evl_cat (PL := fun y => y = L.map dN) (PL' := fun y => y = List.replicate (way - 2) (dN F)) ((ev_var (i := 8) rfl).is ⟨_, rfl, rfl⟩) (EvN.p (en_mulL (ea1 (hlen rfl)) hsub (by omega))) ?_)) ?_
        · rintro a b rfl rfl
          rw [List.length_append, List.length_map, List.length_replicate]
          refine ⟨by omega, fun z => h2 (List.map_eq_nil_iff.mp (List.append_eq_nil_iff.mp z).1), by omega, fun d hd => ?_⟩
          rcases List.mem_append.mp hd with h | h
          · obtain ⟨f, hf, rfl⟩ := List.mem_map.mp h
            exact ⟨f, rfl, .inr hf⟩
          · rw [List.mem_replicate] at h
            exact ⟨F, h.2, .inl rfl⟩
        · rintro d ⟨f, rfl, hf⟩
          exact ⟨_, _, hset, _, rfl, .inr ⟨f, rfl, hf⟩⟩
      rintro ss1 ⟨st', rfl, hst'⟩
      have hl' : st'.length = st.length := by rcases hst' with rfl | ⟨f, rfl, _⟩ <;> simp
      have hxs' : x < st'.length := by omega
      have hgx : EvD (S1 lf st') (tOp (rIx K) (tVar 6) (tVar 7)) (dN (st'.getD x 0)) := ev_ixOwn (i := 6) rfl (ev_var (i := 7) rfl) (atI_nat (by rw [List.getElem?_map, List.getD_eq_getElem?_getD, List.getElem?_eq_getElem hxs']; rfl))
      refine ht_if (Bb := fun b => b = decide (st'.getD x 0 < F)) ((eb_d (ev_lt (m := (st'.getD x 0 : Nat)) (n := (F : Nat)) hgx (hlen rfl))).mono fun b hb => by rw [hb]; simp) (fun hb => ?_) fun hb => ht_next ⟨lf, st', _, _, rfl, ?_⟩
      · have hlt : st'.getD x 0 < F := by simpa using hb.symm
        obtain ⟨f, rfl, hf⟩ : ∃ f, st' = st.set x f ∧ f ∈ L := by
          rcases hst' with rfl | ⟨f, rfl, rfl | h⟩
          · have h3 : st'.getD x 0 = F := I.at_ hk hx
            rw [h3] at hlt
            exact absurd hlt (Nat.lt_irrefl _)
          · rw [getD_set hxs, if_pos rfl] at hlt
            exact absurd hlt (Nat.lt_irrefl _)
          · exact ⟨f, rfl, h⟩
        obtain ⟨h1, h2⟩ := hL f hf
        have e : (st.set x f).getD x 0 = f := by rw [getD_set hxs, if_pos rfl]
        rw [e] at hgx
        have hfl : f < lf.length := by rw [I.ll]; exact h1
        refine ht_augOwn (i := 4) (k := f) (m := (lf.getD f 0 : Nat)) (n := 1) (f := fun i j => i - j) (ds := lf.map dN) rfl hgx (by rw [List.getElem?_map, List.getD_eq_getElem?_getD, List.getElem?_eq_getElem hfl]; rfl) ⟨lf.set f (lf.getD f 0 - 1), st.set x f, .im (dN x), .im (.lst (L.map dN)), ?_, I.put hes hk h1 h2⟩
        have e2 : D.int ((lf.getD f 0 : Nat) - 1) = dN (lf.getD f 0 - 1) := by show D.int _ = D.int _; congr 1; omega
        rw [e2, map_setN]; rfl
      · have hge : ¬ st'.getD x 0 < F := by simpa using hb.symm
        rcases hst' with rfl | ⟨f, rfl, rfl | h⟩
        · exact I.skip
        · have hid : st.set x F = st := by
            apply List.ext_getElem?
            intro q
            rw [List.getElem?_set]
            by_cases h : x = q
            · subst h
              have := I.at_ hk hx
              rw [List.getD_eq_getElem?_getD, List.getElem?_eq_getElem hxs] at this
              rw [if_pos rfl, if_pos hxs, List.getElem?_eq_getElem hxs]
              exact congrArg some this.symm
            · rw [if_neg h]
          rw [hid]
          exact I.skip
        · rw [getD_set hxs, if_pos rfl] at hge
          exact absurd (hL f h).1 hge
    · rintro ss1 ⟨lf, st, a, b, rfl, I⟩
      exact ⟨lf, st, a, b, rfl, I.is, fun j hj => by have := I.cnt j hj; omega⟩
  rintro ss1 ⟨lf, st, a, b, rfl, hf⟩
  exact ht_retD (ev_tA (ev_own (i := 6) rfl)) ⟨st, rfl, hf⟩
end
end FK
end
section
set_option Elab.async false
set_option linter.all false
set_option maxRecDepth 100000
/-! The drawing: a start, a move. -/
namespace FK
open PySem PySem.Spec PyProof.Rows L2 Lg Lr RZ FM
variable [tbs : Tbs]
theorem sum_all {rooms : List Nat} (h : 0 < rooms.length) : (rooms.map fun r : Nat => (r : Int)).sum = (rw' rooms (rooms.length - 1) : Int) := by
  have := rw_sum (rooms := rooms) (i := rooms.length - 1) (by omega)
  rw [show rooms.length - 1 + 1 = rooms.length by omega, List.take_length] at this
  exact this
theorem all_out {rooms : List Nat} {n : Nat} : Fair rooms n (List.replicate n rooms.length) := by
  refine ⟨⟨List.length_replicate, fun f hf => by rw [List.mem_replicate] at hf; omega⟩, fun j hj => ?_⟩
  rw [List.count_replicate]
  have : (rooms.length == j) = false := by simp; omega
  rw [this]
  show 0 ≤ _; omega
section
variable {K : PySem.W.Frag}
def A_law_start (x : Nat × List Nat) : List D := [houseD x.1 x.2]
def sp_law_start : Sp := spB A_law_start (fun x => x.1 ≤ 5 ∧ 0 < x.2.length ∧ x.2.length ≤ 3) (fun x d => ∃ s, d = startD s ∧ StartOk x.1 x.2 s)
theorem c_law_start (vs H Q E) (p : sp_law_start vs H Q E) : t_law_start K sp_law_state sp_law_one (fin Q) (L2.start N_law_start vs) H := by
  refine body_B (fun x hx => ⟨by show 2 ≤ 3; decide, ?_⟩) p
  obtain ⟨n, rooms⟩ := x
  obtain ⟨n5, F0, f3⟩ := hx
  simp only at n5 F0 f3
  let F := rooms.length
  let hD : D := houseD n rooms
  let Pd : D → Prop := fun d => ∃ st, d = tN st ∧ Fair rooms n st
  have hrooms : ∀ {ss : List Sl}, ss[1]? = some (.im hD) → EvD ss (tOp (rIx K) (tVar 1) (tC (.int 1))) (tN rooms) := fun h => ev_ix (ev_var h) ev_int rfl rfl
  have hlen : ∀ {ss : List Sl}, ss[1]? = some (.im hD) → EvD ss (tCB (Lg.rLen K) (tCons (tOp (rIx K) (tVar 1) (tC (.int 1))) tNil)) (dN F) := fun h => by
    have := ev_len (K := K) (hrooms h) (a := tN rooms) rfl
    rw [List.length_map] at this; exact this
  have hst : ∀ {ss : List Sl}, ss[0]? = some .bag → ss[1]? = some (.im hD) → EvP ss (tCall sp_law_state [] E0 (tCons (tVar 0) (tCons (tVar 1) tNil))) Pd := fun h0 h1 => ev_callB (A := A_law_state) (n, rooms) h0 (ea1 (ev_var h1)) ⟨n5, f3⟩
  refine ht_seq (N1 := fun s => ∃ ds, s = [.bag, .im hD, .im (.lst ds)] ∧ ds.length = 3 ∧ ∀ d ∈ ds, Pd d) (ht_asg (P := fun x => ∃ ds, x = .lst ds ∧ ds.length = 3 ∧ ∀ d ∈ ds, Pd d) (EvN.p (en_lst (ea_more (EvP.is (ev_mulT (k := n) (ev_tBR (ea1 (hlen rfl)) one_le) rfl (ev_ix (ev_var (i := 1) rfl) ev_int rfl rfl) (by omega)) ⟨List.replicate n F, by show D.tup _ = D.tup _; rw [List.map_replicate], all_out⟩) (ea_more (hst rfl rfl) (ea_more (hst rfl rfl) ea_none))) ?_)) ?_) ?_
  · rintro ds ⟨h, _⟩; omega
  · rintro d ⟨ds, rfl, h⟩
    exact ⟨ds, rfl, h⟩
  rintro ss1 ⟨ds, rfl, hl, hds⟩
  let kk : Nat := if rw' rooms (rooms.length - 1) ≤ n then 1 else 0
  have hk : EvD [.bag, .im hD, .im (.lst ds)] (tCB rInt1 (tCons (tOp (rI0 fun i j => .bl (decide (j ≤ i))) (tOp (rIx K) (tVar 1) (tC (.int 0))) (tCB (rSumT K) (tCons (tOp (rIx K) (tVar 1) (tC (.int 1))) tNil))) tNil)) (dN kk) := by
    refine (ev_intB (ev_ge (m := (n : Int)) (n := (rw' rooms (rooms.length - 1) : Int)) (ev_ix (ev_var (i := 1) rfl) ev_int rfl rfl) ((ev_sumT (ns := rooms.map fun r : Nat => (r : Int)) (hrooms rfl) (by show some _ = some _; rw [List.map_map]; rfl)).to (by rw [sum_all F0])))).to ?_
    show D.int _ = D.int ((if _ then 1 else 0 : Nat) : Int)
    rw [decI]
    by_cases h : rw' rooms (rooms.length - 1) ≤ n
    · rw [if_pos h, decide_eq_true h]; rfl
    · rw [if_neg h, decide_eq_false h]; rfl
  have hkk : kk ≤ 1 := by show (if _ then 1 else 0) ≤ 1; split <;> omega
  refine ht_ret (P := fun d => ∃ s, d = startD s ∧ StartOk n rooms s) (ev_one (i := 0) rfl (evl_cat (PL := fun y => y = ds) (PL' := fun y => y = List.replicate kk .non) ((ev_var (i := 2) rfl).is ⟨_, rfl, rfl⟩) (EvN.p (en_mulL (ea1 ev_non) hk (by omega))) ?_)) fun d h => h
  rintro a b rfl rfl
  rw [List.length_append, List.length_replicate]
  refine ⟨by omega, fun z => ?_, by omega, fun d hd => ?_⟩
  · have := congrArg List.length z
    rw [List.length_append, hl] at this
    simp at this
  · rcases List.mem_append.mp hd with h | h
    · obtain ⟨st, rfl, hf⟩ := hds d h
      refine ⟨some st, rfl, fun s hs => ?_, fun z => by cases z⟩
      cases hs
      exact ⟨hf.is, hf.cnt⟩
    · rw [List.mem_replicate] at h
      refine ⟨none, h.2, (fun s hs => by cases hs), fun _ => ?_⟩
      refine Classical.byContradiction fun z => h.1 ?_
      show (if _ then 1 else 0) = 0
      rw [if_neg z]
end
/-! ### a drawn move -/
theorem countP_or {α : Type} {p q r : α → Bool} (h : ∀ z, p z = true → q z = true ∨ r z = true) : ∀ l : List α, l.countP p ≤ l.countP q + l.countP r
  | [] => by simp
  | a :: l => by
    have ih := countP_or h l
    rw [List.countP_cons, List.countP_cons, List.countP_cons]
    by_cases hp : p a = true
    · rcases h a hp with h1 | h1
      · rw [if_pos hp, if_pos h1]; omega
      · rw [if_pos hp, if_pos h1]; omega
    · rw [if_neg hp]; omega
abbrev thereL (n x a : Nat) (cur : List Nat) : List Nat := (List.range n).filter fun y => decide (cur.getD y 0 = a) && (decide (0 < a) || !decide (y = x))
theorem there_ne {n x a : Nat} {cur : List Nat} {F r : Nat} (hl : cur.length = n) (hr : 1 ≤ r) (hc : r < cur.count a) : thereL n x a cur ≠ [] := by
  intro z
  have h1 := count_range (F := F) (st := cur) (a := a)
  rw [hl] at h1
  have h2 := countP_or (p := fun z => decide (z < n) && decide (gof F cur z = a)) (q := fun y => decide (cur.getD y 0 = a) && (decide (0 < a) || !decide (y = x))) (r := fun y => decide (y = x)) (fun z hz => by
    rw [Bool.and_eq_true, decide_eq_true_eq, decide_eq_true_eq] at hz
    have h3 : cur.getD z 0 = a := by
      rw [← hz.2]; unfold gof
      rw [List.getD_eq_getElem?_getD, List.getD_eq_getElem?_getD, List.getElem?_eq_getElem (by omega)]; rfl
    by_cases e : z = x
    · exact .inr (decide_eq_true e)
    · exact .inl (by rw [decide_eq_true h3, decide_eq_false e]; simp)) (List.range n)
  have h3 : (List.range n).countP (fun z => decide (z < n) && decide (gof F cur z = a)) = cur.count a := by
    rw [h1]
    refine List.countP_congr fun z hz => ?_
    rw [List.mem_range] at hz
    simp [hz]
  have h4 : (List.range n).countP (fun y => decide (cur.getD y 0 = a) && (decide (0 < a) || !decide (y = x))) = 0 := by
    rw [List.countP_eq_length_filter]; exact congrArg List.length z
  have h5 : (List.range n).countP (fun y => decide (y = x)) ≤ 1 := by
    have := List.nodup_iff_count.mp (List.nodup_range (n := n)) x
    unfold List.count at this
    refine Nat.le_trans (Nat.le_of_eq (List.countP_congr fun y _ => ?_)) this
    simp
  omega
structure DInv (rooms : List Nat) (n x : Nat) (st0 ds cur : List Nat) : Prop where
  all : ∀ tl fin, Chain rooms x ds.length cur tl fin → Chain rooms x 0 st0 (ds ++ tl) fin
  le : ds.length ≤ rooms.length
  len : cur.length = n
  last : ∀ y, ds.getLast? = some y → y < n ∧ cur.getD y 0 = ds.length
theorem DInv.step {rooms : List Nat} {n x : Nat} {st0 ds cur : List Nat} (I : DInv rooms n x st0 ds cur) (h1 : ds.length < rooms.length) (h2 : rm rooms ds.length < cur.count ds.length) {y : Nat} (hy : y < n) (hg : cur.getD y 0 = ds.length) (hx : 0 < ds.length ∨ y ≠ x) : DInv rooms n x st0 (ds ++ [y]) (cur.set y (ds.length + 1)) where
  all := fun tl fin c => by
    rw [List.append_assoc]
    refine I.all (y :: tl) fin (.step h1 h2 (by rw [I.len]; exact hy) ?_ hx (by simpa using c))
    rw [List.getD_eq_getElem?_getD, List.getElem?_eq_getElem (by rw [I.len]; exact hy)] at hg ⊢
    exact hg
  le := by rw [List.length_append, List.length_singleton]; omega
  len := by rw [List.length_set, I.len]
  last := fun z hz => by
    simp at hz
    subst hz
    exact ⟨hy, by rw [getD_set (by rw [I.len]; exact hy), if_pos rfl]; simp⟩
section
variable {K : PySem.W.Frag}
structure DM where
  n : Nat
  rooms : List Nat
  st : List Nat
  x : Nat
  way : Nat
structure DM.Ok (a : DM) : Prop where
  h : RoomsOk a.n a.rooms
  st : a.st.length = a.n
  x : a.x < a.n
def A_law_drawn_move (a : DM) : List D := [houseD a.n a.rooms, stD a.st, dN a.x, dN a.way]
def sp_law_drawn_move : Sp := spB A_law_drawn_move DM.Ok (fun a d => ∃ ds, d = moveD "ask" a.x ds ∧ ds.length ≤ 3 ∧ ∃ fin, Chain a.rooms a.x 0 (a.st.set a.x 0) ds fin)
theorem c_law_drawn_move (vs H Q E) (p : sp_law_drawn_move vs H Q E) : t_law_drawn_move K sp_law_one (fin Q) (L2.start N_law_drawn_move vs) H := by
  refine body_B (fun a ha => ⟨by show 5 ≤ 11; decide, ?_⟩) p
  obtain ⟨n, rooms, st, x, way⟩ := a
  obtain ⟨⟨n5, F0, f3, hpos⟩, hst, hx⟩ := ha
  simp only at n5 F0 f3 hpos hst hx
  let F := rooms.length
  let hD : D := houseD n rooms
  let st0 := st.set x 0
  let S : List Nat → List Nat → Sl → Sl → Sl → Sl → List Sl := fun ds cur a b c d => [.bag, .im hD, .im (stD st), .im (dN x), .im (dN way), .im (tN ds), .own (cur.map dN), a, b, c, d]
  refine ht_seq (N1 := fun s => s = S [] st .un .un .un .un) (ht_tupasgB (PS := fun y => y = [.im (tN []), .own (st.map dN)]) (em_imD (ev_tB ea_nil (Nat.zero_le _)) (em_ownD (en_list (ev_var (i := 2) rfl) rfl) em_nil)) (by omega) ?_) ?_
  · rintro y rfl
    exact ⟨rfl, tgm_name (tgm_name (tgm_nil rfl))⟩
  rintro ss1 rfl
  refine ht_seq (N1 := fun s => s = S [] st0 .un .un .un .un) (ht_asgG (a := dN 0) ev_int (tgt_set (i := 6) rfl (by omega) (ev_var (i := 3) rfl)) rfl) ?_
  rintro ss1 rfl
  have hI0 : DInv rooms n x st0 [] st0 := ⟨fun tl fin c => by simpa using c, Nat.zero_le _, by simpa [st0] using hst, fun y hy => by cases hy⟩
  have hlen : ∀ {ss : List Sl}, ss[1]? = some (.im hD) → EvD ss (tCB (Lg.rLen K) (tCons (tOp (rIx K) (tVar 1) (tC (.int 1))) tNil)) (dN F) := fun h => by
    have := ev_len (K := K) (ev_ix (K := K) (ev_var h) (ev_int (n := 1)) rfl rfl) (a := tN rooms) rfl
    rw [List.length_map] at this; exact this
  have hdl : ∀ {ss : List Sl} {ds : List Nat}, ss[5]? = some (.im (tN ds)) → EvD ss (tCB (Lg.rLen K) (tCons (tVar 5) tNil)) (dN ds.length) := fun h => by
    have := ev_len (K := K) (ev_var h) (a := tN _) rfl
    rw [List.length_map] at this; exact this
  refine ht_seq (N1 := fun s => ∃ ds cur a b c d, s = S ds cur a b c d ∧ ds.length ≤ 3 ∧ ∃ fin, Chain rooms x 0 st0 ds fin) (ht_while (fun m s => ∃ ds cur a b c d, s = S ds cur a b c d ∧ DInv rooms n x st0 ds cur ∧ m = F - ds.length) (F - 0) ⟨[], st0, _, _, _, _, rfl, hI0, rfl⟩ ?_) ?_
  · rintro m ss1 ⟨ds, cur, a, b, c, d, rfl, I, rfl⟩
    let at_ := ds.length
    refine ⟨fun bb => bb = (decide (at_ < F) && decide (rm rooms at_ < cur.count at_)), (eb_and2 (c := decide (at_ < F)) (e := decide (rm rooms at_ < cur.count at_)) ((eb_d (ev_lt (m := (at_ : Int)) (n := (F : Int)) (hdl rfl) (hlen rfl))).mono fun b hb => by rw [hb]; simp) fun hc => (eb_d (ev_gt (m := (cur.count at_ : Nat)) (n := (rm rooms at_ : Int)) (ev_lcntN (i := 6) rfl (hdl rfl)) ?_)).mono fun b hb => by rw [hb]; simp), fun hb => ?_, fun hb => ?_⟩
    · have hlt : at_ < F := by simpa using hc
      refine ev_ix (ev_ix (ev_var (i := 1) rfl) ev_int rfl rfl) (hdl rfl) rfl (atI_nat ?_)
      rw [List.getElem?_map]
      unfold rm
      rw [List.getD_eq_getElem?_getD, List.getElem?_eq_getElem hlt]; rfl
    · obtain ⟨h1, h2⟩ : at_ < F ∧ rm rooms at_ < cur.count at_ := by
        have := hb.symm
        rwa [Bool.and_eq_true, decide_eq_true_eq, decide_eq_true_eq] at this
      refine ht_seq (N1 := fun s => s = S ds cur (.im (dN at_)) b c d) (ht_asgD (hdl rfl) rfl) ?_
      rintro ss1 rfl
      let L := thereL n x at_ cur
      have hLne : L ≠ [] := there_ne (F := F) I.len (hpos _ h1) h2
      have hLm : ∀ y ∈ L, y < n ∧ cur.getD y 0 = at_ ∧ (0 < at_ ∨ y ≠ x) := fun y hy => by
        rw [List.mem_filter, List.mem_range, Bool.and_eq_true, Bool.or_eq_true, decide_eq_true_eq, decide_eq_true_eq] at hy
        exact ⟨hy.1, hy.2.1, hy.2.2.imp id fun z => by simpa using z⟩
      have hLl : L.length ≤ 5 := by
        have := List.length_filter_le (fun y => decide (cur.getD y 0 = at_) && (decide (0 < at_) || !decide (y = x))) (List.range n)
        rw [List.length_range] at this
        exact Nat.le_trans this n5
      refine ht_forget 10 (ht_seq (N1 := fun s => s = S ds cur (.im (dN at_)) (.im (.lst (L.map dN))) c .un) (ht_asgD (EvN.dat (EvN.mono (en_lc (n := n) (el := fun i => .int (i : Int)) (f := fun i => dN i) (keep := fun y => decide (cur.getD y 0 = at_) && (decide (0 < at_) || !decide (y = x))) (src_r1 (ea1 (ev_ix (ev_var (i := 1) rfl) ev_int rfl rfl)) (by omega)).c (by omega) rfl ?_) fun y h => h)) rfl) ?_)
      · intro y hy
        have hyc : y < cur.length := by rw [I.len]; exact hy
        refine ⟨_, _, tgt_name, by decide, rfl, (eb_and2 (eb_d (ev_eqI (m := (cur.getD y 0 : Nat)) (n := (at_ : Int)) (ev_ixOwn (i := 6) rfl (ev_var (i := 10) rfl) (atI_nat (by rw [List.getElem?_map, List.getD_eq_getElem?_getD, List.getElem?_eq_getElem hyc]; rfl))) (ev_var (i := 7) rfl))) fun _ => eb_or2 (eb_d (ev_gt (m := (at_ : Int)) (n := 0) (ev_var (i := 7) rfl) ev_int)) fun _ => eb_d (ev_neI (m := (y : Int)) (n := (x : Int)) (ev_var (i := 10) rfl) (ev_var (i := 3) rfl))).mono fun b hb => ?_, fun _ => ev_var (i := 10) rfl⟩
        rw [hb, decEqI, decEqI]
        simp
      rintro ss1 rfl
      refine ht_seq (N1 := fun s => ∃ y, s = S ds cur (.im (dN at_)) (.im (.lst (L.map dN))) (.im (dN y)) .un ∧ y < n ∧ cur.getD y 0 = at_ ∧ (0 < at_ ∨ y ≠ x)) (ht_asg (P := fun d => ∃ y : Nat, d = dN y ∧ y < n ∧ cur.getD y 0 = at_ ∧ (0 < at_ ∨ y ≠ x)) (ev_if (B := fun _ => True) ((eb_d (ev_eqI (m := (way : Int)) (n := 1) (ev_var (i := 4) rfl) ev_int)).mono fun _ _ => trivial) (fun _ => ?_) fun _ => ev_if (B := fun bb => bb = true → 0 < at_) ((eb_and2 (eb_d (ev_eqI (m := (way : Int)) (n := 2) (ev_var (i := 4) rfl) ev_int)) fun _ => eb_d (ev_gt (m := (at_ : Int)) (n := 0) (ev_var (i := 7) rfl) ev_int)).mono fun b hb h => ?_) (fun hb => ?_) fun _ => ?_) ?_) ?_
      · have hl : L.getLast? = some (L.getLast hLne) := List.getLast?_eq_some_getLast hLne
        exact (ev_ixL (ds := L.map dN) (d := dN (L.getLast hLne)) (ev_var (i := 8) rfl) ev_n1 (atI_last (by rw [List.getLast?_map, hl]; rfl))).is ⟨_, rfl, hLm _ (List.getLast_mem hLne)⟩
      · rw [hb, Bool.and_eq_true, decide_eq_true_eq, decide_eq_true_eq] at h
        omega
      · have h0 := hb rfl
        have hne : ds ≠ [] := fun z => by
          have : at_ = 0 := by show ds.length = 0; rw [z]; rfl
          omega
        have hl : ds.getLast? = some (ds.getLast hne) := List.getLast?_eq_some_getLast hne
        obtain ⟨h3, h4⟩ := I.last _ hl
        exact (ev_ix (ds := ds.map dN) (d := dN (ds.getLast hne)) (a := tN ds) (ev_var (i := 5) rfl) ev_n1 rfl (atI_last (by rw [List.getLast?_map, hl]; rfl))).is ⟨_, rfl, h3, h4, .inl h0⟩
      · refine ev_one (i := 0) rfl ((ev_var (i := 8) rfl).is ⟨_, rfl, fun z => hLne (List.map_eq_nil_iff.mp z), by rw [List.length_map]; omega, fun d hd => ?_⟩)
        obtain ⟨y, hy, rfl⟩ := List.mem_map.mp hd
        exact ⟨y, rfl, hLm y hy⟩
      · rintro d ⟨y, rfl, h⟩
        exact ⟨y, rfl, h⟩
      rintro ss1 ⟨y, rfl, h3, h4, h5⟩
      refine ht_tupasgB (PS := fun z => z = [.im (tN (ds ++ [y])), .im (dN (at_ + 1))]) (em_imD ((ev_catT (ds := ds.map dN) (a := tN ds) (ev_var (i := 5) rfl) rfl (ev_tB (ea1 (ev_var (i := 9) rfl)) one_le) rfl ?_).to ?_) (em_imD ((ev_add (m := (at_ : Int)) (n := 1) (ev_var (i := 7) rfl) ev_int).to rfl) em_nil)) (by omega) ?_
      · have := I.le
        rw [List.length_map]
        show ds.length + 1 ≤ _
        omega
      · show D.tup _ = D.tup _
        rw [List.map_append]; rfl
      · rintro z rfl
        refine ⟨rfl, tgm_name (tgm_item (i := 6) (k := (y : Int)) (m := y) (ds := cur.map dN) rfl (ev_var (i := 9) rfl) (ixN_of (by rw [List.length_map, I.len]; exact h3)) ⟨F - (at_ + 1), by omega, ds ++ [y], cur.set y (at_ + 1), .im (dN at_), .im (.lst (L.map dN)), .im (dN y), .un, ?_, I.step h1 h2 h3 h4 h5, ?_⟩)⟩
        · show [_, _, _, _, _, _, Sl.own ((cur.map dN).set y (dN (at_ + 1))), _, _, _, _] = [_, _, _, _, _, _, Sl.own ((cur.set y (at_ + 1)).map dN), _, _, _, _]
          rw [map_setN]
        · rw [List.length_append, List.length_singleton]
    · have hstop : rooms.length ≤ ds.length ∨ cur.count ds.length ≤ rm rooms ds.length := by
        have := hb.symm
        rw [Bool.and_eq_false_iff, decide_eq_false_iff_not, decide_eq_false_iff_not] at this
        rcases this with h | h
        · exact .inl (Nat.le_of_not_lt h)
        · exact .inr (Nat.le_of_not_lt h)
      exact ⟨ds, cur, a, b, c, d, rfl, Nat.le_trans I.le f3, cur, by have := I.all [] cur (.stop hstop); rwa [List.append_nil] at this⟩
  rintro ss1 ⟨ds, cur, a, b, c, d, rfl, h⟩
  exact ht_retD (ev_tB (ea3 ev_str (ev_var (i := 3) rfl) (ev_var (i := 5) rfl)) (Nat.le_of_ble_eq_true rfl)) ⟨ds, rfl, h⟩
end
end FK
end
section
set_option Elab.async false
set_option linter.all false
set_option maxRecDepth 100000
/-! The drawing: a full state, a run. -/
namespace FK
open PySem PySem.Spec PyProof.Rows L2 Lg Lr RZ FM
variable [tbs : Tbs]
section
variable {K : PySem.W.Frag} {ss : List Sl} {te tf : TE} {ta : TA} {PL : List D → Prop} {p : Nat → Prop}
/-- tuple(l), l some list -/
theorem ev_tAV (h : EvV ss te PL) : EvP ss (tCB (rTupA K) (tCons te tNil)) (fun x => ∃ ds, x = .tup ds ∧ PL ds) := EvP.wk (P := fun x => ∃ ds, x = .rtup ds ∧ PL ds) (ev_cbV h fun es pe H O Z l xs Q nn h1 h2 q => .inl ⟨l, xs, rfl, .inl ⟨SqL.of h1, fun l' hl' => q _ _ _ ⟨es, rfl, pe⟩ (Ext.new hl') (.rtup upd_same (h2.mv (Ext.stp (Ext.new hl'))))⟩⟩) fun d ⟨ds, e, pd⟩ => ⟨.tup ds, by rw [e]; exact Wk.rt1, ds, rfl, pd⟩
theorem ev_tBX (h : EvA ss ta PL) (hz : ∀ ds, PL ds → ds.length ≤ 100000) : EvP ss (tTupB ta) (fun x => ∃ ds, x = .tup ds ∧ PL ds) := fun Z Bg σ H O Q g q => .inl (EvP.wk (ev_tupP h hz) (fun d ⟨ds, e, pd⟩ => ⟨.tup ds, by rw [e]; exact Wk.rt1, ds, rfl, pd⟩) Z Bg σ H O Q g q)
/-- l[:k] -/
theorem evl_slT (h : EvL' ss te PL) (h' : EvP ss tf (fun d => ∃ k : Nat, d = dN k ∧ p k)) : EvL' ss (tSl (rSl K) te tNoPart (tPart tf)) (fun ds => ∃ es k, ds = es.take k ∧ PL es ∧ p k) := fun Z Bg σ H O Q g q => h Z Bg σ H O _ g fun v H1 d ⟨ds, ed, hds⟩ g1 s1 hd => by
  subst ed
  refine h' Z Bg σ H1 O _ g1 fun w H2 d2 ⟨m, e2, hm⟩ g2 s2 hd2 => ?_
  subst e2
  cases hd2
  have hd3 := hd.mv s2
  cases hd3 with
  | lst n1 z1 h4 h5 =>
    refine ⟨(m : Int), rfl, .inl ⟨_, _, rfl, SqL.of h4, fun l hl => ?_⟩⟩
    obtain ⟨k1, k2⟩ := g2.nn l hl
    have := cut_dq (lo := none) (hi := some (m : Int)) h5
    refine q _ _ _ ⟨_, rfl, ds, m, cut_to, hds, hm⟩ (g2.ext (Ext.new hl)) ((s1.trans s2).trans (Ext.stp (Ext.new hl))) (.lst k1 k2 upd_same (this.mv (Ext.stp (Ext.new hl))))
end
section
variable {K : PySem.W.Frag}
/-! ### flat, full_state -/
abbrev rowsD (rows : List (List Nat)) : D := .lst (rows.map fun r => .lst (r.map dN))
def A_law_flat (rows : List (List Nat)) : List D := [rowsD rows]
def sp_law_flat : Sp := spP A_law_flat (fun rows => rows.flatten.length ≤ 1000) (fun rows d => d = .lst (rows.flatten.map dN))
theorem c_law_flat (vs H Q E) (p : sp_law_flat vs H Q E) : t_law_flat K (fin Q) (L2.start N_law_flat vs) H := by
  refine body_P (fun rows hr => ⟨by show 1 ≤ 3; decide, ?_⟩) p
  let S : List Nat → Sl → List Sl := fun l a => [.im (rowsD rows), .own (l.map dN), a]
  refine ht_seq (N1 := fun s => s = S [] .un) (ht_asgNL en_nil rfl) ?_
  rintro ss1 rfl
  have hle : ∀ k, (rows.take k).flatten.length ≤ rows.flatten.length := fun k => by
    have := congrArg (fun l => l.flatten.length) (List.take_append_drop k rows)
    simp only [List.flatten_append, List.length_append] at this
    omega
  refine ht_seq (N1 := fun s => ∃ a, s = S rows.flatten a) (ht_for (n := rows.length) (el := fun k => .lst ((rows.getD k []).map dN)) ?_ (fun k s => ∃ a, s = S (rows.take k).flatten a) ⟨_, rfl⟩ ?_ ?_) ?_
  · have h := src_lst (K := K) (ss := S [] .un) (te := tVar 0) (ds := rows.map fun r => .lst (r.map dN)) (ev_var rfl)
    rw [List.length_map] at h
    exact Src.inl (src_el h fun k hk => dAt_map (a := rows.getD k []) (by rw [List.getD_eq_getElem?_getD, List.getElem?_eq_getElem hk]; rfl))
  · rintro k ss1 hk ⟨a, rfl⟩
    have hs : (rows.take (k + 1)).flatten = (rows.take k).flatten ++ rows.getD k [] := by
      rw [List.take_add_one, List.getD_eq_getElem?_getD, List.getElem?_eq_getElem hk, List.flatten_append]; simp
    refine ⟨_, _, tgt_name, ht_extend (PL := fun es => es = (rows.getD k []).map dN) rfl ((ev_var (i := 2) rfl).is ⟨_, rfl, rfl⟩) ?_ ?_⟩
    · rintro es rfl
      have h1 := hle (k + 1)
      rw [hs, List.length_append] at h1
      rw [List.length_map, List.length_map]
      omega
    · rintro es rfl
      refine ⟨.im (.lst ((rows.getD k []).map dN)), ?_⟩
      rw [hs]
      show [_, Sl.own (_ ++ _), _] = [_, Sl.own _, _]
      rw [List.map_append]
  · rintro ss1 ⟨a, rfl⟩
    rw [List.take_length]
    exact ⟨a, rfl⟩
  rintro ss1 ⟨a, rfl⟩
  exact ht_freeze (i := 1) rfl (ht_retD (ev_var (i := 1) rfl) rfl)
abbrev placesL (rooms : List Nat) (k : Nat) : List (List Nat) := upto k fun j => List.replicate (rm rooms j) j
theorem places_len {rooms : List Nat} : ∀ k, (placesL rooms k).flatten.length = rwB rooms k
  | 0 => rfl
  | k + 1 => by
    show (upto (k + 1) fun j => List.replicate (rm rooms j) j).flatten.length = _
    rw [upto_succ, List.flatten_append, List.length_append, rwB_succ]
    have := places_len (rooms := rooms) k
    rw [show (upto k fun j => List.replicate (rm rooms j) j).flatten.length = rwB rooms k from this]
    simp
theorem places_mem {rooms : List Nat} {k f : Nat} (h : f ∈ (placesL rooms k).flatten) : f < k := by
  obtain ⟨l, h1, h2⟩ := List.mem_flatten.mp h
  obtain ⟨j, h3, rfl⟩ := List.mem_map.mp h1
  rw [List.mem_replicate] at h2
  rw [List.mem_range] at h3
  omega
def A_law_full_state (x : Nat × List Nat) : List D := [houseD x.1 x.2]
def sp_law_full_state : Sp := spB A_law_full_state (fun x => x.1 ≤ 5 ∧ 0 < x.2.length ∧ x.2.length ≤ 3 ∧ rw' x.2 (x.2.length - 1) ≤ x.1) (fun x d => ∃ st, d = tN st ∧ IsSt x.2.length x.1 st)
theorem c_law_full_state (vs H Q E) (p : sp_law_full_state vs H Q E) : t_law_full_state K sp_law_flat sp_law_mixed (fin Q) (L2.start N_law_full_state vs) H := by
  refine body_B (fun x hx => ⟨by show 2 ≤ 5; decide, ?_⟩) p
  obtain ⟨n, rooms⟩ := x
  obtain ⟨n5, F0, f3, hfull⟩ := hx
  simp only at n5 F0 f3 hfull
  let F := rooms.length
  let hD : D := houseD n rooms
  have hrooms : ∀ {ss : List Sl}, ss[1]? = some (.im hD) → EvD ss (tOp (rIx K) (tVar 1) (tC (.int 1))) (tN rooms) := fun h => ev_ix (ev_var h) ev_int rfl rfl
  have hlen : ∀ {ss : List Sl}, ss[1]? = some (.im hD) → EvD ss (tCB (Lg.rLen K) (tCons (tOp (rIx K) (tVar 1) (tC (.int 1))) tNil)) (dN F) := fun h => by
    have := ev_len (K := K) (hrooms h) (a := tN rooms) rfl
    rw [List.length_map] at this; exact this
  have hrm : ∀ j, j < F → rm rooms j ≤ 1000 := fun j hj => by
    have h1 : ∀ k, j + 1 + k ≤ F → rm rooms j ≤ rwB rooms (j + 1 + k) := fun k => by
      induction k with
      | zero => intro _; rw [Nat.add_zero, rwB_succ]; omega
      | succ k ih => intro h; rw [← Nat.add_assoc, rwB_succ]; have := ih (by omega); omega
    have h2 := h1 (F - (j + 1)) (by omega)
    rw [show j + 1 + (F - (j + 1)) = F by omega, rwB_last F0] at h2
    omega
  let L := (placesL rooms F).flatten
  have hL : L.length ≤ n := by show (placesL rooms F).flatten.length ≤ n; rw [places_len, rwB_last F0]; exact hfull
  refine ht_seq (N1 := fun s => s = [.bag, .im hD, .im (.lst (L.map dN)), .un, .un]) (ht_asgD (ev_call (E := E0) (A := A_law_flat) (Pre := fun rows => rows.flatten.length ≤ 1000) (Post := fun rows d => d = .lst (rows.flatten.map dN)) (placesL rooms F) (ea1 (EvN.dat (EvN.mono (en_lcA (n := F) (el := fun j => .rtup [dN j, dN (rm rooms j)]) (f := fun j => .lst ((List.replicate (rm rooms j) j).map dN)) ?_ (by omega) rfl ?_) fun y hy => ?_))) (by show L.length ≤ 1000; omega)) rfl) ?_
  · have h := src_enT (K := K) (ss := [.bag, .im hD, .un, .un, .un]) (ea1 (hrooms rfl)) (a := tN rooms) rfl
    rw [List.length_map] at h
    exact (Src.inr (src_el h fun j hj => by show D.rtup [_, _] = _; rw [dAt_rooms hj])).c
  · intro j hj
    refine ⟨_, _, tgt_2 (a1 := dN j) (a2 := dN (rm rooms j)) rfl, by decide, rfl, EvD.to (EvN.dat (en_mulL (k := rm rooms j) (ea1 (ev_var (i := 3) rfl)) (ev_var (i := 4) rfl) (hrm j hj))) (by rw [List.map_replicate])⟩
  · rw [hy, map_upto]
  rintro ss1 rfl
  have hdl : EvD [.bag, .im hD, .im (.lst (L.map dN)), .un, .un] (tCB (Lg.rLen K) (tCons (tVar 2) tNil)) (dN L.length) := by
    have := ev_lenV (K := K) (EvD.v (ev_var (ss := [.bag, .im hD, .im (.lst (L.map dN)), .un, .un]) (i := 2) rfl))
    rw [List.length_map] at this; exact this
  refine ht_ret (P := fun d => ∃ ds, d = .tup ds ∧ ds.Perm ((L ++ List.replicate (n - L.length) F).map dN)) (ev_tAV (EvP.v (ev_callBP (A := A_law_mixed) (i := 0) (PL := fun y => y = [.lst ((L ++ List.replicate (n - L.length) F).map dN)]) rfl (EvA.mono (ea_one (evl_cat (PL := fun y => y = L.map dN) (PL' := fun y => y = List.replicate (n - L.length) (dN F)) (PL2 := fun y => y = (L ++ List.replicate (n - L.length) F).map dN) ((ev_var (i := 2) rfl).is ⟨_, rfl, rfl⟩) (EvN.p (en_mulL (k := n - L.length) (ea1 (hlen rfl)) ((ev_sub (m := (n : Int)) (n := (L.length : Int)) (ev_ix (ev_var (i := 1) rfl) ev_int rfl rfl) hdl).to (by show D.int _ = D.int _; congr 1; omega)) (by omega))) ?_)) ?_) ?_))) ?_
  · rintro a b rfl rfl
    refine ⟨by rw [List.length_map, List.length_replicate]; omega, by rw [List.map_append, List.map_replicate]⟩
  · rintro y ⟨d, rfl, ds, rfl, rfl⟩; rfl
  · rintro ds rfl
    refine ⟨_, rfl, ?_, fun d h => h⟩
    show (List.map dN _).length ≤ 900
    rw [List.length_map, List.length_append, List.length_replicate]; omega
  · rintro d ⟨ds, rfl, h⟩
    obtain ⟨st, rfl, hp⟩ := perm_dN h
    refine ⟨st, rfl, ?_, fun f hf => ?_⟩
    · have := hp.length_eq
      rw [List.length_append, List.length_replicate] at this; omega
    · rcases List.mem_append.mp (hp.mem_iff.mp hf) with h | h
      · exact Nat.le_of_lt (places_mem h)
      · rw [List.mem_replicate] at h; exact Nat.le_of_eq h.2
/-! ### a run -/
structure RN where
  n : Nat
  rooms : List Nat
  st : List Nat
  many : Nat
  strikes : Nat
structure RN.Ok (a : RN) : Prop where
  h : RoomsOk a.n a.rooms
  st : IsSt a.rooms.length a.n a.st
  many : a.many ≤ 6
  strikes : a.strikes ≤ 1000
def A_law_run (a : RN) : List D := [houseD a.n a.rooms, stD a.st, dN a.many, dN a.strikes]
def P_law_run (n : Nat) (rooms : List Nat) (d : D) : Prop := ∃ a log c, d = .tup [a, logD log, c] ∧ LogOk n rooms log ∧ log.length ≤ 6
def sp_law_run : Sp := spB A_law_run RN.Ok (fun a d => P_law_run a.n a.rooms d)
theorem evi_of {ss : List Sl} {te : TE} {p : Nat → Prop} (h : EvP ss te (fun d => ∃ n : Nat, d = dN n ∧ p n)) : EvI ss te (fun _ => True) := EvP.mono h fun d ⟨n, e, _⟩ => ⟨(n : Int), e, trivial⟩
theorem c_law_run (vs H Q E) (p : sp_law_run vs H Q E) : t_law_run K sp_law_one sp_law_mixed sp_law_take sp_law_drawn_move sp_law_done (fin Q) (L2.start N_law_run vs) H := by
  refine body_B (fun a ha => ⟨by show 5 ≤ 13; decide, ?_⟩) p
  obtain ⟨n, rooms, st, many, strikes⟩ := a
  obtain ⟨hr, hst, hmany, hstr⟩ := ha
  simp only at hr hst hmany hstr
  have n5 := hr.n5
  let F := rooms.length
  let hD : D := houseD n rooms
  have hn : ∀ {ss : List Sl}, ss[1]? = some (.im hD) → EvD ss (tOp (rIx K) (tVar 1) (tC (.int 0))) (dN n) := fun h => ev_ix (ev_var h) ev_int rfl rfl
  refine ht_seq (N1 := fun s => ∃ way : Nat, s = [.bag, .im hD, .im (stD st), .im (dN many), .im (dN strikes), .own [], .own [], .own [stD st], .im (dN way), .un, .un, .un, .un]) (ht_tupasgB (em_own (en_nil) (em_own en_nil (em_own (en_d (ea1 (ev_var (i := 2) rfl)) one_le) (em_im (ev_oneI (i := 0) (n := 4) (p := fun _ => True) rfl (ea_more (evn (k := 0) ev_int trivial) (ea_more (evn (k := 0) ev_int trivial) (ea_more (evn (k := 1) ev_int trivial) (ea_more (evn (k := 2) ev_int trivial) ea_none)))) (by omega) (by omega)) em_nil)))) (by omega) ?_) ?_
  · rintro x ⟨_, _, rfl, rfl, _, _, rfl, rfl, _, _, rfl, rfl, _, _, rfl, ⟨way, rfl, _⟩, rfl⟩
    exact ⟨rfl, tgm_name (tgm_name (tgm_name (tgm_name (tgm_nil ⟨way, rfl⟩))))⟩
  rintro ss1 ⟨way, rfl⟩
  let Pf : List D → Prop := fun ds => (∀ d ∈ ds, ∃ y : Nat, d = dN y ∧ y < n) ∧ (0 < n → ds ≠ []) ∧ ds.length ≤ 5
  refine ht_seq (N1 := fun s => ∃ ds, s = [.bag, .im hD, .im (stD st), .im (dN many), .im (dN strikes), .own [], .own [], .own [stD st], .im (dN way), .im (.lst ds), .un, .un, .un] ∧ Pf ds) (ht_asg (P := fun d => ∃ ds, d = .lst ds ∧ ∃ (es : List D) (k : Nat), ds = es.take k ∧ es.Perm (upto n dN) ∧ 1 ≤ k) (evl_slT (p := fun k => 1 ≤ k) (ev_mixed (i := 0) rfl (EvN.dat (en_lstRg (hn rfl) (by omega))) (by rw [upto_len]; omega)) (ev_op (Pa := fun d => d = .int 1) (Pb := fun d => ∃ k : Nat, d = dN k ∧ k < max 1 n) ev_int (ev_take (i := 0) (m := max 1 n) rfl ((ev_max2 (m := 1) (n := (n : Int)) ev_int (hn rfl)).to (by show D.int _ = D.int _; congr 1; omega)) (by omega) (by omega)) ?_)) ?_) ?_
  · rintro a b rfl ⟨k, rfl, _⟩
    exact rd_inl (rd_I0' (g := fun i j => i + j) ⟨k + 1, by show D.int _ = D.int _; congr 1; omega, by omega⟩)
  · rintro d ⟨_, rfl, es, k, rfl, hp, hk⟩
    obtain ⟨l, rfl, hl⟩ := perm_dN (l := List.range n) hp
    have hll : l.length = n := by have := hl.length_eq; simpa using this
    refine ⟨_, rfl, fun d hd => ?_, fun h0 z => ?_, ?_⟩
    · obtain ⟨y, hy, rfl⟩ := List.mem_map.mp (List.mem_of_mem_take hd)
      exact ⟨y, rfl, List.mem_range.mp (hl.mem_iff.mp hy)⟩
    · have := congrArg List.length z
      rw [List.length_take, List.length_map, hll] at this
      simp at this; omega
    · rw [List.length_take, List.length_map, hll]; omega
  rintro ss1 ⟨fv, rfl, hf1, hf2, hf3⟩
  let S : List D → List Ent → List D → List Nat → Sl → Sl → Sl → List Sl := fun rn lg sts cur a b c => [.bag, .im hD, .im (stD st), .im (dN many), .im (dN strikes), .own rn, .own (lg.map eD), .own (sts ++ [stD cur]), .im (dN way), .im (.lst fv), a, b, c]
  let m0 : Nat := if 0 < n then many else 0
  have hm0 : m0 ≤ 6 := by show (if _ then _ else _) ≤ 6; split <;> omega
  refine ht_seq (N1 := fun s => ∃ rn lg sts cur a b c, s = S rn lg sts cur a b c ∧ (∀ e ∈ lg, EntOk n e ∧ e.2.2 ≤ F) ∧ lg.length ≤ 6) (ht_for (n := m0) (el := fun i => .int (i : Int)) (src_r1 (ea1 (ev_if (P := fun d => d = dN m0) (B := fun b => b = decide (0 < n)) ((eb_d (ev_gt (m := (n : Int)) (n := 0) (hn rfl) ev_int)).mono fun b hb => by rw [hb]; simp) (fun h => ?_) fun h => ?_)) (by omega)) (fun i s => ∃ rn lg sts cur a b c, s = S rn lg sts cur a b c ∧ (∀ e ∈ lg, EntOk n e ∧ e.2.2 ≤ F) ∧ lg.length = i ∧ rn.length = i ∧ sts.length = i ∧ IsSt F n cur) ⟨[], [], [], st, _, _, _, rfl, (fun e h => by cases h), rfl, rfl, rfl, hst⟩ ?_ ?_) ?_
  · have h0 : 0 < n := by simpa using h.symm
    have : m0 = many := if_pos h0
    rw [this]; exact ev_var (i := 3) rfl
  · have h0 : ¬ 0 < n := by simpa using h.symm
    have : m0 = 0 := if_neg h0
    rw [this]; exact ev_int
  · rintro i ss1 hi ⟨rn, lg, sts, cur, a, b, c, rfl, hlg, hl1, hl2, hl3, hcur⟩
    have h0 : 0 < n := Classical.byContradiction fun z => by
      have : m0 = 0 := if_neg z
      omega
    refine ⟨_, _, tgt_name, ?_⟩
    have hlast : ∀ {ss : List Sl}, ss[7]? = some (.own (sts ++ [stD cur])) → EvD ss (tOp (rIx K) (tVar 7) (tUn (rU fun i => .int (-i)) (tC (.int 1)))) (stD cur) := fun h => ev_ixOwn h ev_n1 (atI_last (by simp))
    refine ht_seq (N1 := fun s => ∃ x : Nat, s = S rn lg sts cur (.im (dN i)) (.im (dN x)) c ∧ x < n) (ht_asg (P := fun d => ∃ x : Nat, d = dN x ∧ x < n) (ev_if (B := fun _ => True) (evb_op (p := fun _ => True) (q := any) (evi_of (ev_take (i := 0) (m := 3) rfl ev_int (by omega) (by omega))) (EvI.of (ev_int (n := 0)) trivial) fun _ _ _ _ => trivial) (fun _ => ev_one (i := 0) rfl ((ev_var (i := 9) rfl).is ⟨fv, rfl, hf2 h0, by omega, hf1⟩)) fun _ => ev_take (i := 0) (m := n) rfl (hn rfl) h0 (by omega)) ?_) ?_
    · rintro d ⟨x, rfl, h⟩
      exact ⟨x, rfl, h⟩
    rintro ss1 ⟨x, rfl, hx⟩
    refine ht_seq (N1 := fun s => s = S rn lg sts cur (.im (dN i)) (.im (dN x)) (.im (moveD "strike" x []))) (ht_asgD (ev_tB (ea3 ev_str (ev_var (i := 11) rfl) (ev_tB ea_nil (Nat.zero_le _))) (Nat.le_of_ble_eq_true rfl)) rfl) ?_
    rintro ss1 rfl
    refine ht_seq (N1 := fun s => ∃ w ds fn, s = S rn lg sts cur (.im (dN i)) (.im (dN x)) (.im (moveD w x ds)) ∧ (w = "ask" ∨ w = "strike") ∧ ds.length ≤ 3 ∧ Does rooms cur w x ds fn) (ht_if (Bb := fun _ => True) (eb_or (B := fun b => b = decide (strikes = 0)) ((eb_d (ev_eqI (m := (strikes : Int)) (n := 0) (ev_var (i := 4) rfl) ev_int)).mono fun b hb => by rw [hb]; exact decEqI strikes 0) (fun h => ?_) fun _ => trivial) (fun _ => ?_) fun _ => ht_next ⟨"strike", [], cur.set x F, rfl, .inr rfl, Nat.zero_le _, .inl ⟨rfl, rfl, rfl⟩⟩) ?_
    · have hs : ¬ strikes = 0 := by simpa using h.symm
      exact evb_op (p := fun _ => True) (q := any) (evi_of (ev_take (i := 0) (m := strikes) rfl (ev_var (i := 4) rfl) (by omega) hstr)) (EvI.of (ev_int (n := 0)) trivial) fun _ _ _ _ => trivial
    · refine ht_asg (ev_callB (A := A_law_drawn_move) ⟨n, rooms, cur, x, way⟩ (i := 0) rfl (ea_cons (ev_var (i := 1) rfl) (ea3 (hlast rfl) (ev_var (i := 11) rfl) (ev_var (i := 8) rfl))) ⟨hr, hcur.1, hx⟩) ?_
      rintro d ⟨ds, rfl, h3, fn, hc⟩
      exact ⟨"ask", ds, fn, rfl, .inl rfl, h3, .inr ⟨rfl, hc⟩⟩
    rintro ss1 ⟨w, ds, fn, rfl, hw, hd3, hdo⟩
    let S2 : List D → List Ent → List Sl := fun rn lg => S rn lg sts cur (.im (dN i)) (.im (dN x)) (.im (moveD w x ds))
    refine ht_seq (N1 := fun s => s = S2 (rn ++ [moveD w x ds]) lg) (ht_app (i := 5) rfl (ev_var (i := 12) rfl) (by omega) rfl) ?_
    rintro ss1 rfl
    have hxc : x < cur.length := by rw [hcur.1]; exact hx
    refine ht_seq (N1 := fun s => s = S2 (rn ++ [moveD w x ds]) (lg ++ [(w, x, gof F cur x)])) (ht_app (i := 6) (a := eD (w, x, gof F cur x)) rfl (ev_tB (ea3 (ev_ix (a := moveD w x ds) (ev_var (i := 12) rfl) ev_int rfl rfl) (ev_var (i := 11) rfl) (ev_ix (a := stD cur) (hlast rfl) (ev_var (i := 11) rfl) rfl (atI_nat ?_))) (Nat.le_of_ble_eq_true rfl)) (by rw [List.length_map]; omega) ?_) ?_
    · rw [List.getElem?_map, List.getElem?_eq_getElem hxc]
      unfold gof
      rw [List.getD_eq_getElem?_getD, List.getElem?_eq_getElem hxc]; rfl
    · show [_, _, _, _, _, _, Sl.own (lg.map eD ++ [_]), _, _, _, _, _, _] = [_, _, _, _, _, _, Sl.own ((lg ++ [_]).map eD), _, _, _, _, _, _]
      rw [List.map_append]; rfl
    rintro ss1 rfl
    refine ht_app (i := 7) (a := stD fn) rfl (EvD.wk (e := stD fn) (d := stR fn) (ev_call (E := E0) (A := A_law_done) (Pre := MV.Ok) (Post := fun a d => d = stR a.fin) ⟨n, rooms, cur, w, x, ds, fn⟩ (ea3 (ev_var (i := 1) rfl) (hlast rfl) (ev_var (i := 12) rfl)) ⟨n5, hr.f3, hcur.1, hx, hdo, hd3⟩) Wk.rt1) (by rw [List.length_append, List.length_singleton]; omega) ⟨rn ++ [moveD w x ds], lg ++ [(w, x, gof F cur x)], sts ++ [stD cur], fn, _, _, _, rfl, fun e he => ?_, by simp [hl1], by simp [hl2], by simp [hl3], does_st hdo hcur⟩
    rcases List.mem_append.mp he with h | h
    · exact hlg e h
    · rw [List.mem_singleton] at h
      subst h
      exact ⟨⟨hw, hx⟩, hcur.le x⟩
  · rintro ss1 ⟨rn, lg, sts, cur, a, b, c, rfl, h1, h2, _⟩
    exact ⟨rn, lg, sts, cur, a, b, c, rfl, h1, by omega⟩
  rintro ss1 ⟨rn, lg, sts, cur, a, b, c, rfl, h1, h2⟩
  exact ht_freeze (i := 7) rfl (ht_retD (ev_tB (ea3 (ev_tA (ev_own (i := 5) rfl)) (ev_tA (ev_own (i := 6) rfl)) (ev_var (i := 7) rfl)) (Nat.le_of_ble_eq_true rfl)) ⟨_, lg, _, rfl, ⟨h1, by omega⟩, h2⟩)
end
end FK
end
section
set_option Elab.async false
set_option linter.all false
set_option maxRecDepth 100000
/-! The drawing: a story, a log bent. -/
namespace FK
open PySem PySem.Spec PyProof.Rows L2 Lg Lr RZ FM
variable [tbs : Tbs]
section
variable {K : PySem.W.Frag}
structure ST where
  n : Nat
  rooms : List Nat
  s : Option (List Nat)
  many : Nat
  strikes : Nat
structure ST.Ok (a : ST) : Prop where
  h : RoomsOk a.n a.rooms
  s : StartOk a.n a.rooms a.s
  many : a.many ≤ 6
  strikes : a.strikes ≤ 1000
def A_law_story (a : ST) : List D := [houseD a.n a.rooms, startD a.s, dN a.many, dN a.strikes]
def sp_law_story : Sp := spB A_law_story ST.Ok (fun a d => P_law_run a.n a.rooms d)
theorem c_law_story (vs H Q E) (p : sp_law_story vs H Q E) : t_law_story K sp_law_full_state sp_law_run (fin Q) (L2.start N_law_story vs) H := by
  refine body_B (fun a ha => ⟨by show 5 ≤ 5; decide, ?_⟩) p
  obtain ⟨n, rooms, s, many, strikes⟩ := a
  obtain ⟨hr, hs, hm, hst⟩ := ha
  simp only at hr hs hm hst
  let hD : D := houseD n rooms
  refine ht_ret (P := P_law_run n rooms) (ev_callBP (A := A_law_run) (i := 0) (PL := fun y => ∃ st, y = [hD, stD st, dN many, dN strikes] ∧ IsSt rooms.length n st) rfl (EvA.mono (ea_consP (ev_var (i := 1) rfl) (ea_consP (P := fun d => ∃ st, d = tN st ∧ IsSt rooms.length n st) (ev_if (B := fun b => b = s.isNone) (eb_d (ev_isNon (c := s.isNone) (ev_var (i := 2) rfl) ?_)) (fun h => ?_) fun h => ?_) (ea2 (ev_var (i := 3) rfl) (ev_var (i := 4) rfl)))) ?_) ?_) fun d h => h
  · cases s <;> simp [startD]
  · have hn : s = none := by cases s with | none => rfl | some _ => cases h
    exact ev_callB (A := A_law_full_state) (n, rooms) (i := 0) rfl (ea1 (ev_var (i := 1) rfl)) ⟨hr.n5, hr.F0, hr.f3, hs.full hn⟩
  · cases s with
    | none => cases h
    | some st => exact (ev_var (i := 2) rfl).is ⟨st, rfl, (hs.st st rfl).1⟩
  · rintro y ⟨_, _, rfl, rfl, _, _, rfl, ⟨st, rfl, h⟩, rfl⟩
    exact ⟨st, rfl, h⟩
  · rintro y ⟨st, rfl, h⟩
    exact ⟨⟨n, rooms, st, many, strikes⟩, rfl, ⟨hr, h, hm, hst⟩, fun d h => h⟩
/-! ### a log bent -/
structure BL where
  n : Nat
  rooms : List Nat
  log : List Ent
structure BL.Ok (a : BL) : Prop where
  h : RoomsOk a.n a.rooms
  log : LogOk a.n a.rooms a.log
def A_law_bent_log (a : BL) : List D := [houseD a.n a.rooms, logD a.log]
def P_log (a : BL) (m : Nat) (d : D) : Prop := ∃ lg, d = logD lg ∧ (∀ e ∈ lg, EntOk a.n e ∧ e.2.2 ≤ a.rooms.length) ∧ lg.length ≤ m
def sp_law_bent_log : Sp := spB A_law_bent_log BL.Ok (fun a d => P_log a a.log.length d)
theorem dpt_log {log : List Ent} (h : ∀ e ∈ log, PyData.strOk e.1 = true) : dpt 2 (logD log) = true := dpt_tup fun d hd => by
  obtain ⟨e, he, rfl⟩ := List.mem_map.mp hd
  refine dpt_tup fun d hd => ?_
  simp only [List.mem_cons, List.not_mem_nil, or_false] at hd
  rcases hd with rfl | rfl | rfl
  · exact dpt_str (h e he)
  · exact dpt_int
  · exact dpt_int
theorem EntOk.str {n : Nat} {e : Ent} (h : EntOk n e) : PyData.strOk e.1 = true := by rcases h.w with h | h <;> rw [h]; exact askOk; exact strikeOk
theorem mem_set' {α : Type} {l : List α} {i : Nat} {a b : α} (h : b ∈ l.set i a) : b = a ∨ b ∈ l := by
  rcases List.mem_or_eq_of_mem_set h with h | h
  · exact .inr h
  · exact .inl h
theorem map_erase {α β : Type} {f : α → β} : ∀ {l : List α} {k : Nat}, (l.eraseIdx k).map f = (l.map f).eraseIdx k
  | [], _ => rfl
  | a :: l, 0 => rfl
  | a :: l, k + 1 => by
    rw [List.eraseIdx_cons_succ, List.map_cons, List.map_cons, List.eraseIdx_cons_succ, map_erase]
theorem c_law_bent_log (vs H Q E) (p : sp_law_bent_log vs H Q E) : t_law_bent_log K sp_law_one sp_law_take (fin Q) (L2.start N_law_bent_log vs) H := by
  refine body_B (fun a ha => ⟨by show 3 ≤ 10; decide, ?_⟩) p
  obtain ⟨n, rooms, log⟩ := a
  obtain ⟨hr, hl⟩ := ha
  simp only at hr hl
  have n5 := hr.n5
  have f3 := hr.f3
  have l100 := hl.l
  let F := rooms.length
  let hD : D := houseD n rooms
  let S : List Ent → Sl → Sl → Sl → Sl → Sl → Sl → List Sl := fun lg a b c d e f => [.bag, .im hD, .im (logD log), .own (lg.map eD), a, b, c, d, e, f]
  refine ht_seq (N1 := fun s => s = S log .un .un .un .un .un .un) (ht_asgNL (en_list (ev_var (i := 2) rfl) rfl) rfl) ?_
  rintro ss1 rfl
  have hlen : ∀ {ss : List Sl}, ss[1]? = some (.im hD) → EvD ss (tOp (rPlus K) (tCB (Lg.rLen K) (tCons (tOp (rIx K) (tVar 1) (tC (.int 1))) tNil)) (tC (.int 1))) (dN (F + 1)) := fun h => by
    have := ev_len (K := K) (ev_ix (K := K) (ev_var h) (ev_int (n := 1)) rfl rfl) (a := tN rooms) rfl
    rw [List.length_map] at this
    exact (ev_add (m := (F : Int)) (n := 1) this ev_int).to rfl
  have hn : ∀ {ss : List Sl}, ss[1]? = some (.im hD) → EvD ss (tOp (rIx K) (tVar 1) (tC (.int 0))) (dN n) := fun h => ev_ix (ev_var h) ev_int rfl rfl
  let Ok : Ent → Prop := fun e => EntOk n e ∧ e.2.2 ≤ F
  let Pe : D → Prop := fun d => ∃ e, d = eD e ∧ Ok e
  refine ht_seq (N1 := fun s => ∃ lg a b c d e f, s = S lg a b c d e f ∧ (∀ e ∈ lg, Ok e) ∧ lg.length ≤ log.length) (ht_forX (srcx_rng (p := fun m => 0 ≤ m ∧ m ≤ 2 ∧ (log = [] → m = 0)) (ev_if (B := fun b => b = !log.isEmpty) ((eb_d (ev_neNilT (k := 2) (ds := log.map eD) (ev_var (i := 2) rfl) (dpt_log fun e he => (hl.e e he).1.str) (by omega))).mono fun b hb => by rw [hb, List.isEmpty_map]) (fun h => ?_) fun h => ?_) ?_) ?_) ?_
  · have hne : log ≠ [] := fun z => by rw [z] at h; cases h
    refine EvP.mono (ev_oneI (i := 0) (n := 3) (p := fun k => k ≤ 2) rfl (ea_more (evn (k := 1) ev_int (by omega)) (ea_more (evn (k := 2) ev_int (by omega)) (ea_more (evn (k := 1) ev_int (by omega)) ea_none))) (by omega) (by omega)) ?_
    rintro d ⟨k, rfl, hk⟩
    exact ⟨(k : Int), rfl, by omega, by omega, fun z => absurd z hne⟩
  · exact EvI.of ev_int ⟨by omega, by omega, fun _ => rfl⟩
  · intro m h; omega
  · rintro m el ⟨⟨_, hm2, hm0⟩, rfl⟩
    refine ⟨fun i s => ∃ lg a b c d e f, s = S lg a b c d e f ∧ (∀ e ∈ lg, Ok e) ∧ lg.length ≤ log.length ∧ (log ≠ [] → lg ≠ []), ⟨log, _, _, _, _, _, _, rfl, hl.e, Nat.le_refl _, fun h => h⟩, ?_, ?_⟩
    · rintro i ss1 hi ⟨lg, a, b, c, d, e, f, rfl, hok, hle, hne⟩
      have hlog : log ≠ [] := fun z => by have := hm0 z; omega
      have hlg := List.length_pos_iff.mpr (hne hlog)
      refine ⟨_, _, tgt_name, ?_⟩
      refine ht_seq (N1 := fun s => ∃ (at_ way : Nat), s = S lg (.im (dN i)) (.im (dN at_)) (.im (dN way)) d e f ∧ at_ < lg.length) (ht_par (em_im (ev_take (i := 0) (m := lg.length) rfl ((ev_lenV (ev_own (i := 3) rfl)).to (by rw [List.length_map])) hlg (by omega)) (em_im (ev_take (i := 0) (m := 6) rfl ev_int (by omega) (by omega)) em_nil)) ?_) ?_
      · rintro x ⟨_, _, rfl, ⟨at_, rfl, h1⟩, _, _, rfl, ⟨way, rfl, _⟩, rfl⟩
        exact ⟨_, _, rfl, at_, way, rfl, h1⟩
      rintro ss1 ⟨at_, way, rfl, hat⟩
      let en := lg.getD at_ e0
      have hen : lg[at_]? = some en := by show _ = some (lg.getD at_ e0); rw [List.getD_eq_getElem?_getD, List.getElem?_eq_getElem hat]; rfl
      have heo : Ok en := hok en (List.mem_of_getElem? hen)
      refine ht_seq (N1 := fun s => s = S lg (.im (dN i)) (.im (dN at_)) (.im (dN way)) (.im (.str en.1)) (.im (dN en.2.1)) (.im (dN en.2.2))) (ht_asgG (a := eD en) (ev_ixOwn (i := 3) rfl (ev_var (i := 5) rfl) (atI_nat (by rw [List.getElem?_map, hen]; rfl))) (tgt_3 rfl) rfl) ?_
      rintro ss1 rfl
      let S1 : List Ent → List Sl := fun lg => S lg (.im (dN i)) (.im (dN at_)) (.im (dN way)) (.im (.str en.1)) (.im (dN en.2.1)) (.im (dN en.2.2))
      have hn0 : 0 < n := by have := heo.1.x; omega
      have hset : ∀ {te : TE}, EvP (S1 lg) te Pe → HT (S1 lg) (tAsg te (gSub (tVar 3) (tVar 5) rSetL)) (fun s => ∃ lg a b c d e f, s = S lg a b c d e f ∧ (∀ e ∈ lg, Ok e) ∧ lg.length ≤ log.length ∧ (log ≠ [] → lg ≠ [])) (fun d => P_log ⟨n, rooms, log⟩ log.length d) (fun s => ∃ lg a b c d e f, s = S lg a b c d e f ∧ (∀ e ∈ lg, Ok e) ∧ lg.length ≤ log.length) (fun s => ∃ lg a b c d e f, s = S lg a b c d e f ∧ (∀ e ∈ lg, Ok e) ∧ lg.length ≤ log.length ∧ (log ≠ [] → lg ≠ [])) := fun h => ht_asgT h fun d ⟨e2, ed, ho⟩ => by
        subst ed
        refine ⟨_, _, tgt_item (i := 3) (k := (at_ : Int)) (m := at_) (ds := lg.map eD) rfl (ev_var (i := 5) rfl) (ixN_of (by rw [List.length_map]; exact hat)), lg.set at_ e2, .im (dN i), .im (dN at_), .im (dN way), .im (.str en.1), .im (dN en.2.1), .im (dN en.2.2), ?_, fun e he => ?_, by rw [List.length_set]; exact hle, fun _ z => ?_⟩
        · rw [← List.map_set]; rfl
        · rcases mem_set' he with rfl | h
          · exact ho
          · exact hok e h
        · have h4 : (lg.set at_ e2).length = 0 := by rw [z]; rfl
          rw [List.length_set] at h4; omega
      refine ht_if (Bb := fun _ => True) ((eb_d (ev_lt (m := (way : Int)) (n := 4) (ev_var (i := 6) rfl) ev_int)).mono fun _ _ => trivial) (fun _ => hset (EvP.mono (ev_tBX (ea_consP (ev_var (i := 7) rfl) (ea_consP (ev_var (i := 8) rfl) (ea_one (ev_take (i := 0) (m := F + 1) rfl (hlen rfl) (by omega) (by omega))))) ?_) ?_)) fun _ => ht_if (Bb := fun _ => True) ((eb_d (ev_eqI (m := (way : Int)) (n := 4) (ev_var (i := 6) rfl) ev_int)).mono fun _ _ => trivial) (fun _ => hset (EvP.mono (ev_tBX (ea_consP (ev_var (i := 7) rfl) (ea_consP (ev_take (i := 0) (m := n) rfl (hn rfl) hn0 (by omega)) (ea1 (ev_var (i := 9) rfl)))) ?_) ?_)) fun _ => ht_if (Bb := fun b => b = decide (1 < lg.length)) ((eb_d (ev_gt (m := (lg.length : Int)) (n := 1) ((ev_lenV (ev_own (i := 3) rfl)).to (by rw [List.length_map])) ev_int)).mono fun b hb => by rw [hb]; simp; omega) (fun hb => ?_) fun _ => ht_next ⟨lg, _, _, _, _, _, _, rfl, hok, hle, hne⟩
      · rintro ds ⟨_, _, rfl, rfl, _, _, rfl, rfl, _, rfl, _⟩
        exact Nat.le_of_ble_eq_true rfl
      · rintro d ⟨ds, rfl, _, _, rfl, rfl, _, _, rfl, rfl, _, rfl, k, rfl, hk⟩
        exact ⟨(en.1, en.2.1, k), rfl, ⟨heo.1.w, heo.1.x⟩, by show k ≤ F; omega⟩
      · rintro ds ⟨_, _, rfl, rfl, _, _, rfl, _, rfl⟩
        exact Nat.le_of_ble_eq_true rfl
      · rintro d ⟨ds, rfl, _, _, rfl, rfl, _, _, rfl, ⟨k, rfl, hk⟩, rfl⟩
        exact ⟨(en.1, k, en.2.2), rfl, ⟨heo.1.w, hk⟩, heo.2⟩
      · have h1 : 1 < lg.length := by simpa using hb.symm
        refine ht_popAt (i := 3) (ds := lg.map eD) (k := at_) rfl (ev_var (i := 5) rfl) (by rw [List.length_map]; exact hat) (by rw [List.length_map]; omega) ⟨lg.eraseIdx at_, .im (dN i), .im (dN at_), .im (dN way), .im (.str en.1), .im (dN en.2.1), .im (dN en.2.2), ?_, fun e he => hok e (List.mem_of_mem_eraseIdx he), by rw [List.length_eraseIdx, if_pos hat]; omega, fun _ z => ?_⟩
        · rw [← map_erase]; rfl
        · have h4 : (lg.eraseIdx at_).length = 0 := by rw [z]; rfl
          rw [List.length_eraseIdx, if_pos hat] at h4; omega
    · rintro ss1 ⟨lg, a, b, c, d, e, f, rfl, h1, h2, _⟩
      exact ⟨lg, a, b, c, d, e, f, rfl, h1, h2⟩
  rintro ss1 ⟨lg, a, b, c, d, e, f, rfl, h1, h2⟩
  exact ht_retD (ev_tA (ev_own (i := 3) rfl)) ⟨lg, rfl, h1, h2⟩
def sp_law_other_log : Sp := spB A_law_bent_log BL.Ok (fun a d => P_log a (a.log.length + 1) d)
theorem c_law_other_log (vs H Q E) (p : sp_law_other_log vs H Q E) : t_law_other_log K sp_law_take sp_law_bent_log sp_law_one (fin Q) (L2.start N_law_other_log vs) H := by
  refine body_B (fun a ha => ⟨by show 3 ≤ 6; decide, ?_⟩) p
  obtain ⟨n, rooms, log⟩ := a
  obtain ⟨hr, hl⟩ := ha
  simp only at hr hl
  have n5 := hr.n5
  have f3 := hr.f3
  have l100 := hl.l
  let F := rooms.length
  let hD : D := houseD n rooms
  have hlen : ∀ {ss : List Sl}, ss[1]? = some (.im hD) → EvD ss (tOp (rPlus K) (tCB (Lg.rLen K) (tCons (tOp (rIx K) (tVar 1) (tC (.int 1))) tNil)) (tC (.int 1))) (dN (F + 1)) := fun h => by
    have := ev_len (K := K) (ev_ix (K := K) (ev_var h) (ev_int (n := 1)) rfl rfl) (a := tN rooms) rfl
    rw [List.length_map] at this
    exact (ev_add (m := (F : Int)) (n := 1) this ev_int).to rfl
  have hn : ∀ {ss : List Sl}, ss[1]? = some (.im hD) → EvD ss (tOp (rIx K) (tVar 1) (tC (.int 0))) (dN n) := fun h => ev_ix (ev_var h) ev_int rfl rfl
  have t0 : ∀ {ss : List Sl}, ss[0]? = some .bag → EvB ss (tTest (tOp (rEqD K) (tCall sp_law_take [] E0 (tCons (tVar 0) (tCons (tC (.int 3)) tNil))) (tC (.int 0)))) (fun _ => True) := fun h => evb_eq (p := fun _ => True) (q := any) (evi_of (ev_take (i := 0) (m := 3) h ev_int (by omega) (by omega))) (EvI.of (ev_int (n := 0)) trivial) fun _ _ _ _ => trivial
  let S : Sl → Sl → Sl → List Sl := fun a b c => [.bag, .im hD, .im (logD log), a, b, c]
  refine ht_seq (N1 := fun s => s = S .un .un .un ∧ 0 < n) (ht_if (Bb := fun b => b = false → 0 < n) (eb_or (B := fun b => b = decide (n = 0)) ((eb_d (ev_eqI (m := (n : Int)) (n := 0) (hn rfl) ev_int)).mono fun b hb => by rw [hb]; exact decEqI n 0) (fun h => (t0 rfl).mono fun b _ _ => ?_) fun h z => by cases z) (fun _ => ht_retD (ev_var (i := 2) rfl) ⟨log, rfl, hl.e, Nat.le_succ _⟩) fun h => ht_next ⟨rfl, h rfl⟩) ?_
  · have : ¬ n = 0 := by simpa using h.symm
    omega
  rintro ss1 ⟨rfl, hn0⟩
  refine ht_seq (N1 := fun s => ∃ lg, s = S (.im (logD lg)) .un .un ∧ (∀ e ∈ lg, EntOk n e ∧ e.2.2 ≤ F) ∧ lg.length ≤ log.length) (ht_asg (ev_callB (A := A_law_bent_log) ⟨n, rooms, log⟩ (i := 0) rfl (ea2 (ev_var (i := 1) rfl) (ev_var (i := 2) rfl)) ⟨hr, hl⟩) ?_) ?_
  · rintro d ⟨lg, rfl, h⟩
    exact ⟨lg, rfl, h⟩
  rintro ss1 ⟨lg, rfl, h1, h2⟩
  refine ht_seq (N1 := fun s => ∃ w, s = S (.im (logD lg)) (.im (.str w)) .un ∧ (w = "ask" ∨ w = "strike")) (ht_asg (P := fun d => ∃ w, d = .str w ∧ (w = "ask" ∨ w = "strike")) (ev_one (i := 0) rfl (EvN.p (EvN.mono (en_lst (ea_more (Pd := fun d => ∃ w, d = .str w ∧ (w = "ask" ∨ w = "strike")) (ev_str.is ⟨_, rfl, .inl rfl⟩) (ea_more (ev_str.is ⟨_, rfl, .inl rfl⟩) (ea_more (ev_str.is ⟨_, rfl, .inr rfl⟩) ea_none))) ?_) ?_))) ?_) ?_
  · rintro ds ⟨h, _⟩; omega
  · rintro ds ⟨h, h'⟩
    exact ⟨fun z => (by rw [z] at h; cases h), (by omega), h'⟩
  · rintro d ⟨w, rfl, h⟩
    exact ⟨w, rfl, h⟩
  rintro ss1 ⟨w, rfl, hw⟩
  refine ht_seq (N1 := fun s => ∃ e, s = S (.im (logD lg)) (.im (.str w)) (.im (eD e)) ∧ EntOk n e ∧ e.2.2 ≤ F) (ht_asg (ev_tBX (ea_consP (ev_var (i := 4) rfl) (ea_consP (ev_take (i := 0) (m := n) rfl (hn rfl) hn0 (by omega)) (ea_one (ev_take (i := 0) (m := F + 1) rfl (hlen rfl) (by omega) (by omega))))) ?_) ?_) ?_
  · rintro ds ⟨_, _, rfl, rfl, _, _, rfl, _, _, rfl, _⟩
    exact Nat.le_of_ble_eq_true rfl
  · rintro d ⟨ds, rfl, _, _, rfl, rfl, _, _, rfl, ⟨x, rfl, hx⟩, _, rfl, k, rfl, hk⟩
    exact ⟨(w, x, k), rfl, ⟨hw, hx⟩, by show k ≤ F; omega⟩
  rintro ss1 ⟨e, rfl, he1, he2⟩
  refine ht_ret (P := fun d => P_log ⟨n, rooms, log⟩ (log.length + 1) d) (ev_if (B := fun _ => True) (eb_and (B := fun _ => True) (t0 rfl) (fun _ => (eb_d (ev_lt (m := (lg.length : Int)) (n := 60) ((ev_len (ev_var (i := 3) rfl) (a := logD lg) rfl).to (by rw [List.length_map])) ev_int)).mono fun _ _ => trivial) fun _ => trivial) (fun _ => (ev_catT (ds := lg.map eD) (es := [eD e]) (ev_var (i := 3) rfl) rfl (ev_tB (ea1 (ev_var (i := 5) rfl)) one_le) rfl ?_).is ⟨lg ++ [e], ?_, ?_, ?_⟩) fun _ => (ev_var (i := 3) rfl).is ⟨lg, rfl, h1, by show lg.length ≤ log.length + 1; omega⟩) fun d h => h
  · rw [List.length_map]; simp; omega
  · show D.tup _ = D.tup _
    rw [List.map_append]; rfl
  · intro a ha
    rcases List.mem_append.mp ha with h | h
    · exact h1 a h
    · rw [List.mem_singleton] at h; subst h; exact ⟨he1, he2⟩
  · rw [List.length_append, List.length_singleton]; show lg.length + 1 ≤ log.length + 1; omega
end
end FK
end
section
set_option Elab.async false
set_option linter.all false
set_option maxRecDepth 100000
/-! repr of data of digits; what is alike. -/
namespace FK
open PySem PySem.Spec PyProof.Rows L2 Lg Lr RZ FM
/-- data that may be shown: in at most b signs -/
structure Txt (d : PyData) (b : Nat) : Prop where
  sh : d.showable = true
  ok : PyData.strOk d.shown = true
  len : d.shown.length ≤ b
theorem ok_app {a b : Str} (ha : PyData.strOk a = true) (hb : PyData.strOk b = true) : PyData.strOk (a ++ b) = true := by
  unfold PyData.strOk at *
  show (a.cps ++ b.cps).all _ = true
  rw [Array.all_append, ha, hb]; rfl
theorem txt_digit : ∀ k : Fin 10, (PyData.int ((k : Nat) : Int)).showable = true ∧ PyData.strOk (PyData.int ((k : Nat) : Int)).shown = true ∧ (PyData.int ((k : Nat) : Int)).shown.length ≤ 1 := by decide +kernel
theorem Txt.int {k : Nat} (h : k < 10) : Txt (.int (k : Int)) 1 := ⟨(txt_digit ⟨k, h⟩).1, (txt_digit ⟨k, h⟩).2.1, (txt_digit ⟨k, h⟩).2.2⟩
theorem Txt.mono {d : PyData} {b c : Nat} (h : Txt d b) (hb : b ≤ c) : Txt d c := ⟨h.sh, h.ok, Nat.le_trans h.len hb⟩
theorem shown_map : ∀ xs : List PyData, PyData.shownAll xs = xs.map PyData.shown
  | [] => rfl
  | x :: xs => by rw [PyData.shownAll, shown_map xs]; rfl
theorem showable_all {b : Nat} : ∀ {xs : List PyData}, (∀ x ∈ xs, Txt x b) → PyData.showableAll xs = true
  | [], _ => rfl
  | x :: xs, h => by
    rw [PyData.showableAll, (h x (by simp)).sh, showable_all fun y hy => h y (by simp [hy])]; rfl
theorem join_ok : ∀ {ts : List Str}, (∀ t ∈ ts, PyData.strOk t = true) → PyData.strOk (Str.join ", " ts) = true
  | [], _ => by decide +kernel
  | [x], h => h x (by simp)
  | x :: y :: r, h => ok_app (ok_app (h x (by simp)) (by decide +kernel)) (join_ok fun t ht => h t (List.mem_cons_of_mem _ ht))
theorem piled_le {b : Nat} : ∀ {ts : List Str}, (∀ t ∈ ts, t.length ≤ b) → piled ts ≤ ts.length * (b + 2)
  | [], _ => by simp [piled]
  | t :: ts, h => by
    have := piled_le (ts := ts) fun s hs => h s (by simp [hs])
    have := h t (by simp)
    rw [piled_cons, List.length_cons, Nat.succ_mul]; omega
theorem Txt.tup {xs : List PyData} {b : Nat} (h : ∀ x ∈ xs, Txt x b) : Txt (.tuple xs) (xs.length * (b + 2) + 3) := by
  have hs : ∀ t ∈ xs.map PyData.shown, PyData.strOk t = true ∧ t.length ≤ b := fun t ht => by
    obtain ⟨x, hx, rfl⟩ := List.mem_map.mp ht
    exact ⟨(h x hx).ok, (h x hx).len⟩
  have e : (PyData.tuple xs).shown = tupleText (xs.map PyData.shown) := by rw [PyData.shown, shown_map]
  refine ⟨?_, ?_, ?_⟩
  · rw [PyData.showable]; exact showable_all h
  · rw [e]
    unfold tupleText
    refine ok_app (ok_app (by decide +kernel) (join_ok fun t ht => (hs t ht).1)) ?_
    split <;> decide +kernel
  · rw [e]
    unfold tupleText
    rw [strLen_append, strLen_append]
    have h1 : ((if (xs.map PyData.shown).length == 1 then ",)" else ")" : String) : Str).length ≤ 2 := by split <;> decide +kernel
    have h2 : (("(" : Str)).length = 1 := by decide +kernel
    have h3 := piled_le fun t ht => (hs t ht).2
    rw [List.length_map] at h3
    by_cases hn : xs.map PyData.shown = []
    · rw [hn] at h1 ⊢
      have h4 : (Str.join ", " []).length = 0 := by decide +kernel
      omega
    · have := join_length_add _ hn
      omega
theorem from_ok : ∀ {ts : List Str} {k : Nat} {acc : Str}, PyData.strOk acc = true → (∀ t ∈ ts, PyData.strOk t = true) → PyData.strOk (textFrom k acc ts) = true
  | [], _, _, h, _ => h
  | t :: ts, k, acc, h, hs => from_ok (k := k + 1) (acc := acc ++ (if k > 0 then ", " else "" : String) ++ t) (ok_app (ok_app h (by split <;> decide +kernel)) (hs t (by simp))) fun s hs' => hs s (by simp [hs'])
theorem from_len : ∀ {ts : List Str} {k : Nat} {acc : Str}, (textFrom k acc ts).length ≤ acc.length + piled ts
  | [], _, acc => by show acc.length ≤ _; omega
  | t :: ts, k, acc => by
    have ih := from_len (ts := ts) (k := k + 1) (acc := acc ++ (if k > 0 then ", " else "" : String) ++ t)
    have e : (acc ++ (if k > 0 then ", " else "" : String) ++ t).length = acc.length + (if k > 0 then 2 else 0) + t.length := by
      rw [strLen_append, strLen_append]
      split <;> rfl
    rw [e] at ih
    rw [piled_cons]
    have : (if k > 0 then 2 else 0) ≤ 2 := by split <;> omega
    show (textFrom (k + 1) _ ts).length ≤ _
    omega
theorem Txt.lst {xs : List PyData} {b : Nat} (h : ∀ x ∈ xs, Txt x b) : Txt (.list xs) (xs.length * (b + 2) + 2) := by
  have hs : ∀ t ∈ xs.map PyData.shown, PyData.strOk t = true ∧ t.length ≤ b := fun t ht => by
    obtain ⟨x, hx, rfl⟩ := List.mem_map.mp ht
    exact ⟨(h x hx).ok, (h x hx).len⟩
  have e : (PyData.list xs).shown = listText (xs.map PyData.shown) := by rw [PyData.shown, shown_map]
  refine ⟨?_, ?_, ?_⟩
  · rw [PyData.showable]; exact showable_all h
  · rw [e]
    unfold listText
    exact ok_app (from_ok (by decide +kernel) fun t ht => (hs t ht).1) (by decide +kernel)
  · rw [e]
    unfold listText
    rw [strLen_append]
    have h1 := from_len (ts := xs.map PyData.shown) (k := 0) (acc := "[")
    have h2 : (("[" : Str)).length = 1 := by decide +kernel
    have h3 : (("]" : Str)).length = 1 := by decide +kernel
    have h4 := piled_le fun t ht => (hs t ht).2
    rw [List.length_map] at h4
    omega
theorem txt_cannot : Txt (.str "cannot") 8 := ⟨by decide +kernel, by decide +kernel, by decide +kernel⟩
variable [tbs : Tbs]
section
variable {K : PySem.W.Frag}
/-- two that are alike: the same truth, or the same data in few signs -/
structure Alike (a b : D) : Prop where
  py : a.py = b.py
  it : (∃ c, a = .bl c ∧ b = .bl c) ∨ ((∃ xs, a.py = .list xs ∨ a.py = .tuple xs) ∧ dpt 8 a = true ∧ Txt a.py 100000 ∧ dpt 8 b = true)
theorem dq_ref {H : Hp} {O Z : Av} {v : V} {d : D} (q : Dq H O Z v d) (h : ∃ xs, d.py = .list xs ∨ d.py = .tuple xs) : ∃ a, v = .ref a := by
  obtain ⟨xs, h⟩ := h
  cases q <;> first | exact ⟨_, rfl⟩ | (rcases h with h | h <;> cases h)
theorem ev_repr {ss : List Sl} {te : TE} {a : D} (h : EvD ss te a) (hr : ∃ xs, a.py = .list xs ∨ a.py = .tuple xs) (hd : dpt 8 a = true) (ht : Txt a.py 100000) : EvD ss (tCB (rReprD K) (tCons te tNil)) (.str a.py.shown) := ev_cb (ea1 h) fun ds e H O Z vs Q nn hd' q => by
  subst e
  cases hd' with
  | cons hx t =>
    cases t
    obtain ⟨l, rfl⟩ := dq_ref hx hr
    obtain ⟨h1, h2⟩ := dpt_ok hd
    exact .inr ⟨l, a.py, rfl, hx.dp, ht.sh, PyData.hasDict_of_canLay _ h1, h2, sz_of ht.len, q _ _ _ rfl Ext.refl (.str _)⟩
theorem ev_reprB {ss : List Sl} {te : TE} {c : Bool} (h : EvD ss te (.bl c)) : EvD ss (tCB (rReprD K) (tCons te tNil)) (.str (if c then "True" else "False")) := ev_cb (ea1 h) fun ds e H O Z vs Q nn hd' q => by
  subst e
  cases hd' with
  | cons hx t =>
    cases t
    cases hx
    exact .inl ⟨c, rfl, q _ _ _ rfl Ext.refl (.str _)⟩
def A_law_alike (x : D × D) : List D := [x.1, x.2]
def sp_law_alike : Sp := spP A_law_alike (fun x => Alike x.1 x.2) (fun _ d => d = .bl true)
theorem c_law_alike (vs H Q E) (p : sp_law_alike vs H Q E) : t_law_alike K (fin Q) (L2.start N_law_alike vs) H := by
  refine body_P (fun x hx => ⟨by show 2 ≤ 2; decide, ?_⟩) p
  obtain ⟨a, b⟩ := x
  obtain ⟨hpy, hit⟩ := hx
  simp only at hpy hit
  have key : ∀ s : Str, PyData.strOk s = true → EvD (ims [a, b] 2) (tCB (rReprD K) (tCons (tVar 0) tNil)) (.str s) → EvD (ims [a, b] 2) (tCB (rReprD K) (tCons (tVar 1) tNil)) (.str s) → SeqAt.shaped a.py = true → HT (ims [a, b] 2) (t_law_alike K) noS (fun d => d = .bl true) noS noS := fun s hs h0 h1 hsh => by
    have hcl : a.py.canLay0 = true := by
      have h2 : (a.py.canLay0 && decide (a.py.depth ≤ 64)) = true := hsh
      rw [Bool.and_eq_true] at h2; exact h2.1
    refine ht_ret (P := fun d => d = .bl true) (ev_andV (c := true) (ev_eq (Pa := fun d => d = a) (Pb := fun d => d = b) (P := fun d => d = .bl true) (ev_var (i := 0) rfl) (ev_var (i := 1) rfl) ?_) (fun _ => (ev_eqS h0 h1 hs hs).to (by rw [beq_self_eq_true])) fun z => by cases z) fun d h => h
    rintro _ _ rfl rfl
    exact ⟨hsh, hpy ▸ hsh, by rw [← hpy, SeqAt.eqv_refl _ hcl]⟩
  rcases hit with ⟨c, rfl, rfl⟩ | ⟨hr, hd, ht, hdb⟩
  · refine key _ ?_ (ev_reprB (ev_var (i := 0) rfl)) (ev_reprB (ev_var (i := 1) rfl)) rfl
    cases c <;> decide +kernel
  · refine key _ ht.ok (ev_repr (ev_var (i := 0) rfl) hr hd ht) ?_ (shp hd (by omega))
    rw [hpy] at hr ht ⊢
    exact ev_repr (ev_var (i := 1) rfl) hr hdb ht
end
end FK
end
section
set_option Elab.async false
set_option linter.all false
set_option maxRecDepth 100000
/-! Whether just the states to which all keepers lead are told. -/
namespace FK
open PySem PySem.Spec PyProof.Rows L2 Lg Lr RZ FM
variable [tbs : Tbs]
section
variable {K : PySem.W.Frag} {α : Type} {A : α → List D} {Pre : α → Prop} {Post : α → D → Prop} {ss : List Sl} {te tf : TE} {i : Nat} {ds : List D} {e : D} {E : XK} {c : Bool}
theorem ev_neS {x y : Str} (h : EvD ss te (.str x)) (h' : EvD ss tf (.str y)) (hx : PyData.strOk x = true) (hy : PyData.strOk y = true) : EvD ss (tOp (rNeD K) te tf) (.bl (!(x == y))) := ev_ne h h' fun a b ea eb => by
  subst ea eb
  exact ⟨shp (k := 0) (dpt_str hx) (by omega), shp (k := 0) (dpt_str hy) (by omega), by show D.bl (!PyData.eqv (.str x) (.str y)) = _; simp only [PyData.eqv]⟩
/-- f(l, e), l a list of one's own, for a truth -/
theorem ev_callOwn (x : α) (hi : ss[i]? = some (.own ds)) (h : EvD ss te e) (hA : A x = [.lst ds, e]) (hp : Pre x) (hr : ∀ d, Post x d → d = .bl c) : EvD ss (tCall (spP A Pre Post) [] E (tCons (tVar i) (tCons te tNil))) (.bl c) := fun Z Bg σ H O Q g q => by
  obtain ⟨l0, xs0, e0, _⟩ := g.own hi
  refine ⟨_, e0, h Z Bg σ H O _ g fun v H1 d pd g1 s1 hd => ?_⟩
  subst pd
  obtain ⟨l, xs, e1, hO, _, h1, h2⟩ := g1.own hi
  rw [e0] at e1; cases e1
  refine ⟨x, fun a => (O a ∧ a ≠ l0) ∨ Z a, fun a w => g1.wd.al a (w.imp And.left id), g1.wd.tb, ?_, hp, fun v' H' d' pd ex hd' => ?_⟩
  · have f : ∀ a, no a ∨ ((O a ∧ a ≠ l0) ∨ Z a) → O a ∨ Z a := fun a w => w.elim False.elim fun w => w.imp And.left id
    rw [hA]
    exact .cons (.lst (fun z => z) (fun z => z.elim (fun z => z.2 rfl) (g1.wd.dj l0 hO)) h1 (h2.less f)) (.one (hd.less f))
  · have := hr d' pd
    subst this
    cases hd'
    exact q _ H' _ rfl (g1.ext ex) (s1.trans (Ext.stp ex)) (.bl c)
end
/-! ### the plain part -/
structure IR where
  n : Nat
  rooms : List Nat
  s : Option (List Nat)
  log : List Ent
structure IR.Ok (a : IR) : Prop where
  h : RoomsOk a.n a.rooms
  s : StartOk a.n a.rooms a.s
  log : LogOk a.n a.rooms a.log
  l : a.log.length ≤ 8
section
variable {n : Nat} {rooms : List Nat} {s : Option (List Nat)} {log : List Ent} {L : List (List Nat)} {idx : Option Nat}
abbrev S0p (rooms : List Nat) (n : Nat) (s : Option (List Nat)) : List Nat → Prop := fun st => st ∈ firstS rooms n s
theorem can_iff (h : LogIs rooms (firstS rooms n s) log L idx) : (idx = none → Can rooms (S0p rooms n s) log) ∧ ∀ k, idx = some k → ¬ Can rooms (S0p rooms n s) log := by
  refine ⟨fun e => ?_, fun k e z => ?_⟩
  · subst e
    intro k hk
    obtain ⟨st, h1⟩ := h.2 k hk
    exact ⟨st, aft_iff.mpr h1⟩
  · subst e
    obtain ⟨h1, h2, h3⟩ := h
    obtain ⟨st, h4⟩ := z k h1
    exact h3 st (aft_iff.mp h4)
theorem cant_iff (h : LogIs rooms (firstS rooms n s) log L idx) {k : Nat} (hk : Cant rooms (S0p rooms n s) log k) : idx = some k := by
  obtain ⟨k1, k2, k3⟩ := hk
  cases idx with
  | none =>
    obtain ⟨st, h1⟩ := h.2 k k1
    exact absurd (aft_iff.mpr h1) (k3 st)
  | some j =>
    obtain ⟨h1, h2, h3⟩ := h
    congr 1
    rcases Nat.lt_trichotomy j k with h | h | h
    · obtain ⟨st, h4⟩ := k2 j h
      exact absurd (aft_iff.mp h4) (h3 st)
    · exact h
    · obtain ⟨st, h4⟩ := h2 k h
      exact absurd (aft_iff.mpr h4) (k3 st)
end
theorem py_tN (l : List Nat) : (tN l).py = .tuple ((l.map fun i : Nat => PyData.int (i : Int))) := by
  show PyData.tuple (D.pys (l.map dN)) = _
  rw [D.pys_eq, List.map_map]; rfl
theorem txt_tN {l : List Nat} (h : ∀ x ∈ l, x < 10) : Txt (tN l).py (l.length * 3 + 3) := by
  rw [py_tN]
  have := Txt.tup (xs := l.map fun i : Nat => PyData.int (i : Int)) (b := 1) fun x hx => by
    obtain ⟨i, hi, rfl⟩ := List.mem_map.mp hx
    exact Txt.int (h i hi)
  rwa [List.length_map] at this
theorem txt_sts {F n : Nat} {l : List (List Nat)} (hF : F ≤ 3) (hn : n ≤ 5) (h : ∀ st ∈ l, IsSt F n st) (hl : l.length ≤ 1024) : Txt (D.lst (l.map stD)).py 100000 := by
  have e : (D.lst (l.map stD)).py = .list (l.map fun st => (stD st).py) := by
    show PyData.list (D.pys (l.map stD)) = _
    rw [D.pys_eq, List.map_map]; rfl
  rw [e]
  have := Txt.lst (xs := l.map fun st => (stD st).py) (b := 18) fun x hx => by
    obtain ⟨st, hst, rfl⟩ := List.mem_map.mp hx
    have h1 := h st hst
    exact (txt_tN fun x hx => by have := h1.2 x hx; omega).mono (by rw [h1.1]; omega)
  rw [List.length_map] at this
  exact this.mono (by omega)
theorem wI_N {n : Nat} {W : Nat → Int} {w : Nat → Nat} (h : ∀ d, d ≤ n → W d = (w d : Int)) : wI n W = tN (upto (n + 1) w) := by
  show D.tup _ = D.tup _
  rw [map_upto, map_upto]
  exact congrArg D.tup (upto_congr fun d hd => by rw [h d (by omega)])
theorem txt_words {F n : Nat} {V : Fam} {w : Nat → Nat → Nat} (hF : F ≤ 3) (hn : n ≤ 5) (h : ∀ j d, j < F → d ≤ n → V j d = (w j d : Int) ∧ w j d ≤ d) : Txt (wsD F n V).py 100000 := by
  have e : (wsD F n V).py = .tuple ((upto F fun j => wI n (V j)).map D.py) := by
    show PyData.tuple (D.pys _) = _
    rw [D.pys_eq]
  rw [e]
  have := Txt.tup (xs := (upto F fun j => wI n (V j)).map D.py) (b := 21) fun x hx => by
    obtain ⟨y, hy, rfl⟩ := List.mem_map.mp hx
    obtain ⟨j, hj, rfl⟩ := List.mem_map.mp hy
    rw [List.mem_range] at hj
    rw [wI_N fun d hd => (h j d hj hd).1]
    refine (txt_tN fun x hx => ?_).mono (by rw [upto_len]; omega)
    obtain ⟨d, hd, rfl⟩ := List.mem_map.mp hx
    rw [List.mem_range] at hd
    have := (h j d hj (by omega)).2
    omega
  rw [List.length_map, upto_len] at this
  exact this.mono (by omega)
theorem dpt_words {F n : Nat} {V : Fam} : dpt 8 (wsD F n V) = true := dpt_tup fun d hd => by
  obtain ⟨j, _, rfl⟩ := List.mem_map.mp hd
  exact dpt_tup (k := 6) fun d hd => by
    obtain ⟨i, _, rfl⟩ := List.mem_map.mp hd
    exact dpt_int
theorem dpt_sts8 {l : List (List Nat)} : dpt 8 (.lst (l.map stD)) = true := dpt_lst fun d h => by
  obtain ⟨a, _, rfl⟩ := List.mem_map.mp h
  exact dpt_tup (k := 6) fun d hd => by
    obtain ⟨i, _, rfl⟩ := List.mem_map.mp hd
    exact dpt_int
section
variable {K : PySem.W.Frag} {aC : Addr}
def A_law_is_log_right (a : IR) : List D := [houseD a.n a.rooms, startD a.s, logD a.log]
def sp_law_is_log_right : Sp := spP A_law_is_log_right IR.Ok (fun _ d => d = .bl true)
theorem c_law_is_log_right (vs H Q E) (p : sp_law_is_log_right vs H Q E) : t_law_is_log_right K tbs.T aC sp_law_states_of_log (sp_knowledge_behind aC) sp_can_be sp_law_alike sp_law_words_by sp_states_of (fin Q) (L2.start N_law_is_log_right vs) H := by
  refine body_P (fun a ha => ⟨by show 3 ≤ 8; decide, ?_⟩) p
  obtain ⟨n, rooms, s, log⟩ := a
  obtain ⟨hr, hs, hl, h8⟩ := ha
  simp only at hr hs hl h8
  obtain ⟨n5, F0, f3, hpos⟩ := hr
  have hr : RoomsOk n rooms := ⟨n5, F0, f3, hpos⟩
  let F := rooms.length
  let hD : D := houseD n rooms
  let S : Sl → Sl → Sl → Sl → Sl → List Sl := fun a b c d e => [.im hD, .im (startD s), .im (logD log), a, b, c, d, e]
  -- the states of the log
  refine ht_seq (N1 := fun ss => ∃ L idx, ss = S (.im (.lst (L.map stD))) (.im (optD idx)) .un .un .un ∧ L.Nodup ∧ (∀ st ∈ L, IsSt F n st) ∧ LogIs rooms (firstS rooms n s) log L idx) (ht_asgT (ev_call (E := E0) (A := A_law_states_of_log) (Pre := LR.Ok) (Post := P_law_states_of_log) ⟨n, rooms, s, log⟩ (ea3 (ev_var (i := 0) rfl) (ev_var (i := 1) rfl) (ev_var (i := 2) rfl)) ⟨n5, f3, hs, fun e he => (hl.e e he).1, hl.l⟩) ?_) ?_
  · rintro d ⟨L, idx, rfl, h1, h2, h3⟩
    exact ⟨_, _, tgt_2 rfl, L, idx, rfl, h1, h2, h3⟩
  rintro ss1 ⟨L, idx, rfl, hnd, hall, hlog⟩
  let LD : D := .lst (L.map stD)
  -- what is heard
  refine ht_seq (N1 := fun ss => ∃ hD', ss = S (.im LD) (.im (optD idx)) (.im hD') .un .un ∧ ((idx = none ∧ ∃ d, hD' = .rtup [.str "told", d] ∧ Kn rooms n (AftP rooms (S0p rooms n s) log log.length) d) ∨ ∃ k, idx = some k ∧ hD' = .rtup [.str "cannot", dN k])) (ht_asg (ev_heard (aC := aC) (P := P_knowledge_behind ⟨n, rooms, s, log⟩) (X := X_knowledge_behind ⟨n, rooms, s, log⟩) (evx_call (A := A_knowledge_behind) (Pre := KB.Ok) (Post := P_knowledge_behind) (PX := X_knowledge_behind) ⟨n, rooms, s, log⟩ (ea3 (ev_var (i := 0) rfl) (ev_var (i := 1) rfl) (ev_var (i := 2) rfl)) ⟨hr, hs, hl⟩)) ?_) ?_
  · rintro d (⟨d, ⟨hk, hc⟩, rfl⟩ | ⟨m, ⟨k, rfl, hk⟩, rfl⟩)
    · refine ⟨_, rfl, .inl ⟨?_, d, rfl, hk⟩⟩
      cases hidx : idx with
      | none => rfl
      | some k => exact absurd hc ((can_iff hlog).2 k hidx)
    · exact ⟨_, rfl, .inr ⟨k, cant_iff hlog hk, rfl⟩⟩
  rintro ss1 ⟨hD', rfl, hh⟩
  let S1 : Sl → Sl → List Sl := fun d e => S (.im LD) (.im (optD idx)) (.im hD') d e
  have hisn : ∀ {ss : List Sl}, ss[4]? = some (.im (optD idx)) → EvD ss (tOp (fun x y H Q => y = .non ∧ Q (.bl (decide (x = .non))) H) (tVar 4) (tC .non)) (.bl idx.isNone) := fun h => ev_isNon (c := idx.isNone) (ev_var h) (by cases idx <;> simp [optD])
  have hlen10 : ∀ k, idx = some k → k < 10 := fun k e => by
    rw [e] at hlog
    have := hlog.1
    omega
  -- can_be
  refine ht_seq (N1 := fun ss => ss = S1 .un .un) (ht_if (Bb := fun b => b = !true) (eb_not (eb_v (ev_callP (A := A_law_alike) (Pre := fun x => Alike x.1 x.2) (Post := fun _ d => d = .bl true) (PL := fun y => y = [.bl idx.isNone, .bl idx.isNone]) (EvA.mono (ea_consP (ev_call (E := E0) (A := A_knowledge_behind) (Pre := KB.Ok) (Post := fun a d => ∃ b : Bool, d = .bl b ∧ (b = true ↔ Can a.rooms a.S a.log)) ⟨n, rooms, s, log⟩ (ea3 (ev_var (i := 0) rfl) (ev_var (i := 1) rfl) (ev_var (i := 2) rfl)) ⟨hr, hs, hl⟩) (ea1 (hisn rfl))) ?_) ?_))) (fun h => nomatch h) fun _ => ht_next rfl) ?_
  · rintro y ⟨_, _, rfl, ⟨b, rfl, hb⟩, rfl⟩
    have : b = idx.isNone := by
      have h1 := can_iff hlog
      cases hidx : idx with
      | none => exact hb.mpr (h1.1 hidx)
      | some k =>
        cases hbb : b with
        | false => rfl
        | true => exact absurd (hb.mp hbb) (h1.2 k hidx)
    rw [this]
  · rintro y rfl
    exact ⟨(.bl idx.isNone, .bl idx.isNone), rfl, ⟨rfl, .inl ⟨_, rfl, rfl⟩⟩, fun d h => h⟩
  rintro ss1 rfl
  -- it cannot
  refine ht_seq (N1 := fun ss => ss = S1 .un .un ∧ idx = none) (ht_if (eb_d (ev_notNon (a := optD idx) (c := idx.isSome) (ev_var (i := 4) rfl) (by cases idx <;> simp [optD]))) (fun h => ?_) fun h => ht_next ⟨rfl, by cases idx with | none => rfl | some k => cases h⟩) ?_
  · obtain ⟨k, hk⟩ : ∃ k, idx = some k := by cases idx with | none => cases h | some k => exact ⟨k, rfl⟩
    have hcan : hD' = .rtup [.str "cannot", dN k] := by
      rcases hh with ⟨z, _⟩ | ⟨k', z, e⟩
      · rw [z] at hk; cases hk
      · rw [z] at hk; cases hk; exact e
    subst hcan hk
    have h10 := hlen10 k rfl
    refine ht_ret (ev_call (E := E0) (A := A_law_alike) (Pre := fun x => Alike x.1 x.2) (Post := fun _ d => d = .bl true) (.rtup [.str "cannot", dN k], .tup [.str "cannot", dN k]) (ea2 (ev_var (i := 5) rfl) (ev_tB (ea2 ev_str (ev_var (i := 4) rfl)) (Nat.le_of_ble_eq_true rfl))) ⟨rfl, .inr ⟨⟨_, .inr rfl⟩, ?_, ?_, ?_⟩⟩) fun d h => h
    · refine dpt_rtup (k := 7) fun d hd => ?_
      simp only [List.mem_cons, List.not_mem_nil, or_false] at hd
      rcases hd with rfl | rfl
      · exact dpt_str (by decide +kernel)
      · exact dpt_int
    · refine (Txt.tup (xs := [.str "cannot", .int (k : Int)]) (b := 8) fun x hx => ?_).mono (by simp)
      simp only [List.mem_cons, List.not_mem_nil, or_false] at hx
      rcases hx with rfl | rfl
      · exact txt_cannot
      · exact (Txt.int h10).mono (by omega)
    · refine dpt_tup (k := 7) fun d hd => ?_
      simp only [List.mem_cons, List.not_mem_nil, or_false] at hd
      rcases hd with rfl | rfl
      · exact dpt_str (by decide +kernel)
      · exact dpt_int
  rintro ss1 ⟨rfl, rfl⟩
  -- it can
  obtain ⟨d, rfl, hkn⟩ : ∃ d, hD' = .rtup [.str "told", d] ∧ Kn rooms n (AftP rooms (S0p rooms n s) log log.length) d := by
    rcases hh with ⟨_, h⟩ | ⟨k, z, _⟩
    · exact h
    · cases z
  obtain ⟨⟨o, sz, V, rfl, hK, hF⟩⟩ := hkn
  have hol : o.length = n := by have := hK.perm.length_eq; simpa using this
  have hLm : ∀ st, FitL F n o sz V st ↔ st ∈ L := fun st => by rw [hF st, hlog.1 st]; exact aft_iff
  have hLl : L.length ≤ 1024 := st_len f3 n5 hnd hall
  have hk5 : ∀ {ss : List Sl}, ss[5]? = some (.im (.rtup [.str "told", kD F n o V])) → EvD ss (tOp (rIx K) (tVar 5) (tC (.int 1))) (kD F n o V) := fun h => ev_ix (ev_var h) ev_int rfl rfl
  have hV : ∀ j, j < F → ∃ w : Nat → Nat, ∀ d, d ≤ n → V j d = (w d : Int) ∧ w d ≤ d := fun j hj => by
    obtain ⟨st, _, h2⟩ := reach hK hj
    exact ⟨fun d => cnt (gof F st) o j d, fun d hd => ⟨(h2 d hd).symm, cnt_le⟩⟩
  obtain ⟨w, hw⟩ : ∃ w : Nat → Nat → Nat, ∀ j d, j < F → d ≤ n → V j d = (w j d : Int) ∧ w j d ≤ d := by
    refine ⟨fun j => if h : j < F then Classical.choose (hV j h) else fun _ => 0, fun j d hj hd => ?_⟩
    simp only [dif_pos hj]
    exact Classical.choose_spec (hV j hj) d hd
  refine ht_seq (N1 := fun ss => ss = S1 .un .un) (ht_if (Bb := fun b => b = false) (eb_or2 (c := false) (e := false) ((eb_d (ev_neS (x := "told") (y := "told") (ev_ix (ev_var (i := 5) rfl) ev_int rfl rfl) ev_str (by decide +kernel) (by decide +kernel))).mono fun b hb => by rw [hb, beq_self_eq_true]; rfl) fun _ => (eb_not (eb_v (c := true) (ev_call (E := E0) (A := A_law_alike) (Pre := fun x => Alike x.1 x.2) (Post := fun _ d => d = .bl true) (wsD F n V, wsD F n V) (ea2 (ev_ix (a := kD F n o V) (hk5 rfl) ev_int rfl rfl) (ev_call (E := E0) (A := A_law_words_by) (Pre := WB.Ok) (Post := fun a d => d = wsD a.rooms.length a.n a.V) ⟨n, rooms, o, L, V⟩ (ea3 (ev_var (i := 0) rfl) (ev_ix (a := kD F n o V) (hk5 rfl) ev_int rfl rfl) (ev_var (i := 3) rfl)) ⟨n5, f3, hK.perm, fun st h => (hall st h).1, by show L.length ≤ 4096; omega, fun j d hj hd st hst => ?_, fun j d hj hd => ?_⟩)) ⟨rfl, .inr ⟨⟨_, .inr rfl⟩, dpt_words, txt_words f3 n5 hw, dpt_words⟩⟩))).mono fun b hb => by rw [hb]; rfl) (fun h => nomatch h) fun _ => ht_next rfl) ?_
  · have := ((hLm st).mpr hst).2.2 j d hj (by rw [hol]; exact hd)
    exact this
  · obtain ⟨st, h1, h2⟩ := reach hK hj
    exact ⟨st, (hLm st).mp h1, (h2 d hd).symm⟩
  rintro ss1 rfl
  have hTt : Tight F n sz V := hK.tight
  have hsort : sortS (statesL F V o) = sortS L := sortS_eq (statesL_nodup hTt hK.perm) hnd fun st => by rw [mem_statesL hTt hK.perm]; exact hLm st
  have hsm : ∀ st ∈ sortS L, IsSt F n st := fun st h => hall st ((List.mergeSort_perm L leS).mem_iff.mp h)
  have hsl : (sortS L).length = L.length := (List.mergeSort_perm L leS).length_eq
  have hz : L.length ≤ 1 ∨ ∀ st ∈ L, st ≠ [] := by
    by_cases h0 : n = 0
    · left
      have : ∀ st ∈ L, st ∈ [([] : List Nat)] := fun st h => by
        have := (hall st h).1
        rw [h0] at this
        rw [List.length_eq_zero_iff.mp this]; simp
      exact nodup_len hnd this
    · right
      intro st h z
      have := (hall st h).1
      rw [z] at this; simp at this; omega
  refine ht_seq (N1 := fun ss => ∃ a b, ss = S1 a b) (ht_for (n := 2) (el := fun i => .int (i : Int)) (src_r1 (m := 2) (ea1 ev_int) (by omega)) (fun _ ss => ∃ a b, ss = S1 a b) ⟨_, _, rfl⟩ ?_ fun ss h => h) ?_
  · rintro i ss1 hi ⟨a, b, rfl⟩
    refine ⟨_, _, tgt_name, ?_⟩
    refine ht_seq (N1 := fun ss => ss = S1 (.im (.int i)) (.own ((sortS L).map stD))) (ht_asgNL (EvN.mono (en_call (E := E0) (A := A_states_of) (PostN := fun x es => es = (sortS (statesL x.2.1 x.2.2.1 x.2.2.2)).map stD) (hD, F, V, o) (ea2 (ev_var (i := 0) rfl) ((hk5 rfl).to (by show D.tup [_, wsD F n V] = D.tup [_, wsD F o.length V]; rw [hol]))) ⟨F0, f3, by show o.length ≤ 5; omega, by show o.Perm (List.range o.length); rw [hol]; exact hK.perm⟩) fun es he => by rw [he]; show (sortS (statesL F V o)).map stD = _; rw [hsort]) rfl) ?_
    rintro ss1 rfl
    refine ht_seq (N1 := fun ss => ss = S1 (.im (.int i)) (.own ((sortS L).map stD))) (ht_if (Bb := fun b => b = !true) (eb_not (eb_v (ev_callOwn (A := A_law_alike) (Pre := fun x => Alike x.1 x.2) (Post := fun _ d => d = .bl true) (i := 7) (.lst ((sortS L).map stD), .lst ((sortS L).map stD)) rfl (EvN.dat (en_sortS (EvD.v (ev_var (i := 3) rfl)) hz (by omega))) rfl ⟨rfl, .inr ⟨⟨_, .inl rfl⟩, dpt_sts8, txt_sts f3 n5 hsm (by omega), dpt_sts8⟩⟩ fun d h => h))) (fun h => nomatch h) fun _ => ht_next rfl) ?_
    rintro ss1 rfl
    exact ht_app (i := 7) rfl ev_non (by rw [List.length_map]; omega) ⟨_, _, rfl⟩
  rintro ss1 ⟨a, b, rfl⟩
  exact ht_retD ev_bl rfl
end
end FK
end
section
set_option Elab.async false
set_option linter.all false
set_option maxRecDepth 100000
/-! The law. -/
namespace FK
open PySem PySem.Spec PyProof.Rows L2 Lg Lr RZ FM
variable [tbs : Tbs]
section
variable {K : PySem.W.Frag}
/-! ### the bag, of a script that is known any way -/
abbrev teS (K : PySem.W.Frag) : TE := tSl (rSl K) (tVar 0) tNoPart (tPart (tC (.int 63)))
/-- the slice, where the script stands -/
def teS' (K : PySem.W.Frag) (a : Addr) (ns : List Int) : TE := fun σ H Q => σ[0]? = some (some (.ref a)) → SqL K H a (ns.map V.int) → teS K σ H Q
theorem en_teS {ss : List Sl} {a : Addr} {ns : List Int} : EvN ss (teS' K a ns) (fun x => x = (ns.take 63).map .int) := fun Z Bg σ H O Q g q h0 hs => by
  refine ⟨_, h0, 63, rfl, .inl ⟨a, _, rfl, hs, fun p hp => ?_⟩⟩
  obtain ⟨k1, k2⟩ := g.nn p hp
  have e : cutV (ns.map V.int) none (some ((63 : Nat) : Int)) = (ns.take 63).map V.int := by
    unfold cutV
    rw [HT.sIx_none, HT.sIx_nat, List.drop_zero, Nat.sub_zero, List.map_take]
    rcases Nat.le_total 63 (ns.map V.int).length with h | h
    · rw [Nat.min_eq_left h]
    · rw [Nat.min_eq_right h, List.take_of_length_le (Nat.le_refl _), List.take_of_length_le h]
  refine q p _ _ _ rfl k1 hp (g.more (Ext.new hp) hp (by rw [upd_same]; exact fun z => nomatch z)) (stp_more hp) upd_same ?_
  have e' : cutV (ns.map V.int) none (some 63) = (ns.take 63).map V.int := e
  rw [e']
  exact DqAll.ints _
def tBag (K : PySem.W.Frag) (te : TE) : TS := (tRet (tLst (tCons (tC (.int 0)) (tCons (tC (.int 1234567891)) (tCons (tC (.int 0)) (tCons (tLc (iSq K te) (gName 1) tYes (tCB (rAbs) (tCons (tVar 1) tNil)) [1]) tNil))))))
theorem htn_bag {te : TE} {xs : List Int} (hl : xs.length ≤ 63) (h : EvN [.un, .un] te (fun x => x = xs.map .int)) : HTN [.un, .un] (tBag K te) P_law_bag := by
  refine htn_ret (EvN.mono (en_lst (PL := fun ds => P_law_bag ds) (EvA.mono (ea_consP (ev_int (n := 0)) (ea_consP (ev_int (n := 1234567891)) (ea_consP (ev_int (n := 0)) (ea_one (EvN.p (en_lcA (n := xs.length) (el := fun i => .int (xs.getD i 0)) (f := fun i => .int (if xs.getD i 0 < 0 then -xs.getD i 0 else xs.getD i 0)) ?_ ?_ rfl ?_)))))) ?_) ?_) fun x h => h)
  · have h := src_lst (K := K) (EvN.dat h)
    rw [List.length_map] at h
    exact (Src.inl (src_el h fun i hi => dAt_map (a := xs.getD i 0) (by rw [List.getD_eq_getElem?_getD, List.getElem?_eq_getElem hi]; rfl))).c
  · omega
  · intro i hi
    exact ⟨_, _, tgt_name, by decide, rfl, ev_absD (ev_var (i := 1) rfl)⟩
  · rintro x ⟨_, _, rfl, rfl, _, _, rfl, rfl, _, _, rfl, rfl, _, rfl, l, rfl, rfl⟩
    exact ⟨_, _, _, (List.range xs.length).map fun i => (if xs.getD i 0 < 0 then -xs.getD i 0 else xs.getD i 0), by rw [List.map_map]; rfl, by rw [List.length_map, List.length_range]; omega⟩
  · rintro ds ⟨i, j, k, ns, rfl, _⟩
    exact Nat.le_of_ble_eq_true rfl
/-- the bag of a script -/
def sp_bag (K : PySem.W.Frag) : Sp := fun vs H Q _ => ∃ (a : Addr) (ns : List Int), vs = [.ref a] ∧ SqL K H a (ns.map V.int) ∧ LamX.Tabs tbs.T H ∧ ∀ p xs es H', P_law_bag es → Ext H H' → H p = none → H' p = some (.lst xs) → DqAll H' (just p) no xs es → Q (.ref p) H'
theorem c_bag (vs H Q E) (p : sp_bag K vs H Q E) : t_law_bag K (fin Q) (L2.start N_law_bag vs) H := by
  obtain ⟨a, ns, rfl, hs, ht, q⟩ := p
  have main : tBag K (teS' K a ns) (fin Q) (L2.start N_law_bag [.ref a]) H := by
    refine htn_bag (xs := ns.take 63) (by rw [List.length_take]; omega) en_teS no none _ H no (fin Q) ⟨⟨fun a h => h.elim False.elim False.elim, fun a h => h.elim, (fun b h => by cases h), ht⟩, rfl, fun i v s h1 h2 => ?_, fun i j l _ h => ?_⟩ fun p xs es H' O' pe w s hp hd => ?_
    · match i, h2 with
      | 0, h2 => cases h2; trivial
      | 1, h2 => cases h2; trivial
    · match i, h with
      | 0, h => exact fun _ => h.elim
      | 1, h => exact fun _ => h.elim
    · have nO : ∀ a, ¬ O' a ∨ H a = none := fun a => Classical.byCases (fun h : O' a => .inr ((s.av a (.inl h)).elim False.elim id)) .inl
      have hpn : H p = none := (s.av p (.inr rfl)).elim False.elim id
      exact q p xs es H' pe ⟨fun a o e => s.kp a o e id, fun a h => s.al a h id, s.tb⟩ hpn hp (hd.less fun a z => z.elim (fun z => .inl (.inr z)) False.elim)
  have h1 : (L2.wipe (L2.start N_law_bag [.ref a]) [1])[0]? = some (some (.ref a)) := rfl
  exact (show teS' K a ns _ _ _ ∨ teS' K a ns _ _ _ from main).imp (fun h => h h1 hs) fun h => h h1 hs
/-! ### the law -/
theorem srcx_tup {ss : List Sl} {te : TE} {PL : List D → Prop} (h : EvP ss te (fun x => ∃ ds, x = .tup ds ∧ PL ds)) : SrcX ss (iTup K te) (fun n el => ∃ ds, PL ds ∧ n = ds.length ∧ el = dAt ds) := fun Z Bg σ H O R g k => h Z Bg σ H O _ g fun v H' d ⟨ds, e, pd⟩ g' s hd => by
  subst e
  obtain ⟨p, xs, rfl, h1, h2⟩ := hd.tupV (K := K) (ds := ds) rfl
  refine ⟨_, rfl, ⟨_, h1⟩, k _ _ _ H' ⟨ds, pd, rfl, rfl⟩ g' s fun O1 H1 Z1 s1 hz nn => ?_⟩
  obtain ⟨q, ys, e1, h1', h2'⟩ := (Dq.mz s1 hz hd).tupV (K := K) (ds := ds) rfl
  cases e1
  refine ⟨fun i hi => ?_, ⟨_, h1', Nat.le_of_eq h2'.length⟩, fun i x H2 hi hy => ?_⟩
  · obtain ⟨x, hx⟩ := vAt h2' hi; exact ⟨_, x, h1', hx⟩
  · obtain ⟨rfl, hx⟩ := hy; exact ⟨Ext.refl, dqAt h2' (hx _ h1')⟩
/-- behind the bag -/
def tRest (K : PySem.W.Frag) (aC : Addr) : TS := (tSeq (tFor (iRng1 (tCons (tC (.int 4)) tNil)) (gName 2) (tSeq (tAsg (tCall sp_law_house [] E0 (tCons (tVar 1) (tCons (tCall sp_law_one [] E0 (tCons (tVar 1) (tCons (tLst (tCons (tC (.int 5)) (tCons (tC (.int 4)) (tCons (tC (.int 3)) tNil)))) tNil))) (tCons (tC (.int 3)) (tCons (tC (.int 6)) tNil))))) (gName 3)) (tSeq (tAsg (tCall sp_law_start [] E0 (tCons (tVar 1) (tCons (tVar 3) tNil))) (gName 4)) (tSeq (tAsg (tOp (rIx K) (tCall sp_law_story [] E0 (tCons (tVar 1) (tCons (tVar 3) (tCons (tVar 4) (tCons (tCall sp_law_one [] E0 (tCons (tVar 1) (tCons (tLst (tCons (tC (.int 6)) (tCons (tC (.int 4)) (tCons (tC (.int 2)) (tCons (tC (.int 3)) tNil))))) tNil))) (tCons (tCall sp_law_one [] E0 (tCons (tVar 1) (tCons (tLst (tCons (tC (.int 0)) (tCons (tC (.int 5)) (tCons (tC (.int 3)) tNil)))) tNil))) tNil)))))) (tC (.int 1))) (gName 5)) (tFor (iSq K (tTupB (tCons (tVar 5) (tCons (tCall sp_law_other_log [] E0 (tCons (tVar 1) (tCons (tVar 3) (tCons (tVar 5) tNil)))) tNil)))) (gName 6) (tIfS (tNot (tB (tCall sp_law_is_log_right [] E0 (tCons (tVar 3) (tCons (tVar 4) (tCons (tVar 6) tNil)))))) (tRet (tC (.bl false))) tNext)))))) (tRet (tC (.bl true))))
theorem ht_rest {aC : Addr} : HT [.un, .bag, .un, .un, .un, .un, .un] (tRest K aC) noS (fun d => d = .bl true) noS noS := by
  let S : Sl → Sl → Sl → Sl → Sl → List Sl := fun a b c d e => [.un, .bag, a, b, c, d, e]
  refine ht_seq (N1 := fun s => ∃ a b c d e, s = S a b c d e) (ht_for (n := 4) (el := fun i => .int (i : Int)) (src_r1 (m := 4) (ea1 ev_int) (by omega)) (fun _ s => ∃ a b c d e, s = S a b c d e) ⟨_, _, _, _, _, rfl⟩ ?_ fun s h => h) ?_
  · rintro i ss1 hi ⟨a, b, c, d, e, rfl⟩
    refine ⟨_, _, tgt_name, ?_⟩
    refine ht_seq (N1 := fun s => ∃ n rooms, s = S (.im (.int i)) (.im (houseD n rooms)) c d e ∧ HouseOk n rooms) (ht_asg (P := P_house) (ev_callBP (A := A_law_house) (i := 1) (PL := fun y => ∃ t : Nat, y = [dN t, dN 3, dN 6] ∧ t ≤ 5) rfl (EvA.mono (ea_consP (ev_oneI (i := 1) (n := 3) (p := fun k => k ≤ 5) rfl (ea_more (evn (k := 5) ev_int (by omega)) (ea_more (evn (k := 4) ev_int (by omega)) (ea_more (evn (k := 3) ev_int (by omega)) ea_none))) (by omega) (by omega)) (ea2 (ev_int (n := 3)) (ev_int (n := 6)))) ?_) ?_) ?_) ?_
    · rintro y ⟨_, _, rfl, ⟨t, rfl, ht⟩, rfl⟩
      exact ⟨t, rfl, ht⟩
    · rintro y ⟨t, rfl, ht⟩
      exact ⟨t, rfl, ht, fun d h => h⟩
    · rintro d ⟨n, rooms, rfl, h⟩
      exact ⟨n, rooms, rfl, h⟩
    rintro ss1 ⟨n, rooms, rfl, hh⟩
    have hr : RoomsOk n rooms := ⟨hh.n5, hh.ne, hh.f3, hh.pos⟩
    refine ht_seq (N1 := fun ss => ∃ s, ss = S (.im (.int i)) (.im (houseD n rooms)) (.im (startD s)) d e ∧ StartOk n rooms s) (ht_asg (ev_callB (A := A_law_start) (n, rooms) (i := 1) rfl (ea1 (ev_var (i := 3) rfl)) ⟨hh.n5, hh.ne, hh.f3⟩) ?_) ?_
    · rintro d ⟨s, rfl, h⟩
      exact ⟨s, rfl, h⟩
    rintro ss1 ⟨s, rfl, hs⟩
    refine ht_seq (N1 := fun ss => ∃ log, ss = S (.im (.int i)) (.im (houseD n rooms)) (.im (startD s)) (.im (logD log)) e ∧ LogOk n rooms log ∧ log.length ≤ 6) (ht_asg (P := fun d => ∃ log, d = logD log ∧ LogOk n rooms log ∧ log.length ≤ 6) (ev_ixT (K := K) (Pa := P_law_run n rooms) (k := 1) (ev_callBP (A := A_law_story) (i := 1) (PL := fun y => ∃ (m k : Nat), y = [houseD n rooms, startD s, dN m, dN k] ∧ m ≤ 6 ∧ k ≤ 1000) rfl (EvA.mono (ea_consP (ev_var (i := 3) rfl) (ea_consP (ev_var (i := 4) rfl) (ea_consP (ev_oneI (i := 1) (n := 4) (p := fun k => k ≤ 6) rfl (ea_more (evn (k := 6) ev_int (by omega)) (ea_more (evn (k := 4) ev_int (by omega)) (ea_more (evn (k := 2) ev_int (by omega)) (ea_more (evn (k := 3) ev_int (by omega)) ea_none)))) (by omega) (by omega)) (ea_one (ev_oneI (i := 1) (n := 3) (p := fun k => k ≤ 1000) rfl (ea_more (evn (k := 0) ev_int (by omega)) (ea_more (evn (k := 5) ev_int (by omega)) (ea_more (evn (k := 3) ev_int (by omega)) ea_none))) (by omega) (by omega)))))) ?_) ?_) ev_int ?_) ?_) ?_
    · rintro y ⟨_, _, rfl, rfl, _, _, rfl, rfl, _, _, rfl, ⟨m, rfl, hm⟩, _, rfl, k, rfl, hk⟩
      exact ⟨m, k, rfl, hm, hk⟩
    · rintro y ⟨m, k, rfl, hm, hk⟩
      exact ⟨⟨n, rooms, s, m, k⟩, rfl, ⟨hr, hs, hm, hk⟩, fun d h => h⟩
    · rintro a ⟨x, log, z, rfl, h1, h2⟩
      exact ⟨_, logD log, rfl, rfl, log, rfl, h1, h2⟩
    · rintro d ⟨log, rfl, h⟩
      exact ⟨log, rfl, h⟩
    rintro ss1 ⟨log, rfl, hl, hl6⟩
    refine ht_forX (SrcX.inr (srcx_tup (PL := fun ds => ∃ lg, ds = [logD log, logD lg] ∧ LogOk n rooms lg ∧ lg.length ≤ 8) (EvP.mono (ev_tBX (ea_consP (ev_var (i := 5) rfl) (ea_one (ev_callB (A := A_law_bent_log) ⟨n, rooms, log⟩ (i := 1) rfl (ea2 (ev_var (i := 3) rfl) (ev_var (i := 5) rfl)) ⟨hr, hl⟩))) ?_) ?_))) ?_
    · rintro ds ⟨_, _, rfl, rfl, _, rfl, _⟩
      exact Nat.le_of_ble_eq_true rfl
    · rintro d ⟨ds, rfl, _, _, rfl, rfl, _, rfl, lg, rfl, h1, h2⟩
      have h3 : lg.length ≤ log.length + 1 := h2
      exact ⟨_, rfl, lg, rfl, ⟨h1, by omega⟩, by omega⟩
    rintro m el ⟨ds, ⟨lg, rfl, h1, h2⟩, rfl, rfl⟩
    refine ⟨fun _ ss => ∃ e, ss = S (.im (.int i)) (.im (houseD n rooms)) (.im (startD s)) (.im (logD log)) e, ⟨_, rfl⟩, ?_, ?_⟩
    · rintro j ss1 hj ⟨e, rfl⟩
      obtain ⟨lg', he, h3, h4⟩ : ∃ lg', dAt [logD log, logD lg] j = logD lg' ∧ LogOk n rooms lg' ∧ lg'.length ≤ 8 := by
        match j, hj with
        | 0, _ => exact ⟨log, rfl, hl, by omega⟩
        | 1, _ => exact ⟨lg, rfl, h1, h2⟩
      rw [he]
      refine ⟨_, _, tgt_name, ?_⟩
      exact ht_if (Bb := fun b => b = !true) (eb_not (eb_v (ev_call (E := E0) (A := A_law_is_log_right) (Pre := IR.Ok) (Post := fun _ d => d = .bl true) ⟨n, rooms, s, lg'⟩ (ea3 (ev_var (i := 3) rfl) (ev_var (i := 4) rfl) (ev_var (i := 6) rfl)) ⟨hr, hs, h3, h4⟩))) (fun h => nomatch h) fun _ => ht_next ⟨_, rfl⟩
    · rintro ss1 ⟨e, rfl⟩
      exact ⟨_, _, _, _, _, rfl⟩
  rintro ss1 ⟨a, b, c, d, e, rfl⟩
  exact ht_retD ev_bl rfl
def sp_law (K : PySem.W.Frag) : Sp := fun vs H Q _ => ∃ (a : Addr) (ns : List Int), vs = [.ref a] ∧ SqL K H a (ns.map V.int) ∧ LamX.Tabs tbs.T H ∧ ∀ H', Q (.bl true) H'
theorem c_law {aC : Addr} (vs H Q E) (p : sp_law K vs H Q E) : t_law K (sp_bag K) sp_law_one sp_law_house sp_law_start sp_law_story sp_law_other_log sp_law_is_log_right (fin Q) (L2.start N_law vs) H := by
  obtain ⟨a, ns, rfl, hs, ht, q⟩ := p
  refine ⟨.ref a, rfl, a, ns, rfl, hs, ht, fun p xs es H' ⟨i, j, k, l, e, hl⟩ ex hp hp' hd => ?_⟩
  subst e
  match xs, hd with
  | [_, _, _, _], .cons x1 (.cons x2 (.cons x3 (.cons x4 .nil))) =>
    cases x1
    cases x2
    cases x3
    cases x4 with
    | @lst c ys _ n1 n2 h3 h4 =>
      have hys := h4.of_ints
      subst hys
      refine ht_rest (K := K) (aC := aC) no (some p) _ H' (just p) (fin Q) ⟨⟨fun a w => ?_, fun a _ z => z, fun b hb => ?_, ex.tb ht⟩, rfl, fun q v s h1 h2 => ?_, fun q r l _ h => ?_⟩ (fun _ _ _ _ z => z.elim) (fun d v H2 O2 pd w s hd' => ?_) (fun _ _ _ _ z => z.elim) (fun _ _ _ _ z => z.elim)
      · rcases w with w | w
        · rw [show a = p from w, hp']; exact fun z => nomatch z
        · exact w.elim
      · cases hb
        exact ⟨rfl, i, j, k, c, ⟨l, hl⟩, hp', n1, n2, h3⟩
      · match q, h2 with
        | 0, h2 => cases h2; trivial
        | 1, h2 => cases h2; cases h1; exact ⟨p, rfl, rfl⟩
        | 2, h2 => cases h2; trivial
        | 3, h2 => cases h2; trivial
        | 4, h2 => cases h2; trivial
        | 5, h2 => cases h2; trivial
        | 6, h2 => cases h2; trivial
      · match q, h with
        | 0, h => exact fun _ => h.elim
        | 1, h => exact fun _ => h.elim
        | 2, h => exact fun _ => h.elim
        | 3, h => exact fun _ => h.elim
        | 4, h => exact fun _ => h.elim
        | 5, h => exact fun _ => h.elim
        | 6, h => exact fun _ => h.elim
      · subst pd
        cases hd'
        exact q H2
end
end FK
end
section
set_option Elab.async false
set_option linter.all false
set_option maxRecDepth 100000
/-! The end: a law that is called where no guard stands, with tables of code objects. -/
namespace FK
open PySem PySem.Spec PyProof.Rows L2 Lg Lr RZ
section
variable {P : Program} {w : World} {K : PySem.W.Frag} {mg mb : Str → Option Value} {a : Addr} {cs : List (Addr × Addr)} {s : Shared} {vs : List Value} {ns : List Int}
abbrev tabO : Obj := { cls := .none, data := .fields #[] }
abbrev scrO (vs : List Value) : Obj := { cls := .type "list", data := .seq vs.toArray }
/-- what is tracked at the call: the tables; the script, where K has it not -/
def atCall (K : PySem.W.Frag) (cs : List (Addr × Addr)) (a : Addr) (vs : List Value) (ns : List Int) : Hp := fun b =>
  if b ∈ cs.map (·.2) then some (.tbl #[]) else if b = a ∧ (K.lookup a).isNone = true then some (.frz (scrO vs) (.lst (ns.map V.int))) else none
/-- what the call is given -/
structure Given (w : World) (K : PySem.W.Frag) (mg mb : Str → Option Value) (a : Addr) (cs : List (Addr × Addr)) (s : Shared) (vs : List Value) (ns : List Int) : Prop where
  k : K.In s.heap
  g : s.heap.Ns mainGlobals mg
  b : s.heap.Ns builtinsNs mb
  bb : ∀ x : Str, x ≠ "__name__" → mb x = bootBuiltins x
  nl : s.heap.NoLimit
  gens : s.gens = #[]
  tab : ∀ p ∈ cs, s.heap.get? p.2 = some tabO
  ktab : ∀ p ∈ cs, K.lookup p.2 = none
  code : ∀ p ∈ cs, PySem.W.CodeHd s.heap p.1 p.2
  bm : ∃ (q : Addr) (o : Obj), mg "__builtins__" = some (.ref q) ∧ q ≠ builtinsNs ∧ s.heap.get? q = some o ∧ o.cls = .type "module" ∧ o.dict = some builtinsNs ∧ o.data = .plain
  scr : s.heap.get? a = some (scrO vs)
  isI : IntsAre vs ns
  len : ns.length ≤ sizeLine
variable (G : Given w K mg mb a cs s vs ns)
include G
theorem Given.tabAt {b : Addr} (h : b ∈ cs.map (·.2)) : s.heap.get? b = some tabO ∧ ∃ p ∈ cs, p.2 = b := by
  obtain ⟨p, hp, rfl⟩ := List.mem_map.mp h
  exact ⟨G.tab p hp, p, hp, rfl⟩
theorem Given.aNot : a ∉ cs.map (·.2) := fun h => by
  have h1 := (G.tabAt h).1
  rw [G.scr] at h1
  have h2 := congrArg Obj.data (Option.some.inj h1)
  cases h2
/-- an object that is neither a list nor an empty table is not tracked -/
theorem Given.free {b : Addr} {o : Obj} (e : s.heap.get? b = some o) (h1 : ∀ z n, o.data ≠ .seq z n) (h2 : o.data ≠ .fields #[]) : atCall K cs a vs ns b = none := by
  unfold atCall
  split
  · rename_i hb
    rw [(G.tabAt hb).1] at e
    cases e
    exact absurd rfl h2
  · split
    · rename_i hb
      rw [hb.1, G.scr] at e
      cases e
      exact absurd rfl (h1 _ _)
    · rfl
theorem Given.nsB {b : Addr} {m : Str → Option Value} (h : s.heap.Ns b m) : (hidT s.heap (atCall K cs a vs ns)).Ns b m := by
  obtain ⟨o, es, ep, e, d, r⟩ := h
  exact ⟨o, es, ep, hidT_get e (G.free e (by rw [d]; exact fun _ _ z => nomatch z) (by rw [d]; exact fun z => nomatch z)), d, r⟩
theorem Given.kB : K.In (hidT s.heap (atCall K cs a vs ns)) := fun b o e => hidT_get (G.k b o e) (by
  unfold atCall
  split
  · rename_i hb
    obtain ⟨_, p, hp, rfl⟩ := G.tabAt hb
    rw [G.ktab p hp] at e; cases e
  · split
    · rename_i hb
      rw [hb.1] at e
      have h2 := hb.2
      rw [e] at h2; cases h2
    · rfl)
theorem Given.modB : L2.Mod K mg (hidT s.heap (atCall K cs a vs ns)) := by
  obtain ⟨mc, l1, l2⟩ := G.nl
  exact ⟨G.kB, G.nsB G.g, ⟨mb, G.nsB G.b, G.bb⟩, mc, G.nsB l1, l2⟩
theorem Given.tabB : ∀ p ∈ cs, LamX.TabB (hidT s.heap (atCall K cs a vs ns)) mg p.1 p.2 := fun p hp => by
  have ht := G.tab p hp
  refine ⟨?_, ?_, fun z => ?_⟩
  · obtain ⟨o, us, f, tf, fl, tg, iF, tx, tt, e, k1, k2, k3, k4, k5, k6, k7, k8, k9⟩ := G.code p hp
    refine ⟨o, us, f, tf, fl, tg, iF, tx, tt, hidT_get e (G.free e (by rw [k2]; exact fun _ _ z => nomatch z) fun z => ?_), k1, k2, k3, k4, k5, k6, k7, k8, k9⟩
    rw [k2] at z
    cases z
    simp at k3
  · obtain ⟨q, o, m1, m2, m3, m4, m5, m6⟩ := G.bm
    have n1 : q ≠ mainGlobals := fun z => by
      obtain ⟨o', es, ep, e, d, _⟩ := G.g
      rw [z, e] at m3
      cases m3
      rw [d] at m6; cases m6
    have n2 : q ≠ p.2 := fun z => by
      rw [z, ht] at m3
      cases m3; cases m6
    exact ⟨q, o, m1, m2, n1, n2, hidT_get m3 (G.free m3 (by rw [m6]; exact fun _ _ z => nomatch z) (by rw [m6]; exact fun z => nomatch z)), m4, m5, m6⟩
  · obtain ⟨o, es, ep, e, d, _⟩ := G.g
    rw [z, ht] at e
    cases e; cases d
theorem Given.hokAt : HOk P w (atCall K cs a vs ns) s.heap := fun b u z => by
  unfold atCall at z
  split at z
  · rename_i hb
    cases z
    exact (G.tabAt hb).1
  · split at z
    · rename_i hb
      cases z
      rw [hb.1]
      exact ⟨G.scr, by rw [List.length_map]; exact G.len, vs, _, vals_ints G.isI, G.scr⟩
    · cases z
theorem Given.seq : SqL K (atCall K cs a vs ns) a (ns.map V.int) := by
  cases h : K.lookup a with
  | none =>
    refine .inl (.inr ⟨scrO vs, ?_⟩)
    unfold atCall
    rw [if_neg G.aNot, if_pos ⟨rfl, by rw [h]; rfl⟩]
  | some o =>
    have e := G.k a o h
    rw [G.scr] at e
    cases e
    exact .inr ⟨_, vs.toArray, _, h, rfl, rfl, rfl, by rw [List.size_toArray, G.isI.length]; exact G.len, by simpa using vals_ints G.isI⟩
theorem Given.envB : Env0 P w K mg (hidT s.heap (atCall K cs a vs ns)) callerA [] s (atCall K cs a vs ns) where
  frames := rfl
  mod := G.modB
  bs := fun b o e => of_hidT e
  bsz := Nat.le_of_eq (hidT_size _ _)
  funs := trivial
  frf := fun b h => nomatch h
  hok := G.hokAt
  bare := .of_eq G.gens
/-- the law is called -/
theorem Given.call {CX : CXT} {k : Nat} {fa : Addr} {nm x : Str} {sp : Sp} (hr : Room k callerA) (hm : mg nm = some (.ref fa))
    (F : ∀ base : Heap, K.In base → base.Ns mainGlobals mg → (∀ p ∈ cs, LamX.TabB base mg p.1 p.2) → OkG P w K mg base CX k nm [x] sp)
    (hsp : ∀ H : Hp, (∀ p ∈ cs, H p.2 = some (.tbl #[])) → SqL K H a (ns.map V.int) → sp [.ref a] H (fun v _ => v = .bl true) fun _ _ _ => False) (hCX : ∀ H e s', CX [] H s (fun _ _ _ => False) e s' → False) :
    codeAny (model P w) callerA (.call (.ref fa) ⟨[.ref a], []⟩) (fun r s' => r = .ok (.ret (.bool true)) ∧ OldK s.heap s'.heap ∧ s'.os = s.os ∧ AllBare s'.gens) s := by
  have memT : ∀ p ∈ cs, p.2 ∈ cs.map (·.2) := fun p hp => List.mem_map.mpr ⟨p, hp, rfl⟩
  have tr : ∀ p ∈ cs, atCall K cs a vs ns p.2 = some (.tbl #[]) := fun p hp => if_pos (memT p hp)
  obtain ⟨f, fd, hb, FG, hf, _⟩ := (F _ G.kB (G.nsB G.g) G.tabB).ex
  obtain rfl : f = fa := by
    rw [hm] at hf
    cases hf; rfl
  refine codeAny_mono (FG.run callerA [] s _ ⟨[.ref a], []⟩ [.ref a] [.ref a] _ _ rfl hr G.envB (hb s [.ref a] G.k rfl) (.cons rfl .nil) (hsp _ tr G.seq)) fun r s' h => ?_
  match r, h with
  | .error e, h => exact (hCX _ e s' h).elim
  | .ok (.ret u), h =>
    obtain ⟨v, H', os, bare, un, hok', r', q⟩ := h
    subst q
    obtain rfl : u = Value.bool true := r'
    have old : ∀ b o, b ∉ cs.map (·.2) → s.heap.get? b = some o → s'.heap.get? b = some o := fun b o nb e => by
      by_cases hb : b = a ∧ (K.lookup a).isNone = true
      · have z : atCall K cs a vs ns b = some (.frz (scrO vs) (.lst (ns.map V.int))) := (if_neg nb).trans (if_pos hb)
        obtain ⟨y, _⟩ := hok' b _ (un.frzs b _ _ z)
        rw [hb.1, G.scr] at e
        cases e
        exact y
      · exact un.keep b o e ((if_neg nb).trans (if_neg hb)) (fun z => nomatch z) (fun z => nomatch z)
    have grow : ∀ p ∈ cs, ∃ more : Array Value, s'.heap.get? p.2 = some { cls := .none, data := .fields (#[] ++ more) } := fun p hp => by
      obtain ⟨more, z⟩ := un.tbls p.2 #[] (tr p hp)
      exact ⟨more, hok' p.2 _ z⟩
    refine ⟨rfl, ⟨fun b o e => ?_, fun b o e => ?_⟩, os, bare⟩
    · by_cases hb : b ∈ cs.map (·.2)
      · obtain ⟨ht, p, hp, rfl⟩ := G.tabAt hb
        obtain ⟨more, hm⟩ := grow p hp
        rw [ht] at e
        cases e
        exact .inr (.inl ⟨((G.code p hp).tab ht).isCodeTable, rfl, #[], more, rfl, hm⟩)
      · exact .inl (old b o hb e)
    · by_cases hb : b ∈ cs.map (·.2)
      · obtain ⟨_, p, hp, rfl⟩ := G.tabAt hb
        obtain ⟨more, hm⟩ := grow p hp
        exact ⟨_, hm⟩
      · exact ⟨o, old b o hb e⟩
  | .ok .next, h => exact h.elim
  | .ok .brk, h => exact h.elim
  | .ok .cont, h => exact h.elim
end
end FK
namespace FK
open PySem PySem.Spec PyProof.Rows L2 Lg Lr RZ
/-- what is to be known at the head's heap -/
structure LawG (l : PySem.W.OpenLaw) (w : World) (k : Nat) (nm x : Str) (mg : Str → Option Value) (h : Heap) : Prop where
  ex : ∃ (K : PySem.W.Frag) (cs : List (Addr × Addr)) (sp : Sp), K.In h ∧ (∀ p ∈ cs, h.get? p.2 = some tabO) ∧ (∀ p ∈ cs, K.lookup p.2 = none) ∧ (∀ p ∈ cs, PySem.W.CodeHd h p.1 p.2) ∧
    (∀ (H : Hp) (a : Addr) (ns : List Int), (∀ p ∈ cs, H p.2 = some (.tbl #[])) → SqL K H a (ns.map V.int) → sp [.ref a] H (fun v _ => v = .bl true) fun _ _ _ => False) ∧
    ∀ base : Heap, K.In base → base.Ns mainGlobals mg → (∀ p ∈ cs, LamX.TabB base mg p.1 p.2) → OkG l.prog w K mg base L2.CX0 k nm [x] sp
theorem walkG {l : PySem.W.OpenLaw} {n k : Nat} {q : Program} {loose : List Str} {XP : (Str → Option Value) → Heap → Prop} {YP : World → Heap → Prop} {d : DefRec} {x : Str} (hn : l.most = some n) (hn2 : n ≤ sizeLine) (hdf : d.params.defaults = []) (hr : Room k callerA)
    (F : ∀ (w : World) (mg : Str → Option Value) (fa : Addr) (h : Heap), YP w h → h.Ns mainGlobals mg → mg d.name = some (.ref fa) → LawG l w k d.name x mg h) : PySem.W.WalkO q loose XP YP l.row.toRowW d [] (fun f vs => PySem.call f vs) := by
  refine Att.attach_callB hn hdf fun w s0 s1 mg mb fa o pm cd doc a vs ns gr yp _ _ _ hm hs hi hl _ hg => ?_
  obtain ⟨K, cs, sp, h1, h2, h3, h4, h6, h7⟩ := (F w mg fa _ yp gr.T.g hm).ex
  have G : Given w K mg mb a cs s1 vs ns := ⟨h1, gr.T.g, gr.T.b, gr.T.builtins, gr.T.nolimit, hg, h2, h3, h4, gr.T.bmain, hs, hi, Nat.le_trans hl hn2⟩
  exact G.call hr hm h7 (fun H hH hS => h6 H a ns hH hS) fun _ _ _ z => z
end FK
end
section
set_option Elab.async false
set_option linter.all false
set_option maxRecDepth 100000
/-! All defs keep their promises. -/
namespace FK
open PySem PySem.Spec PyProof.Rows L2 Lg Lr RZ FM
variable [tbs : Tbs]
theorem law_ok {P : Program} {w : World} {K : PySem.W.Frag} {mg : Str → Option Value} {base : Heap} {aC fI : Addr} {fdI : FuncData} (D : Dfs K mg) (M : Mgs mg) (C : Cb P K mg aC fI fdI) (L1 : LamD K mg base tbs.T "first_knowledge" 14) (L2 : LamD K mg base tbs.T "_law_is_log_right" 57) : OkG P w K mg base CX0 10 "law" ["_law_script"] (sp_law K) := by
  have o_law_bag := ok_law_bag (P := P) (w := w) (K := K) (mg := mg) (base := base) (sp := (sp_bag K)) D M (fun vs H Q E p => by obtain ⟨a, ns, rfl, _⟩ := p; rfl) c_bag
  have o_law_take := ok_law_take (P := P) (w := w) (K := K) (mg := mg) (base := base) (sp := sp_law_take) D M (fun vs H Q E p => len_B (fun _ => rfl) p) c_law_take
  have o_law_one := ok_law_one (P := P) (w := w) (K := K) (mg := mg) (base := base) (sp := sp_law_one) D M o_law_take (fun vs H Q E p => len_B (fun _ => rfl) p) c_law_one
  have o_law_house := ok_law_house (P := P) (w := w) (K := K) (mg := mg) (base := base) (sp := sp_law_house) D M o_law_take o_law_one (fun vs H Q E p => len_B (fun _ => rfl) p) c_law_house
  have o_law_mixed := ok_law_mixed (P := P) (w := w) (K := K) (mg := mg) (base := base) (sp := sp_law_mixed) D M o_law_take (fun vs H Q E p => len_B (fun _ => rfl) p) c_law_mixed
  have o_law_state := ok_law_state (P := P) (w := w) (K := K) (mg := mg) (base := base) (sp := sp_law_state) D M o_law_take o_law_mixed o_law_one (fun vs H Q E p => len_B (fun _ => rfl) p) c_law_state
  have o_law_start := ok_law_start (P := P) (w := w) (K := K) (mg := mg) (base := base) (sp := sp_law_start) D M o_law_state o_law_one (fun vs H Q E p => len_B (fun _ => rfl) p) c_law_start
  have o_law_flat := ok_law_flat (P := P) (w := w) (K := K) (mg := mg) (base := base) (sp := sp_law_flat) D M (fun vs H Q E p => len_P (fun _ => rfl) p) c_law_flat
  have o_law_full_state := ok_law_full_state (P := P) (w := w) (K := K) (mg := mg) (base := base) (sp := sp_law_full_state) D M o_law_flat o_law_mixed (fun vs H Q E p => len_B (fun _ => rfl) p) c_law_full_state
  have o_law_drawn_move := ok_law_drawn_move (P := P) (w := w) (K := K) (mg := mg) (base := base) (sp := sp_law_drawn_move) D M o_law_one (fun vs H Q E p => len_B (fun _ => rfl) p) c_law_drawn_move
  have o_law_done := ok_law_done (P := P) (w := w) (K := K) (mg := mg) (base := base) (sp := sp_law_done) D M (fun vs H Q E p => len_P (fun _ => rfl) p) c_law_done
  have o_law_run := ok_law_run (P := P) (w := w) (K := K) (mg := mg) (base := base) (sp := sp_law_run) D M o_law_one o_law_mixed o_law_take o_law_drawn_move o_law_done (fun vs H Q E p => len_B (fun _ => rfl) p) c_law_run
  have o_law_story := ok_law_story (P := P) (w := w) (K := K) (mg := mg) (base := base) (sp := sp_law_story) D M o_law_full_state o_law_run (fun vs H Q E p => len_B (fun _ => rfl) p) c_law_story
  have o_law_bent_log := ok_law_bent_log (P := P) (w := w) (K := K) (mg := mg) (base := base) (sp := sp_law_bent_log) D M o_law_one o_law_take (fun vs H Q E p => len_B (fun _ => rfl) p) c_law_bent_log
  have o_law_other_log := ok_law_other_log (P := P) (w := w) (K := K) (mg := mg) (base := base) (sp := sp_law_other_log) D M o_law_take o_law_bent_log o_law_one (fun vs H Q E p => len_B (fun _ => rfl) p) c_law_other_log
  have o_law_all_states := ok_law_all_states (P := P) (w := w) (K := K) (mg := mg) (base := base) (sp := sp_law_all_states) D M (fun vs H Q E p => len_P (fun _ => rfl) p) c_law_all_states
  have o_law_within := ok_law_within (P := P) (w := w) (K := K) (mg := mg) (base := base) (sp := sp_law_within) D M (fun vs H Q E p => len_P (fun _ => rfl) p) c_law_within
  have o_law_sizes := ok_law_sizes (P := P) (w := w) (K := K) (mg := mg) (base := base) (sp := sp_law_sizes) D M o_law_within (fun vs H Q E p => len_P (fun _ => rfl) p) c_law_sizes
  have o_law_rooms_within := ok_law_rooms_within (P := P) (w := w) (K := K) (mg := mg) (base := base) (sp := sp_law_rooms_within) D M (fun vs H Q E p => len_P (fun _ => rfl) p) c_law_rooms_within
  have o_law_first_states := ok_law_first_states (P := P) (w := w) (K := K) (mg := mg) (base := base) (sp := sp_law_first_states) D M o_law_all_states o_law_sizes o_law_rooms_within (fun vs H Q E p => len_P (fun _ => rfl) p) c_law_first_states
  have o_law_asks := ok_law_asks (P := P) (w := w) (K := K) (mg := mg) (base := base) (sp := sp_law_asks) D M (fun vs H Q E p => len_P (fun _ => rfl) p) c_law_asks
  have o_law_states_behind := ok_law_states_behind (P := P) (w := w) (K := K) (mg := mg) (base := base) (sp := sp_law_states_behind) D M o_law_asks o_law_done (fun vs H Q E p => len_P (fun _ => rfl) p) c_law_states_behind
  have o_law_states_of_log := ok_law_states_of_log (P := P) (w := w) (K := K) (mg := mg) (base := base) (sp := sp_law_states_of_log) D M o_law_first_states o_law_states_behind (fun vs H Q E p => len_P (fun _ => rfl) p) c_law_states_of_log
  have o_rooms_within := ok_rooms_within (P := P) (w := w) (K := K) (mg := mg) (base := base) (sp := sp_rooms_within) D M (fun vs H Q E p => len_P (fun _ => rfl) p) c_rooms_within
  have o_things_within := ok_things_within (P := P) (w := w) (K := K) (mg := mg) (base := base) (sp := sp_things_within) D M (fun vs H Q E p => len_P (fun _ => rfl) p) c_things_within
  have o_sizes_of := ok_sizes_of (P := P) (w := w) (K := K) (mg := mg) (base := base) (sp := sp_sizes_of) D M o_things_within (fun vs H Q E p => len_P (fun _ => rfl) p) c_sizes_of
  have o_first_knowledge := ok_first_knowledge (P := P) (w := w) (K := K) (mg := mg) (base := base) (sp := sp_first_knowledge) D M L1 o_rooms_within o_sizes_of (fun vs H Q E p => len_P (fun _ => rfl) p) c_first_knowledge
  have o_taken_out := ok_taken_out (P := P) (w := w) (K := K) (mg := mg) (base := base) (sp := sp_taken_out) D M (fun vs H Q E p => len_P (fun _ => rfl) p) c_taken_out
  have o_known_sizes := ok_known_sizes (P := P) (w := w) (K := K) (mg := mg) (base := base) (sp := sp_known_sizes) D M (fun vs H Q E p => len_P (fun _ => rfl) p) c_known_sizes
  have o_are_sizes := ok_are_sizes (P := P) (w := w) (K := K) (mg := mg) (base := base) (sp := sp_are_sizes) D M (fun vs H Q E p => len_P (fun _ => rfl) p) c_are_sizes
  have o_stepped := ok_stepped (P := P) (w := w) (K := K) (mg := mg) (base := base) (sp := sp_stepped) D M (fun vs H Q E p => len_P (fun _ => rfl) p) c_stepped
  have o_tightened := ok_tightened (P := P) (w := w) (K := K) (mg := mg) (base := base) (sp := sp_tightened) D M o_are_sizes o_stepped (fun vs H Q E p => len_P (fun _ => rfl) p) c_tightened
  have o_amid := ok_amid (P := P) (w := w) (K := K) (mg := mg) (base := base) (sp := sp_amid) D M o_taken_out o_known_sizes o_tightened (fun vs H Q E p => len_P (fun _ => rfl) p) c_amid
  have o_lost_one := ok_lost_one (P := P) (w := w) (K := K) (mg := mg) (base := base) (sp := sp_lost_one) D M (fun vs H Q E p => len_P (fun _ => rfl) p) c_lost_one
  have o_led := ok_led (P := P) (w := w) (K := K) (mg := mg) (base := base) (sp := (sp_led aC)) D M C o_amid o_rooms_within o_lost_one (fun vs H Q E p => len_E (fun _ => rfl) p) c_led
  have o_led_by := ok_led_by (P := P) (w := w) (K := K) (mg := mg) (base := base) (sp := (sp_led_by aC)) D M C o_led (fun vs H Q E p => len_E (fun _ => rfl) p) (c_led_by C.exm)
  have o_knowledge_behind := ok_knowledge_behind (P := P) (w := w) (K := K) (mg := mg) (base := base) (sp := (sp_knowledge_behind aC)) D M C o_first_knowledge o_led_by (fun vs H Q E p => len_E (fun _ => rfl) p) c_knowledge_behind
  have o_words_through := ok_words_through (P := P) (w := w) (K := K) (mg := mg) (base := base) (sp := sp_words_through) D M C o_first_knowledge o_led (fun vs H Q E p => len_P (fun _ => rfl) p) (c_words_through C.exm)
  have o_can_be := ok_can_be (P := P) (w := w) (K := K) (mg := mg) (base := base) (sp := sp_can_be) D M o_words_through (fun vs H Q E p => len_P (fun _ => rfl) p) c_can_be
  have o_law_alike := ok_law_alike (P := P) (w := w) (K := K) (mg := mg) (base := base) (sp := sp_law_alike) D M (fun vs H Q E p => len_P (fun _ => rfl) p) c_law_alike
  have o_law_words_by := ok_law_words_by (P := P) (w := w) (K := K) (mg := mg) (base := base) (sp := sp_law_words_by) D M (fun vs H Q E p => len_P (fun _ => rfl) p) c_law_words_by
  have o_floor_numbers := ok_floor_numbers (P := P) (w := w) (K := K) (mg := mg) (base := base) (sp := sp_floor_numbers) D M o_known_sizes (fun vs H Q E p => len_P (fun _ => rfl) p) c_floor_numbers
  have o_next_numbers := ok_next_numbers (P := P) (w := w) (K := K) (mg := mg) (base := base) (sp := sp_next_numbers) D M (fun vs H Q E p => len_P (fun _ => rfl) p) c_next_numbers
  have o_count_states := ok_count_states (P := P) (w := w) (K := K) (mg := mg) (base := base) (sp := sp_count_states) D M o_floor_numbers o_next_numbers (fun vs H Q E p => len_P (fun _ => rfl) p) c_count_states
  have o_by_things := ok_by_things (P := P) (w := w) (K := K) (mg := mg) (base := base) (sp := sp_by_things) D M (fun vs H Q E p => len_P (fun _ => rfl) p) c_by_things
  have o_states_of := ok_states_of (P := P) (w := w) (K := K) (mg := mg) (base := base) (sp := sp_states_of) D M o_count_states o_floor_numbers o_next_numbers o_by_things (fun vs H Q E p => len_N (fun _ => rfl) p) c_states_of
  have o_law_is_log_right := ok_law_is_log_right (P := P) (w := w) (K := K) (mg := mg) (base := base) (sp := sp_law_is_log_right) D M L2 C o_law_states_of_log o_knowledge_behind o_can_be o_law_alike o_law_words_by o_states_of (fun vs H Q E p => len_P (fun _ => rfl) p) (c_law_is_log_right (aC := aC))
  have o_law := ok_law (P := P) (w := w) (K := K) (mg := mg) (base := base) (sp := (sp_law K)) D M o_law_bag o_law_one o_law_house o_law_start o_law_story o_law_other_log o_law_is_log_right (fun vs H Q E p => by obtain ⟨a, ns, rfl, _⟩ := p; rfl) (c_law (aC := aC))
  exact o_law
end FK
end
section
set_option Elab.async false
set_option linter.all false
set_option maxRecDepth 100000
/-! What the walk takes of the module, by the head's facts. -/
namespace FK
open PySem PySem.Spec PyProof.Rows L2 Lg Lr RZ
section
variable {h : Heap} {K : PySem.W.Frag} {mg : Str → Option Value}
theorem dfE {x : Str} {i : Nat} (X : K.In h) (Gn : h.Ns mainGlobals mg) (c : SaysF h K) (k : Nat) (h1 : fn[k]? = some (dOf x i) := by rfl) (h2 : fa[k]? = some (.glo x) := by rfl) : DfE K mg x i := by
  obtain ⟨fd, F⟩ := He.SaysD.def_ c.d k h1
  exact ⟨_, fd, F, He.glo_ok X Gn (He.SaysD.fact c.d k h2)⟩
theorem dfs_of (X : K.In h) (Gn : h.Ns mainGlobals mg) (c : SaysF h K) : Dfs K mg where
  rooms_within := dfE X Gn c 0
  sizes_of := dfE X Gn c 1
  things_within := dfE X Gn c 2
  known_sizes := dfE X Gn c 3
  are_sizes := dfE X Gn c 4
  stepped := dfE X Gn c 5
  tightened := dfE X Gn c 6
  first_knowledge := dfE X Gn c 7
  taken_out := dfE X Gn c 8
  amid := dfE X Gn c 9
  lost_one := dfE X Gn c 10
  led := dfE X Gn c 11
  led_by := dfE X Gn c 12
  knowledge_behind := dfE X Gn c 13
  words_through := dfE X Gn c 14
  can_be := dfE X Gn c 15
  by_things := dfE X Gn c 16
  next_numbers := dfE X Gn c 17
  floor_numbers := dfE X Gn c 18
  count_states := dfE X Gn c 19
  states_of := dfE X Gn c 20
  law_bag := dfE X Gn c 21
  law_take := dfE X Gn c 22
  law_one := dfE X Gn c 23
  law_house := dfE X Gn c 24
  law_mixed := dfE X Gn c 25
  law_state := dfE X Gn c 26
  law_start := dfE X Gn c 27
  law_drawn_move := dfE X Gn c 28
  law_done := dfE X Gn c 29
  law_run := dfE X Gn c 30
  law_flat := dfE X Gn c 31
  law_full_state := dfE X Gn c 32
  law_story := dfE X Gn c 33
  law_bent_log := dfE X Gn c 34
  law_other_log := dfE X Gn c 35
  law_all_states := dfE X Gn c 36
  law_within := dfE X Gn c 37
  law_sizes := dfE X Gn c 38
  law_rooms_within := dfE X Gn c 39
  law_first_states := dfE X Gn c 40
  law_asks := dfE X Gn c 41
  law_states_behind := dfE X Gn c 42
  law_states_of_log := dfE X Gn c 43
  law_heard := dfE X Gn c 44
  law_alike := dfE X Gn c 45
  law_words_by := dfE X Gn c 46
  law_is_log_right := dfE X Gn c 47
  law := dfE X Gn c 48
theorem mgs_of (X : K.In h) (Gn : h.Ns mainGlobals mg) (c : SaysF h K) : Mgs mg where
  len := He.free_ok X Gn (He.SaysD.fact c.d 49 (f := .free "len") rfl)
  range := He.free_ok X Gn (He.SaysD.fact c.d 50 (f := .free "range") rfl)
  enumerate := He.free_ok X Gn (He.SaysD.fact c.d 51 (f := .free "enumerate") rfl)
  tuple := He.free_ok X Gn (He.SaysD.fact c.d 52 (f := .free "tuple") rfl)
  list := He.free_ok X Gn (He.SaysD.fact c.d 53 (f := .free "list") rfl)
  zip := He.free_ok X Gn (He.SaysD.fact c.d 54 (f := .free "zip") rfl)
  sorted := He.free_ok X Gn (He.SaysD.fact c.d 55 (f := .free "sorted") rfl)
  max := He.free_ok X Gn (He.SaysD.fact c.d 56 (f := .free "max") rfl)
  min := He.free_ok X Gn (He.SaysD.fact c.d 57 (f := .free "min") rfl)
  all := He.free_ok X Gn (He.SaysD.fact c.d 58 (f := .free "all") rfl)
  any := He.free_ok X Gn (He.SaysD.fact c.d 59 (f := .free "any") rfl)
  int := He.free_ok X Gn (He.SaysD.fact c.d 60 (f := .free "int") rfl)
  sum := He.free_ok X Gn (He.SaysD.fact c.d 61 (f := .free "sum") rfl)
  abs := He.free_ok X Gn (He.SaysD.fact c.d 62 (f := .free "abs") rfl)
  dict := He.free_ok X Gn (He.SaysD.fact c.d 63 (f := .free "dict") rfl)
  repr := He.free_ok X Gn (He.SaysD.fact c.d 64 (f := .free "repr") rfl)
  super := He.free_ok X Gn (He.SaysD.fact c.d 65 (f := .free "super") rfl)
  most := He.int_ok X Gn (He.SaysD.fact c.d 66 (f := .int "MOST_STATES" 3000) rfl)
/-! ### the class -/
theorem oexB_ok {C : Addr} (h : oexB K C = true) : ∃ nm q N bs bm sn sub ab col dd k0 k1 k2 k3 k5, K.lookup C = some (excClassObj nm q C N bs bm true sn sub ab col dd k0 k1 k2 k3 k5 "ValueError.__new__") ∧ PySem.HandSPX.refsVE bm = true := by
  unfold oexB at h
  split at h
  · rename_i dd cd sl ho
    split at h
    · rename_i D bm k0 k1 k2 k3 n k5 hm hs
      simp only [Bool.and_eq_true, decide_eq_true_eq, Bool.not_eq_true'] at h
      obtain ⟨rfl, rfl, hd, hh, hr⟩ := h
      obtain ⟨nm, bs, mro, ns, qn, hdc, sn, sub, ab, col, del⟩ := cd
      obtain ⟨sl⟩ := sl
      simp only at hm hs hd hh
      subst hm hs hd hh
      exact ⟨nm, qn, ns, bs, bm, sn, sub, ab, col, dd, k0, k1, k2, k3, k5, ho, hr⟩
    · cases h
  · cases h
structure ExF (K : PySem.W.Frag) : Prop where
  oex : oexB K (C0 K) = true
  ini : iniB K (C0 K) (I0 K) = true
  sa : PySem.W.findIn K (.ref (C0 K)) "__setattr__" = some (some (.builtin "object.__setattr__"))
  be : PySem.W.subIn K (.ref (C0 K)) (.type "BaseException") = some true
  ty : PySem.W.typeIn K (.ref (C0 K)) = some (.type "type")
  kp : PySem.W.keepIn K (.ref (C0 K)) = true
  mro : PySem.W.mroIn K (C0 K) (.ref (C0 K)) = some true
  any : PySem.W.nsIn K cStatics "thirdparty.any" = some none
  up : PySem.W.ks_superIn K (C0 K) (C0 K) "__init__" = some (some (.builtin "ValueError.__init__"))
  sub : PySem.W.subIn K (.ref (C0 K)) (.type "ValueError") = some true
  no : PySem.W.findIn K (.ref (C0 K)) "index" = some none
  iC : PySem.W.findIn K (.ref (C0 K)) "__init__" = some (some (.ref (I0 K)))
  tI : PySem.W.typeIn K (.ref (I0 K)) = some (.type "function")
  xf : xfB K (C0 K) = true
theorem exB_ok (h : exB K = true) : ExF K := by
  unfold exB at h
  simp only [Bool.and_eq_true, decide_eq_true_eq] at h
  obtain ⟨h1, h2, h3, h4, h5, h6, h7, h8, h9, h10, h11, h12, h13, h14⟩ := h
  exact ⟨h1, h2, h3, h4, h5, h6, h7, h8, h9, h10, h11, h12, h13, h14⟩
abbrev Pr : Program := (PySem.Challenge.rw_floorkeepers_k14_whole_all_keepers).prog
theorem cb_of (X : K.In h) (Gn : h.Ns mainGlobals mg) (c : SaysF h K) : ∃ fd, Cb Pr K mg (C0 K) (I0 K) fd := by
  have e := exB_ok c.ex
  have hini := c.ini
  have hb := e.ini
  unfold iniW iniE at hini
  unfold iniB at hb
  cases hq : K.lookup (I0 K) with
  | none => rw [hq] at hb; cases hb
  | some o =>
  obtain ⟨oc, od, dt, osl⟩ := o
  rw [hq] at hb hini
  cases dt with
  | func fd =>
    obtain ⟨n1, n2, n3, n4, n5, n6, n7, n8, n9, n10, n11, n12, n13, n14, n15⟩ := fd
    simp only [Option.some.injEq, Prod.mk.injEq] at hini
    obtain ⟨q1, q2, q3, q4, q5, q6, q7, q8⟩ := hini
    subst q1 q2 q3 q4 q5 q6 q8
    simp only [Bool.and_eq_true] at hb
    obtain ⟨b1, b2, b3, b4, b5⟩ := hb
    obtain ⟨cda, rfl⟩ := He.codeIn_ref b3
    dsimp only at b4
    cases hc : K.lookup cda with
    | none => rw [hc] at b4; cases b4
    | some ob =>
    obtain ⟨ccl, cdd, cdt, ccs⟩ := ob
    rw [hc] at b4
    cases cdt with
    | fields vs =>
      dsimp only at b4
      cases hv : (vs[2]? : Option Value) with
      | none => rw [hv] at b4; cases b4
      | some v2 =>
      rw [hv] at b4
      cases v2 with
      | str f tfk =>
        have hf : f = PySem.Challenge.pw_floorkeepers_k14_whole_all_keepers.main.file := of_decide_eq_true b4
        subst hf
        match n7, q7, b5 with
        | [(x, cc)], q7, b5 =>
          obtain rfl : x = "__class__" := by simpa using q7
          dsimp only at b5
          cases hcc : K.lookup cc with
          | none => rw [hcc] at b5; cases b5
          | some oc2 =>
          obtain ⟨cl, cld, cdt2, csl⟩ := oc2
          rw [hcc] at b5
          cases cdt2 with
          | cell cv =>
            match cv, hcc, b5 with
            | some (.ref D), hcc, b5 =>
              have hD : D = C0 K := of_decide_eq_true b5
              subst hD
              have d0 := He.dflB_ok b1
              have oex : OexC K (C0 K) := ⟨oexB_ok e.oex, e.sa, e.be, e.ty, e.kp⟩
              refine ⟨_, ⟨oex, ⟨_, _, _, _, oc, od, n8, n9, n10, n11, n14, n12, cda, cc, osl, vs, _, tfk, ccl, cl, cdd, cld, ccs, csl, ⟨6, 17, 6, 21⟩, ⟨7, 8, 7, 13⟩, ⟨7, 8, 7, 15⟩, ⟨7, 8, 7, 24⟩, ⟨7, 25, 7, 30⟩, ⟨7, 8, 7, 31⟩, ⟨7, 8, 7, 31⟩, ⟨8, 8, 8, 12⟩, ⟨8, 21, 8, 26⟩, ⟨8, 8, 8, 18⟩, ⟨8, 21, 8, 26⟩, ⟨8, 8, 8, 26⟩, none, none, rfl, hq, b3, hc, hv, ?file, hcc, ?body, ?head, ?ns, ?sup, ?ev⟩, e.mro, e.any, e.up, e.sub, ?msup, ?top, e.no, ?nd⟩, ?bd, e.iC, e.tI, ?gC, ?exm, xfB_ok e.xf, e.no⟩
              case file => exact beq_self_eq_true _
              case body => rfl
              case head => rfl
              case ns => exact NdefX.nscope_by (by decide +kernel)
              case sup => decide +kernel
              case ev => exact fun env => ⟨_, rfl⟩
              case msup => exact (mgs_of X Gn c).super
              case top => decide +kernel
              case nd => exact ⟨by decide +kernel, by decide +kernel⟩
              case bd =>
                rcases d0 with ⟨_, rfl⟩ | ⟨z, _⟩
                · exact Binds.all fun us hl => match us, hl with | [_, _], _ => rfl
                · exact absurd rfl z
              case gC => exact He.glo_ok X Gn (He.SaysD.fact c.d 67 (f := .glo "CannotBe") rfl)
              case exm => exact He.exm_ok (x := "CannotBe") (y := "CannotBe") (b := true) (He.SaysD.fact c.d 68 (f := .exm "CannotBe" "CannotBe" true) rfl)
          | _ => cases b5
      | _ => cases b4
    | _ => cases b4
  | _ => cases hb
/-! ### the tables -/
def tabsT (K : PySem.W.Frag) : List (Addr × Str) := [((He.cT K ("first_knowledge", none)).2, ("first_knowledge" : Str) ++ ".<locals>." ++ "<lambda>"), ((He.cT K ("_law_is_log_right", none)).2, ("_law_is_log_right" : Str) ++ ".<locals>." ++ "<lambda>")]
theorem lamD_of {base : Heap} {x : Str} {i : Nat} (X : K.In h) (Gn : h.Ns mainGlobals mg) (c : SaysF h K) (k : Nat) (tb : LamX.TabB base mg (He.cT K (x, none)).1 (He.cT K (x, none)).2) (hm : ((He.cT K (x, none)).2, x ++ ".<locals>." ++ "<lambda>") ∈ tabsT K) (hu : ∀ p ∈ tabsT K, p.1 = (He.cT K (x, none)).2 → p.2 = x ++ ".<locals>." ++ "<lambda>") (h1 : fn[k]? = some (dOf x i) := by rfl) (h2 : fa[k]? = some (.glo x) := by rfl) : LamD K mg base (tabsT K) x i := by
  obtain ⟨fd, F⟩ := He.SaysD.def_ c.d k h1
  have hg := He.glo_ok X Gn (He.SaysD.fact c.d k h2)
  obtain ⟨⟨oc, od, dV, kV, doc, pm, an, cdv, ct, osl, hfd, lk, hcd, hD, hK⟩, kp⟩ := F
  obtain ⟨cc, rfl⟩ := He.codeIn_ref hcd
  subst hfd
  have hco : He.codeOf K (x, none) = cc := He.codeOf_eq lk rfl
  have tb' : LamX.TabB base mg cc (He.cT K (x, none)).2 := by
    have : (He.cT K (x, none)).1 = cc := hco
    rw [← this]; exact tb
  exact ⟨_, cc, _, _, ⟨⟨oc, od, dV, kV, doc, pm, an, ct, osl, rfl, lk, hcd, hD, hK⟩, kp⟩, hg, tb', hm, hu⟩
end
/-! ### the law -/
theorem lawG (w : World) (mg : Str → Option Value) (h : Heap) (Y : hkF.says w h) (Gn : h.Ns mainGlobals mg) : LawG PySem.Challenge.rw_floorkeepers_k14_whole_all_keepers w 10 "law" "_law_script" mg h := by
  obtain ⟨K, X, c⟩ := Y
  letI tbs : Tbs := ⟨tabsT K⟩
  have D := dfs_of X Gn c
  have M := mgs_of X Gn c
  obtain ⟨fdI, C⟩ := cb_of X Gn c
  have mem1 : He.cT K ("first_knowledge", none) ∈ [He.cT K ("first_knowledge", none), He.cT K ("_law_is_log_right", none)] := by simp
  have mem2 : He.cT K ("_law_is_log_right", none) ∈ [He.cT K ("first_knowledge", none), He.cT K ("_law_is_log_right", none)] := by simp
  have key : ∀ p ∈ [He.cT K ("first_knowledge", none), He.cT K ("_law_is_log_right", none)], ∃ q ∈ tf, p = He.cT K q := fun p hp => by
    simp only [List.mem_cons, List.not_mem_nil, or_false] at hp
    rcases hp with rfl | rfl
    · exact ⟨_, by simp [tf], rfl⟩
    · exact ⟨_, by simp [tf], rfl⟩
  have hu1 : ∀ p ∈ tabsT K, p.1 = (He.cT K ("first_knowledge", none)).2 → p.2 = ("first_knowledge" : Str) ++ ".<locals>." ++ "<lambda>" := fun p hp e => by
    simp only [tabsT, List.mem_cons, List.not_mem_nil, or_false] at hp
    rcases hp with rfl | rfl
    · rfl
    · exact absurd e.symm c.ne
  have hu2 : ∀ p ∈ tabsT K, p.1 = (He.cT K ("_law_is_log_right", none)).2 → p.2 = ("_law_is_log_right" : Str) ++ ".<locals>." ++ "<lambda>" := fun p hp e => by
    simp only [tabsT, List.mem_cons, List.not_mem_nil, or_false] at hp
    rcases hp with rfl | rfl
    · exact absurd e c.ne
    · rfl
  refine ⟨K, [He.cT K ("first_knowledge", none), He.cT K ("_law_is_log_right", none)], sp_law K, X, fun p hp => ?_, fun p hp => ?_, fun p hp => ?_, fun H a ns hT hS => ⟨a, ns, rfl, hS, fun p hp => ?_, fun _ => rfl⟩, fun base kB gB tB => law_ok D M C (lamD_of X Gn c 7 (tB _ mem1) (by simp [tabsT]) hu1) (lamD_of X Gn c 47 (tB _ mem2) (by simp [tabsT]) hu2)⟩
  · obtain ⟨q, hq, rfl⟩ := key p hp
    exact c.empty q hq
  · obtain ⟨q, hq, rfl⟩ := key p hp
    exact c.out q hq
  · obtain ⟨q, hq, rfl⟩ := key p hp
    exact PySem.W.codeHd_of_K X (c.hd q hq)
  · have hp' : p ∈ tabsT K := hp
    simp only [tabsT, List.mem_cons, List.not_mem_nil, or_false] at hp'
    rcases hp' with rfl | rfl
    · exact LamX.TabS.nil (hT _ mem1)
    · exact LamX.TabS.nil (hT _ mem2)
end FK
end
set_option Elab.async false
set_option linter.all false
set_option maxRecDepth 100000
set_option maxHeartbeats 0
open PySem PySem.W PySem.Calls PyProof.Rows
theorem PySem.Challenge.cw_floorkeepers_k14_whole_all_keepers_holds : PySem.Challenge.rw_floorkeepers_k14_whole_all_keepers.Holds := by
  w_on; o_law
  refine HandSHeadRun.head_any (r := OpenLaw.row PySem.Challenge.rw_floorkeepers_k14_whole_all_keepers) (q := view (OpenLaw.row PySem.Challenge.rw_floorkeepers_k14_whole_all_keepers).prog [58]) (H := FK.hkF) (ob := FK.ob) (M := 4000) (loose := FK.loose) (d := HandSHeadRun.topDef (OpenLaw.row PySem.Challenge.rw_floorkeepers_k14_whole_all_keepers).prog 58) (kwd := []) FK.ob_eq
    (by kernel_rfl) (fun s => by kernel_rfl) FK.run (by kernel_rfl) (by kernel_rfl) (by kernel_rfl) (by rfl) (by first | assumption | decide +kernel) (by decide +kernel) ⟨rfl, rfl, rfl, rfl, rfl, by decide +kernel⟩ ?hw ?hc
  case hw => w_witness2
  case hc =>
    refine FK.walkG (l := PySem.Challenge.rw_floorkeepers_k14_whole_all_keepers) (n := 63) (k := 10) (x := "_law_script") rfl (by decide) (by kernel_rfl) ⟨rfl, by decide, by decide⟩ ?F
    intro w mg fa h Y G hmg0
    have e : (HandSHeadRun.topDef (OpenLaw.row PySem.Challenge.rw_floorkeepers_k14_whole_all_keepers).prog 58).name = ("law" : PySem.Str) := by kernel_rfl
    rw [e]
    exact FK.lawG w mg h Y G
